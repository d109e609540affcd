import PyProof.Rows.All
import Wide.All
import OpenK.AllK
import Wide.FinOn
import Lean
import PySem.Challenge.RW_qd0154_02
set_option Elab.async false
set_option genSizeOf false
set_option genInjectivity false
set_option maxRecDepth 100000
set_option maxHeartbeats 0
set_option linter.all false
set_option tactic.hygienic false
set_option compiler.extract_closed false
set_option bootstrap.genMatcherCode false
local macro_rules |`(tactic|walk_at "om")=>`(tactic|first|with_reducible first|assumption|exact rfl|exact Nat.le_refl _|exact Nat.le_add_right _ _|exact Nat.le_add_left _ _|exact Nat.succ_pos _|exact Nat.zero_le _|exact Nat.sub_le _ _|exact Nat.le_of_lt (by assumption)|exact Nat.le_succ_of_le (by assumption)|exact Nat.lt_of_le_of_lt (by assumption) (by assumption)|exact Nat.lt_of_lt_of_le (by assumption) (by assumption)|exact Nat.le_trans (by assumption) (by assumption)|exact Nat.add_right_comm _ _ _|exact Nat.le_of_not_lt (by assumption)|exact Nat.pos_of_ne_zero (by assumption)|exact Nat.lt_add_of_pos_right (Nat.succ_pos _)|exact Nat.min_le_left _ _|exact Nat.min_le_right _ _|exact Nat.lt_of_lt_of_le (by assumption) (Nat.le_of_ble_eq_true rfl)|exact Nat.lt_of_le_of_lt (by assumption) (Nat.le_of_ble_eq_true rfl)|exact Nat.le_trans (Nat.le_of_lt (by assumption)) (Nat.le_of_ble_eq_true rfl)|omega)
noncomputable section
section
open PySem PySem.W PyProof.Rows
namespace Mine
abbrev b5:OpenLaw:=PySem.Challenge.rw_qd0154_02
abbrev pw:Program:=PySem.Challenge.pw_qd0154_02
noncomputable def gU:List Stmt:=behindTheImports pw
noncomputable def uC:Env:={scope:=pw.main.scope,locals:=mainNs,globals:=mainNs,cells:=[],code:=.ref 13,frame:=some 14}
noncomputable def lT:Code:=.body gU uC
noncomputable abbrev pZ:Pos:=⟨0,0,0,0⟩
noncomputable abbrev fZ:List Frame:=[topFrame pZ]
noncomputable def T0(P:Params):BT:=
 let RB:Obj:=⟨.type "tuple",none,.seq #[],#[]⟩
 let MD:Obj:=⟨.none,none,.fields #[],#[]⟩
 let RC:Obj:=⟨.type "code",none,.fields #[.str "<module>" 182,.str "<module>" 183,.str "/claim/cut.py" 184,.int 1 0,.int 0 0,.int 0 0,.int 0 0,.int 0 0,.ref 11,.bool false,
    .int 181 0,.ref 12,.none,.none,.none,.none,.int 185 0,.int 1 0,.str "/claim/cut.py" 186],#[]⟩
 let RD:Obj:=⟨.type "frame",none,.plain,#[some (.ref 13),some (.ref 3),some (.ref 3),none,some (.str "__main__" 164),none,some (.ref 0)]⟩
 let n (o:Obj):BT:=.node o .nil .nil
 .node (boot_o_0 P) (.node (boot_o_1 P) (.node (boot_o_3 P) (n (boot_o_7 P)) (n RB)) (.node (boot_o_5 P) (n (boot_o_9 P)) (n RC)))
  (.node (boot_o_2 P) (.node (boot_o_4 P) (n (boot_o_8 P)) (n MD)) (.node (boot_o_6 P) (n (boot_o_10 P)) (n RD)))
noncomputable def S0(w:World)(os:OsState):SharedT:=⟨T0 w.params,15,{},#[],{},187,os⟩
noncomputable def Dp(w:World)(os:OsState):Shared:=⟨boot_heap w.params,#[],boot_drawn,boot_toks,os⟩
noncomputable abbrev PW:Thread:=⟨denote treeTable lT,lT,pZ,fZ⟩
theorem ME(w:World)(os:OsState):topGo treeTable pw w 11 (some (.ref 6)) 12 (Dp w os) (topStub pw)=some ((S0 w os).abs,PW):=by
 delta PW;rw[PySem.W.Fast.te15667345088766844465,PySem.W.Fast.te11892475500146522536,PySem.W.Fast.te14364793385576792824];kernel_rfl
theorem EN(w:World)(os:OsState):segRun treeTable pw w 11 (some (.ref 6)) 1 1 (S0 w os).abs (blockOf gU uC lT pZ fZ)=some (.next,(S0 w os).abs,lT,pZ):=by
 rw[PySem.W.Fast.te14374325043358763698,PySem.W.Fast.te14364793385576792824];kernel_rfl
theorem open_0:opening pw=plainProg pw.main.scope.names:=by kernel_rfl
theorem AR(s:Shared):fenceModules? pw s=some s:=by kernel_rfl
theorem size_0(w:World):((boot_heap w.params).isNs mainGlobals&&(#[]:Array GenState).size==0,(boot_heap w.params).objs.size,(boot_heap w.params).nsMap mainGlobals "__annotations__")=(true,11,some (.ref 6)):=by
 kernel_rfl
noncomputable def Io(w:World)(os:OsState):=segRunT treeTable pw w 11 (some (.ref 6)) 1 7000 (S0 w os) (piecesOf gU uC lT pZ fZ)
noncomputable def Ip(w:World)(os:OsState):=PySem.W.Fast.tw10110043849684766642 PySem.W.Fast.tw14364793385576792824 pw w 11 (some (.ref 6)) 1 7000 (S0 w os) (piecesOf gU uC lT pZ fZ)
theorem LX:Io=Ip:=by
 unfold Io Ip;rw[PySem.W.Fast.te10110043849684766642,PySem.W.Fast.te14364793385576792824]
theorem Iq{a b:Bool}(x:a=true)(y:b=true):(a&&b)=true:=by rw[x,y];rfl
noncomputable abbrev H2:Program:=(PySem.W.Fast.tw2368527892694137696 b5).prog
theorem EO:PySem.W.Fast.tw8377067652309620493 H2=true:=by kernel_rfl
theorem EP:PySem.W.Fast.tw8326940854005059898 {strict:=!PySem.W.R.allR (PySem.W.Fast.tw5923862056798008813 H2.main.body) (PySem.W.Fast.tw3471404346716756564 PySem.W.Fast.tw17691160309236699985),foot:=none,bare:=PySem.W.R.filterR (PySem.W.Fast.tw13343964577679436407 H2 H2.main.body) [{cps:={toList:=[118,97,114,115]}},{cps:={toList:=[100,105,114]}},{cps:={toList:=[108,111,99,97,108,115]}}]} H2.main.body=true:=by kernel_rfl
theorem uD:PySem.W.Fast.tw12908688711261696721 H2=true:=by
 unfold PySem.W.Fast.tw12908688711261696721;rw[EO];refine Iq (Iq ?_ EP) ?_
 ·kernel_rfl
 ·kernel_rfl
theorem wj:PySem.W.Fast.tw17960256430627541270 (PySem.W.Fast.tw2368527892694137696 b5)=true:=by
 unfold PySem.W.Fast.tw17960256430627541270 PySem.W.Fast.tw2436336058641802641;rw[uD];kernel_rfl
theorem Ir:b5.wellSaid=true:=by
 rw[PySem.W.Fast.te9446332074065402090];unfold PySem.W.Fast.tw9446332074065402090;rw[wj];kernel_rfl
theorem AS:(b5.row).prog.tablesWhole=true:=by
 unfold Program.tablesWhole TablesWhole.wProgram;rw[PySem.W.Fast.te6116379765354995101];kernel_rfl
theorem It:(b5.row).prog.bare:=⟨rfl,rfl,rfl,rfl,rfl,AS⟩
noncomputable def qV:Program:={pw with main:={pw.main with body:=gU.drop 135}}
noncomputable def eP:List Str:=pw.boundNames.filter (λn=>n !=("law":Str))
noncomputable def mT(w:World)(x:Shared):=
 ((staticsOk (importedModules pw.main.body) (boot_heap w.params) x.heap&&namesBound pw x.heap&&gensDone x&&laidKept (boot_heap w.params) x.heap),
  openSeen qV eP (importedModules pw.main.body) (λ_=>true) true x)
noncomputable def qB(w:World)(x:Shared):=
 ((staticsOk (PySem.W.Fast.tw5923862056798008813 pw.main.body) (boot_heap w.params) x.heap&&namesBound pw x.heap&&gensDone x&&laidKept (boot_heap w.params) x.heap),
  PySem.W.Fast.tw4187177175401517315 qV eP (PySem.W.Fast.tw5923862056798008813 pw.main.body) (λ_=>true) true x)
noncomputable def zS(s:String)(t:Nat):Value:=.str (.ofString s) t
noncomputable def zI(i:Nat)(t:Nat):Value:=.int (.ofNat i) t
noncomputable def zT(l:List Value):Obj:=⟨.type "tuple",none,.seq ⟨l⟩ 0,#[]⟩
noncomputable def zF(c:Value)(l:List Value):Obj:=⟨c,none,.fields ⟨l⟩,#[]⟩
noncomputable def wk:List (Nat×Nat×Nat)->List Value
 |[]=>[]
 |(a,b,c)::r=>zI a 0::zI b 0::.ref c::wk r
noncomputable def zN(l:List (Nat×Nat×Nat)):Obj:=⟨.none,none,.fields ⟨wk l⟩,#[]⟩
noncomputable def zC(n:String)(t line a b t2:Nat):Obj:=⟨.type "code",none,.fields #[zS n t,zS n (t+1),zS "/claim/cut.py" (t+2),zI line 0,zI 0 0,zI 0 0,zI 0 0,zI 0 0,.ref a,.bool false,zI 181 0,.ref b,.none,.none,.none,.none,zI t2 0,zI line 0,zS "/claim/cut.py" (t2+1)],#[]⟩
noncomputable def zD(P:Params)(c:Value)(l:List (String×Nat×Value))(e:Nat):Obj:=⟨c,none,.dict ⟨l.map λx=>⟨PyData.keyHash P (.ofString x.1),zS x.1 x.2.1,x.2.2⟩⟩ e,#[]⟩
noncomputable def qC(a b:Nat)(m:Value):Obj:=⟨.type "frame",none,.plain,#[some (.ref a),some (.ref 3),some (.ref b),none,some m,none,some (.ref 0)]⟩
def aF(i:Nat):Option Stmt:=gU[i]?
def hU(i k:Nat):Option Stmt:=match aF i with
 |some (.ClassDef _ _ _ body _ _ _ _ _ _ _)=>body[k]?
 |_=>none
noncomputable def LY(st:Option Stmt)(qual:String)(glob:Nat)(Iu mod code:Value):FuncData:=match st with
 |some (.FunctionDef m ps body _ _ _ sc _ _ _)=>{name:=m,qualname:=.ofString qual,params:=ps,body:=.stmts body,scope:=sc,globals:=glob,closure:=[],defaults:=Iu,kwdefaults:=.none,doc:=.none,pyModule:=mod,annotations:=none,code:=code,closureTuple:=.none,builtins:=0}
 |_=>default
noncomputable def Dq:List String->Nat->List Value
 |[],_=>[]
 |s::r,t=>zS s t::Dq r (t+1)
noncomputable def aD(a t line ER:Nat)(st:Option Stmt)(qual:String)(vars:List String)(Iu mod:Value):List Obj:=
 let f:=LY st qual 0 .none .none .none
 let k:=vars.length
 [zT [],zN [],zT (Dq vars (t+3)),zT [],⟨.none,none,.func f,#[]⟩,
  ⟨.type "code",none,.fields #[.str f.name t,zS qual (t+1),zS "/claim/cut.py" (t+2),zI line 0,zI ER 0,zI 0 0,zI 0 0,zI 3 0,.ref a,.bool true,zI 181 0,.ref (a+1),.none,.ref (a+2),.ref (a+3),.ref (a+4),zI (t+3+k) 0,zI line 0,zS "/claim/cut.py" (t+4+k)],#[]⟩,
  ⟨.type "function",none,.func (LY st qual 3 Iu mod (.ref (a+5))),#[]⟩]
noncomputable def gV(a t line ER:Nat)(st:Option Stmt)(qual:String)(Iu mod:Value):List Obj:=
 let f:=LY st qual 0 .none .none .none
 [zT [],zN [],⟨.none,none,.func f,#[]⟩,
  ⟨.type "code",none,.fields #[.str f.name t,zS qual (t+1),zS "/claim/cut.py" (t+2),zI line 0,zI ER 0,zI 0 0,zI 0 0,zI 3 0,.ref a,.bool true,zI 181 0,.ref (a+1),.none,.none,.none,.ref (a+2),zI (t+3) 0,zI line 0,zS "/claim/cut.py" (t+4)],#[]⟩,
  ⟨.type "function",none,.func (LY st qual 3 Iu mod (.ref (a+3))),#[]⟩]
noncomputable def wm:List Obj->List Obj
 |[]=>[]
 |[a]=>[a]
 |a::_::r=>a::wm r
noncomputable def wo:Nat->List Obj->BT
 |0,_=>.nil
 |_+1,[]=>.nil
 |n+1,a::r=>.node a (wo n (wm r)) (wo n (wm r.tail))
def qD(P:Params):List Obj:=
 [boot_o_0 P,boot_o_1 P,zD P .none [("type.__subclasses__.Exception.0",480,(zI 213 0)),("type.__subclasses__.Exception.n",481,(zI 1 0))] 2]
def mU(P:Params):List Obj:=
 [boot_o_4 P,boot_o_5 P,boot_o_6 P,boot_o_7 P,boot_o_8 P,boot_o_9 P,boot_o_10 P,zT []]
def js(P:Params):List Obj:=
 [zC "<module>" 182 1 11 12 185,qC 13 3 (zS "__main__" 164)]++
 (aD 15 193 4 2 (aF 3) "wrap_number" ["n","width"] .none (zS "perlcore.numbers" 187)++
 (aD 22 201 9 1 (aF 4) "number_head" ["text","at","end","first"] .none (zS "perlcore.numbers" 187)++
 (aD 29 211 22 2 (aF 5) "numeric_text" ["text","width","at","end","n","sign"] .none (zS "perlcore.numbers" 187)++
 (aD 36 223 31 1 (aF 6) "number_text" ["n","text"] .none (zS "perlcore.numbers" 187)++
 ([zT [],zF (.type "builtin_function_or_method") [(.builtin "type.__prepare__"),(.type "type")],zD P (.type "dict") [("__module__",242,(zS "perlcore.values" 231)),("__qualname__",244,(zS "Thing" 243)),("__firstlineno__",246,(zI 41 245)),("__init__",254,(.ref 56)),("__static_attributes__",261,(.ref 57))] 5,zT [],zN [(43,4,55)],zC "Thing" 237 41 46 47 240,qC 48 45 (zS "perlcore.values" 231)]++
 (aD 50 247 43 2 (hU 9 0) "Thing.__init__" ["self","number"] .none (zS "perlcore.values" 231)++
 ([zT [(zS "blessed" 255),(zS "count" 256),(zS "is_destroyed" 257),(zS "is_freed" 258),(zS "number" 259),(zS "weak" 260)],zD P (.type "dict") [("__module__",242,(zS "perlcore.values" 231)),("__firstlineno__",246,(zI 41 245)),("__init__",254,(.ref 56)),("__static_attributes__",261,(.ref 57)),("__dict__",263,(.ref 60)),("__weakref__",265,(.ref 61)),("__doc__",266,.none)] 4,⟨(.type "type"),none,.cls {name:=.ofString "Thing",bases:=[(.type "object")],mro:=[(.ref 59),(.type "object")],ns:=58,qualname:=.ofString "Thing",hasDict:=true,slotNames:=[],subclasses:=[(.ref 80),(.ref 99),(.ref 118),(.ref 137)],abstract:=false,collection:=none,hasDel:=false},#[none,none,(some (zS "Thing" 235)),(some (zS "Thing" 243)),(some (.builtin "object.__new__")),(some (.bool true))]⟩,zF (.type "getset_descriptor") [(zS "__dict__" 262),(.ref 59),(.builtin "function.__dict__"),(.builtin "function.__dict__#set")],zF (.type "getset_descriptor") [(zS "__weakref__" 264),(.ref 59),(.builtin "ExceptionGroup.__weakref__"),.none],zF (.type "super") [(.ref 59),(.ref 59),(.ref 59)],zF (.type "builtin_function_or_method") [(.builtin "object.__init_subclass__"),(.ref 59)],zT [(.ref 59)],zF (.type "builtin_function_or_method") [(.builtin "type.__prepare__"),(.type "type")],zD P (.type "dict") [("__module__",276,(zS "perlcore.values" 231)),("__qualname__",278,(zS "Array" 277)),("__firstlineno__",280,(zI 50 279)),("__init__",288,(.ref 77)),("__static_attributes__",291,(.ref 78))] 5,zT [],zN [(52,4,76)],zC "Array" 271 50 67 68 274,qC 69 66 (zS "perlcore.values" 231)]++
 (aD 71 281 52 2 (hU 10 0) "Array.__init__" ["self","number"] .none (zS "perlcore.values" 231)++
 ([zT [(zS "items" 289),(zS "tied" 290)],zD P (.type "dict") [("__module__",276,(zS "perlcore.values" 231)),("__firstlineno__",280,(zI 50 279)),("__init__",288,(.ref 77)),("__static_attributes__",291,(.ref 78)),("__doc__",292,.none)] 2,⟨(.type "type"),none,.cls {name:=.ofString "Array",bases:=[(.ref 59)],mro:=[(.ref 80),(.ref 59),(.type "object")],ns:=79,qualname:=.ofString "Array",hasDict:=true,slotNames:=[],subclasses:=[],abstract:=false,collection:=none,hasDel:=false},#[(some (.ref 64)),none,(some (zS "Array" 269)),(some (zS "Array" 277)),(some (.builtin "object.__new__")),(some (.bool true))]⟩,zF (.type "super") [(.ref 80),(.ref 80),(.ref 80)],zF (.type "builtin_function_or_method") [(.builtin "object.__init_subclass__"),(.ref 80)],zT [(.ref 59)],zF (.type "builtin_function_or_method") [(.builtin "type.__prepare__"),(.type "type")],zD P (.type "dict") [("__module__",302,(zS "perlcore.values" 231)),("__qualname__",304,(zS "Hash" 303)),("__firstlineno__",306,(zI 56 305)),("__init__",314,(.ref 96)),("__static_attributes__",318,(.ref 97))] 5,zT [],zN [(58,4,95)],zC "Hash" 297 56 86 87 300,qC 88 85 (zS "perlcore.values" 231)]++
 (aD 90 307 58 2 (hU 11 0) "Hash.__init__" ["self","number"] .none (zS "perlcore.values" 231)++
 ([zT [(zS "at" 315),(zS "table" 316),(zS "tied" 317)],zD P (.type "dict") [("__module__",302,(zS "perlcore.values" 231)),("__firstlineno__",306,(zI 56 305)),("__init__",314,(.ref 96)),("__static_attributes__",318,(.ref 97)),("__doc__",319,.none)] 2,⟨(.type "type"),none,.cls {name:=.ofString "Hash",bases:=[(.ref 59)],mro:=[(.ref 99),(.ref 59),(.type "object")],ns:=98,qualname:=.ofString "Hash",hasDict:=true,slotNames:=[],subclasses:=[],abstract:=false,collection:=none,hasDel:=false},#[(some (.ref 83)),none,(some (zS "Hash" 295)),(some (zS "Hash" 303)),(some (.builtin "object.__new__")),(some (.bool true))]⟩,zF (.type "super") [(.ref 99),(.ref 99),(.ref 99)],zF (.type "builtin_function_or_method") [(.builtin "object.__init_subclass__"),(.ref 99)],zT [(.ref 59)],zF (.type "builtin_function_or_method") [(.builtin "type.__prepare__"),(.type "type")],zD P (.type "dict") [("__module__",329,(zS "perlcore.values" 231)),("__qualname__",331,(zS "Code" 330)),("__firstlineno__",333,(zI 63 332)),("__init__",343,(.ref 115)),("__static_attributes__",348,(.ref 116))] 5,zT [],zN [(65,4,114)],zC "Code" 324 63 105 106 327,qC 107 104 (zS "perlcore.values" 231)]++
 (aD 109 334 65 4 (hU 12 0) "Code.__init__" ["self","number","sub","captures"] .none (zS "perlcore.values" 231)++
 ([zT [(zS "builtin" 344),(zS "captures" 345),(zS "package" 346),(zS "sub" 347)],zD P (.type "dict") [("__module__",329,(zS "perlcore.values" 231)),("__firstlineno__",333,(zI 63 332)),("__init__",343,(.ref 115)),("__static_attributes__",348,(.ref 116)),("__doc__",349,.none)] 2,⟨(.type "type"),none,.cls {name:=.ofString "Code",bases:=[(.ref 59)],mro:=[(.ref 118),(.ref 59),(.type "object")],ns:=117,qualname:=.ofString "Code",hasDict:=true,slotNames:=[],subclasses:=[],abstract:=false,collection:=none,hasDel:=false},#[(some (.ref 102)),none,(some (zS "Code" 322)),(some (zS "Code" 330)),(some (.builtin "object.__new__")),(some (.bool true))]⟩,zF (.type "super") [(.ref 118),(.ref 118),(.ref 118)],zF (.type "builtin_function_or_method") [(.builtin "object.__init_subclass__"),(.ref 118)],zT [(.ref 59)],zF (.type "builtin_function_or_method") [(.builtin "type.__prepare__"),(.type "type")],zD P (.type "dict") [("__module__",359,(zS "perlcore.values" 231)),("__qualname__",361,(zS "Glob" 360)),("__firstlineno__",363,(zI 71 362)),("__init__",372,(.ref 134)),("__static_attributes__",378,(.ref 135))] 5,zT [],zN [(73,4,133)],zC "Glob" 354 71 124 125 357,qC 126 123 (zS "perlcore.values" 231)]++
 (aD 128 364 73 3 (hU 13 0) "Glob.__init__" ["self","number","name"] .none (zS "perlcore.values" 231)++
 ([zT [(zS "array" 373),(zS "code" 374),(zS "hash" 375),(zS "name" 376),(zS "scalar" 377)],zD P (.type "dict") [("__module__",359,(zS "perlcore.values" 231)),("__firstlineno__",363,(zI 71 362)),("__init__",372,(.ref 134)),("__static_attributes__",378,(.ref 135)),("__doc__",379,.none)] 2,⟨(.type "type"),none,.cls {name:=.ofString "Glob",bases:=[(.ref 59)],mro:=[(.ref 137),(.ref 59),(.type "object")],ns:=136,qualname:=.ofString "Glob",hasDict:=true,slotNames:=[],subclasses:=[],abstract:=false,collection:=none,hasDel:=false},#[(some (.ref 121)),none,(some (zS "Glob" 352)),(some (zS "Glob" 360)),(some (.builtin "object.__new__")),(some (.bool true))]⟩,zF (.type "super") [(.ref 137),(.ref 137),(.ref 137)],zF (.type "builtin_function_or_method") [(.builtin "object.__init_subclass__"),(.ref 137)],zT [],zF (.type "builtin_function_or_method") [(.builtin "type.__prepare__"),(.type "type")],zD P (.type "dict") [("__module__",389,(zS "perlcore.values" 231)),("__qualname__",391,(zS "Ref" 390)),("__firstlineno__",393,(zI 80 392)),("__init__",402,(.ref 154)),("__static_attributes__",405,(.ref 155))] 5,zT [],zN [(82,4,153)],zC "Ref" 384 80 143 144 387,qC 145 142 (zS "perlcore.values" 231),zT [(.bool false)]]++
 (aD 148 394 82 3 (hU 14 0) "Ref.__init__" ["self","target","is_weak"] (.ref 147) (zS "perlcore.values" 231)++
 ([zT [(zS "is_weak" 403),(zS "target" 404)],zD P (.type "dict") [("__module__",389,(zS "perlcore.values" 231)),("__firstlineno__",393,(zI 80 392)),("__init__",402,(.ref 154)),("__static_attributes__",405,(.ref 155)),("__dict__",407,(.ref 158)),("__weakref__",409,(.ref 159)),("__doc__",410,.none)] 4,⟨(.type "type"),none,.cls {name:=.ofString "Ref",bases:=[(.type "object")],mro:=[(.ref 157),(.type "object")],ns:=156,qualname:=.ofString "Ref",hasDict:=true,slotNames:=[],subclasses:=[],abstract:=false,collection:=none,hasDel:=false},#[none,none,(some (zS "Ref" 382)),(some (zS "Ref" 390)),(some (.builtin "object.__new__")),(some (.bool true))]⟩,zF (.type "getset_descriptor") [(zS "__dict__" 406),(.ref 157),(.builtin "function.__dict__"),(.builtin "function.__dict__#set")],zF (.type "getset_descriptor") [(zS "__weakref__" 408),(.ref 157),(.builtin "ExceptionGroup.__weakref__"),.none],zF (.type "super") [(.ref 157),(.ref 157),(.ref 157)],zF (.type "builtin_function_or_method") [(.builtin "object.__init_subclass__"),(.ref 157)]]++
 (aD 162 413 85 1 (aF 15) "thing_word" ["thing"] .none (zS "perlcore.values" 231)++
 (aD 169 420 97 1 (aF 16) "hex_of" ["number","text"] .none (zS "perlcore.values" 231)++
 (aD 176 428 103 1 (aF 17) "ref_text" ["ref","text"] .none (zS "perlcore.values" 231)++
 (aD 183 438 109 1 (aF 19) "to_text" ["value"] .none (zS "perlcore.convert" 436)++
 (aD 190 445 117 2 (aF 20) "to_number" ["value","limits"] .none (zS "perlcore.convert" 436)++
 ([zT [(.type "Exception")],zF (.type "builtin_function_or_method") [(.builtin "type.__prepare__"),(.type "type")],zD P (.type "dict") [("__module__",462,(zS "perlcore.errors" 453)),("__qualname__",464,(zS "PerlError" 463)),("__firstlineno__",466,(zI 126 465)),("__init__",474,(.ref 210)),("__static_attributes__",476,(.ref 211))] 5,zT [],zN [(128,4,209)],zC "PerlError" 457 126 200 201 460,qC 202 199 (zS "perlcore.errors" 453)]++
 (aD 204 467 128 2 (hU 22 0) "PerlError.__init__" ["self","text"] .none (zS "perlcore.errors" 453)++
 ([zT [(zS "text" 475)],zD P (.type "dict") [("__module__",462,(zS "perlcore.errors" 453)),("__firstlineno__",466,(zI 126 465)),("__init__",474,(.ref 210)),("__static_attributes__",476,(.ref 211)),("__weakref__",478,(.ref 214)),("__doc__",479,.none)] 3,⟨(.type "type"),none,.cls {name:=.ofString "PerlError",bases:=[(.type "Exception")],mro:=[(.ref 213),(.type "Exception"),(.type "BaseException"),(.type "object")],ns:=212,qualname:=.ofString "PerlError",hasDict:=true,slotNames:=[],subclasses:=[(.ref 233),(.ref 245),(.ref 264)],abstract:=false,collection:=none,hasDel:=false},#[(some (.ref 197)),none,(some (zS "PerlError" 455)),(some (zS "PerlError" 463)),(some (.builtin "Exception.__new__")),(some (.bool true))]⟩,zF (.type "getset_descriptor") [(zS "__weakref__" 477),(.ref 213),(.builtin "ExceptionGroup.__weakref__"),.none],zF (.type "super") [(.ref 213),(.ref 213),(.ref 213)],zF (.type "builtin_function_or_method") [(.builtin "object.__init_subclass__"),(.ref 213)],zT [(.ref 213)],zF (.type "builtin_function_or_method") [(.builtin "type.__prepare__"),(.type "type")],zD P (.type "dict") [("__module__",491,(zS "perlcore.errors" 453)),("__qualname__",493,(zS "Die" 492)),("__firstlineno__",495,(zI 131 494)),("__init__",503,(.ref 230)),("__static_attributes__",505,(.ref 231))] 5,zT [],zN [(133,4,229)],zC "Die" 486 131 220 221 489,qC 222 219 (zS "perlcore.errors" 453)]++
 (aD 224 496 133 2 (hU 23 0) "Die.__init__" ["self","value"] .none (zS "perlcore.errors" 453)++
 ([zT [(zS "value" 504)],zD P (.type "dict") [("__module__",491,(zS "perlcore.errors" 453)),("__firstlineno__",495,(zI 131 494)),("__init__",503,(.ref 230)),("__static_attributes__",505,(.ref 231)),("__doc__",506,.none)] 2,⟨(.type "type"),none,.cls {name:=.ofString "Die",bases:=[(.ref 213)],mro:=[(.ref 233),(.ref 213),(.type "Exception"),(.type "BaseException"),(.type "object")],ns:=232,qualname:=.ofString "Die",hasDict:=true,slotNames:=[],subclasses:=[],abstract:=false,collection:=none,hasDel:=false},#[(some (.ref 217)),none,(some (zS "Die" 484)),(some (zS "Die" 492)),(some (.builtin "Exception.__new__")),(some (.bool true))]⟩,zF (.type "super") [(.ref 233),(.ref 233),(.ref 233)],zF (.type "builtin_function_or_method") [(.builtin "object.__init_subclass__"),(.ref 233)],zT [(.ref 213)],zF (.type "builtin_function_or_method") [(.builtin "type.__prepare__"),(.type "type")],zD P (.type "dict") [("__module__",516,(zS "perlcore.errors" 453)),("__qualname__",518,(zS "BadTemplate" 517)),("__firstlineno__",520,(zI 136 519)),("__static_attributes__",521,(.ref 243))] 4,zT [],zN [],zC "BadTemplate" 511 136 239 240 514,qC 241 238 (zS "perlcore.errors" 453),zT [],zD P (.type "dict") [("__module__",516,(zS "perlcore.errors" 453)),("__firstlineno__",520,(zI 136 519)),("__static_attributes__",521,(.ref 243)),("__doc__",522,.none)] 2,⟨(.type "type"),none,.cls {name:=.ofString "BadTemplate",bases:=[(.ref 213)],mro:=[(.ref 245),(.ref 213),(.type "Exception"),(.type "BaseException"),(.type "object")],ns:=244,qualname:=.ofString "BadTemplate",hasDict:=true,slotNames:=[],subclasses:=[],abstract:=false,collection:=none,hasDel:=false},#[(some (.ref 236)),none,(some (zS "BadTemplate" 509)),(some (zS "BadTemplate" 517)),(some (.builtin "Exception.__new__")),(some (.bool true))]⟩,zF (.type "super") [(.ref 245),(.ref 245),(.ref 245)],zF (.type "builtin_function_or_method") [(.builtin "object.__init_subclass__"),(.ref 245)],zT [(.ref 213)],zF (.type "builtin_function_or_method") [(.builtin "type.__prepare__"),(.type "type")],zD P (.type "dict") [("__module__",532,(zS "perlcore.errors" 453)),("__qualname__",534,(zS "TooLong" 533)),("__firstlineno__",536,(zI 138 535)),("__init__",544,(.ref 261)),("__static_attributes__",546,(.ref 262))] 5,zT [],zN [(140,4,260)],zC "TooLong" 527 138 251 252 530,qC 253 250 (zS "perlcore.errors" 453)]++
 (aD 255 537 140 2 (hU 25 0) "TooLong.__init__" ["self","steps"] .none (zS "perlcore.errors" 453)++
 ([zT [(zS "steps" 545)],zD P (.type "dict") [("__module__",532,(zS "perlcore.errors" 453)),("__firstlineno__",536,(zI 138 535)),("__init__",544,(.ref 261)),("__static_attributes__",546,(.ref 262)),("__doc__",547,.none)] 2,⟨(.type "type"),none,.cls {name:=.ofString "TooLong",bases:=[(.ref 213)],mro:=[(.ref 264),(.ref 213),(.type "Exception"),(.type "BaseException"),(.type "object")],ns:=263,qualname:=.ofString "TooLong",hasDict:=true,slotNames:=[],subclasses:=[],abstract:=false,collection:=none,hasDel:=false},#[(some (.ref 248)),none,(some (zS "TooLong" 525)),(some (zS "TooLong" 533)),(some (.builtin "Exception.__new__")),(some (.bool true))]⟩,zF (.type "super") [(.ref 264),(.ref 264),(.ref 264)],zF (.type "builtin_function_or_method") [(.builtin "object.__init_subclass__"),(.ref 264)]]++
 (aD 267 558 145 3 (aF 28) "row_of_number" ["n","size","is_big","row","k"] .none (zS "perlcore.packbits" 550)++
 (aD 274 569 152 3 (aF 29) "number_of_row" ["row","is_big","is_signed","found","ordered","octet"] .none (zS "perlcore.packbits" 550)++
 (aD 281 581 160 1 (aF 30) "row_of_ber" ["n","row"] .none (zS "perlcore.packbits" 550)++
 (aD 288 589 170 2 (aF 31) "read_ber" ["data","at","found"] .none (zS "perlcore.packbits" 550)++
 (aD 295 598 178 1 (aF 32) "row_of_code" ["code","row","room","size"] .none (zS "perlcore.packbits" 550)++
 (aD 302 608 193 2 (aF 33) "read_code" ["data","at","first","size","code","octet"] .none (zS "perlcore.packbits" 550)++
 (aD 309 620 210 3 (aF 34) "row_of_bits" ["codes","count","is_big","row","k"] .none (zS "perlcore.packbits" 550)++
 (aD 316 631 216 3 (aF 35) "bits_of_row" ["row","count","is_big","signs","k","bit"] .none (zS "perlcore.packbits" 550)++
 (aD 323 643 222 1 (aF 36) "nibble_of" ["code"] .none (zS "perlcore.packbits" 550)++
 (aD 330 650 226 3 (aF 37) "row_of_nibbles" ["codes","count","is_big","row","k","is_high"] .none (zS "perlcore.packbits" 550)++
 (aD 337 662 232 3 (aF 38) "nibbles_of_row" ["row","count","is_big","signs","k","is_high"] .none (zS "perlcore.packbits" 550)++
 (aD 344 674 238 1 (aF 39) "uu_sign" ["six"] .none (zS "perlcore.packbits" 550)++
 (aD 351 681 240 1 (aF 40) "uu_line" ["part","row","at","three","bits","shift"] .none (zS "perlcore.packbits" 550)++
 (aD 358 693 249 2 (aF 41) "row_of_uu" ["data","count","wide","row","at"] .none (zS "perlcore.packbits" 550)++
 (aD 365 704 255 2 (aF 42) "is_uu" ["data","at"] .none (zS "perlcore.packbits" 550)++
 (aD 372 712 257 2 (aF 43) "uu_six" ["data","at"] .none (zS "perlcore.packbits" 550)++
 (aD 379 720 259 2 (aF 44) "read_uu_line" ["data","at","size","row","bits","k"] .none (zS "perlcore.packbits" 550)++
 (aD 386 732 276 2 (aF 45) "read_uu" ["data","at","row","part"] .none (zS "perlcore.packbits" 550)++
 ([zD P (.type "dict") [("c",750,(zI 1 751)),("C",753,(zI 1 754)),("s",756,(zI 2 757)),("S",759,(zI 2 760)),("l",762,(zI 4 763)),("L",765,(zI 4 766)),("q",768,(zI 8 769)),("Q",771,(zI 8 772)),("i",774,(zI 4 775)),("I",777,(zI 4 778)),("j",780,(zI 8 781)),("J",783,(zI 8 784)),("n",786,(zI 2 787)),("N",789,(zI 4 790)),("v",792,(zI 2 793)),("V",795,(zI 4 796))] 16]))))))))))))))))))))))))))))))))))))))))))))))))
def AU(P:Params):List Obj:=
 qD P++
 (([zD P (.type "dict") [("__name__",165,(zS "perlcore.packtemplate" 742)),("__doc__",166,.none),("__package__",167,.none),("__loader__",168,(.builtin "__main__.__loader__#opaque")),("__spec__",169,.none),("__annotations__",170,(.ref 6)),("__builtins__",171,(.ref 4)),("__file__",173,(zS "/claim/cut.py" 172)),("__cached__",174,.none),("FIGURES_numbers",190,(zS "0123456789" 189)),("SPACES",192,(zS " \t\n\r\x0c\u000b" 191)),("wrap_number",200,(.ref 21)),("number_head",210,(.ref 28)),("numeric_text",222,(.ref 35)),("number_text",230,(.ref 42)),("HEX_FIGURES",234,(zS "0123456789abcdef" 233)),("Thing",268,(.ref 59)),("Array",294,(.ref 80)),("Hash",321,(.ref 99)),("Code",351,(.ref 118)),("Glob",381,(.ref 137)),("Ref",412,(.ref 157)),("thing_word",419,(.ref 168)),("hex_of",427,(.ref 175)),("ref_text",435,(.ref 182)),("to_text",444,(.ref 189)),("to_number",452,(.ref 196)),("PerlError",483,(.ref 213)),("Die",508,(.ref 233)),("BadTemplate",524,(.ref 245)),("TooLong",549,(.ref 264)),("GREATEST_CODE",557,(zI 2147483647 556)),("row_of_number",568,(.ref 273)),("number_of_row",580,(.ref 280)),("row_of_ber",588,(.ref 287)),("read_ber",597,(.ref 294)),("row_of_code",607,(.ref 301)),("read_code",619,(.ref 308)),("row_of_bits",630,(.ref 315)),("bits_of_row",642,(.ref 322)),("nibble_of",649,(.ref 329)),("row_of_nibbles",661,(.ref 336)),("nibbles_of_row",673,(.ref 343)),("uu_sign",680,(.ref 350)),("uu_line",692,(.ref 357)),("row_of_uu",703,(.ref 364)),("is_uu",711,(.ref 371)),("uu_six",719,(.ref 378)),("read_uu_line",731,(.ref 385)),("read_uu",741,(.ref 392)),("STAR",746,(.int (-1) 745)),("NO_COUNT",749,(.int (-2) 748)),("FIXED",798,(.ref 393))] 53])++
 (mU P++
 (([zN [(4,0,20),(9,0,27),(22,0,34),(31,0,41),(41,0,48),(50,0,69),(56,0,88),(63,0,107),(71,0,126),(80,0,145),(85,0,167),(97,0,174),(103,0,181),(109,0,188),(117,0,195),(126,0,202),(131,0,222),(136,0,241),(138,0,253),(145,0,272),(152,0,279),(160,0,286),(170,0,293),(178,0,300),(193,0,307),(210,0,314),(216,0,321),(222,0,328),(226,0,335),(232,0,342),(238,0,349),(240,0,356),(249,0,363),(255,0,370),(257,0,377),(259,0,384),(276,0,391)]])++
 (js P))))
def uE(w:World)(os:OsState):SharedT:=⟨wo 12 (AU w.params),394,{},#[],{},799,os⟩
noncomputable abbrev uF:Pos:=⟨285,0,285,5⟩
def ke(P:Params):List Obj:=
 aD 394 815 294 2 (aF 58) "fixed_size" ["letter","has_bang"] .none (zS "perlcore.packtemplate" 742)++
 (aD 401 823 298 2 (aF 59) "has_sign" ["letter","has_bang"] .none (zS "perlcore.packtemplate" 742)++
 (aD 408 831 302 2 (aF 60) "is_big_first" ["letter","order"] .none (zS "perlcore.packtemplate" 742)++
 ([zT [],zF (.type "builtin_function_or_method") [(.builtin "type.__prepare__"),(.type "type")],zD P (.type "dict") [("__module__",846,(zS "perlcore.packtemplate" 742)),("__qualname__",848,(zS "TemplateReader" 847)),("__firstlineno__",850,(zI 304 849)),("__init__",858,(.ref 428)),("peek",865,(.ref 435)),("skip",872,(.ref 442)),("__static_attributes__",875,(.ref 443))] 7,zT [],zN [(306,4,427),(310,4,434),(313,4,441)],zC "TemplateReader" 841 304 418 419 844,qC 420 417 (zS "perlcore.packtemplate" 742)]++
 (aD 422 851 306 2 (hU 61 0) "TemplateReader.__init__" ["self","text"] .none (zS "perlcore.packtemplate" 742)++
 (aD 429 859 310 1 (hU 61 1) "TemplateReader.peek" ["self"] .none (zS "perlcore.packtemplate" 742)++
 (aD 436 866 313 1 (hU 61 2) "TemplateReader.skip" ["self"] .none (zS "perlcore.packtemplate" 742)++
 ([zT [(zS "at" 873),(zS "text" 874)],zD P (.type "dict") [("__module__",846,(zS "perlcore.packtemplate" 742)),("__firstlineno__",850,(zI 304 849)),("__init__",858,(.ref 428)),("peek",865,(.ref 435)),("skip",872,(.ref 442)),("__static_attributes__",875,(.ref 443)),("__dict__",877,(.ref 446)),("__weakref__",879,(.ref 447)),("__doc__",880,.none)] 4,⟨(.type "type"),none,.cls {name:=.ofString "TemplateReader",bases:=[(.type "object")],mro:=[(.ref 445),(.type "object")],ns:=444,qualname:=.ofString "TemplateReader",hasDict:=true,slotNames:=[],subclasses:=[],abstract:=false,collection:=none,hasDel:=false},#[none,none,(some (zS "TemplateReader" 839)),(some (zS "TemplateReader" 847)),(some (.builtin "object.__new__")),(some (.bool true))]⟩,zF (.type "getset_descriptor") [(zS "__dict__" 876),(.ref 445),(.builtin "function.__dict__"),(.builtin "function.__dict__#set")],zF (.type "getset_descriptor") [(zS "__weakref__" 878),(.ref 445),(.builtin "ExceptionGroup.__weakref__"),.none],zF (.type "super") [(.ref 445),(.ref 445),(.ref 445)],zF (.type "builtin_function_or_method") [(.builtin "object.__init_subclass__"),(.ref 445)]]++
 (aD 450 883 320 1 (aF 62) "read_figures" ["reader","begun","figures"] .none (zS "perlcore.packtemplate" 742)++
 (aD 457 892 328 1 (aF 63) "read_length" ["reader","begun","number"] .none (zS "perlcore.packtemplate" 742)++
 (aD 464 901 343 1 (aF 64) "read_repeat" ["reader","sign"] .none (zS "perlcore.packtemplate" 742)++
 (aD 471 909 353 2 (aF 65) "read_marks" ["reader","letter","order","has_bang","sign"] .none (zS "perlcore.packtemplate" 742)++
 (aD 478 920 370 2 (aF 66) "in_order" ["items","order","found","letter","own","has_bang","count","inner"] .none (zS "perlcore.packtemplate" 742)++
 (aD 485 934 383 2 (aF 67) "read_one" ["reader","depth","letter","inner","order","has_bang","count"] .none (zS "perlcore.packtemplate" 742)++
 (aD 492 947 400 1 (aF 68) "pass_by" ["reader"] .none (zS "perlcore.packtemplate" 742)++
 (aD 499 954 405 3 (aF 69) "read_counted" ["reader","depth","length","counted"] .none (zS "perlcore.packtemplate" 742)++
 (aD 506 964 418 2 (aF 70) "read_items" ["reader","depth","items","item"] .none (zS "perlcore.packtemplate" 742)++
 (aD 513 974 433 1 (aF 71) "parse_template" ["text"] .none (zS "perlcore.packtemplate" 742)++
 (aD 520 981 435 2 (aF 72) "measured_item" ["item","at","letter","order","has_bang","count","inner","many"] .none (zS "perlcore.packtemplate" 742)++
 (aD 527 995 451 4 (aF 73) "moved" ["at","letter","has_bang","many"] .none (zS "perlcore.packtemplate" 742)++
 (aD 534 1005 459 1 (aF 74) "measured" ["items","at","item"] .none (zS "perlcore.packtemplate" 742)++
 ([⟨(.type "list"),none,.seq ⟨[(zI 0 1016),(zI 9 1017),(zI 10 1018),(zI 11 1019),(zI 12 1020),(zI 13 1021),(zI 32 1022)]⟩ 0,#[]⟩,zT [],zF (.type "builtin_function_or_method") [(.builtin "type.__prepare__"),(.type "type")],zD P (.type "dict") [("__module__",1031,(zS "perlcore.unpacking" 1014)),("__qualname__",1033,(zS "Unpacker" 1032)),("__firstlineno__",1035,(zI 468 1034)),("__init__",1044,(.ref 555)),("__static_attributes__",1051,(.ref 556))] 5,zT [],zN [(470,4,554)],zC "Unpacker" 1026 468 545 546 1029,qC 547 544 (zS "perlcore.unpacking" 1014)]++
 (aD 549 1036 470 3 (hU 77 0) "Unpacker.__init__" ["self","data","limits"] .none (zS "perlcore.unpacking" 1014)++
 ([zT [(zS "at" 1045),(zS "data" 1046),(zS "found" 1047),(zS "limits" 1048),(zS "starts" 1049),(zS "steps" 1050)],zD P (.type "dict") [("__module__",1031,(zS "perlcore.unpacking" 1014)),("__firstlineno__",1035,(zI 468 1034)),("__init__",1044,(.ref 555)),("__static_attributes__",1051,(.ref 556)),("__dict__",1053,(.ref 559)),("__weakref__",1055,(.ref 560)),("__doc__",1056,.none)] 4,⟨(.type "type"),none,.cls {name:=.ofString "Unpacker",bases:=[(.type "object")],mro:=[(.ref 558),(.type "object")],ns:=557,qualname:=.ofString "Unpacker",hasDict:=true,slotNames:=[],subclasses:=[],abstract:=false,collection:=none,hasDel:=false},#[none,none,(some (zS "Unpacker" 1024)),(some (zS "Unpacker" 1032)),(some (.builtin "object.__new__")),(some (.bool true))]⟩,zF (.type "getset_descriptor") [(zS "__dict__" 1052),(.ref 558),(.builtin "function.__dict__"),(.builtin "function.__dict__#set")],zF (.type "getset_descriptor") [(zS "__weakref__" 1054),(.ref 558),(.builtin "ExceptionGroup.__weakref__"),.none],zF (.type "super") [(.ref 558),(.ref 558),(.ref 558)],zF (.type "builtin_function_or_method") [(.builtin "object.__init_subclass__"),(.ref 558)]]++
 (aD 563 1059 477 1 (aF 78) "octets_left" ["unpacker"] .none (zS "perlcore.unpacking" 1014)++
 (aD 570 1066 479 2 (aF 79) "note_value" ["unpacker","value"] .none (zS "perlcore.unpacking" 1014)++
 (aD 577 1074 483 1 (aF 80) "note_step" ["unpacker"] .none (zS "perlcore.unpacking" 1014)++
 (aD 584 1081 487 2 (aF 81) "repeat_of" ["item","most"] .none (zS "perlcore.unpacking" 1014)++
 (aD 591 1089 491 2 (aF 82) "take_octets" ["unpacker","many","row"] .none (zS "perlcore.unpacking" 1014)++
 (gV 598 1098 495 1 (aF 83) "text_of_row" .none (zS "perlcore.unpacking" 1014)++
 (aD 603 1104 497 2 (aF 84) "unpack_text" ["unpacker","item","row"] .none (zS "perlcore.unpacking" 1014)++
 (aD 610 1113 507 2 (aF 85) "unpack_digits" ["unpacker","item","many"] .none (zS "perlcore.unpacking" 1014)++
 (aD 617 1122 514 2 (aF 86) "unpack_fixed" ["unpacker","item","letter","order","has_bang","count","inner","size","turn","row","number"] .none (zS "perlcore.unpacking" 1014)++
 (aD 624 1139 522 2 (aF 87) "unpack_running" ["unpacker","item","turn","number"] .none (zS "perlcore.unpacking" 1014)++
 (aD 631 1149 532 2 (aF 88) "unpack_move" ["unpacker","item","letter","order","has_bang","count","inner","many","place"] .none (zS "perlcore.unpacking" 1014)++
 (aD 638 1164 542 2 (aF 89) "unpack_dot" ["unpacker","item","base","back"] .none (zS "perlcore.unpacking" 1014)++
 (aD 645 1174 551 2 (aF 90) "unpack_group" ["unpacker","item","letter","order","has_bang","count","inner","turns","turn"] .none (zS "perlcore.unpacking" 1014)++
 (aD 652 1189 561 3 (aF 91) "unpack_counted" ["unpacker","item","begun","length","counted","is_beyond","letter","order","has_bang","count","inner","many"] .none (zS "perlcore.unpacking" 1014)++
 (aD 659 1207 577 1 (aF 92) "unpack_uu" ["unpacker","row"] .none (zS "perlcore.unpacking" 1014)++
 (aD 666 1215 580 2 (aF 93) "unpack_item" ["unpacker","item","letter"] .none (zS "perlcore.unpacking" 1014)++
 (aD 673 1224 599 2 (aF 94) "unpack_items" ["unpacker","items","begun","item"] .none (zS "perlcore.unpacking" 1014)++
 (gV 680 1234 606 3 (aF 95) "unpack_values" .none (zS "perlcore.unpacking" 1014))))))))))))))))))))))))))))))))))))))))))
def AV(P:Params):List Obj:=
 qD P++
 (([zD P (.type "dict") [("__name__",165,(zS "perlcore.limits" 1240)),("__doc__",166,.none),("__package__",167,.none),("__loader__",168,(.builtin "__main__.__loader__#opaque")),("__spec__",169,.none),("__annotations__",170,(.ref 6)),("__builtins__",171,(.ref 4)),("__file__",173,(zS "/claim/cut.py" 172)),("__cached__",174,.none),("FIGURES_numbers",190,(zS "0123456789" 189)),("SPACES",192,(zS " \t\n\r\x0c\u000b" 191)),("wrap_number",200,(.ref 21)),("number_head",210,(.ref 28)),("numeric_text",222,(.ref 35)),("number_text",230,(.ref 42)),("HEX_FIGURES",234,(zS "0123456789abcdef" 233)),("Thing",268,(.ref 59)),("Array",294,(.ref 80)),("Hash",321,(.ref 99)),("Code",351,(.ref 118)),("Glob",381,(.ref 137)),("Ref",412,(.ref 157)),("thing_word",419,(.ref 168)),("hex_of",427,(.ref 175)),("ref_text",435,(.ref 182)),("to_text",444,(.ref 189)),("to_number",452,(.ref 196)),("PerlError",483,(.ref 213)),("Die",508,(.ref 233)),("BadTemplate",524,(.ref 245)),("TooLong",549,(.ref 264)),("GREATEST_CODE",557,(zI 2147483647 556)),("row_of_number",568,(.ref 273)),("number_of_row",580,(.ref 280)),("row_of_ber",588,(.ref 287)),("read_ber",597,(.ref 294)),("row_of_code",607,(.ref 301)),("read_code",619,(.ref 308)),("row_of_bits",630,(.ref 315)),("bits_of_row",642,(.ref 322)),("nibble_of",649,(.ref 329)),("row_of_nibbles",661,(.ref 336)),("nibbles_of_row",673,(.ref 343)),("uu_sign",680,(.ref 350)),("uu_line",692,(.ref 357)),("row_of_uu",703,(.ref 364)),("is_uu",711,(.ref 371)),("uu_six",719,(.ref 378)),("read_uu_line",731,(.ref 385)),("read_uu",741,(.ref 392)),("STAR",746,(.int (-1) 745)),("NO_COUNT",749,(.int (-2) 748)),("FIXED",798,(.ref 393)),("LETTERS",800,(zS "cCsSlLqQiIjJnNvVwUaAZbBhHuxX@." 799)),("ORDERED",802,(zS "sSlLqQiIjJ" 801)),("BANGED",804,(zS "sSiIlLnNvVxX@." 803)),("MOVERS",806,(zS "xX@." 805)),("BLANKS",808,(zS " \t\n\r\x0c" 807)),("FIGURES_packtemplate",810,(zS "0123456789" 809)),("DEEPEST",812,(zI 20 811)),("MOST_FIGURES",814,(zI 9 813)),("fixed_size",822,(.ref 400)),("has_sign",830,(.ref 407)),("is_big_first",838,(.ref 414)),("TemplateReader",882,(.ref 445)),("read_figures",891,(.ref 456)),("read_length",900,(.ref 463)),("read_repeat",908,(.ref 470)),("read_marks",919,(.ref 477)),("in_order",933,(.ref 484)),("read_one",946,(.ref 491)),("pass_by",953,(.ref 498)),("read_counted",963,(.ref 505)),("read_items",973,(.ref 512)),("parse_template",980,(.ref 519)),("measured_item",994,(.ref 526)),("moved",1004,(.ref 533)),("measured",1013,(.ref 540)),("BLANK_OCTETS",1023,(.ref 541)),("Unpacker",1058,(.ref 558)),("octets_left",1065,(.ref 569)),("note_value",1073,(.ref 576)),("note_step",1080,(.ref 583)),("repeat_of",1088,(.ref 590)),("take_octets",1097,(.ref 597)),("text_of_row",1103,(.ref 602)),("unpack_text",1112,(.ref 609)),("unpack_digits",1121,(.ref 616)),("unpack_fixed",1138,(.ref 623)),("unpack_running",1148,(.ref 630)),("unpack_move",1163,(.ref 637)),("unpack_dot",1173,(.ref 644)),("unpack_group",1188,(.ref 651)),("unpack_counted",1206,(.ref 658)),("unpack_uu",1214,(.ref 665)),("unpack_item",1223,(.ref 672)),("unpack_items",1233,(.ref 679)),("unpack_values",1239,(.ref 684))] 98])++
 (mU P++
 (([zN [(4,0,20),(9,0,27),(22,0,34),(31,0,41),(41,0,48),(50,0,69),(56,0,88),(63,0,107),(71,0,126),(80,0,145),(85,0,167),(97,0,174),(103,0,181),(109,0,188),(117,0,195),(126,0,202),(131,0,222),(136,0,241),(138,0,253),(145,0,272),(152,0,279),(160,0,286),(170,0,293),(178,0,300),(193,0,307),(210,0,314),(216,0,321),(222,0,328),(226,0,335),(232,0,342),(238,0,349),(240,0,356),(249,0,363),(255,0,370),(257,0,377),(259,0,384),(276,0,391),(294,0,399),(298,0,406),(302,0,413),(304,0,420),(320,0,455),(328,0,462),(343,0,469),(353,0,476),(370,0,483),(383,0,490),(400,0,497),(405,0,504),(418,0,511),(433,0,518),(435,0,525),(451,0,532),(459,0,539),(468,0,547),(477,0,568),(479,0,575),(483,0,582),(487,0,589),(491,0,596),(495,0,601),(497,0,608),(507,0,615),(514,0,622),(522,0,629),(532,0,636),(542,0,643),(551,0,650),(561,0,657),(577,0,664),(580,0,671),(599,0,678),(606,0,683)]])++
 (js P++
 (ke P)))))
def Iv(w:World)(os:OsState):SharedT:=⟨wo 12 (AV w.params),685,{},#[],{},1242,os⟩
noncomputable abbrev Iw:Pos:=⟨610,0,610,8⟩
noncomputable def ES(P:Params):List Obj:=
 [zD P (.type "dict") [("__name__",165,(zS "law_qd0154_02" 1513)),("__doc__",166,.none),("__package__",167,.none),("__loader__",168,(.builtin "__main__.__loader__#opaque")),("__spec__",169,.none),("__annotations__",170,(.ref 6)),("__builtins__",171,(.ref 4)),("__file__",173,(zS "/claim/cut.py" 172)),("__cached__",174,.none),("FIGURES_numbers",190,(zS "0123456789" 189)),("SPACES",192,(zS " \t\n\r\x0c\u000b" 191)),("wrap_number",200,(.ref 21)),("number_head",210,(.ref 28)),("numeric_text",222,(.ref 35)),("number_text",230,(.ref 42)),("HEX_FIGURES",234,(zS "0123456789abcdef" 233)),("Thing",268,(.ref 59)),("Array",294,(.ref 80)),("Hash",321,(.ref 99)),("Code",351,(.ref 118)),("Glob",381,(.ref 137)),("Ref",412,(.ref 157)),("thing_word",419,(.ref 168)),("hex_of",427,(.ref 175)),("ref_text",435,(.ref 182)),("to_text",444,(.ref 189)),("to_number",452,(.ref 196)),("PerlError",483,(.ref 213)),("Die",508,(.ref 233)),("BadTemplate",524,(.ref 245)),("TooLong",549,(.ref 264)),("GREATEST_CODE",557,(zI 2147483647 556)),("row_of_number",568,(.ref 273)),("number_of_row",580,(.ref 280)),("row_of_ber",588,(.ref 287)),("read_ber",597,(.ref 294)),("row_of_code",607,(.ref 301)),("read_code",619,(.ref 308)),("row_of_bits",630,(.ref 315)),("bits_of_row",642,(.ref 322)),("nibble_of",649,(.ref 329)),("row_of_nibbles",661,(.ref 336)),("nibbles_of_row",673,(.ref 343)),("uu_sign",680,(.ref 350)),("uu_line",692,(.ref 357)),("row_of_uu",703,(.ref 364)),("is_uu",711,(.ref 371)),("uu_six",719,(.ref 378)),("read_uu_line",731,(.ref 385)),("read_uu",741,(.ref 392)),("STAR",746,(.int (-1) 745)),("NO_COUNT",749,(.int (-2) 748)),("FIXED",798,(.ref 393)),("LETTERS",800,(zS "cCsSlLqQiIjJnNvVwUaAZbBhHuxX@." 799)),("ORDERED",802,(zS "sSlLqQiIjJ" 801)),("BANGED",804,(zS "sSiIlLnNvVxX@." 803)),("MOVERS",806,(zS "xX@." 805)),("BLANKS",808,(zS " \t\n\r\x0c" 807)),("FIGURES_packtemplate",810,(zS "0123456789" 809)),("DEEPEST",812,(zI 20 811)),("MOST_FIGURES",814,(zI 9 813)),("fixed_size",822,(.ref 400)),("has_sign",830,(.ref 407)),("is_big_first",838,(.ref 414)),("TemplateReader",882,(.ref 445)),("read_figures",891,(.ref 456)),("read_length",900,(.ref 463)),("read_repeat",908,(.ref 470)),("read_marks",919,(.ref 477)),("in_order",933,(.ref 484)),("read_one",946,(.ref 491)),("pass_by",953,(.ref 498)),("read_counted",963,(.ref 505)),("read_items",973,(.ref 512)),("parse_template",980,(.ref 519)),("measured_item",994,(.ref 526)),("moved",1004,(.ref 533)),("measured",1013,(.ref 540)),("BLANK_OCTETS",1023,(.ref 541)),("Unpacker",1058,(.ref 558)),("octets_left",1065,(.ref 569)),("note_value",1073,(.ref 576)),("note_step",1080,(.ref 583)),("repeat_of",1088,(.ref 590)),("take_octets",1097,(.ref 597)),("text_of_row",1103,(.ref 602)),("unpack_text",1112,(.ref 609)),("unpack_digits",1121,(.ref 616)),("unpack_fixed",1138,(.ref 623)),("unpack_running",1148,(.ref 630)),("unpack_move",1163,(.ref 637)),("unpack_dot",1173,(.ref 644)),("unpack_group",1188,(.ref 651)),("unpack_counted",1206,(.ref 658)),("unpack_uu",1214,(.ref 665)),("unpack_item",1223,(.ref 672)),("unpack_items",1233,(.ref 679)),("unpack_values",1239,(.ref 684)),("Limits",1289,(.ref 702)),("Packer",1327,(.ref 723)),("values_left",1334,(.ref 734)),("next_value",1341,(.ref 741)),("next_number",1348,(.ref 748)),("next_codes",1354,(.ref 753)),("lay_octets",1362,(.ref 760)),("lay_noughts",1370,(.ref 767)),("go_to_place",1379,(.ref 774)),("count_of_item",1387,(.ref 781)),("pack_text",1398,(.ref 788)),("pack_digits",1408,(.ref 795)),("row_of_value",1422,(.ref 802)),("pack_numbers",1431,(.ref 809)),("pack_dot",1442,(.ref 816)),("pack_move",1456,(.ref 823)),("pack_group",1465,(.ref 830)),("pack_counted",1481,(.ref 837)),("count_step",1488,(.ref 844)),("pack_item",1497,(.ref 851)),("pack_items",1506,(.ref 858)),("pack_values",1512,(.ref 863)),("_law_cell",1522,(.ref 870)),("_law_text",1528,(.ref 875)),("_law_heard",1534,(.ref 880)),("_law_sign",1542,(.ref 887)),("_law_line",1556,(.ref 894)),("_law_lines",1566,(.ref 901)),("_law_number",1576,(.ref 908)),("_law_length",1582,(.ref 913)),("_law_read",1596,(.ref 920)),("_law_laid",1602,(.ref 925)),("_law_lengths",1608,(.ref 930)),("_law_bounds",1622,(.ref 937)),("_law_steps",1636,(.ref 944)),("_law_deep",1647,(.ref 951)),("law",1653,(.ref 956))] 135]
noncomputable def wq(P:Params):List Obj:=
 [zN [(4,0,20),(9,0,27),(22,0,34),(31,0,41),(41,0,48),(50,0,69),(56,0,88),(63,0,107),(71,0,126),(80,0,145),(85,0,167),(97,0,174),(103,0,181),(109,0,188),(117,0,195),(126,0,202),(131,0,222),(136,0,241),(138,0,253),(145,0,272),(152,0,279),(160,0,286),(170,0,293),(178,0,300),(193,0,307),(210,0,314),(216,0,321),(222,0,328),(226,0,335),(232,0,342),(238,0,349),(240,0,356),(249,0,363),(255,0,370),(257,0,377),(259,0,384),(276,0,391),(294,0,399),(298,0,406),(302,0,413),(304,0,420),(320,0,455),(328,0,462),(343,0,469),(353,0,476),(370,0,483),(383,0,490),(400,0,497),(405,0,504),(418,0,511),(433,0,518),(435,0,525),(451,0,532),(459,0,539),(468,0,547),(477,0,568),(479,0,575),(483,0,582),(487,0,589),(491,0,596),(495,0,601),(497,0,608),(507,0,615),(514,0,622),(522,0,629),(532,0,636),(542,0,643),(551,0,650),(561,0,657),(577,0,664),(580,0,671),(599,0,678),(606,0,683),(611,0,690),(620,0,712),(630,0,733),(632,0,740),(639,0,747),(641,0,752),(643,0,759),(647,0,766),(651,0,773),(658,0,780),(662,0,787),(671,0,794),(680,0,801),(688,0,808),(692,0,815),(702,0,822),(709,0,829),(717,0,836),(730,0,843),(734,0,850),(753,0,857),(756,0,862),(761,0,869),(765,0,874),(767,0,879),(776,0,886),(780,0,893),(795,0,900),(802,0,907),(811,0,912),(822,0,919),(832,0,924),(843,0,929),(855,0,936),(870,0,943),(883,0,950),(895,0,955)]]
def qE(P:Params):List Obj:=
 [zT [],zF (.type "builtin_function_or_method") [(.builtin "type.__prepare__"),(.type "type")],zD P (.type "dict") [("__module__",1249,(zS "perlcore.limits" 1240)),("__qualname__",1251,(zS "Limits" 1250)),("__firstlineno__",1253,(zI 611 1252)),("__init__",1276,(.ref 699)),("__static_attributes__",1282,(.ref 700))] 5,zT [],zN [(613,4,698)],zC "Limits" 1244 611 688 689 1247,qC 690 687 (zS "perlcore.limits" 1240),zT [(zI 64 1254),(zI 50 1255),(zI 1000000 1258),(zI 100000 1261),(zI 10000 1264)]]++
 (aD 693 1265 613 6 (hU 97 0) "Limits.__init__" ["self","width","depth","steps","text","items"] (.ref 692) (zS "perlcore.limits" 1240)++
 ([zT [(zS "depth" 1277),(zS "items" 1278),(zS "steps" 1279),(zS "text" 1280),(zS "width" 1281)],zD P (.type "dict") [("__module__",1249,(zS "perlcore.limits" 1240)),("__firstlineno__",1253,(zI 611 1252)),("__init__",1276,(.ref 699)),("__static_attributes__",1282,(.ref 700)),("__dict__",1284,(.ref 703)),("__weakref__",1286,(.ref 704)),("__doc__",1287,.none)] 4,⟨(.type "type"),none,.cls {name:=.ofString "Limits",bases:=[(.type "object")],mro:=[(.ref 702),(.type "object")],ns:=701,qualname:=.ofString "Limits",hasDict:=true,slotNames:=[],subclasses:=[],abstract:=false,collection:=none,hasDel:=false},#[none,none,(some (zS "Limits" 1242)),(some (zS "Limits" 1250)),(some (.builtin "object.__new__")),(some (.bool true))]⟩,zF (.type "getset_descriptor") [(zS "__dict__" 1283),(.ref 702),(.builtin "function.__dict__"),(.builtin "function.__dict__#set")],zF (.type "getset_descriptor") [(zS "__weakref__" 1285),(.ref 702),(.builtin "ExceptionGroup.__weakref__"),.none],zF (.type "super") [(.ref 702),(.ref 702),(.ref 702)],zF (.type "builtin_function_or_method") [(.builtin "object.__init_subclass__"),(.ref 702)],zT [],zF (.type "builtin_function_or_method") [(.builtin "type.__prepare__"),(.type "type")],zD P (.type "dict") [("__module__",1299,(zS "perlcore.packing" 1290)),("__qualname__",1301,(zS "Packer" 1300)),("__firstlineno__",1303,(zI 620 1302)),("__init__",1312,(.ref 720)),("__static_attributes__",1320,(.ref 721))] 5,zT [],zN [(622,4,719)],zC "Packer" 1294 620 710 711 1297,qC 712 709 (zS "perlcore.packing" 1290)]++
 (aD 714 1304 622 3 (hU 99 0) "Packer.__init__" ["self","values","limits"] .none (zS "perlcore.packing" 1290)++
 ([zT [(zS "at" 1313),(zS "length" 1314),(zS "limits" 1315),(zS "out" 1316),(zS "starts" 1317),(zS "steps" 1318),(zS "values" 1319)],zD P (.type "dict") [("__module__",1299,(zS "perlcore.packing" 1290)),("__firstlineno__",1303,(zI 620 1302)),("__init__",1312,(.ref 720)),("__static_attributes__",1320,(.ref 721)),("__dict__",1322,(.ref 724)),("__weakref__",1324,(.ref 725)),("__doc__",1325,.none)] 4,⟨(.type "type"),none,.cls {name:=.ofString "Packer",bases:=[(.type "object")],mro:=[(.ref 723),(.type "object")],ns:=722,qualname:=.ofString "Packer",hasDict:=true,slotNames:=[],subclasses:=[],abstract:=false,collection:=none,hasDel:=false},#[none,none,(some (zS "Packer" 1292)),(some (zS "Packer" 1300)),(some (.builtin "object.__new__")),(some (.bool true))]⟩,zF (.type "getset_descriptor") [(zS "__dict__" 1321),(.ref 723),(.builtin "function.__dict__"),(.builtin "function.__dict__#set")],zF (.type "getset_descriptor") [(zS "__weakref__" 1323),(.ref 723),(.builtin "ExceptionGroup.__weakref__"),.none],zF (.type "super") [(.ref 723),(.ref 723),(.ref 723)],zF (.type "builtin_function_or_method") [(.builtin "object.__init_subclass__"),(.ref 723)]]++
 (aD 728 1328 630 1 (aF 100) "values_left" ["packer"] .none (zS "perlcore.packing" 1290)++
 (aD 735 1335 632 1 (aF 101) "next_value" ["packer"] .none (zS "perlcore.packing" 1290)++
 (aD 742 1342 639 1 (aF 102) "next_number" ["packer"] .none (zS "perlcore.packing" 1290)++
 (gV 749 1349 641 1 (aF 103) "next_codes" .none (zS "perlcore.packing" 1290)++
 (aD 754 1355 643 2 (aF 104) "lay_octets" ["packer","row"] .none (zS "perlcore.packing" 1290)++
 (aD 761 1363 647 2 (aF 105) "lay_noughts" ["packer","many"] .none (zS "perlcore.packing" 1290)++
 (aD 768 1371 651 3 (aF 106) "go_to_place" ["packer","place","letter"] .none (zS "perlcore.packing" 1290)++
 (aD 775 1380 658 2 (aF 107) "count_of_item" ["item","star"] .none (zS "perlcore.packing" 1290)++
 (aD 782 1388 662 2 (aF 108) "pack_text" ["packer","item","codes","size","kept"] .none (zS "perlcore.packing" 1290)++
 (aD 789 1399 671 2 (aF 109) "pack_digits" ["packer","item","codes","size"] .none (zS "perlcore.packing" 1290)++
 (aD 796 1409 680 2 (aF 110) "row_of_value" ["packer","item","letter","order","has_bang","count","inner","number"] .none (zS "perlcore.packing" 1290)++
 (aD 803 1423 688 2 (aF 111) "pack_numbers" ["packer","item","turn"] .none (zS "perlcore.packing" 1290)++
 (aD 810 1432 692 2 (aF 112) "pack_dot" ["packer","item","offset","base","back"] .none (zS "perlcore.packing" 1290)++
 (aD 817 1443 702 2 (aF 113) "pack_move" ["packer","item","letter","order","has_bang","count","inner","many"] .none (zS "perlcore.packing" 1290)++
 (aD 824 1457 709 2 (aF 114) "pack_group" ["packer","item","turn"] .none (zS "perlcore.packing" 1290)++
 (aD 831 1466 717 2 (aF 115) "pack_counted" ["packer","item","length","counted","letter","order","has_bang","count","inner","value"] .none (zS "perlcore.packing" 1290)++
 (aD 838 1482 730 1 (aF 116) "count_step" ["packer"] .none (zS "perlcore.packing" 1290)++
 (aD 845 1489 734 2 (aF 117) "pack_item" ["packer","item","letter"] .none (zS "perlcore.packing" 1290)++
 (aD 852 1498 753 2 (aF 118) "pack_items" ["packer","items","item"] .none (zS "perlcore.packing" 1290)++
 (gV 859 1507 756 3 (aF 119) "pack_values" .none (zS "perlcore.packing" 1290)++
 (aD 864 1515 761 2 (aF 121) "_law_cell" ["script","place"] .none (zS "law_qd0154_02" 1513)++
 (gV 871 1523 765 1 (aF 122) "_law_text" .none (zS "law_qd0154_02" 1513)++
 (gV 876 1529 767 4 (aF 123) "_law_heard" .none (zS "law_qd0154_02" 1513)++
 (aD 881 1535 776 2 (aF 124) "_law_sign" ["data","at"] .none (zS "law_qd0154_02" 1513)++
 (aD 888 1543 780 2 (aF 125) "_law_line" ["data","at","size","row","turn","number","k","six"] .none (zS "law_qd0154_02" 1513)++
 (aD 895 1557 795 1 (aF 126) "_law_lines" ["data","row","at","more"] .none (zS "law_qd0154_02" 1513)++
 (aD 902 1567 802 1 (aF 127) "_law_number" ["text","figures","sign","worth"] .none (zS "law_qd0154_02" 1513)++
 (gV 909 1577 811 3 (aF 128) "_law_length" .none (zS "law_qd0154_02" 1513)++
 (aD 914 1583 822 4 (aF 129) "_law_read" ["data","letter","count","counted","values","at","many","rest"] .none (zS "law_qd0154_02" 1513)++
 (gV 921 1597 832 4 (aF 130) "_law_laid" .none (zS "law_qd0154_02" 1513)++
 (gV 926 1603 843 1 (aF 131) "_law_lengths" .none (zS "law_qd0154_02" 1513)++
 (aD 931 1609 855 1 (aF 132) "_law_bounds" ["script","most","n","limits","template","size","wide","due"] .none (zS "law_qd0154_02" 1513)++
 (aD 938 1623 870 1 (aF 133) "_law_steps" ["script","n","m","template","need","steps","due","laid"] .none (zS "law_qd0154_02" 1513)++
 (aD 945 1637 883 1 (aF 134) "_law_deep" ["script","deep","blank","items","heights"] .none (zS "law_qd0154_02" 1513)++
 (gV 952 1648 895 1 (aF 135) "law" .none (zS "law_qd0154_02" 1513))))))))))))))))))))))))))))))))))))))))
def wu(P:Params):List Obj:=
 qD P++
 (ES P++
 (mU P++
 (wq P++
 (js P++
 (ke P++
 (qE P))))))
def dy(w:World)(os:OsState):SharedT:=⟨wo 12 (wu w.params),957,{},#[],{},1654,os⟩
noncomputable abbrev wx:Pos:=⟨895,0,899,100⟩
noncomputable def mV(n:Nat)(l:List Stmt)(s:World->OsState->SharedT)(p:Pos)(w:World)(os:OsState):=PySem.W.Fast.tw10110043849684766642 PySem.W.Fast.tw14364793385576792824 pw w 11 (some (.ref 6)) 1 n (s w os) (piecesOf l uC lT p fZ)
noncomputable def lA:List Stmt:=gU.take 50
noncomputable def lB:List Stmt:=(gU.drop 50).take 47
noncomputable def lC:List Stmt:=(gU.drop 50).drop 47
theorem ET(w:World)(os:OsState):mV 3800 lA S0 pZ (w.withFollow "special-get-raises" false) os=some (.next,uE (w.withFollow "special-get-raises" false) os,lT,uF):=by
 kernel_rfl
theorem EU(w:World)(os:OsState):mV 3800 lA S0 pZ (w.withFollow "special-get-raises" true) os=some (.next,uE (w.withFollow "special-get-raises" true) os,lT,uF):=by
 kernel_rfl
theorem MF(w:World)(os:OsState):mV 1900 lB uE uF w os=some (.next,Iv w os,lT,Iw):=by
 kernel_rfl
theorem MH(w:World)(os:OsState):mV 1800 lC Iv Iw w os=some (.next,dy w os,lT,wx):=by
 kernel_rfl
theorem EV(b:Bool)(w:World)(os:OsState):mV 3800 lA S0 pZ (w.withFollow "special-get-raises" b) os=some (.next,uE (w.withFollow "special-get-raises" b) os,lT,uF):=by
 cases b
 ·exact ET w os
 ·exact EU w os
theorem MI(w:World)(os:OsState):mV 3800 lA S0 pZ w os=some (.next,uE w os,lT,uF):=by
 have e:=World.withFollow_self w "special-get-raises";exact Eq.mp (congrArg (λv=>mV 3800 lA S0 pZ v os=some (.next,uE v os,lT,uF)) e) (EV (w.params.followText "special-get-raises") w os)
theorem mW{n:Nat}{l:List Stmt}{s s':World->OsState->SharedT}{p p':Pos}{w:World}{os:OsState}(h:mV n l s p w os=some (.next,s' w os,lT,p')):segRun treeTable pw w 11 (some (.ref 6)) 1 n (s w os).abs (piecesOf l uC lT p fZ)=some (.next,(s' w os).abs,lT,p'):=by
 refine segRun_of ?_;rw[←h];unfold mV;rw[PySem.W.Fast.te10110043849684766642,PySem.W.Fast.te14364793385576792824]
theorem EW:gU=lA++(lB++(lC++[])):=by
 unfold lA lB lC;rw[List.append_nil,List.take_append_drop,List.take_append_drop]
end Mine
end
section
namespace Mine
inductive LV where
 |au|none|bool (b:Bool)|int (i:Int)|str (s:List Nat)
 |tup (vs:List LV)|ag (vs:List LV)|ref (a:Nat)
inductive LO where
 |list (vs:List LV)
 |inst (c:Nat) (fs:List LV)
noncomputable abbrev LH:=List LO
inductive Out(α:Type) where
 |ok (a:α) (σ:LH)
 |err (c:Nat) (σ:LH)
 |bad
inductive av where
 |nx (ρ:List LV) (σ:LH)
 |ret (v:LV) (σ:LH)
 |brk (ρ:List LV) (σ:LH)
 |cont (ρ:List LV) (σ:LH)
 |err (c:Nat) (ρ:List LV) (σ:LH)
 |bad
inductive jo where|add|sub|mul|fdiv|mod|pow|shl|shr|band|bor
inductive jY where|eq|ne|lt|le|gt|ge|isin|kh|is|Iy
inductive Bi where|len|ord|chr|min|max|int|str|list|isInt|isStr|isRef
inductive Bm where|append|extend|pop|reverse|index|find|join|lstrip|rstrip
mutual
inductive Ex where
 |none|bool (b:Bool)|int (i:Int)|str (s:List Nat)
 |var (i:Nat)
 |a7 (g:Nat) (v:LV)
 |bin (o:jo) (a b:Ex)
 |neg (a:Ex)|not (a:Ex)
 |and (a b:Ex)|or (a b:Ex)
 |cmp (a:Ex) (o:jY) (b:Ex)
 |hY (a:Ex) (o1:jY) (b:Ex) (o2:jY) (c:Ex)
 |ite (c a b:Ex)
 |call (f:Nat) (as:dH)
 |meth (c m:Nat) (o:Ex) (as:dH)
 |new (c:Nat) (as:dH)
 |ki (c k:Nat) (e:Ex)
 |bi (b:Bi) (as:dH)
 |bm (b:Bm) (o:Ex) (as:dH)
 |attr (c j:Nat) (o:Ex)
 |sub (o i:Ex)
 |slice (o lo hi:Ex)
 |rev (o:Ex)
 |oW (g:Nat) (i:Ex)
 |list (es:dH)|tup (es:dH)
 |comp (elt it:Ex)
 |ag (e:Ex)
 |stuck
inductive dH where
 |nil
 |cons (e:Ex) (r:dH)
end
inductive Tg where
 |nm (x:Nat)
 |sD (c j:Nat) (o:Ex)
mutual
inductive St where
 |expr (e:Ex)
 |asg (x:Nat) (e:Ex)
 |de (c j:Nat) (o e:Ex)
 |dc (ts:List Tg) (e:Ex)
 |aug (x:Nat) (o:jo) (e:Ex)
 |eY (c j:Nat) (ob:Ex) (o:jo) (e:Ex)
 |ret (e:Ex)
 |lU
 |aV (c:Ex) (a b:bB)
 |eE (c:Ex) (b:bB)
 |cj (t:List Nat) (it:Ex) (b:bB)
 |forr (x:Nat) (n:Ex) (b:bB)
 |brk|cont
 |mX (b:bB) (hs:List (Nat×Ex))
 |raise (c:Nat) (as:dH)
 |stuck
inductive bB where
 |nil
 |cons (s:St) (r:bB)
end
structure LF where
 np:Nat
 nl:Nat
 dflt:List LV
 body:bB
inductive Tr(α:Type) where
 |nil
 |node (v:α) (l r:Tr α)
structure dR where
 dg:Tr LF
 init:List Nat
 meth:List (Nat×Nat×Nat)
 jI:List (List (List Nat×Int))
 memo:Nat->List LV->Option LV
structure Ev where
 e:Ex->List LV->LH->Out LV
 t:Ex->List LV->LH->Out Bool
 es:dH->List LV->LH->Out (List LV)
 s:St->List LV->LH->av
 ss:bB->List LV->LH->av
 call:Nat->List LV->LH->Out LV
 eE:Ex->bB->List LV->LH->av
 cj:List Nat->LV->Nat->bB->List LV->LH->av
 forr:Nat->Nat->Nat->bB->List LV->LH->av
 comp:Ex->LV->Nat->Nat->List LV->LH->Out LV
variable{α β γ:Type}
def cB(b:Bool)(x y:β):β:=@Bool.rec (λ_=>β) y x b
def cO(o:Option α)(f:α->β)(d:β):β:=@Option.rec α (λ_=>β) d f o
def cL(l:List α)(d:β)(f:α->List α->β):β:=@List.rec α (λ_=>β) d (λa r _=>f a r) l
def cI(i:Int)(f g:Nat->β):β:=@Int.rec (λ_=>β) f g i
noncomputable def cN(n:Nat)(d:β)(f:Nat->β):β:=@Nat.rec (λ_=>β) d (λm _=>f m) n
def oB(x:Out α)(f:α->LH->Out β):Out β:=@Out.rec α (λ_=>Out β) f (λc σ=>.err c σ) .bad x
def Iz(x:Out α)(f:α->LH->Out β):Out β:=@Out.rec α (λ_=>Out β) f (λ_ _=>.bad) .bad x
def oS(x:Out α)(ρ:List LV)(f:α->LH->av):av:=@Out.rec α (λ_=>av) f (λc σ=>.err c ρ σ) .bad x
def oN(o:Option α)(f:α->Out β):Out β:=@Option.rec α (λ_=>Out β) .bad f o
def jJ(o:Option α)(f:α->av):av:=@Option.rec α (λ_=>av) .bad f o
def bN(b:Bool)(x:Out β):Out β:=@Bool.rec (λ_=>Out β) .bad x b
def eQ(au none:β)(bool:Bool->β)(int:Int->β)(str:List Nat->β)(tup ag:List LV->β)(ref:Nat->β)(v:LV):β:=
 @LV.rec (λ_=>β) (λ_=>PUnit) au none bool int str (λvs _=>tup vs) (λvs _=>ag vs) ref ⟨⟩ (λ_ _ _ _=>⟨⟩) v
def ct(d:β)(f:Int->β)(v:LV):β:=eQ d d (λ_=>d) f (λ_=>d) (λ_=>d) (λ_=>d) (λ_=>d) v
def cG(d:β)(f:List Nat->β)(v:LV):β:=eQ d d (λ_=>d) (λ_=>d) f (λ_=>d) (λ_=>d) (λ_=>d) v
def mY(d:β)(f:Bool->β)(v:LV):β:=eQ d d f (λ_=>d) (λ_=>d) (λ_=>d) (λ_=>d) (λ_=>d) v
def oX(d:β)(f:Nat->β)(v:LV):β:=eQ d d (λ_=>d) (λ_=>d) (λ_=>d) (λ_=>d) (λ_=>d) f v
def bC(d:β)(f:List LV->β)(o:LO):β:=@LO.rec (λ_=>β) f (λ_ _=>d) o
def jt(d:β)(f:Nat->List LV->β)(o:LO):β:=@LO.rec (λ_=>β) (λ_=>d) f o
def bf(l:List α):Nat->Option α:=@List.rec α (λ_=>Nat->Option α) (λ_=>none) (λa _ ih n=>@Nat.rec (λ_=>Option α) (some a) (λm _=>ih m) n) l
def len(l:List α):Nat:=@List.rec α (λ_=>Nat) 0 (λ_ _ ih=>Nat.add ih 1) l
def app(l m:List α):List α:=@List.rec α (λ_=>List α) m (λa _ ih=>a::ih) l
def aW(l:List α)(v:α):Nat->List α:=@List.rec α (λ_=>Nat->List α) (λ_=>[]) (λa r ih n=>@Nat.rec (λ_=>List α) (v::r) (λm _=>a::ih m) n) l
def eZ(l:List α):Nat->List α:=@List.rec α (λ_=>Nat->List α) (λ_=>[]) (λa _ ih n=>@Nat.rec (λ_=>List α) [] (λm _=>a::ih m) n) l
def oY(l:List α):Nat->List α:=@List.rec α (λ_=>Nat->List α) (λ_=>[]) (λa r ih n=>@Nat.rec (λ_=>List α) (a::r) (λm _=>ih m) n) l
def EX(l:List α):List α->List α:=@List.rec α (λ_=>List α->List α) (λacc=>acc) (λa _ ih acc=>ih (a::acc)) l
def rev(l:List α):List α:=EX l []
def Tr.get(t:Tr α):Nat->Option α:=@Tr.rec α (λ_=>Nat->Option α) (λ_=>none)
 (λv _ _ l r i=>cB (Nat.beq i 0) (some v) (cB (Nat.beq (i%2) 1) (l (i/2)) (r (Nat.sub (i/2) 1)))) t
def hZ(b:Bool):Bool:=cB b false true
def EY(a b:Bool):Bool:=cB a b (hZ b)
def kj(a b:Int):Bool:=cI a (λx=>cI b (λy=>Nat.blt x y) (λ_=>false)) (λx=>cI b (λ_=>true) (λy=>Nat.blt y x))
def Dr(a b:Int):Bool:=cB (kj b a) false true
def oZ(a b:Int):Bool:=cI a (λx=>cI b (λy=>Nat.beq x y) (λ_=>false)) (λx=>cI b (λ_=>false) (λy=>Nat.beq x y))
def iadd(a b:Int):Int:=cI a (λx=>cI b (λy=>.ofNat (Nat.add x y)) (λ_=>a+b)) (λ_=>a+b)
def seq(x:List Nat):List Nat->Bool:=@List.rec Nat (λ_=>List Nat->Bool) (λy=>cL y true (λ_ _=>false)) (λa _ ih y=>cL y false (λb r=>cB (Nat.beq a b) (ih r) false)) x
def ia(c:Nat)(l:List Nat):Bool:=@List.rec Nat (λ_=>Bool) false (λa _ ih=>cB (Nat.beq a c) true ih) l
def fX(c:Nat)(l:List Nat):Nat->Option Nat:=@List.rec Nat (λ_=>Nat->Option Nat) (λ_=>none) (λa _ ih k=>cB (Nat.beq a c) (some k) (ih (Nat.add k 1))) l
def ju(p:Nat->Bool)(l:List Nat):List Nat:=@List.rec Nat (λ_=>List Nat) [] (λa r ih=>cB (p a) ih (a::r)) l
def band(a b:Bool):Bool:=cB a b false
def b6(a:Int):Bool:=cI a (λn=>Nat.blt n 1000000000000000000) (λn=>Nat.blt n 1000000000000000000)
noncomputable def wide(n:Nat):Bool:=Nat.blt n 115792089237316195423570985008687907853269984665640564039457584007913129639936
noncomputable def small(n:Nat):Bool:=Nat.blt n 1000000
def itemsOf(v:LV)(σ:LH):Option (List LV):=
 eQ none none (λ_=>none) (λ_=>none) (λ_=>none) some some (λr=>cO (bf σ r) (bC none some) none) v
def listOf?(v:LV)(σ:LH):Option (List LV):=
 eQ none none (λ_=>none) (λ_=>none) (λ_=>none) (λ_=>none) some (λr=>cO (bf σ r) (bC none some) none) v
def iL(v:LV)(i:Nat)(σ:LH):Option (Option LV):=cO (itemsOf v σ) (λvs=>some (bf vs i)) none
def wy(s:List Nat)(i:Nat):Option (Option LV):=cO (bf s i) (λc=>some (some (.str [c]))) (some none)
def item?(v:LV)(i:Nat)(σ:LH):Option (Option LV):=
 eQ none none (λ_=>none) (λ_=>none) (λs=>wy s i) (λvs=>some (bf vs i)) (λvs=>some (bf vs i)) (λ_=>iL v i σ) v
def alloc(σ:LH)(o:LO):Out LV:=.ok (.ref (len σ)) (app σ [o])
def eqv(a b:LV):Option Bool:=
 eQ none none (λx=>mY none (λy=>some (EY x y)) b) (λx=>ct none (λy=>some (oZ x y)) b) (λx=>cG none (λy=>some (seq x y)) b) (λ_=>none) (λ_=>none) (λ_=>none) a
def wz(l:List LV):List LV->Option Bool:=@List.rec LV (λ_=>List LV->Option Bool) (λm=>cL m (some true) (λ_ _=>some false))
 (λa _ ih m=>cL m (some false) (λb q=>cO (eqv a b) (λt=>cO (ih q) (λr=>some (cB t r false)) none) none)) l
def o6(l:List LV):List LV->Bool:=@List.rec LV (λ_=>List LV->Bool) (λm=>cL m true (λ_ _=>false))
 (λ_ _ ih m=>cL m false (λ_ q=>ih q)) l
def sE(a b:LV)(σ:LH):Option Bool:=cO (listOf? a σ) (λxs=>cO (listOf? b σ) (λys=>cB (o6 xs ys) (wz xs ys) (some false)) none) none
def EZ(x:List Nat)(b:LV)(σ:LH):Option Bool:=cG (cO (listOf? b σ) (λ_=>some false) none) (λy=>some (seq x y)) b
def mZ(a b:LV)(σ:LH):Option Bool:=cG (sE a b σ) (λ_=>cO (listOf? a σ) (λ_=>some false) none) b
def E0(a b:LV)(σ:LH):Option Bool:=
 eQ none none (λx=>mY none (λy=>some (EY x y)) b) (λx=>ct none (λy=>some (oZ x y)) b) (λx=>EZ x b σ) (λ_=>none) (λ_=>mZ a b σ) (λ_=>mZ a b σ) a
def qF(i:Int)(l:List LV):Option Bool:=@List.rec LV (λ_=>Option Bool) (some false) (λv _ ih=>ct none (λa=>cO ih (λr=>some (cB (oZ a i) true r)) none) v) l
def qG(s:List Nat)(l:List LV):Option Bool:=@List.rec LV (λ_=>Option Bool) (some false) (λv _ ih=>cG none (λa=>cO ih (λr=>some (cB (seq a s) true r)) none) v) l
def IB(t s:List Nat):Option Bool:=cL t none (λc r=>cL r (some (ia c s)) (λ_ _=>none))
def IC(t:List Nat)(b:LV):Option Bool:=eQ none none (λ_=>none) (λ_=>none) (λs=>IB t s) (λvs=>qG t vs) (λ_=>none) (λ_=>none) b
def ID(i:Int)(b:LV)(σ:LH):Option Bool:=cO (listOf? b σ) (λvs=>qF i vs) none
def E1(a b:LV)(σ:LH):Option Bool:=
 eQ none none (λ_=>none) (λi=>ID i b σ) (λs=>IC s b) (λ_=>none) (λ_=>none) (λ_=>none) a
def uG(f:Int->Int->Bool)(a b:LV):Option Bool:=ct none (λx=>ct none (λy=>some (f x y)) b) a
def jv(o:Option Bool):Option Bool:=cO o (λb=>some (hZ b)) none
def isNone(a b:LV):Option Bool:=eQ none (eQ none (some true) (λ_=>none) (λ_=>none) (λ_=>none) (λ_=>none) (λ_=>none) (λ_=>none) b) (λ_=>none)
 (λ_=>eQ none (some false) (λ_=>none) (λ_=>none) (λ_=>none) (λ_=>none) (λ_=>none) (λ_=>none) b)
 (λ_=>eQ none (some false) (λ_=>none) (λ_=>none) (λ_=>none) (λ_=>none) (λ_=>none) (λ_=>none) b) (λ_=>none) (λ_=>none) (λ_=>none) a
def IE(a b:LV)(σ:LH):=E0 a b σ
def IF(a b:LV)(σ:LH):=jv (E0 a b σ)
def IG(a b:LV)(_:LH):=uG kj a b
def IH(a b:LV)(_:LH):=uG Dr a b
def II(a b:LV)(_:LH):=uG (λx y=>kj y x) a b
def IJ(a b:LV)(_:LH):=uG (λx y=>Dr y x) a b
def IK(a b:LV)(σ:LH):=E1 a b σ
def wA(a b:LV)(σ:LH):=jv (E1 a b σ)
def IM(a b:LV)(_:LH):=isNone a b
def wB(a b:LV)(_:LH):=jv (isNone a b)
def ao(o:jY):LV->LV->LH->Option Bool:=@jY.rec (λ_=>LV->LV->LH->Option Bool) IE IF IG IH II IJ IK wA IM wB o
def truth(v:LV):Option Bool:=eQ none (some false) some (λi=>some (hZ (oZ i 0))) (λ_=>none) (λ_=>none) (λ_=>none) (λ_=>none) v
def intOf(v:LV):Option Int:=eQ none none (λb=>some (cB b (.ofNat 1) (.ofNat 0))) some (λ_=>none) (λ_=>none) (λ_=>none) (λ_=>none) v
def AW(vs:List α)(n:Nat):List α:=@Nat.rec (λ_=>List α) [] (λ_ ih=>app vs ih) n
def kl(i:Int):Nat:=cI i (λn=>n) (λ_=>0)
def IP(x:Int)(b:LV)(σ:LH):Out LV:=
 eQ .bad .bad (λy=>bN (b6 x) (.ok (.int (cB y (iadd x (.ofNat 1)) x)) σ)) (λy=>.ok (.int (iadd x y)) σ) (λ_=>.bad) (λ_=>.bad) (λ_=>.bad) (λ_=>.bad) b
def IQ(x:List Nat)(b:LV)(σ:LH):Out LV:=cG .bad (λy=>bN (small (Nat.add (len x) (len y))) (.ok (.str (app x y)) σ)) b
def E2(a b:LV)(σ:LH):Out LV:=oN (listOf? a σ) λxs=>oN (listOf? b σ) λys=>bN (small (Nat.add (len xs) (len ys))) (alloc σ (.list (app xs ys)))
def IS(a b:LV)(σ:LH):Out LV:=eQ .bad .bad (λ_=>.bad) (λx=>IP x b σ) (λx=>IQ x b σ) (λ_=>.bad) (λ_=>E2 a b σ) (λ_=>E2 a b σ) a
def dz(f:Int->Int->Out LV)(a b:LV):Out LV:=ct .bad (λx=>ct .bad (λy=>f x y) b) a
def ib(f:Nat->Nat->Out LV)(x y:Int):Out LV:=cI x (λm=>cI y (λn=>f m n) (λ_=>.bad)) (λ_=>.bad)
def AX(a b:LV)(σ:LH):Out LV:=dz (λx y=>.ok (.int (x-y)) σ) a b
def MJ(x:Int)(b:LV)(σ:LH):Out LV:=ct .bad (λy=>bN (band (b6 x) (b6 y)) (.ok (.int (x*y)) σ)) b
def MK(x:List Nat)(b:LV)(σ:LH):Out LV:=ct .bad (λy=>bN (band (b6 y) (small (Nat.mul (len x) (kl y)))) (.ok (.str (AW x (kl y))) σ)) b
def mulL(a b:LV)(σ:LH):Out LV:=ct .bad (λy=>oX .bad (λ_=>oN (listOf? a σ) λxs=>bN (band (b6 y) (small (Nat.mul (len xs) (kl y)))) (alloc σ (.list (AW xs (kl y))))) a) b
def IT(a b:LV)(σ:LH):Out LV:=eQ .bad .bad (λ_=>.bad) (λx=>MJ x b σ) (λx=>MK x b σ) (λ_=>.bad) (λ_=>mulL a b σ) (λ_=>mulL a b σ) a
def sF(a b:LV)(σ:LH):Out LV:=dz (λx y=>bN (band (kj 0 y) (b6 y)) (.ok (.int (Int.fdiv x y)) σ)) a b
def AY(a b:LV)(σ:LH):Out LV:=dz (λx y=>bN (kj 0 y) (.ok (.int (Int.fmod x y)) σ)) a b
def IU(a b:LV)(σ:LH):Out LV:=dz (ib λm n=>bN (band (Nat.beq m 10) (Nat.beq n 9)) (.ok (.int (.ofNat (Nat.pow m n))) σ)) a b
def IV(a b:LV)(σ:LH):Out LV:=dz (ib λm n=>bN (band (Nat.blt m 18446744073709551616) (Nat.blt n 128)) (.ok (.int (.ofNat (Nat.mul m (Nat.pow 2 n)))) σ)) a b
def AZ(a b:LV)(σ:LH):Out LV:=dz (ib λm n=>bN (Nat.blt n 128) (.ok (.int (.ofNat (Nat.div m (Nat.pow 2 n)))) σ)) a b
def IW(a b:LV)(σ:LH):Out LV:=dz (ib λm n=>.ok (.int (.ofNat (Nat.land m n))) σ) a b
def PX(a b:LV)(σ:LH):Out LV:=dz (ib λm n=>.ok (.int (.ofNat (Nat.lor m n))) σ) a b
def ay(o:jo):LV->LV->LH->Out LV:=@jo.rec (λ_=>LV->LV->LH->Out LV) IS AX IT sF AY IU IV AZ IW PX o
def wC(r:Nat)(b:LV)(σ:LH)(o:LO):Out LV:=bC .bad (λxs=>oN (listOf? b σ) λys=>bN (small (Nat.add (len xs) (len ys))) (.ok (.ref r) (aW σ (.list (app xs ys)) r))) o
def IY(a b:LV)(σ:LH):Out LV:=eQ .bad .bad (λ_=>.bad) (λx=>IP x b σ) (λx=>IQ x b σ) (λ_=>.bad) (λ_=>.bad) (λr=>oN (bf σ r) (wC r b σ)) a
noncomputable def o7(_ _:LV)(_:LH):Out LV:=.bad
def dh(o:jo):LV->LV->LH->Out LV:=@jo.rec (λ_=>LV->LV->LH->Out LV) IY AX o7 sF AY o7 o7 AZ o7 o7 o
def idx(i:Int)(n:Nat):Option Nat:=cI i (λk=>cB (Nat.blt k n) (some k) none) (λk=>cB (Nat.blt k n) (some (Nat.sub n (Nat.add k 1))) none)
def clamp(i:Int)(n:Nat):Nat:=cI i (λk=>cB (Nat.blt k n) k n) (λk=>Nat.sub n (Nat.add k 1))
def cut(xs:List α)(lo hi:Nat):List α:=eZ (oY xs lo) (Nat.sub hi lo)
def IZ(s:List Nat)(k:Int):Option LV:=cO (idx k (len s)) (λj=>cO (bf s j) (λc=>some (.str [c])) none) none
def uH(vs:List LV)(k:Int):Option LV:=cO (idx k (len vs)) (λj=>bf vs j) none
def E3(o:LV)(σ:LH)(k:Int):Option LV:=
 eQ none none (λ_=>none) (λ_=>none) (λs=>IZ s k) (λvs=>uH vs k) (λvs=>uH vs k) (λ_=>cO (itemsOf o σ) (λvs=>uH vs k) none) o
def Ds(o i:LV):Bool:=eQ true true (λ_=>eQ false false (λ_=>false) (λ_=>false) (λ_=>false) (λ_=>false) (λ_=>true) (λ_=>true) o) (λ_=>true) (λ_=>true) (λ_=>true) (λ_=>true) (λ_=>true) i
def bH(o i:LV)(σ:LH):Option LV:=cO (intOf i) (λk=>cB (band (b6 k) (Ds o i)) (E3 o σ k) none) none
def ML(v:LV)(d n:Nat):Option Nat:=eQ none (some d) (λb=>some (clamp (cB b (.ofNat 1) (.ofNat 0)) n)) (λk=>some (clamp k n)) (λ_=>none) (λ_=>none) (λ_=>none) (λ_=>none) v
def qH(v:LV)(d n:Nat):Option Nat:=eQ none (some d) (λ_=>none) (λk=>some (clamp k n)) (λ_=>none) (λ_=>none) (λ_=>none) (λ_=>none) v
def E4(s:List Nat)(lo hi:LV)(σ:LH):Out LV:=bN (small (len s)) (oN (ML lo 0 (len s)) λl=>oN (ML hi (len s) (len s)) λh=>.ok (.str (cut s l h)) σ)
def cT(vs:List LV)(lo hi:LV)(σ:LH):Out LV:=bN (small (len vs)) (oN (qH lo 0 (len vs)) λl=>oN (qH hi (len vs) (len vs)) λh=>alloc σ (.list (cut vs l h)))
def bA(o lo hi:LV)(σ:LH):Out LV:=
 eQ .bad .bad (λ_=>.bad) (λ_=>.bad) (λs=>E4 s lo hi σ) (λ_=>.bad) (λvs=>cT vs lo hi σ) (λ_=>oN (listOf? o σ) λvs=>cT vs lo hi σ) o
def A0(k:Nat):Nat->List Nat->List Nat:=@Nat.rec (λ_=>Nat->List Nat->List Nat) (λ_ acc=>acc)
 (λ_ ih n acc=>cB (Nat.blt n 10) (Nat.add 48 n::acc) (ih (n/10) (Nat.add 48 (n%10)::acc))) k
def sG(c:Nat):Bool:=band (Nat.ble 48 c) (Nat.ble c 57)
def m8(l:List Nat):Nat->Nat:=@List.rec Nat (λ_=>Nat->Nat) (λa=>a) (λc _ ih a=>ih (Nat.add (Nat.mul a 10) (Nat.sub c 48))) l
def m9(l:List Nat):Bool:=@List.rec Nat (λ_=>Bool) true (λc _ ih=>band (sG c) ih) l
def km(l:List LV):Option (List Nat):=@List.rec LV (λ_=>Option (List Nat)) (some []) (λv _ ih=>cG none (λs=>cO ih (λq=>some (app s q)) none) v) l
def one(f:LV->LH->Out LV)(vs:List LV)(σ:LH):Out LV:=cL vs .bad (λv r=>cL r (f v σ) (λ_ _=>.bad))
def two(f:LV->LV->LH->Out LV)(vs:List LV)(σ:LH):Out LV:=cL vs .bad (λv r=>cL r .bad (λw q=>cL q (f v w σ) (λ_ _=>.bad)))
def Dt(v:LV)(σ:LH):Out LV:=cG (oN (itemsOf v σ) λxs=>bN (small (len xs)) (.ok (.int (.ofNat (len xs))) σ)) (λs=>bN (small (len s)) (.ok (.int (.ofNat (len s))) σ)) v
def Du(v:LV)(σ:LH):Out LV:=cG .bad (λs=>cL s .bad (λc r=>cL r (.ok (.int (.ofNat c)) σ) (λ_ _=>.bad))) v
def Dv(v:LV)(σ:LH):Out LV:=ct .bad (λi=>cI i (λn=>bN (Nat.blt n 256) (.ok (.str [n]) σ)) (λ_=>.bad)) v
def Dw(a b:LV)(σ:LH):Out LV:=dz (λx y=>.ok (.int (cB (kj y x) y x)) σ) a b
def Dx(a b:LV)(σ:LH):Out LV:=dz (λx y=>.ok (.int (cB (kj x y) y x)) σ) a b
def Dy(v:LV)(σ:LH):Out LV:=cG .bad (λs=>cL s .bad (λ_ _=>bN (band (m9 s) (Nat.blt (len s) 100)) (.ok (.int (.ofNat (m8 s 0))) σ))) v
def Dz(v:LV)(σ:LH):Out LV:=ct .bad (λi=>cI i (λn=>bN (Nat.blt n 10000000000) (.ok (.str (A0 20 n [])) σ)) (λ_=>.bad)) v
def wD(v:LV)(σ:LH):Out LV:=oN (listOf? v σ) λxs=>bN (small (len xs)) (alloc σ (.list xs))
def sH(v:LV)(σ:LH):Out LV:=eQ .bad .bad (λ_=>.bad) (λ_=>.ok (.bool true) σ) (λ_=>.ok (.bool false) σ) (λ_=>.bad) (λ_=>.bad) (λ_=>.bad) v
def sI(v:LV)(σ:LH):Out LV:=eQ .bad .bad (λ_=>.bad) (λ_=>.ok (.bool false) σ) (λ_=>.ok (.bool true) σ) (λ_=>.bad) (λ_=>.bad) (λ_=>.bad) v
def sJ(v:LV)(σ:LH):Out LV:=cG .bad (λ_=>.ok (.bool false) σ) v
def e6(b:Bi):List LV->LH->Out LV:=@Bi.rec (λ_=>List LV->LH->Out LV) (one Dt) (one Du) (one Dv) (two Dw) (two Dx) (one Dy) (one Dz) (one wD) (one sH) (one sI) (one sJ) b
def qI(l:List LV):Option (LV×List LV):=@List.rec LV (λ_=>Option (LV×List LV)) none (λa r ih=>cL r (some (a,[])) (λ_ _=>cO ih (λp=>some (p.1,a::p.2)) none)) l
def gG(i:Int)(l:List LV):Nat->Option Nat:=@List.rec LV (λ_=>Nat->Option Nat) (λ_=>none) (λv _ ih k=>ct none (λa=>cB (oZ a i) (some k) (ih (Nat.add k 1))) v) l
def dY(o:LV)(σ:LH)(f:Nat->List LV->Out LV):Out LV:=oX .bad (λr=>oN (bf σ r) (bC .bad (f r))) o
def fY(o v:LV)(σ:LH):Out LV:=dY o σ λr xs=>bN (small (len xs)) (.ok .none (aW σ (.list (app xs [v])) r))
def kq(o v:LV)(σ:LH):Out LV:=dY o σ λr xs=>oN (listOf? v σ) λys=>bN (small (Nat.add (len xs) (len ys))) (.ok .none (aW σ (.list (app xs ys)) r))
def wF(o:LV)(σ:LH):Out LV:=dY o σ λr xs=>bN (small (len xs))<|oN (qI xs) λp=>.ok p.1 (aW σ (.list p.2) r)
def jw(o:LV)(σ:LH):Out LV:=dY o σ λr xs=>bN (small (len xs))<|.ok .none (aW σ (.list (rev xs)) r)
def wG(s t:List Nat)(σ:LH):Out LV:=cL t .bad (λc r=>cL r (oN (fX c s 0) λk=>.ok (.int (.ofNat k)) σ) (λ_ _=>.bad))
def allInts(l:List LV):Bool:=@List.rec LV (λ_=>Bool) true (λv _ ih=>ct false (λ_=>ih) v) l
def sL(o v:LV)(σ:LH):Out LV:=cG (ct .bad (λi=>dY o σ λ_ xs=>bN (band (allInts xs) (small (len xs))) (oN (gG i xs 0) λk=>.ok (.int (.ofNat k)) σ)) v) (λs=>cG .bad (λt=>wG s t σ) v) o
def A1(s t:List Nat)(σ:LH):Out LV:=cL t .bad (λc r=>cL r (cO (fX c s 0) (λk=>.ok (.int (.ofNat k)) σ) (.ok (.int (.negSucc 0)) σ)) (λ_ _=>.bad))
def wH(o v:LV)(σ:LH):Out LV:=cG .bad (λs=>cG .bad (λt=>A1 s t σ) v) o
def wI(o v:LV)(σ:LH):Out LV:=cG .bad (λs=>cL s (oN (listOf? v σ) λxs=>oN (km xs) λt=>bN (small (len t)) (.ok (.str t) σ)) (λ_ _=>.bad)) o
def o8(o v:LV)(σ:LH):Out LV:=cG .bad (λs=>cG .bad (λt=>bN (small (len s))<|.ok (.str (ju (λc=>ia c t) s)) σ) v) o
def o9(o v:LV)(σ:LH):Out LV:=cG .bad (λs=>cG .bad (λt=>bN (small (len s))<|.ok (.str (rev (ju (λc=>ia c t) (rev s)))) σ) v) o
def m0(f:LV->LH->Out LV)(o:LV)(vs:List LV)(σ:LH):Out LV:=cL vs (f o σ) (λ_ _=>.bad)
def m1(f:LV->LV->LH->Out LV)(o:LV)(vs:List LV)(σ:LH):Out LV:=cL vs .bad (λv r=>cL r (f o v σ) (λ_ _=>.bad))
def jZ(b:Bm):LV->List LV->LH->Out LV:=@Bm.rec (λ_=>LV->List LV->LH->Out LV) (m1 fY) (m1 kq) (m0 wF) (m0 jw) (m1 sL) (m1 wH) (m1 wI) (m1 o8) (m1 o9) b
def bj(c j:Nat)(o:LV)(σ:LH):Option LV:=oX none (λr=>cO (bf σ r) (jt none (λc' fs=>cB (Nat.beq c c') (bf fs j) none)) none) o
def putAt(l:List LV)(v:LV):Nat->Option (List LV):=@List.rec LV (λ_=>Nat->Option (List LV)) (λj=>cN j (some [v]) (λ_=>none))
 (λa r ih j=>@Nat.rec (λ_=>Option (List LV)) (some (v::r)) (λm _=>cO (ih m) (λq=>some (a::q)) none) j) l
def bO(c j:Nat)(o v:LV)(σ:LH):Option LH:=oX none (λr=>cO (bf σ r) (jt none (λc' fs=>cB (Nat.beq c c') (cO (putAt fs v j) (λq=>some (aW σ (.inst c q) r)) none) none)) none) o
def below(n:Nat)(v:LV):Bool:=@LV.rec (λ_=>Bool) (λ_=>Bool) true true (λ_=>true) (λ_=>true) (λ_=>true) (λ_ ih=>ih) (λ_ _=>true) (λr=>Nat.blt r n) true (λ_ _ a b=>band a b) v
def belows(n:Nat)(l:List LV):Bool:=@List.rec LV (λ_=>Bool) true (λv _ ih=>band (below n v) ih) l
def aZ(n:Nat)(o:LO):Bool:=@LO.rec (λ_=>Bool) (λvs=>belows n vs) (λ_ fs=>belows n fs) o
def fD(n:Nat)(σ:LH):Nat->Bool:=@List.rec LO (λ_=>Nat->Bool) (λ_=>true) (λo _ ih k=>@Nat.rec (λ_=>Bool) true (λm _=>band (aZ n o) (ih m)) k) σ
def eR(f:LV->Option LV)(l:List LV):Option (List LV):=@List.rec LV (λ_=>Option (List LV)) (some []) (λv _ ih=>cO (f v) (λx=>cO ih (λq=>some (x::q)) none) none) l
def PY(σ:LH)(n0:Nat)(f:LV->Option LV)(v:LV):Option LV:=
 eQ (some v) (some v) (λ_=>some v) (λ_=>some v) (λ_=>some v) (λvs=>cO (eR f vs) (λq=>some (.tup q)) none) (λ_=>some v)
  (λr=>cB (Nat.blt r n0) none (cO (bf σ r) (bC none (λvs=>cO (eR f vs) (λq=>some (.ag q)) none)) none)) v
def fz(σ:LH)(n0 k:Nat):LV->Option LV:=@Nat.rec (λ_=>LV->Option LV) (λ_=>none) (λ_ ih=>PY σ n0 ih) k
def freeze(n0:Nat)(v:LV)(σ:LH):Out LV:=bN (fD n0 σ n0) (oN (fz σ n0 64 v) λv'=>.ok v' (eZ σ n0))
def pb(c m:Nat)(l:List (Nat×Nat×Nat)):Option Nat:=@List.rec (Nat×Nat×Nat) (λ_=>Option Nat) none (λp _ ih=>cB (band (Nat.beq p.1 c) (Nat.beq p.2.1 m)) (some p.2.2) ih) l
def wJ(s:List Nat)(l:List (List Nat×Int)):Option Int:=@List.rec (List Nat×Int) (λ_=>Option Int) none (λp _ ih=>cB (seq p.1 s) (some p.2) ih) l
noncomputable def kr(n:Nat):List LV:=@Nat.rec (λ_=>List LV) [] (λ_ ih=>.au::ih) n
def places(f:LF)(vs:List LV):Option (List LV):=
 cB (Nat.beq (Nat.add (len vs) (len f.dflt)) f.np) (some (app (app vs f.dflt) (kr (Nat.sub f.nl f.np)))) none
def placesK(f:LF)(self:LV)(k:Nat)(v:LV):Option (List LV):=
 cB (band (Nat.beq (Nat.add (len f.dflt) 1) f.np) (Nat.blt k (len f.dflt))) (some (app (self::aW f.dflt v k) (kr (Nat.sub f.nl f.np)))) none
noncomputable abbrev gW:=dR->Ev->List LV->LH->Out LV
noncomputable def I0:gW:=λ_ _ _ σ=>.ok .none σ
noncomputable def I5(b:Bool):gW:=λ_ _ _ σ=>.ok (.bool b) σ
noncomputable def MM(i:Int):gW:=λ_ _ _ σ=>.ok (.int i) σ
noncomputable def MN(s:List Nat):gW:=λ_ _ _ σ=>.ok (.str s) σ
def MO(i:Nat):gW:=λ_ _ ρ σ=>oN (bf ρ i) λv=>eQ .bad (.ok v σ) (λ_=>.ok v σ) (λ_=>.ok v σ) (λ_=>.ok v σ) (λ_=>.ok v σ) (λ_=>.ok v σ) (λ_=>.ok v σ) v
noncomputable def I7(_:Nat)(v:LV):gW:=λ_ _ _ σ=>.ok v σ
def I8(o:jo)(a b:Ex):gW:=λ_ r ρ σ=>oB (r.e a ρ σ) λx σ=>oB (r.e b ρ σ) λy σ=>ay o x y σ
def I9(a:Ex):gW:=λ_ r ρ σ=>oB (r.e a ρ σ) λx σ=>ct .bad (λi=>bN (b6 i) (.ok (.int (-i)) σ)) x
def Ja(a:Ex):gW:=λ_ r ρ σ=>oB (r.e a ρ σ) λx σ=>oN (truth x) λb=>.ok (.bool (hZ b)) σ
def E5(a b:Ex):gW:=λ_ r ρ σ=>oB (r.e a ρ σ) λx σ=>oN (truth x) λt=>cB t (r.e b ρ σ) (.ok x σ)
def MP(a b:Ex):gW:=λ_ r ρ σ=>oB (r.e a ρ σ) λx σ=>oN (truth x) λt=>cB t (.ok x σ) (r.e b ρ σ)
def Jb(a:Ex)(o:jY)(b:Ex):gW:=λ_ r ρ σ=>oB (r.e a ρ σ) λx σ=>oB (r.e b ρ σ) λy σ=>oN (ao o x y σ) λc=>.ok (.bool c) σ
def DA(a:Ex)(o1:jY)(b:Ex)(o2:jY)(c:Ex):gW:=λ_ r ρ σ=>oB (r.e a ρ σ) λx σ=>oB (r.e b ρ σ) λy σ=>oN (ao o1 x y σ) λt=>
 cB t (oB (r.e c ρ σ) λz σ=>oN (ao o2 y z σ) λu=>.ok (.bool u) σ) (.ok (.bool false) σ)
def Jc(c a b:Ex):gW:=λ_ r ρ σ=>oB (r.t c ρ σ) λt σ=>cB t (r.e a ρ σ) (r.e b ρ σ)
def ah(P:dR)(C:Nat->List LV->LH->Out LV)(f:Nat)(vs:List LV)(σ:LH):Out LV:=cO (P.memo f vs) (λv=>.ok v σ) (oN (P.dg.get f) λlf=>oN (places lf vs) λρ=>C f ρ σ)
def DB(f:Nat)(as:dH):gW:=λP r ρ σ=>oB (r.es as ρ σ) λvs σ=>ah P r.call f vs σ
def wK(c:Nat)(x:LV)(σ:LH):Bool:=oX false (λk=>cO (bf σ k) (jt false (λc' _=>Nat.beq c c')) false) x
def DC(c m:Nat)(o:Ex)(as:dH):gW:=λP r ρ σ=>oB (r.e o ρ σ) λx σ=>bN (wK c x σ) (oN (pb c m P.meth) λf=>oB (r.es as ρ σ) λvs σ=>ah P r.call f (x::vs) σ)
def jx(k:Nat)(x:LV)(σ:LH):Out LV:=eQ .bad (.ok (.ref k) σ) (λ_=>.bad) (λ_=>.bad) (λ_=>.bad) (λ_=>.bad) (λ_=>.bad) (λ_=>.bad) x
def eNew(c:Nat)(as:dH):gW:=λP r ρ σ=>oB (r.es as ρ σ) λvs σ=>oN (bf P.init c) λf=>oN (P.dg.get f) λlf=>oN (places lf (.ref (len σ)::vs)) λaU=>oB (r.call f aU (app σ [.inst c []])) (jx (len σ))
def DD(c k:Nat)(e:Ex):gW:=λP r ρ σ=>oB (r.e e ρ σ) λv σ=>oN (bf P.init c) λf=>oN (P.dg.get f) λlf=>oN (placesK lf (.ref (len σ)) k v) λaU=>oB (r.call f aU (app σ [.inst c []])) (jx (len σ))
def A2(b:Bi)(as:dH):gW:=λ_ r ρ σ=>oB (r.es as ρ σ) λvs σ=>e6 b vs σ
def DE(b:Bm):Bool:=@Bm.rec (λ_=>Bool) false false false false true true true true true b
def wL(b:Bm):Bool:=@Bm.rec (λ_=>Bool) true true true true true false false false false b
def j0(b:Bm)(x:LV)(σ:LH):Bool:=eQ false false (λ_=>false) (λ_=>false) (λ_=>DE b) (λ_=>false) (λ_=>false) (λr=>cO (bf σ r) (bC false (λ_=>wL b)) false) x
def PZ(b:Bm)(o:Ex)(as:dH):gW:=λ_ r ρ σ=>oB (r.e o ρ σ) λx σ=>bN (j0 b x σ) (oB (r.es as ρ σ) λvs σ=>jZ b x vs σ)
def DF(c j:Nat)(o:Ex):gW:=λ_ r ρ σ=>oB (r.e o ρ σ) λx σ=>oN (bj c j x σ) λv=>.ok v σ
def Jh(o i:Ex):gW:=λ_ r ρ σ=>oB (r.e o ρ σ) λx σ=>oB (r.e i ρ σ) λy σ=>oN (bH x y σ) λv=>.ok v σ
def qJ(o lo hi:Ex):gW:=λ_ r ρ σ=>oB (r.e o ρ σ) λx σ=>oB (r.e lo ρ σ) λl σ=>oB (r.e hi ρ σ) λh σ=>bA x l h σ
def Ji(o:Ex):gW:=λ_ r ρ σ=>oB (r.e o ρ σ) λx σ=>oN (listOf? x σ) λvs=>bN (small (len vs)) (alloc σ (.list (rev vs)))
def DG(g:Nat)(i:Ex):gW:=λP r ρ σ=>oB (r.e i ρ σ) λx σ=>cG .bad (λs=>oN (bf P.jI g) λd=>oN (wJ s d) λv=>.ok (.int v) σ) x
def eList(es:dH):gW:=λ_ r ρ σ=>oB (r.es es ρ σ) λvs σ=>bN (small (len vs)) (alloc σ (.list vs))
def Jj(es:dH):gW:=λ_ r ρ σ=>oB (r.es es ρ σ) λvs σ=>bN (band (Nat.blt 0 (len vs)) (small (len vs))) (.ok (.tup vs) σ)
def md(elt it:Ex):gW:=λ_ r ρ σ=>oB (r.e it ρ σ) λv σ=>r.comp elt v 0 (len σ) ρ (app σ [.list []])
def Jk(e:Ex):gW:=λ_ r ρ σ=>oB (r.e e ρ σ) λv ax=>freeze (len σ) v ax
noncomputable def E6:gW:=λ_ _ _ _=>.bad
def MQ:Ex->gW:=@Ex.rec (λ_=>gW) (λ_=>PUnit) I0 I5 MM MN MO I7 (λo a b _ _=>I8 o a b) (λa _=>I9 a) (λa _=>Ja a) (λa b _ _=>E5 a b) (λa b _ _=>MP a b)
 (λa o b _ _=>Jb a o b) (λa o b p c _ _ _=>DA a o b p c) (λc a b _ _ _=>Jc c a b) (λf as _=>DB f as) (λc m o as _ _=>DC c m o as) (λc as _=>eNew c as) (λc k e _=>DD c k e)
 (λb as _=>A2 b as) (λb o as _ _=>PZ b o as) (λc j o _=>DF c j o) (λo i _ _=>Jh o i) (λo l h _ _ _=>qJ o l h) (λo _=>Ji o) (λg i _=>DG g i) (λes _=>eList es) (λes _=>Jj es)
 (λe i _ _=>md e i) (λe _=>Jk e) E6 ⟨⟩ (λ_ _ _ _=>⟨⟩)
noncomputable abbrev AM:=Ev->List LV->LH->Out Bool
def dZ(e:Ex):AM:=λr ρ σ=>oB (r.e e ρ σ) λv σ=>oN (truth v) λb=>.ok b σ
def Jm(a:Ex):AM:=λr ρ σ=>oB (r.t a ρ σ) λb σ=>.ok (hZ b) σ
def Jo(a b:Ex):AM:=λr ρ σ=>oB (r.t a ρ σ) λt σ=>cB t (r.t b ρ σ) (.ok false σ)
def P0(a b:Ex):AM:=λr ρ σ=>oB (r.t a ρ σ) λt σ=>cB t (.ok true σ) (r.t b ρ σ)
def Jp(a:Ex)(o:jY)(b:Ex):AM:=λr ρ σ=>oB (r.e a ρ σ) λx σ=>oB (r.e b ρ σ) λy σ=>oN (ao o x y σ) λc=>.ok c σ
def DH(a:Ex)(o1:jY)(b:Ex)(o2:jY)(c:Ex):AM:=λr ρ σ=>oB (r.e a ρ σ) λx σ=>oB (r.e b ρ σ) λy σ=>oN (ao o1 x y σ) λt=>
 cB t (oB (r.e c ρ σ) λz σ=>oN (ao o2 y z σ) λu=>.ok u σ) (.ok false σ)
def Jq(c a b:Ex):AM:=λr ρ σ=>oB (r.t c ρ σ) λt σ=>cB t (r.t a ρ σ) (r.t b ρ σ)
noncomputable def Jr:AM:=λ_ _ _=>.bad
def MR:Ex->AM:=@Ex.rec (λ_=>AM) (λ_=>PUnit) (dZ .none) (λb=>dZ (.bool b)) (λi=>dZ (.int i)) (λs=>dZ (.str s)) (λi=>dZ (.var i)) (λg v=>dZ (.a7 g v)) (λo a b _ _=>dZ (.bin o a b)) (λa _=>dZ (.neg a)) (λa _=>Jm a) (λa b _ _=>Jo a b) (λa b _ _=>P0 a b)
 (λa o b _ _=>Jp a o b) (λa o b p c _ _ _=>DH a o b p c) (λc a b _ _ _=>Jq c a b) (λf as _=>dZ (.call f as)) (λc m o as _ _=>dZ (.meth c m o as)) (λc as _=>dZ (.new c as)) (λc k e _=>dZ (.ki c k e))
 (λb as _=>dZ (.bi b as)) (λb o as _ _=>dZ (.bm b o as)) (λc j o _=>dZ (.attr c j o)) (λo i _ _=>dZ (.sub o i)) (λo l h _ _ _=>dZ (.slice o l h)) (λo _=>dZ (.rev o)) (λg i _=>dZ (.oW g i)) (λes _=>dZ (.list es)) (λes _=>dZ (.tup es))
 (λe i _ _=>dZ (.comp e i)) (λe _=>Jr) Jr ⟨⟩ (λ_ _ _ _=>⟨⟩)
noncomputable abbrev LZ:=Ev->List LV->LH->Out (List LV)
noncomputable def Ju:LZ:=λ_ _ σ=>.ok [] σ
def DI(a:Ex)(q:dH):LZ:=λr ρ σ=>oB (r.e a ρ σ) λv σ=>oB (r.es q ρ σ) λvs σ=>.ok (v::vs) σ
def MS:dH->LZ:=@dH.rec (λ_=>PUnit) (λ_=>LZ) ⟨⟩ (λ_=>⟨⟩) (λ_=>⟨⟩) (λ_=>⟨⟩) (λ_=>⟨⟩) (λ_ _=>⟨⟩) (λ_ _ _ _ _=>⟨⟩) (λ_ _=>⟨⟩) (λ_ _=>⟨⟩) (λ_ _ _ _=>⟨⟩) (λ_ _ _ _=>⟨⟩)
 (λ_ _ _ _ _=>⟨⟩) (λ_ _ _ _ _ _ _ _=>⟨⟩) (λ_ _ _ _ _ _=>⟨⟩) (λ_ _ _=>⟨⟩) (λ_ _ _ _ _ _=>⟨⟩) (λ_ _ _=>⟨⟩) (λ_ _ _ _=>⟨⟩)
 (λ_ _ _=>⟨⟩) (λ_ _ _ _ _=>⟨⟩) (λ_ _ _ _=>⟨⟩) (λ_ _ _ _=>⟨⟩) (λ_ _ _ _ _ _=>⟨⟩) (λ_ _=>⟨⟩) (λ_ _ _=>⟨⟩) (λ_ _=>⟨⟩) (λ_ _=>⟨⟩)
 (λ_ _ _ _=>⟨⟩) (λ_ _=>⟨⟩) ⟨⟩ Ju (λa q _ _=>DI a q)
noncomputable abbrev ku:=Ev->List LV->LH->av
def RE(nm:Nat->β)(sD:Nat->Nat->Ex->β)(t:Tg):β:=@Tg.rec (λ_=>β) nm sD t
def cH(r:Ev)(ts:List Tg):List LV->List LV->LH->av:=@List.rec Tg (λ_=>List LV->List LV->LH->av) (λvs ρ σ=>cL vs (.nx ρ σ) (λ_ _=>.bad))
 (λt _ ih vs ρ σ=>cL vs .bad (λv q=>RE (λx=>ih q (aW ρ v x) σ) (λc j o=>oS (r.e o ρ σ) ρ λx σ=>jJ (bO c j x v σ) λσ=>ih q ρ σ) t)) ts
def DJ(ts:List Nat):List LV->List LV->Option (List LV):=@List.rec Nat (λ_=>List LV->List LV->Option (List LV)) (λvs ρ=>cL vs (some ρ) (λ_ _=>none))
 (λx _ ih vs ρ=>cL vs none (λv q=>ih q (aW ρ v x))) ts
def Jv(d:β)(f:List LV->β)(v:LV):β:=eQ d d (λ_=>d) (λ_=>d) (λ_=>d) f (λ_=>d) (λ_=>d) v
def qK(t:List Nat)(v:LV)(ρ:List LV):Option (List LV):=cL t none (λx q=>cL q (some (aW ρ v x)) (λ_ _=>Jv none (λvs=>DJ t vs ρ) v))
def iM(c:Nat)(l:List (Nat×Ex)):Option Ex:=@List.rec (Nat×Ex) (λ_=>Option Ex) none (λp _ ih=>cB (Nat.beq p.1 c) (some p.2) ih) l
def handle(e:Ex)(ρ:List LV)(σ:LH):av:=match e with
 |.str s=>.ret (.str s) σ
 |.bool b=>.ret (.bool b) σ
 |.cmp (.var i) .gt (.int k)=>jJ (bf ρ i) λv=>ct .bad (λx=>.ret (.bool (kj k x)) σ) v
 |_=>.bad
def plain(v:LV)(x:av):av:=eQ .bad x (λ_=>x) (λ_=>x) (λ_=>x) (λ_=>.bad) (λ_=>.bad) (λ_=>.bad) v
def DK(e:Ex):ku:=λr ρ σ=>oS (r.e e ρ σ) ρ λv σ=>plain v (.nx ρ σ)
def A3(x:Nat)(e:Ex):ku:=λr ρ σ=>oS (r.e e ρ σ) ρ λv σ=>.nx (aW ρ v x) σ
def DL(c j:Nat)(o e:Ex):ku:=λr ρ σ=>oS (r.e e ρ σ) ρ λv σ=>oS (r.e o ρ σ) ρ λx σ=>jJ (bO c j x v σ) λσ=>.nx ρ σ
def DM(ts:List Tg)(e:Ex):ku:=λr ρ σ=>oS (r.e e ρ σ) ρ λv σ=>jJ (itemsOf v σ) λvs=>cB (Nat.beq (len ts) (len vs)) (cH r ts vs ρ σ) .bad
def bound(v:LV)(x:av):av:=eQ .bad x (λ_=>x) (λ_=>x) (λ_=>x) (λ_=>x) (λ_=>x) (λ_=>x) v
def Jw(x:Nat)(o:jo)(e:Ex):ku:=λr ρ σ=>jJ (bf ρ x) λold=>bound old<|oS (r.e e ρ σ) ρ λv σ=>oS (dh o old v σ) ρ λn σ=>.nx (aW ρ n x) σ
def DN(c j:Nat)(ob:Ex)(o:jo)(e:Ex):ku:=λr ρ σ=>oS (r.e ob ρ σ) ρ λx σ=>jJ (bj c j x σ) λold=>oS (r.e e ρ σ) ρ λv σ=>oS (dh o old v σ) ρ λn σ=>jJ (bO c j x n σ) λσ=>.nx ρ σ
def Jy(e:Ex):ku:=λr ρ σ=>oS (r.e e ρ σ) ρ λv σ=>.ret v σ
noncomputable def DO:ku:=λ_ _ σ=>.ret .none σ
def JA(c:Ex)(a b:bB):ku:=λr ρ σ=>oS (r.t c ρ σ) ρ λt σ=>cB t (r.ss a ρ σ) (r.ss b ρ σ)
noncomputable def JB(c:Ex)(b:bB):ku:=λr ρ σ=>r.eE c b ρ σ
def DP(t:List Nat)(it:Ex)(b:bB):ku:=λr ρ σ=>oS (r.e it ρ σ) ρ λv σ=>r.cj t v 0 b ρ σ
def pd(x:Nat)(n:Ex)(b:bB):ku:=λr ρ σ=>oS (r.e n ρ σ) ρ λv σ=>ct .bad (λi=>cB (band (b6 i) (small (kl i))) (r.forr x 0 (kl i) b ρ σ) .bad) v
noncomputable def JC:ku:=λ_ ρ σ=>.brk ρ σ
noncomputable def DQ:ku:=λ_ ρ σ=>.cont ρ σ
def sM(b:bB)(hs:List (Nat×Ex)):ku:=λr ρ σ=>@av.rec (λ_=>av) .nx .ret .brk .cont (λc ρ σ=>cO (iM c hs) (λe=>handle e ρ σ) (.err c ρ σ)) .bad (r.ss b ρ σ)
def wM(c:Nat)(as:dH):ku:=λr ρ σ=>oS (r.es as ρ σ) ρ λ_ σ=>.err c ρ σ
noncomputable def E7:ku:=λ_ _ _=>.bad
def MT:St->ku:=@St.rec (λ_=>ku) (λ_=>PUnit) DK A3 DL DM Jw DN Jy DO (λc a b _ _=>JA c a b) (λc b _=>JB c b) (λt i b _=>DP t i b) (λx n b _=>pd x n b) JC DQ (λb hs _=>sM b hs) wM E7 ⟨⟩ (λ_ _ _ _=>⟨⟩)
noncomputable def JD:ku:=λ_ ρ σ=>.nx ρ σ
def f9(x:av)(f:List LV->LH->av):av:=@av.rec (λ_=>av) f .ret .brk .cont .err .bad x
def DR(s:St)(q:bB):ku:=λr ρ σ=>f9 (r.s s ρ σ) λρ σ=>r.ss q ρ σ
def MU:bB->ku:=@bB.rec (λ_=>PUnit) (λ_=>ku) (λ_=>⟨⟩) (λ_ _=>⟨⟩) (λ_ _ _ _=>⟨⟩) (λ_ _=>⟨⟩) (λ_ _ _=>⟨⟩) (λ_ _ _ _ _=>⟨⟩) (λ_=>⟨⟩) ⟨⟩ (λ_ _ _ _ _=>⟨⟩) (λ_ _ _=>⟨⟩) (λ_ _ _ _=>⟨⟩) (λ_ _ _ _=>⟨⟩) ⟨⟩ ⟨⟩ (λ_ _ _=>⟨⟩) (λ_ _=>⟨⟩) ⟨⟩
 JD (λs q _ _=>DR s q)
def ba(x:av):Out LV:=@av.rec (λ_=>Out LV) (λ_ σ=>.ok .none σ) (λv σ=>.ok v σ) (λ_ _=>.bad) (λ_ _=>.bad) (λc _ σ=>.err c σ) .bad x
def bodyOf(P:dR)(r:Ev)(f:Nat)(ρ:List LV)(σ:LH):Out LV:=oN (P.dg.get f) λlf=>ba (r.ss lf.body ρ σ)
def turn(x:av)(f:List LV->LH->av):av:=@av.rec (λ_=>av) f .ret .nx f .err .bad x
def nh(r:Ev)(c:Ex)(b:bB)(ρ:List LV)(σ:LH):av:=oS (r.t c ρ σ) ρ λt σ=>cB t (turn (r.ss b ρ σ) λρ σ=>r.eE c b ρ σ) (.nx ρ σ)
def gb(r:Ev)(t:List Nat)(v:LV)(i:Nat)(b:bB)(ρ:List LV)(σ:LH):av:=
 jJ (item? v i σ) λo=>cO o (λx=>jJ (qK t x ρ) λρ=>turn (r.ss b ρ σ) λρ σ=>r.cj t v (Nat.add i 1) b ρ σ) (.nx ρ σ)
def iN(r:Ev)(x i n:Nat)(b:bB)(ρ:List LV)(σ:LH):av:=cB (Nat.blt i n) (turn (r.ss b (aW ρ (.int (.ofNat i)) x) σ) λρ σ=>r.forr x (Nat.add i 1) n b ρ σ) (.nx ρ σ)
def d5(r:Ev)(elt:Ex)(v:LV)(i k:Nat)(ρ:List LV)(σ:LH):Out LV:=
 oN (item? v i σ) λo=>cO o (λx=>Iz (r.e elt (x::ρ) σ) λy σ=>oN (bf σ k) (bC .bad λvs=>bN (small (len vs)) (r.comp elt v (Nat.add i 1) k ρ (aW σ (.list (app vs [y])) k)))) (.ok (.ref k) σ)
def step(P:dR)(C:Nat->List LV->LH->Out LV)(r:Ev):Ev:=
 ⟨λe=>MQ e P r,λe=>MR e r,λes=>MS es r,λs=>MT s r,λb=>MU b r,C,nh r,gb r,iN r,d5 r⟩
noncomputable def P1:Ev:=⟨λ_ _ _=>.bad,λ_ _ _=>.bad,λ_ _ _=>.bad,λ_ _ _=>.bad,λ_ _ _=>.bad,λ_ _ _=>.bad,λ_ _ _ _=>.bad,λ_ _ _ _ _ _=>.bad,λ_ _ _ _ _ _=>.bad,λ_ _ _ _ _ _=>.bad⟩
def run(P:dR)(C:Nat->List LV->LH->Out LV)(n:Nat):Ev:=@Nat.rec (λ_=>Ev) P1 (λ_ r=>step P C r) n
def deep(P:dR)(d:Nat):Nat->List LV->LH->Out LV:=@Nat.rec (λ_=>Nat->List LV->LH->Out LV) (λ_ _ _=>.bad) (λ_ C f ρ σ=>bodyOf P (run P C 3000) f ρ σ) d
def top(P:dR)(f:Nat)(vs:List LV)(σ:LH):Out LV:=ah P (deep P 150) f vs σ
noncomputable def b0:bB:=(.cons (.aug 0 .mod (.bin .shl (.int 1) (.var 1))) (.cons (.aV (.bin .shr (.var 0) (.bin .sub (.var 1) (.int 1))) (.cons (.aug 0 .sub (.bin .shl (.int 1) (.var 1))) .nil) .nil) (.cons (.ret (.var 0)) .nil)))
noncomputable def f0:LF:=⟨2,2,[],b0⟩
noncomputable def b1:bB:=(.cons (.asg 1 (.int 0)) (.cons (.eE (.and (.cmp (.var 1) .lt (.bi .len (.cons (.var 0) .nil))) (.cmp (.sub (.var 0) (.var 1)) .isin (.a7 1 (.str [32,9,10,13,12,11])))) (.cons (.aug 1 .add (.int 1)) .nil)) (.cons (.asg 2 (.var 1)) (.cons (.aV (.or (.cmp (.slice (.var 0) (.var 2) (.bin .add (.var 2) (.int 1))) .eq (.str [43])) (.cmp (.slice (.var 0) (.var 2) (.bin .add (.var 2) (.int 1))) .eq (.str [45]))) (.cons (.aug 2 .add (.int 1)) .nil) .nil) (.cons (.asg 3 (.var 2)) (.cons (.eE (.and (.cmp (.var 2) .lt (.bi .len (.cons (.var 0) .nil))) (.cmp (.sub (.var 0) (.var 2)) .isin (.a7 0 (.str [48,49,50,51,52,53,54,55,56,57])))) (.cons (.aug 2 .add (.int 1)) .nil)) (.cons (.aV (.cmp (.var 2) .eq (.var 3)) (.cons (.ret (.tup (.cons (.var 1) (.cons (.var 1) .nil)))) .nil) .nil) (.cons (.ret (.tup (.cons (.var 1) (.cons (.var 2) .nil)))) .nil))))))))
noncomputable def f1:LF:=⟨1,4,[],b1⟩
noncomputable def b2:bB:=(.cons (.dc [.nm 2,.nm 3] (.call 1 (.cons (.var 0) .nil))) (.cons (.asg 4 (.int 0)) (.cons (.cj [5] (.slice (.var 0) (.var 2) (.var 3)) (.cons (.aV (.cmp (.var 5) .isin (.a7 0 (.str [48,49,50,51,52,53,54,55,56,57]))) (.cons (.asg 4 (.bin .mod (.bin .add (.bin .mul (.var 4) (.int 10)) (.bm .find (.a7 0 (.str [48,49,50,51,52,53,54,55,56,57])) (.cons (.var 5) .nil))) (.bin .shl (.int 1) (.var 1)))) .nil) .nil) .nil)) (.cons (.aV (.and (.cmp (.var 2) .lt (.var 3)) (.cmp (.sub (.var 0) (.var 2)) .eq (.str [45]))) (.cons (.asg 4 (.neg (.var 4))) .nil) .nil) (.cons (.ret (.call 0 (.cons (.var 4) (.cons (.var 1) .nil)))) .nil)))))
noncomputable def f2:LF:=⟨2,6,[],b2⟩
noncomputable def b3:bB:=(.cons (.aV (.cmp (.var 0) .lt (.int 0)) (.cons (.ret (.bin .add (.str [45]) (.call 3 (.cons (.neg (.var 0)) .nil)))) .nil) .nil) (.cons (.asg 1 (.sub (.a7 0 (.str [48,49,50,51,52,53,54,55,56,57])) (.bin .mod (.var 0) (.int 10)))) (.cons (.eE (.cmp (.var 0) .gt (.int 9)) (.cons (.aug 0 .fdiv (.int 10)) (.cons (.asg 1 (.bin .add (.sub (.a7 0 (.str [48,49,50,51,52,53,54,55,56,57])) (.bin .mod (.var 0) (.int 10))) (.var 1))) .nil))) (.cons (.ret (.var 1)) .nil))))
noncomputable def f3:LF:=⟨1,2,[],b3⟩
noncomputable def f4:LF:=⟨1,1,[],(.cons (.aV (.cmp (.var 0) .is .none) (.cons (.ret (.str [])) .nil) .nil) (.cons (.aV (.bi .isInt (.cons (.var 0) .nil)) (.cons (.ret (.call 3 (.cons (.var 0) .nil))) .nil) .nil) (.cons (.aV (.bi .isRef (.cons (.var 0) .nil)) (.cons (.ret .stuck) .nil) .nil) (.cons (.ret (.var 0)) .nil))))⟩
noncomputable def f5:LF:=⟨2,2,[],(.cons (.aV (.cmp (.var 0) .is .none) (.cons (.ret (.int 0)) .nil) .nil) (.cons (.aV (.bi .isInt (.cons (.var 0) .nil)) (.cons (.ret (.var 0)) .nil) .nil) (.cons (.aV (.bi .isRef (.cons (.var 0) .nil)) (.cons (.ret .stuck) .nil) .nil) (.cons (.ret (.call 2 (.cons (.var 0) (.cons (.attr 6 0 (.var 1)) .nil)))) .nil))))⟩
noncomputable def f6:LF:=⟨3,5,[],(.cons (.asg 3 (.list .nil)) (.cons (.forr 4 (.var 1) (.cons (.expr (.bm .append (.var 3) (.cons (.bin .band (.bin .shr (.var 0) (.bin .mul (.int 8) (.var 4))) (.int 255)) .nil))) .nil)) (.cons (.aV (.var 2) (.cons (.expr (.bm .reverse (.var 3) .nil)) .nil) .nil) (.cons (.ret (.var 3)) .nil))))⟩
noncomputable def b7:bB:=(.cons (.asg 3 (.int 0)) (.cons (.asg 4 (.ite (.var 1) (.var 0) (.ag (.rev (.var 0))))) (.cons (.cj [5] (.var 4) (.cons (.asg 3 (.bin .add (.bin .mul (.var 3) (.int 256)) (.var 5))) .nil)) (.cons (.aV (.and (.var 2) (.and (.cmp (.var 4) .ne (.ag (.list .nil))) (.cmp (.sub (.var 4) (.int 0)) .gt (.int 127)))) (.cons (.aug 3 .sub (.bin .shl (.int 1) (.bin .mul (.int 8) (.bi .len (.cons (.var 0) .nil))))) .nil) .nil) (.cons (.ret (.var 3)) .nil)))))
noncomputable def f7:LF:=⟨3,6,[],b7⟩
noncomputable def f8:LF:=⟨1,2,[],(.cons (.aV (.cmp (.var 0) .lt (.int 0)) (.cons (.raise 1 (.cons (.str [67,97,110,110,111,116,32,99,111,109,112,114,101,115,115,32,110,101,103,97,116,105,118,101,32,110,117,109,98,101,114,115,32,105,110,32,112,97,99,107]) .nil)) .nil) .nil) (.cons (.asg 1 (.list (.cons (.bin .band (.var 0) (.int 127)) .nil))) (.cons (.aug 0 .shr (.int 7)) (.cons (.eE (.cmp (.var 0) .gt (.int 0)) (.cons (.expr (.bm .append (.var 1) (.cons (.bin .bor (.bin .band (.var 0) (.int 127)) (.int 128)) .nil))) (.cons (.aug 0 .shr (.int 7)) .nil))) (.cons (.expr (.bm .reverse (.var 1) .nil)) (.cons (.ret (.var 1)) .nil))))))⟩
noncomputable def MV:bB:=(.cons (.ret (.and (.cmp (.var 1) .lt (.bi .len (.cons (.var 0) .nil))) (.hY (.int 32) .le (.sub (.var 0) (.var 1)) .lt (.int 97)))) .nil)
noncomputable def MW:LF:=⟨2,2,[],MV⟩
noncomputable def JE:bB:=(.cons (.ret (.ite (.call 11 (.cons (.var 0) (.cons (.var 1) .nil))) (.bin .band (.bin .sub (.sub (.var 0) (.var 1)) (.int 32)) (.int 63)) (.int 0))) .nil)
noncomputable def MX:LF:=⟨2,6,[],(.cons (.asg 2 (.bin .band (.bin .sub (.sub (.var 0) (.var 1)) (.int 32)) (.int 63))) (.cons (.aug 1 .add (.int 1)) (.cons (.asg 3 (.list .nil)) (.cons (.eE (.and (.cmp (.var 2) .gt (.bi .len (.cons (.var 3) .nil))) (.cmp (.var 1) .lt (.bi .len (.cons (.var 0) .nil)))) (.cons (.asg 4 (.int 0)) (.cons (.forr 5 (.int 4) (.cons (.asg 4 (.bin .bor (.bin .shl (.var 4) (.int 6)) (.call 12 (.cons (.var 0) (.cons (.var 1) .nil))))) (.cons (.aV (.call 11 (.cons (.var 0) (.cons (.var 1) .nil))) (.cons (.aug 1 .add (.int 1)) .nil) .nil) .nil))) (.cons (.expr (.bm .extend (.var 3) (.cons (.ag (.list (.cons (.bin .band (.bin .shr (.var 4) (.int 16)) (.int 255)) (.cons (.bin .band (.bin .shr (.var 4) (.int 8)) (.int 255)) (.cons (.bin .band (.var 4) (.int 255)) .nil))))) .nil))) .nil)))) (.cons (.asg 3 (.ag (.slice (.var 3) .none (.var 2)))) (.cons (.aV (.cmp (.ag (.slice (.var 0) (.var 1) (.bin .add (.var 1) (.int 1)))) .eq (.ag (.list (.cons (.int 10) .nil)))) (.cons (.ret (.tup (.cons (.var 3) (.cons (.bin .add (.var 1) (.int 1)) .nil)))) .nil) .nil) (.cons (.aV (.cmp (.ag (.slice (.var 0) (.bin .add (.var 1) (.int 1)) (.bin .add (.var 1) (.int 2)))) .eq (.ag (.list (.cons (.int 10) .nil)))) (.cons (.ret (.tup (.cons (.var 3) (.cons (.bin .add (.var 1) (.int 2)) .nil)))) .nil) .nil) (.cons (.ret (.tup (.cons (.var 3) (.cons (.var 1) .nil)))) .nil))))))))⟩
noncomputable def MY:LF:=⟨2,4,[],(.cons (.asg 2 (.list .nil)) (.cons (.eE (.and (.call 11 (.cons (.var 0) (.cons (.var 1) .nil))) (.cmp (.sub (.var 0) (.var 1)) .ne (.int 32))) (.cons (.dc [.nm 3,.nm 1] (.ag (.call 13 (.cons (.var 0) (.cons (.var 1) .nil))))) (.cons (.expr (.bm .extend (.var 2) (.cons (.var 3) .nil))) .nil))) (.cons (.ret (.tup (.cons (.var 2) (.cons (.var 1) .nil)))) .nil)))⟩
noncomputable def MZ:bB:=(.cons (.ret (.bin .sub (.bi .len (.cons (.attr 5 0 (.var 0)) .nil)) (.attr 5 1 (.var 0)))) .nil)
noncomputable def M0:LF:=⟨1,1,[],MZ⟩
noncomputable def JF:bB:=(.cons (.aV (.cmp (.bi .len (.cons (.attr 5 2 (.var 0)) .nil)) .ge (.attr 6 4 (.attr 5 4 (.var 0)))) (.cons (.raise 1 (.cons (.str [79,117,116,32,111,102,32,109,101,109,111,114,121,32,100,117,114,105,110,103,32,117,110,112,97,99,107]) .nil)) .nil) .nil) (.cons (.expr (.bm .append (.attr 5 2 (.var 0)) (.cons (.var 1) .nil))) .nil))
noncomputable def M1:bB:=(.cons (.eY 5 5 (.var 0) .add (.int 1)) (.cons (.aV (.cmp (.attr 5 5 (.var 0)) .gt (.attr 6 2 (.attr 5 4 (.var 0)))) (.cons (.raise 3 (.cons (.attr 5 5 (.var 0)) .nil)) .nil) .nil) .nil))
noncomputable def M3:LF:=⟨1,1,[],M1⟩
noncomputable def M4:bB:=(.cons (.aV (.cmp (.sub (.var 0) (.int 3)) .eq (.a7 2 (.int (-1)))) (.cons (.ret (.var 1)) .nil) .nil) (.cons (.ret (.bi .min (.cons (.ite (.cmp (.sub (.var 0) (.int 3)) .eq (.a7 3 (.int (-2)))) (.int 1) (.sub (.var 0) (.int 3))) (.cons (.var 1) .nil)))) .nil))
noncomputable def P2:LF:=⟨2,2,[],M4⟩
noncomputable def M5:bB:=(.cons (.asg 2 (.slice (.attr 5 0 (.var 0)) (.attr 5 1 (.var 0)) (.bin .add (.attr 5 1 (.var 0)) (.var 1)))) (.cons (.eY 5 1 (.var 0) .add (.bi .len (.cons (.var 2) .nil))) (.cons (.ret (.var 2)) .nil)))
noncomputable def M6:LF:=⟨2,3,[],M5⟩
noncomputable def L4:bB:=(.cons (.asg 2 (.call 36 (.cons (.var 0) (.cons (.call 35 (.cons (.var 1) (.cons (.call 32 (.cons (.var 0) .nil)) .nil))) .nil)))) (.cons (.aV (.cmp (.sub (.var 1) (.int 0)) .eq (.str [65])) (.cons (.eE (.and (.cmp (.var 2) .ne (.ag (.list .nil))) (.cmp (.sub (.var 2) (.neg (.int 1))) .isin (.a7 12 (.ag [(.int 0),(.int 9),(.int 10),(.int 11),(.int 12),(.int 13),(.int 32)])))) (.cons (.expr (.bm .pop (.var 2) .nil)) .nil)) .nil) (.cons (.aV (.and (.cmp (.sub (.var 1) (.int 0)) .eq (.str [90])) (.cmp (.int 0) .isin (.var 2))) (.cons (.aV (.cmp (.sub (.var 1) (.int 3)) .eq (.a7 2 (.int (-1)))) (.cons (.eY 5 1 (.var 0) .sub (.bin .sub (.bin .sub (.bi .len (.cons (.var 2) .nil)) (.bm .index (.var 2) (.cons (.int 0) .nil))) (.int 1))) .nil) .nil) (.cons (.asg 2 (.ag (.slice (.var 2) .none (.bm .index (.var 2) (.cons (.int 0) .nil))))) .nil)) .nil) .nil)) (.cons (.expr (.call 33 (.cons (.var 0) (.cons (.call 37 (.cons (.var 2) .nil)) .nil)))) .nil)))
noncomputable def L5:LF:=⟨2,3,[],L4⟩
noncomputable def P4:LF:=⟨2,11,[],(.cons (.dc [.nm 2,.nm 3,.nm 4,.nm 5,.nm 6] (.var 1)) (.cons (.asg 7 (.call 15 (.cons (.var 2) (.cons (.var 4) .nil)))) (.cons (.forr 8 (.call 35 (.cons (.var 1) (.cons (.bin .fdiv (.call 32 (.cons (.var 0) .nil)) (.var 7)) .nil))) (.cons (.expr (.call 34 (.cons (.var 0) .nil))) (.cons (.asg 9 (.ag (.call 36 (.cons (.var 0) (.cons (.var 7) .nil))))) (.cons (.asg 10 (.call 7 (.cons (.var 9) (.cons (.call 17 (.cons (.var 2) (.cons (.var 3) .nil))) (.cons (.call 16 (.cons (.var 2) (.cons (.var 4) .nil))) .nil))))) (.cons (.expr (.call 33 (.cons (.var 0) (.cons (.call 0 (.cons (.var 10) (.cons (.attr 6 0 (.attr 5 4 (.var 0))) .nil))) .nil)))) .nil))))) .nil)))⟩
noncomputable def P5:LF:=⟨2,9,[],(.cons (.dc [.nm 2,.nm 3,.nm 4,.nm 5,.nm 6] (.var 1)) (.cons (.asg 7 (.ite (.cmp (.var 5) .eq (.a7 2 (.int (-1)))) (.bi .len (.cons (.attr 5 0 (.var 0)) .nil)) (.ite (.cmp (.var 5) .eq (.a7 3 (.int (-2)))) (.int 1) (.var 5)))) (.cons (.forr 8 (.var 7) (.cons (.aV (.and (.cmp (.var 5) .eq (.a7 2 (.int (-1)))) (.cmp (.call 32 (.cons (.var 0) .nil)) .eq (.int 0))) (.cons .lU .nil) .nil) (.cons (.expr (.call 34 (.cons (.var 0) .nil))) (.cons (.expr (.bm .append (.attr 5 3 (.var 0)) (.cons (.attr 5 1 (.var 0)) .nil))) (.cons (.expr (.call 46 (.cons (.var 0) (.cons (.var 6) .nil)))) (.cons (.expr (.bm .pop (.attr 5 3 (.var 0)) .nil)) .nil)))))) .nil)))⟩
noncomputable def P6:bB:=(.cons (.dc [.nm 3,.nm 4] (.sub (.var 1) (.int 4))) (.cons (.asg 5 (.cmp (.call 32 (.cons (.var 0) .nil)) .eq (.int 0))) (.cons (.expr (.call 34 (.cons (.var 0) .nil))) (.cons (.expr (.call 45 (.cons (.var 0) (.cons (.var 3) .nil)))) (.cons (.aV (.cmp (.bi .len (.cons (.attr 5 2 (.var 0)) .nil)) .eq (.var 2)) (.cons (.ret (.bool false)) .nil) .nil) (.cons (.dc [.nm 6,.nm 7,.nm 8,.nm 9,.nm 10] (.var 4)) (.cons (.aV (.cmp (.var 9) .ge (.int 0)) (.cons (.raise 1 (.cons (.str [67,111,117,110,116,32,97,102,116,101,114,32,108,101,110,103,116,104,47,99,111,100,101,32,105,110,32,117,110,112,97,99,107]) .nil)) .nil) .nil) (.cons (.aV (.and (.var 5) (.cmp (.var 9) .eq (.a7 3 (.int (-2))))) (.cons (.raise 1 (.cons (.str [108,101,110,103,116,104,47,99,111,100,101,32,97,102,116,101,114,32,101,110,100,32,111,102,32,115,116,114,105,110,103,32,105,110,32,117,110,112,97,99,107]) .nil)) .nil) .nil) (.cons (.aV (.not (.var 5)) (.cons (.asg 11 (.bi .max (.cons (.call 5 (.cons (.bm .pop (.attr 5 2 (.var 0)) .nil) (.cons (.attr 5 4 (.var 0)) .nil))) (.cons (.int 0) .nil)))) (.cons (.expr (.call 45 (.cons (.var 0) (.cons (.tup (.cons (.var 6) (.cons (.var 7) (.cons (.var 8) (.cons (.var 11) (.cons (.var 10) .nil)))))) .nil)))) .nil)) .nil) (.cons (.ret (.bool true)) .nil))))))))))
noncomputable def P7:LF:=⟨3,12,[],P6⟩
noncomputable def P8:bB:=(.cons (.dc [.nm 1,.sD 5 1 (.var 0)] (.ag (.call 14 (.cons (.attr 5 0 (.var 0)) (.cons (.attr 5 1 (.var 0)) .nil))))) (.cons (.expr (.call 33 (.cons (.var 0) (.cons (.call 37 (.cons (.var 1) .nil)) .nil)))) .nil))
noncomputable def P9:LF:=⟨1,2,[],P8⟩
noncomputable def E8:bB:=(.cons (.expr (.call 34 (.cons (.var 0) .nil))) (.cons (.asg 2 (.sub (.var 1) (.int 0))) (.cons (.aV (.cmp (.var 2) .eq (.str [40])) (.cons (.expr (.call 42 (.cons (.var 0) (.cons (.var 1) .nil)))) .nil) (.cons (.aV (.cmp (.var 2) .isin (.str [97,65,90])) (.cons (.expr (.call 38 (.cons (.var 0) (.cons (.var 1) .nil)))) .nil) (.cons (.aV (.cmp (.var 2) .isin (.str [98,66,104,72])) (.cons (.expr .stuck) .nil) (.cons (.aV (.cmp (.var 2) .isin (.str [120,88,64])) (.cons (.expr (.call 41 (.cons (.var 0) (.cons (.var 1) .nil)))) .nil) (.cons (.aV (.cmp (.var 2) .eq (.str [46])) (.cons (.expr .stuck) .nil) (.cons (.aV (.cmp (.var 2) .eq (.str [117])) (.cons (.expr (.call 44 (.cons (.var 0) .nil))) .nil) (.cons (.aV (.cmp (.var 2) .isin (.str [119,85])) (.cons (.expr (.call 40 (.cons (.var 0) (.cons (.var 1) .nil)))) .nil) (.cons (.expr (.call 39 (.cons (.var 0) (.cons (.var 1) .nil)))) .nil)) .nil)) .nil)) .nil)) .nil)) .nil)) .nil)) .nil)))
noncomputable def E9:LF:=⟨2,3,[],E8⟩
noncomputable def L6:bB:=(.cons (.asg 2 (.bi .len (.cons (.attr 5 2 (.var 0)) .nil))) (.cons (.cj [3] (.var 1) (.cons (.aV (.cmp (.sub (.var 3) (.int 0)) .ne (.str [47])) (.cons (.expr (.call 45 (.cons (.var 0) (.cons (.var 3) .nil)))) .nil) (.cons (.aV (.not (.call 43 (.cons (.var 0) (.cons (.var 3) (.cons (.var 2) .nil))))) (.cons .lU .nil) .nil) .nil)) .nil)) .nil))
noncomputable def L7:LF:=⟨2,4,[],L6⟩
noncomputable def JG:LF:=⟨3,4,[],(.cons (.asg 3 (.new 5 (.cons (.ag (.comp (.bin .band (.bi .ord (.cons (.var 0) .nil)) (.int 255)) (.var 1))) (.cons (.var 2) .nil)))) (.cons (.expr (.call 46 (.cons (.var 3) (.cons (.ag (.call 29 (.cons (.var 0) .nil))) .nil)))) (.cons (.ret (.attr 5 2 (.var 3))) .nil)))⟩
noncomputable def M7:bB:=(.cons (.aV (.cmp (.var 1) .lt (.bi .len (.cons (.var 0) .nil))) (.cons (.ret (.bin .mod (.sub (.var 0) (.var 1)) (.bin .pow (.int 10) (.int 9)))) .nil) .nil) (.cons (.ret (.bin .add (.bin .mul (.int 17) (.var 1)) (.int 5))) .nil))
noncomputable def M8:LF:=⟨2,2,[],M7⟩
noncomputable def M9:LF:=⟨4,4,[],(.cons (.mX (.cons (.aV (.cmp (.var 0) .eq (.int 0)) (.cons (.ret (.ag (.comp (.bi .ord (.cons (.var 0) .nil)) (.call 68 (.cons (.var 1) (.cons (.var 2) (.cons (.var 3) .nil))))))) .nil) .nil) (.cons (.ret (.call 47 (.cons (.var 1) (.cons (.call 70 (.cons (.var 2) .nil)) (.cons (.var 3) .nil))))) .nil)) [(1,(.str [100,105,101])),(3,(.str [108,111,110,103]))]) .nil)⟩
noncomputable def Fb:bB:=(.cons (.aV (.and (.cmp (.var 1) .lt (.bi .len (.cons (.var 0) .nil))) (.hY (.int 32) .le (.sub (.var 0) (.var 1)) .le (.int 96))) (.cons (.ret (.tup (.cons (.bin .mod (.bin .sub (.sub (.var 0) (.var 1)) (.int 32)) (.int 64)) (.cons (.bin .add (.var 1) (.int 1)) .nil)))) .nil) .nil) (.cons (.ret (.tup (.cons (.int 0) (.cons (.var 1) .nil)))) .nil))
noncomputable def Na:LF:=⟨2,8,[],(.cons (.asg 2 (.bin .mod (.bin .sub (.sub (.var 0) (.var 1)) (.int 32)) (.int 64))) (.cons (.aug 1 .add (.int 1)) (.cons (.asg 3 (.list .nil)) (.cons (.forr 4 (.bin .fdiv (.bin .add (.var 2) (.int 2)) (.int 3)) (.cons (.aV (.cmp (.var 1) .ge (.bi .len (.cons (.var 0) .nil))) (.cons .brk .nil) .nil) (.cons (.asg 5 (.int 0)) (.cons (.forr 6 (.int 4) (.cons (.dc [.nm 7,.nm 1] (.call 72 (.cons (.var 0) (.cons (.var 1) .nil)))) (.cons (.asg 5 (.bin .add (.bin .mul (.var 5) (.int 64)) (.var 7))) .nil))) (.cons (.aug 3 .add (.ag (.list (.cons (.bin .fdiv (.var 5) (.int 65536)) (.cons (.bin .mod (.bin .fdiv (.var 5) (.int 256)) (.int 256)) (.cons (.bin .mod (.var 5) (.int 256)) .nil)))))) .nil))))) (.cons (.aV (.cmp (.ag (.slice (.var 0) (.var 1) (.bin .add (.var 1) (.int 1)))) .eq (.ag (.list (.cons (.int 10) .nil)))) (.cons (.ret (.tup (.cons (.ag (.slice (.var 3) .none (.var 2))) (.cons (.bin .add (.var 1) (.int 1)) .nil)))) .nil) .nil) (.cons (.ret (.tup (.cons (.ag (.slice (.var 3) .none (.var 2))) (.cons (.ite (.cmp (.ag (.slice (.var 0) (.bin .add (.var 1) (.int 1)) (.bin .add (.var 1) (.int 2)))) .eq (.ag (.list (.cons (.int 10) .nil)))) (.bin .add (.var 1) (.int 2)) (.var 1)) .nil)))) .nil))))))⟩
noncomputable def Nb:LF:=⟨1,4,[],(.cons (.asg 1 (.list .nil)) (.cons (.asg 2 (.int 0)) (.cons (.eE (.and (.cmp (.var 2) .lt (.bi .len (.cons (.var 0) .nil))) (.hY (.int 33) .le (.sub (.var 0) (.var 2)) .le (.int 96))) (.cons (.dc [.nm 3,.nm 2] (.ag (.call 73 (.cons (.var 0) (.cons (.var 2) .nil))))) (.cons (.aug 1 .add (.var 3)) .nil))) (.cons (.ret (.ag (.list (.cons (.call 70 (.cons (.var 1) .nil)) (.cons (.call 70 (.cons (.ag (.slice (.var 0) (.var 2) .none)) .nil)) .nil))))) .nil))))⟩
noncomputable def Qa:bB:=(.cons (.aV (.cmp (.var 1) .isin (.str [97,65,90])) (.cons (.asg 3 (.ag (.slice (.var 0) .none (.var 2)))) (.cons (.asg 4 (.call 70 (.cons (.var 3) .nil))) (.cons (.aV (.cmp (.var 1) .eq (.str [65])) (.cons (.asg 4 (.bm .rstrip (.var 4) (.cons (.str [32,10,9,13,12,11,0]) .nil))) .nil) .nil) (.cons (.aV (.and (.cmp (.var 1) .eq (.str [90])) (.cmp (.str [0]) .isin (.var 4))) (.cons (.asg 4 (.ag (.slice (.var 4) .none (.bm .index (.var 4) (.cons (.str [0]) .nil))))) .nil) .nil) (.cons (.ret (.tup (.cons (.ag (.list (.cons (.var 4) .nil))) (.cons (.bi .len (.cons (.var 3) .nil)) .nil)))) .nil))))) .nil) (.cons (.asg 5 (.bi .min (.cons (.var 2) (.cons (.bi .len (.cons (.var 0) .nil)) .nil)))) (.cons (.ret (.tup (.cons (.ag (.comp (.ite (.and (.cmp (.var 2) .eq (.str [99])) (.cmp (.var 0) .gt (.int 127))) (.bin .sub (.var 0) (.int 256)) (.var 0)) (.ag (.slice (.var 0) .none (.var 5))))) (.cons (.var 5) .nil)))) .nil)))
noncomputable def Nc:LF:=⟨3,6,[],Qa⟩
noncomputable def Qb:bB:=(.cons (.asg 1 (.ag (.sub (.str [99,67,97,65,90]) (.bin .mod (.call 69 (.cons (.var 0) (.cons (.int 0) .nil))) (.int 5))))) (.cons (.asg 2 (.bin .add (.int 1) (.bin .mod (.call 69 (.cons (.var 0) (.cons (.int 1) .nil))) (.ite (.cmp (.var 1) .isin (.str [99,67])) (.int 3) (.int 2))))) (.cons (.asg 3 (.ag (.sub (.ag (.list (.cons (.str [97]) (.cons (.str [67]) (.cons (.str [40,67,41]) .nil))))) (.bin .mod (.call 69 (.cons (.var 0) (.cons (.int 2) .nil))) (.int 3))))) (.cons (.asg 4 (.bin .add (.bin .add (.bin .add (.var 1) (.bi .str (.cons (.var 2) .nil))) (.str [47])) (.var 3))) (.cons (.asg 5 (.ag (.comp (.sub (.ag (.list (.cons (.int 48) (.cons (.int 49) (.cons (.int 50) (.cons (.int 57) (.cons (.int 45) (.cons (.int 32) (.cons (.int 0) (.cons (.int 1) (.cons (.int 3) (.cons (.int 200) (.cons (.int 255) (.cons (.int 90) .nil)))))))))))))) (.bin .mod (.var 0) (.int 12))) (.slice (.var 0) (.int 3) (.int 15))))) (.cons (.aV (.cmp (.ag (.call 71 (.cons (.int 1) (.cons (.var 4) (.cons (.var 5) (.cons (.new 6 .nil) .nil)))))) .ne (.ag (.call 77 (.cons (.var 5) (.cons (.var 1) (.cons (.var 2) (.cons (.var 3) .nil))))))) (.cons (.ret (.bool false)) .nil) .nil) (.cons (.asg 6 (.bin .mod (.call 69 (.cons (.var 0) (.cons (.int 3) .nil))) (.int 4))) (.cons (.asg 7 (.ag (.ite (.cmp (.var 3) .eq (.str [97])) (.list (.cons (.str [52]) (.cons (.str []) (.cons (.str [50,55]) (.cons (.str [57,49,49]) .nil))))) (.list (.cons (.str [52]) (.cons (.str [49]) (.cons (.str [55]) (.cons (.str [57]) .nil)))))))) (.cons (.asg 8 (.ag (.slice (.bin .add (.var 7) (.var 7)) (.var 6) (.bin .add (.var 6) (.bin .mod (.bin .fdiv (.call 69 (.cons (.var 0) (.cons (.int 3) .nil))) (.int 4)) (.int 5)))))) (.cons (.ret (.cmp (.ag (.call 71 (.cons (.int 0) (.cons (.var 4) (.cons (.var 8) (.cons (.new 6 .nil) .nil)))))) .eq (.ag (.call 78 (.cons (.var 1) (.cons (.var 2) (.cons (.var 3) (.cons (.var 8) .nil)))))))) .nil))))))))))
noncomputable def Qc:bB:=(.cons (.asg 1 (.bin .mod (.call 69 (.cons (.var 0) (.cons (.int 4) .nil))) (.int 7))) (.cons (.asg 2 (.bin .mod (.call 69 (.cons (.var 0) (.cons (.int 5) .nil))) (.int 12))) (.cons (.asg 3 (.ki 6 3 (.var 1))) (.cons (.cj [4,5] (.ag (.list (.cons (.tup (.cons (.bin .add (.str [120]) (.bi .str (.cons (.var 2) .nil))) (.cons (.var 2) .nil))) (.cons (.tup (.cons (.bin .add (.str [64]) (.bi .str (.cons (.var 2) .nil))) (.cons (.var 2) .nil))) (.cons (.tup (.cons (.bin .add (.str [97]) (.bi .str (.cons (.var 2) .nil))) (.cons (.var 2) .nil))) (.cons (.tup (.cons (.bin .add (.str [90]) (.bi .str (.cons (.var 2) .nil))) (.cons (.var 2) .nil))) (.cons (.tup (.cons (.bin .add (.str [67]) (.bi .str (.cons (.var 2) .nil))) (.cons (.var 2) .nil))) (.cons (.tup (.cons (.bin .add (.str [40,67,41]) (.bi .str (.cons (.var 2) .nil))) (.cons (.var 2) .nil))) .nil)))))))) (.cons (.aV (.cmp (.ag (.call 71 (.cons (.int 0) (.cons (.var 4) (.cons (.list .nil) (.cons (.var 3) .nil)))))) .ne (.sub (.ag (.list (.cons (.bin .mul (.list (.cons (.int 0) .nil)) (.var 5)) (.cons (.str [100,105,101]) .nil)))) (.cmp (.var 5) .gt (.var 1)))) (.cons (.ret (.bool false)) .nil) .nil) .nil)) (.cons (.asg 6 (.bin .sub (.bin .add (.bin .mul (.int 8) (.var 1)) (.var 2)) (.int 5))) (.cons (.aV (.and (.cmp (.var 6) .ge (.int 0)) (.cmp (.ag (.call 71 (.cons (.int 0) (.cons (.bin .add (.str [98]) (.bi .str (.cons (.var 6) .nil))) (.cons (.list .nil) (.cons (.var 3) .nil)))))) .ne (.sub (.ag (.list (.cons (.bin .mul (.list (.cons (.int 0) .nil)) (.bin .fdiv (.bin .add (.var 6) (.int 7)) (.int 8))) (.cons (.str [100,105,101]) .nil)))) (.cmp (.var 6) .gt (.bin .mul (.int 8) (.var 1)))))) (.cons (.ret (.bool false)) .nil) .nil) (.cons (.cj [4] (.ag (.list (.cons (.bin .add (.str [67]) (.bi .str (.cons (.var 2) .nil))) (.cons (.bin .add (.str [40,67,41]) (.bi .str (.cons (.var 2) .nil))) (.cons (.bin .add (.str [40,97,41]) (.bi .str (.cons (.var 2) .nil))) (.cons (.bin .add (.str [119]) (.bi .str (.cons (.var 2) .nil))) .nil)))))) (.cons (.asg 7 (.bin .mul (.list (.cons (.ite (.cmp (.sub (.var 4) (.int 1)) .eq (.str [97])) (.bi .chr (.cons (.int 7) .nil)) (.int 7)) .nil)) (.var 2))) (.cons (.aV (.cmp (.ag (.call 71 (.cons (.int 1) (.cons (.var 4) (.cons (.bin .mul (.list (.cons (.int 7) .nil)) (.var 2)) (.cons (.ki 6 4 (.var 1)) .nil)))))) .ne (.ite (.cmp (.var 2) .gt (.var 1)) (.str [100,105,101]) (.var 7))) (.cons (.ret (.bool false)) .nil) .nil) .nil))) (.cons (.ret (.bool true)) .nil))))))))
noncomputable def Qd:bB:=(.cons (.asg 1 (.bin .mod (.call 69 (.cons (.var 0) (.cons (.int 6) .nil))) (.int 6))) (.cons (.asg 2 (.bin .mod (.call 69 (.cons (.var 0) (.cons (.int 7) .nil))) (.int 6))) (.cons (.asg 3 (.bin .add (.bin .add (.bin .add (.bin .add (.str [67]) (.bi .str (.cons (.var 1) .nil))) (.str [32,40,67,32,97,41])) (.bi .str (.cons (.var 2) .nil))) (.str [120,48]))) (.cons (.asg 4 (.bin .add (.bin .add (.bin .add (.bin .add (.int 1) (.var 1)) (.int 1)) (.bin .mul (.int 4) (.var 2))) (.int 1))) (.cons (.cj [5] (.ag (.list (.cons (.bin .sub (.var 4) (.int 1)) (.cons (.var 4) .nil)))) (.cons (.asg 6 (.ag (.ite (.cmp (.var 5) .lt (.var 4)) (.str [108,111,110,103]) (.bin .add (.bin .mul (.list (.cons (.int 7) .nil)) (.var 1)) (.bin .mul (.list (.cons (.int 7) (.cons (.bi .chr (.cons (.int 7) .nil)) .nil))) (.var 2)))))) (.cons (.aV (.cmp (.ag (.call 71 (.cons (.int 1) (.cons (.var 3) (.cons (.bin .mul (.list (.cons (.int 7) .nil)) (.bin .add (.var 1) (.bin .mul (.int 2) (.var 2)))) (.cons (.ki 6 2 (.var 5)) .nil)))))) .ne (.var 6)) (.cons (.ret (.bool false)) .nil) .nil) (.cons (.asg 7 (.ag (.ite (.cmp (.var 5) .lt (.var 4)) (.str [108,111,110,103]) (.bin .mul (.list (.cons (.int 0) .nil)) (.bin .add (.var 1) (.bin .mul (.int 2) (.var 2))))))) (.cons (.aV (.cmp (.ag (.call 71 (.cons (.int 0) (.cons (.var 3) (.cons (.bin .mul (.list (.cons (.str []) .nil)) (.bin .add (.var 1) (.bin .mul (.int 2) (.var 2)))) (.cons (.ki 6 2 (.var 5)) .nil)))))) .ne (.var 7)) (.cons (.ret (.bool false)) .nil) .nil) .nil))))) (.cons (.ret (.bool true)) .nil))))))
noncomputable def Qe:bB:=(.cons (.asg 1 (.bin .add (.int 18) (.bin .mod (.call 69 (.cons (.var 0) (.cons (.int 8) .nil))) (.int 5)))) (.cons (.asg 2 (.sub (.str [32,9,10,13,12]) (.bin .mod (.call 69 (.cons (.var 0) (.cons (.int 9) .nil))) (.int 5)))) (.cons (.mX (.cons (.asg 3 (.ag (.call 29 (.cons (.bin .add (.bin .add (.bin .add (.bin .add (.str [67]) (.var 2)) (.bin .mul (.str [40]) (.var 1))) (.str [67])) (.bin .mul (.str [41]) (.var 1))) .nil)))) .nil) [(2,(.cmp (.var 1) .gt (.int 20)))]) (.cons (.asg 4 (.int 0)) (.cons (.eE (.cmp (.sub (.sub (.var 3) (.neg (.int 1))) (.int 0)) .eq (.str [40])) (.cons (.aug 4 .add (.int 1)) (.cons (.asg 3 (.sub (.sub (.var 3) (.neg (.int 1))) (.int 4))) .nil))) (.cons (.ret (.and (.cmp (.var 1) .le (.int 20)) (.cmp (.var 4) .eq (.var 1)))) .nil))))))
noncomputable def dg:Tr LF:=(.node f0 (.node f1 (.node f3 (.node f7 (.node ⟨2,2,[],(.cons (.aV (.and (.var 1) (.cmp (.var 0) .isin (.str [108,76]))) (.cons (.ret (.int 8)) .nil) .nil) (.cons (.ret (.oW 0 (.var 0))) .nil))⟩ (.node ⟨3,3,[],(.cons (.de 5 0 (.var 0) (.var 1)) (.cons (.de 5 1 (.var 0) (.int 0)) (.cons (.de 5 2 (.var 0) (.list .nil)) (.cons (.de 5 3 (.var 0) (.list (.cons (.int 0) .nil))) (.cons (.de 5 4 (.var 0) (.var 2)) (.cons (.de 5 5 (.var 0) (.int 0)) .nil))))))⟩ (.node ⟨2,3,[],(.cons (.forr 2 (.call 57 (.cons (.var 1) (.cons (.call 50 (.cons (.var 0) .nil)) .nil))) (.cons (.expr (.call 65 (.cons (.var 0) .nil))) (.cons (.expr (.bm .append (.attr 7 3 (.var 0)) (.cons (.bi .len (.cons (.attr 7 0 (.var 0)) .nil)) .nil))) (.cons (.expr (.call 67 (.cons (.var 0) (.cons (.sub (.var 1) (.int 4)) .nil)))) (.cons (.expr (.bm .pop (.attr 7 3 (.var 0)) .nil)) (.cons (.aV (.and (.cmp (.sub (.var 1) (.int 3)) .eq (.a7 2 (.int (-1)))) (.cmp (.call 50 (.cons (.var 0) .nil)) .eq (.int 0))) (.cons .lU .nil) .nil) .nil)))))) .nil)⟩ .nil .nil) .nil) (.node JG (.node ⟨1,9,[],Qb⟩ .nil .nil) .nil)) (.node ⟨2,5,[],(.cons (.asg 2 (.str [])) (.cons (.asg 3 (.bool false)) (.cons (.eE (.and (.cmp (.meth 4 0 (.var 0) .nil) .ne (.str [])) (.cmp (.meth 4 0 (.var 0) .nil) .isin (.str [33,60,62]))) (.cons (.asg 4 (.meth 4 0 (.var 0) .nil)) (.cons (.eY 4 1 (.var 0) .add (.int 1)) (.cons (.aV (.cmp (.var 4) .eq (.str [33])) (.cons (.aV (.cmp (.var 1) .kh (.a7 6 (.str [115,83,105,73,108,76,110,78,118,86,120,88,64,46]))) (.cons (.raise 2 (.cons (.bin .add (.str [39,33,39,32,97,108,108,111,119,101,100,32,111,110,108,121,32,97,102,116,101,114,32,116,121,112,101,115,32]) (.a7 6 (.str [115,83,105,73,108,76,110,78,118,86,120,88,64,46]))) .nil)) .nil) .nil) (.cons (.asg 3 (.bool true)) .nil)) (.cons (.aV (.and (.cmp (.var 1) .ne (.str [40])) (.cmp (.var 1) .kh (.a7 5 (.str [115,83,108,76,113,81,105,73,106,74])))) (.cons (.raise 2 (.cons (.bin .add (.bin .add (.bin .add (.bin .add (.str [39]) (.var 4)) (.str [39,32,97,108,108,111,119,101,100,32,111,110,108,121,32,97,102,116,101,114,32,116,121,112,101,115,32])) (.a7 5 (.str [115,83,108,76,113,81,105,73,106,74]))) (.str [40])) .nil)) .nil) (.cons (.aV (.cmp (.var 2) .kh (.tup (.cons (.str []) (.cons (.var 4) .nil)))) (.cons (.raise 2 (.cons (.str [67,97,110,39,116,32,117,115,101,32,98,111,116,104,32,39,60,39,32,97,110,100,32,39,62,39,32,97,102,116,101,114,32,97,32,116,121,112,101]) .nil)) .nil) (.cons (.asg 2 (.var 4)) .nil)) .nil)) .nil)) .nil)))) (.cons (.ret (.tup (.cons (.var 2) (.cons (.var 3) .nil)))) .nil))))⟩ (.node P4 (.node M9 .nil .nil) .nil) (.node ⟨2,2,[],(.cons (.aV (.cmp (.var 1) .gt (.attr 6 3 (.attr 7 4 (.var 0)))) (.cons (.raise 1 (.cons (.str [79,117,116,32,111,102,32,109,101,109,111,114,121,32,100,117,114,105,110,103,32,112,97,99,107]) .nil)) .nil) .nil) (.cons (.expr (.call 54 (.cons (.var 0) (.cons (.bin .mul (.list (.cons (.int 0) .nil)) (.var 1)) .nil)))) .nil))⟩ .nil .nil))) (.node MW (.node ⟨1,1,[],(.cons (.ret (.slice (.attr 4 0 (.var 0)) (.attr 4 1 (.var 0)) (.bin .add (.attr 4 1 (.var 0)) (.int 1)))) .nil)⟩ (.node P2 (.node ⟨2,3,[],(.cons (.cj [2] (.var 1) (.cons (.expr (.call 66 (.cons (.var 0) (.cons (.var 2) .nil)))) .nil)) .nil)⟩ .nil .nil) .nil) (.node ⟨1,1,[],(.cons (.aV (.cmp (.attr 7 6 (.var 0)) .Iy .none) (.cons (.ret (.attr 7 6 (.var 0))) .nil) .nil) (.cons (.aV (.cmp (.attr 7 2 (.var 0)) .ge (.bi .len (.cons (.attr 7 1 (.var 0)) .nil))) (.cons (.ret (.str [])) .nil) .nil) (.cons (.eY 7 2 (.var 0) .add (.int 1)) (.cons (.ret (.sub (.attr 7 1 (.var 0)) (.bin .sub (.attr 7 2 (.var 0)) (.int 1)))) .nil))))⟩ (.node ⟨1,2,[],(.cons (.asg 1 (.ag (.comp (.sub (.ag (.list (.cons (.bin .add (.int 32) (.bin .mod (.var 0) (.int 65))) (.cons (.int 10) (.cons (.bin .add (.int 33) (.bin .mod (.bin .fdiv (.var 0) (.int 3)) (.int 9))) (.cons (.int 120) .nil)))))) (.bin .mod (.bin .fdiv (.var 0) (.int 65)) (.int 4))) (.slice (.var 0) .none (.int 24))))) (.cons (.aV (.cmp (.ag (.call 71 (.cons (.int 1) (.cons (.str [117,97,42]) (.cons (.var 1) (.cons (.new 6 .nil) .nil)))))) .ne (.ag (.call 74 (.cons (.var 1) .nil)))) (.cons (.ret (.bool false)) .nil) .nil) (.cons (.ret (.and (.ag (.call 79 (.cons (.var 0) .nil))) (.and (.ag (.call 80 (.cons (.var 0) .nil))) (.and (.ag (.call 81 (.cons (.var 0) .nil))) (.ag (.call 82 (.cons (.var 0) .nil))))))) .nil)))⟩ .nil .nil) .nil)) (.node ⟨3,4,[],(.cons (.eY 4 1 (.var 0) .add (.int 1)) (.cons (.aV (.cmp (.sub (.var 2) (.int 0)) .isin (.bin .add (.str [40]) (.a7 7 (.str [120,88,64,46])))) (.cons (.raise 2 (.cons (.str [39,47,39,32,109,117,115,116,32,102,111,108,108,111,119,32,97,32,110,117,109,101,114,105,99,32,116,121,112,101]) .nil)) .nil) .nil) (.cons (.aV (.and (.cmp (.meth 4 0 (.var 0) .nil) .ne (.str [])) (.cmp (.meth 4 0 (.var 0) .nil) .isin (.bin .add (.a7 9 (.str [48,49,50,51,52,53,54,55,56,57])) (.str [42,91])))) (.cons (.raise 2 (.cons (.str [39,47,39,32,100,111,101,115,32,110,111,116,32,116,97,107,101,32,97,32,114,101,112,101,97,116,32,99,111,117,110,116]) .nil)) .nil) .nil) (.cons (.expr (.call 26 (.cons (.var 0) .nil))) (.cons (.aV (.cmp (.meth 4 0 (.var 0) .nil) .isin (.tup (.cons (.str []) (.cons (.str [41]) .nil)))) (.cons (.raise 2 (.cons (.str [67,111,100,101,32,109,105,115,115,105,110,103,32,97,102,116,101,114,32,39,47,39]) .nil)) .nil) .nil) (.cons (.asg 3 (.call 25 (.cons (.var 0) (.cons (.var 1) .nil)))) (.cons (.aV (.cmp (.sub (.var 3) (.int 0)) .isin (.a7 7 (.str [120,88,64,46]))) (.cons (.raise 2 (.cons (.str [39,47,39,32,109,117,115,116,32,98,101,32,102,111,108,108,111,119,101,100,32,98,121,32,97,32,116,121,112,101]) .nil)) .nil) .nil) (.cons (.ret (.tup (.cons (.str [47]) (.cons (.str []) (.cons (.bool false) (.cons (.a7 3 (.int (-2))) (.cons (.list (.cons (.var 2) (.cons (.var 3) .nil))) .nil))))))) .nil))))))))⟩ (.node P7 (.node ⟨1,4,[],(.cons (.asg 0 (.bm .lstrip (.var 0) (.cons (.str [32]) .nil))) (.cons (.asg 1 (.str [])) (.cons (.cj [2] (.slice (.var 0) (.cmp (.slice (.var 0) .none (.int 1)) .eq (.str [45])) .none) (.cons (.aV (.cmp (.var 2) .kh (.str [48,49,50,51,52,53,54,55,56,57])) (.cons .brk .nil) .nil) (.cons (.aug 1 .add (.var 2)) .nil))) (.cons (.asg 3 (.ite (.cmp (.var 1) .ne (.str [])) (.bi .int (.cons (.var 1) .nil)) (.int 0))) (.cons (.ret (.ite (.cmp (.slice (.var 0) .none (.int 1)) .eq (.str [45])) (.neg (.var 3)) (.var 3))) .nil)))))⟩ .nil .nil) .nil) (.node ⟨2,4,[],(.cons (.asg 2 (.ag (.call 53 (.cons (.var 0) .nil)))) (.cons (.asg 3 (.call 57 (.cons (.var 1) (.cons (.bi .len (.cons (.var 2) .nil)) .nil)))) (.cons (.aV (.cmp (.var 3) .gt (.bin .mul (.int 8) (.attr 6 3 (.attr 7 4 (.var 0))))) (.cons (.raise 1 (.cons (.str [79,117,116,32,111,102,32,109,101,109,111,114,121,32,100,117,114,105,110,103,32,112,97,99,107]) .nil)) .nil) .nil) (.cons (.aV (.cmp (.sub (.var 1) (.int 0)) .isin (.str [98,66])) (.cons (.expr (.call 54 (.cons (.var 0) (.cons (.call 10 (.cons (.var 2) (.cons (.var 3) (.cons (.cmp (.sub (.var 1) (.int 0)) .eq (.str [66])) .nil)))) .nil)))) .nil) (.cons (.expr (.call 54 (.cons (.var 0) (.cons .stuck .nil)))) .nil)) .nil))))⟩ .nil .nil)))) (.node f5 (.node ⟨2,3,[],(.cons (.asg 2 (.int 0)) (.cons (.eE (.cmp (.var 1) .lt (.bi .len (.cons (.var 0) .nil))) (.cons (.asg 2 (.bin .bor (.bin .shl (.var 2) (.int 7)) (.bin .band (.sub (.var 0) (.var 1)) (.int 127)))) (.cons (.aug 1 .add (.int 1)) (.cons (.aV (.cmp (.sub (.var 0) (.bin .sub (.var 1) (.int 1))) .lt (.int 128)) (.cons (.ret (.tup (.cons (.var 2) (.cons (.var 1) .nil)))) .nil) .nil) .nil)))) (.cons (.raise 1 (.cons (.str [85,110,116,101,114,109,105,110,97,116,101,100,32,99,111,109,112,114,101,115,115,101,100,32,105,110,116,101,103,101,114,32,105,110,32,117,110,112,97,99,107]) .nil)) .nil)))⟩ (.node ⟨2,2,[],(.cons (.ret (.or (.cmp (.var 0) .isin (.str [110,78])) (.cmp (.var 1) .eq (.str [62])))) .nil)⟩ (.node ⟨2,2,[],JF⟩ (.node ⟨1,1,[],(.cons (.eY 7 5 (.var 0) .add (.int 1)) (.cons (.aV (.cmp (.attr 7 5 (.var 0)) .gt (.attr 6 2 (.attr 7 4 (.var 0)))) (.cons (.raise 3 (.cons (.attr 7 5 (.var 0)) .nil)) .nil) .nil) .nil))⟩ .nil .nil) .nil) (.node ⟨3,3,[],(.cons (.de 7 0 (.var 0) (.list .nil)) (.cons (.de 7 1 (.var 0) (.ag (.bi .list (.cons (.var 1) .nil)))) (.cons (.de 7 2 (.var 0) (.int 0)) (.cons (.de 7 3 (.var 0) (.list (.cons (.int 0) .nil))) (.cons (.de 7 4 (.var 0) (.var 2)) (.cons (.de 7 5 (.var 0) (.int 0)) (.cons (.de 7 6 (.var 0) .none) .nil)))))))⟩ (.node ⟨1,8,[],Qd⟩ .nil .nil) .nil)) (.node ⟨2,7,[],(.cons (.asg 2 (.meth 4 0 (.var 0) .nil)) (.cons (.eY 4 1 (.var 0) .add (.int 1)) (.cons (.asg 3 .none) (.cons (.aV (.cmp (.var 2) .eq (.str [40])) (.cons (.aV (.cmp (.var 1) .ge (.a7 10 (.int 20))) (.cons (.raise 2 (.cons (.str [84,111,111,32,100,101,101,112,108,121,32,110,101,115,116,101,100,32,40,41,45,103,114,111,117,112,115]) .nil)) .nil) .nil) (.cons (.asg 3 (.call 28 (.cons (.var 0) (.cons (.bin .add (.var 1) (.int 1)) .nil)))) .nil)) (.cons (.aV (.cmp (.var 2) .kh (.a7 4 (.str [99,67,115,83,108,76,113,81,105,73,106,74,110,78,118,86,119,85,97,65,90,98,66,104,72,117,120,88,64,46]))) (.cons (.raise 2 (.cons (.str [73,110,118,97,108,105,100,32,116,121,112,101,32,105,110,32,116,101,109,112,108,97,116,101]) .nil)) .nil) .nil) .nil)) (.cons (.dc [.nm 4,.nm 5] (.call 23 (.cons (.var 0) (.cons (.var 2) .nil)))) (.cons (.asg 6 (.call 22 (.cons (.var 0) .nil))) (.cons (.aV (.and (.cmp (.var 6) .eq (.a7 2 (.int (-1)))) (.cmp (.var 2) .isin (.str [120,88,64]))) (.cons (.raise 2 (.cons (.str [110,111,32,115,116,97,114,32,98,101,104,105,110,100,32,97,32,109,111,118,101]) .nil)) .nil) .nil) (.cons (.aV (.cmp (.var 2) .eq (.str [40])) (.cons (.ret (.tup (.cons (.str [40]) (.cons (.str []) (.cons (.bool false) (.cons (.var 6) (.cons (.call 24 (.cons (.var 3) (.cons (.var 4) .nil))) .nil))))))) .nil) .nil) (.cons (.ret (.tup (.cons (.var 2) (.cons (.var 4) (.cons (.var 5) (.cons (.var 6) (.cons .none .nil))))))) .nil)))))))))⟩ (.node ⟨2,9,[],(.cons (.dc [.nm 2,.nm 3,.nm 4,.nm 5,.nm 6] (.var 1)) (.cons (.asg 7 (.ite (.cmp (.var 5) .eq (.a7 3 (.int (-2)))) (.int 1) (.var 5))) (.cons (.aV (.cmp (.var 2) .eq (.str [64])) (.cons (.asg 8 (.bin .add (.sub (.attr 5 3 (.var 0)) (.neg (.int 1))) (.var 7))) .nil) (.cons (.asg 8 (.call 30 (.cons (.attr 5 1 (.var 0)) (.cons (.var 2) (.cons (.var 4) (.cons (.var 7) .nil)))))) .nil)) (.cons (.aV (.or (.cmp (.var 8) .lt (.int 0)) (.cmp (.var 8) .gt (.bi .len (.cons (.attr 5 0 (.var 0)) .nil)))) (.cons (.raise 1 (.cons (.bin .add (.bin .add (.str [39]) (.var 2)) (.str [39,32,111,117,116,115,105,100,101,32,111,102,32,115,116,114,105,110,103,32,105,110,32,117,110,112,97,99,107])) .nil)) .nil) .nil) (.cons (.de 5 1 (.var 0) (.var 8)) .nil)))))⟩ (.node Na .nil .nil) .nil) (.node ⟨2,2,[],(.cons (.aV (.cmp (.sub (.var 0) (.int 3)) .eq (.a7 2 (.int (-1)))) (.cons (.ret (.var 1)) .nil) .nil) (.cons (.ret (.ite (.cmp (.sub (.var 0) (.int 3)) .eq (.a7 3 (.int (-2)))) (.int 1) (.sub (.var 0) (.int 3)))) .nil))⟩ .nil .nil))) (.node MX (.node ⟨1,3,[],(.cons (.asg 1 (.attr 4 1 (.var 0))) (.cons (.eE (.and (.cmp (.meth 4 0 (.var 0) .nil) .ne (.str [])) (.cmp (.meth 4 0 (.var 0) .nil) .isin (.a7 9 (.str [48,49,50,51,52,53,54,55,56,57])))) (.cons (.eY 4 1 (.var 0) .add (.int 1)) .nil)) (.cons (.asg 2 (.slice (.attr 4 0 (.var 0)) (.var 1) (.attr 4 1 (.var 0)))) (.cons (.aV (.cmp (.bi .len (.cons (.var 2) .nil)) .gt (.a7 11 (.int 9))) (.cons (.raise 2 (.cons (.str [112,97,99,107,47,117,110,112,97,99,107,32,114,101,112,101,97,116,32,99,111,117,110,116,32,111,118,101,114,102,108,111,119]) .nil)) .nil) .nil) (.cons (.ret (.bi .int (.cons (.var 2) .nil))) .nil)))))⟩ (.node ⟨1,1,[],(.cons (.ret (.bm .join (.str []) (.cons (.ag (.comp (.bi .chr (.cons (.var 0) .nil)) (.var 0))) .nil))) .nil)⟩ (.node M8 .nil .nil) .nil) (.node ⟨1,1,[],(.cons (.ret (.ag (.comp (.bin .band (.bi .ord (.cons (.var 0) .nil)) (.int 255)) (.call 4 (.cons (.call 51 (.cons (.var 0) .nil)) .nil))))) .nil)⟩ .nil .nil)) (.node ⟨1,1,[],(.cons (.ret (.call 28 (.cons (.new 4 (.cons (.var 0) .nil)) (.cons (.int 0) .nil)))) .nil)⟩ (.node E9 (.node ⟨4,8,[],(.cons (.dc [.nm 4,.nm 5] (.ag (.call 76 (.cons (.var 0) (.cons (.var 1) (.cons (.var 2) .nil)))))) (.cons (.aV (.cmp (.var 0) .eq (.ag (.list .nil))) (.cons (.ret (.ite (.cmp (.var 4) .eq (.ag (.list .nil))) (.list .nil) (.str [100,105,101]))) .nil) .nil) (.cons (.asg 6 (.sub (.var 4) (.neg (.int 1)))) (.cons (.asg 6 (.bi .max (.cons (.ite (.bi .isStr (.cons (.var 6) .nil)) (.call 75 (.cons (.var 6) .nil)) (.var 6)) (.cons (.int 0) .nil)))) (.cons (.asg 7 (.ag (.slice (.var 0) (.var 5) .none))) (.cons (.aV (.cmp (.var 3) .eq (.str [97])) (.cons (.ret (.bin .add (.ag (.slice (.var 4) .none (.neg (.int 1)))) (.ag (.list (.cons (.call 70 (.cons (.ag (.slice (.var 7) .none (.var 6))) .nil)) .nil))))) .nil) .nil) (.cons (.ret (.bin .add (.ag (.slice (.var 4) .none (.neg (.int 1)))) (.ag (.slice (.var 7) .none (.var 6))))) .nil)))))))⟩ .nil .nil) .nil) (.node ⟨2,3,[],(.cons (.forr 2 (.call 57 (.cons (.var 1) (.cons (.call 50 (.cons (.var 0) .nil)) .nil))) (.cons (.expr (.call 65 (.cons (.var 0) .nil))) (.cons (.expr (.call 54 (.cons (.var 0) (.cons (.ag (.call 60 (.cons (.var 0) (.cons (.var 1) .nil)))) .nil)))) .nil))) .nil)⟩ .nil .nil))))) (.node f2 (.node f4 (.node f8 (.node ⟨2,2,[],(.cons (.aV (.cmp (.var 0) .isin (.str [110,78,118,86])) (.cons (.ret (.var 1)) .nil) .nil) (.cons (.ret (.cmp (.var 0) .isin (.str [99,115,108,113,105,106]))) .nil))⟩ (.node M0 (.node ⟨2,10,[],(.cons (.dc [.nm 2,.nm 3] (.sub (.var 1) (.int 4))) (.cons (.dc [.nm 4,.nm 5,.nm 6,.nm 7,.nm 8] (.var 3)) (.cons (.aV (.cmp (.var 4) .isin (.str [97,65,90])) (.cons (.aV (.cmp (.var 7) .lt (.int 0)) (.cons (.asg 9 (.ite (.cmp (.call 50 (.cons (.var 0) .nil)) .gt (.int 0)) (.sub (.attr 7 1 (.var 0)) (.attr 7 2 (.var 0))) (.str []))) (.cons (.asg 7 (.bin .add (.bi .len (.cons (.call 4 (.cons (.var 9) .nil)) .nil)) (.cmp (.var 4) .eq (.str [90])))) .nil)) .nil) .nil) (.cons (.aV (.or (.cmp (.var 7) .lt (.int 0)) (.cmp (.var 7) .gt (.call 50 (.cons (.var 0) .nil)))) (.cons (.asg 7 (.call 50 (.cons (.var 0) .nil))) .nil) .nil) .nil)) (.cons (.de 7 6 (.var 0) (.var 7)) (.cons (.expr (.call 66 (.cons (.var 0) (.cons (.var 2) .nil)))) (.cons (.de 7 6 (.var 0) .none) (.cons (.expr (.call 66 (.cons (.var 0) (.cons (.tup (.cons (.var 4) (.cons (.var 5) (.cons (.var 6) (.cons (.var 7) (.cons (.var 8) .nil)))))) .nil)))) .nil)))))))⟩ .nil .nil) .nil) (.node ⟨6,6,[(.int 64),(.int 50),(.int 1000000),(.int 100000),(.int 10000)],(.cons (.de 6 0 (.var 0) (.var 1)) (.cons (.de 6 1 (.var 0) (.var 2)) (.cons (.de 6 2 (.var 0) (.var 3)) (.cons (.de 6 3 (.var 0) (.var 4)) (.cons (.de 6 4 (.var 0) (.var 5)) .nil)))))⟩ (.node ⟨1,8,[],Qc⟩ .nil .nil) .nil)) (.node ⟨2,8,[],(.cons (.aV (.cmp (.var 1) .eq (.str [])) (.cons (.ret (.var 0)) .nil) .nil) (.cons (.asg 2 (.list .nil)) (.cons (.cj [3,4,5,6,7] (.var 0) (.cons (.aV (.cmp (.var 3) .isin (.str [40,47])) (.cons (.asg 7 (.call 24 (.cons (.var 7) (.cons (.var 1) .nil)))) .nil) (.cons (.aV (.cmp (.var 3) .isin (.a7 5 (.str [115,83,108,76,113,81,105,73,106,74]))) (.cons (.aV (.cmp (.var 4) .kh (.tup (.cons (.str []) (.cons (.var 1) .nil)))) (.cons (.raise 2 (.cons (.bin .add (.bin .add (.str [67,97,110,39,116,32,117,115,101,32,39]) (.var 4)) (.str [39,32,105,110,32,97,32,103,114,111,117,112,32,119,105,116,104,32,100,105,102,102,101,114,101,110,116,32,98,121,116,101,45,111,114,100,101,114])) .nil)) .nil) .nil) (.cons (.asg 4 (.var 1)) .nil)) .nil) .nil)) (.cons (.expr (.bm .append (.var 2) (.cons (.tup (.cons (.var 3) (.cons (.var 4) (.cons (.var 5) (.cons (.var 6) (.cons (.var 7) .nil)))))) .nil))) .nil))) (.cons (.ret (.var 2)) .nil))))⟩ (.node ⟨2,4,[],(.cons (.forr 2 (.call 35 (.cons (.var 1) (.cons (.call 32 (.cons (.var 0) .nil)) .nil))) (.cons (.aV (.cmp (.call 32 (.cons (.var 0) .nil)) .eq (.int 0)) (.cons .lU .nil) .nil) (.cons (.expr (.call 34 (.cons (.var 0) .nil))) (.cons (.aV (.cmp (.sub (.var 1) (.int 0)) .eq (.str [119])) (.cons (.dc [.nm 3,.sD 5 1 (.var 0)] (.call 9 (.cons (.attr 5 0 (.var 0)) (.cons (.attr 5 1 (.var 0)) .nil)))) .nil) (.cons (.dc [.nm 3,.sD 5 1 (.var 0)] .stuck) .nil)) (.cons (.expr (.call 33 (.cons (.var 0) (.cons (.call 0 (.cons (.var 3) (.cons (.attr 6 0 (.attr 5 4 (.var 0))) .nil))) .nil)))) .nil))))) .nil)⟩ (.node ⟨2,2,[],Fb⟩ .nil .nil) .nil) (.node ⟨3,3,[],(.cons (.aV (.cmp (.var 1) .lt (.int 0)) (.cons (.raise 1 (.cons (.bin .add (.bin .add (.str [39]) (.var 2)) (.str [39,32,111,117,116,115,105,100,101,32,111,102,32,115,116,114,105,110,103,32,105,110,32,112,97,99,107])) .nil)) .nil) .nil) (.cons (.aV (.cmp (.var 1) .lt (.bi .len (.cons (.attr 7 0 (.var 0)) .nil))) (.cons .stuck .nil) (.cons (.expr (.call 55 (.cons (.var 0) (.cons (.bin .sub (.var 1) (.bi .len (.cons (.attr 7 0 (.var 0)) .nil))) .nil)))) .nil)) .nil))⟩ .nil .nil))) (.node ⟨2,2,[],JE⟩ (.node ⟨1,1,[],(.cons (.eE (.and (.cmp (.meth 4 0 (.var 0) .nil) .ne (.str [])) (.cmp (.meth 4 0 (.var 0) .nil) .isin (.bin .add (.a7 8 (.str [32,9,10,13,12])) (.str [35])))) (.cons (.aV (.cmp (.meth 4 0 (.var 0) .nil) .ne (.str [35])) (.cons (.eY 4 1 (.var 0) .add (.int 1)) (.cons .cont .nil)) .nil) (.cons (.eE (.and (.cmp (.meth 4 0 (.var 0) .nil) .ne (.str [])) (.cmp (.meth 4 0 (.var 0) .nil) .ne (.str [10]))) (.cons (.eY 4 1 (.var 0) .add (.int 1)) .nil)) .nil))) .nil)⟩ (.node M6 (.node ⟨3,4,[],(.cons (.asg 3 (.new 7 (.cons (.var 1) (.cons (.var 2) .nil)))) (.cons (.expr (.call 67 (.cons (.var 3) (.cons (.ag (.call 29 (.cons (.var 0) .nil))) .nil)))) (.cons (.ret (.bm .join (.str []) (.cons (.ag (.comp (.bi .chr (.cons (.var 0) .nil)) (.attr 7 0 (.var 3)))) .nil))) .nil)))⟩ .nil .nil) .nil) (.node ⟨1,1,[],(.cons (.ret (.call 5 (.cons (.call 51 (.cons (.var 0) .nil)) (.cons (.attr 7 4 (.var 0)) .nil)))) .nil)⟩ .nil .nil)) (.node ⟨2,4,[],(.cons (.asg 2 (.list .nil)) (.cons (.expr (.call 26 (.cons (.var 0) .nil))) (.cons (.eE (.cmp (.meth 4 0 (.var 0) .nil) .kh (.tup (.cons (.str []) (.cons (.str [41]) .nil)))) (.cons (.asg 3 (.call 25 (.cons (.var 0) (.cons (.var 1) .nil)))) (.cons (.expr (.meth 4 1 (.var 0) .nil)) (.cons (.aV (.cmp (.meth 4 0 (.var 0) .nil) .eq (.str [47])) (.cons (.asg 3 (.call 27 (.cons (.var 0) (.cons (.var 1) (.cons (.var 3) .nil))))) .nil) .nil) (.cons (.expr (.call 26 (.cons (.var 0) .nil))) (.cons (.expr (.bm .append (.var 2) (.cons (.var 3) .nil))) .nil)))))) (.cons (.aV (.cmp (.cmp (.meth 4 0 (.var 0) .nil) .eq (.str [41])) .ne (.cmp (.var 1) .gt (.int 0))) (.cons (.raise 2 (.cons (.str [77,105,115,109,97,116,99,104,101,100,32,98,114,97,99,107,101,116,115,32,105,110,32,116,101,109,112,108,97,116,101]) .nil)) .nil) .nil) (.cons (.aV (.cmp (.var 1) .gt (.int 0)) (.cons (.eY 4 1 (.var 0) .add (.int 1)) .nil) .nil) (.cons (.ret (.var 2)) .nil))))))⟩ (.node P9 (.node Nc .nil .nil) .nil) (.node ⟨2,8,[],(.cons (.dc [.nm 2,.nm 3,.nm 4,.nm 5,.nm 6] (.var 1)) (.cons (.asg 7 (.call 52 (.cons (.var 0) .nil))) (.cons (.aV (.cmp (.var 2) .eq (.str [119])) (.cons (.ret (.call 8 (.cons (.var 7) .nil))) .nil) .nil) (.cons (.aV (.cmp (.var 2) .eq (.str [85])) (.cons (.ret .stuck) .nil) .nil) (.cons (.ret (.call 6 (.cons (.var 7) (.cons (.call 15 (.cons (.var 2) (.cons (.var 4) .nil))) (.cons (.call 17 (.cons (.var 2) (.cons (.var 3) .nil))) .nil))))) .nil)))))⟩ .nil .nil)))) (.node f6 (.node ⟨3,5,[],(.cons (.asg 3 (.bin .mul (.list (.cons (.int 0) .nil)) (.bin .fdiv (.bin .add (.var 1) (.int 7)) (.int 8)))) (.cons (.forr 4 (.bi .min (.cons (.var 1) (.cons (.bi .len (.cons (.var 0) .nil)) .nil))) (.cons (.aV (.bin .band (.sub (.var 0) (.var 4)) (.int 1)) (.cons .stuck .nil) .nil) .nil)) (.cons (.ret (.var 3)) .nil)))⟩ (.node ⟨2,2,[],(.cons (.de 4 0 (.var 0) (.var 1)) (.cons (.de 4 1 (.var 0) (.int 0)) .nil))⟩ (.node M3 (.node ⟨2,3,[],(.cons (.expr (.call 65 (.cons (.var 0) .nil))) (.cons (.asg 2 (.sub (.var 1) (.int 0))) (.cons (.aV (.cmp (.var 2) .eq (.str [40])) (.cons (.expr (.call 63 (.cons (.var 0) (.cons (.var 1) .nil)))) .nil) (.cons (.aV (.cmp (.var 2) .eq (.str [47])) (.cons (.expr (.call 64 (.cons (.var 0) (.cons (.var 1) .nil)))) .nil) (.cons (.aV (.cmp (.var 2) .isin (.str [97,65,90])) (.cons (.expr (.call 58 (.cons (.var 0) (.cons (.var 1) .nil)))) .nil) (.cons (.aV (.cmp (.var 2) .isin (.str [98,66,104,72])) (.cons (.expr (.call 59 (.cons (.var 0) (.cons (.var 1) .nil)))) .nil) (.cons (.aV (.cmp (.var 2) .isin (.str [120,88,64])) (.cons (.expr (.call 62 (.cons (.var 0) (.cons (.var 1) .nil)))) .nil) (.cons (.aV (.cmp (.var 2) .eq (.str [46])) (.cons (.expr .stuck) .nil) (.cons (.aV (.cmp (.var 2) .eq (.str [117])) (.cons (.expr (.call 54 (.cons (.var 0) (.cons .stuck .nil)))) .nil) (.cons (.expr (.call 61 (.cons (.var 0) (.cons (.var 1) .nil)))) .nil)) .nil)) .nil)) .nil)) .nil)) .nil)) .nil)) .nil)))⟩ .nil .nil) .nil) (.node ⟨1,1,[],(.cons (.ret (.bin .sub (.bi .len (.cons (.attr 7 1 (.var 0)) .nil)) (.attr 7 2 (.var 0)))) .nil)⟩ (.node ⟨1,5,[],Qe⟩ .nil .nil) .nil)) (.node ⟨1,1,[],(.cons (.expr (.meth 4 1 (.var 0) .nil)) (.cons (.eE (.cmp (.meth 4 0 (.var 0) .nil) .eq (.str [44])) (.cons (.eY 4 1 (.var 0) .add (.int 1)) (.cons (.expr (.meth 4 1 (.var 0) .nil)) .nil))) .nil))⟩ (.node P5 (.node Nb .nil .nil) .nil) (.node ⟨2,5,[],(.cons (.asg 2 (.ag (.call 53 (.cons (.var 0) .nil)))) (.cons (.asg 3 (.call 57 (.cons (.var 1) (.cons (.bin .add (.bi .len (.cons (.var 2) .nil)) (.cmp (.sub (.var 1) (.int 0)) .eq (.str [90]))) .nil)))) (.cons (.aV (.cmp (.var 3) .gt (.attr 6 3 (.attr 7 4 (.var 0)))) (.cons (.raise 1 (.cons (.str [79,117,116,32,111,102,32,109,101,109,111,114,121,32,100,117,114,105,110,103,32,112,97,99,107]) .nil)) .nil) .nil) (.cons (.asg 4 (.ag (.slice (.var 2) .none (.var 3)))) (.cons (.aV (.cmp (.sub (.var 1) (.int 0)) .eq (.str [90])) (.cons (.asg 4 (.ag (.slice (.var 2) .none (.bi .max (.cons (.bin .sub (.var 3) (.int 1)) (.cons (.int 0) .nil)))))) .nil) .nil) (.cons (.expr (.call 54 (.cons (.var 0) (.cons (.bin .add (.var 4) (.bin .mul (.list (.cons (.ite (.cmp (.sub (.var 1) (.int 0)) .eq (.str [65])) (.int 32) (.int 0)) .nil)) (.bin .sub (.var 3) (.bi .len (.cons (.var 4) .nil))))) .nil)))) .nil))))))⟩ .nil .nil))) (.node MY (.node ⟨1,2,[],(.cons (.asg 1 (.meth 4 0 (.var 0) .nil)) (.cons (.aV (.cmp (.var 1) .eq (.str [42])) (.cons (.eY 4 1 (.var 0) .add (.int 1)) (.cons (.ret (.a7 2 (.int (-1)))) .nil)) .nil) (.cons (.aV (.cmp (.var 1) .eq (.str [91])) (.cons (.ret .stuck) .nil) .nil) (.cons (.aV (.and (.cmp (.var 1) .ne (.str [])) (.cmp (.var 1) .isin (.a7 9 (.str [48,49,50,51,52,53,54,55,56,57])))) (.cons (.ret (.call 21 (.cons (.var 0) .nil))) .nil) .nil) (.cons (.ret (.a7 3 (.int (-2)))) .nil)))))⟩ (.node L5 (.node ⟨1,1,[],(.cons (.ret (.bm .join (.str []) (.cons (.ag (.comp (.bi .chr (.cons (.var 0) .nil)) (.var 0))) .nil))) .nil)⟩ .nil .nil) .nil) (.node ⟨2,2,[],(.cons (.aV (.cmp (.bin .add (.bi .len (.cons (.attr 7 0 (.var 0)) .nil)) (.bi .len (.cons (.var 1) .nil))) .gt (.attr 6 3 (.attr 7 4 (.var 0)))) (.cons (.raise 1 (.cons (.str [79,117,116,32,111,102,32,109,101,109,111,114,121,32,100,117,114,105,110,103,32,112,97,99,107]) .nil)) .nil) .nil) (.cons (.expr (.bm .extend (.attr 7 0 (.var 0)) (.cons (.var 1) .nil))) .nil))⟩ .nil .nil)) (.node ⟨4,4,[],(.cons (.aV (.not (.var 2)) (.cons (.ret (.ite (.cmp (.var 1) .eq (.str [120])) (.bin .add (.var 0) (.var 3)) (.bin .sub (.var 0) (.var 3)))) .nil) .nil) (.cons (.aV (.cmp (.var 3) .eq (.int 0)) (.cons (.ret (.var 0)) .nil) .nil) (.cons (.aV (.cmp (.var 1) .eq (.str [120])) (.cons (.ret (.bin .add (.var 0) (.bin .mod (.neg (.var 0)) (.var 3)))) .nil) .nil) (.cons (.ret (.bin .sub (.var 0) (.bin .mod (.var 0) (.var 3)))) .nil))))⟩ (.node L7 (.node ⟨4,8,[],(.cons (.asg 4 (.ite (.cmp (.var 3) .ne (.ag (.list .nil))) (.sub (.var 3) (.int 0)) (.str []))) (.cons (.asg 5 (.ite (.cmp (.var 2) .eq (.str [97])) (.bi .len (.cons (.var 4) .nil)) (.bi .len (.cons (.var 3) .nil)))) (.cons (.aV (.cmp (.var 0) .isin (.str [99,67])) (.cons (.asg 6 (.bin .mul (.list (.cons (.bin .mod (.var 5) (.int 256)) .nil)) (.var 1))) .nil) (.cons (.asg 7 (.slice (.ag (.comp (.bi .ord (.cons (.var 0) .nil)) (.bi .str (.cons (.var 5) .nil)))) .none (.ite (.cmp (.var 0) .eq (.str [90])) (.bin .sub (.var 1) (.int 1)) (.var 1)))) (.cons (.asg 6 (.bin .add (.var 7) (.bin .mul (.list (.cons (.ite (.cmp (.var 0) .eq (.str [65])) (.int 32) (.int 0)) .nil)) (.bin .sub (.var 1) (.bi .len (.cons (.var 7) .nil)))))) .nil))) (.cons (.aV (.cmp (.var 2) .eq (.str [97])) (.cons (.ret (.bin .add (.var 6) (.ag (.comp (.bi .ord (.cons (.var 0) .nil)) (.var 4))))) .nil) .nil) (.cons (.ret (.bin .add (.var 6) (.ag (.comp (.bin .sub (.bi .ord (.cons (.var 0) .nil)) (.int 48)) (.var 3))))) .nil)))))⟩ .nil .nil) .nil) (.node ⟨2,8,[],(.cons (.dc [.nm 2,.nm 3,.nm 4,.nm 5,.nm 6] (.var 1)) (.cons (.asg 7 (.call 57 (.cons (.var 1) (.cons (.int 0) .nil)))) (.cons (.aV (.cmp (.var 2) .eq (.str [64])) (.cons (.expr (.call 56 (.cons (.var 0) (.cons (.bin .add (.sub (.attr 7 3 (.var 0)) (.neg (.int 1))) (.var 7)) (.cons (.var 2) .nil))))) .nil) (.cons (.expr (.call 56 (.cons (.var 0) (.cons (.call 30 (.cons (.bi .len (.cons (.attr 7 0 (.var 0)) .nil)) (.cons (.var 2) (.cons (.var 4) (.cons (.var 7) .nil))))) (.cons (.var 2) .nil))))) .nil)) .nil)))⟩ .nil .nil))))))
noncomputable def DS:List Nat:=[9999,9999,9999,9999,18,31,48,49]
noncomputable def meths:List (Nat×Nat×Nat):=[(4,0,19),(4,1,20)]
noncomputable def jI:List (List (List Nat×Int)):=[[([99],1),([67],1),([115],2),([83],2),([108],4),([76],4),([113],8),([81],8),([105],4),([73],4),([106],8),([74],8),([110],2),([78],4),([118],2),([86],4)]]
noncomputable def af:dR:=⟨dg,DS,meths,jI,λ_ _=>none⟩
inductive TE where
 |v (i:Nat)|k (n:Nat)|a (x y:TE)|p (x:TE) (n:Nat)|m (n:Nat) (x:TE)|t (x:TE) (n:Nat)
inductive TH where
 |z|c (w:Nat) (x y:TE) (r:TH)
noncomputable def tv:List Nat->List Nat->Nat:=λc=>List.rec (λ_=>0) (λy _ ih p=>List.rec 0 (λx r _=>x*y+ih r) p) c
noncomputable def Fd:List Nat->List Nat->List Nat:=λp=>List.rec (λq=>q) (λx p ih q=>List.rec (x::p) (λy q _=>(x+y)::ih q) q) p
noncomputable def Ff(n:Nat):List Nat->List Nat:=λp=>List.rec [] (λx _ ih=>(n*x)::ih) p
noncomputable def JH:Nat->List Nat:=λi=>Nat.rec [1] (λ_ ih=>0::ih) i
noncomputable def Qf:List Nat->List Nat->Bool:=λp=>List.rec (λ_=>true) (λx _ ih q=>List.rec false (λy q _=>Nat.ble x y&&ih q) q) p
noncomputable def L8(p q:List Nat):Bool:=List.rec false (λy q _=>List.rec (Nat.blt 0 y) (λx p _=>Nat.blt x y&&Qf p q) p) q
noncomputable def TE.d(c:List Nat):TE->Nat:=λe=>TE.rec (λi=>c.getD i 0) (λn=>n) (λ_ _ x y=>x+y) (λ_ n x=>x+n) (λn _ x=>n*x) (λ_ n x=>x*n) e
noncomputable def TE.q:TE->List Nat:=λe=>TE.rec (λi=>0::JH i) (λn=>[n]) (λ_ _ x y=>Fd x y) (λ_ n x=>Fd x [n]) (λn _ x=>Ff n x) (λ_ n x=>Ff n x) e
noncomputable def TH.imp(c:List Nat)(g:Prop):TH->Prop:=λh=>TH.rec g (λ_ x y _ r=>x.d c<=y.d c->r) h
noncomputable def TH.L:TH->TE->TE:=λh=>TH.rec (λe=>e) (λw x _ _ r e=>r (.a (.m w x) e)) h
noncomputable def TH.R:TH->TE->TE:=λh=>TH.rec (λe=>e) (λw _ y _ r e=>r (.a (.m w y) e)) h
noncomputable abbrev J0:TE:=.v 0
noncomputable abbrev J1:TE:=.v 1
noncomputable abbrev J2:TE:=.v 2
noncomputable abbrev J3:TE:=.v 3
noncomputable abbrev J4:TE:=.v 4
noncomputable abbrev J5:TE:=.v 5
noncomputable abbrev J6:TE:=.v 6
noncomputable abbrev J7:TE:=.v 7
noncomputable abbrev J8:TE:=.v 8
noncomputable abbrev J9:TE:=.v 9
theorem qL(c:List Nat):tv c []=0:=by cases c<;>rfl
theorem wN(c:List Nat):∀p q:List Nat,tv c (Fd p q)=tv c p+tv c q:=by
 induction c with
 |nil=>exact λ_ _=>rfl
 |cons y c ih=>
  intro p q
  cases p with
  |nil=>exact(Nat.zero_add _).symm
  |cons x p=>
   cases q with
   |nil=>rfl
   |cons z q=>exact(congr (congrArg HAdd.hAdd (Nat.add_mul x z y)) (ih p q)).trans (Nat.add_add_add_comm _ _ _ _)
theorem wO(n:Nat)(c:List Nat):∀p:List Nat,tv c (Ff n p)=n*tv c p:=by
 induction c with
 |nil=>exact λ_=>rfl
 |cons y c ih=>
  intro p
  cases p with
  |nil=>rfl
  |cons x p=>exact(congr (congrArg HAdd.hAdd (Nat.mul_assoc n x y)) (ih p)).trans (Nat.mul_add _ _ _).symm
theorem wQ(n:Nat)(c:List Nat):tv (1::c) [n]=n:=(congr (congrArg HAdd.hAdd (Nat.mul_one n)) (qL c))
theorem Fg(i:Nat):∀c:List Nat,tv c (JH i)=c.getD i 0:=by
 induction i with
 |zero=>
  intro c
  cases c with
  |nil=>rfl
  |cons y c=>exact(congr (congrArg HAdd.hAdd (Nat.one_mul y)) (qL c))
 |succ i ih=>
  intro c
  cases c with
  |nil=>rfl
  |cons y c=>exact(congr (congrArg HAdd.hAdd (Nat.zero_mul y)) (ih c)).trans (Nat.zero_add _)
theorem Fh(p:List Nat):∀c q:List Nat,Qf p q=true->tv c p<=tv c q:=by
 induction p with
 |nil=>exact λc q _=>Nat.le_trans (Nat.le_of_eq (qL c)) (Nat.zero_le _)
 |cons x p ih=>
  intro c q h
  cases q with
  |nil=>cases h
  |cons y q=>
   cases c with
   |nil=>exact Nat.le_refl _
   |cons z c=>
    have h:=Bool.and_eq_true_iff.mp h;exact Nat.add_le_add (Nat.mul_le_mul_right z (Nat.le_of_ble_eq_true h.1)) (ih c q h.2)
theorem Fi(c p q:List Nat)(h:L8 p q=true):tv (1::c) p<tv (1::c) q:=by
 cases q with
 |nil=>cases h
 |cons y q=>
  cases p with
  |nil=>exact Nat.lt_of_lt_of_le (Nat.le_of_ble_eq_true h) (Nat.le_trans (Nat.le_of_eq (Nat.mul_one y).symm) (Nat.le_add_right _ _))
  |cons x p=>
   have h:=Bool.and_eq_true_iff.mp h;exact Nat.add_lt_add_of_lt_of_le (Nat.mul_lt_mul_of_pos_right (Nat.le_of_ble_eq_true h.1) Nat.one_pos) (Fh p c q h.2)
theorem TE.qd(c:List Nat)(e:TE):tv (1::c) e.q=e.d c:=by
 induction e with
 |v i=>exact(congr (congrArg HAdd.hAdd (Nat.zero_mul 1)) (Fg i c)).trans (Nat.zero_add _)
 |k n=>exact wQ n c
 |a x y ix iy=>exact(wN _ _ _).trans (congr (congrArg HAdd.hAdd ix) iy)
 |p x n ix=>exact(wN _ _ _).trans (congr (congrArg HAdd.hAdd ix) (wQ n c))
 |m n x ix=>exact(wO _ _ _).trans (congrArg (n*·) ix)
 |t x n ix=>exact(wO _ _ _).trans ((congrArg (n*·) ix).trans (Nat.mul_comm _ _))
theorem JI{G:Prop}(c:List Nat)(h:TH):∀l r:TE,l.d c<=r.d c->L8 (h.R r).q (h.L l).q=true->h.imp c G:=by
 induction h with
 |z=>exact λl r hl ht=>absurd (Nat.lt_of_lt_of_eq (Nat.lt_of_le_of_lt (Nat.le_of_eq (r.qd c).symm) (Fi c r.q l.q ht)) (l.qd c)) (Nat.not_lt_of_le hl)
 |c w x y r ih=>exact λl e hl ht hx=>ih (.a (.m w x) l) (.a (.m w y) e) (Nat.add_le_add (Nat.mul_le_mul_left w hx) hl) ht
theorem Fj{G:Prop}(g:G)(c:List Nat)(h:TH):h.imp c G:=by
 induction h with
 |z=>exact g
 |c w x y r ih=>exact λ_=>ih
theorem Jx{G:Prop}(c:List Nat)(h:TH)(k:L8 (h.R (.k 0)).q (h.L (.k 0)).q=true):h.imp c G:=JI c h (.k 0) (.k 0) (Nat.le_refl 0) k
theorem Jl(c:List Nat)(w:Nat)(h:TH)(x y:TE)(k:L8 (h.R (.m w x)).q (h.L (.m w (.p y 1))).q=true):h.imp c (x.d c<=y.d c):=
 (Nat.lt_or_ge (y.d c) (x.d c)).elim (λg=>JI c h (.m w (.p y 1)) (.m w x) (Nat.mul_le_mul_left w g) k) λg=>Fj g c h
theorem Jt:true=true:=rfl
theorem Jf{a b:Nat}(h:a=b):a<=b:=Nat.le_of_eq h
theorem Jg{a b:Nat}(h:a=b):b<=a:=Nat.le_of_eq h.symm
theorem Jn{a b:Nat}(h:¬a<=b):b+1<=a:=Nat.lt_of_not_le h
theorem Jz{a b:Nat}(h:¬a<b):b<=a:=Nat.le_of_not_lt h
theorem Js(a b:Nat):a<=a-b+b:=Nat.le_add_of_sub_le (Nat.le_refl _)
theorem Jd(x k:Nat):k*(x/k)<=x:=Nat.mul_div_le x k
theorem Je(x k:Nat)(h:0<k):x+1<=k*(x/k)+k:=Nat.lt_mul_div_succ x h
end Mine
end
section
namespace Mine
variable{α β γ:Type}
@[simp] theorem lV(x y:β):cB true x y=x:=rfl
@[simp] theorem JJ(x y:β):cB false x y=y:=rfl
theorem dI(b:Bool)(x y:β):cB b x y=if b=true then x else y:=by cases b<;>rfl
@[simp] theorem lW(a:α)(f:α->β)(d:β):cO (some a) f d=f a:=rfl
@[simp] theorem RF(f:α->β)(d:β):cO none f d=d:=rfl
@[simp] theorem RG(d:β)(f:α->List α->β):cL [] d f=d:=rfl
@[simp] theorem Nd(a:α)(r:List α)(d:β)(f:α->List α->β):cL (a::r) d f=f a r:=rfl
theorem aT(l:List α)(n:Nat):bf l n=l[n]?:=by
 induction l generalizing n with
 |nil=>rfl
 |cons a l ih=>
  cases n with
  |zero=>rfl
  |succ n=>show bf l n=_;rw[ih];rfl
theorem len_eq(l:List α):len l=l.length:=by
 induction l with
 |nil=>rfl
 |cons a l ih=>show len l+1=_;rw[ih];rfl
theorem bb(l m:List α):app l m=l++m:=by
 induction l with
 |nil=>rfl
 |cons a l ih=>show a::app l m=_;rw[ih];rfl
theorem fE(l:List α)(v:α)(n:Nat):aW l v n=l.set n v:=by
 induction l generalizing n with
 |nil=>rfl
 |cons a l ih=>
  cases n with
  |zero=>rfl
  |succ n=>show a::aW l v n=_;rw[ih];rfl
theorem e7(l:List α)(n:Nat):eZ l n=l.take n:=by
 induction l generalizing n with
 |nil=>simp;rfl
 |cons a l ih=>
  cases n with
  |zero=>rfl
  |succ n=>show a::eZ l n=_;rw[ih];rfl
theorem gc(l:List α)(n:Nat):oY l n=l.drop n:=by
 induction l generalizing n with
 |nil=>simp;rfl
 |cons a l ih=>
  cases n with
  |zero=>rfl
  |succ n=>show oY l n=_;rw[ih];rfl
theorem A4(l m:List α):EX l m=l.reverse++m:=by
 induction l generalizing m with
 |nil=>rfl
 |cons a l ih=>show EX l (a::m)=_;rw[ih];simp
theorem rev_eq(l:List α):rev l=l.reverse:=by unfold rev;rw[A4];simp
@[simp] theorem ni(b:Bool):hZ b=!b:=by cases b<;>rfl
@[simp] theorem bV(a b:Bool):band a b=(a&&b):=by cases a<;>rfl
@[simp] theorem A5(a b:Bool):EY a b=(a==b):=by cases a<;>cases b<;>rfl
theorem fF(a b:Int):kj a b=decide (a<b):=by
 cases a with
 |ofNat a=>
  cases b with
  |ofNat b=>
   refine(?_:Nat.blt a b=_);rw[Bool.eq_iff_iff,decide_eq_true_eq];exact⟨λh=>Int.ofNat_lt.mpr (Nat.le_of_ble_eq_true h),λh=>Nat.ble_eq_true_of_le (Int.ofNat_lt.mp h)⟩
  |negSucc b=>show false=_;rw[Bool.eq_iff_iff];simp;omega
 |negSucc a=>
  cases b with
  |ofNat b=>show true=_;rw[Bool.eq_iff_iff];simp;omega
  |negSucc b=>show Nat.blt b a=_;rw[Bool.eq_iff_iff,decide_eq_true_eq];exact⟨λh=>by have:=Nat.le_of_ble_eq_true h;omega,λh=>Nat.ble_eq_true_of_le (by omega)⟩
theorem wR(a b:Int):Dr a b=decide (a<=b):=by
 unfold Dr;rw[fF,dI]
 by_cases h:b<a<;>simp[h]<;>omega
theorem nj(a b:Int):oZ a b=(a==b):=by
 cases a with
 |ofNat a=>
  cases b with
  |ofNat b=>show Nat.beq a b=_;rw[Bool.eq_iff_iff];simp;omega
  |negSucc b=>show false=_;rw[Bool.eq_iff_iff];simp
 |negSucc a=>
  cases b with
  |ofNat b=>show false=_;rw[Bool.eq_iff_iff];simp
  |negSucc b=>show Nat.beq a b=_;rw[Bool.eq_iff_iff];simp
theorem j7(a b:Int):iadd a b=a+b:=by
 cases a<;>cases b<;>rfl
theorem seq_eq(x y:List Nat):seq x y=(x==y):=by
 induction x generalizing y with
 |nil=>cases y<;>rfl
 |cons a x ih=>
  cases y with
  |nil=>rfl
  |cons b y=>
   refine(?_:cB (Nat.beq a b) (seq x y) false=_);rw[dI,ih];by_cases h:a=b
   ·subst h;simp
   ·have:Nat.beq a b=false:=Bool.eq_false_iff.mpr λe=>h (Nat.eq_of_beq_eq_true e);rw[this];simp[h]
theorem sN(c:Nat)(l:List Nat):ia c l=l.contains c:=by
 induction l with
 |nil=>rfl
 |cons a l ih=>
  refine(?_:cB (Nat.beq a c) true (ia c l)=_);rw[dI,ih,List.contains_cons];by_cases h:a=c
  ·subst h;simp
  ·have:Nat.beq a c=false:=Bool.eq_false_iff.mpr λe=>h (Nat.eq_of_beq_eq_true e);rw[this];simp[Ne.symm h]
theorem aw{x:Out α}{f:α->LH->Out β}{v:β}{σ:LH}(h:oB x f=.ok v σ):∃a ax,x=.ok a ax/\f a ax=.ok v σ:=by
 cases x with
 |ok a ax=>exact⟨a,ax,rfl,h⟩
 |err c ax=>cases h
 |bad=>cases h
@[simp] theorem A6(a:α)(σ:LH)(f:α->LH->Out β):oB (.ok a σ) f=f a σ:=rfl
@[simp] theorem RH(c:Nat)(σ:LH)(f:α->LH->Out β):oB (.err c σ) f=.err c σ:=rfl
@[simp] theorem RI(f:α->LH->Out β):oB .bad f=.bad:=rfl
@[simp] theorem RJ(a:α)(σ:LH)(ρ:List LV)(f:α->LH->av):oS (.ok a σ) ρ f=f a σ:=rfl
@[simp] theorem RK(c:Nat)(σ:LH)(ρ:List LV)(f:α->LH->av):oS (.err c σ) ρ f=.err c ρ σ:=rfl
@[simp] theorem RL(ρ:List LV)(f:α->LH->av):oS .bad ρ f=.bad:=rfl
@[simp] theorem Nf(a:α)(f:α->Out β):oN (some a) f=f a:=rfl
@[simp] theorem RM(f:α->Out β):oN none f=.bad:=rfl
@[simp] theorem DT(a:α)(f:α->av):jJ (some a) f=f a:=rfl
@[simp] theorem Qg(f:α->av):jJ none f=.bad:=rfl
@[simp] theorem JK(x:Out β):bN true x=x:=rfl
@[simp] theorem RN(x:Out β):bN false x=.bad:=rfl
theorem JL{o:Option α}{f:α->Out β}(h:oN o f≠.bad):∃a,o=some a/\f a≠.bad:=by
 cases o with
 |none=>exact absurd rfl h
 |some a=>exact⟨a,rfl,h⟩
theorem nq{o:Option α}{f:α->av}(h:jJ o f≠.bad):∃a,o=some a/\f a≠.bad:=by
 cases o with
 |none=>exact absurd rfl h
 |some a=>exact⟨a,rfl,h⟩
theorem Qh{b:Bool}{x:Out β}(h:bN b x≠.bad):b=true/\x≠.bad:=by
 cases b with
 |false=>exact absurd rfl h
 |true=>exact⟨rfl,h⟩
theorem Tr.get_nil(i:Nat):(Tr.nil:Tr α).get i=none:=rfl
theorem bL{a b:Bool}(h:(a&&b)=true):a=true:=by cases a;cases h;rfl
theorem bR{a b:Bool}(h:(a&&b)=true):b=true:=by cases a;cases h;exact h
end Mine
end
section
open PySem PySem.W PyProof PyProof.Rows
namespace Mine
noncomputable abbrev aS:=List (Addr×Addr)
noncomputable def Own(φ:aS)(b:Addr):Prop:=∃p∈φ,b=p.1∨b=p.2
noncomputable def toS(s:List Nat):Str:=⟨s.toArray⟩
mutual
noncomputable def eF:LV->Bool
 |.ref _=>false
 |.tup vs=>d6 vs
 |.ag vs=>d6 vs
 |_=>true
noncomputable def d6:List LV->Bool
 |[]=>true
 |v::vs=>eF v&&d6 vs
end
mutual
noncomputable def VR(φ:aS)(F:List Addr)(h:Heap):LV->Value->Prop
 |.au,_=>False
 |.none,x=>x=.none
 |.bool b,x=>x=.bool b
 |.int i,x=>∃t,x=.int i t
 |.str s,x=>∃t,x=.str (toS s) t
 |.tup vs,x=>∃a o xs n,x=.ref a/\h.get? a=some o/\¬Own φ a/\a∉F/\o.cls=.type "tuple"/\o.data=.seq xs n/\aB φ F h vs xs.toList
 |.ag vs,x=>d6 vs=true/\∃a o xs n,x=.ref a/\h.get? a=some o/\¬Own φ a/\a∉F/\o.cls=.type "list"/\o.data=.seq xs n/\aB φ F h vs xs.toList
 |.ref i,x=>∃p,φ[i]?=some p/\x=.ref p.1
noncomputable def aB(φ:aS)(F:List Addr)(h:Heap):List LV->List Value->Prop
 |[],[]=>True
 |v::vs,x::xs=>VR φ F h v x/\aB φ F h vs xs
 |_,_=>False
end
section
variable{φ ak:aS}{F F':List Addr}{h h':Heap}
mutual
theorem VR.bq(K:∀b o,h.get? b=some o->¬Own φ b->b∉F->h'.get? b=some o/\¬Own ak b/\b∉F')
  (E:∀(i:Nat)(p:Addr×Addr),φ[i]?=some p->ak[i]?=some p):∀(v:LV)(x:Value),VR φ F h v x->VR ak F' h' v x
 |.au,_,r=>by simp[VR] at r
 |.none,_,r=>by simpa[VR] using r
 |.bool _,_,r=>by simpa[VR] using r
 |.int _,_,r=>by simpa[VR] using r
 |.str _,_,r=>by simpa[VR] using r
 |.ref i,x,r=>by
  rw[VR] at r⊢;obtain⟨p,hp,e⟩:=r;exact⟨p,E i p hp,e⟩
 |.tup vs,x,r=>by
  rw[VR] at r⊢;obtain⟨a,o,xs,n,e,ha,no,nf,hc,hd,rs⟩:=r;obtain⟨k1,k2,k3⟩:=K a o ha no nf;exact⟨a,o,xs,n,e,k1,k2,k3,hc,hd,aB.bq K E vs xs.toList rs⟩
 |.ag vs,x,r=>by
  rw[VR] at r⊢;obtain⟨hp,a,o,xs,n,e,ha,no,nf,hc,hd,rs⟩:=r;obtain⟨k1,k2,k3⟩:=K a o ha no nf;exact⟨hp,a,o,xs,n,e,k1,k2,k3,hc,hd,aB.bq K E vs xs.toList rs⟩
theorem aB.bq(K:∀b o,h.get? b=some o->¬Own φ b->b∉F->h'.get? b=some o/\¬Own ak b/\b∉F')
  (E:∀(i:Nat)(p:Addr×Addr),φ[i]?=some p->ak[i]?=some p):∀(vs:List LV)(xs:List Value),aB φ F h vs xs->aB ak F' h' vs xs
 |[],[],_=>by rw[aB];trivial
 |[],_::_,r=>by simp[aB] at r
 |_::_,[],r=>by simp[aB] at r
 |v::vs,x::xs,r=>by
  rw[aB] at r⊢;exact⟨VR.bq K E v x r.1,aB.bq K E vs xs r.2⟩
end
mutual
theorem VR.pure'(K:∀b o,h.get? b=some o->¬Own φ b->b∉F->h'.get? b=some o/\¬Own ak b/\b∉F'):∀(v:LV)(x:Value),eF v=true->VR φ F h v x->VR ak F' h' v x
 |.au,_,_,r=>by simp[VR] at r
 |.none,_,_,r=>by simpa[VR] using r
 |.bool _,_,_,r=>by simpa[VR] using r
 |.int _,_,_,r=>by simpa[VR] using r
 |.str _,_,_,r=>by simpa[VR] using r
 |.ref i,x,p,r=>by simp[eF] at p
 |.tup vs,x,p,r=>by
  rw[VR] at r⊢;rw[eF] at p;obtain⟨a,o,xs,n,e,ha,no,nf,hc,hd,rs⟩:=r;obtain⟨k1,k2,k3⟩:=K a o ha no nf;exact⟨a,o,xs,n,e,k1,k2,k3,hc,hd,aB.pure' K vs xs.toList p rs⟩
 |.ag vs,x,p,r=>by
  rw[VR] at r⊢;rw[eF] at p;obtain⟨hp,a,o,xs,n,e,ha,no,nf,hc,hd,rs⟩:=r;obtain⟨k1,k2,k3⟩:=K a o ha no nf;exact⟨hp,a,o,xs,n,e,k1,k2,k3,hc,hd,aB.pure' K vs xs.toList p rs⟩
theorem aB.pure'(K:∀b o,h.get? b=some o->¬Own φ b->b∉F->h'.get? b=some o/\¬Own ak b/\b∉F'):∀(vs:List LV)(xs:List Value),d6 vs=true->aB φ F h vs xs->aB ak F' h' vs xs
 |[],[],_,_=>by rw[aB];trivial
 |[],_::_,_,r=>by simp[aB] at r
 |_::_,[],_,r=>by simp[aB] at r
 |v::vs,x::xs,p,r=>by
  rw[aB] at r⊢;rw[d6,Bool.and_eq_true] at p;exact⟨VR.pure' K v x p.1 r.1,aB.pure' K vs xs p.2 r.2⟩
end
end
section
variable{φ:aS}{F:List Addr}{h:Heap}
theorem aB.a8{xs:List Value}:aB φ F h [] xs↔xs=[]:=by cases xs<;>simp[aB]
theorem aB.aH{v:LV}{vs:List LV}{xs:List Value}:aB φ F h (v::vs) xs↔∃x j8,xs=x::j8/\VR φ F h v x/\aB φ F h vs j8:=by
 cases xs with
 |nil=>simp[aB]
 |cons x xs=>
  rw[aB];exact⟨λr=>⟨x,xs,rfl,r.1,r.2⟩,λ⟨x',j8,e,a,b⟩=>by injection e with e1 e2;subst e1;subst e2;exact⟨a,b⟩⟩
theorem aB.length{vs:List LV}:∀{xs:List Value},aB φ F h vs xs->xs.length=vs.length:=by
 induction vs with
 |nil=>intro xs r;rw[aB.a8.mp r];rfl
 |cons v vs ih=>intro xs r;obtain⟨x,j8,rfl,_,r⟩:=aB.aH.mp r;simp[ih r]
theorem aB.append{vs ws:List LV}:∀{xs ys:List Value},aB φ F h vs xs->aB φ F h ws ys->aB φ F h (vs++ws) (xs++ys):=by
 induction vs with
 |nil=>intro xs ys r q;rw[aB.a8.mp r];exact q
 |cons v vs ih=>intro xs ys r q;obtain⟨x,j8,rfl,a,r⟩:=aB.aH.mp r;exact aB.aH.mpr ⟨x,j8++ys,rfl,a,ih r q⟩
theorem aB.one{v:LV}{x:Value}(r:VR φ F h v x):aB φ F h [v] [x]:=aB.aH.mpr ⟨x,[],rfl,r,aB.a8.mpr rfl⟩
theorem aB.get{vs:List LV}:∀{xs:List Value}{i:Nat}{v:LV},aB φ F h vs xs->vs[i]?=some v->∃x,xs[i]?=some x/\VR φ F h v x:=by
 induction vs with
 |nil=>intro xs i v _ e;simp at e
 |cons w vs ih=>
  intro xs i v r e;obtain⟨x,j8,rfl,a,r⟩:=aB.aH.mp r
  cases i with
  |zero=>simp at e;subst e;exact⟨x,rfl,a⟩
  |succ i=>simp at e;simpa using ih r e
theorem aB.take{vs:List LV}:∀{xs:List Value}(n:Nat),aB φ F h vs xs->aB φ F h (vs.take n) (xs.take n):=by
 induction vs with
 |nil=>intro xs n r;rw[aB.a8.mp r];simp[aB]
 |cons w vs ih=>
  intro xs n r;obtain⟨x,j8,rfl,a,r⟩:=aB.aH.mp r
  cases n with
  |zero=>simp[aB]
  |succ n=>exact aB.aH.mpr ⟨x,_,rfl,a,ih n r⟩
theorem aB.drop{vs:List LV}:∀{xs:List Value}(n:Nat),aB φ F h vs xs->aB φ F h (vs.drop n) (xs.drop n):=by
 induction vs with
 |nil=>intro xs n r;rw[aB.a8.mp r];simp[aB]
 |cons w vs ih=>
  intro xs n r
  cases n with
  |zero=>exact r
  |succ n=>
   obtain⟨x,j8,rfl,a,r⟩:=aB.aH.mp r;exact ih n r
theorem aB.reverse{vs:List LV}:∀{xs:List Value},aB φ F h vs xs->aB φ F h vs.reverse xs.reverse:=by
 induction vs with
 |nil=>intro xs r;rw[aB.a8.mp r];simp[aB]
 |cons w vs ih=>
  intro xs r;obtain⟨x,j8,rfl,a,r⟩:=aB.aH.mp r;rw[List.reverse_cons,List.reverse_cons];exact(ih r).append (.one a)
theorem aB.set{vs:List LV}:∀{xs:List Value}{i:Nat}{v:LV}{x:Value},aB φ F h vs xs->VR φ F h v x->aB φ F h (vs.set i v) (xs.set i x):=by
 induction vs with
 |nil=>intro xs i v x r _;rw[aB.a8.mp r];simp[aB]
 |cons w vs ih=>
  intro xs i v x r q;obtain⟨y,j8,rfl,a,r⟩:=aB.aH.mp r
  cases i with
  |zero=>exact aB.aH.mpr ⟨x,_,rfl,q,r⟩
  |succ i=>exact aB.aH.mpr ⟨y,_,rfl,a,ih r q⟩
end
structure Nm where
 gd:Nat->Str
 cD:Nat->Str
 gX:Nat->Str
 bK:Nat->List Str
 me:Nat->Str
 a7:Nat->LV
 mf:Nat->Str
structure FI where
 names:List Str
 fd:FuncData
structure Bg where
 prog:Program
 w:World
 h0:Heap
 P:dR
 nm:Nm
 cls:Nat->Addr
 fa:Nat->Addr
 fi:Nat->FI
 mg:Str->Option Value
 mb:Str->Option Value
 K:Frag
 x:Nat
noncomputable abbrev Bg.bK(B:Bg):Nat->List Str:=B.nm.bK
noncomputable abbrev lobj(xs:Array Value)(n:Nat):Obj:={cls:=.type "list",dict:=none,data:=.seq xs n,slots:=#[]}
noncomputable def sO(h:Heap)(a:Addr)(m:Str->Option Value)(k:Nat):Prop:=∃o es ep,h.get? a=some o/\o.data=.dict es ep/\StrKeys es/\es.size<=k/\∀name,nsFind es name=m name
theorem sO.ns{h:Heap}{a:Addr}{m:Str->Option Value}{k:Nat}(x:sO h a m k):h.Ns a m:=let⟨o,es,ep,a,b,c,_,d⟩:=x;⟨o,es,ep,a,b,c,d⟩
noncomputable def FR(B:Bg)(φ:aS)(F:List Addr)(h:Heap)(c:Nat)(fs:List LV)(m:Str->Option Value):Prop:=
 fs.length<=(B.bK c).length/\∀(j:Nat)(n:Str),(B.bK c)[j]?=some n->match fs[j]?with
  |none=>m n=none
  |some v=>∃x,m n=some x/\VR φ F h v x
noncomputable def OR(B:Bg)(φ:aS)(F:List Addr)(h:Heap):LO->Addr×Addr->Prop
 |.list vs,p=>p.2=p.1/\∃xs n,h.get? p.1=some (lobj xs n)/\aB φ F h vs xs.toList
 |.inst c fs,p=>p.1≠p.2/\h.get? p.1=some (instObj (B.cls c) p.2)/\∃m,sO h p.2 m fs.length/\FR B φ F h c fs m
structure Inv(B:Bg)(φ:aS)(F:List Addr)(σ:LH)(h:Heap):Prop where
 len:φ.length=σ.length
 ok:∀(i:Nat)(o:LO)(p:Addr×Addr),σ[i]?=some o->φ[i]?=some p->OR B φ F h o p
 sep:∀(i j:Nat)(p q:Addr×Addr),i≠j->φ[i]?=some p->φ[j]?=some q->p.1≠q.1/\p.1≠q.2/\p.2≠q.1/\p.2≠q.2
 top:∀p∈φ,B.h0.get? p.1=none/\B.h0.get? p.2=none
 di:∀p∈φ,p.1∉F/\p.2∉F
 base:B.h0.StaysIn h
 fr:∀f∈F,B.h0.get? f=none/\∃o,h.get? f=some o
structure Le(F X:List Addr)(φ ak:aS)(s s':Shared):Prop where
 keep:∀b o,s.heap.get? b=some o->¬Own φ b->b∉F->s'.heap.get? b=some o
 live:∀b o,s.heap.get? b=some o->∃o',s'.heap.get? b=some o'
 fr:∀b o,s.heap.get? b=some o->b∈F->b∉X->∃sl,s'.heap.get? b=some {o with slots:=sl}
 oP:∀b o,s.heap.get? b=some o->b∈F->(∀vs,o.data≠.fields vs)->∃o',s'.heap.get? b=some o'/\∀vs,o'.data≠.fields vs
 ext:∃ψ,ak=φ++ψ/\∀p∈ψ,s.heap.get? p.1=none/\s.heap.get? p.2=none
 gens:s'.gens=s.gens
 os:s'.os=s.os
theorem aQ{h h':Heap}(l:∀b o,h.get? b=some o->∃o',h'.get? b=some o'){b:Addr}(e:h'.get? b=none):h.get? b=none:=by
 cases q:h.get? b with
 |none=>rfl
 |some o=>obtain⟨o',e'⟩:=l b o q;rw[e] at e';cases e'
theorem Own.append{φ ψ:aS}{b:Addr}:Own (φ++ψ) b↔Own φ b∨Own ψ b:=by
 unfold Own;simp only[List.mem_append];constructor
 ·rintro⟨p,hp|hp,e⟩
  ·exact .inl ⟨p,hp,e⟩
  ·exact .inr ⟨p,hp,e⟩
 ·rintro(⟨p,hp,e⟩|⟨p,hp,e⟩)
  ·exact⟨p,.inl hp,e⟩
  ·exact⟨p,.inr hp,e⟩
section
variable{F X:List Addr}{φ ak fG:aS}{s s' cb:Shared}
theorem Le.ky(x:Le F X φ ak s s'){b:Addr}{o:Obj}(e:s.heap.get? b=some o)(n:¬Own φ b):¬Own ak b:=by
 obtain⟨ψ,rfl,wU⟩:=x.ext;rw[Own.append]
 rintro(q|⟨p,hp,q|q⟩)
 ·exact n q
 ·rw[q,(wU p hp).1] at e;cases e
 ·rw[q,(wU p hp).2] at e;cases e
theorem Le.idx(x:Le F X φ ak s s'){i:Nat}{p:Addr×Addr}(e:φ[i]?=some p):ak[i]?=some p:=by
 obtain⟨ψ,rfl,wU⟩:=x.ext;rw[List.getElem?_append_left (List.getElem?_eq_some_iff.mp e).1];exact e
theorem Le.refl:Le F X φ φ s s:=
 ⟨λ_ _ e _ _=>e,λ_ o e=>⟨o,e⟩,λ_ o e _ _=>⟨o.slots,e⟩,λ_ o e _ d=>⟨o,e,d⟩,⟨[],by simp,λ_ h=>by simp at h⟩,rfl,rfl⟩
theorem Le.trans(x:Le F X φ ak s s')(y:Le F X ak fG s' cb):Le F X φ fG s cb where
 keep b o e n nf:=y.keep b o (x.keep b o e n nf) (x.ky e n) nf
 live b o e:=let⟨o',e'⟩:=x.live b o e;y.live b o' e'
 fr b o e m nx:=by
  obtain⟨sl,e'⟩:=x.fr b o e m nx;obtain⟨DU,Fl⟩:=y.fr b _ e' m nx;exact⟨DU,Fl⟩
 oP b o e m d:=by
  obtain⟨o',e',d'⟩:=x.oP b o e m d;exact y.oP b o' e' m d'
 ext:=by
  obtain⟨ψ,rfl,wU⟩:=x.ext;obtain⟨RO,rfl,JM⟩:=y.ext;refine⟨ψ++RO,by simp,λp hp=>?_⟩
  rcases List.mem_append.mp hp with q|q
  ·exact wU p q
  ·exact⟨aQ x.live (JM p q).1,aQ x.live (JM p q).2⟩
 gens:=y.gens.trans x.gens
 os:=y.os.trans x.os
theorem Le.wide{X':List Addr}(x:Le F X φ ak s s')(k:∀b,b∈X->b∈X'):Le F X' φ ak s s':=
 ⟨x.keep,x.live,λb o e m nx=>x.fr b o e m λq=>nx (k b q),x.oP,x.ext,x.gens,x.os⟩
theorem Le.K(x:Le F X φ ak s s'):∀b o,s.heap.get? b=some o->¬Own φ b->b∉F->s'.heap.get? b=some o/\¬Own ak b/\b∉F:=
 λb o e n nf=>⟨x.keep b o e n nf,x.ky e n,nf⟩
theorem VR.mono{v:LV}{a:Value}(r:VR φ F s.heap v a)(x:Le F X φ ak s s'):VR ak F s'.heap v a:=VR.bq x.K (λ_ _ e=>x.idx e) v a r
theorem aB.mono{v:List LV}{a:List Value}(r:aB φ F s.heap v a)(x:Le F X φ ak s s'):aB ak F s'.heap v a:=aB.bq x.K (λ_ _ e=>x.idx e) v a r
theorem Le.of_keeps(k:∀b o,s.heap.get? b=some o->s'.heap.get? b=some o)(hg:s'.gens=s.gens)(ho:s'.os=s.os):Le F X φ φ s s':=
 ⟨λb o e _ _=>k b o e,λb o e=>⟨o,k b o e⟩,λb o e _ _=>⟨o.slots,k b o e⟩,λb o e _ d=>⟨o,k b o e,d⟩,⟨[],by simp,λ_ h=>by simp at h⟩,hg,ho⟩
end
section
variable{B:Bg}{φ ak:aS}{F F':List Addr}{σ:LH}{h h':Heap}
theorem FR.bq{c fs m}(r:FR B φ F h c fs m)(K:∀b o,h.get? b=some o->¬Own φ b->b∉F->h'.get? b=some o/\¬Own ak b/\b∉F')
  (E:∀(i:Nat)(p:Addr×Addr),φ[i]?=some p->ak[i]?=some p):FR B ak F' h' c fs m:=by
 refine⟨r.1,λj n e=>?_⟩;have:=r.2 j n e;cases q:fs[j]?with
 |none=>rw[q] at this;exact this
 |some v=>rw[q] at this;obtain⟨x,a,b⟩:=this;exact⟨x,a,VR.bq K E v x b⟩
theorem OR.bq{o:LO}{p:Addr×Addr}(r:OR B φ F h o p)(h1:h'.get? p.1=h.get? p.1)(h2:h'.get? p.2=h.get? p.2)
  (K:∀b o,h.get? b=some o->¬Own φ b->b∉F->h'.get? b=some o/\¬Own ak b/\b∉F')
  (E:∀(i:Nat)(p:Addr×Addr),φ[i]?=some p->ak[i]?=some p):OR B ak F' h' o p:=by
 cases o with
 |list vs=>
  rw[OR] at r⊢;obtain⟨e,xs,n,ho,rs⟩:=r;exact⟨e,xs,n,h1▸ho,aB.bq K E _ _ rs⟩
 |inst c fs=>
  rw[OR] at r⊢;obtain⟨e,ho,m,⟨o,es,ep,hn,hr⟩,rs⟩:=r;exact⟨e,h1▸ho,m,⟨o,es,ep,h2▸hn,hr⟩,rs.bq K E⟩
theorem OR.live{o:LO}{p:Addr×Addr}(r:OR B φ F h o p):(∃ob,h.get? p.1=some ob/\∀vs,ob.data≠.fields vs)/\(∃ob,h.get? p.2=some ob/\∀vs,ob.data≠.fields vs):=by
 cases o with
 |list vs=>
  rw[OR] at r;obtain⟨e,xs,n,ho,rs⟩:=r;rw[e];exact⟨⟨_,ho,λvs q=>by cases q⟩,⟨_,ho,λvs q=>by cases q⟩⟩
 |inst c fs=>
  rw[OR] at r;obtain⟨e,ho,m,⟨o,es,ep,hn,hr⟩,rs⟩:=r;exact⟨⟨_,ho,λvs q=>by simp at q⟩,⟨o,hn,λvs q=>by rw[hr.1] at q;cases q⟩⟩
theorem Inv.obj(I:Inv B φ F σ h){i:Nat}{p:Addr×Addr}(e:φ[i]?=some p):∃o,σ[i]?=some o/\OR B φ F h o p:=by
 have hi:i<σ.length:=I.len▸(List.getElem?_eq_some_iff.mp e).1;exact⟨σ[i],List.getElem?_eq_getElem hi,I.ok i _ p (List.getElem?_eq_getElem hi) e⟩
theorem Inv.place(I:Inv B φ F σ h){i:Nat}{o:LO}(e:σ[i]?=some o):∃p,φ[i]?=some p/\OR B φ F h o p:=by
 have hi:i<φ.length:=I.len▸(List.getElem?_eq_some_iff.mp e).1;exact⟨φ[i],List.getElem?_eq_getElem hi,I.ok i _ _ e (List.getElem?_eq_getElem hi)⟩
theorem Inv.live(I:Inv B φ F σ h){b:Addr}(o:Own φ b):∃ob,h.get? b=some ob/\∀vs,ob.data≠.fields vs:=by
 obtain⟨p,hp,e⟩:=o;obtain⟨i,hi,rfl⟩:=List.getElem_of_mem hp;obtain⟨o,_,r⟩:=I.obj (List.getElem?_eq_getElem hi)
 rcases e with e|e
 ·rw[e];exact r.live.1
 ·rw[e];exact r.live.2
theorem Inv.keeps(I:Inv B φ F σ h)(k:∀b o,h.get? b=some o->h'.get? b=some o):Inv B φ F σ h' where
 len:=I.len
 ok i o p a b:=by
  have r:=I.ok i o p a b;obtain⟨⟨o1,e1,_⟩,⟨o2,e2,_⟩⟩:=r.live;exact r.bq ((k _ _ e1).trans e1.symm) ((k _ _ e2).trans e2.symm) (λb o e n nf=>⟨k b o e,n,nf⟩) λ_ _ e=>e
 sep:=I.sep
 top:=I.top
 di:=I.di
 base b o e:=k b o (I.base b o e)
 fr f hf:=⟨(I.fr f hf).1,let⟨o,e⟩:=(I.fr f hf).2;⟨o,k f o e⟩⟩
theorem Inv.held(I:Inv B φ F σ h)(k:∀b o,h.get? b=some o->b∉F->h'.get? b=some o)(kf:∀b o,h.get? b=some o->b∈F->∃o',h'.get? b=some o'):Inv B φ F σ h' where
 len:=I.len
 ok i o p a b:=by
  have r:=I.ok i o p a b;have hm:=I.di p (List.mem_of_getElem? b);obtain⟨⟨o1,e1,_⟩,⟨o2,e2,_⟩⟩:=r.live;exact r.bq ((k _ _ e1 hm.1).trans e1.symm) ((k _ _ e2 hm.2).trans e2.symm) (λb o e n nf=>⟨k b o e nf,n,nf⟩) λ_ _ e=>e
 sep:=I.sep
 top:=I.top
 di:=I.di
 base b o e:=k b o (I.base b o e) λhf=>by have:=(I.fr b hf).1;rw[this] at e;cases e
 fr f hf:=⟨(I.fr f hf).1,let⟨o,e⟩:=(I.fr f hf).2;kf f o e hf⟩
theorem Inv.newList(I:Inv B φ F σ h){a:Addr}{xs:Array Value}{n:Nat}{vs:List LV}(k:∀b o,h.get? b=some o->h'.get? b=some o)(ha:h.get? a=none)
  (ho:h'.get? a=some (lobj xs n)) (r:aB φ F h vs xs.toList):Inv B (φ++[(a,a)]) F (σ++[.list vs]) h':=by
 have K:∀b o,h.get? b=some o->¬Own φ b->b∉F->h'.get? b=some o/\¬Own (φ++[(a,a)]) b/\b∉F:=λb o e nb nf=>by
  refine⟨k b o e,?_,nf⟩;rw[Own.append]
  rintro(q|⟨p,hp,q⟩)
  ·exact nb q
  ·simp only[List.mem_singleton] at hp;subst hp
   rcases q with q|q<;>(simp only at q;rw[q,ha] at e;cases e)
 have E:∀(i:Nat)(p:Addr×Addr),φ[i]?=some p->(φ++[(a,a)])[i]?=some p:=λi p e=>by
  rw[List.getElem?_append_left (List.getElem?_eq_some_iff.mp e).1];exact e
 have JN:a∉F:=λhf=>by obtain⟨o,e⟩:=(I.fr a hf).2;rw[ha] at e;cases e
 have fresh:∀(i:Nat)(p:Addr×Addr),φ[i]?=some p->p.1≠a/\p.2≠a:=λi p e=>by
  obtain⟨o,_,r⟩:=I.obj e;obtain⟨⟨o1,e1,_⟩,⟨o2,e2,_⟩⟩:=r.live;exact⟨λq=>(by rw[q,ha] at e1;cases e1),λq=>(by rw[q,ha] at e2;cases e2)⟩
 have split:∀(i:Nat)(p:Addr×Addr),(φ++[(a,a)])[i]?=some p->φ[i]?=some p∨(i=φ.length/\p=(a,a)):=λi p e=>by
  rcases Nat.lt_or_ge i φ.length with hi|hi
  ·rw[List.getElem?_append_left hi] at e;exact .inl e
  ·rw[List.getElem?_append_right hi] at e
   have:i-φ.length=0:=by
    cases q:i-φ.length with
    |zero=>rfl
    |succ m=>rw[q] at e;simp at e
   rw[this] at e;simp at e;exact .inr ⟨by exact Nat.le_antisymm (Jl [_,i,_] 1 (.c 1 J0 (.k 0) (.c 1 J1 (.a J0 J2) .z)) J1 J2 Jt (Jf this) (Jg (Nat.sub_add_cancel hi))) (Jl [_,i] 1 (.c 1 J0 J1 .z) J0 J1 Jt hi),e.symm⟩
 refine⟨by simp[I.len],λi ob p e1 e2=>?_,λi j p q A7 e1 e2=>?_,λp hp=>?_,λp hp=>?_,λb o e=>k b o (I.base b o e),λf hf=>⟨(I.fr f hf).1,let⟨o,e⟩:=(I.fr f hf).2;⟨o,k f o e⟩⟩⟩
 ·rcases split i p e2 with q|⟨hi,rfl⟩
  ·have hi:i<σ.length:=I.len▸(List.getElem?_eq_some_iff.mp q).1;rw[List.getElem?_append_left hi] at e1;have r:=I.ok i ob p e1 q;obtain⟨⟨o1,e1,_⟩,⟨o2,e2,_⟩⟩:=r.live;exact r.bq ((k _ _ e1).trans e1.symm) ((k _ _ e2).trans e2.symm) K E
  ·rw[hi,I.len] at e1;simp at e1;subst e1;rw[OR];exact⟨rfl,xs,n,ho,aB.bq K E _ _ r⟩
 ·rcases split i p e1 with q1|⟨hi,rfl⟩<;>rcases split j q e2 with q2|⟨hj,rfl⟩
  ·exact I.sep i j p q A7 q1 q2
  ·have:=fresh i p q1;exact⟨this.1,this.1,this.2,this.2⟩
  ·have:=fresh j q q2;exact⟨Ne.symm this.1,Ne.symm this.2,Ne.symm this.1,Ne.symm this.2⟩
  ·walk_at "om"
 ·rcases List.mem_append.mp hp with q|q
  ·exact I.top p q
  ·simp only[List.mem_singleton] at q;subst q;have:=aQ (λb o e=>⟨o,I.base b o e⟩) ha;exact⟨this,this⟩
 ·rcases List.mem_append.mp hp with q|q
  ·exact I.di p q
  ·simp only[List.mem_singleton] at q;subst q;exact⟨JN,JN⟩
end
end Mine
end
section
open PySem PySem.W PyProof PyProof.Rows
namespace Mine
section
variable{B:Bg}{φ ak:aS}{F F':List Addr}{σ:LH}{h h':Heap}
theorem qM{i:Nat}{p:Addr×Addr}{q:Addr}(hp:φ[i]?=some p)(hq:q=p.1∨q=p.2):Own φ q:=⟨p,List.mem_of_getElem? hp,hq⟩
theorem iO{i:Nat}{p:Addr×Addr}{q:Addr}(hp:φ[i]?=some p)(hq:q=p.1∨q=p.2)(hs:∀b,b≠q->h'.get? b=h.get? b):
  ∀b o,h.get? b=some o->¬Own φ b->b∉F->h'.get? b=some o/\¬Own φ b/\b∉F:=λb o e n nf=>
 ⟨(hs b λx=>n (x▸qM hp hq)).trans e,n,nf⟩
theorem Inv.change(I:Inv B φ F σ h){i:Nat}{p:Addr×Addr}{q:Addr}{o':LO}(hp:φ[i]?=some p)(hq:q=p.1∨q=p.2)(hs:∀b,b≠q->h'.get? b=h.get? b)
  (r:OR B φ F h' o' p):Inv B φ F (σ.set i o') h' where
 len:=by simp[I.len]
 ok j o pj a b:=by
  by_cases A7:i=j
  ·subst A7;have hi:i<σ.length:=I.len▸(List.getElem?_eq_some_iff.mp hp).1;rw[List.getElem?_set_self hi] at a;cases a;rw[hp] at b;cases b;exact r
  ·rw[List.getElem?_set_ne A7] at a;have r:=I.ok j o pj a b;have sp:=I.sep i j p pj A7 hp b;exact r.bq (hs _ (by rcases hq with e|e<;>rw[e];exact(Ne.symm sp.1);exact(Ne.symm sp.2.2.1))) (hs _ (by rcases hq with e|e<;>rw[e];exact(Ne.symm sp.2.1);exact(Ne.symm sp.2.2.2)))
    (iO hp hq hs) λ_ _ e=>e
 sep:=I.sep
 top:=I.top
 di:=I.di
 base b o e:=(hs b λx=>by
  have t:=I.top p (List.mem_of_getElem? hp)
  rcases hq with q|q
  ·rw[x,q,t.1] at e;cases e
  ·rw[x,q,t.2] at e;cases e).trans (I.base b o e)
 fr f hf:=⟨(I.fr f hf).1,let⟨o,e⟩:=(I.fr f hf).2;⟨o,(hs f λx=>by
  have t:=I.di p (List.mem_of_getElem? hp)
  rcases hq with q|q
  ·exact t.1 (q▸x▸hf)
  ·exact t.2 (q▸x▸hf)).trans e⟩⟩
theorem Le.change{s s':Shared}{X:List Addr}(I:Inv B φ F σ s.heap){i:Nat}{p:Addr×Addr}{q:Addr}{o':LO}(hp:φ[i]?=some p)(hq:q=p.1∨q=p.2)(hs:∀b,b≠q->s'.heap.get? b=s.heap.get? b)
  (r:OR B φ F s'.heap o' p) (hg:s'.gens=s.gens) (ho:s'.os=s.os):Le F X φ φ s s' where
 keep b o e n nf:=(iO (F:=F) hp hq hs b o e n nf).1
 live b o e:=by
  by_cases x:b=q
  ·subst x
   rcases hq with q|q
   ·obtain⟨o,e,_⟩:=r.live.1;exact⟨o,q▸e⟩
   ·obtain⟨o,e,_⟩:=r.live.2;exact⟨o,q▸e⟩
  ·exact⟨o,(hs b x).trans e⟩
 fr b o e m nx:=⟨o.slots,(hs b λx=>by
  have t:=I.di p (List.mem_of_getElem? hp)
  rcases hq with q|q
  ·exact t.1 (q▸x▸m)
  ·exact t.2 (q▸x▸m)).trans e⟩
 oP b o e m d:=⟨o,(hs b λx=>by
  have t:=I.di p (List.mem_of_getElem? hp)
  rcases hq with q|q
  ·exact t.1 (q▸x▸m)
  ·exact t.2 (q▸x▸m)).trans e,d⟩
 ext:=⟨[],by simp,λ_ h=>by simp at h⟩
 gens:=hg
 os:=ho
theorem Inv.A8{s s':Shared}{X:List Addr}(I:Inv B φ F σ s.heap){i:Nat}{p:Addr×Addr}{xs:Array Value}{n:Nat}{vs JO:List LV}(hv:σ[i]?=some (.list JO))(hp:φ[i]?=some p)
  (hs:∀b,b≠p.1->s'.heap.get? b=s.heap.get? b) (ho:s'.heap.get? p.1=some (lobj xs n)) (r:aB φ F s.heap vs xs.toList) (hg:s'.gens=s.gens) (Fn:s'.os=s.os):
  Inv B φ F (σ.set i (.list vs)) s'.heap/\Le F X φ φ s s':=by
 have r0:=I.ok i _ p hv hp;rw[OR] at r0
 have r1:OR B φ F s'.heap (.list vs) p:=by
  rw[OR];exact⟨r0.1,xs,n,ho,aB.bq (iO hp (.inl rfl) hs) (λ_ _ e=>e) _ _ r⟩
 exact⟨I.change hp (.inl rfl) hs r1,Le.change I hp (.inl rfl) hs r1 hg Fn⟩
theorem d7(l:List LV)(v:LV)(j:Nat)(q:List LV)(e:putAt l v j=some q):(j<l.length/\q=l.set j v)∨(j=l.length/\q=l++[v]):=by
 induction l generalizing j q with
 |nil=>
  cases j with
  |zero=>exact .inr ⟨rfl,by injection e with e;exact e.symm⟩
  |succ j=>cases e
 |cons a l ih=>
  cases j with
  |zero=>exact .inl ⟨by simp,by injection e with e;exact e.symm⟩
  |succ j=>
   change cO (putAt l v j) (λq=>some (a::q)) none=some q at e
   cases hq:putAt l v j with
   |none=>rw[hq] at e;cases e
   |some q'=>
    rw[hq] at e
    injection e with e;subst e
    rcases ih j q' hq with⟨h1,rfl⟩|⟨h1,rfl⟩
    ·exact .inl ⟨by simp;walk_at "om",rfl⟩
    ·exact .inr ⟨by simp;walk_at "om",rfl⟩
theorem Inv.Fo{s s':Shared}{X:List Addr}(I:Inv B φ F σ s.heap){i c j:Nat}{p:Addr×Addr}{fs qy:List LV}{m:Str->Option Value}{n:Str}{v:LV}{x:Value}
  (H3:(B.bK c).Nodup)
  (hv:σ[i]?=some (.inst c fs)) (hp:φ[i]?=some p) (hj:putAt fs v j=some qy) (hn:(B.bK c)[j]?=some n) (r:VR φ F s.heap v x) (A9:FR B φ F s.heap c fs m)
  (qN:sO s'.heap p.2 (λy=>if y=n then some x else m y) qy.length) (hs:Heap.SameBut p.2 s.heap s'.heap) (hg:s'.gens=s.gens) (Fn:s'.os=s.os):
  Inv B φ F (σ.set i (.inst c qy)) s'.heap/\Le F X φ φ s s':=by
 have r0:=I.ok i _ p hv hp;rw[OR] at r0;have K:=iO (F:=F) hp (.inr rfl) hs.2
 have r1:OR B φ F s'.heap (.inst c qy) p:=by
  rw[OR];refine⟨r0.1,(hs.2 _ r0.1).trans r0.2.1,_,qN,?_,λk nk ek=>?_⟩
  ·have RP:=(List.getElem?_eq_some_iff.mp hn).1
   rcases d7 _ _ _ _ hj with⟨h1,rfl⟩|⟨h1,rfl⟩
   ·simpa using A9.1
   ·simp;exact Jl [j,_,fs.length] 1 (.c 1 (.p J0 1) J1 (.c 1 J2 J0 .z)) (.p J2 1) J1 Jt RP (Jg h1)
  ·by_cases Ng:j=k
   ·subst Ng
    have:nk=n:=by rw[hn] at ek;injection ek with ek;exact ek.symm
    subst this
    have:qy[j]?=some v:=by
     rcases d7 _ _ _ _ hj with⟨h1,rfl⟩|⟨h1,rfl⟩
     ·exact List.getElem?_set_self h1
     ·rw[h1];simp
    rw[this];exact⟨x,if_pos rfl,VR.bq K (λ_ _ e=>e) _ _ r⟩
   ·have gY:nk≠n:=λq=>by
     subst q;have a:=List.getElem?_eq_some_iff.mp hn;have b:=List.getElem?_eq_some_iff.mp ek;exact Ng ((List.getElem_inj H3).mp (a.2.trans b.2.symm))
    have old:=A9.2 k nk ek
    have wV:qy[k]?=fs[k]?:=by
     rcases d7 _ _ _ _ hj with⟨h1,rfl⟩|⟨h1,rfl⟩
     ·exact List.getElem?_set_ne Ng
     ·rcases Nat.lt_or_ge k fs.length with q|q
      ·exact List.getElem?_append_left q
      ·rw[List.getElem?_append_right q,List.getElem?_eq_none q]
       cases w:k-fs.length with
       |zero=>walk_at "om"
       |succ w=>rfl
    rw[wV];simp only[gY,if_false];cases q:fs[k]?with
    |none=>rw[q] at old;exact old
    |some u=>rw[q] at old;obtain⟨y,a,b⟩:=old;exact⟨y,a,VR.bq K (λ_ _ e=>e) _ _ b⟩
 exact⟨I.change hp (.inr rfl) hs.2 r1,Le.change I hp (.inr rfl) hs.2 r1 hg Fn⟩
theorem Inv.Ba(I:Inv B φ F σ h){a d c:Nat}(k:∀b o,h.get? b=some o->h'.get? b=some o)(ha:h.get? a=none)(hd:h.get? d=none)(Nh:a≠d)
  (ho:h'.get? a=some (instObj (B.cls c) d)) (hn:sO h' d (λ_=>none) 0):Inv B (φ++[(a,d)]) F (σ++[.inst c []]) h':=by
 have K:∀b o,h.get? b=some o->¬Own φ b->b∉F->h'.get? b=some o/\¬Own (φ++[(a,d)]) b/\b∉F:=λb o e nb nf=>by
  refine⟨k b o e,?_,nf⟩;rw[Own.append]
  rintro(q|⟨p,hp,q⟩)
  ·exact nb q
  ·simp only[List.mem_singleton] at hp;subst hp
   rcases q with q|q
   ·simp only at q;rw[q,ha] at e;cases e
   ·simp only at q;rw[q,hd] at e;cases e
 have E:∀(i:Nat)(p:Addr×Addr),φ[i]?=some p->(φ++[(a,d)])[i]?=some p:=λi p e=>by
  rw[List.getElem?_append_left (List.getElem?_eq_some_iff.mp e).1];exact e
 have JN:∀b,h.get? b=none->b∉F:=λb hb hf=>by obtain⟨o,e⟩:=(I.fr b hf).2;rw[hb] at e;cases e
 have fresh:∀(i:Nat)(p:Addr×Addr),φ[i]?=some p->∀b,h.get? b=none->p.1≠b/\p.2≠b:=λi p e b hb=>by
  obtain⟨o,_,r⟩:=I.obj e;obtain⟨⟨o1,e1,_⟩,⟨o2,e2,_⟩⟩:=r.live;exact⟨λq=>(by rw[q,hb] at e1;cases e1),λq=>(by rw[q,hb] at e2;cases e2)⟩
 have split:∀(i:Nat)(p:Addr×Addr),(φ++[(a,d)])[i]?=some p->φ[i]?=some p∨(i=φ.length/\p=(a,d)):=λi p e=>by
  rcases Nat.lt_or_ge i φ.length with hi|hi
  ·rw[List.getElem?_append_left hi] at e;exact .inl e
  ·rw[List.getElem?_append_right hi] at e
   have:i-φ.length=0:=by
    cases q:i-φ.length with
    |zero=>rfl
    |succ m=>rw[q] at e;simp at e
   rw[this] at e;simp at e;exact .inr ⟨by exact Nat.le_antisymm (Jl [_,i,_] 1 (.c 1 J0 (.k 0) (.c 1 J1 (.a J0 J2) .z)) J1 J2 Jt (Jf this) (Jg (Nat.sub_add_cancel hi))) (Jl [_,i] 1 (.c 1 J0 J1 .z) J0 J1 Jt hi),e.symm⟩
 refine⟨by simp[I.len],λi ob p e1 e2=>?_,λi j p q A7 e1 e2=>?_,λp hp=>?_,λp hp=>?_,λb o e=>k b o (I.base b o e),λf hf=>⟨(I.fr f hf).1,let⟨o,e⟩:=(I.fr f hf).2;⟨o,k f o e⟩⟩⟩
 ·rcases split i p e2 with q|⟨hi,rfl⟩
  ·have hi:i<σ.length:=I.len▸(List.getElem?_eq_some_iff.mp q).1;rw[List.getElem?_append_left hi] at e1;have r:=I.ok i ob p e1 q;obtain⟨⟨o1,e1,_⟩,⟨o2,e2,_⟩⟩:=r.live;exact r.bq ((k _ _ e1).trans e1.symm) ((k _ _ e2).trans e2.symm) K E
  ·rw[hi,I.len] at e1;simp at e1;subst e1;rw[OR];exact⟨Nh,ho,_,hn,by simp,λj n _=>by simp⟩
 ·rcases split i p e1 with q1|⟨hi,rfl⟩<;>rcases split j q e2 with q2|⟨hj,rfl⟩
  ·exact I.sep i j p q A7 q1 q2
  ·have f1:=fresh i p q1 a ha;have f2:=fresh i p q1 d hd;exact⟨f1.1,f2.1,f1.2,f2.2⟩
  ·have f1:=fresh j q q2 a ha;have f2:=fresh j q q2 d hd;exact⟨Ne.symm f1.1,Ne.symm f1.2,Ne.symm f2.1,Ne.symm f2.2⟩
  ·walk_at "om"
 ·rcases List.mem_append.mp hp with q|q
  ·exact I.top p q
  ·simp only[List.mem_singleton] at q;subst q;exact⟨aQ (λb o e=>⟨o,I.base b o e⟩) ha,aQ (λb o e=>⟨o,I.base b o e⟩) hd⟩
 ·rcases List.mem_append.mp hp with q|q
  ·exact I.di p q
  ·simp only[List.mem_singleton] at q;subst q;exact⟨JN _ ha,JN _ hd⟩
theorem Le.grow{s s':Shared}{X:List Addr}{a d:Addr}(k:∀b o,s.heap.get? b=some o->s'.heap.get? b=some o)(ha:s.heap.get? a=none)(hd:s.heap.get? d=none)(hg:s'.gens=s.gens)(ho:s'.os=s.os):
  Le F X φ (φ++[(a,d)]) s s':=
 ⟨λb o e _ _=>k b o e,λb o e=>⟨o,k b o e⟩,λb o e _ _=>⟨o.slots,k b o e⟩,λb o e _ d=>⟨o,k b o e,d⟩,
  ⟨[(a,d)],rfl,λp hp=>by simp only[List.mem_singleton] at hp;subst hp;exact⟨ha,hd⟩⟩,hg,ho⟩
theorem Inv.fM(I:Inv B φ F σ h){a:Addr}(k:∀b o,h.get? b=some o->h'.get? b=some o)(ha:h.get? a=none)(hl:∃o,h'.get? a=some o):Inv B φ (a::F) σ h':=by
 have J:=I.keeps k
 have na:∀b o,h.get? b=some o->b≠a:=λb o e q=>by rw[q,ha] at e;cases e
 refine⟨J.len,λi o p e1 e2=>?_,J.sep,J.top,λp hp=>?_,J.base,λf hf=>?_⟩
 ·have r:=I.ok i o p e1 e2;obtain⟨⟨o1,e1,_⟩,⟨o2,e2,_⟩⟩:=r.live
  exact r.bq ((k _ _ e1).trans e1.symm) ((k _ _ e2).trans e2.symm) (λb o e n nf=>⟨k b o e,n,λq=>by
   rcases List.mem_cons.mp q with q|q
   ·exact na b o e q
   ·exact nf q⟩) λ_ _ e=>e
 ·obtain⟨i,hi,rfl⟩:=List.getElem_of_mem hp;obtain⟨o,_,r⟩:=I.obj (List.getElem?_eq_getElem hi);obtain⟨⟨o1,e1,_⟩,⟨o2,e2,_⟩⟩:=r.live;have:=I.di _ hp;exact⟨λq=>(List.mem_cons.mp q).elim (na _ _ e1) this.1,λq=>(List.mem_cons.mp q).elim (na _ _ e2) this.2⟩
 ·rcases List.mem_cons.mp hf with rfl|q
  ·exact⟨aQ (λb o e=>⟨o,I.base b o e⟩) ha,hl⟩
  ·exact J.fr f q
theorem VR.fM{v:LV}{x:Value}(r:VR φ F h v x){a:Addr}(k:∀b o,h.get? b=some o->h'.get? b=some o)(ha:h.get? a=none):VR φ (a::F) h' v x:=
 VR.bq (λb o e n nf=>⟨k b o e,n,λq=>by
  rcases List.mem_cons.mp q with q|q
  ·rw[q,ha] at e;cases e
  ·exact nf q⟩) (λ_ _ e=>e) v x r
theorem aB.fM{v:List LV}{x:List Value}(r:aB φ F h v x){a:Addr}(k:∀b o,h.get? b=some o->h'.get? b=some o)(ha:h.get? a=none):aB φ (a::F) h' v x:=
 aB.bq (λb o e n nf=>⟨k b o e,n,λq=>by
  rcases List.mem_cons.mp q with q|q
  ·rw[q,ha] at e;cases e
  ·exact nf q⟩) (λ_ _ e=>e) v x r
theorem Inv.RQ{a:Addr}(I:Inv B φ (a::F) σ h):Inv B φ F σ h where
 len:=I.len
 ok i o p e1 e2:=(I.ok i o p e1 e2).bq rfl rfl (λb o e n nf=>⟨e,n,λq=>nf (List.mem_cons_of_mem _ q)⟩) λ_ _ e=>e
 sep:=I.sep
 top:=I.top
 di p hp:=⟨λq=>(I.di p hp).1 (List.mem_cons_of_mem _ q),λq=>(I.di p hp).2 (List.mem_cons_of_mem _ q)⟩
 base:=I.base
 fr f hf:=I.fr f (List.mem_cons_of_mem _ hf)
end
end Mine
end
section
open PySem PySem.W PyProof PyProof.Rows
namespace Mine
theorem mh(n:Nat)(vs:List LV):below n (.tup vs)=belows n vs:=by
 induction vs with
 |nil=>rfl
 |cons v vs ih=>show band (below n v) (below n (.tup vs))=band (below n v) (belows n vs);rw[ih]
section
variable{B:Bg}{φ ψ:aS}{F:List Addr}{σ:LH}{h:Heap}
theorem sP:∀b o,h.get? b=some o->¬Own (φ++ψ) b->b∉F->h.get? b=some o/\¬Own φ b/\b∉F:=
 λb o e n nf=>⟨e,λq=>n (Own.append.mpr (.inl q)),nf⟩
mutual
theorem VR.cut:∀(v:LV)(x:Value),below φ.length v=true->VR (φ++ψ) F h v x->VR φ F h v x
 |.au,_,_,r=>by simp[VR] at r
 |.none,_,_,r=>by simpa[VR] using r
 |.bool _,_,_,r=>by simpa[VR] using r
 |.int _,_,_,r=>by simpa[VR] using r
 |.str _,_,_,r=>by simpa[VR] using r
 |.ag vs,x,_,r=>VR.pure' sP _ _ (by rw[VR] at r;rw[eF];exact r.1) r
 |.ref i,x,b,r=>by
  rw[VR] at r⊢;obtain⟨p,hp,e⟩:=r;have hi:i<φ.length:=Nat.le_of_ble_eq_true b;rw[List.getElem?_append_left hi] at hp;exact⟨p,hp,e⟩
 |.tup vs,x,b,r=>by
  rw[VR] at r⊢;obtain⟨a,o,xs,n,e,ha,no,nf,hc,hd,rs⟩:=r;obtain⟨k1,k2,k3⟩:=sP a o ha no nf;rw[mh] at b;exact⟨a,o,xs,n,e,k1,k2,k3,hc,hd,aB.cut vs xs.toList b rs⟩
theorem aB.cut:∀(vs:List LV)(xs:List Value),belows φ.length vs=true->aB (φ++ψ) F h vs xs->aB φ F h vs xs
 |[],[],_,_=>by rw[aB];trivial
 |[],_::_,_,r=>by simp[aB] at r
 |_::_,[],_,r=>by simp[aB] at r
 |v::vs,x::xs,b,r=>by
  rw[aB] at r⊢
  have b':(below φ.length v&&belows φ.length vs)=true:=by rw[←bV];exact b
  rw[Bool.and_eq_true] at b';exact⟨VR.cut v x b'.1 r.1,aB.cut vs xs b'.2 r.2⟩
end
theorem qO{n:Nat}:∀{σ:LH}{k i:Nat}{o:LO},fD n σ k=true->σ[i]?=some o->i<k->aZ n o=true:=by
 intro σ
 induction σ with
 |nil=>intro k i o _ e;simp at e
 |cons a σ ih=>
  intro k i o b e hk
  cases k with
  |zero=>exact Jx [i] (.c 1 (.p J0 1) (.k 0) .z) Jt hk
  |succ k=>
   have b':(aZ n a&&fD n σ k)=true:=by rw[←bV];exact b
   rw[Bool.and_eq_true] at b'
   cases i with
   |zero=>simp at e;subst e;exact b'.1
   |succ i=>simp at e;exact ih b'.2 e (by exact Jl [i,k] 1 (.c 1 (.p (.p J0 1) 1) (.p J1 1) .z) (.p J0 1) J1 Jt hk)
theorem FR.cut{c fs m}(b:belows φ.length fs=true)(r:FR B (φ++ψ) F h c fs m):FR B φ F h c fs m:=by
 have hb:∀(j:Nat)(v:LV),fs[j]?=some v->below φ.length v=true:=by
  clear r
  induction fs with
  |nil=>intro j v e;simp at e
  |cons a fs ih=>
   intro j v e
   have b':(below φ.length a&&belows φ.length fs)=true:=by rw[←bV];exact b
   rw[Bool.and_eq_true] at b'
   cases j with
   |zero=>simp at e;subst e;exact b'.1
   |succ j=>simp at e;exact ih b'.2 j v e
 refine⟨r.1,λj n e=>?_⟩;have:=r.2 j n e;cases q:fs[j]?with
 |none=>rw[q] at this;exact this
 |some v=>rw[q] at this;obtain⟨x,a,b⟩:=this;exact⟨x,a,VR.cut v x (hb j v q) b⟩
theorem Inv.cut(I:Inv B (φ++ψ) F σ h)(b:fD φ.length σ φ.length=true):Inv B φ F (σ.take φ.length) h where
 len:=by
  have:=I.len;simp at this;simp;walk_at "om"
 ok i o p a e:=by
  have hi:i<φ.length:=(List.getElem?_eq_some_iff.mp e).1
  have a':σ[i]?=some o:=by rw[List.getElem?_take] at a;simpa[hi] using a
  have r:=I.ok i o p a' (by rw[List.getElem?_append_left hi];exact e);have bo:=qO b a' hi
  cases o with
  |list vs=>
   rw[OR] at r⊢;obtain⟨e,xs,n,ho,rs⟩:=r;exact⟨e,xs,n,ho,aB.cut _ _ bo rs⟩
  |inst c fs=>
   rw[OR] at r⊢;obtain⟨e,ho,m,hn,rs⟩:=r;exact⟨e,ho,m,hn,rs.cut bo⟩
 sep i j p q A7 a b:=I.sep i j p q A7 (by rw[List.getElem?_append_left (List.getElem?_eq_some_iff.mp a).1];exact a) (by rw[List.getElem?_append_left (List.getElem?_eq_some_iff.mp b).1];exact b)
 top p hp:=I.top p (List.mem_append_left _ hp)
 di p hp:=I.di p (List.mem_append_left _ hp)
 base:=I.base
 fr:=I.fr
theorem mi{f:LV->Option LV}(hf:∀v x v',f v=some v'->VR (φ++ψ) F h v x->eF v'=true/\VR φ F h v' x):
  ∀{vs:List LV}{xs:List Value}{ws:List LV},eR f vs=some ws->aB (φ++ψ) F h vs xs->d6 ws=true/\aB φ F h ws xs:=by
 intro vs
 induction vs with
 |nil=>
  intro xs ws e r
  injection e with e;subst e
  rw[aB.a8.mp r];exact⟨rfl,aB.a8.mpr rfl⟩
 |cons v vs ih=>
  intro xs ws e r;obtain⟨x,j8,rfl,a,r⟩:=aB.aH.mp r;change cO (f v) (λx=>cO (eR f vs) (λq=>some (x::q)) none) none=some ws at e
  cases hv:f v with
  |none=>rw[hv] at e;cases e
  |some v'=>
   rw[hv] at e
   cases Ni:eR f vs with
   |none=>rw[lW,Ni] at e;cases e
   |some Tu=>
    rw[lW,Ni] at e
    injection e with e;subst e
    have h1:=hf v x v' hv a;have h2:=ih Ni r;exact⟨by rw[d6,h1.1,h2.1];rfl,aB.aH.mpr ⟨x,j8,rfl,h1.2,h2.2⟩⟩
theorem Bb(I:Inv B (φ++ψ) F σ h):∀(k:Nat)(v:LV)(x:Value)(v':LV),fz σ φ.length k v=some v'->VR (φ++ψ) F h v x->eF v'=true/\VR φ F h v' x:=by
 intro k
 induction k with
 |zero=>intro v x v' e _;cases e
 |succ k ih=>
  intro v x v' e r;change PY σ φ.length (fz σ φ.length k) v=some v' at e
  cases v with
  |au=>simp[VR] at r
  |none=>injection e with e;subst e;exact⟨rfl,by simpa[VR] using r⟩
  |bool b=>injection e with e;subst e;exact⟨rfl,by simpa[VR] using r⟩
  |int i=>injection e with e;subst e;exact⟨rfl,by simpa[VR] using r⟩
  |str s=>injection e with e;subst e;exact⟨rfl,by simpa[VR] using r⟩
  |ag vs=>
   injection e with e;subst e
   have p:eF (.ag vs)=true:=by rw[VR] at r;rw[eF];exact r.1
   exact⟨p,VR.pure' sP _ _ p r⟩
  |tup vs=>
   change cO (eR (fz σ φ.length k) vs) (λq=>some (.tup q)) none=some v' at e
   cases hm:eR (fz σ φ.length k) vs with
   |none=>rw[hm] at e;cases e
   |some q=>
    rw[hm] at e
    injection e with e;subst e
    rw[VR] at r;obtain⟨a,o,xs,n,e,ha,no,nf,hc,hd,rs⟩:=r;have z:=mi (λv x v' e r=>ih v x v' e r) hm rs;obtain⟨k1,k2,k3⟩:=sP a o ha no nf;exact⟨by rw[eF];exact z.1,by rw[VR];exact⟨a,o,xs,n,e,k1,k2,k3,hc,hd,z.2⟩⟩
  |ref i=>
   change cB (Nat.blt i φ.length) none (cO (bf σ i) (bC none (λvs=>cO (eR (fz σ φ.length k) vs) (λq=>some (.ag q)) none)) none)=some v' at e
   cases hb:Nat.blt i φ.length with
   |true=>rw[hb] at e;cases e
   |false=>
    rw[hb,JJ,aT] at e;cases hs:σ[i]?with
    |none=>rw[hs] at e;cases e
    |some o=>
     rw[hs] at e
     cases o with
     |inst c fs=>cases e
     |list vs=>
      change cO (eR (fz σ φ.length k) vs) (λq=>some (.ag q)) none=some v' at e
      cases hm:eR (fz σ φ.length k) vs with
      |none=>rw[hm] at e;cases e
      |some q=>
       rw[hm] at e
       injection e with e;subst e
       rw[VR] at r;obtain⟨p,hp,rfl⟩:=r;have ro:=I.ok i _ p hs hp;rw[OR] at ro;obtain⟨ep,xs,n,ho,rs⟩:=ro;have z:=mi (λv x v' e r=>ih v x v' e r) hm rs;have uI:φ.length<=i:=Nat.le_of_not_lt λq=>Bool.false_ne_true (hb.symm.trans (Nat.ble_eq_true_of_le q))
       have Nj:¬Own φ p.1:=by
        rintro⟨q,hq,eq⟩
        obtain⟨j,hj,rfl⟩:=List.getElem_of_mem hq;have sp:=I.sep i j p φ[j] (by exact λq=>Jx [_,i,j] (.c 1 J0 J1 (.c 1 (.p J2 1) J0 (.c 1 J1 J2 .z))) Jt uI hj (Jf q)) hp (by rw[List.getElem?_append_left hj];exact List.getElem?_eq_getElem hj)
        rcases eq with eq|eq
        ·exact sp.1 eq
        ·exact sp.2.1 eq
       exact⟨by rw[eF];exact z.1,by rw[VR];exact⟨z.1,p.1,_,xs,n,rfl,ho,Nj,(I.di p (List.mem_of_getElem? hp)).1,rfl,rfl,z.2⟩⟩
theorem jK(I:Inv B (φ++ψ) F σ h){v v':LV}{x:Value}{ax:LH}(e:freeze φ.length v σ=.ok v' ax)(r:VR (φ++ψ) F h v x):Inv B φ F ax h/\VR φ F h v' x:=by
 unfold freeze at e
 cases hb:fD φ.length σ φ.length with
 |false=>rw[hb] at e;cases e
 |true=>
  rw[hb,JK] at e
  cases hf:fz σ φ.length 64 v with
  |none=>rw[hf] at e;cases e
  |some q=>
   rw[hf] at e
   injection e with e1 e2
   subst e1 e2;rw[e7];exact⟨I.cut hb,(Bb I 64 v x q hf r).2⟩
theorem gf{n0:Nat}{v:LV}{σ:LH}{c:Nat}{ax:LH}:freeze n0 v σ≠.err c ax:=by
 unfold freeze
 cases fD n0 σ n0 with
 |false=>intro e;cases e
 |true=>
  rw[JK]
  cases fz σ n0 64 v with
  |none=>intro e;cases e
  |some q=>intro e;cases e
end
section
variable{φ:aS}{F:List Addr}{h h':Heap}
mutual
theorem VR.seq'(K:∀b o,h.get? b=some o->b∉F->(∀vs,o.data≠.fields vs)->h'.get? b=some o):∀(v:LV)(x:Value),VR φ F h v x->VR φ F h' v x
 |.au,_,r=>by simp[VR] at r
 |.none,_,r=>by simpa[VR] using r
 |.bool _,_,r=>by simpa[VR] using r
 |.int _,_,r=>by simpa[VR] using r
 |.str _,_,r=>by simpa[VR] using r
 |.ref i,x,r=>by
  rw[VR] at r⊢;exact r
 |.tup vs,x,r=>by
  rw[VR] at r⊢;obtain⟨a,o,xs,n,e,ha,no,nf,hc,hd,rs⟩:=r;exact⟨a,o,xs,n,e,K a o ha nf (λvs q=>by rw[hd] at q;cases q),no,nf,hc,hd,aB.seq' K vs xs.toList rs⟩
 |.ag vs,x,r=>by
  rw[VR] at r⊢;obtain⟨hp,a,o,xs,n,e,ha,no,nf,hc,hd,rs⟩:=r;exact⟨hp,a,o,xs,n,e,K a o ha nf (λvs q=>by rw[hd] at q;cases q),no,nf,hc,hd,aB.seq' K vs xs.toList rs⟩
theorem aB.seq'(K:∀b o,h.get? b=some o->b∉F->(∀vs,o.data≠.fields vs)->h'.get? b=some o):∀(vs:List LV)(xs:List Value),aB φ F h vs xs->aB φ F h' vs xs
 |[],[],_=>by rw[aB];trivial
 |[],_::_,r=>by simp[aB] at r
 |_::_,[],r=>by simp[aB] at r
 |v::vs,x::xs,r=>by
  rw[aB] at r⊢;exact⟨VR.seq' K v x r.1,aB.seq' K vs xs r.2⟩
end
end
noncomputable def JP(g h:Heap)(ea:Addr)(vs:Array Value):Prop:=∃T oT ts fl,vs[1]?=some (.ref T)/\T≠ea/\g.get? T=none/\h.get? T=some oT/\oT.data=.fields ts/\ts[3]?=some fl
noncomputable def ExcAt(B:Bg)(g:Heap)(c:Nat)(e:Value)(h:Heap):Prop:=
 ∃ea oe vs a0,e=.ref ea/\g.get? ea=none/\h.get? ea=some oe/\oe.cls=.ref (B.cls c)/\oe.data=.fields vs/\vs[0]?=some a0/\(vs[1]?=some .none∨JP g h ea vs)
noncomputable def dJ(B:Bg)(g:Heap)(c:Nat)(e:Value)(h:Heap):Prop:=
 ∃ea oe vs a0,e=.ref ea/\g.get? ea=none/\h.get? ea=some oe/\oe.cls=.ref (B.cls c)/\oe.data=.fields vs/\vs[0]?=some a0/\JP g h ea vs
theorem dJ.at{B g c e h}(x:dJ B g c e h):ExcAt B g c e h:=
 let⟨ea,oe,vs,a0,h1,h2,h3,h4,h5,h6,h7⟩:=x;⟨ea,oe,vs,a0,h1,h2,h3,h4,h5,h6,.inr h7⟩
theorem ExcAt.kz{B:Bg}{g g':Heap}{c e h}(x:ExcAt B g c e h)(l:∀b o,g'.get? b=some o->∃o',g.get? b=some o'):ExcAt B g' c e h:=by
 obtain⟨ea,oe,vs,a0,h1,h2,h3,h4,h5,h6,h7⟩:=x;refine⟨ea,oe,vs,a0,h1,aQ l h2,h3,h4,h5,h6,h7.imp id ?_⟩
 rintro⟨T,oT,ts,fl,t1,t2,t3,t4⟩
 exact⟨T,oT,ts,fl,t1,t2,aQ l t3,t4⟩
theorem dJ.kz{B:Bg}{g g':Heap}{c e h}(x:dJ B g c e h)(l:∀b o,g'.get? b=some o->∃o',g.get? b=some o'):dJ B g' c e h:=by
 obtain⟨ea,oe,vs,a0,h1,h2,h3,h4,h5,h6,T,oT,ts,fl,t1,t2,t3,t4⟩:=x;exact⟨ea,oe,vs,a0,h1,aQ l h2,h3,h4,h5,h6,T,oT,ts,fl,t1,t2,aQ l t3,t4⟩
structure Nt(g:Heap)(F:List Addr)(s s':Shared):Prop where
 a:∀b o,s.heap.get? b=some o->b∉F->((∃q,g.get? b=some q)∨∀vs,o.data≠.fields vs)->s'.heap.get? b=some o
 f:∀b o,s.heap.get? b=some o->b∈F->∃sl,s'.heap.get? b=some {o with slots:=sl}
 l:∀b o,s.heap.get? b=some o->∃o',s'.heap.get? b=some o'
 gens:s'.gens=s.gens
 os:s'.os=s.os
theorem Nt.trans{g F s s' cb}(x:Nt g F s s')(y:Nt g F s' cb):Nt g F s cb where
 a b o e nf d:=y.a b o (x.a b o e nf d) nf d
 f b o e m:=let⟨sl,e'⟩:=x.f b o e m;let⟨DU,Fl⟩:=y.f b _ e' m;⟨DU,Fl⟩
 l b o e:=let⟨o',e'⟩:=x.l b o e;y.l b o' e'
 gens:=y.gens.trans x.gens
 os:=y.os.trans x.os
theorem Le.e8{F X:List Addr}{φ ak:aS}{Bc s s':Shared}(x:Le F X φ ak Bc s)(y:Nt Bc.heap F s s'):Le F X φ ak Bc s' where
 keep b o e n nf:=y.a b o (x.keep b o e n nf) nf (.inl ⟨o,e⟩)
 live b o e:=let⟨o',e'⟩:=x.live b o e;y.l b o' e'
 fr b o e m nx:=let⟨sl,e'⟩:=x.fr b o e m nx;let⟨DU,Fl⟩:=y.f b _ e' m;⟨DU,Fl⟩
 oP b o e m d:=let⟨o',e',d'⟩:=x.oP b o e m d;let⟨DU,Fl⟩:=y.f b _ e' m;⟨_,Fl,d'⟩
 ext:=x.ext
 gens:=y.gens.trans x.gens
 os:=y.os.trans x.os
theorem Inv.e8{B:Bg}{F:List Addr}{φ:aS}{g:Heap}{σ:LH}{s s':Shared}(I:Inv B φ F σ s.heap)(y:Nt g F s s')(hg:B.h0.StaysIn g):Inv B φ F σ s'.heap where
 len:=I.len
 ok i o p a b:=by
  have r:=I.ok i o p a b;have hm:=I.di p (List.mem_of_getElem? b);obtain⟨⟨o1,e1,d1⟩,⟨o2,e2,d2⟩⟩:=r.live;have K:∀b o,s.heap.get? b=some o->b∉F->(∀vs,o.data≠.fields vs)->s'.heap.get? b=some o:=λb o e nf d=>y.a b o e nf (.inr d);have h1:=(K _ _ e1 hm.1 d1).trans e1.symm;have h2:=(K _ _ e2 hm.2 d2).trans e2.symm
  have VK:∀(v:LV)(x:Value),VR φ F s.heap v x->VR φ F s'.heap v x:=by
   intro v x;exact VR.seq' K v x
  cases o with
  |list vs=>
   rw[OR] at r⊢;obtain⟨e,xs,n,ho,rs⟩:=r;exact⟨e,xs,n,h1▸ho,aB.seq' K _ _ rs⟩
  |inst c fs=>
   rw[OR] at r⊢;obtain⟨e,ho,m,⟨o,es,ep,hn,hr⟩,rs⟩:=r;refine⟨e,h1▸ho,m,⟨o,es,ep,h2▸hn,hr⟩,rs.1,λj n e=>?_⟩;have:=rs.2 j n e;cases q:fs[j]?with
   |none=>rw[q] at this;exact this
   |some v=>rw[q] at this;obtain⟨x,a,b⟩:=this;exact⟨x,a,VK v x b⟩
 sep:=I.sep
 top:=I.top
 di:=I.di
 base b o e:=y.a b o (I.base b o e) (λhf=>by have:=(I.fr b hf).1;rw[this] at e;cases e) (.inl ⟨o,hg b o e⟩)
 fr f hf:=⟨(I.fr f hf).1,let⟨o,e⟩:=(I.fr f hf).2;y.l f o e⟩
end Mine
end
section
open PySem PySem.W PyProof PyProof.Rows
namespace Mine
noncomputable def gh(F:List Addr)(h:Heap)(l:List Env):Prop:=∀env∈l,env.scope.kind≠.module/\∃L,env.frame=some L/\L∈F/\∃o,h.get? L=some o/\∀vs,o.data≠.fields vs
theorem gh.le{F X:List Addr}{φ ak:aS}{s s':Shared}{l:List Env}(x:gh F s.heap l)(y:Le F X φ ak s s'):gh F s'.heap l:=λenv he=>by
 obtain⟨hk,L,hf,hL,o,ho,hd⟩:=x env he;exact⟨hk,L,hf,hL,y.oP L o ho hL hd⟩
theorem gh.nt{g F}{s s':Shared}{l:List Env}(x:gh F s.heap l)(y:Nt g F s s'):gh F s'.heap l:=λenv he=>by
 obtain⟨hk,L,hf,hL,o,ho,hd⟩:=x env he;obtain⟨sl,e⟩:=y.f L o ho hL;exact⟨hk,L,hf,hL,_,e,hd⟩
theorem iP{F:List Addr}{h:Heap}{as:List Addr}:∀{l:List Env},gh F h l->(∀env∈l,∀L,env.frame=some L->L∈as)->h.FunFrames (hideAll h as) l
 |[],_,_=>trivial
 |env::l,x,y=>by
  obtain⟨hk,L,hf,hL,o,ho,hd⟩:=x env List.mem_cons_self;exact⟨hk,⟨L,o,hf,hideAll_none as (y env List.mem_cons_self L hf),ho,hd⟩,iP (λe he=>x e (List.mem_cons_of_mem _ he)) λe he=>y e (List.mem_cons_of_mem _ he)⟩
section
variable{prog:Program}{w:World}{A:Around}{E:Value->Shared->Prop}{s:Shared}{B:Bg}{F:List Addr}{g:Heap}{c:Nat}{e:Value}
theorem JQ{ea:Addr}{oe:Obj}{vs:Array Value}{l:List Env}{h':Heap}(he:s.heap.get? ea=some oe)(hd:oe.data=.fields vs)(uI:g.get? ea=none)
  (hl:gh F s.heap l) (Nk:(hideAll s.heap (ea::l.filterMap (·.frame))).StaysIn h') (Qi:∀b o,s.heap.get? b=some o->(∀vs,o.data≠.fields vs)->∃sl,h'.get? b=some {o with slots:=sl})
  (hle:∃o,h'.get? ea=some o) (hF:∀f∈F,∃o,g.get? f=some o):Nt g F s {s with heap:=h'}:=by
 have mem:∀b∈l.filterMap (·.frame),b∈F/\∃o,s.heap.get? b=some o/\∀vs,o.data≠.fields vs:=λb hb=>by
  obtain⟨env,he,hf⟩:=List.mem_filterMap.mp hb;obtain⟨_,L,DV,hL,q⟩:=hl env he
  have:b=L:=by have:=hf.symm.trans DV;injection this
  exact this▸⟨hL,q⟩
 have keep:∀b o,s.heap.get? b=some o->b≠ea->b∉l.filterMap (·.frame)->h'.get? b=some o:=λb o q n1 n3=>
  Nk b o (hideAll_get _ q (by simp only[List.mem_cons];rintro(x|x)<;>contradiction))
 have ne:∀b o,s.heap.get? b=some o->((∃q,g.get? b=some q)∨∀vs,o.data≠.fields vs)->b≠ea:=λb o q d x=>by
  rcases d with⟨q',d⟩|d
  ·rw[x,uI] at d;cases d
  ·rw[x,he] at q;injection q with q;exact d vs (q▸hd)
 refine⟨λb o q nf d=>?_,λb o q m=>?_,λb o q=>?_,rfl,rfl⟩
 ·exact keep b o q (ne b o q d) λx=>nf (mem b x).1
 ·have n1:=ne b o q (.inl (hF b m));by_cases x:b∈l.filterMap (·.frame)
  ·obtain⟨_,o',q',d⟩:=mem b x
   rw[q'] at q;injection q with q;subst q
   exact Qi b _ q' d
  ·exact⟨o.slots,keep b o q n1 x⟩
 ·by_cases x1:b=ea
  ·exact x1▸hle
  ·by_cases x:b∈l.filterMap (·.frame)
   ·obtain⟨_,o',q',d⟩:=mem b x;obtain⟨sl,Nl⟩:=Qi b o' q' d;exact⟨_,Nl⟩
   ·exact⟨o,keep b o q x1 x⟩
theorem entry_any{env:Env}{outer:List Env}{L:Addr}{head:Value}{Nh:Bool}{Q:Unit->Shared->Prop}{ea:Addr}{oe:Obj}{vs:Array Value}{a0:Value}
  (wd:A.frames=some (env::outer)) (hl:gh F s.heap (env::outer)) (hf:env.frame=some L) (hF:∀f∈F,∃o,g.get? f=some o) (AN:∀b o,g.get? b=some o->∃o',s.heap.get? b=some o')
  (uI:g.get? ea=none) (he:s.heap.get? ea=some oe) (lX:oe.cls=.ref (B.cls c)) (hd:oe.data=.fields vs) (h0:vs[0]?=some a0) (nu:1<vs.size)
  (h:∀s',Nt g F s s'->dJ B g c (.ref ea) s'.heap->Q () s'):
  wpAny (model prog w) A (do let a←frameOf env;let pl←entryPlaceOf L Nh;let b←EntryCells.newEntry head a .none (rawInt L) .none pl;setField (.ref ea) 1 b) Q E s:=by
 have Nn:∀e'∈env::outer,∀L',e'.frame=some L'->L'∈ea::(env::outer).filterMap (·.frame):=λe' Np L' DV=>
  List.mem_cons_of_mem _ (List.mem_filterMap.mpr ⟨e',Np,DV⟩)
 refine wpAny_entryW (base:=hideAll s.heap (ea::(env::outer).filterMap (·.frame))) wd (iP hl Nn) hf he (λb o q=>of_hideAll _ q) (hideAll_none _ (by simp)) hd nu h0 λh' hn=>?_;obtain⟨n1,n2,⟨Qj,Bd,T,oT,ts,k1,⟨k2,k3⟩,k4,k5,k6,k7,k8,k9,RR⟩,n4⟩:=hn;refine h _ (JQ he hd uI hl n1 n4 ⟨_,k1⟩ hF) ⟨ea,Qj,Bd,a0,rfl,uI,k1,k2.trans lX,k4,k3,T,oT,ts,_,k5,k7,?_,k8,k9,RR⟩
 cases q:g.get? T with
 |none=>rfl
 |some o=>
  exfalso;obtain⟨o',q'⟩:=AN T o q;by_cases m:T∈(env::outer).filterMap (·.frame)
  ·obtain⟨Nq,Np,DV⟩:=List.mem_filterMap.mp m;obtain⟨_,L',Nr,_,RS,Nl,d⟩:=hl Nq Np
   have:T=L':=by have:=DV.symm.trans Nr;injection this
   subst this;obtain⟨sl,z⟩:=n4 T RS Nl d
   rw[k8] at z;injection z with z
   exact d ts (by rw[z] at k9;exact k9)
  ·have:=hideAll_get (ea::(env::outer).filterMap (·.frame)) q' (by simp only[List.mem_cons];rintro(x|x)<;>contradiction);rw[k6] at this;cases this
theorem pf{env:Env}{outer:List Env}{Q:Unit->Shared->Prop}(wd:A.frames=some (env::outer))(hl:gh F s.heap (env::outer))(hF:∀f∈F,∃o,g.get? f=some o)(AN:∀b o,g.get? b=some o->∃o',s.heap.get? b=some o')
  (x:ExcAt B g c e s.heap) (h:∀s',Nt g F s s'->dJ B g c e s'.heap->Q () s'):wpAny (model prog w) A (noteFrame e env) Q E s:=by
 obtain⟨ea,oe,vs,a0,rfl,uI,he,lX,hd,h0,ht⟩:=x;obtain⟨_,L,hf,_⟩:=hl env List.mem_cons_self
 rcases ht with h1|⟨T,oT,ts,fl,h1,H4,DW,hT,wW,h3⟩
 ·
  unfold noteFrame;simp only[hf];refine wpAny_bind (wpAny_field he hd h1 ?_);rw[if_neg (by decide)];exact entry_any wd hl hf hF AN uI he lX hd h0 (Array.getElem?_eq_some_iff.mp h1).1 h
 ·unfold noteFrame;simp only[hf];refine wpAny_bind (wpAny_field he hd h1 ?_);rw[if_pos (show(Value.ref T !=Value.none)=true from by simp)];refine wpAny_bind (wpAny_field hT wW h3 ?_);by_cases DX:(fl==rawInt L)=true
  ·rw[if_pos DX];exact wpAny_pure (h s ⟨λ_ _ q _ _=>q,λ_ o q _=>⟨o.slots,q⟩,λ_ o q=>⟨o,q⟩,rfl,rfl⟩ ⟨ea,oe,vs,a0,rfl,uI,he,lX,hd,h0,T,oT,ts,fl,h1,H4,DW,hT,wW,h3⟩)
  ·rw[if_neg DX];refine wpAny_bind (wpAny_setField hT wW (Array.getElem?_eq_some_iff.mp h3).1 ?_);have other:∀b,b≠T->(s.heap.update T (Obj.mapFields (·.setIfInBounds 3 Value.none))).get? b=s.heap.get? b:=λb hb=>Heap.get?_update_other _ _ (Ne.symm hb)
   have Nu:T∉F:=λq=>by obtain⟨o,q⟩:=hF T q;rw[DW] at q;cases q
   have L9:=Heap.get?_update_self (Obj.mapFields (·.setIfInBounds 3 Value.none)) hT (Obj.isFreed_of_fields (Obj.data_mapFields wW _))
   have nt:Nt g F s {s with heap:=s.heap.update T (Obj.mapFields (·.setIfInBounds 3 Value.none))}:=by
    refine⟨λb o q nf d=>?_,λb o q m=>⟨o.slots,(other b λx=>Nu (x▸m)).trans q⟩,λb o q=>?_,rfl,rfl⟩
    ·refine(other b λx=>?_).trans q
     rcases d with⟨q',d⟩|d
     ·rw[x,DW] at d;cases d
     ·rw[x,hT] at q;injection q with q;exact d ts (q▸wW)
    ·by_cases x:b=T
     ·subst x;exact⟨_,L9⟩
     ·exact⟨o,(other b x).trans q⟩
   exact entry_any wd (hl.nt nt) hf hF (λb o q=>let⟨o',q'⟩:=AN b o q;nt.l b o' q') uI ((other ea (Ne.symm H4)).trans he) lX hd h0 (Array.getElem?_eq_some_iff.mp h1).1
    λs' n' x'=>h s' (nt.trans n') x'
theorem d8{fr:Option Addr}{Q:Unit->Shared->Prop}(hF:∀f∈F,∃o,g.get? f=some o)(x:ExcAt B g c e s.heap)(h:∀s',Nt g F s s'->ExcAt B g c e s'.heap->(dJ B g c e s.heap->dJ B g c e s'.heap)->Q () s'):wpAny (model prog w) A (setFlight e fr) Q E s:=by
 have x0:=x;obtain⟨ea,oe,vs,a0,rfl,uI,he,lX,hd,h0,ht⟩:=x;unfold setFlight
 rcases ht with h1|⟨T,oT,ts,fl,h1,H4,DW,hT,wW,h3⟩
 ·refine wpAny_bind (wpAny_field he hd h1 ?_);rw[if_neg (by decide)];exact wpAny_pure (h s ⟨λ_ _ q _ _=>q,λ_ o q _=>⟨o.slots,q⟩,λ_ o q=>⟨o,q⟩,rfl,rfl⟩ x0 id)
 ·refine wpAny_bind (wpAny_field he hd h1 ?_);rw[if_pos (show(Value.ref T !=Value.none)=true from by simp)];refine wpAny_setField hT wW (Array.getElem?_eq_some_iff.mp h3).1 ?_;have other:∀b,b≠T->(s.heap.update T (Obj.mapFields (·.setIfInBounds 3 (fr.elim .none λf=>rawInt f)))).get? b=s.heap.get? b:=λb hb=>Heap.get?_update_other _ _ (Ne.symm hb)
  have Nu:T∉F:=λq=>by obtain⟨o,q⟩:=hF T q;rw[DW] at q;cases q
  have L9:=Heap.get?_update_self (Obj.mapFields (·.setIfInBounds 3 (fr.elim .none λf=>rawInt f))) hT (Obj.isFreed_of_fields (Obj.data_mapFields wW _));have ex:dJ B g c (.ref ea) (s.heap.update T (Obj.mapFields (·.setIfInBounds 3 (fr.elim .none λf=>rawInt f)))):=
   ⟨ea,oe,vs,a0,rfl,uI,(other ea (Ne.symm H4)).trans he,lX,hd,h0,T,_,_,_,h1,H4,DW,L9,Obj.data_mapFields wW _,by
    rw[Array.getElem?_setIfInBounds_self_of_lt (Array.getElem?_eq_some_iff.mp h3).1]⟩
  refine h _ ⟨λb o q nf d=>?_,λb o q m=>⟨o.slots,(other b λx=>Nu (x▸m)).trans q⟩,λb o q=>?_,rfl,rfl⟩ ex.at λ_=>ex
  ·refine(other b λx=>?_).trans q
   rcases d with⟨q',d⟩|d
   ·rw[x,DW] at d;cases d
   ·rw[x,hT] at q;injection q with q;exact d ts (q▸wW)
  ·by_cases x:b=T
   ·subst x;exact⟨_,L9⟩
   ·exact⟨o,(other b x).trans q⟩
theorem pg{env:Env}{outer:List Env}{Q:Unit->Shared->Prop}(wd:A.frames=some (env::outer))(hl:gh F s.heap (env::outer))(hF:∀f∈F,∃o,g.get? f=some o)(AN:∀b o,g.get? b=some o->∃o',s.heap.get? b=some o')
  (x:ExcAt B g c e s.heap) (h:∀s',Nt g F s s'->dJ B g c e s'.heap->Q () s'):wpAny (model prog w) A (leaving env e) Q E s:=by
 unfold leaving;exact wpAny_bind (pf wd hl hF AN x λs' n x=>d8 hF x.at λcb n' _ k=>h cb (n.trans n') (k x))
theorem mj(x:dJ B g c e s.heap){Q:Value->Shared->Prop}(h:∀v,(v==Value.none)=false->Q v s):wpAny (model prog w) A (field e 1) Q E s:=by
 obtain⟨ea,oe,vs,a0,rfl,uI,he,lX,hd,h0,T,oT,ts,fl,h1,H4,DW,hT,wW,h3⟩:=x;exact wpAny_field he hd h1 (h _ (by simp))
theorem nv{env:Env}(hF:∀f∈F,∃o,g.get? f=some o)(x:dJ B g c e s.heap)(h:∀s',Nt g F s s'->dJ B g c e s'.heap->E e s'):cameBackBy (model prog w) A env E e s:=by
 unfold cameBackBy;refine wpAny_bind (mj x λv hv=>?_);rw[hv];exact d8 hF x.at λs' n' _ k=>h s' n' (k x)
theorem qP{α:Type}{Nv:String}{env:Env}{Q:α->Shared->Prop}(hF:∀f∈F,∃o,g.get? f=some o)(x:dJ B g c e s.heap)(h:∀s',Nt g F s s'->dJ B g c e s'.heap->E e s'):
  wpAny (model prog w) A (PySem.passOn Nv e env:Sem α) Q E s:=by
 unfold PySem.passOn;refine wpAny_bind (mj x λv hv=>?_);rw[hv];exact wpAny_bind (d8 hF x.at λs' n' _ k=>wpAny_throw (h s' n' (k x)))
end
structure NC where
 names:List Str
 sc:Scope
 lv:Nat
noncomputable def NC.kind(N:NC)(x:Str):Option NameKind:=N.sc.names.lookup x
theorem bF{b:Bool}(h:(!b)=true):b=false:=by cases b;rfl;cases h
noncomputable def d9(N:NC)(x:Str):Bool:=decide (N.kind x=some .local)
noncomputable def isVar(N:NC)(x:Str):Bool:=decide (N.kind x=some .local)||decide (N.kind x=some .cell)
noncomputable def br(N:NC)(x:Str):Bool:=decide (N.kind x=some .globalImplicit)&&x !="__debug__"
def cm(N:NC)(i:Nat)(x:Str):Bool:=cO (N.names[i]?) (λn=>n==x) false
theorem gi{N:NC}{x:Str}(h:d9 N x=true):N.kind x=some .local:=of_decide_eq_true h
theorem kD{N:NC}{x:Str}(h:isVar N x=true):N.kind x=some .local∨N.kind x=some .cell:=(Bool.or_eq_true _ _▸h:_∨_).imp of_decide_eq_true of_decide_eq_true
theorem DY{x y:Str}(h:(x !=y)=true):(x==y)=false:=bF h
theorem fH{N:NC}{x:Str}(h:br N x=true):N.kind x=some .globalImplicit/\(x==("__debug__":Str))=false:=⟨of_decide_eq_true (bL h),bF (bR h)⟩
theorem ed{N:NC}{i:Nat}{x:Str}(h:cm N i x=true):N.names[i]?=some x:=by
 unfold cm at h;generalize N.names[i]?=o at *
 cases o with
 |none=>cases h
 |some n=>rw[eq_of_beq h]
noncomputable def DZ(s:List Nat)(x:Str):Bool:=toS s==x
noncomputable def aR(i k:Nat)(t:i=k->Bool):Bool:=if h:i=k then t h else false
theorem Be{i k:Nat}{t:i=k->Bool}(h:aR i k t=true):∃hc,t hc=true:=by
 unfold aR at h;by_cases hc:i=k
 ·rw[dif_pos hc] at h;exact⟨hc,h⟩
 ·rw[dif_neg hc] at h;cases h
theorem ar{i k:Nat}{t:i=k->Bool}(h:aR i k t=true):i=k:=(Be h).1
def sQ(v:LV):LV->Bool:=@LV.rec (λ_=>LV->Bool) (λ_=>List LV->Bool) (λ_=>false) (λ_=>false) (λ_ _=>false)
 (λi w=>aR w.ctorIdx 3 λh=>LV.int.elim (motive_1:=λ_=>Bool) w h λj=>decide (i=j))
 (λs w=>aR w.ctorIdx 4 λh=>LV.str.elim (motive_1:=λ_=>Bool) w h λt=>decide (s=t))
 (λ_ _ _=>false)
 (λ_ ih w=>aR w.ctorIdx 6 λh=>LV.ag.elim (motive_1:=λ_=>Bool) w h λvs=>ih vs)
 (λ_ _=>false) (λl=>cL l true λ_ _=>false) (λ_ _ ih Fp l=>cL l false λw ws=>ih w&&Fp ws) v
theorem Fq(v:LV):∀w,sQ v w=true->v=w:=
 @LV.rec (λv=>∀w,sQ v w=true->v=w) (λvs=>∀ws:List LV,sQ (.ag vs) (.ag ws)=true->vs=ws)
  (λ_ h=>absurd h Bool.false_ne_true) (λ_ h=>absurd h Bool.false_ne_true) (λ_ _ h=>absurd h Bool.false_ne_true)
  (λi w h=>LV.int.elim (motive_1:=λw=>sQ (.int i) w=true->LV.int i=w) w (ar h) (λj h=>congrArg LV.int (of_decide_eq_true h)) h)
  (λs w h=>LV.str.elim (motive_1:=λw=>sQ (.str s) w=true->LV.str s=w) w (ar h) (λj h=>congrArg LV.str (of_decide_eq_true h)) h)
  (λ_ _ _ h=>absurd h Bool.false_ne_true)
  (λvs ih w h=>LV.ag.elim (motive_1:=λw=>sQ (.ag vs) w=true->LV.ag vs=w) w (ar h) (λws h=>congrArg LV.ag (ih ws h)) h)
  (λ_ _ h=>absurd h Bool.false_ne_true)
  (fun|[],_=>rfl|_::_,h=>absurd h Bool.false_ne_true)
  (λv vs ih Fp=>fun|[],h=>absurd h Bool.false_ne_true|w::ws,h=>by rw[ih w (bL (show(sQ v w&&sQ (.ag vs) (.ag ws))=true from h)),Fp ws (bR (show(sQ v w&&sQ (.ag vs) (.ag ws))=true from h))]) v
def Fs(o:jo):Operator:=@jo.rec (λ_=>Operator) .Add .Sub .Mult .FloorDiv .Mod .Pow .LShift .RShift .BitAnd .BitOr o
def jL(o:jo)(p:Operator):Bool:=decide (p=Fs o)
def JR(o:jY):CmpOp:=@jY.rec (λ_=>CmpOp) .Eq .NotEq .Lt .LtE .Gt .GtE .In .NotIn .Is .IsNot o
def kE(o:jY)(p:CmpOp):Bool:=decide (p=JR o)
noncomputable def bM:Bi->Str
 |.len=>"len"|.ord=>"ord"|.chr=>"chr"|.min=>"min"|.max=>"max"|.int=>"int"|.str=>"str"|.list=>"list"|.isInt=>"isinstance"|.isStr=>"isinstance"|.isRef=>"isinstance"
noncomputable def jy:Bm->Str
 |.append=>"append"|.extend=>"extend"|.pop=>"pop"|.reverse=>"reverse"|.index=>"index"|.find=>"find"|.join=>"join"|.lstrip=>"lstrip"|.rstrip=>"rstrip"
noncomputable def isCall(e:Expr):Bool:=aR e.ctorIdx 16 λ_=>true
noncomputable def isName(e:Expr):Bool:=aR e.ctorIdx 23 λ_=>true
noncomputable def isConst(e:Expr):Bool:=aR e.ctorIdx 19 λ_=>true
noncomputable def kF(e:Expr):Bool:=!aR e.ctorIdx 7 λ_=>true
noncomputable def cE(N:NC)(sc:Scope):Scope:={sc with names:=sc.names.map λ(n,k)=>if(k==.free&&N.sc.kind==.function&&N.sc.names.lookup n==some .cell) then(n,.cell) else(n,k)}
noncomputable def jM(N:NC)(sc:Scope)(x:Str):NC:=⟨x::N.names,cE N sc,1⟩
noncomputable def ny(N:NC)(sc:Scope)(x:Str):Bool:=
 sc.names.all (λp=>match p.2 with|.cell=>false|.free=>N.sc.names.lookup p.1==some .cell&&N.names.contains p.1|.local=>sc.names.lookup p.1==some .local&&!N.names.contains p.1|_=>true)&&(match sc.names.lookup x with|some .local=>true|_=>false)&&(match sc.kind with|.function=>true|_=>false)&&!sc.isCoroutine&&!sc.isGenerator&&!N.names.contains x&&N.lv==0
noncomputable def fJ(e:Expr)(f:Const->Bool):Bool:=aR e.ctorIdx 19 λh=>Expr.Constant.elim (motive_1:=λ_=>Bool) e h λc _ _=>f c
theorem e9{Q:Expr->Prop}{e:Expr}{f:Const->Bool}(h:fJ e f=true)(k:∀c k p,f c=true->Q (.Constant c k p)):Q e:=
 Expr.Constant.elim (motive_1:=λe=>fJ e f=true->Q e) e (ar h) k h
noncomputable def bQ(e:Expr)(f:Str->Pos->Bool):Bool:=aR e.ctorIdx 23 λh=>Expr.Name.elim (motive_1:=λ_=>Bool) e h λx p=>f x p
theorem aY{Q:Expr->Prop}{e:Expr}{f:Str->Pos->Bool}(h:bQ e f=true)(k:∀x p,f x p=true->Q (.Name x p)):Q e:=
 Expr.Name.elim (motive_1:=λe=>bQ e f=true->Q e) e (ar h) k h
noncomputable def wX(e:Expr)(f:Expr->Operator->Expr->Bool):Bool:=aR e.ctorIdx 2 λh=>Expr.BinOp.elim (motive_1:=λ_=>Bool) e h λl op q _=>f l op q
theorem Bf{Q:Expr->Prop}{e:Expr}{f:Expr->Operator->Expr->Bool}(h:wX e f=true)(k:∀l op q p,f l op q=true->Q (.BinOp l op q p)):Q e:=
 Expr.BinOp.elim (motive_1:=λe=>wX e f=true->Q e) e (ar h) k h
noncomputable def ph(e:Expr)(f:UnaryOp->Expr->Bool):Bool:=aR e.ctorIdx 3 λh=>Expr.UnaryOp.elim (motive_1:=λ_=>Bool) e h λop x _=>f op x
theorem nz{Q:Expr->Prop}{e:Expr}{f:UnaryOp->Expr->Bool}(h:ph e f=true)(k:∀op x p,f op x=true->Q (.UnaryOp op x p)):Q e:=
 Expr.UnaryOp.elim (motive_1:=λe=>ph e f=true->Q e) e (ar h) k h
noncomputable def sR(e:Expr)(f:BoolOp->List Expr->Pos->Bool):Bool:=aR e.ctorIdx 0 λh=>Expr.BoolOp.elim (motive_1:=λ_=>Bool) e h λop xs p=>f op xs p
theorem sS{Q:Expr->Prop}{e:Expr}{f:BoolOp->List Expr->Pos->Bool}(h:sR e f=true)(k:∀op xs p,f op xs p=true->Q (.BoolOp op xs p)):Q e:=
 Expr.BoolOp.elim (motive_1:=λe=>sR e f=true->Q e) e (ar h) k h
noncomputable def sT(e:Expr)(f:Expr->List CmpOp->List Expr->Bool):Bool:=aR e.ctorIdx 15 λh=>Expr.Compare.elim (motive_1:=λ_=>Bool) e h λl os cs _=>f l os cs
theorem sU{Q:Expr->Prop}{e:Expr}{f:Expr->List CmpOp->List Expr->Bool}(h:sT e f=true)(k:∀l os cs p,f l os cs=true->Q (.Compare l os cs p)):Q e:=
 Expr.Compare.elim (motive_1:=λe=>sT e f=true->Q e) e (ar h) k h
noncomputable def Ft(e:Expr)(f:Expr->Expr->Expr->Bool):Bool:=aR e.ctorIdx 5 λh=>Expr.IfExp.elim (motive_1:=λ_=>Bool) e h λt x y _=>f t x y
theorem Fu{Q:Expr->Prop}{e:Expr}{f:Expr->Expr->Expr->Bool}(h:Ft e f=true)(k:∀t x y p,f t x y=true->Q (.IfExp t x y p)):Q e:=
 Expr.IfExp.elim (motive_1:=λe=>Ft e f=true->Q e) e (ar h) k h
noncomputable def eS(e:Expr)(f:Expr->List Expr->List Keyword->Pos->Bool):Bool:=aR e.ctorIdx 16 λh=>Expr.Call.elim (motive_1:=λ_=>Bool) e h λfe as ks p=>f fe as ks p
theorem dK{Q:Expr->Prop}{e:Expr}{f:Expr->List Expr->List Keyword->Pos->Bool}(h:eS e f=true)(k:∀fe as ks p,f fe as ks p=true->Q (.Call fe as ks p)):Q e:=
 Expr.Call.elim (motive_1:=λe=>eS e f=true->Q e) e (ar h) k h
noncomputable def gj(e:Expr)(f:Expr->Str->Pos->Bool):Bool:=aR e.ctorIdx 20 λh=>Expr.Attribute.elim (motive_1:=λ_=>Bool) e h λo n p=>f o n p
theorem ef{Q:Expr->Prop}{e:Expr}{f:Expr->Str->Pos->Bool}(h:gj e f=true)(k:∀o n p,f o n p=true->Q (.Attribute o n p)):Q e:=
 Expr.Attribute.elim (motive_1:=λe=>gj e f=true->Q e) e (ar h) k h
noncomputable def jz(e:Expr)(f:Expr->Expr->Bool):Bool:=aR e.ctorIdx 21 λh=>Expr.Subscript.elim (motive_1:=λ_=>Bool) e h λo i _=>f o i
theorem iQ{Q:Expr->Prop}{e:Expr}{f:Expr->Expr->Bool}(h:jz e f=true)(k:∀o i p,f o i=true->Q (.Subscript o i p)):Q e:=
 Expr.Subscript.elim (motive_1:=λe=>jz e f=true->Q e) e (ar h) k h
noncomputable def sV(e:Expr)(f:Option Expr->Option Expr->Option Expr->Bool):Bool:=aR e.ctorIdx 26 λh=>Expr.Slice.elim (motive_1:=λ_=>Bool) e h λl u t _=>f l u t
theorem sW{Q:Expr->Prop}{e:Expr}{f:Option Expr->Option Expr->Option Expr->Bool}(h:sV e f=true)(k:∀l u t p,f l u t=true->Q (.Slice l u t p)):Q e:=
 Expr.Slice.elim (motive_1:=λe=>sV e f=true->Q e) e (ar h) k h
noncomputable def qQ(e:Expr)(f:List Expr->Bool):Bool:=aR e.ctorIdx 24 λh=>Expr.List.elim (motive_1:=λ_=>Bool) e h λes _=>f es
theorem wY{Q:Expr->Prop}{e:Expr}{f:List Expr->Bool}(h:qQ e f=true)(k:∀es p,f es=true->Q (.List es p)):Q e:=
 Expr.List.elim (motive_1:=λe=>qQ e f=true->Q e) e (ar h) k h
noncomputable def pk(e:Expr)(f:List Expr->Bool):Bool:=aR e.ctorIdx 25 λh=>Expr.Tuple.elim (motive_1:=λ_=>Bool) e h λes _ _=>f es
theorem nB{Q:Expr->Prop}{e:Expr}{f:List Expr->Bool}(h:pk e f=true)(k:∀es k p,f es=true->Q (.Tuple es k p)):Q e:=
 Expr.Tuple.elim (motive_1:=λe=>pk e f=true->Q e) e (ar h) k h
noncomputable def Bh(e:Expr)(f:Expr->List Comprehension->Scope->Pos->Bool):Bool:=aR e.ctorIdx 8 λh=>Expr.ListComp.elim (motive_1:=λ_=>Bool) e h λe1 gs sc p=>f e1 gs sc p
theorem wZ{Q:Expr->Prop}{e:Expr}{f:Expr->List Comprehension->Scope->Pos->Bool}(h:Bh e f=true)(k:∀e1 gs sc p,f e1 gs sc p=true->Q (.ListComp e1 gs sc p)):Q e:=
 Expr.ListComp.elim (motive_1:=λe=>Bh e f=true->Q e) e (ar h) k h
def isNil{α:Type}(l:List α):Bool:=cL l true λ_ _=>false
def we{α:Type}(l:List α)(f:α->Bool):Bool:=cL l false λa r=>cL r (f a) λ_ _=>false
def Ma{α:Type}(l:List α)(f:α->α->Bool):Bool:=cL l false λa r=>cL r false λb q=>cL q (f a b) λ_ _=>false
section
variable{α:Type}{Q:List α->Prop}
theorem bW{l:List α}(h:isNil l=true)(k:Q []):Q l:=match l,h with
 |[],_=>k
theorem gZ{l:List α}{f:α->Bool}(h:we l f=true)(k:∀a,f a=true->Q [a]):Q l:=match l,h with
 |[a],h=>k a h
theorem pn{l:List α}{f:α->α->Bool}(h:Ma l f=true)(k:∀a b,f a b=true->Q [a,b]):Q l:=match l,h with
 |[a,b],h=>k a b h
end
noncomputable def sX(c:Const):Bool:=aR c.ctorIdx 0 λ_=>true
noncomputable def Nw(c:Const)(f:Bool->Bool):Bool:=aR c.ctorIdx 1 λh=>Const.bool.elim (motive:=λ_=>Bool) c h f
theorem JS{Q:Const->Prop}{c:Const}{f:Bool->Bool}(h:Nw c f=true)(k:∀b,f b=true->Q (.bool b)):Q c:=Const.bool.elim (motive:=λc=>Nw c f=true->Q c) c (ar h) k h
noncomputable def Mb(c:Const)(f:Int->Bool):Bool:=aR c.ctorIdx 2 λh=>Const.int.elim (motive:=λ_=>Bool) c h f
theorem D0{Q:Const->Prop}{c:Const}{f:Int->Bool}(h:Mb c f=true)(k:∀b,f b=true->Q (.int b)):Q c:=Const.int.elim (motive:=λc=>Mb c f=true->Q c) c (ar h) k h
noncomputable def Nx(c:Const)(f:Str->Bool):Bool:=aR c.ctorIdx 5 λh=>Const.str.elim (motive:=λ_=>Bool) c h f
theorem JT{Q:Const->Prop}{c:Const}{f:Str->Bool}(h:Nx c f=true)(k:∀b,f b=true->Q (.str b)):Q c:=Const.str.elim (motive:=λc=>Nx c f=true->Q c) c (ar h) k h
theorem uJ{Q:Const->Prop}{c:Const}(h:sX c=true)(k:Q .none):Q c:=Const.none.elim (motive:=Q) c (ar h) k
noncomputable def w0(o:UnaryOp):Bool:=decide (o=.USub)
noncomputable def JU(o:UnaryOp):Bool:=decide (o=.Not)
def D1(o:BoolOp):Bool:=@BoolOp.rec (λ_=>Bool) true false o
def qR(xs:List Expr)(f:Expr->Expr->Bool)(g:Expr->Expr->Expr->List Expr->Bool):Bool:=cL xs false λx r=>cL r false λy q=>cL q (f x y) λz r=>g x y z r
theorem pq{Q:List Expr->Prop}{xs:List Expr}{f:Expr->Expr->Bool}{g:Expr->Expr->Expr->List Expr->Bool}(h:qR xs f g=true)(k1:∀x y,f x y=true->Q [x,y])(k2:∀x y z r,g x y z r=true->Q (x::y::z::r)):Q xs:=match xs,h with
 |[x,y],h=>k1 x y h
 |x::y::z::r,h=>k2 x y z r h
noncomputable def Bj:Ex->Bool
 |.none=>true
 |_=>false
def oQ(l:Option Expr)(b:Bool)(f:Expr->Bool):Bool:=cO l f b
theorem gk{Q:Option Expr->Prop}{l:Option Expr}{f:Expr->Bool}(h:oQ l false f=true)(k:∀e,f e=true->Q (some e)):Q l:=match l,h with
 |some e,h=>k e h
theorem gm{Q:Option Expr->Prop}{l:Option Expr}(h:oQ l true (λ_=>false)=true)(k:Q none):Q l:=match l,h with
 |none,_=>k
def JV(k:Keyword)(f:Str->Expr->Bool):Bool:=cO k.arg (λn=>f n k.value) false
theorem Fv{Q:Keyword->Prop}{k:Keyword}{f:Str->Expr->Bool}(h:JV k f=true)(c:∀n v p,f n v=true->Q ⟨some n,v,p⟩):Q k:=match k,h with
 |⟨some n,v,p⟩,h=>c n v p h
noncomputable def qS(e:Expr):Bool:=!aR e.ctorIdx 22 λ_=>true
noncomputable def JW:Bi->Option Str
 |.isInt=>some "int"
 |.isStr=>some "str"
 |.isRef=>some "Ref"
 |_=>none
def w1(N:NC)(b:Bi)(args:List Expr):Bool:=match JW b with
 |none=>true
 |some t=>Ma args λ_ te=>bQ te λn _=>t==n&&br N n
noncomputable def D2(b:Bi)(args:List Expr):List Expr:=match JW b with
 |none=>args
 |some _=>args.take 1
mutual
noncomputable def aJ(T:Nm)(N:NC):Ex->Expr->Bool
 |.ag e,pe=>aJ T N e pe
 |.none,pe=>fJ pe sX
 |.bool b,pe=>fJ pe λc=>Nw c λx=>b==x
 |.int i,pe=>fJ pe λc=>Mb c λj=>decide (i=j)
 |.str s,pe=>fJ pe λc=>Nx c λt=>DZ s t
 |.var i,pe=>bQ pe λx _=>cm N i x&&isVar N x&&x !="__debug__"
 |.a7 g v,pe=>bQ pe λx _=>T.me g==x&&br N x&&sQ (T.a7 g) v
 |.bin o a b,pe=>wX pe λl op r=>jL o op&&aJ T N a l&&aJ T N b r
 |.neg a,pe=>ph pe λop x=>w0 op&&aJ T N a x
 |.not a,pe=>ph pe λop x=>JU op&&aJ T N a x
 |.and a b,pe=>sR pe λop xs p=>D1 op&&qR xs (λx y=>aJ T N a x&&aJ T N b y) λx y z r=>aJ T N a x&&aJ T N b (.BoolOp .And (y::z::r) p)
 |.or a b,pe=>sR pe λop xs p=>!D1 op&&qR xs (λx y=>aJ T N a x&&aJ T N b y) λx y z r=>aJ T N a x&&aJ T N b (.BoolOp .Or (y::z::r) p)
 |.cmp a o b,pe=>sT pe λl os cs=>we os λop=>we cs λr=>kE o op&&aJ T N a l&&aJ T N b r&&!behindInMarks op r
 |.hY a o b p c,pe=>sT pe λl os cs=>Ma os λop oq=>Ma cs λm r=>kE o op&&kE p oq&&aJ T N a l&&aJ T N b m&&aJ T N c r&&!behindInMarks op m&&!behindInMarks oq r
 |.ite c a b,pe=>Ft pe λt x y=>aJ T N c t&&aJ T N a x&&aJ T N b y
 |.call f as,pe=>eS pe λfe args ks _=>bQ fe λn _=>isNil ks&&(T.gd f==n&&br N n&&!(n=="")&&cU T N as args)
 |.meth c m o as,pe=>eS pe λfe args ks pos=>gj fe λox n ap=>isNil ks&&(T.gX m==n&&ap.endLine==pos.line&&Nat.blt args.length 9&&isName ox&&aJ T N o ox&&cU T N as args)
 |.new c as,pe=>eS pe λfe args ks _=>bQ fe λn _=>isNil ks&&(T.cD c==n&&br N n&&!(n=="")&&cU T N as args)
 |.ki c k e,pe=>eS pe λfe args ks _=>bQ fe λn _=>isNil args&&we ks λkw=>JV kw λkn v=>T.cD c==n&&br N n&&!(n=="")&&(match(T.bK c)[k]?with|some fn=>fn==kn|none=>false)&&aJ T N e v
 |.bi b as,pe=>eS pe λfe args ks _=>bQ fe λn _=>isNil ks&&(bM b==n&&br N n&&w1 N b args&&cU T N as (D2 b args))
 |.bm b o as,pe=>eS pe λfe args ks pos=>gj fe λox n ap=>isNil ks&&(jy b==n&&ap.endLine==pos.line&&Nat.blt args.length 9&&!isCall ox&&aJ T N o ox&&cU T N as args)
 |.attr c j o,pe=>gj pe λox n _=>(match(T.bK c)[j]?with|some fn=>fn==n|none=>false)&&!isCall ox&&aJ T N o ox
 |.sub o i,pe=>jz pe λox ix=>aJ T N o ox&&aJ T N i ix
 |.slice o lo hi,pe=>jz pe λox ix=>sV ix λl u t=>oQ t true (λ_=>false)&&(aJ T N o ox&&oQ l (Bj lo) (λe=>aJ T N lo e)&&oQ u (Bj hi) (λe=>aJ T N hi e))
 |.rev o,pe=>jz pe λox ix=>sV ix λl u t=>oQ l true (λ_=>false)&&oQ u true (λ_=>false)&&oQ t false λe=>ph e λop x=>w0 op&&fJ x (λc=>Mb c λj=>decide (j=1))&&aJ T N o ox
 |.oW g i,pe=>jz pe λox ix=>bQ ox λn _=>T.mf g==n&&br N n&&!(n=="")&&aJ T N i ix
 |.list es,pe=>qQ pe λelts=>cU T N es elts
 |.tup es,pe=>pk pe λelts=>cU T N es elts
 |.comp elt it,pe=>Bh pe λe gs sc _=>we gs λg=>bQ g.target λx _=>isNil g.ifs&&decide (g.is_async=0)&&(ny N sc x&&kF g.iter&&aJ T N it g.iter&&aJ T (jM N sc x) elt e)
 |.stuck,pe=>qS pe
noncomputable def cU(T:Nm)(N:NC):dH->List Expr->Bool
 |.nil,[]=>true
 |.cons e r,pe::q=>aJ T N e pe&&cU T N r q
 |_,_=>false
end
section
variable{T:Nm}{N:NC}{pe:Expr}
theorem bt{a b:Bool}(h:(a&&b)=true):a=true/\b=true:=by cases a<;>cases b<;>first|exact⟨rfl,rfl⟩|cases h
theorem sY{Q:Expr->Prop}(h:aJ T N .none pe=true)(k1:∀k p,Q (.Constant .none k p)):Q pe:=
 e9 h λc k p h=>uJ (Q:=λc=>Q (.Constant c k p)) h (k1 k p)
theorem nC{Q:Expr->Prop}{b:Bool}(h:aJ T N (.bool b) pe=true)(k1:∀c k p,(b==c)=true->Q (.Constant (.bool c) k p)):Q pe:=
 e9 h λc k p h=>JS (Q:=λc=>Q (.Constant c k p)) h λc h=>k1 c k p h
theorem qT{Q:Expr->Prop}{i:Int}(h:aJ T N (.int i) pe=true)(k1:∀c k p,(decide (i=c))=true->Q (.Constant (.int c) k p)):Q pe:=
 e9 h λc k p h=>D0 (Q:=λc=>Q (.Constant c k p)) h λc h=>k1 c k p h
theorem qU{Q:Expr->Prop}{s:List Nat}(h:aJ T N (.str s) pe=true)(k1:∀c k p,(DZ s c)=true->Q (.Constant (.str c) k p)):Q pe:=
 e9 h λc k p h=>JT (Q:=λc=>Q (.Constant c k p)) h λc h=>k1 c k p h
theorem w2{Q:Expr->Prop}{a:Ex}(h:aJ T N (.neg a) pe=true)(k1:∀x p,(aJ T N a x)=true->Q (.UnaryOp .USub x p)):Q pe:=
 nz h λop x p h=>(of_decide_eq_true (bL h)).symm▸k1 x p (bR h)
theorem w3{Q:Expr->Prop}{a:Ex}(h:aJ T N (.not a) pe=true)(k1:∀x p,(aJ T N a x)=true->Q (.UnaryOp .Not x p)):Q pe:=
 nz h λop x p h=>(of_decide_eq_true (bL h)).symm▸k1 x p (bR h)
theorem w4{Q:Expr->Prop}{a b:Ex}(h:aJ T N (.and a b) pe=true)(k1:∀x y p,(aJ T N a x&&aJ T N b y)=true->Q (.BoolOp .And [x,y] p))(k2:∀x y z r p,(aJ T N a x&&aJ T N b (.BoolOp .And (y::z::r) p))=true->Q (.BoolOp .And (x::y::z::r) p)):Q pe:=
 sS h λop xs p h=>match op,h with
  |.And,h=>pq (Q:=λxs=>Q (.BoolOp .And xs p)) h (λx y h=>k1 x y p h) λx y z r h=>k2 x y z r p h
theorem D3{Q:Expr->Prop}{a b:Ex}(h:aJ T N (.or a b) pe=true)(k1:∀x y p,(aJ T N a x&&aJ T N b y)=true->Q (.BoolOp .Or [x,y] p))(k2:∀x y z r p,(aJ T N a x&&aJ T N b (.BoolOp .Or (y::z::r) p))=true->Q (.BoolOp .Or (x::y::z::r) p)):Q pe:=
 sS h λop xs p h=>match op,h with
  |.Or,h=>pq (Q:=λxs=>Q (.BoolOp .Or xs p)) h (λx y h=>k1 x y p h) λx y z r h=>k2 x y z r p h
theorem qW{Q:Expr->Prop}{o:jY}{a b:Ex}(h:aJ T N (.cmp a o b) pe=true)(k1:∀l op q p,(kE o op&&aJ T N a l&&aJ T N b q&&!behindInMarks op q)=true->Q (.Compare l [op] [q] p)):Q pe:=
 sU h λl os cs p h=>gZ (Q:=λos=>Q (.Compare l os cs p)) h λop h=>gZ (Q:=λcs=>Q (.Compare l [op] cs p)) h λq h=>k1 l op q p h
theorem sZ{Q:Expr->Prop}{o u:jY}{a b c:Ex}(h:aJ T N (.hY a o b u c) pe=true)(k1:∀l op oq m q p,(kE o op&&kE u oq&&aJ T N a l&&aJ T N b m&&aJ T N c q&&!behindInMarks op m&&!behindInMarks oq q)=true->Q (.Compare l [op,oq] [m,q] p)):Q pe:=
 sU h λl os cs p h=>pn (Q:=λos=>Q (.Compare l os cs p)) h λop oq h=>pn (Q:=λcs=>Q (.Compare l [op,oq] cs p)) h λm q h=>k1 l op oq m q p h
theorem s6{Q:Expr->Prop}{f:Nat}{as:dH}(h:aJ T N (.call f as) pe=true)(k1:∀n np args p,(T.gd f==n&&br N n&&!(n=="")&&cU T N as args)=true->Q (.Call (.Name n np) args [] p)):Q pe:=
 dK h λfe args ks p h=>aY (Q:=λfe=>Q (.Call fe args ks p)) h λn np h=>bW (Q:=λks=>Q (.Call (.Name n np) args ks p)) (bL h) (k1 n np args p (bR h))
theorem s7{Q:Expr->Prop}{c m:Nat}{o:Ex}{as:dH}(h:aJ T N (.meth c m o as) pe=true)(k1:∀ox n ap args p,(T.gX m==n&&ap.endLine==p.line&&Nat.blt args.length 9&&isName ox&&aJ T N o ox&&cU T N as args)=true->Q (.Call (.Attribute ox n ap) args [] p)):Q pe:=
 dK h λfe args ks p h=>ef (Q:=λfe=>Q (.Call fe args ks p)) h λox n ap h=>bW (Q:=λks=>Q (.Call (.Attribute ox n ap) args ks p)) (bL h) (k1 ox n ap args p (bR h))
theorem w5{Q:Expr->Prop}{c:Nat}{as:dH}(h:aJ T N (.new c as) pe=true)(k1:∀n np args p,(T.cD c==n&&br N n&&!(n=="")&&cU T N as args)=true->Q (.Call (.Name n np) args [] p)):Q pe:=
 dK h λfe args ks p h=>aY (Q:=λfe=>Q (.Call fe args ks p)) h λn np h=>bW (Q:=λks=>Q (.Call (.Name n np) args ks p)) (bL h) (k1 n np args p (bR h))
theorem s8{Q:Expr->Prop}{c k:Nat}{e:Ex}(h:aJ T N (.ki c k e) pe=true)(k1:∀n np kn v kp p,(T.cD c==n&&br N n&&!(n=="")&&(match(T.bK c)[k]?with|some fn=>fn==kn|none=>false)&&aJ T N e v)=true->Q (.Call (.Name n np) [] [⟨some kn,v,kp⟩] p)):Q pe:=
 dK h λfe args ks p h=>aY (Q:=λfe=>Q (.Call fe args ks p)) h λn np h=>bW (Q:=λargs=>Q (.Call (.Name n np) args ks p)) (bL h) (gZ (Q:=λks=>Q (.Call (.Name n np) [] ks p)) (bR h) λkw h=>Fv (Q:=λkw=>Q (.Call (.Name n np) [] [kw] p)) h λkn v kp h=>k1 n np kn v kp p h)
theorem D4{Q:Expr->Prop}{b:Bi}{as:dH}(h:aJ T N (.bi b as) pe=true)(k1:∀n np args p,(bM b==n&&br N n&&w1 N b args&&cU T N as (D2 b args))=true->Q (.Call (.Name n np) args [] p)):Q pe:=
 dK h λfe args ks p h=>aY (Q:=λfe=>Q (.Call fe args ks p)) h λn np h=>bW (Q:=λks=>Q (.Call (.Name n np) args ks p)) (bL h) (k1 n np args p (bR h))
theorem D5{Q:Expr->Prop}{b:Bm}{o:Ex}{as:dH}(h:aJ T N (.bm b o as) pe=true)(k1:∀ox n ap args p,(jy b==n&&ap.endLine==p.line&&Nat.blt args.length 9&&!isCall ox&&aJ T N o ox&&cU T N as args)=true->Q (.Call (.Attribute ox n ap) args [] p)):Q pe:=
 dK h λfe args ks p h=>ef (Q:=λfe=>Q (.Call fe args ks p)) h λox n ap h=>bW (Q:=λks=>Q (.Call (.Attribute ox n ap) args ks p)) (bL h) (k1 ox n ap args p (bR h))
theorem pv{Q:Expr->Prop}{o lo hi:Ex}(h:aJ T N (.slice o lo hi) pe=true)(k1:∀ox l u sp p,(aJ T N o ox&&oQ l (Bj lo) (λe=>aJ T N lo e)&&oQ u (Bj hi) (λe=>aJ T N hi e))=true->Q (.Subscript ox (.Slice l u none sp) p)):Q pe:=
 iQ h λox ix p h=>sW (Q:=λix=>Q (.Subscript ox ix p)) h λl u t sp h=>gm (Q:=λt=>Q (.Subscript ox (.Slice l u t sp) p)) (bL h) (k1 ox l u sp p (bR h))
theorem w6{Q:Expr->Prop}{o:Ex}(h:aJ T N (.rev o) pe=true)(k1:∀ox k p1 p2 p3 p,(aJ T N o ox)=true->Q (.Subscript ox (.Slice none none (some (.UnaryOp .USub (.Constant (.int 1) k p1) p2)) p3) p)):Q pe:=
 iQ h λox ix p h=>sW (Q:=λix=>Q (.Subscript ox ix p)) h λl u t p3 h=>gm (Q:=λl=>Q (.Subscript ox (.Slice l u t p3) p)) (bL (bL h))<|
  gm (Q:=λu=>Q (.Subscript ox (.Slice none u t p3) p)) (bR (bL h))<|gk (Q:=λt=>Q (.Subscript ox (.Slice none none t p3) p)) (bR h) λe h=>
  nz (Q:=λe=>Q (.Subscript ox (.Slice none none (some e) p3) p)) h λop x p2 h=>(of_decide_eq_true (bL (bL h))).symm▸
  e9 (Q:=λx=>Q (.Subscript ox (.Slice none none (some (.UnaryOp .USub x p2)) p3) p)) (bR (bL h)) λc k p1 h2=>D0 (Q:=λc=>Q (.Subscript ox (.Slice none none (some (.UnaryOp .USub (.Constant c k p1) p2)) p3) p)) h2 λj h2=>
  (of_decide_eq_true h2).symm▸k1 ox k p1 p2 p3 p (bR h)
theorem s9{Q:Expr->Prop}{g:Nat}{i:Ex}(h:aJ T N (.oW g i) pe=true)(k1:∀n np ix p,(T.mf g==n&&br N n&&!(n=="")&&aJ T N i ix)=true->Q (.Subscript (.Name n np) ix p)):Q pe:=
 iQ h λox ix p h=>aY (Q:=λox=>Q (.Subscript ox ix p)) h λn np h=>k1 n np ix p h
theorem nD{Q:Expr->Prop}{elt it:Ex}(h:aJ T N (.comp elt it) pe=true)(k1:∀e x tp iter sc p,(ny N sc x&&kF iter&&aJ T N it iter&&aJ T (jM N sc x) elt e)=true->Q (.ListComp e [⟨.Name x tp,iter,[],0⟩] sc p)):Q pe:=
 wZ h λe gs sc p h=>gZ (Q:=λgs=>Q (.ListComp e gs sc p)) h λ⟨tg,iter,fs,k⟩ h=>aY (Q:=λtg=>Q (.ListComp e [⟨tg,iter,fs,k⟩] sc p)) h λx tp h=>
  bW (Q:=λfs=>Q (.ListComp e [⟨.Name x tp,iter,fs,k⟩] sc p)) (bL (bL h)) ((of_decide_eq_true (bR (bL h)):k=0).symm▸k1 e x tp iter sc p (bR h))
theorem qX{Q:Expr->Prop}{i:Nat}(h:aJ T N (.var i) pe=true)(k1:∀x p,(cm N i x&&isVar N x&&x !="__debug__")=true->Q (.Name x p)):Q pe:=
 aY h k1
theorem ta{Q:Expr->Prop}{g:Nat}{v:LV}(h:aJ T N (.a7 g v) pe=true)(k1:∀x p,(T.me g==x&&br N x&&sQ (T.a7 g) v)=true->Q (.Name x p)):Q pe:=
 aY h k1
theorem w7{Q:Expr->Prop}{o:jo}{a b:Ex}(h:aJ T N (.bin o a b) pe=true)(k1:∀l op q p,(jL o op&&aJ T N a l&&aJ T N b q)=true->Q (.BinOp l op q p)):Q pe:=
 Bf h k1
theorem w8{Q:Expr->Prop}{c a b:Ex}(h:aJ T N (.ite c a b) pe=true)(k1:∀t x y p,(aJ T N c t&&aJ T N a x&&aJ T N b y)=true->Q (.IfExp t x y p)):Q pe:=
 Fu h k1
theorem tc{Q:Expr->Prop}{c j:Nat}{o:Ex}(h:aJ T N (.attr c j o) pe=true)(k1:∀ox n p,((match(T.bK c)[j]?with|some fn=>fn==n|none=>false)&&!isCall ox&&aJ T N o ox)=true->Q (.Attribute ox n p)):Q pe:=
 ef h k1
theorem w9{Q:Expr->Prop}{o i:Ex}(h:aJ T N (.sub o i) pe=true)(k1:∀ox ix p,(aJ T N o ox&&aJ T N i ix)=true->Q (.Subscript ox ix p)):Q pe:=
 iQ h k1
theorem td{Q:Expr->Prop}{es:dH}(h:aJ T N (.list es) pe=true)(k1:∀elts p,(cU T N es elts)=true->Q (.List elts p)):Q pe:=
 wY h k1
theorem xa{Q:Expr->Prop}{es:dH}(h:aJ T N (.tup es) pe=true)(k1:∀elts k p,(cU T N es elts)=true->Q (.Tuple elts k p)):Q pe:=
 nB h k1
end
structure XC(A:Around)(F:List Addr)(h:Heap)(d:Nat):Prop where
 handled:A.handled=none
 frames:∃l,A.frames=some l/\gh F h l
 depth:A.depth+4*d+4<recursionLimit
 units:A.units+40*d+20<cLine
theorem XC.le{A:Around}{F X:List Addr}{d:Nat}{φ ak:aS}{s s':Shared}(x:XC A F s.heap d)(y:Le F X φ ak s s'):XC A F s'.heap d:=
 ⟨x.handled,let⟨l,e,f⟩:=x.frames;⟨l,e,f.le y⟩,x.depth,x.units⟩
structure cJ(N:NC)(env:Env):Prop where
 sc:env.scope=N.sc
 gl:env.globals=mainGlobals
 bl:env.builtins=builtinsNs
 kind:N.sc.kind=.function
theorem cJ.fn{N env}(x:cJ N env):env.scope.kind=.function:=by rw[x.sc];exact x.kind
theorem cJ.of{N env}(x:cJ N env)(n:Str):env.kindOf n=N.kind n:=by unfold Env.kindOf NC.kind;rw[x.sc]
noncomputable def JX(φ:aS)(F:List Addr)(h:Heap)(m:Str->Option Value)(n:Str)(v:LV):Prop:=(v=.au/\m n=none)∨∃x,m n=some x/\VR φ F h v x
noncomputable def NR(φ:aS)(F:List Addr)(h:Heap)(env:Env)(N:NC)(ρ:List LV):Prop:=
 env.locals∈F/\ρ.length=N.names.length/\∃m,h.Ns env.locals m/\∀(i:Nat)(n:Str)(v:LV),N.names[i]?=some n->ρ[i]?=some v->
  (N.kind n=some .local->JX φ F h m n v)/\
  (N.kind n=some .cell->∃x ca,env.cells.lookup n=some ca/\h.IsCell ca (some x)/\¬Own φ ca/\ca∉F/\VR φ F h v x)
theorem gp{h h':Heap}{a:Addr}{m}(x:h.Ns a m)(k:∀o,h.get? a=some o->∃sl,h'.get? a=some {o with slots:=sl}):h'.Ns a m:=by
 obtain⟨o,es,ep,ho,r⟩:=x;obtain⟨sl,e⟩:=k o ho;exact⟨_,es,ep,e,r⟩
theorem NR.mono{φ ak:aS}{F:List Addr}{s s':Shared}{env:Env}{N:NC}{ρ:List LV}(x:NR φ F s.heap env N ρ)(y:Le F [] φ ak s s'):NR ak F s'.heap env N ρ:=by
 obtain⟨hf,hl,m,hm,r⟩:=x;refine⟨hf,hl,m,gp hm λo e=>y.fr _ o e hf (by simp),λi n v e1 e2=>⟨λk=>?_,λk=>?_⟩⟩
 ·rcases(r i n v e1 e2).1 k with q|⟨x,a,b⟩
  ·exact .inl q
  ·exact .inr ⟨x,a,b.mono y⟩
 ·obtain⟨x,ca,h1,⟨o,h2,qY⟩,h3,h4,h5⟩:=(r i n v e1 e2).2 k;exact⟨x,ca,h1,⟨o,y.keep _ _ h2 h3 h4,qY⟩,y.ky h2 h3,h4,h5.mono y⟩
section
variable{B:Bg}{A:Around}{F X:List Addr}{φ:aS}{s:Shared}{α β lY JY:Type}
inductive RT(B:Bg)(F X:List Addr)(φ:aS)(s:Shared)(R:α->aS->Heap->β->Prop)(v:α)(ax:LH)(x:β)(s':Shared):Prop
 |mk (ak:aS) (le:Le F X φ ak s s') (I:Inv B ak F ax s'.heap) (r:R v ak s'.heap x)
inductive RU(B:Bg)(F X:List Addr)(φ:aS)(s:Shared)(c:Nat)(ax:LH)(e:Value)(s':Shared):Prop
 |mk (ak:aS) (le:Le F X φ ak s s') (I:Inv B ak F ax s'.heap) (ex:ExcAt B s.heap c e s'.heap)
@[reducible] def qZ(B:Bg)(F X:List Addr)(φ:aS)(s:Shared)(R:α->aS->Heap->β->Prop)(out:Out α)(x:β)(s':Shared):Prop:=
 @Out.rec α (λ_=>Prop) (λv ax=>RT B F X φ s R v ax x s') (λ_ _=>False) False out
@[reducible] def qz(B:Bg)(F X:List Addr)(φ:aS)(s:Shared)(out:Out α)(e:Value)(s':Shared):Prop:=
 @Out.rec α (λ_=>Prop) (λ_ _=>False) (λc ax=>RU B F X φ s c ax e s') False out
noncomputable def aa(B:Bg)(A:Around)(F X:List Addr)(φ:aS)(s:Shared)(out:Out α)(t:Sem β)(R:α->aS->Heap->β->Prop):Prop:=
 out≠.bad->wpAny (model B.prog B.w) A t (qZ B F X φ s R out) (qz B F X φ s out) s
theorem iR{v:α}{σ:LH}:Out.ok v σ≠.bad:=nofun
theorem jA{c:Nat}{σ:LH}:(Out.err c σ:Out α)≠.bad:=nofun
theorem qZ.from{ak:aS}{s':Shared}{R:α->aS->Heap->β->Prop}{out:Out α}{x:β}{cb:Shared}(le:Le F X φ ak s s')(q:qZ B F X ak s' R out x cb):qZ B F X φ s R out x cb:=by
 cases out with
 |ok v σ=>exact q.rec λfG b I r=>⟨fG,le.trans b,I,r⟩
 |_=>exact q
theorem qz.from{ak:aS}{s':Shared}{out:Out α}{e:Value}{cb:Shared}(le:Le F X φ ak s s')(q:qz B F X ak s' out e cb):qz B F X φ s out e cb:=by
 cases out with
 |err c σ=>exact q.rec λfG b I r=>⟨fG,le.trans b,I,r.kz le.live⟩
 |_=>exact q
theorem qZ.map{γ:Type}{s':Shared}{R:α->aS->Heap->β->Prop}{R':α->aS->Heap->γ->Prop}{out:Out α}{x:β}{y:γ}(q:qZ B F X φ s R out x s')(h:∀v φ h,R v φ h x->R' v φ h y):qZ B F X φ s R' out y s':=by
 cases out with
 |ok v σ=>exact q.rec λfG b I r=>⟨fG,b,I,h _ _ _ r⟩
 |_=>exact q
theorem qZ.base{s':Shared}{R:α->aS->Heap->β->Prop}{out:Out α}{x:β}(q:qZ B F X φ s R out x s'):B.h0.StaysIn s'.heap:=by
 cases out with
 |ok v σ=>exact q.rec λfG b I r=>I.base
 |_=>exact q.elim
theorem aa.from{ak:aS}{s':Shared}{R:α->aS->Heap->β->Prop}{out:Out α}{t:Sem β}(le:Le F X φ ak s s')(x:aa B A F X ak s' out t R)(hb:out≠.bad):wpAny (model B.prog B.w) A t (qZ B F X φ s R out) (qz B F X φ s out) s':=
 wpAny_mono (x hb) (λ_ _ q=>q.from le) λ_ _ q=>q.from le
theorem aa.nb{out:Out α}{t:Sem β}{R:α->aS->Heap->β->Prop}(x:out≠.bad->aa B A F X φ s out t R):aa B A F X φ s out t R:=λhb=>x hb hb
theorem aa.eq{out JZ:Out α}{t:Sem β}{R:α->aS->Heap->β->Prop}(e:out=JZ)(x:aa B A F X φ s JZ t R):aa B A F X φ s out t R:=e▸x
theorem aa.then{out:Out α}{t:Sem β}{f:α->LH->Out lY}{R:α->aS->Heap->β->Prop}{K:Out lY->β->Shared->Prop}(x:aa B A F X φ s out t R)(hb:oB out f≠.bad)
  (h:∀v ax ak s' x,out=.ok v ax->Le F X φ ak s s'->Inv B ak F ax s'.heap->R v ak s'.heap x->f v ax≠.bad->K (f v ax) x s'):wpAny (model B.prog B.w) A t (K (oB out f)) (qz B F X φ s (oB out f)) s:=by
 cases out with
 |bad=>exact absurd rfl hb
 |err c ax=>exact wpAny_mono (x jA) (λ_ _ q=>q.elim) λ_ _ q=>q
 |ok v ax=>exact wpAny_mono (x iR) (λy s' q=>q.rec λak le I r=>h v ax ak s' y rfl le I r hb) λ_ _ q=>q.elim
theorem aa.bad{t:Sem β}{R:α->aS->Heap->β->Prop}:aa B A F X φ s .bad t R:=λh=>absurd rfl h
theorem aa.ok{v:α}{σ:LH}{x:β}{R:α->aS->Heap->β->Prop}(I:Inv B φ F σ s.heap)(r:R v φ s.heap x):aa B A F X φ s (.ok v σ) (pure x) R:=λ_=>
 wpAny_pure ⟨φ,.refl,I,r⟩
theorem aa.weak{out:Out α}{t:Sem β}{R R':α->aS->Heap->β->Prop}(x:aa B A F X φ s out t R)(h:∀v ak h x,R v ak h x->R' v ak h x):aa B A F X φ s out t R':=λhb=>
 wpAny_mono (x hb) (λx s' q=>q.map λv φ g=>h v φ g x) λ_ _ y=>y
theorem aa.bind{out:Out α}{t:Sem β}{f:α->LH->Out lY}{g:β->Sem JY}{R:α->aS->Heap->β->Prop}{R':lY->aS->Heap->JY->Prop}(x:aa B A F X φ s out t R)
  (h:∀v ax ak s' x,out=.ok v ax->Le F X φ ak s s'->Inv B ak F ax s'.heap->R v ak s'.heap x->aa B A F X ak s' (f v ax) (g x) R'):aa B A F X φ s (oB out f) (t>>=g) R':=λhb=>by
 cases out with
 |bad=>exact absurd rfl hb
 |err c ax=>exact wpAny_bind (wpAny_mono (x jA) (λ_ _ q=>q.elim) λ_ _ q=>q)
 |ok v ax=>exact wpAny_bind (wpAny_mono (x iR) (λy s' q=>q.rec λak le I r=>(h v ax ak s' y rfl le I r).from le hb) λ_ _ q=>q.elim)
theorem aa.pre{out:Out α}{R:α->aS->Heap->β->Prop}{u:Sem lY}{g:lY->Sem β}{a:lY}(hu:∀(Q:lY->Shared->Prop) E,Q a s->wpAny (model B.prog B.w) A u Q E s)(x:aa B A F X φ s out (g a) R):aa B A F X φ s out (u>>=g) R:=λhb=>
 wpAny_bind (hu _ _ (x hb))
theorem aa.at{out:Out α}{pos:Pos}{t:Unit->Sem β}{R:α->aS->Heap->β->Prop}(x:aa B A F X φ s out (t ()) R):aa B A F X φ s out (standAt pos>>=t) R:=
 aa.pre (g:=t) (a:=()) (λ_ _ q=>wpAny_standAt q) x
theorem aa.holding{out:Out α}{vs:List Value}{t:Sem β}{R:α->aS->Heap->β->Prop}(x:aa B A F X φ s out t R):aa B A F X φ s out (PySem.holding vs t) R:=λhb=>wpAny_holding (x hb)
theorem aa.operate{out:Out α}{vs:List Value}{t:Sem Value}{R:α->aS->Heap->Value->Prop}(x:aa B A F X φ s out t R):aa B A F X φ s out (PySem.operate vs t) R:=λhb=>wpAny_operate' (x hb)
theorem aa.prim{v:α}{σ:LH}{t:Sem β}{R:α->aS->Heap->β->Prop}(I:Inv B φ F σ s.heap)
  (h:∀Q E,(∀x s',(∀b o,s.heap.get? b=some o->s'.heap.get? b=some o)->s'.gens=s.gens->s'.os=s.os->R v φ s'.heap x->Q x s')->wpAny (model B.prog B.w) A t Q E s):aa B A F X φ s (.ok v σ) t R:=λ_=>
 h _ _ λx s' k hg ho r=>⟨φ,.of_keeps k hg ho,I.keeps k,r⟩
end
noncomputable abbrev RV(F:List Addr):LV->aS->Heap->Value->Prop:=λv φ h x=>VR φ F h v x
noncomputable abbrev RW(F:List Addr):List LV->aS->Heap->List Value->Prop:=λv φ h x=>aB φ F h v x
noncomputable abbrev RX{α:Type}:α->aS->Heap->α->Prop:=λa _ _ b=>b=a
structure fb(B:Bg)(d:Nat)(N:NC)(A:Around)(F:List Addr)(φ:aS)(σ:LH)(s:Shared)(env:Env)(ρ:List LV):Prop where
 xc:XC A F s.heap (B.x+d)
 ok:cJ N env
 inv:Inv B φ F σ s.heap
 nr:NR φ F s.heap env N ρ
 room:N.lv=0->A.depth+4*(B.x+d)+5<recursionLimit/\A.units+40*(B.x+d)+30<cLine
theorem fb.le{B d N A F φ ak σ ax s s' env ρ}(x:fb B d N A F φ σ s env ρ)(y:Le F [] φ ak s s')(I:Inv B ak F ax s'.heap):fb B d N A F ak ax s' env ρ:=
 ⟨x.xc.le y,x.ok,I,x.nr.mono y,x.room⟩
noncomputable def SE(B:Bg)(d:Nat)(re:List LV->LH->Out LV)(N:NC)(pe:Expr):Prop:=
 ∀A F φ σ s env ρ,fb B d N A F φ σ s env ρ->aa B A F [] φ s (re ρ σ) (eval pe env) (RV F)
noncomputable def ST(B:Bg)(d:Nat)(rt:List LV->LH->Out Bool)(N:NC)(pe:Expr):Prop:=
 ∀A F φ σ s env ρ,fb B d N A F φ σ s env ρ->aa B A F [] φ s (rt ρ σ) (isTrue pe env (eval pe env)) RX
noncomputable def SL(B:Bg)(d:Nat)(rs:List LV->LH->Out (List LV))(N:NC)(qA:List Expr):Prop:=
 ∀A F φ σ s env ρ pos,fb B d N A F φ σ s env ρ->aa B A F [] φ s (rs ρ σ) (spliced (backTo pos (starEach qA env))) (RW F)
structure Fx(B:Bg):Prop where
 g:B.h0.Ns mainGlobals B.mg
 b:B.h0.Ns builtinsNs B.mb
 xb:B.h0.NoLimit
 nodup:∀c,(B.bK c).Nodup
 gv:∀g v,sQ (B.nm.a7 g) v=true->eF v=true/\∃x,B.mg (B.nm.me g)=some x/\VR [] [] B.h0 v x
section
variable{B:Bg}{d:Nat}{N:NC}{A:Around}{F:List Addr}{φ:aS}{σ:LH}{s:Shared}{env:Env}{ρ:List LV}
theorem xd{h:Heap}(I:Inv B φ F σ h):∀b o,B.h0.get? b=some o->¬Own [] b->b∉[]->h.get? b=some o/\¬Own φ b/\b∉F:=λb o e _ _=>by
 refine⟨I.base b o e,?_,λhf=>?_⟩
 ·rintro⟨p,hp,q|q⟩
  ·rw[q,(I.top p hp).1] at e;cases e
  ·rw[q,(I.top p hp).2] at e;cases e
 ·rw[(I.fr b hf).1] at e;cases e
theorem gH{x:Str}{pos:Pos}{v:Value}{Q:Value->Shared->Prop}{E:Value->Shared->Prop}(fx:Fx B)(c:fb B d N A F φ σ s env ρ)(hg:br N x=true)(hv:B.mg x=some v)(q:Q v s):
  wpAny (model B.prog B.w) A (eval (.Name x pos) env) Q E s:=by
 obtain⟨hk,hd⟩:=fH hg;refine Calls.Name_function_global c.ok.fn (by rw[c.ok.of];exact hk) (Calls.loadGlobal_global ?_ hv q) hd;rw[c.ok.gl];exact fx.g.keeps c.inv.base
theorem px{x:Str}{pos:Pos}{v:Value}{Q:Value->Shared->Prop}{E:Value->Shared->Prop}(fx:Fx B)(c:fb B d N A F φ σ s env ρ)(hg:br N x=true)(hn:B.mg x=none)(hv:B.mb x=some v)(q:Q v s):
  wpAny (model B.prog B.w) A (eval (.Name x pos) env) Q E s:=by
 obtain⟨hk,hd⟩:=fH hg;refine Calls.Name_function_global c.ok.fn (by rw[c.ok.of];exact hk) (Calls.loadGlobal_builtin ?_ hn ?_ hv q) hd
 ·rw[c.ok.gl];exact fx.g.keeps c.inv.base
 ·rw[c.ok.bl];exact fx.b.keeps c.inv.base
theorem SE.none(pe:Expr)(T:Nm)(h:aJ T N .none pe=true):SE B d (λρ σ=>.ok .none σ) N pe:=by
 refine sY h λ_ _=>?_;intro A F φ σ s env ρ c;exact aa.ok c.inv (by show VR _ _ _ _ _;rw[VR])
theorem SE.bool{b:Bool}(pe:Expr)(T:Nm)(h:aJ T N (.bool b) pe=true):SE B d (λρ σ=>.ok (.bool b) σ) N pe:=by
 refine nC h λ_ _ _ h=>?_
 ·intro A F φ σ s env ρ c;have:=eq_of_beq h;subst this;exact aa.ok c.inv (by show VR _ _ _ _ _;rw[VR])
theorem SE.int{i:Int}(pe:Expr)(T:Nm)(h:aJ T N (.int i) pe=true):SE B d (λρ σ=>.ok (.int i) σ) N pe:=by
 refine qT h λ_ _ _ h=>?_
 ·intro A F φ σ s env ρ c;have:=of_decide_eq_true h;subst this;exact aa.prim c.inv λQ E q=>wpAny_mkInt (q _ _ (λ_ _ e=>e) rfl rfl (by show VR _ _ _ _ _;rw[VR];exact⟨_,rfl⟩))
theorem SE.str{b:List Nat}(pe:Expr)(T:Nm)(h:aJ T N (.str b) pe=true):SE B d (λρ σ=>.ok (.str b) σ) N pe:=by
 refine qU h λ_ _ _ h=>?_
 ·intro A F φ σ s env ρ c;have:=eq_of_beq h;subst this;exact aa.prim c.inv λQ E q=>wpAny_mkText (q _ _ (λ_ _ e=>e) rfl rfl (by show VR _ _ _ _ _;rw[VR];exact⟨_,rfl⟩))
theorem SE.a7{g:Nat}{v:LV}(fx:Fx B)(pe:Expr)(h:aJ B.nm N (.a7 g v) pe=true):SE B d (λρ σ=>.ok v σ) N pe:=by
 refine ta h λx pos h=>?_
 ·intro A F φ σ s env ρ c;have h1:=bL (bL h);have h2:=bR (bL h);have h3:=bR h;have:=eq_of_beq h1;subst this;obtain⟨hp,y,hy,hv⟩:=fx.gv g v h3;exact aa.prim c.inv λQ E q=>gH fx c h2 hy (q _ _ (λ_ _ e=>e) rfl rfl (VR.pure' (xd c.inv) v y hp hv))
theorem Fw{o:Option LV}{σ:LH}(hb:(oN o λv=>eQ .bad (.ok v σ) (λ_=>.ok v σ) (λ_=>.ok v σ) (λ_=>.ok v σ) (λ_=>.ok v σ) (λ_=>.ok v σ) (λ_=>.ok v σ) v:Out LV)≠.bad):
  ∃v,o=some v/\v≠.au/\(oN o λv=>eQ .bad (.ok v σ) (λ_=>.ok v σ) (λ_=>.ok v σ) (λ_=>.ok v σ) (λ_=>.ok v σ) (λ_=>.ok v σ) (λ_=>.ok v σ) v:Out LV)=.ok v σ:=by
 cases o with
 |none=>exact absurd rfl hb
 |some v=>exact⟨v,rfl,λe=>hb (by rw[e];rfl),by cases v<;>first|rfl|exact absurd rfl hb⟩
theorem SE.var{i:Nat}{T:Nm}(pe:Expr)(h:aJ T N (.var i) pe=true):SE B d (λρ σ=>oN (bf ρ i) λv=>eQ .bad (.ok v σ) (λ_=>.ok v σ) (λ_=>.ok v σ) (λ_=>.ok v σ) (λ_=>.ok v σ) (λ_=>.ok v σ) (λ_=>.ok v σ) v) N pe:=by
 refine qX h λx pos h=>?_;intro A F φ σ s env ρ c;refine aa.nb λhb=>?_;obtain⟨v,hv,hu,e⟩:=Fw hb;rw[aT] at hv;refine aa.eq e (aa.prim c.inv λQ E q=>?_);have hn:=ed (bL (bL h));have hd:=DY (bR h)
 rcases kD (bR (bL h)) with k|k
 ·exact c.nr.2.2.rec λm z=>((z.2 i x v hn hv).1 k).elim (λq=>absurd q.1 hu) λ⟨y,a,b⟩=>wpAny_Name (wpAny_loadName_local c.ok.fn ((c.ok.of x).trans k) z.1 a (q _ _ (λ_ _ e=>e) rfl rfl b)) hd
 ·exact c.nr.2.2.rec λm z=>((z.2 i x v hn hv).2 k).rec λy w=>w.rec λca u=>wpAny_Name (wpAny_loadName_cell c.ok.fn ((c.ok.of x).trans k) u.1 u.2.1 (q _ _ (λ_ _ e=>e) rfl rfl u.2.2.2.2)) hd
end
section
variable{B:Bg}{A:Around}{F X:List Addr}{φ:aS}{σ:LH}{s:Shared}{h:Heap}
theorem dj{x:Value}:VR φ F h .none x↔x=.none:=by rw[VR]
theorem eG{b:Bool}{x:Value}:VR φ F h (.bool b) x↔x=.bool b:=by rw[VR]
theorem gq{i:Int}{x:Value}:VR φ F h (.int i) x↔∃t,x=.int i t:=by rw[VR]
theorem ic{b:List Nat}{x:Value}:VR φ F h (.str b) x↔∃t,x=.str (toS b) t:=by rw[VR]
theorem xe{x:Value}:¬VR φ F h .au x:=by rw[VR];exact id
theorem dk{i:Nat}{x:Value}:VR φ F h (.ref i) x↔∃p,φ[i]?=some p/\x=.ref p.1:=by rw[VR]
theorem gr{vs:List LV}{x:Value}:VR φ F h (.tup vs) x↔∃a o xs n,x=.ref a/\h.get? a=some o/\¬Own φ a/\a∉F/\o.cls=.type "tuple"/\o.data=.seq xs n/\aB φ F h vs xs.toList:=by rw[VR]
theorem nE{vs:List LV}{x:Value}:VR φ F h (.ag vs) x↔d6 vs=true/\∃a o xs n,x=.ref a/\h.get? a=some o/\¬Own φ a/\a∉F/\o.cls=.type "list"/\o.data=.seq xs n/\aB φ F h vs xs.toList:=by rw[VR]
@[elab_as_elim] theorem aM{P:Value->Prop}{i:Int}{x:Value}(r:VR φ F h (.int i) x)(k:∀t,P (.int i t)):P x:=(gq.mp r).elim λt e=>e▸k t
@[elab_as_elim] theorem aE{P:Value->Prop}{b:List Nat}{x:Value}(r:VR φ F h (.str b) x)(k:∀t,P (.str (toS b) t)):P x:=(ic.mp r).elim λt e=>e▸k t
@[elab_as_elim] theorem gI{P:Value->Prop}{b:Bool}{x:Value}(r:VR φ F h (.bool b) x)(k:P (.bool b)):P x:=eG.mp r▸k
@[elab_as_elim] theorem iS{P:Value->Prop}{i:Nat}{x:Value}(r:VR φ F h (.ref i) x)(k:∀p,φ[i]?=some p->P (.ref p.1)):P x:=(dk.mp r).elim λp e=>e.2▸k p e.1
theorem VR.i{i:Int}{t:Tok}:VR φ F h (.int i) (.int i t):=gq.mpr ⟨t,rfl⟩
theorem VR.b{b:Bool}:VR φ F h (.bool b) (.bool b):=eG.mpr rfl
theorem VR.st{b:List Nat}{t:Tok}:VR φ F h (.str b) (.str (toS b) t):=ic.mpr ⟨t,rfl⟩
theorem VR.j4{b:List Nat}{x:Str}{t:Tok}(e:x=toS b):VR φ F h (.str b) (.str x t):=ic.mpr ⟨t,e▸rfl⟩
theorem VR.n:VR φ F h .none .none:=dj.mpr rfl
theorem kG{a b:Bool}(h:band a b=true):a=true:=by cases a;cases h;rfl
theorem nF{a b:Bool}(h:band a b=true):b=true:=by cases a;cases h;exact h
theorem eH{a:Int}(h:b6 a=true):a.natAbs<1000000000000000001:=by
 unfold b6 at h
 cases a with
 |ofNat n=>exact Nat.lt_succ_of_lt (Nat.le_of_ble_eq_true h)
 |negSucc n=>exact Nat.succ_lt_succ (Nat.le_of_ble_eq_true h)
theorem bu{n:Nat}(h:small n=true):n<1000000:=by
 exact Nat.le_of_ble_eq_true h
theorem q6{a b:Int}(h:b6 a=true):IntMulOk a b:=by
 have:=eH h;exact IntMulOk.of_left (intBits_le_64 (by walk_at "om") (by walk_at "om"))
theorem cV{a b:Nat}(h:Nat.blt a b=true):a<b:=Nat.le_of_ble_eq_true h
theorem bc(s:List Nat):(toS s).length=s.length:=by simp[toS,Str.length]
theorem tf(s t:List Nat):toS s++toS t=toS (s++t):=by
 apply Str.ext';rw[Str.cps_append];simp[toS]
theorem th{s t:List Nat}(h:toS s=toS t):s=t:=by
 have:=congrArg Str.cps h;simpa[toS] using this
theorem ti(s t:List Nat):(toS s==toS t)=(s==t):=by
 rw[Bool.eq_iff_iff];simp only[beq_iff_eq];exact⟨th,λe=>e▸rfl⟩
theorem aa.int{i j:Int}{t:Sem Value}(e:i=j)(I:Inv B φ F σ s.heap)(h:∀Q E,Q (.int i s.toks) {s with toks:=s.toks+1}->wpAny (model B.prog B.w) A t Q E s):aa B A F X φ s (.ok (.int j) σ) t (RV F):=
 aa.prim I λQ E q=>h Q E (q _ _ (λ_ _ e=>e) rfl rfl (e▸VR.i))
theorem aa.Qk{i j:Bool}{t:Sem Value}(e:i=j)(I:Inv B φ F σ s.heap)(h:∀Q E,Q (.bool i) s->wpAny (model B.prog B.w) A t Q E s):aa B A F X φ s (.ok (.bool j) σ) t (RV F):=
 aa.prim I λQ E q=>h Q E (q _ _ (λ_ _ e=>e) rfl rfl (e▸VR.b))
theorem aa.FA{x:Str}{j:List Nat}{t:Sem Value}(e:x=toS j)(I:Inv B φ F σ s.heap)(h:∀Q E,(∀t' k,Q (.str x t') {s with toks:=k})->wpAny (model B.prog B.w) A t Q E s):aa B A F X φ s (.ok (.str j) σ) t (RV F):=
 aa.prim I λQ E q=>h Q E λt' k=>q _ _ (λ_ _ e=>e) rfl rfl (VR.j4 e)
theorem FC{h:Heap}{b:Addr}{o:Obj}(e:h.get? b=some o):b≠h.objs.size:=Nat.ne_of_lt (Heap.lt_size e)
theorem bz(h:Heap):h.get? h.objs.size=none:=by
 cases q:h.get? h.objs.size with
 |none=>rfl
 |some o=>exact absurd (Heap.lt_size q) (Nat.lt_irrefl _)
theorem pz(σ:LH)(o:LO):alloc σ o=.ok (.ref σ.length) (σ++[o]):=by unfold alloc;rw[len_eq,bb]
theorem aa.pA{vs:List LV}{xs:Array Value}{t:Sem Value}(I:Inv B φ F σ s.heap)(r:aB φ F s.heap vs xs.toList)
  (h:∀Q E,(∀k n,Q (.ref s.heap.objs.size) {s with heap:=s.heap.push (lobj xs n),toks:=k})->wpAny (model B.prog B.w) A t Q E s):aa B A F X φ s (alloc σ (.list vs)) t (RV F):=λ_=>by
 rw[pz];refine h _ _ λk n=>⟨φ++[(s.heap.objs.size,s.heap.objs.size)],?_,?_,?_⟩
 ·exact Le.grow (λb o e=>Heap.get?_push_of_some _ e) (bz _) (bz _) rfl rfl
 ·exact I.newList (λb o e=>Heap.get?_push_of_some _ e) (bz _) (Heap.get?_push_size _ rfl) r
 ·exact dk.mpr ⟨(s.heap.objs.size,s.heap.objs.size),by rw[←I.len];simp,rfl⟩
theorem aj{v:LV}{x:Value}{vs:List LV}(I:Inv B φ F σ h)(r:VR φ F h v x)(e:listOf? v σ=some vs):∃a xs,x=.ref a/\h.IsList a xs/\aB φ F h vs xs.toList:=by
 unfold listOf? at e
 cases v with
 |ag ws=>
  injection e with e;subst e
  obtain⟨_,a,o,xs,n,rfl,ha,_,_,hc,hd,rs⟩:=nE.mp r;exact⟨a,xs,rfl,⟨o,ha,hc,n,hd⟩,rs⟩
 |ref i=>
  change cO (bf σ i) (bC none some) none=some vs at e;rw[aT] at e;cases hs:σ[i]?with
  |none=>rw[hs] at e;cases e
  |some o=>
   rw[hs] at e
   cases o with
   |inst c fs=>cases e
   |list ws=>
    injection e with e;subst e
    obtain⟨p,hp,rfl⟩:=dk.mp r;have ro:=I.ok i _ p hs hp;rw[OR] at ro;obtain⟨_,xs,n,ho,rs⟩:=ro;exact⟨p.1,xs,rfl,⟨_,ho,rfl,n,rfl⟩,rs⟩
 |_=>cases e
theorem q7{i:Nat}{x:Value}{vs:List LV}(I:Inv B φ F σ h)(r:VR φ F h (.ref i) x)(e:listOf? (.ref i) σ=some vs):∃p xs n,σ[i]?=some (.list vs)/\φ[i]?=some p/\x=.ref p.1/\h.get? p.1=some (lobj xs n)/\aB φ F h vs xs.toList:=by
 change cO (bf σ i) (bC none some) none=some vs at e;rw[aT] at e;cases hs:σ[i]?with
 |none=>rw[hs] at e;cases e
 |some o=>
  rw[hs] at e
  cases o with
  |inst c fs=>cases e
  |list ws=>
   injection e with e;subst e
   obtain⟨p,hp,rfl⟩:=dk.mp r;have ro:=I.ok i _ p hs hp;rw[OR] at ro;obtain⟨_,xs,n,ho,rs⟩:=ro;exact⟨p,xs,n,rfl,hp,rfl,ho,rs⟩
theorem pB{v:LV}{x:Value}{vs:List LV}(I:Inv B φ F σ h)(r:VR φ F h v x)(e:itemsOf v σ=some vs):
  ∃a xs,x=.ref a/\(h.IsList a xs∨∃o n,h.get? a=some o/\o.cls=.type "tuple"/\o.data=.seq xs n)/\aB φ F h vs xs.toList:=by
 cases v with
 |tup ws=>
  injection e with e;subst e
  obtain⟨a,o,xs,n,rfl,ha,_,_,hc,hd,rs⟩:=gr.mp r;exact⟨a,xs,rfl,.inr ⟨o,n,ha,hc,hd⟩,rs⟩
 |ag ws=>
  obtain⟨a,xs,h1,h2,h3⟩:=aj I r (show listOf? (.ag ws) σ=some vs from e);exact⟨a,xs,h1,.inl h2,h3⟩
 |ref i=>
  obtain⟨a,xs,h1,h2,h3⟩:=aj I r (show listOf? (.ref i) σ=some vs from e);exact⟨a,xs,h1,.inl h2,h3⟩
 |_=>cases e
theorem Bk{f:Int->Int->Out LV}{a b:LV}(h:dz f a b≠.bad):∃x y,a=.int x/\b=.int y/\f x y≠.bad:=by
 cases a with
 |int x=>
  cases b with
  |int y=>exact⟨x,y,rfl,rfl,h⟩
  |_=>exact absurd rfl h
 |_=>exact absurd rfl h
theorem Bl{f:Nat->Nat->Out LV}{a b:Int}(h:ib f a b≠.bad):∃x y:Nat,a=x/\b=y/\f x y≠.bad:=by
 cases a with
 |ofNat x=>
  cases b with
  |ofNat y=>exact⟨x,y,rfl,rfl,h⟩
  |negSucc y=>exact absurd rfl h
 |negSucc x=>exact absurd rfl h
theorem aa.ite{α β:Type}{b:Bool}{x:Out α}{t:Sem β}{R:α->aS->Heap->β->Prop}(h:b=true->aa B A F X φ s x t R):aa B A F X φ s (bN b x) t R:=by
 cases b with
 |false=>exact aa.bad
 |true=>exact h rfl
theorem aa.opt{α β γ:Type}{o:Option γ}{f:γ->Out α}{t:Sem β}{R:α->aS->Heap->β->Prop}(h:∀c,o=some c->aa B A F X φ s (f c) t R):aa B A F X φ s (oN o f) t R:=by
 cases o with
 |none=>exact aa.bad
 |some c=>exact h c rfl
variable{a b:LV}{x y:Value}
theorem aa.ints{R:LV->aS->Heap->Value->Prop}{f:Int->Int->Out LV}{t:Value->Value->Sem Value}(ra:VR φ F s.heap a x)(rb:VR φ F s.heap b y)(h:∀i j u v,aa B A F X φ s (f i j) (t (.int i u) (.int j v)) R):aa B A F X φ s (dz f a b) (t x y) R:=aa.nb λhb=>
 match Bk hb with
 |⟨i,j,e1,e2,_⟩=>by
  subst e1 e2;exact aM (P:=λx=>aa B A F X φ s _ (t x y) R) ra λu=>aM (P:=λy=>aa B A F X φ s _ (t (.int i u) y) R) rb λv=>h i j u v
theorem aa.nats{R:LV->aS->Heap->Value->Prop}{f:Nat->Nat->Out LV}{t:Value->Value->Sem Value}(ra:VR φ F s.heap a x)(rb:VR φ F s.heap b y)(h:∀(m n:Nat) u v,aa B A F X φ s (f m n) (t (.int m u) (.int n v)) R):aa B A F X φ s (dz (ib f) a b) (t x y) R:=
 aa.ints ra rb λi j u v=>aa.nb λhb=>match Bl hb with
 |⟨m,n,e1,e2,_⟩=>by
  subst e1 e2;exact h m n u v
theorem Bn(I:Inv B φ F σ s.heap)(ra:VR φ F s.heap a x)(rb:VR φ F s.heap b y):aa B A F X φ s (IS a b σ) (binaryOp .Add x y) (RV F):=by
 have lists:aa B A F X φ s (E2 a b σ) (binaryOp .Add x y) (RV F):=aa.opt λxs e1=>aa.opt λys e2=>aa.ite λhs=>by
  obtain⟨l,vs,rfl,hl,rl⟩:=aj I ra e1;obtain⟨m,ws,rfl,hm,rm⟩:=aj I rb e2;rw[bb];refine aa.pA (xs:=vs++ws) I (by rw[Array.toList_append];exact rl.append rm) λQ E q=>?_;obtain⟨⟨cls,dd,data,sl⟩,ho,hc,n,hd⟩:=id hl;obtain⟨⟨RY,Bo,data2,xf⟩,FD,xg,n2,hd2⟩:=id hm;simp only at hc hd xg hd2;subst hc hd xg hd2
  have nu:vs.size+ws.size<=sizeLine:=by
   have:=bu hs;rw[len_eq,len_eq,←rl.length,←rm.length] at this;simp only[Array.length_toList] at this;have h':vs.size+ws.size<1000000:=this;unfold sizeLine;walk_at "om"
  exact concat_meets ⟨_,ho,rfl⟩ ⟨_,FD,rfl⟩ noFill_list_add seq_list_add PySem.F.slot_list_add PySem.F.entry_list_add (PySem.F.args_list_add_2 _ _) (list_addW l m vs ws n n2 dd Bo sl xf nu) ⟨ho,FD,q _ _⟩
 cases a with
 |int i=>
  cases b with
  |int j=>
   refine aM ra λt=>?_;refine aM rb λu=>?_;exact aa.int (j7 i j).symm I λQ E q=>add_int q
  |bool p=>
   refine aM ra λt=>?_;refine gI rb ?_;exact aa.ite λ_=>aa.int (i:=i+if p=true then(1:Int) else 0) (by cases p;exact Int.add_zero i;exact(j7 i 1).symm) I λQ E q=>PySem.add_int_bool q
  |_=>exact aa.bad
 |str u=>
  cases b with
  |str v=>
   refine aE ra λt=>?_;refine aE rb λt'=>?_;refine aa.ite λhs=>?_;rw[bb];have:=bu hs;rw[len_eq,len_eq] at this
   exact aa.FA (tf u v) I λQ E q=>SB.add q (by
    have h':u.length+v.length<1000000:=this
    rw[bc,bc];unfold sizeLine;walk_at "om")
  |_=>exact aa.bad
 |ag _=>exact lists
 |ref _=>exact lists
 |_=>exact aa.bad
theorem Bp(I:Inv B φ F σ s.heap)(ra:VR φ F s.heap a x)(rb:VR φ F s.heap b y):aa B A F X φ s (AX a b σ) (binaryOp .Sub x y) (RV F):=by
 refine aa.ints (t:=binaryOp .Sub) ra rb λi j t u=>?_;exact aa.int rfl I λQ E q=>sub_int q
theorem tl{α:Type}(vs:List α)(n:Nat):AW vs n=(List.replicate n vs).flatten:=by
 induction n with
 |zero=>rfl
 |succ n ih=>show app vs (AW vs n)=_;rw[bb,ih,List.replicate_succ,List.flatten_cons]
theorem uK(k:Nat)(xs acc:Array Nat):((List.replicate k xs).foldl (·++·) acc)=acc++(List.replicate k xs.toList).flatten.toArray:=by
 induction k generalizing acc with
 |zero=>simp
 |succ k ih=>rw[List.replicate_succ,List.foldl_cons,ih,List.replicate_succ,List.flatten_cons];apply Array.ext';simp
theorem q8(k:Nat)(xs acc:Array Value):((List.replicate k xs).foldl (λx1 x2=>x1++x2) acc)=acc++(List.replicate k xs.toList).flatten.toArray:=by
 induction k generalizing acc with
 |zero=>simp
 |succ k ih=>rw[List.replicate_succ,List.foldl_cons,ih,List.replicate_succ,List.flatten_cons];apply Array.ext';simp
theorem Bq{vs:List LV}{xs:List Value}(r:aB φ F h vs xs)(n:Nat):aB φ F h (List.replicate n vs).flatten (List.replicate n xs).flatten:=by
 induction n with
 |zero=>exact aB.a8.mpr rfl
 |succ n ih=>rw[List.replicate_succ,List.replicate_succ,List.flatten_cons,List.flatten_cons];exact r.append ih
theorem nG(i:Int):kl i=i.toNat:=by cases i<;>rfl
theorem Br(I:Inv B φ F σ s.heap)(ra:VR φ F s.heap a x)(rb:VR φ F s.heap b y):aa B A F X φ s (IT a b σ) (binaryOp .Mult x y) (RV F):=by
 cases a with
 |int i=>
  cases b with
  |int j=>
   refine aM ra λt=>?_;refine aM rb λu=>?_;refine aa.ite λh=>?_;rw[bV,Bool.and_eq_true] at h;exact aa.int rfl I λQ E q=>mul_int q (q6 h.1)
  |_=>exact aa.bad
 |str u=>
  cases b with
  |int j=>
   refine aE ra λt=>?_;refine aM rb λt'=>?_;refine aa.ite λhs=>?_;rw[bV,Bool.and_eq_true] at hs;have h1:=eH hs.1;have h2:=bu hs.2;rw[len_eq,nG] at h2;have qY:u.length*j.toNat<1000000:=h2;rw[tl,nG];refine aa.FA (x:=Txt.mul (toS u) j) ?_ I λQ E q=>SB.mul ⟨?_,λhj hn=>?_,λhj hn=>?_⟩ q
   ·unfold Txt.mul;by_cases hj:j<1
    ·rw[if_pos hj];have:j.toNat=0:=by walk_at "om"
     rw[this];rfl
    ·rw[if_neg hj];by_cases hc:(j==1||(toS u).length==0)=true
     ·rw[if_pos hc];simp only[Bool.or_eq_true,beq_iff_eq,bc] at hc
      rcases hc with hc|hc
      ·subst hc;simp
      ·have:u=[]:=List.length_eq_zero_iff.mp hc;subst this;simp
     ·rw[if_neg hc];apply Str.ext'
      refine(?_:(List.replicate j.toNat (toS u).cps).foldl (·++·) #[]=_)
      rw[uK];simp[toS]
   ·simp only[Bool.or_eq_false_iff,decide_eq_false_iff_not];walk_at "om"
   ·rw[bc]
    have Tv:1<=j:=by walk_at "om"
    have e:(j.toNat:Int)=j:=by walk_at "om"
    have h3:((u.length*j.toNat:Nat):Int)<((1000000:Nat):Int):=Int.ofNat_lt.mpr qY;rw[Int.natCast_mul,e] at h3;have:(u.length:Int)*j<1000000:=h3;intro Tw
    have h4:(u.length:Int)<=(2^63-1)/j:=by
     rw[Int.le_ediv_iff_mul_le (by walk_at "om")];walk_at "om"
    walk_at "om"
   ·unfold Builtin.Str.tooLong;rw[bc];exact decide_eq_false (by unfold sizeLine;walk_at "om")
  |_=>exact aa.bad
 |ag _=>exact aa.nb λhb=>absurd (by cases b<;>rfl) hb
 |ref i=>
  cases b with
  |int j=>
   refine aM rb λt'=>?_;refine aa.opt λxs e1=>aa.ite λhs=>?_;rw[bV,Bool.and_eq_true] at hs;obtain⟨p,vs,n,_,_,rfl,ho,rl⟩:=q7 I ra e1;have h1:=eH hs.1;have h2:=bu hs.2;rw[len_eq,nG,←rl.length] at h2
   have qY:vs.size*j.toNat<1000000:=by simpa using h2
   rw[tl,nG]
   refine aa.pA (xs:=List.foldl (λx1 x2=>x1++x2) #[] (List.replicate (if vs.isEmpty=true then 0 else j.toNat) vs)) I ?_ λQ E q=>?_
   ·rw[q8];by_cases he:vs.isEmpty=true
    ·rw[if_pos he]
     have hv:vs=#[]:=by simpa using he
     rw[hv] at rl
     have:xs=[]:=by
      cases xs with
      |nil=>rfl
      |cons _ _=>simp[aB] at rl
     subst this;simp[aB]
    ·rw[if_neg he];simpa using Bq rl j.toNat
   ·exact wpAny_binaryOp_repeat_ref (T:="list") (U:="int") (by decide) ⟨_,ho,rfl⟩ (λs'=>typeIs_int s' j _) noFill_list_mul PySem.F.fills_int_mul PySem.F.slot_int_rmul repeat_list PySem.F.slot_int_index.lookup
     (call_meets PySem.F.slot_int_rmul (typeIs_int s j _) PySem.F.entry_int_rmul (PySem.F.args_int_rmul_2 _ _) (int___rmul___int_list j _ p.1 vs n)
      ⟨ho,rfl,⟨_,ho,rfl⟩,call_meets PySem.F.slot_list_mul ⟨_,ho,rfl⟩ PySem.F.entry_list_mul (PySem.F.args_list_mul_2 _ _)
       (AutoListH.list___mul___list_int_3 p.1 vs n j _ (by simp[Builtin.List.listFitsIndex];walk_at "om") (by walk_at "om") (by simp[Builtin.List.listTooLong,sizeLine];walk_at "om"))
       ⟨ho,q _ _⟩⟩)
  |_=>exact aa.bad
 |_=>exact aa.bad
theorem xh(I:Inv B φ F σ s.heap)(ra:VR φ F s.heap a x)(rb:VR φ F s.heap b y):aa B A F X φ s (sF a b σ) (binaryOp .FloorDiv x y) (RV F):=by
 refine aa.ints (t:=binaryOp .FloorDiv) ra rb λi j t u=>?_;refine aa.ite λh=>?_;have h1:=of_decide_eq_true (fF _ _▸kG h);have:=eH (nF h);exact aa.int rfl I λQ E q=>floordiv_int (by walk_at "om") q (Or.inl (noPylong_of_log2 (Nat.lt_trans ((Nat.log2_lt (k:=60) (by walk_at "om")).mpr (by walk_at "om")) (by decide))))
theorem Bs(I:Inv B φ F σ s.heap)(ra:VR φ F s.heap a x)(rb:VR φ F s.heap b y):aa B A F X φ s (AY a b σ) (binaryOp .Mod x y) (RV F):=by
 refine aa.ints (t:=binaryOp .Mod) ra rb λi j t u=>?_;refine aa.ite λh=>?_;rw[fF,decide_eq_true_eq] at h;exact aa.int rfl I λQ E q=>mod_int' (by walk_at "om") q
theorem Bt(I:Inv B φ F σ s.heap)(ra:VR φ F s.heap a x)(rb:VR φ F s.heap b y):aa B A F X φ s (IU a b σ) (binaryOp .Pow x y) (RV F):=by
 refine aa.nats (t:=binaryOp .Pow) ra rb λm n t u=>?_;refine aa.ite λh=>?_;have e1:=Nat.eq_of_beq_eq_true (kG h);have e2:=Nat.eq_of_beq_eq_true (nF h);subst e1 e2;exact aa.int (i:=(10:Int)^9) rfl I λQ E q=>AutoIntOps.pow_4 (by decide) (by decide) (by decide) (by decide) (by decide) q
theorem Bu(I:Inv B φ F σ s.heap)(ra:VR φ F s.heap a x)(rb:VR φ F s.heap b y):aa B A F X φ s (IV a b σ) (binaryOp .LShift x y) (RV F):=by
 refine aa.nats (t:=binaryOp .LShift) ra rb λm n t u=>?_;refine aa.ite λh=>?_;have e1:=cV (kG h);have e2:=cV (nF h);refine aa.int (i:=(m:Int)*2^(n:Int).toNat) ?_ I λQ E q=>lshift_int_small (by walk_at "om") (by walk_at "om") (by simpa using e1) q;refine(?_:(m:Int)*2^n=((m*2^n:Nat):Int))
 push_cast;rfl
theorem Bv(I:Inv B φ F σ s.heap)(ra:VR φ F s.heap a x)(rb:VR φ F s.heap b y):aa B A F X φ s (AZ a b σ) (binaryOp .RShift x y) (RV F):=by
 refine aa.nats (t:=binaryOp .RShift) ra rb λm n t u=>?_;refine aa.ite λh=>?_;refine aa.int (i:=(m:Int).fdiv (2^(n:Int).toNat)) ?_ I λQ E q=>rshift_int (by walk_at "om") q;refine(?_:(m:Int).fdiv (2^n)=((m/2^n:Nat):Int))
 have:((2:Int)^n)=((2^n:Nat):Int):=by push_cast;rfl
 rw[this,Int.ofNat_fdiv]
theorem Bw(I:Inv B φ F σ s.heap)(ra:VR φ F s.heap a x)(rb:VR φ F s.heap b y):aa B A F X φ s (IW a b σ) (binaryOp .BitAnd x y) (RV F):=by
 refine aa.nats (t:=binaryOp .BitAnd) ra rb λm n t u=>?_;refine aa.int (i:=Builtin.bitAnd (m:Int) (n:Int)) ?_ I λQ E q=>and_int q;unfold Builtin.bitAnd;simp
theorem FE(I:Inv B φ F σ s.heap)(ra:VR φ F s.heap a x)(rb:VR φ F s.heap b y):aa B A F X φ s (PX a b σ) (binaryOp .BitOr x y) (RV F):=by
 refine aa.nats (t:=binaryOp .BitOr) ra rb λm n t u=>?_;refine aa.int (i:=Builtin.bitOr (m:Int) (n:Int)) ?_ I λQ E q=>or_int q
 have e1:(decide ((0:Int)<=Builtin.bitNot (m:Int)))=false:=by unfold Builtin.bitNot;exact decide_eq_false (by walk_at "om")
 have e2:(decide ((0:Int)<=Builtin.bitNot (n:Int)))=false:=by unfold Builtin.bitNot;exact decide_eq_false (by walk_at "om")
 have nn:∀z:Int,Builtin.bitNot (Builtin.bitNot z)=z:=λz=>by unfold Builtin.bitNot;walk_at "om"
 unfold Builtin.bitOr Builtin.bitAnd;rw[e1,e2];simp only[nn];rfl
theorem Bx{o:jo}{op:Operator}(Ka:jL o op=true)(I:Inv B φ F σ s.heap)(ra:VR φ F s.heap a x)(rb:VR φ F s.heap b y):aa B A F X φ s (ay o a b σ) (binaryOp op x y) (RV F):=by
 cases of_decide_eq_true Ka;exact@jo.rec (λo=>aa B A F X φ s (ay o a b σ) (binaryOp (Fs o) x y) (RV F)) (Bn I ra rb) (Bp I ra rb) (Br I ra rb) (xh I ra rb) (Bs I ra rb) (Bt I ra rb) (Bu I ra rb) (Bv I ra rb) (Bw I ra rb) (FE I ra rb) o
end
section
variable{B:Bg}{A:Around}{F X:List Addr}{φ:aS}{σ:LH}{s:Shared}{h:Heap}{a b:LV}{x y:Value}
theorem dS{α:Type}{c:α}{P:Prop}(e:none=some c):P:=nomatch e
theorem cQ{α β:Type}{o:Option α}{f:α->Option β}{c:β}{P:Prop}(e:cO o f none=some c)(k:∀v,o=some v->f v=some c->P):P:=by
 cases o with
 |none=>exact dS e
 |some v=>exact k v rfl e
theorem xi{α:Type}{f:Bool->Option α}{c:α}{Q:LV->Prop}(e:mY none f a=some c)(k:∀i,f i=some c->Q (.bool i)):Q a:=by
 cases a<;>first|exact k _ e|exact dS e
theorem j9{α:Type}{f:Int->Option α}{c:α}{Q:LV->Prop}(e:ct none f a=some c)(k:∀i,f i=some c->Q (.int i)):Q a:=by
 cases a<;>first|exact k _ e|exact dS e
theorem tm{α:Type}{f:List Nat->Option α}{c:α}{Q:LV->Prop}(e:cG none f a=some c)(k:∀i,f i=some c->Q (.str i)):Q a:=by
 cases a<;>first|exact k _ e|exact dS e
theorem tq{R:Value->Value->Bool->Prop}(hb:∀p q,R (.bool p) (.bool q) (p==q))(hi:∀i t j u,R (.int i t) (.int j u) (i==j))(hs:∀i t j u,R (.str i t) (.str j u) (i==j)){c:Bool}(ra:VR φ F h a x)(rb:VR φ F h b y)(e:eqv a b=some c):R x y c:=by
 cases a with
 |bool p=>exact xi (Q:=λb=>VR φ F h b y->R x y c) e (λq e rb=>gI ra (gI rb (((A5 p q).symm.trans (Option.some.inj e))▸hb p q))) rb
 |int i=>exact j9 (Q:=λb=>VR φ F h b y->R x y c) e (λj e rb=>aM ra λt=>aM rb λu=>((nj i j).symm.trans (Option.some.inj e))▸hi i t j u) rb
 |str i=>exact tm (Q:=λb=>VR φ F h b y->R x y c) e (λj e rb=>aE ra λt=>aE rb λu=>(((ti i j).trans (seq_eq i j).symm).trans (Option.some.inj e))▸hs (toS i) t (toS j) u) rb
 |_=>exact dS e
theorem FF(A':Around){c:Bool}(ra:VR φ F h a x)(rb:VR φ F h b y)(e:eqv a b=some c):SeqAt.EqAt A' s x y c:=tq .bool_bool .int_int .str_str ra rb e
theorem xj(l m:List LV):o6 l m=(l.length==m.length):=by
 induction l generalizing m with
 |nil=>cases m<;>rfl
 |cons v l ih=>
  cases m with
  |nil=>rfl
  |cons w m=>
   refine(?_:o6 l m=_);rw[ih];simp
theorem By(A':Around):∀{l m:List LV}{xs ys:List Value}{c:Bool},aB φ F h l xs->aB φ F h m ys->wz l m=some c->l.length=m.length->
  ∃e:Nat->Bool,(∀j(h1:j<xs.length)(h2:j<ys.length),SeqAt.EqAt A' s xs[j] ys[j] (e j))/\(List.range xs.length).all e=c:=by
 intro l
 induction l with
 |nil=>
  intro m xs ys c rl rm e hl
  cases m with
  |cons _ _=>simp at hl
  |nil=>
   injection e with e;subst e
   rw[aB.a8.mp rl];exact⟨λ_=>true,λj h1 _=>by simp at h1,rfl⟩
 |cons v l ih=>
  intro m xs ys c rl rm e hl
  cases m with
  |nil=>simp at hl
  |cons w m=>
   obtain⟨x,j8,rfl,rx,rl⟩:=aB.aH.mp rl;obtain⟨y,Tx,rfl,ry,rm⟩:=aB.aH.mp rm;refine cQ e λt h1 e=>cQ e λr h2 e=>?_;obtain⟨f,hf,ha⟩:=ih rl rm h2 (Nat.succ.inj hl);refine⟨λj=>Nat.rec t (λk _=>f k) j,λj=>?_,?_⟩
   ·cases j with
    |zero=>intro _ _;exact FF A' rx ry h1
    |succ k=>intro a b;exact hf k (Nat.lt_of_succ_lt_succ a) (Nat.lt_of_succ_lt_succ b)
   ·rw[List.length_cons,List.range_succ_eq_map,List.all_cons,List.all_map];refine(?_:(t&&(List.range j8.length).all f)=c)
    rw[ha,←Option.some.inj e];cases t<;>rfl
theorem q9{c:Bool}(hu:A.units+1<cLine)(I:Inv B φ F σ s.heap)(ra:VR φ F s.heap a x)(rb:VR φ F s.heap b y)(e:sE a b σ=some c):SeqAt.RcAt A s x y c/\SeqAt.RcNeAt A s x y (!c):=by
 refine cQ e λl h1 e=>cQ e λm h2 e=>?_
 ··rw[dI,xj] at e;obtain⟨p,xs,rfl,hl,rl⟩:=aj I ra h1;obtain⟨q,ys,rfl,hm,rm⟩:=aj I rb h2;have el:=rl.length;have em:=rm.length;by_cases hlen:l.length=m.length
   ·rw[if_pos (by simpa using hlen)] at e;obtain⟨f,hf,ha⟩:=By (s:=s) A.in1 rl rm e hlen
    have nu:xs.size=ys.size:=by simp only[Array.length_toList] at el em;exact Nat.le_antisymm (Jl [xs.size,l.length,m.length,ys.size] 1 (.c 1 J0 J1 (.c 1 J2 J3 (.c 1 J1 J2 .z))) J0 J3 Jt (Jf el) (Jg em) (Jf hlen)) (Jl [l.length,xs.size,ys.size,m.length] 1 (.c 1 J0 J1 (.c 1 J2 J3 (.c 1 J3 J0 .z))) J2 J1 Jt (Jg el) (Jf em) (Jg hlen))
    have DV:∀j(h1:j<xs.size)(h2:j<ys.size),SeqAt.EqAt A.in1 s xs[j] ys[j] (f j):=λj h1 h2=>by
     have:=hf j (by simpa using h1) (by simpa using h2);simpa using this
    have Mc:(List.range xs.size).all f=c:=by simpa using ha
    have r1:=SeqAt.RcAt.lists hl hm nu (by exact Nat.lt_of_succ_lt hu) DV;have r2:=SeqAt.RcNeAt.lists hl hm nu (by exact Nat.lt_of_succ_lt hu) DV;rw[Mc] at r1 r2;exact⟨r1,r2⟩
   ·rw[if_neg (by simpa using hlen)] at e
    injection e with e;subst e
    have nu:(xs.size !=ys.size)=true:=by
     simp only[Array.length_toList] at el em;simp only[bne_iff_ne,ne_eq];walk_at "om"
    exact⟨SeqAt.RcAt.lists_lengths hl hm nu (by exact Nat.lt_of_succ_lt hu),SeqAt.RcNeAt.lists_lengths hl hm nu (by exact Nat.lt_of_succ_lt hu)⟩
theorem tr{c:Bool}(hu:A.units+1<cLine)(I:Inv B φ F σ s.heap)(ra:VR φ F s.heap a x)(rb:VR φ F s.heap b y)(e:E0 a b σ=some c):SeqAt.RcAt A s x y c/\SeqAt.RcNeAt A s x y (!c):=by
 have lists:mZ a b σ=some c->SeqAt.RcAt A s x y c/\SeqAt.RcNeAt A s x y (!c):=λe=>by
  cases b with
  |str j=>
   refine cQ e λl h1 e=>?_;obtain⟨p,xs,rfl,hl,rl⟩:=aj I ra h1;exact aE rb λu=>Option.some.inj e▸⟨SeqAt.RcAt.list_str _ u hl (Nat.lt_of_succ_lt hu),SeqAt.RcNeAt.list_str _ u hl (Nat.lt_of_succ_lt hu)⟩
  |_=>exact q9 hu I ra rb e
 have pl:eqv a b=some c->SeqAt.RcAt A s x y c/\SeqAt.RcNeAt A s x y (!c):=tq (R:=λx y c=>SeqAt.RcAt A s x y c/\SeqAt.RcNeAt A s x y (!c)) (λp q=>⟨.bool_bool p q,.bool_bool p q⟩) (λi t j u=>⟨.int_int i t j u,.int_int i t j u⟩) (λi t j u=>⟨.str_str i t j u,.str_str i t j u⟩) ra rb
 cases a with
 |bool p=>exact pl e
 |int i=>exact pl e
 |str i=>
  have ls:cO (listOf? b σ) (λ_=>some false) none=some c->SeqAt.RcAt A s x y c/\SeqAt.RcNeAt A s x y (!c):=λe=>by
   refine cQ e λl h1 e=>?_;obtain⟨p,xs,rfl,hl,rl⟩:=aj I rb h1;exact aE ra λu=>Option.some.inj e▸⟨SeqAt.RcAt.str_list _ u hl (Nat.lt_of_succ_lt hu),SeqAt.RcNeAt.str_list _ u hl (Nat.lt_of_succ_lt hu)⟩
  cases b with
  |str j=>exact pl e
  |_=>exact ls e
 |ag _=>exact lists e
 |ref _=>exact lists e
 |_=>exact dS e
theorem xl(A':Around){w:Value}{m:Value->Bool}{f:List LV->Option Bool}(h0:f []=some false)(hs:∀v l c,f (v::l)=some c->∃d r,f l=some r/\(d||r)=c/\∀x,VR φ F h v x->SeqAt.EqAt A' s x w d/\m x=d):
  ∀{l:List LV}{xs:List Value}{c:Bool},aB φ F h l xs->f l=some c->(∀v,v∈xs->SeqAt.EqAt A' s v w (m v))/\xs.any m=c:=by
 intro l
 induction l with
 |nil=>intro xs c r e;rw[aB.a8.mp r];exact⟨λ_ h=>(nomatch h),Option.some.inj (h0.symm.trans e)⟩
 |cons v l ih=>
  intro xs c r e;obtain⟨x,j8,rfl,rx,rl⟩:=aB.aH.mp r;obtain⟨d,r,h2,hc,hv⟩:=hs v l c e;obtain⟨f1,f2⟩:=ih rl h2;have g:=hv x rx;refine⟨λv hv=>(List.mem_cons.mp hv).elim (λq=>q▸g.2.symm▸g.1) (f1 v),?_⟩;rw[List.any_cons,f2,g.2];exact hc
noncomputable def Bz(i:Int):Value->Bool:=λv=>match v with|.int j _=>j==i|_=>false
noncomputable def BA(i:List Nat):Value->Bool:=λv=>match v with|.str j _=>j==toS i|_=>false
theorem uL(A':Around){i:Int}{t:Tok}{l:List LV}{xs:List Value}{c:Bool}:aB φ F h l xs->qF i l=some c->(∀v,v∈xs->SeqAt.EqAt A' s v (.int i t) (Bz i v))/\xs.any (Bz i)=c:=
 xl A' rfl λv l c e=>by
 refine j9 (Q:=λv=>∃d r,qF i l=some r/\(d||r)=c/\∀x,VR φ F h v x->SeqAt.EqAt A' s x (.int i t) d/\Bz i x=d) e λj e=>cQ e λr h2 e=>?_;exact⟨j==i,r,h2,by rw[←Option.some.inj e,nj];cases (j==i)<;>rfl,λx rx=>aM rx λu=>⟨.int_int j u i t,rfl⟩⟩
theorem uM(A':Around){i:List Nat}{t:Tok}{l:List LV}{xs:List Value}{c:Bool}:aB φ F h l xs->qG i l=some c->(∀v,v∈xs->SeqAt.EqAt A' s v (.str (toS i) t) (BA i v))/\xs.any (BA i)=c:=
 xl A' rfl λv l c e=>by
 refine tm (Q:=λv=>∃d r,qG i l=some r/\(d||r)=c/\∀x,VR φ F h v x->SeqAt.EqAt A' s x (.str (toS i) t) d/\BA i x=d) e λj e=>cQ e λr h2 e=>?_;exact⟨toS j==toS i,r,h2,by rw[←Option.some.inj e,seq_eq,ti];cases (j==i)<;>rfl,λx rx=>aE rx λu=>⟨.str_str _ u _ t,rfl⟩⟩
theorem nH(c:Nat)(u:List Nat):Txt.contains (toS u) (toS [c])=ia c u:=by
 unfold Txt.contains
 refine(?_:(!(Builtin.Str.occurrences (toS u) ⟨#[c]⟩ 0 (toS u).length 1).isEmpty)=_)
 rw[StrLaws.found_one,sN];rw[Bool.eq_iff_iff,decide_eq_true_eq];simp[toS]
theorem tu{c:Bool}(I:Inv B φ F σ s.heap)(ra:VR φ F s.heap a x)(rb:VR φ F s.heap b y)(e:E1 a b σ=some c):
  (∀(Q:Value->Shared->Prop) E,Q (.bool c) s->wpAny (model B.prog B.w) A (compareOp .In x y) Q E s)/\(∀(Q:Value->Shared->Prop) E,Q (.bool (!c)) s->wpAny (model B.prog B.w) A (compareOp .NotIn x y) Q E s):=by
 cases a with
 |int i=>
  refine aM ra λt=>cQ e λl h1 e=>?_;obtain⟨p,xs,rfl,hl,rl⟩:=aj I rb h1;obtain⟨f1,f2⟩:=uL (s:=s) (t:=t) A.in1 rl e;have Kb:xs.any (Bz i)=c:=Array.any_toList.symm.trans f2;exact⟨λQ E q=>SeqAt.in_listAt _ hl (λv hv=>f1 v (Array.mem_toList_iff.mpr hv)) (Kb.symm▸q),λQ E q=>SeqAt.notIn_listAt _ hl (λv hv=>f1 v (Array.mem_toList_iff.mpr hv)) (Kb.symm▸q)⟩
 |str i=>
  refine aE ra λt=>?_
  cases b with
  |str u=>
   refine aE rb λt'=>?_
   cases i with
   |nil=>exact dS e
   |cons k r=>
    cases r with
    |cons _ _=>exact dS e
    |nil=>
     have e':=(nH k u).trans (Option.some.inj e);exact⟨λQ E q=>SB.contains (e'.symm▸q),λQ E q=>SB.notContains (e'.symm▸q)⟩
  |tup vs=>
   obtain⟨p,o,xs,n,rfl,ho,_,_,hc,hd,rl⟩:=gr.mp rb;obtain⟨f1,f2⟩:=uM (s:=s) (t:=t) A.in1 rl e;have Kb:xs.any (BA i)=c:=Array.any_toList.symm.trans f2;have hl:s.heap.IsTuple p xs:=⟨o,ho,hc,n,hd⟩;exact⟨λQ E q=>SeqAt.in_tupleAt _ hl (λv hv=>f1 v (Array.mem_toList_iff.mpr hv)) (Kb.symm▸q),λQ E q=>SeqAt.notIn_tupleAt _ hl (λv hv=>f1 v (Array.mem_toList_iff.mpr hv)) (Kb.symm▸q)⟩
  |_=>exact dS e
 |_=>exact dS e
theorem FG{f:Int->Int->Bool}{c:Bool}{Q:LV->LV->Prop}(e:uG f a b=some c)(k:∀i j,f i j=c->Q (.int i) (.int j)):Q a b:=
 j9 (Q:=λa=>Q a b) e λi e=>j9 (Q:=Q (.int i)) e λj e=>k i j (Option.some.inj e)
theorem nJ{f:Int->Int->Bool}{c:Bool}{Q:Value->Value->Prop}(ra:VR φ F h a x)(rb:VR φ F h b y)(e:uG f a b=some c)(k:∀i t j u,f i j=c->Q (.int i t) (.int j u)):Q x y:=
 FG (Q:=λa b=>VR φ F h a x->VR φ F h b y->Q x y) e (λi j e ra rb=>aM ra λt=>aM rb λu=>k i t j u e) ra rb
theorem xm{t c:Bool}{Q:LV->Prop}(e:eQ none (some t) (λ_=>none) (λ_=>none) (λ_=>none) (λ_=>none) (λ_=>none) (λ_=>none) b=some c)(k:t=c->Q .none):Q b:=by
 cases b<;>first|exact k (Option.some.inj e)|exact dS e
theorem ml{c:Bool}(ra:VR φ F s.heap a x)(rb:VR φ F s.heap b y)(e:isNone a b=some c):y=.none/\(x==.none)=c:=by
 cases a with
 |none=>exact xm (Q:=λb=>VR φ F s.heap b y->y=.none/\(x==.none)=c) e (λe rb=>⟨dj.mp rb,(congrArg (·==Value.none) (dj.mp ra)).trans e⟩) rb
 |int i=>exact xm (Q:=λb=>VR φ F s.heap b y->y=.none/\(x==.none)=c) e (λe rb=>aM ra λt=>⟨dj.mp rb,e⟩) rb
 |str i=>exact xm (Q:=λb=>VR φ F s.heap b y->y=.none/\(x==.none)=c) e (λe rb=>aE ra λt=>⟨dj.mp rb,e⟩) rb
 |_=>exact dS e
theorem ig{o:Option Bool}{c:Bool}(e:jv o=some c):o=some (!c):=by
 cases o with
 |none=>cases e
 |some b=>injection e with e;rw[ni] at e;subst e;simp
theorem ij{o:jY}{op:CmpOp}(Ka:kE o op=true)(hu:A.units+1<cLine){c:Bool}(I:Inv B φ F σ s.heap)(ra:VR φ F s.heap a x)(rb:VR φ F s.heap b y)(e:ao o a b σ=some c){Q:Value->Shared->Prop}{E:Value->Shared->Prop}(q:Q (.bool c) s):
  wpAny (model B.prog B.w) A (compareOp op x y) Q E s:=by
 obtain rfl:=of_decide_eq_true Ka;cases o
 ·exact(tr hu I ra rb e).1 _ _ _ _ q
 ·exact(tr hu I ra rb (ig e)).2 _ _ _ _ ((Bool.not_not c).symm▸q)
 ·exact nJ (Q:=λx y=>wpAny (model B.prog B.w) A (compareOp .Lt x y) Q E s) ra rb e λi t j u e=>lt_int ((e.symm.trans (fF i j))▸q)
 ·exact nJ (Q:=λx y=>wpAny (model B.prog B.w) A (compareOp .LtE x y) Q E s) ra rb e λi t j u e=>le_int ((e.symm.trans (wR i j))▸q)
 ·exact nJ (Q:=λx y=>wpAny (model B.prog B.w) A (compareOp .Gt x y) Q E s) ra rb e λi t j u e=>gt_int ((e.symm.trans (fF j i))▸q)
 ·exact nJ (Q:=λx y=>wpAny (model B.prog B.w) A (compareOp .GtE x y) Q E s) ra rb e λi t j u e=>ge_int ((e.symm.trans (wR j i))▸q)
 ·exact(tu I ra rb e).1 _ _ q
 ·exact(tu (A:=A) I ra rb (ig e)).2 _ _ ((Bool.not_not c).symm▸q)
 ·obtain⟨rfl,e⟩:=ml ra rb e;exact is_none_gen (e.symm▸q)
 ·obtain⟨rfl,e⟩:=ml ra rb (ig e);exact isnot_none_gen (by rw[e,Bool.not_not];exact q)
theorem iT{c:Bool}(ra:VR φ F s.heap a x)(e:truth a=some c){Q:Bool->Shared->Prop}{E:Value->Shared->Prop}(q:Q c s):wpAny (model B.prog B.w) A (truthy x) Q E s:=by
 cases a with
 |none=>injection e with e;subst e;rw[dj.mp ra];exact wpAny_pure q
 |bool b=>injection e with e;subst e;rw[eG.mp ra];exact wpAny_truthy_bool q
 |int i=>
  injection e with e;subst e
  refine aM ra λt=>?_;refine truthy_int ?_;rw[ni,nj] at q;exact q
 |_=>cases e
end
set_option tactic.hygienic true in
theorem nK{k:Int}{n j:Nat}(e:idx k n=some j):seqIndex? k n=some j/\j<n:=by
 unfold idx at e
 cases k with
 |ofNat k=>
  change cB (Nat.blt k n) (some k) none=some j at e;rw[dI] at e
  split at e
  ·rename_i h;have:=cV h
   injection e with e;subst e
   exact⟨seqIndex_of (k:=(k:Int)) (by walk_at "om") (by walk_at "om"),this⟩
  ·cases e
 |negSucc k=>
  change cB (Nat.blt k n) (some (n-(k+1))) none=some j at e;rw[dI] at e
  split at e
  ·rename_i h;have:=cV h
   injection e with e;subst e
   refine⟨?_,by exact Jl [_,k,n] 1 (.c 1 (.a J0 (.p J1 1)) J2 .z) (.p J0 1) J2 Jt (Jf (Nat.sub_add_cancel (Jl [k,n] 1 (.c 1 (.p J0 1) J1 .z) (.p J0 1) J1 Jt this)))⟩;rw[seqIndex_neg (by walk_at "om") (by walk_at "om")]
   congr 1;walk_at "om"
  ·cases e
theorem gu{α:Type}(xs:List α)(l h:Nat):cut xs l h=(xs.drop l).take (h-l):=by unfold cut;rw[e7,gc];rfl
noncomputable def eI(o:Option Int)(n:Nat):Nat:=match o with|none=>0|some i=>clamp i n
noncomputable def dp(o:Option Int)(n:Nat):Nat:=match o with|none=>n|some i=>clamp i n
set_option tactic.hygienic true in
theorem iU(i:Int)(n:Nat):((clamp i n:Nat):Int)=max 0 (min (if i<0 then i+n else i) n):=by
 unfold clamp
 cases i with
 |ofNat k=>
  change((cB (Nat.blt k n) k n:Nat):Int)=_;rw[dI]
  have:¬((Int.ofNat k)<0):=by simp
  rw[if_neg this]
  split
  ·rename_i h;have:=cV h;show(k:Int)=max 0 (min (k:Int) n);walk_at "om"
  ·rename_i h;have:¬k<n:=λq=>h (Nat.ble_eq_true_of_le q);show(n:Int)=max 0 (min (k:Int) n);walk_at "om"
 |negSucc k=>
  change((n-(k+1):Nat):Int)=_;rw[if_pos (by simp)];walk_at "om"
theorem uN(lo hi:Option Int)(n:Nat):sliceBounds lo hi none n=(((eI lo n:Nat):Int),((dp hi n:Nat):Int),1):=by
 unfold sliceBounds eI dp
 cases lo<;>cases hi<;>simp only[Option.getD_none,show(1:Int)>0 by decide,if_true,iU]<;>rfl
theorem lZ(items:Array Value)(lo hi:Option Int):slicePick items lo hi none=(cut items.toList (eI lo items.size) (dp hi items.size)).toArray:=by
 unfold slicePick;rw[uN,gu];simp only[sliceRange_one,pick_run]
theorem g0(lo hi:Option Int)(n:Nat):Builtin.Str.strSliceIndices lo hi 1 n=sliceRange (eI lo n) (dp hi n) 1:=by
 unfold Builtin.Str.strSliceIndices eI dp
 cases lo<;>cases hi<;>simp only[show(1:Int)>0 by decide,if_true,iU]<;>rfl
theorem pC(u:List Nat)(lo hi:Option Int):((Builtin.Str.strSliceIndices lo hi 1 u.length).filterMap ((toS u).cps[·]?))=cut u (eI lo u.length) (dp hi u.length):=by
 rw[g0,gu,sliceRange_one,pick_run];simp[toS]
theorem Kc(o:Option Int)(n:Nat):eI o n<=n:=by
 cases o with
 |none=>exact Nat.zero_le _
 |some i=>have:=iU i n;show clamp i n<=n;walk_at "om"
theorem gJ(o:Option Int)(n:Nat):dp o n<=n:=by
 cases o with
 |none=>exact Nat.le_refl _
 |some i=>have:=iU i n;show clamp i n<=n;walk_at "om"
theorem nM{α:Type}(xs:List α)(l h:Nat)(hh:h<=xs.length):(cut xs l h).length=h-l:=by rw[gu];simp;walk_at "om"
theorem uO{α:Type}(xs:List α)(l h:Nat)(hh:h<=xs.length)(e:(cut xs l h).length=xs.length):cut xs l h=xs:=by
 rw[nM xs l h hh] at e;rw[gu];by_cases h0:xs.length=0
 ·have:xs=[]:=List.length_eq_zero_iff.mp h0;subst this;simp
 ·have h1:l=0:=by walk_at "om"
  have h2:h=xs.length:=by exact Nat.le_antisymm (Jl [h,xs.length] 1 (.c 1 J0 J1 .z) J0 J1 Jt hh) (Jl [xs.length,_,l,h] 1 (.c 1 J0 J1 (.c 1 (.a J1 J2) J3 .z)) J0 J3 Jt (Jg e) (Jf (Nat.sub_add_cancel (Jl [l,h] 1 (.c 1 J0 (.k 0) .z) J0 J1 Jt (Jf h1)))))
  subst h1 h2;simp
inductive Pt:Value->Option Int->Prop
 |none:Pt .none none
 |int (i:Int) (t:Tok):Pt (.int i t) (some i)
 |bool (b:Bool):Pt (.bool b) (some (if b then 1 else 0))
section
variable{B:Bg}{A:Around}{F X:List Addr}{φ:aS}{σ:LH}{s:Shared}{h:Heap}{a b:LV}{x y:Value}{prog:Program}{w:World}{E:Value->Shared->Prop}
theorem xn{v:LV}{x:Value}{d n k:Nat}(r:VR φ F h v x)(e:ML v d n=some k):∃o,Pt x o/\k=(match o with|none=>d|some i=>clamp i n):=by
 cases v with
 |none=>injection e with e;rw[dj.mp r];exact⟨_,.none,e.symm⟩
 |int i=>injection e with e;obtain⟨t,rfl⟩:=gq.mp r;exact⟨_,.int i t,e.symm⟩
 |bool q=>
  injection e with e
  rw[eG.mp r];refine⟨_,.bool q,?_⟩;rw[←e]
  cases q<;>rfl
 |_=>cases e
theorem tw{v:LV}{x:Value}{d n k:Nat}(r:VR φ F h v x)(e:qH v d n=some k):∃o,IsPart x o/\k=(match o with|none=>d|some i=>clamp i n):=by
 cases v with
 |none=>injection e with e;rw[dj.mp r];exact⟨_,.none,e.symm⟩
 |int i=>injection e with e;obtain⟨t,rfl⟩:=gq.mp r;exact⟨_,.int i t,e.symm⟩
 |_=>cases e
theorem nN{v:Value}{o:Option Int}(p:Pt v o){Q:Option Int->Shared->Prop}(h:Q o s):
  wpAny (model prog w) A (do
   if v==.none then return none
   if(←specialOf v "__index__").isNone then
    rule "str.slice.no-index";raiseError "TypeError" "slice indices must be integers or None or have an __index__ method"
   return some (←asIndex v):Sem (Option Int)) Q E s:=by
 cases p with
 |none=>exact wpAny_pure h
 |int i t=>
  refine(?_:wpAny _ A (do
   if(←specialOf (.int i t) "__index__").isNone then
    rule "str.slice.no-index";raiseError "TypeError" "slice indices must be integers or None or have an __index__ method"
   return some (←asIndex (.int i t)):Sem (Option Int)) Q E s)
  refine wpAny_bind (wpAny_specialOf (name:=Str.ofString "__index__") (typeIs_int s i t) PySem.F.slot_int_index.lookup ?_);exact wpAny_pure h
 |bool q=>
  refine(?_:wpAny _ A (do
   if(←specialOf (.bool q) "__index__").isNone then
    rule "str.slice.no-index";raiseError "TypeError" "slice indices must be integers or None or have an __index__ method"
   return some (←asIndex (.bool q)):Sem (Option Int)) Q E s)
  refine wpAny_bind (wpAny_specialOf (name:=Str.ofString "__index__") (PySem.typeIs_bool s q) PySem.F.slot_bool_index.lookup ?_);exact wpAny_pure h
theorem pD{a:Addr}{l u:Value}{lo hi:Option Int}{Q:Option Int×Option Int×Int->Shared->Prop}(hs:s.heap.IsSliceOf a l u .none)(pl:Pt l lo)(pu:Pt u hi)(h:Q (lo,hi,1) s):wpAny (model prog w) A (Builtin.Str.strSliceParts (.ref a)) Q E s:=by
 obtain⟨o,ho,hc,hd⟩:=hs;unfold Builtin.Str.strSliceParts;refine wpAny_bind (wpAny_field (x:=.none) ho hd rfl ?_);refine wpAny_bind (nN .none ?_);refine(?_:wpAny _ A (if((1:Int)==0)=true then _ else _) Q E s);rw[if_neg (by decide)];refine wpAny_bind (wpAny_field (x:=l) ho hd rfl ?_);refine wpAny_bind (nN pl ?_);refine wpAny_bind (wpAny_field (x:=u) ho hd rfl ?_);refine wpAny_bind (nN pu ?_);exact wpAny_pure h
theorem nO(u:List Nat)(t:Tok)(a:Addr)(l r:Value)(lo hi:Option Int)(pl:Pt l lo)(pr:Pt r hi)(hz:u.length<=sizeLine):
  Meets (Builtin.«str.__getitem__» ⟨[.str (toS u) t,.ref a],[]⟩) (λ_ R s=>s.heap.IsSliceOf a l r .none/\∀t' k,R (.ok (.ret (.str (toS (cut u (eI lo u.length) (dp hi u.length))) t'))) {s with toks:=k}):=by
 intro prog w A R s ⟨hs,D6⟩;have hT:s.TypeIs (.ref a) "slice":=let⟨o,ho,hc,_⟩:=hs;⟨o,ho,hc⟩
 refine(?_:wpAny _ _ (do
  if(←typeOf (.ref a))==.type "slice" then
   let(lo,hi,step)←Builtin.Str.strSliceParts (.ref a)
   let picked:=Builtin.Str.strSliceIndices lo hi step (toS u).length
   if step==1&&picked.length==(toS u).length then rule "str.__getitem__.whole";return←ret (.str (toS u) t)
   return←retStr ⟨(picked.filterMap ((toS u).cps[·]?)).toArray⟩
  _) _ _ s)
 refine wpAny_bind (wpAny_typeOf hT ?_)
 refine(?_:wpAny _ _ (do
   let(lo,hi,step)←Builtin.Str.strSliceParts (.ref a)
   let picked:=Builtin.Str.strSliceIndices lo hi step (toS u).length
   if step==1&&picked.length==(toS u).length then rule "str.__getitem__.whole";return←ret (.str (toS u) t)
   return←retStr ⟨(picked.filterMap ((toS u).cps[·]?)).toArray⟩) _ _ s)
 refine wpAny_bind (pD hs pl pr ?_)
 refine(?_:wpAny _ _ (if((1:Int)==1&&(Builtin.Str.strSliceIndices lo hi 1 (toS u).length).length==(toS u).length)=true then(do rule "str.__getitem__.whole";ret (.str (toS u) t))
   else retStr ⟨((Builtin.Str.strSliceIndices lo hi 1 (toS u).length).filterMap ((toS u).cps[·]?)).toArray⟩) _ _ s)
 have key:=pC u lo hi
 have Ny:(Builtin.Str.strSliceIndices lo hi 1 u.length).length=(cut u (eI lo u.length) (dp hi u.length)).length:=by
  rw[g0,sliceRange_one,nM _ _ _ (gJ _ _)];simp
 rw[bc,key,Ny];by_cases hw:((1:Int)==1&&(cut u (eI lo u.length) (dp hi u.length)).length==u.length)=true
 ·rw[if_pos hw];have e:=uO u _ _ (gJ hi _) (by simpa using hw);refine wpAny_bind (wpAny_rule (wpAny_pure ?_));have:=D6 t s.toks;rw[e] at this;exact this
 ·rw[if_neg hw];unfold retStr;refine wpAny_bind (wpAny_mkStr (wpAny_pure (D6 _ _)) ?_);refine(?_:(toS (cut u (eI lo u.length) (dp hi u.length))).length<=sizeLine);rw[bc,nM _ _ _ (gJ hi _)];have:=gJ hi u.length;walk_at "om"
theorem kH{u:List Nat}{t:Tok}{a:Addr}{l r:Value}{lo hi:Option Int}(hs:s.heap.IsSliceOf a l r .none)(pl:Pt l lo)(pr:Pt r hi)(hz:u.length<=sizeLine){Q:Value->Shared->Prop}
  (h:∀t' k,Q (.str (toS (cut u (eI lo u.length) (dp hi u.length))) t') {s with toks:=k}):wpAny (model prog w) A (getItem (.str (toS u) t) (.ref a)) Q E s:=
 getItem_meets (typeIs_str s _ t) (by decide) PySem.F.slot_str_getitem PySem.F.entry_str_getitem (PySem.F.args_str_getitem_2 _ _) (nO u t a l r lo hi pl pr hz) ⟨hs,h⟩
end
section
variable{B:Bg}{A:Around}{F X:List Addr}{φ:aS}{σ:LH}{s:Shared}{h:Heap}{a b:LV}{x y:Value}{prog:Program}{w:World}{E:Value->Shared->Prop}
theorem iV{l:Addr}{items:Array Value}{k:Bool}{x:Value}{Q:Value->Shared->Prop}(hl:s.heap.IsList l items)
  (hx:items[if k then 1 else 0]?=some x) (h:Q x s):wpAny (model prog w) A (getItem (.ref l) (.bool k)) Q E s:=by
 obtain⟨o,ho,hc,ne,hd⟩:=id hl;unfold getItem
 try with_reducible refine wpAny_holding ?_
 first|refine wpAny_bind (wpAny_pure ?_)|skip
 refine wpAny_bind (wpAny_sequenceKey hl.typeIs (by decide) ?_)
 refine wpAny_bind (wpAny_callSpecial?_slot (name:=Str.ofString "__getitem__") hl.typeIs slot_list_getitem
  (wpAny_call_entry slot_list_getitem hl.typeIs entry_list_getitem ?_ (args_list_getitem _ _)))
 refine(?_:wpAny _ _ (Builtin.List.listSubscript? (.bool k)>>=_) _ _ s)
 have sub:∀{Q:Option Int->Shared->Prop}{E},Q (some (if k then 1 else 0)) s->wpAny (model prog w) A.in1 (Builtin.List.listSubscript? (.bool k)) Q E s:=λq=>by
  unfold Builtin.List.listSubscript?;refine wpAny_bind (wpAny_specialOf (T:="bool") (PySem.typeIs_bool s k) PySem.F.slot_bool_index.lookup ?_);refine(?_:wpAny _ _ (asIndex (.bool k)>>=_) _ _ s);refine wpAny_bind (wpAny_of_eq (a:=if k then 1 else 0) rfl ?_);refine(?_:wpAny _ _ (if(!Builtin.List.listFitsIndex (if k then 1 else 0))=true then _ else _) _ _ s);rw[if_neg (by cases k<;>decide)];exact wpAny_pure q
 refine wpAny_bind (sub ?_);have BB:items[(if k then 1 else 0:Nat)]?=some x:=hx
 have hk:(if k then(1:Int) else 0)=((if k then 1 else 0:Nat):Int):=by cases k<;>rfl
 rw[hk];refine(?_:wpAny _ _ ((seqItemAt l (if k then 1 else 0)>>=λr=>pure (r.map ((if k then 1 else 0),·)))>>=_) _ _ s);refine wpAny_bind (wpAny_bind (wpAny_seqItemAt ho hd (wpAny_pure ?_)));rw[BB]
 first
  |exact wpAny_bind (wpAny_pure (wpAny_pure ⟨x,rfl,wpAny_pure h⟩))
  |exact wpAny_pure ⟨x,rfl,wpAny_pure h⟩
set_option tactic.hygienic true in
theorem jB{l:Addr}{items:Array Value}{k:Int}{t:Tok}{j:Nat}{x:Value}{Q:Value->Shared->Prop}(hl:s.heap.IsList l items)(ht:b6 k=true)(hj:idx k items.size=some j)
  (hx:items[j]?=some x) (h:Q x s):wpAny (model prog w) A (getItem (.ref l) (.int k t)) Q E s:=by
 have:=eH ht;obtain⟨h1,h2⟩:=nK hj;by_cases h0:0<=k
 ·refine wpAny_getItem_list hl h0 (by walk_at "om") ?_ h
  have:seqIndex? k items.size=some k.toNat:=by
   by_cases hk:k<items.size
   ·exact seqIndex_of h0 hk
   ·exfalso;unfold idx at hj
    cases k with
    |ofNat k=>
     change cB (Nat.blt k items.size) (some k) none=some j at hj;rw[dI] at hj
     split at hj
     ·rename_i q;exact hk (by have:=cV q;show(k:Int)<items.size;walk_at "om")
     ·cases hj
    |negSucc k=>walk_at "om"
  rw[this] at h1;injection h1 with h1;rw[h1];exact hx
 ·have hk:-(items.size:Int)<=k:=by
   rcases Int.lt_or_le k (-(items.size:Int)) with q|q
   ·rw[seqIndex_below q] at h1;cases h1
   ·exact q
  have e:=seqIndex_neg (by walk_at "om") hk
  rw[e] at h1;injection h1 with h1
  exact wpAny_getItem_list_neg hl (by walk_at "om") hk (by walk_at "om") (h1▸hx) h
theorem ik{α β:Type}{x:Option α}{f:α->Option β}{v:β}(h:cO x f none=some v):∃y,x=some y/\f y=some v:=by
 cases x with
 |none=>cases h
 |some y=>exact⟨y,rfl,h⟩
theorem rd{β:Type}{c:Bool}{x:Option β}{v:β}(h:cB c x none=some v):c=true/\x=some v:=by
 cases c with
 |true=>exact⟨rfl,h⟩
 |false=>cases h
theorem kI{vs:List LV}{k:Int}{v:LV}(e:uH vs k=some v):∃j,idx k vs.length=some j/\vs[j]?=some v:=by
 obtain⟨j,e1,e2⟩:=ik e;exact⟨j,len_eq vs▸e1,(aT vs j).symm.trans e2⟩
theorem xo{u:List Nat}{k:Int}{v:LV}(e:IZ u k=some v):∃j c,idx k u.length=some j/\u[j]?=some c/\v=.str [c]:=by
 obtain⟨j,e1,e2⟩:=ik e;obtain⟨c,e3,e4⟩:=ik e2;exact⟨j,c,len_eq u▸e1,(aT u j).symm.trans e3,(Option.some.inj e4).symm⟩
theorem aB.at{vs:List LV}{xs:Array Value}{j:Nat}{v:LV}(rl:aB φ F h vs xs.toList)(e:vs[j]?=some v):∃z,xs[j]?=some z/\VR φ F h v z:=by
 obtain⟨z,hz,rz⟩:=rl.get e;exact⟨z,Array.getElem?_toList.symm.trans hz,rz⟩
theorem pE{v:LV}{vs:List LV}{l:Addr}{xs:Array Value}{i:Int}{t:Tok}{Q:Value->Shared->Prop}(hl:s.heap.IsList l xs)(rl:aB φ F s.heap vs xs.toList)(hk:b6 i=true)(e:uH vs i=some v)
  (q:∀z k,VR φ F s.heap v z->Q z {s with toks:=k}):wpAny (model prog w) A (getItem (.ref l) (.int i t)) Q E s:=by
 obtain⟨j,e1,e2⟩:=kI e;obtain⟨z,hz,rz⟩:=rl.at e2;exact jB hl hk ((show xs.size=vs.length from rl.length)▸e1) hz (q z s.toks rz)
theorem tx{m n j:Nat}(e:idx (.ofNat m) n=some j):m=j:=Option.some.inj (rd e).2
theorem mq{v:LV}{vs:List LV}{l:Addr}{xs:Array Value}{i:Bool}{Q:Value->Shared->Prop}(hl:s.heap.IsList l xs)(rl:aB φ F s.heap vs xs.toList)(e:uH vs (cB i (.ofNat 1) (.ofNat 0))=some v)
  (q:∀z k,VR φ F s.heap v z->Q z {s with toks:=k}):wpAny (model prog w) A (getItem (.ref l) (.bool i)) Q E s:=by
 obtain⟨j,e1,e2⟩:=kI e;obtain⟨z,hz,rz⟩:=rl.at e2;refine iV hl ?_ (q z s.toks rz)
 cases i with
 |true=>rw[←tx e1] at hz;exact hz
 |false=>rw[←tx e1] at hz;exact hz
theorem sub_int{v:LV}{i:Int}{t:Tok}{Q:Value->Shared->Prop}(ra:VR φ F s.heap a x)(I:Inv B φ F σ s.heap)(hk:b6 i=true)(e:E3 a σ i=some v)(q:∀z k,VR φ F s.heap v z->Q z {s with toks:=k}):
  (∃T id,s.TypeIs x T/\typeLookup (.type T) "__getitem__"=pure (some (.builtin id)))/\wpAny (model prog w) A (getItem x (.int i t)) Q E s:=by
 have bk:=eH hk
 cases a with
 |str u=>
  refine aE ra λt'=>⟨⟨"str",_,typeIs_str s _ t',PySem.F.slot_str_getitem.lookup⟩,?_⟩;obtain⟨j,c,e1,e2,e3⟩:=xo e;refine PySem.P.getItem_str (c:=c) ?_ ?_ (q _ _ (by rw[e3];exact VR.j4 rfl))
  ·simp only[Bool.or_eq_false_iff,decide_eq_false_iff_not];walk_at "om"
  ·rw[bc,(nK e1).1];refine(?_:(toS u).cps[j]?=some c);simpa[toS] using e2
 |tup vs=>
  obtain⟨j,e1,e2⟩:=kI e;obtain⟨p,o,xs,n,e3,ho,_,_,hc,hd,rl⟩:=gr.mp ra;obtain⟨z,hz,rz⟩:=rl.at e2;have ht:IsTup s.heap p xs:=⟨o,ho,hc,n,hd⟩;rw[e3];exact⟨⟨"tuple",_,ht.typeIs,slot_tuple_getitem.lookup⟩,getItem_tuple ht (by walk_at "om") (by walk_at "om") ((show xs.size=vs.length from rl.length)▸(nK e1).1) hz (q z s.toks rz)⟩
 |ag vs=>
  obtain⟨l,xs,e3,hl,rl⟩:=aj I ra (rfl:listOf? (.ag vs) σ=some vs);rw[e3];exact⟨⟨"list",_,hl.typeIs,list_getitem_lookup⟩,pE hl rl hk e q⟩
 |ref i=>
  obtain⟨vs,e1,e2⟩:=ik e;obtain⟨l,xs,e3,hl,rl⟩:=aj I ra (show listOf? (.ref i) σ=some vs from e1);rw[e3];exact⟨⟨"list",_,hl.typeIs,list_getitem_lookup⟩,pE hl rl hk e2 q⟩
 |_=>cases e
theorem sub_bool{v:LV}{i:Bool}{Q:Value->Shared->Prop}(ra:VR φ F s.heap a x)(I:Inv B φ F σ s.heap)(hk:Ds a (.bool i)=true)(e:E3 a σ (cB i (.ofNat 1) (.ofNat 0))=some v)(q:∀z k,VR φ F s.heap v z->Q z {s with toks:=k}):
  (∃T id,s.TypeIs x T/\typeLookup (.type T) "__getitem__"=pure (some (.builtin id)))/\wpAny (model prog w) A (getItem x (.bool i)) Q E s:=by
 cases a with
 |ag vs=>
  obtain⟨l,xs,e3,hl,rl⟩:=aj I ra (rfl:listOf? (.ag vs) σ=some vs);rw[e3];exact⟨⟨"list",_,hl.typeIs,list_getitem_lookup⟩,mq hl rl e q⟩
 |ref i=>
  obtain⟨vs,e1,e2⟩:=ik e;obtain⟨l,xs,e3,hl,rl⟩:=aj I ra (show listOf? (.ref i) σ=some vs from e1);rw[e3];exact⟨⟨"list",_,hl.typeIs,list_getitem_lookup⟩,mq hl rl e2 q⟩
 |_=>cases hk
theorem FH{v:LV}(ra:VR φ F s.heap a x)(rb:VR φ F s.heap b y)(I:Inv B φ F σ s.heap)(e:bH a b σ=some v){Q:Value->Shared->Prop}(h:∀z k,VR φ F s.heap v z->Q z {s with toks:=k}):
  (∃T id,s.TypeIs x T/\typeLookup (.type T) "__getitem__"=pure (some (.builtin id)))/\wpAny (model prog w) A (getItem x y) Q E s:=by
 obtain⟨k,hi,e1⟩:=ik e;clear e;obtain⟨hc,e2⟩:=rd e1;clear e1;rw[bV,Bool.and_eq_true] at hc
 cases b with
 |int i=>exact aM rb λt=>sub_int ra I (Option.some.inj hi▸hc.1) (Option.some.inj hi▸e2) h
 |bool i=>exact gI rb (sub_bool ra I hc.2 (Option.some.inj hi▸e2) h)
 |_=>cases hi
set_option tactic.hygienic true in
theorem kJ(e:Expr)(o i:Value):∃l,subscripted e false o i=operate l (getItem o i):=by
 cases e with
 |Slice lo hi st pos=>cases st<;>exact⟨_,rfl⟩
 |_=>exact⟨_,rfl⟩
theorem iW{value slice:Expr}{o i:Value}{T id:String}{Q:Value->Shared->Prop}(hT:s.TypeIs o T)(hl:typeLookup (.type T) "__getitem__"=pure (some (.builtin id)))
  (h:wpAny (model prog w) A (getItem o i) Q E s):wpAny (model prog w) A (do let r←subscripted slice (←getitemInPython o) o i;letTemporaryGo value o r;pure r) Q E s:=by
 rw[getitemInPython_of_ne hT.not_modules]
 have fin:wpAny (model prog w) A (subscripted slice false o i) (λr eT=>wpAny (model prog w) A (letTemporaryGo value o r>>=λ_=>pure r) Q E eT) E s:=by
  obtain⟨l,e⟩:=kJ slice o i;rw[e];exact wpAny_operating (wpAny_mono h (λr eT gw=>wpAny_bind (wpAny_letTemporaryGo (wpAny_pure gw))) λ_ _ x=>x)
 refine wpAny_bind ?_;refine wpAny_bind (wpAny_specialOf hT hl ?_)
 first
  |exact wpAny_pure (wpAny_bind fin)
  |exact wpAny_bind (wpAny_pure (wpAny_bind fin))
  |exact wpAny_bind fin
end
structure tA(B:Bg)(c:Nat):Prop where
 ga:findIn B.K (.ref (B.cls c)) "__getattribute__"=some (some (.builtin "object.__getattribute__"))
 gn:findIn B.K (.ref (B.cls c)) "__getattr__"=some none
 sa:findIn B.K (.ref (B.cls c)) "__setattr__"=some (some (.builtin "object.__setattr__"))
 over:plainOver B.K (B.cls c)=true
 has:hasDictIn B.K (B.cls c)=true
 fld:∀n∈B.bK c,findIn B.K (.ref (B.cls c)) n=some none
 Nz:(B.bK c).length<=1000
section
variable{B:Bg}{A:Around}{F X:List Addr}{φ:aS}{σ:LH}{s:Shared}{h:Heap}{a b:LV}{x y:Value}{E:Value->Shared->Prop}
theorem uP{o:Obj}{es:Array DictEntry}{ep:Nat}{n:Str}(hd:o.data=.dict es ep)(hk:StrKeys es):lookIn n o=some (nsFind es n):=by
 unfold lookIn;rw[hd];dsimp only;unfold nsFind findBy;rw[←Array.find?_toList]
 cases q:es.toList.find? λe=>e.key.isStr n with
 |some e=>rfl
 |none=>
  dsimp only;rw[if_neg]
  ·rfl
  ·rw[Bool.not_eq_true,List.any_eq_false];intro e he;obtain⟨m,t,ek⟩:=hk e (by simpa using he);unfold DictEntry.refKey;rw[ek];simp
theorem nP(I:Inv B φ F σ s.heap){c:Nat}{fs:List LV}{i:Nat}{p:Addr×Addr}(hs:σ[i]?=some (.inst c fs))(hp:φ[i]?=some p):
  ∃od m,InstAt s.heap p.1 (instObj (B.cls c) p.2) (B.cls c) (some od)/\sO s.heap p.2 m fs.length/\(∀n,lookIn n od=some (m n))/\FR B φ F s.heap c fs m:=by
 have r:=I.ok i _ p hs hp;rw[OR] at r;obtain⟨_,ho,m,hn,rs⟩:=r;have xp:=hn;obtain⟨o,es,ep,h1,h2,h3,_,h4⟩:=hn;exact⟨o,m,⟨ho,rfl,rfl,h1⟩,xp,λn=>by rw[uP h2 h3,h4],rs⟩
theorem xq{M:Model}{d:Addr}{m:Str->Option Value}{k:Nat}{name:Str}{v:Value}{Q:Unit->Shared->Prop}(hn:sO s.heap d m k)
  (hQ:∀h',sO h' d (λx=>if x=name then some v else m x) (if(m name).isSome then k else k+1)->Heap.SameBut d s.heap h'->Q () {s with heap:=h',toks:=s.toks+1}):wpAny M A (nsSet d name v) Q E s:=λΓ p _=>by
 obtain⟨o,es,ep,ho,hd,hk,hz,hm⟩:=hn;simp only[nsSet,strHash,Sem.wp_bind',Sem.wp_cmd_ask,Sem.wp_pure',Sem.wp_cmd_mkText];rw[Sem.wp_loadPart_of M Γ _ p {s with toks:=s.toks+1} (o:=o) _ ho]
 have NA:es.any (·.refKey)=false:=by
  rw[Array.any_eq_false'];intro e he;obtain⟨n,t,h⟩:=hk e he;simp[DictEntry.refKey,h]
 simp only[hd,aRefKeyMayBeTheName_eq,aRefKeyMayBeTheNameByArray,NA,Bool.and_false,Bool.false_eq_true,if_false,Sem.wp_cmd_updatePart];refine⟨by rw[ho];rfl,hQ _ ?_ (Heap.SameBut.update ..)⟩
 have Ql:nsFind es name=match es.findIdx? λe=>e.key.isStr name with|some i=>es[i]?.map (·.val)|none=>none:=findBy_of_findIdx? (λ(n:Str)(v:Value)=>v.isStr n) es name
 obtain⟨c,d',dt,sl⟩:=o;subst hd
 cases hi:es.findIdx? (·.key.isStr name) with
 |some i=>
  have hs:(m name).isSome=true:=by
   rw[←hm,Ql,hi]
   have:i<es.size:=by
    have:=Array.findIdx?_eq_some_iff_findIdx_eq.mp hi;exact this.1
   simp[this]
  refine⟨_,_,ep,Heap.get?_update_self _ ho (by simp only[Obj.putName_eq,Obj.putNameByArray,hi];rfl),by simp only[Obj.putName_eq,Obj.putNameByArray,hi];rfl,hk.modify _ _,?_,λx=>?_⟩
  ·rw[if_pos hs];simpa using hz
  ·refine(?_:_=if x=name then some v else m x);rw[←hm];exact findBy_modify (λn v=>v.isStr n) Value.isStr_inj es name x v i hi
 |none=>
  have hs:¬(m name).isSome=true:=by
   rw[←hm,Ql,hi];simp
  refine⟨_,_,ep+1,Heap.get?_update_self _ ho (by simp only[Obj.putName_eq,Obj.putNameByArray,hi];rfl),by simp only[Obj.putName_eq,Obj.putNameByArray,hi];rfl,hk.push _ _ _ _,?_,λx=>?_⟩
  ·rw[if_neg hs];simpa using hz
  ·refine(?_:_=if x=name then some v else m x);rw[←hm]
   exact findBy_push (λn v=>v.isStr n) es name x _ _ v (λy=>by
    refine(?_:(name==y)=decide (y=name));by_cases h:y=name
    ·subst h;simp
    ·have:¬name=y:=λe=>h e.symm
     simp[h,this]) hi
theorem uQ{v:LV}(r:VR φ F h v x):handedIn x=true:=by
 cases v with
 |au=>exact absurd r xe
 |none=>rw[dj.mp r];rfl
 |bool b=>rw[eG.mp r];rfl
 |int i=>obtain⟨t,rfl⟩:=gq.mp r;rfl
 |str i=>obtain⟨t,rfl⟩:=ic.mp r;rfl
 |tup vs=>obtain⟨a,_,_,_,rfl,_⟩:=gr.mp r;rfl
 |ag vs=>obtain⟨_,a,_,_,_,rfl,_⟩:=nE.mp r;rfl
 |ref i=>obtain⟨p,_,rfl⟩:=dk.mp r;rfl
set_option tactic.hygienic true in
theorem rf{c j:Nat}{v:LV}(e:bj c j a σ=some v):∃i fs,a=.ref i/\σ[i]?=some (.inst c fs)/\fs[j]?=some v:=by
 unfold bj at e
 cases a with
 |ref i=>
  change cO (bf σ i) (jt none (λc' fs=>cB (Nat.beq c c') (bf fs j) none)) none=some v at e;rw[aT] at e;cases hs:σ[i]?with
  |none=>rw[hs] at e;cases e
  |some o=>
   rw[hs,lW] at e
   cases o with
   |list _=>cases e
   |inst c' fs=>
    change cB (Nat.beq c c') (bf fs j) none=some v at e;rw[dI] at e
    split at e
    ·rename_i q;have:=Nat.eq_of_beq_eq_true q;subst this;rw[aT] at e;exact⟨i,fs,rfl,hs,e⟩
    ·cases e
 |_=>cases e
theorem tB{c j:Nat}{n:Str}{v:LV}(hK:B.K.In B.h0)(C:tA B c)(I:Inv B φ F σ s.heap)(ra:VR φ F s.heap a x)(e:bj c j a σ=some v)(hn:(B.bK c)[j]?=some n){Q:Value->Shared->Prop}(q:∀z,VR φ F s.heap v z->Q z {s with toks:=s.toks+1}):
  wpAny (model B.prog B.w) A (getAttr x n true) Q E s:=by
 obtain⟨i,fs,rfl,hs,hj⟩:=rf e;refine iS ra λp hp=>?_;obtain⟨od,m,IA,_,hl,hf⟩:=nP I hs hp;have h1:=hf.2 j n hn;rw[hj] at h1;obtain⟨z,hz,rz⟩:=h1;exact get_value (hK.keeps I.base) IA C.ga (findObj_own C.has (C.fld n (List.mem_of_getElem? hn)) rfl (by rw[hl,hz])) (uQ rz) (q z rz)
set_option tactic.hygienic true in
theorem rg{c j:Nat}{v:LV}{ax:LH}(e:bO c j a v σ=some ax):∃i fs qy,a=.ref i/\σ[i]?=some (.inst c fs)/\putAt fs v j=some qy/\ax=σ.set i (.inst c qy):=by
 unfold bO at e
 cases a with
 |ref i=>
  change cO (bf σ i) (jt none (λc' fs=>cB (Nat.beq c c') (cO (putAt fs v j) (λq=>some (aW σ (.inst c q) i)) none) none)) none=some ax at e;rw[aT] at e;cases hs:σ[i]?with
  |none=>rw[hs] at e;cases e
  |some o=>
   rw[hs,lW] at e
   cases o with
   |list _=>cases e
   |inst c' fs=>
    change cB (Nat.beq c c') (cO (putAt fs v j) (λq=>some (aW σ (.inst c q) i)) none) none=some ax at e;rw[dI] at e
    split at e
    ·rename_i q;have:=Nat.eq_of_beq_eq_true q;subst this
     cases hq:putAt fs v j with
     |none=>rw[hq] at e;cases e
     |some qy=>
      rw[hq,lW,fE] at e
      injection e with e
      exact⟨i,fs,qy,rfl,hs,hq,e.symm⟩
    ·cases e
 |_=>cases e
theorem xr{c j:Nat}{n:Str}{v:LV}{z:Value}{ax:LH}(hK:B.K.In B.h0)(C:tA B c)(H3:(B.bK c).Nodup)(I:Inv B φ F σ s.heap)(ra:VR φ F s.heap a x)(rz:VR φ F s.heap v z)(e:bO c j a v σ=some ax)(hn:(B.bK c)[j]?=some n){Q:Unit->Shared->Prop}
  (q:∀s',Inv B φ F ax s'.heap->Le F X φ φ s s'->Q () s'):wpAny (model B.prog B.w) A (setAttr x n z) Q E s:=by
 obtain⟨i,fs,qy,rfl,hs,hj,rfl⟩:=rg e;refine iS ra λp hp=>?_;obtain⟨od,m,IA,qN,hl,hf⟩:=nP I hs hp;have hX:=hK.keeps I.base
 have RZ:takerIn B.K (B.cls c) n=some none:=by unfold takerIn;rw[C.fld n (List.mem_of_getElem? hn)];rfl
 refine set_plain hX IA C.sa (osa_open (s:={s with toks:=s.toks+1}) hX IA C.over RZ λb=>?_);obtain⟨cd,hc,NB⟩:=any_some C.has;have hx:s.heap.get? p.1=some (instObj (B.cls c) p.2):=IA.at_;have L:=looks_clsIn (M:=model B.prog B.w) (h:=s.heap) hX hc;refine wpAny_bind (wpAny_pure (wpAny_bind (wpAny_bind (wpAny_loadPart hx (wpAny_bind (L _ _ _ _ (λ_ _ e=>e) ?_))))));rw[NB];refine wpAny_pure (a:=some p.2) ?_;refine(?_:wpAny _ _ (Builtin.ObjectAttr.newKeyGuard p.2 n (.str n _)>>=λ_=>nsSet p.2 n z>>=λ_=>lookBehind p.2 (some (.str n 0))>>=λ_=>ret .none) _ _ _);refine wpAny_bind (wpAny_pure (wpAny_bind (xq (s:={s with toks:=s.toks+1}) qN λh' xp Kd=>?_)))
 have hz:sO h' p.2 (λy=>if y=n then some z else m y) qy.length:=by
  obtain⟨o,es,ep,q1,q2,q3,q4,q5⟩:=xp;refine⟨o,es,ep,q1,q2,q3,Nat.le_trans q4 ?_,q5⟩;have old:=hf.2 j n hn
  rcases d7 _ _ _ _ hj with⟨g1,rfl⟩|⟨g1,rfl⟩
  ·rw[List.getElem?_eq_getElem g1] at old;obtain⟨u,hu,_⟩:=old;rw[hu];simp
  ·split<;>simp
 have hlen:qy.length<=sizeLine:=by
  have h0:=hf.1;have hb:=C.Nz
  have:qy.length<=(B.bK c).length:=by
   have:=(List.getElem?_eq_some_iff.mp hn).1
   rcases d7 _ _ _ _ hj with⟨g1,rfl⟩|⟨g1,rfl⟩
   ·simpa using h0
   ·simp;exact Jl [j,_,fs.length] 1 (.c 1 (.p J0 1) J1 (.c 1 J2 J0 .z)) (.p J2 1) J1 Jt this (Jg g1)
  unfold sizeLine;walk_at "om"
 obtain⟨o,es,ep,q1,q2,q3,q4,q5⟩:=id hz;refine wpAny_bind (wpAny_lookBehind q1 (by rw[q2];exact pastItsLine_dict (by walk_at "om")) (wpAny_pure ?_));have fin:=I.Fo (X:=X) (s':={s with heap:=h',toks:=s.toks+1+1}) H3 hs hp hj hn rz hf hz Kd rfl rfl;exact q _ fin.1 fin.2
end
theorem uR:∀(k n fuel:Nat)(ds:List Char),n<10^k->0<k->n<fuel->(Nat.toDigitsCore 10 fuel n ds).map Char.toNat=A0 k n (ds.map Char.toNat):=by
 intro k
 induction k with
 |zero=>intro n fuel ds h hk;walk_at "om"
 |succ k ih=>
  intro n fuel ds h _ hf
  cases fuel with
  |zero=>exact Jx [n] (.c 1 (.p J0 1) (.k 0) .z) Jt hf
  |succ fuel=>
   have dig:∀m,m<10->(Nat.digitChar m).toNat=48+m:=by decide
   refine(?_:_=cB (Nat.blt n 10) (Nat.add 48 n::ds.map Char.toNat) (A0 k (n/10) (Nat.add 48 (n%10)::ds.map Char.toNat)));unfold Nat.toDigitsCore;by_cases D7:n<10
   ·have hb:Nat.blt n 10=true:=Nat.ble_eq.mpr D7;rw[hb,lV,if_pos (by exact Nat.le_antisymm (Jl [n,_] 10 (.c 1 (.p J0 1) (.k 10) (.c 1 (.m 10 J1) J0 .z)) J1 (.k 0) Jt D7 (Jd _ _)) (Jl [_] 1 .z (.k 0) J0 Jt))];rw[List.map_cons,dig _ (by exact Jl [_] 1 (.c 1 (.p J0 1) (.k 10) .z) (.p J0 1) (.k 10) Jt (Nat.mod_lt _ (Nat.succ_pos _))),Nat.mod_eq_of_lt D7];rfl
   ·have hb:Nat.blt n 10=false:=by
     cases q:Nat.blt n 10 with
     |false=>rfl
     |true=>exact absurd (cV q) D7
    rw[hb,JJ,if_neg (by exact λq=>Jx [n,_] (.c 1 (.k 10) J0 (.c 1 (.p J0 1) (.p (.m 10 J1) 10) (.c 10 J1 (.k 0) .z))) Jt (Jz D7) (Je _ _ (Nat.succ_pos _)) (Jf q))]
    have hk:0<k:=by
     rcases Nat.eq_zero_or_pos k with q|q
     ·subst q;walk_at "om"
     ·exact q
    rw[ih (n/10) fuel _ (by rw[Nat.pow_succ] at h;exact Jl [n,_,_] 10 (.c 1 (.p J0 1) (.t J1 10) (.c 1 (.m 10 J2) J0 .z)) (.p J2 1) J1 Jt h (Jd _ _)) hk (by exact Jl [n,fuel,_] 10 (.c 10 (.p J0 1) (.p J1 1) (.c 9 (.k 10) J0 (.c 1 (.m 10 J2) J0 .z))) (.p J2 1) J1 Jt hf (Jz D7) (Jd _ _)),List.map_cons,dig _ (by exact Jl [_] 1 (.c 1 (.p J0 1) (.k 10) .z) (.p J0 1) (.k 10) Jt (Nat.mod_lt _ (Nat.succ_pos _)))];rfl
theorem ri(n:Nat)(h:n<10^20):Str.ofString (toString (n:Int))=toS (A0 20 n []):=by
 have e:(toString (n:Int))=String.ofList (Nat.toDigits 10 n):=rfl;rw[e];unfold Str.ofString;rw[cpsOfBytes_string,String.toList_ofList];unfold Nat.toDigits toS;rw[uR 20 n (n+1) [] h (by walk_at "om") (by walk_at "om")];rfl
theorem pF{l:List Nat}(h:m9 l=true):NumText.AllDigits l:=by
 induction l with
 |nil=>intro c hc;simp at hc
 |cons a l ih=>
  have h':(sG a&&m9 l)=true:=by rw[←bV];exact h
  rw[Bool.and_eq_true] at h';intro c hc
  rcases List.mem_cons.mp hc with rfl|hc
  ·have q:=h'.1;unfold sG at q;rw[bV,Bool.and_eq_true,Nat.ble_eq,Nat.ble_eq] at q;exact q
  ·exact ih h'.2 c hc
theorem uS(l:List Nat)(a:Nat):m8 l a=l.foldl (λacc c=>acc*10+(c-48)) a:=by
 induction l generalizing a with
 |nil=>rfl
 |cons c l ih=>show m8 l (Nat.add (Nat.mul a 10) (Nat.sub c 48))=_;rw[ih];rfl
section
variable{B:Bg}{A:Around}{F X:List Addr}{φ:aS}{σ:LH}{s:Shared}{h:Heap}{a b:LV}{x y:Value}{E:Value->Shared->Prop}
theorem VR.keeps{v:LV}{z:Value}{h':Heap}(r:VR φ F h v z)(k:∀b o,h.get? b=some o->h'.get? b=some o):VR φ F h' v z:=
 VR.bq (λb o e n nf=>⟨k b o e,n,nf⟩) (λ_ _ e=>e) v z r
theorem aB.keeps{v:List LV}{z:List Value}{h':Heap}(r:aB φ F h v z)(k:∀b o,h.get? b=some o->h'.get? b=some o):aB φ F h' v z:=
 aB.bq (λb o e n nf=>⟨k b o e,n,nf⟩) (λ_ _ e=>e) v z r
theorem BC(I:Inv B φ F σ s.heap)(ra:VR φ F s.heap a x):aa B A F X φ s (Dt a σ) (call (.builtin "len") [x]) (RV F):=by
 have ND:aa B A F X φ s (oN (itemsOf a σ) λxs=>bN (small (len xs)) (.ok (.int (.ofNat (len xs))) σ)) (call (.builtin "len") [x]) (RV F):=aa.opt λvs e=>aa.ite λhs=>by
  obtain⟨p,xs,rfl,hl,rl⟩:=pB I ra e
  have hn:(xs.size:Int)=Int.ofNat (len vs):=by rw[len_eq];have:=rl.length;simp at this;simp[this]
  have hz:(xs.size:Int)<2^63:=by have:=bu hs;rw[hn];show((len vs:Nat):Int)<_;walk_at "om"
  rcases hl with hl|⟨o,n,h1,h2,h3⟩
  ·exact aa.prim I λQ E q=>len_list hl hz (q _ _ (λ_ _ e=>e) rfl rfl (by rw[hn];exact VR.i))
  ·exact aa.prim I λQ E q=>len_tuple ⟨o,h1,h2,n,h3⟩ hz (q _ _ (λ_ _ e=>e) rfl rfl (by rw[hn];exact VR.i))
 cases a with
 |str u=>
  refine aE ra λt=>?_;refine aa.ite λhs=>?_;have:=bu hs;rw[len_eq] at this⊢;exact aa.prim I λQ E q=>PySem.P.len_str (by rw[bc];walk_at "om") (q _ _ (λ_ _ e=>e) rfl rfl (by rw[bc];exact VR.i))
 |_=>exact ND
theorem BD(I:Inv B φ F σ s.heap)(ra:VR φ F s.heap a x):aa B A F X φ s (Du a σ) (call (.builtin "ord") [x]) (RV F):=by
 cases a with
 |str u=>
  refine aE ra λt=>?_
  cases u with
  |nil=>exact aa.bad
  |cons c r=>
   cases r with
   |cons _ _=>exact aa.bad
   |nil=>exact aa.prim I λQ E q=>PySem.P.ord_of_char (c:=c) (q _ _ (λ_ _ e=>e) rfl rfl VR.i)
 |_=>exact aa.bad
theorem BE(I:Inv B φ F σ s.heap)(ra:VR φ F s.heap a x):aa B A F X φ s (Dv a σ) (call (.builtin "chr") [x]) (RV F):=by
 cases a with
 |int i=>
  refine aM ra λt=>?_
  cases i with
  |negSucc _=>exact aa.bad
  |ofNat n=>
   refine aa.ite λhs=>?_;have:=cV hs;exact aa.prim I λQ E q=>PySem.P.chr_of_int (by simp only[Bool.or_eq_false_iff,decide_eq_false_iff_not];constructor<;>simp<;>walk_at "om") (q _ _ (λ_ _ e=>e) rfl rfl (VR.j4 rfl))
 |_=>exact aa.bad
theorem BF(hA:A.handled=none)(I:Inv B φ F σ s.heap)(ra:VR φ F s.heap a x)(rb:VR φ F s.heap b y):aa B A F X φ s (Dw a b σ) (call (.builtin "min") [x,y]) (RV F):=by
 refine aa.ints (t:=λx y=>call (.builtin "min") [x,y]) ra rb λi j t u=>?_;refine aa.prim I λQ E q=>min_two_ints hA λh' tk k=>q _ _ k rfl rfl ?_;refine(?_:VR _ _ _ (.int (cB (kj j i) j i)) _);rw[dI,fF];by_cases c:j<i
 ·rw[if_pos c,if_pos (by simpa using c)];exact VR.i
 ·rw[if_neg c,if_neg (by simpa using c)];exact VR.i
theorem BG(hA:A.handled=none)(I:Inv B φ F σ s.heap)(ra:VR φ F s.heap a x)(rb:VR φ F s.heap b y):aa B A F X φ s (Dx a b σ) (call (.builtin "max") [x,y]) (RV F):=by
 refine aa.ints (t:=λx y=>call (.builtin "max") [x,y]) ra rb λi j t u=>?_;refine aa.prim I λQ E q=>max_two_ints hA λh' tk k=>q _ _ k rfl rfl ?_;refine(?_:VR _ _ _ (.int (cB (kj i j) j i)) _);rw[dI,fF];by_cases c:i<j
 ·rw[if_pos (show j>i from c),if_pos (by simpa using c)];exact VR.i
 ·rw[if_neg (show¬j>i from c),if_neg (by simpa using c)];exact VR.i
theorem BH(I:Inv B φ F σ s.heap)(ra:VR φ F s.heap a x):aa B A F X φ s (Dy a σ) (call (.type "int") [x]) (RV F):=by
 cases a with
 |str u=>
  refine aE ra λt=>?_
  cases u with
  |nil=>exact aa.bad
  |cons c r=>
   refine aa.ite λhs=>?_;rw[bV,Bool.and_eq_true] at hs;have h2:=cV hs.2;rw[len_eq] at h2;have hd:=pF hs.1
   have e:(toS (c::r)).cps.toList=c::r:=by simp[toS]
   have:=intText_digits (x:=toS (c::r)) (by rw[e];exact hd) (by rw[e];simp) (by rw[bc];walk_at "om");rw[e] at this;refine aa.prim I λQ E q=>KIN.call_text this (by rw[bc];walk_at "om") (q _ _ (λ_ _ e=>e) rfl rfl ?_);have:m8 (c::r) 0=NumText.digitsVal (c::r):=uS _ _;rw[this];exact VR.i
 |_=>exact aa.bad
theorem BI(I:Inv B φ F σ s.heap)(ra:VR φ F s.heap a x):aa B A F X φ s (Dz a σ) (call (.type "str") [x]) (RV F):=by
 cases a with
 |int i=>
  refine aM ra λt=>?_
  cases i with
  |negSucc _=>exact aa.bad
  |ofNat n=>
   refine aa.ite λhs=>?_;have:=cV hs;refine aa.prim I λQ E q=>PySem.P.str_of_int ?_ (q _ _ (λ_ _ e=>e) rfl rfl (VR.j4 (ri n (by walk_at "om"))));refine(?_:n.log2<1920)
   rcases Nat.eq_zero_or_pos n with z|z
   ·subst z;decide
   ·exact Nat.lt_trans ((Nat.log2_lt (k:=34) (by exact λq=>Jx [n] (.c 1 (.p (.k 0) 1) J0 (.c 1 J0 (.k 0) .z)) Jt z (Jf q))).mpr (by walk_at "om")) (by decide)
 |_=>exact aa.bad
theorem xt(I:Inv B φ F σ s.heap)(ra:VR φ F s.heap a x):aa B A F X φ s (wD a σ) (call (.type "list") [x]) (RV F):=aa.opt λvs e=>aa.ite λhs=>by
 obtain⟨p,xs,rfl,⟨o,ho,hc,n,hd⟩,rl⟩:=aj I ra e;intro _
 have hz:xs.size<=sizeLine:=by
  have:=bu hs;rw[len_eq,←rl.length] at this;simp only[Array.length_toList] at this;unfold sizeLine;walk_at "om"
 rw[pz];refine call_list_seq p (.inl rfl) ho hc hd (λh' c' k g=>⟨φ++[(s.heap.objs.size,s.heap.objs.size)],?_,?_,?_⟩) hz
 ·exact Le.grow k (bz _) (bz _) rfl rfl
 ·exact I.newList k (bz _) g rl
 ·exact dk.mpr ⟨(s.heap.objs.size,s.heap.objs.size),by rw[←I.len];simp,rfl⟩
theorem uT(I:Inv B φ F σ s.heap)(ra:VR φ F s.heap a x):aa B A F X φ s (sH a σ) (call (.builtin "isinstance") [x,.type "int"]) (RV F):=by
 cases a with
 |int i=>exact aM ra λt=>aa.prim I λQ E q=>PySem.IsiPair.int_int (q _ _ (λ_ _ e=>e) rfl rfl VR.b)
 |str i=>exact aE ra λt=>aa.prim I λQ E q=>PySem.IsiPair.str_int (q _ _ (λ_ _ e=>e) rfl rfl VR.b)
 |_=>exact aa.bad
theorem uU(I:Inv B φ F σ s.heap)(ra:VR φ F s.heap a x):aa B A F X φ s (sI a σ) (call (.builtin "isinstance") [x,.type "str"]) (RV F):=by
 cases a with
 |int i=>exact aM ra λt=>aa.prim I λQ E q=>PySem.IsiPair.int_str (q _ _ (λ_ _ e=>e) rfl rfl VR.b)
 |str i=>exact aE ra λt=>aa.prim I λQ E q=>PySem.IsiPair.str_str (q _ _ (λ_ _ e=>e) rfl rfl VR.b)
 |_=>exact aa.bad
theorem uV{C:Value}(hK:B.K.In B.h0)(hC:kitOne B.K (.type "str") C=some false)(I:Inv B φ F σ s.heap)(ra:VR φ F s.heap a x):aa B A F X φ s (sJ a σ) (call (.builtin "isinstance") [x,C]) (RV F):=by
 cases a with
 |str i=>exact aE ra λt=>aa.prim I λQ E q=>kia_one kitx_str (hK.keeps I.base) trivial hC (by simp) λtk=>q _ _ (λ_ _ e=>e) rfl rfl VR.b
 |_=>exact aa.bad
end
open StrLaws in
theorem mr(s sub:Str)(hi:Nat):∀(l:List Nat)(st:Array Nat×Nat),1<=st.fst.size->(forIn l st (occBody s sub hi 1)).run.fst=st.fst
 |[],st,h=>rfl
 |a::l,st,h=>by
  rw[List.forIn_cons];unfold occBody;rw[if_neg (by walk_at "om")];exact mr s sub hi l _ h
open StrLaws in
theorem occ_first(s sub:Str)(hi:Nat):∀(l:List Nat)(free:Nat),(∀i∈l,free<=i)->
  (forIn l ((#[]:Array Nat),free) (occBody s sub hi 1)).run.fst.toList=(l.find? λi=>decide (i+sub.length<=hi/\Builtin.Str.subAt s sub i=true)).toList
 |[],free,_=>by simp
 |a::l,free,hf=>by
  rw[List.forIn_cons];have ha:free<=a:=hf a (List.mem_cons_self ..);rw[List.find?_cons];by_cases hc:a+sub.length<=hi/\Builtin.Str.subAt s sub a=true
  ·have c1:(((#[]:Array Nat),free).fst.size<1/\((#[]:Array Nat),free).snd<=a)/\a+sub.length<=hi:=⟨⟨by simp,ha⟩,hc.1⟩
   rw[decide_eq_true hc];unfold occBody;rw[if_pos ⟨c1,hc.2⟩]
   refine(?_:(forIn l ((#[]:Array Nat).push a,a+sub.length) (occBody s sub hi 1)).run.fst.toList=_)
   rw[mr s sub hi l _ (by simp)];rfl
  ·have c2:¬(((((#[]:Array Nat),free).fst.size<1/\((#[]:Array Nat),free).snd<=a)/\a+sub.length<=hi)/\Builtin.Str.subAt s sub a=true):=λh=>hc ⟨h.1.2,h.2⟩
   rw[decide_eq_false hc];have:=occ_first s sub hi l free λi FJ=>hf i (List.mem_cons_of_mem _ FJ);unfold occBody at this⊢;rw[if_neg c2];exact this
theorem rj(u:List Nat)(c:Nat):∀(k m:Nat),(List.range' k m).find? (λi=>decide (u[i]?=some c))=match fX c (u.drop k|>.take m) k with|some i=>some i|none=>none:=by
 intro k m
 induction m generalizing k with
 |zero=>simp[fX]
 |succ m ih=>
  rw[List.range'_succ,List.find?_cons]
  cases hd:u.drop k with
  |nil=>
   have hlen:u.length<=k:=by simpa using hd
   rw[List.getElem?_eq_none hlen];rw[ih]
   have:u.drop (k+1)=[]:=by simp;walk_at "om"
   rw[this];simp[fX]
  |cons b r=>
   have hb:u[k]?=some b:=by rw[←List.head?_drop,hd];rfl
   have hr:u.drop (k+1)=r:=by rw[←List.tail_drop,hd];rfl
   rw[hb];refine(?_:_=match cB (Nat.beq b c) (some k) (fX c (r.take m) (Nat.add k 1)) with|some i=>some i|none=>none);rw[dI];by_cases e:b=c
   ·subst e;rw[if_pos (Nat.beq_refl b)];simp
   ·rw[if_neg (λq=>e (Nat.eq_of_beq_eq_true q))]
    have:decide (some b=some c)=false:=by simp[e]
    rw[this];refine(?_:_=match fX c (r.take m) (k+1) with|some i=>some i|none=>none);rw[ih,hr]
theorem tC(u:List Nat)(c:Nat):Builtin.Str.occurrences (toS u) (toS [c]) 0 (toS u).length 1=(fX c u 0).toList:=by
 rw[StrLaws.occ_eq,occ_first _ _ _ _ _ (λ_ _=>Nat.zero_le _)]
 have e:(λi=>decide (i+(toS [c]).length<=(toS u).length/\Builtin.Str.subAt (toS u) (toS [c]) i=true))=λi=>decide (u[i]?=some c):=by
  funext i
  have:=StrLaws.subAt_one (toS u) c i
  have e2:(toS u).cps.toList=u:=by simp[toS]
  rw[e2] at this;exact decide_eq_decide.mpr this
 rw[e,rj]
 have:(List.take ((toS u).length+1-0) (List.drop 0 u))=u:=by rw[List.drop_zero,bc];exact List.take_of_length_le (by exact Jl [u.length,_] 1 (.c 1 (.p J0 1) (.p J1 0) .z) J0 J1 Jt (Jg (Nat.sub_add_cancel (Jl [u.length] 1 .z (.k 0) (.p J0 1) Jt))))
 rw[this]
 cases fX c u 0<;>rfl
theorem mu(p:Nat->Bool)(l:List Nat):ju p l=l.dropWhile p:=by
 induction l with
 |nil=>rfl
 |cons a l ih=>
  refine(?_:cB (p a) (ju p l) (a::l)=_);rw[dI,List.dropWhile_cons,ih]
theorem kK(p:Nat->Bool)(l:List Nat):l.drop (l.takeWhile p).length=l.dropWhile p:=by
 induction l with
 |nil=>rfl
 |cons a l ih=>
  rw[List.takeWhile_cons,List.dropWhile_cons];by_cases h:p a=true
  ·rw[if_pos h,if_pos h];exact ih
  ·rw[if_neg h,if_neg h];rfl
theorem jN(u:List Nat)(i j:Nat):Builtin.Str.strSub (toS u) i j=toS ((u.drop i).take (j-i)):=by
 apply Str.ext';refine(?_:(toS u).cps.extract i j=_);apply Array.ext';simp[toS,List.extract_eq_take_drop]
theorem iX(t:List Nat):(toS t).cps.contains=λc=>ia c t:=by
 funext c;rw[sN];simp[toS]
theorem rk(u t:List Nat):Txt.lstripChars (toS u) (toS t)=toS (ju (λc=>ia c t) u):=by
 unfold Txt.lstripChars;rw[Rows.stripBy_eq,jN,iX]
 have e:(toS u).cps.toList=u:=by simp[toS]
 unfold stripLo stripHi;rw[e,if_pos rfl,if_neg (by decide),mu,kK,bc]
 congr 1
 apply List.take_of_length_le;have:=congrArg List.length (List.takeWhile_append_dropWhile (p:=λc=>ia c t) (l:=u));rw[List.length_append] at this;exact Jl [_,_,u.length,_] 1 (.c 1 (.a J0 J1) J2 (.c 1 J2 (.a J3 J0) .z)) J1 J3 Jt (Jf this) (Jg (Nat.sub_add_cancel (Jl [_,_,u.length] 1 (.c 1 (.a J0 J1) J2 .z) J0 J2 Jt (Jf this))))
theorem rq(u t:List Nat):Txt.rstripChars (toS u) (toS t)=toS (rev (ju (λc=>ia c t) (rev u))):=by
 unfold Txt.rstripChars;rw[Rows.stripBy_eq,jN,iX]
 have e:(toS u).cps.toList=u:=by simp[toS]
 unfold stripLo stripHi;rw[e];simp only[Bool.false_eq_true,if_false,if_true,List.drop_zero,Nat.sub_zero];rw[mu,bc,rev_eq,rev_eq]
 congr 1
 have h1:u=((u.reverse.takeWhile λc=>ia c t)++(u.reverse.dropWhile λc=>ia c t)).reverse:=by rw[List.takeWhile_append_dropWhile,List.reverse_reverse]
 rw[List.reverse_append] at h1;have h2:=congrArg List.length h1;rw[List.length_append,List.length_reverse,List.length_reverse] at h2
 conv=>lhs;arg 2;rw[h1]
 rw[List.take_append_of_le_length (by rw[List.length_reverse];exact Jl [u.length,_,_,_] 1 (.c 1 J0 (.a J1 J2) (.c 1 (.a J3 J2) J0 .z)) J3 J1 Jt (Jf h2) (Jf (Nat.sub_add_cancel (Jl [_,_,u.length] 1 (.c 1 (.a J0 J1) J2 .z) J1 J2 Jt (Jg h2)))))];apply List.take_of_length_le;rw[List.length_reverse];exact Jl [_,_,u.length,_] 1 (.c 1 (.a J0 J1) J2 (.c 1 J2 (.a J3 J1) .z)) J0 J3 Jt (Jg h2) (Jg (Nat.sub_add_cancel (Jl [_,_,u.length] 1 (.c 1 (.a J0 J1) J2 .z) J1 J2 Jt (Jg h2))))
section
variable{B:Bg}{A:Around}{F X:List Addr}{φ:aS}{σ:LH}{s:Shared}{h:Heap}{a b:LV}{x y:Value}{E:Value->Shared->Prop}
noncomputable def MB(B:Bg)(A:Around)(F X:List Addr)(φ:aS)(s:Shared)(name:Str)(x:Value)(xs:List Value)(out:Out LV):Prop:=
 out≠.bad->∃T id,s.TypeIs x T/\PlainAttrs T/\Slot T name id/\typeOf (.builtin id)=pure (.type "method_descriptor")/\(∀a,x=.ref a->∃ob,s.heap.get? a=some ob/\ob.dict=none)/\
  aa B A F X φ s out (call (.builtin id) (x::xs)) (RV F)
theorem ff{o:LV}{f:Nat->List LV->Out LV}(h:dY o σ f≠.bad):∃r vs,o=.ref r/\σ[r]?=some (.list vs)/\dY o σ f=f r vs:=by
 unfold dY at h⊢
 cases o with
 |ref r=>
  change oN (bf σ r) (bC .bad (f r))≠.bad at h;change∃r_1 vs,LV.ref r=LV.ref r_1/\σ[r_1]?=some (.list vs)/\oN (bf σ r) (bC .bad (f r))=f r_1 vs;rw[aT] at h⊢;cases hs:σ[r]?with
  |none=>rw[hs] at h;exact absurd rfl h
  |some o=>
   rw[hs] at h
   cases o with
   |inst _ _=>exact absurd rfl h
   |list vs=>exact⟨r,vs,rfl,hs,rfl⟩
 |_=>exact absurd rfl h
theorem dq(I:Inv B φ F σ h){r:Nat}{vs:List LV}(hs:σ[r]?=some (.list vs))(ra:VR φ F h (.ref r) x):∃p xs n,φ[r]?=some p/\x=.ref p.1/\h.get? p.1=some (lobj xs n)/\aB φ F h vs xs.toList:=by
 refine iS ra λp hp=>?_;have ro:=I.ok r _ p hs hp;rw[OR] at ro;obtain⟨_,xs,n,ho,rs⟩:=ro;exact⟨p,xs,n,hp,rfl,ho,rs⟩
theorem dA{r:Nat}{vs ws:List LV}{p:Addr×Addr}{xs:Array Value}{n:Nat}{f:Array Value->Array Value}{v:LV}{z:Value}{t:Sem Value}(I:Inv B φ F σ s.heap)(hs:σ[r]?=some (.list vs))(hp:φ[r]?=some p)(ho:s.heap.get? p.1=some (lobj xs n))
  (uW:aB φ F s.heap ws (f xs).toList) (rv:VR φ F s.heap v z) (h:∀Q E,Q z {s with heap:=s.heap.update p.1 (Obj.mapSeq f)}->wpAny (model B.prog B.w) A t Q E s):
  aa B A F X φ s (.ok v (aW σ (.list ws) r)) t (RV F):=λ_=>by
 rw[fE];have g:=Heap.get?_update_self (Obj.mapSeq f) ho rfl;have fin:=I.A8 (X:=X) (s':={s with heap:=s.heap.update p.1 (Obj.mapSeq f)}) hs hp (λb hb=>Heap.get?_update_other _ _ (Ne.symm hb)) g uW rfl rfl;exact h _ _ ⟨φ,fin.2,fin.1,rv.mono fin.2⟩
theorem il{xs:Array Value}{vs:List LV}(r:aB φ F h vs xs.toList)(hs:small (len vs)=true):xs.size<=sizeLine/\xs.size<1000000:=by
 have:=bu hs;rw[len_eq,←r.length] at this;simp only[Array.length_toList] at this;unfold sizeLine;walk_at "om"
theorem uX{vs:List LV}{xs:List Value}(I:Inv B φ F σ s.heap)(ra:VR φ F s.heap a x)(rs:aB φ F s.heap vs xs):MB B A F X φ s "append" x xs (m1 fY a vs σ):=λhb=>by
 cases vs with
 |nil=>exact absurd rfl hb
 |cons v r=>
  cases r with
  |cons _ _=>exact absurd rfl hb
  |nil=>
   obtain⟨z,j8,rfl,rv,r'⟩:=aB.aH.mp rs;rw[aB.a8.mp r'];change fY a v σ≠.bad at hb;obtain⟨r,us,rfl,hs,e⟩:=ff hb;obtain⟨p,ys,n,hp,rfl,ho,rl⟩:=dq I hs ra;refine⟨"list",_,⟨_,ho,rfl⟩,PySem.F.plainAttrs_list,PySem.F.slot_list_append,PySem.F.type_list_append,λa e=>by cases e;exact⟨_,ho,rfl⟩,?_⟩;refine(?_:aa B A F X φ s (fY (.ref r) v σ) _ _);unfold fY;rw[e];refine aa.ite λgK=>?_;rw[bb];exact dA (f:=λq=>q.push z) I hs hp ho (by rw[Array.toList_push];exact rl.append (.one rv)) VR.n λQ E q=>
    call_meets PySem.F.slot_list_append ⟨_,ho,rfl⟩ PySem.F.entry_list_append (PySem.F.args_list_append_2 _ _) (AutoListH.list_append_list_val_0 p.1 ys n z (il rl gK).1) ⟨ho,q⟩
theorem nQ(l:Addr)(items:Array Value)(n:Nat)(b:Addr)(cW:Array Value)(n2:Nat)(Bo:Option Addr)(xf:Array (Option Value))(h1:items.size+cW.size<1000000):
  Meets (Builtin.«list.extend» ⟨[.ref l,.ref b],[]⟩) (λ_ R s=>s.heap.get? l=some (lobj items n)/\s.heap.get? b=some {cls:=.type "list",dict:=Bo,data:=.seq cW n2,slots:=xf}/\R (.ok (.ret Value.none)) {s with heap:=s.heap.update l (Obj.mapSeq λx=>x++cW),toks:=s.toks}):=
 .of_wp λprog w A R s h=>by
  obtain⟨hp,g,d,tk,os⟩:=s;obtain⟨hl,hb,h⟩:=h;refine(?_:wpAny _ _ (Builtin.List.listExtendWith (.ref l) (.ref b) .none) _ _ _);unfold Builtin.List.listExtendWith;refine wpAny_bind (wpAny_typeOf (T:="list") ⟨_,hb,rfl⟩ ?_)
  have hc:(Builtin.List.listSameRef (.ref l) (.ref b)||Value.type "list"==Value.type "list"||Value.type "list"==Value.type "tuple")=true:=by simp
  simp only[hc,if_true];refine wpAny_bind ?_;unfold Builtin.List.listItems;refine wpAny_bind (wpAny_seqItems hb rfl (wpAny_pure ?_));refine wpAny_bind ?_;refine wpAny_bind (wpAny_seqItems hl rfl (wpAny_pure ?_))
  have Ke:(!items.isEmpty&&Builtin.List.listTooLong (items.size+cW.size))=false:=by
   have:Builtin.List.listTooLong (items.size+cW.size)=false:=by unfold Builtin.List.listTooLong;exact decide_eq_false (by unfold sizeLine;walk_at "om")
   rw[this,Bool.and_false]
  refine(?_:wpAny _ _ (if(!items.isEmpty&&Builtin.List.listTooLong (items.size+cW.size))=true then _ else _) _ _ _);rw[if_neg (by rw[Ke];exact Bool.false_ne_true)];refine(?_:wpAny _ _ (updateSeq l (·++cW)>>=λ_=>ret .none) _ _ _);refine wpAny_bind (wpAny_updateSeq hl rfl ?_ (hz:=by unfold sizeLine;walk_at "om") (_hz':=by rw[Array.size_append];unfold sizeLine;walk_at "om"));exact wpAny_pure ⟨_,rfl,h⟩
end
theorem uY:∀{l:List LV}{p:LV×List LV},qI l=some p->l=p.2++[p.1]:=by
 intro l
 induction l with
 |nil=>intro p e;cases e
 |cons a r ih=>
  intro p e;change cL r (some (a,[])) (λ_ _=>cO (qI r) (λp=>some (p.1,a::p.2)) none)=some p at e
  cases r with
  |nil=>injection e with e;subst e;rfl
  |cons b q=>
   rw[Nd] at e
   cases h:qI (b::q) with
   |none=>rw[h] at e;cases e
   |some p'=>
    rw[h,lW] at e
    injection e with e;subst e
    refine(?_:a::(b::q)=a::p'.2++[p'.1]);rw[List.cons_append,←ih h]
section
variable{B:Bg}{A:Around}{F X:List Addr}{φ:aS}{σ:LH}{s:Shared}{h:Heap}{a b:LV}{x y:Value}{E:Value->Shared->Prop}
theorem pG(A':Around){i:Int}{t:Tok}:∀{l:List LV}{xs:List Value},aB φ F h l xs->allInts l=true->∀v,v∈xs->SeqAt.EqAt A' s v (.int i t) (match v with|.int q _=>q==i|_=>false):=by
 intro l
 induction l with
 |nil=>intro xs r _ v hv;rw[aB.a8.mp r] at hv;simp at hv
 |cons w l ih=>
  intro xs r ha v hv;obtain⟨x,j8,rfl,rx,rl⟩:=aB.aH.mp r
  cases w with
  |int q'=>
   obtain⟨u',rfl⟩:=gq.mp rx
   rcases List.mem_cons.mp hv with rfl|hv
   ·exact SeqAt.EqAt.int_int q' u' i t
   ·exact ih rl ha v hv
  |_=>cases ha
theorem rA(A':Around){i:Int}{t:Tok}:∀{l:List LV}{xs:List Value}(k:Nat){j:Nat},aB φ F h l xs->allInts l=true->gG i l k=some j->
  (∀v,v∈xs->SeqAt.EqAt A' s v (.int i t) (match v with|.int q _=>q==i|_=>false))/\
  ∃m,j=k+m/\∃hm:m<xs.length,(match xs[m] with|.int q _=>q==i|_=>false)=true/\∀m'(A9:m'<xs.length),m'<m->(match xs[m'] with|.int q _=>q==i|_=>false)=false:=by
 intro l
 induction l with
 |nil=>intro xs k j r _ e;cases e
 |cons v l ih=>
  intro xs k j r ha e;obtain⟨x,j8,rfl,rx,rl⟩:=aB.aH.mp r
  cases v with
  |int q=>
   refine aM rx λu=>?_;have Mc:allInts l=true:=ha;refine⟨λv hv=>?_,?_⟩
   ·rcases List.mem_cons.mp hv with rfl|hv
    ·exact SeqAt.EqAt.int_int q u i t
    ·exact pG A' rl Mc v hv
   ·change cB (oZ q i) (some k) (gG i l (k+1))=some j at e;rw[dI,nj] at e;by_cases hq:(q==i)=true
    ·rw[if_pos hq] at e
     injection e with e;subst e
     exact⟨0,rfl,by simp,hq,λm' _ h=>by exact Jx [m'] (.c 1 (.p J0 1) (.k 0) .z) Jt h⟩
    ·rw[if_neg hq] at e;obtain⟨_,m,e1,hm,h1,h2⟩:=ih (k+1) rl Mc e;refine⟨m+1,by exact Nat.le_antisymm (Jl [j,k,m] 1 (.c 1 J0 (.a (.p J1 1) J2) .z) J0 (.a J1 (.p J2 1)) Jt (Jf e1)) (Jl [k,m,j] 1 (.c 1 (.a (.p J0 1) J1) J2 .z) (.a J0 (.p J1 1)) J2 Jt (Jg e1)),by simpa using hm,by simpa using h1,λm' A9 eh=>?_⟩
     cases m' with
     |zero=>simpa using hq
     |succ m'=>simpa using h2 m' (by simpa using A9) (by exact Jl [m',m] 1 (.c 1 (.p (.p J0 1) 1) (.p J1 1) .z) (.p J0 1) J1 Jt eh)
  |_=>cases ha
theorem rB:∀{l:List LV}{xs:List Value}{u:List Nat},aB φ F h l xs->km l=some u->∃ts:List (Str×Tok),xs=strValues ts/\∃us:List (List Nat),ts.map (·.1)=us.map toS/\u=us.flatten:=by
 intro l
 induction l with
 |nil=>intro xs u r e;rw[aB.a8.mp r];injection e with e;subst e;exact⟨[],rfl,[],rfl,rfl⟩
 |cons v l ih=>
  intro xs u r e;obtain⟨x,j8,rfl,rx,rl⟩:=aB.aH.mp r
  cases v with
  |str q=>
   change cO (km l) (λp=>some (app q p)) none=some u at e
   cases hj:km l with
   |none=>rw[hj] at e;cases e
   |some p=>
    rw[hj,lW,bb] at e
    injection e with e;subst e
    refine aE rx λt=>?_;obtain⟨ts,rfl,us,h1,rfl⟩:=ih rl hj;exact⟨(toS q,t)::ts,rfl,q::us,by simp[h1],by simp⟩
  |_=>cases e
theorem uZ(us:List (List Nat)):Builtin.Str.glued (toS []) (us.map toS)=toS us.flatten:=by
 unfold Builtin.Str.glued;apply Str.ext';refine(?_:List.foldl (λacc p=>acc++(toS []).cps++p.cps) ((List.map toS us).headD Str.empty).cps ((List.map toS us).drop 1)=(toS us.flatten).cps)
 cases us with
 |nil=>rfl
 |cons q us=>
  simp only[List.map_cons,List.drop_succ_cons,List.drop_zero,List.headD_cons]
  have:∀(us:List (List Nat))(acc:Array Nat),List.foldl (λacc p=>acc++(toS []).cps++p.cps) acc (us.map toS)=acc++us.flatten.toArray:=by
   intro us
   induction us with
   |nil=>intro acc;simp
   |cons q us ih=>intro acc;rw[List.map_cons,List.foldl_cons,ih];apply Array.ext';simp[toS]
  rw[this];apply Array.ext';simp[toS]
theorem joinOk_of(us:List (List Nat))(hz:us.flatten.length<1000000):JoinOk (toS []) (us.map toS)=true:=by
 unfold JoinOk
 have:∀(us:List (List Nat))(k:Nat),(us.map toS).foldl (λk(x:Str)=>k+x.length+(toS []).length) k=k+us.flatten.length:=by
  intro us
  induction us with
  |nil=>intro k;simp
  |cons q us ih=>intro k;rw[List.map_cons,List.foldl_cons,ih,bc,bc];simp;exact Nat.le_antisymm (Jl [k,q.length,_] 1 .z (.a (.a J0 J1) J2) (.a J0 (.a J1 J2)) Jt) (Jl [k,q.length,_] 1 .z (.a J0 (.a J1 J2)) (.a (.a J0 J1) J2) Jt)
 have e:((us.map toS).toArray.foldl (λk(x:Str)=>k+x.length+(toS []).length) 0)=us.flatten.length:=by
  rw[←Array.foldl_toList];have:=this us 0;simpa using this
 rw[e];unfold Builtin.Str.tooLong;rw[Bool.not_eq_true'];exact decide_eq_false (by unfold sizeLine;walk_at "om")
theorem jC{name:Str}{vs:List LV}{xs:List Value}{g:LV->LV->LH->Out LV}(rs:aB φ F s.heap vs xs)(h:∀v z,VR φ F s.heap v z->MB B A F X φ s name x [z] (g a v σ)):MB B A F X φ s name x xs (m1 g a vs σ):=λhb=>by
 cases vs with
 |nil=>exact absurd rfl hb
 |cons v r=>
  cases r with
  |cons _ _=>exact absurd rfl hb
  |nil=>
   obtain⟨z,j8,rfl,rv,r'⟩:=aB.aH.mp rs;rw[aB.a8.mp r'];exact h v z rv hb
theorem tD{name:Str}{vs:List LV}{xs:List Value}{g:LV->LH->Out LV}(rs:aB φ F s.heap vs xs)(h:MB B A F X φ s name x [] (g a σ)):MB B A F X φ s name x xs (m0 g a vs σ):=λhb=>by
 cases vs with
 |nil=>rw[aB.a8.mp rs];exact h hb
 |cons v r=>exact absurd rfl hb
theorem u0{v:LV}{z:Value}(I:Inv B φ F σ s.heap)(ra:VR φ F s.heap a x)(rv:VR φ F s.heap v z):MB B A F X φ s "extend" x [z] (kq a v σ):=λhb=>by
 obtain⟨r,us,rfl,hs,e⟩:=ff hb;obtain⟨p,ys,n,hp,rfl,ho,rl⟩:=dq I hs ra;refine⟨"list",_,⟨_,ho,rfl⟩,PySem.F.plainAttrs_list,PySem.F.slot_list_extend,PySem.F.type_list_extend,λa e=>by cases e;exact⟨_,ho,rfl⟩,?_⟩;unfold kq;rw[e];refine aa.opt λws e2=>aa.ite λgK=>?_;obtain⟨b,FK,rfl,⟨⟨c2,Bo,R0,xf⟩,FD,xg,n2,hd2⟩,Kf⟩:=aj I rv e2;simp only at xg hd2;subst xg hd2;rw[bb]
 have hz:ys.size+FK.size<1000000:=by
  have:=bu gK;rw[len_eq,len_eq,←rl.length,←Kf.length] at this;simpa using this
 exact dA (f:=λq=>q++FK) I hs hp ho (by rw[Array.toList_append];exact rl.append Kf) VR.n λQ E q=>
  call_meets PySem.F.slot_list_extend ⟨_,ho,rfl⟩ PySem.F.entry_list_extend (PySem.F.args_list_extend_2 _ _) (nQ p.1 ys n b FK n2 Bo xf hz) ⟨ho,FD,q⟩
theorem FL(I:Inv B φ F σ s.heap)(ra:VR φ F s.heap a x):MB B A F X φ s "pop" x [] (wF a σ):=λhb=>by
 obtain⟨r,us,rfl,hs,e⟩:=ff hb;obtain⟨p,ys,n,hp,rfl,ho,rl⟩:=dq I hs ra;refine⟨"list",_,⟨_,ho,rfl⟩,PySem.F.plainAttrs_list,PySem.F.slot_list_pop,PySem.F.type_list_pop,λa e=>by cases e;exact⟨_,ho,rfl⟩,?_⟩;unfold wF;rw[e];refine aa.ite λgK=>aa.opt λq e2=>?_;have hq:=uY e2;have hl:=rl.length;rw[hq,List.length_append,List.length_singleton,Array.length_toList] at hl
 have Kg:us[ys.size-1]?=some q.1:=by rw[hq,hl];simp
 obtain⟨z,hz,rz⟩:=rl.get Kg;refine dA (f:=λxs=>xs.eraseIdxIfInBounds (ys.size-1)) I hs hp ho ?_ rz λQ E q=>
  call_meets PySem.F.slot_list_pop ⟨_,ho,rfl⟩ PySem.F.entry_list_pop (PySem.F.args_list_pop_1 _) (MeetsSeq.list_pop_last p.1 ys n z (by simpa using hz) (il rl gK).1) ⟨ho,q⟩
 have e3:(ys.eraseIdxIfInBounds (ys.size-1)).toList=ys.toList.take q.2.length:=by
  rw[Array.toList_eraseIdxIfInBounds,List.eraseIdx_eq_take_drop_succ,hl]
  have:ys.toList.drop (q.2.length+1-1+1)=[]:=by simp;exact Jl [ys.size,_] 1 (.c 1 J0 (.p J1 1) .z) J0 (.p J1 1) Jt (Jf hl)
  rw[this];simp
 rw[e3]
 have e4:q.2=us.take q.2.length:=by rw[hq];simp
 rw[e4]
 have e5:(us.take q.2.length).length=q.2.length:=by rw[←e4]
 rw[e5];exact rl.take _
theorem rC(I:Inv B φ F σ s.heap)(ra:VR φ F s.heap a x):MB B A F X φ s "reverse" x [] (jw a σ):=λhb=>by
 obtain⟨r,us,rfl,hs,e⟩:=ff hb;obtain⟨p,ys,n,hp,rfl,ho,rl⟩:=dq I hs ra;refine⟨"list",_,⟨_,ho,rfl⟩,PySem.F.plainAttrs_list,PySem.F.slot_list_reverse,PySem.F.type_list_reverse,λa e=>by cases e;exact⟨_,ho,rfl⟩,?_⟩;unfold jw;rw[e];refine aa.ite λgK=>?_;rw[rev_eq];exact dA (f:=λxs=>xs.reverse) I hs hp ho (by rw[Array.toList_reverse];exact rl.reverse) VR.n λQ E q=>
  call_meets PySem.F.slot_list_reverse ⟨_,ho,rfl⟩ PySem.F.entry_list_reverse (PySem.F.args_list_reverse_1 _) (AutoListH.list_reverse_list_0 p.1 ys n (il rl gK).1) ⟨ho,q⟩
theorem kL{name:Str}{u:List Nat}{t:Tok}{xs:List Value}{out:Out LV}{id:String}(sl:PySem.Slot "str" name id)(ty:typeOf (.builtin id)=pure (.type "method_descriptor"))
  (h:aa B A F X φ s out (call (.builtin id) (.str (toS u) t::xs)) (RV F)):MB B A F X φ s name (.str (toS u) t) xs out:=λ_=>
 ⟨"str",id,typeIs_str _ _ _,PySem.F.plainAttrs_str,sl,ty,(λ_ e=>nomatch e),h⟩
theorem xu{v:LV}{z:Value}(I:Inv B φ F σ s.heap)(ra:VR φ F s.heap a x)(rv:VR φ F s.heap v z):MB B A F X φ s "index" x [z] (sL a v σ):=λhb=>by
 have lists:a≠.none->(∀u,a≠.str u)->MB B A F X φ s "index" x [z] (ct .bad (λi=>dY a σ λ_ xs=>bN (band (allInts xs) (small (len xs))) (oN (gG i xs 0) λk=>.ok (.int (.ofNat k)) σ)) v):=λ_ _ hb=>by
  cases v with
  |int i=>
   refine aM rv λt=>?_;change dY a σ (λ_ xs=>bN (band (allInts xs) (small (len xs))) (oN (gG i xs 0) λk=>.ok (.int (.ofNat k)) σ))≠.bad at hb;obtain⟨r,us,rfl,hs,e⟩:=ff hb;obtain⟨p,ys,n,hp,rfl,ho,rl⟩:=dq I hs ra;refine⟨"list",_,⟨_,ho,rfl⟩,PySem.F.plainAttrs_list,PySem.F.slot_list_index,PySem.F.type_list_index,λa e=>by cases e;exact⟨_,ho,rfl⟩,?_⟩;refine(?_:aa B A F X φ s (dY (.ref r) σ λ_ xs=>bN (band (allInts xs) (small (len xs))) (oN (gG i xs 0) λk=>.ok (.int (.ofNat k)) σ)) _ _);rw[e];refine aa.ite λgK=>aa.opt λk e2=>?_;rw[bV,Bool.and_eq_true] at gK;obtain⟨f1,m,e3,hm,f2,f3⟩:=rA (s:=s) (t:=t) A.in1 0 rl gK.1 e2
   have A9:m<ys.size:=by simpa using hm
   have R1:k=m:=by exact Nat.le_antisymm (Jl [k,m] 1 (.c 1 J0 (.a (.k 0) J1) .z) J0 J1 Jt (Jf e3)) (Jl [m,k] 1 (.c 1 (.a (.k 0) J0) J1 .z) J0 J1 Jt (Jg e3))
   subst R1;refine aa.prim I λQ E q=>call_meets PySem.F.slot_list_index ⟨_,ho,rfl⟩ PySem.F.entry_list_index (PySem.F.args_list_index_2 _ _)
    (SeqAt.list_indexAt p.1 ys n none #[] (.int i t) (λv=>match v with|.int q _=>q==i|_=>false) k A9 (by have:=(il rl gK.2).2;walk_at "om") (by simpa using f2) (λm' h1 h2=>by have:=f3 m' (by simpa using h1) h2;rw[Array.getElem_toList] at this;exact this)) ⟨ho,λy hy=>f1 y (by simpa using hy),q _ _ (λ_ _ e=>e) rfl rfl VR.i⟩
  |_=>exact absurd rfl hb
 cases a with
 |str u=>
  refine aE ra λt=>?_
  cases v with
  |str w=>
   refine aE rv λt'=>?_
   cases w with
   |nil=>exact absurd rfl hb
   |cons c r=>
    cases r with
    |cons _ _=>exact absurd rfl hb
    |nil=>
     refine kL PySem.F.slot_str_index PySem.F.type_str_index ?_ hb;refine aa.opt λk e=>aa.prim I λQ E q=>?_;have ho:=tC u c;rw[e] at ho;exact call_gives PySem.F.slot_str_index (typeIs_str _ _ _) PySem.F.entry_str_index (PySem.F.args_str_index_2 _ _) (gives_str_index _ _ _ _ k [] ho) (q _ _ (λ_ _ e=>e) rfl rfl VR.i)
  |_=>exact absurd rfl hb
 |none=>exact absurd (by cases v<;>rfl) hb
 |_=>exact lists (by simp) (by simp) hb
theorem BJ{v:LV}{z:Value}(I:Inv B φ F σ s.heap)(ra:VR φ F s.heap a x)(rv:VR φ F s.heap v z):MB B A F X φ s "find" x [z] (wH a v σ):=λhb=>by
 cases a with
 |str u=>
  refine aE ra λt=>?_
  cases v with
  |str w=>
   refine aE rv λt'=>?_
   cases w with
   |nil=>exact absurd rfl hb
   |cons c r=>
    cases r with
    |cons _ _=>exact absurd rfl hb
    |nil=>
     refine kL PySem.F.slot_str_find PySem.F.type_str_find ?_ hb;have ho:=tC u c;refine(?_:aa B A F X φ s (cO (fX c u 0) (λk=>Out.ok (LV.int (.ofNat k)) σ) (Out.ok (LV.int (.negSucc 0)) σ)) _ _)
     cases hf:fX c u 0 with
     |none=>
      rw[hf] at ho;refine aa.prim I λQ E q=>call_gives PySem.F.slot_str_find (typeIs_str _ _ _) PySem.F.entry_str_find (PySem.F.args_str_find_2 _ _) (gives_str_find _ _ _ _) ?_;rw[ho];exact q _ _ (λ_ _ e=>e) rfl rfl VR.i
     |some k=>
      rw[hf] at ho;refine aa.prim I λQ E q=>call_gives PySem.F.slot_str_find (typeIs_str _ _ _) PySem.F.entry_str_find (PySem.F.args_str_find_2 _ _) (gives_str_find _ _ _ _) ?_;rw[ho];exact q _ _ (λ_ _ e=>e) rfl rfl VR.i
  |_=>exact absurd rfl hb
 |_=>exact absurd rfl hb
theorem BK{v:LV}{z:Value}(I:Inv B φ F σ s.heap)(ra:VR φ F s.heap a x)(rv:VR φ F s.heap v z):MB B A F X φ s "join" x [z] (wI a v σ):=λhb=>by
 cases a with
 |str u=>
  refine aE ra λt=>?_
  cases u with
  |cons _ _=>exact absurd rfl hb
  |nil=>
   refine kL PySem.F.slot_str_join PySem.F.type_str_join ?_ hb;refine aa.opt λxs e1=>aa.opt λw e2=>aa.ite λhs=>?_;obtain⟨D,ys,rfl,hl,rl⟩:=aj I rv e1;obtain⟨ts,e3,us,e4,rfl⟩:=rB rl e2;have hz:=bu hs;rw[len_eq] at hz;have AO:=joinOk_of us hz;rw[←e4] at AO;unfold JoinOk at AO;rw[Bool.not_eq_true'] at AO
   have NF:s.heap.IsList D (strValues ts).toArray:=by rw[←e3];simpa using hl
   refine aa.prim I λQ E q=>call_meets PySem.F.slot_str_join (typeIs_str _ _ _) PySem.F.entry_str_join (PySem.F.args_str_join_2 _ _) (meets_str_join_list _ t D ts AO) ⟨NF,post_join ts ⟨joinFit_length AO,λt' k=>q _ _ (λ_ _ e=>e) rfl rfl ?_⟩⟩;unfold Txt.join;rw[e4,uZ];exact VR.st
 |_=>exact absurd rfl hb
theorem u1{v:LV}{z:Value}(I:Inv B φ F σ s.heap)(ra:VR φ F s.heap a x)(rv:VR φ F s.heap v z):MB B A F X φ s "lstrip" x [z] (o8 a v σ):=λhb=>by
 cases a with
 |str u=>
  refine aE ra λt=>?_
  cases v with
  |str w=>
   refine aE rv λt'=>?_;refine kL PySem.F.slot_str_lstrip PySem.F.type_str_lstrip ?_ hb;refine aa.ite λhs=>?_;have hz:=bu hs;rw[len_eq] at hz;refine aa.prim I λQ E q=>call_gives PySem.F.slot_str_lstrip (typeIs_str _ _ _) PySem.F.entry_str_lstrip (PySem.F.args_str_lstrip_2 _ _) (gives_str_lstrip_chars _ _ _ _) (post_val_or_made (λ_=>fits_stripped _ _ _ (by rw[bc];unfold sizeLine;walk_at "om")) λt' k=>q _ _ (λ_ _ e=>e) rfl rfl (VR.j4 (rk u w)))
  |_=>exact absurd rfl hb
 |_=>exact absurd rfl hb
theorem u2{v:LV}{z:Value}(I:Inv B φ F σ s.heap)(ra:VR φ F s.heap a x)(rv:VR φ F s.heap v z):MB B A F X φ s "rstrip" x [z] (o9 a v σ):=λhb=>by
 cases a with
 |str u=>
  refine aE ra λt=>?_
  cases v with
  |str w=>
   refine aE rv λt'=>?_;refine kL PySem.F.slot_str_rstrip PySem.F.type_str_rstrip ?_ hb;refine aa.ite λhs=>?_;have hz:=bu hs;rw[len_eq] at hz;refine aa.prim I λQ E q=>call_gives PySem.F.slot_str_rstrip (typeIs_str _ _ _) PySem.F.entry_str_rstrip (PySem.F.args_str_rstrip_2 _ _) (gives_str_rstrip_chars _ _ _ _) (post_val_or_made (λ_=>fits_stripped _ _ _ (by rw[bc];unfold sizeLine;walk_at "om")) λt' k=>q _ _ (λ_ _ e=>e) rfl rfl (VR.j4 (rq u w)))
  |_=>exact absurd rfl hb
 |_=>exact absurd rfl hb
theorem FN{m:Bm}{vs:List LV}{xs:List Value}(I:Inv B φ F σ s.heap)(ra:VR φ F s.heap a x)(rs:aB φ F s.heap vs xs):MB B A F X φ s (jy m) x xs (jZ m a vs σ):=by
 cases m
 ·exact uX I ra rs
 ·exact jC rs λv z rv=>u0 I ra rv
 ·exact tD rs (FL I ra)
 ·exact tD rs (rC I ra)
 ·exact jC rs λv z rv=>xu I ra rv
 ·exact jC rs λv z rv=>BJ I ra rv
 ·exact jC rs λv z rv=>BK I ra rv
 ·exact jC rs λv z rv=>u1 I ra rv
 ·exact jC rs λv z rv=>u2 I ra rv
end
theorem l3:seqSlot? (.type "list") (dunderI "add")=pure (some (.builtin "list.__iadd__")):=PySem.seqSlot_of PySem.F.slot_list_iadd.lookup (by decide+kernel)
theorem ip:fillsInplaceSlot (.type "list") "add" (Operator.Add==.Add)=pure false:=by
 unfold fillsInplaceSlot;refine(?_:(typeLookup (.type "list") (dunderI "add")>>=λfi=>pure (fi.isSome&&!isSeqSlot fi))=pure false);rw[PySem.F.slot_list_iadd.lookup];refine(?_:(pure (true&&!isSeqSlot (some (.builtin "list.__iadd__"))):Sem Bool)=pure false);rw[show isSeqSlot (some (.builtin "list.__iadd__"))=true from by decide+kernel];rfl
theorem rD(l:Addr)(items:Array Value)(n:Nat)(b:Addr)(cW:Array Value)(n2:Nat)(Bo:Option Addr)(xf:Array (Option Value))(h1:items.size+cW.size<1000000):
  Meets (Builtin.«list.__iadd__» ⟨[.ref l,.ref b],[]⟩) (λ_ R s=>s.heap.get? l=some (lobj items n)/\s.heap.get? b=some {cls:=.type "list",dict:=Bo,data:=.seq cW n2,slots:=xf}/\R (.ok (.ret (.ref l))) {s with heap:=s.heap.update l (Obj.mapSeq λx=>x++cW),toks:=s.toks}):=
 .of_wp λprog w A R s h=>by
  obtain⟨hp,g,d,tk,os⟩:=s;obtain⟨hl,hb,h⟩:=h;refine(?_:wpAny _ _ (Builtin.List.listExtendWith (.ref l) (.ref b) (.ref l)) _ _ _);unfold Builtin.List.listExtendWith;refine wpAny_bind (wpAny_typeOf (T:="list") ⟨_,hb,rfl⟩ ?_)
  have hc:(Builtin.List.listSameRef (.ref l) (.ref b)||Value.type "list"==Value.type "list"||Value.type "list"==Value.type "tuple")=true:=by simp
  simp only[hc,if_true];refine wpAny_bind ?_;unfold Builtin.List.listItems;refine wpAny_bind (wpAny_seqItems hb rfl (wpAny_pure ?_));refine wpAny_bind ?_;refine wpAny_bind (wpAny_seqItems hl rfl (wpAny_pure ?_))
  have Ke:(!items.isEmpty&&Builtin.List.listTooLong (items.size+cW.size))=false:=by
   have:Builtin.List.listTooLong (items.size+cW.size)=false:=by unfold Builtin.List.listTooLong;exact decide_eq_false (by unfold sizeLine;walk_at "om")
   rw[this,Bool.and_false]
  refine(?_:wpAny _ _ (if(!items.isEmpty&&Builtin.List.listTooLong (items.size+cW.size))=true then _ else _) _ _ _);rw[if_neg (by rw[Ke];exact Bool.false_ne_true)];refine(?_:wpAny _ _ (updateSeq l (·++cW)>>=λ_=>ret (.ref l)) _ _ _);refine wpAny_bind (wpAny_updateSeq hl rfl ?_ (hz:=by unfold sizeLine;walk_at "om") (_hz':=by rw[Array.size_append];unfold sizeLine;walk_at "om"));exact wpAny_pure ⟨_,rfl,h⟩
section
variable{B:Bg}{A:Around}{F X:List Addr}{φ:aS}{σ:LH}{s:Shared}{h:Heap}{a b:LV}{x y:Value}{E:Value->Shared->Prop}
theorem xw(I:Inv B φ F σ s.heap)(ra:VR φ F s.heap a x)(rb:VR φ F s.heap b y):aa B A F X φ s (IY a b σ) (inplaceOp .Add x y) (RV F):=by
 cases a with
 |ref r=>
  change aa B A F X φ s (oN (bf σ r) (wC r b σ)) _ _;refine aa.opt λo e=>?_;rw[aT] at e
  cases o with
  |inst _ _=>exact aa.bad
  |list us=>
   refine aa.opt λws e2=>aa.ite λgK=>?_;obtain⟨p,ys,n,hp,rfl,ho,rl⟩:=dq I e ra;obtain⟨q,FK,rfl,⟨⟨c2,Bo,R0,xf⟩,FD,xg,n2,hd2⟩,Kf⟩:=aj I rb e2;simp only at xg hd2;subst xg hd2;rw[bb]
   have hz:ys.size+FK.size<1000000:=by
    have:=bu gK;rw[len_eq,len_eq,←rl.length,←Kf.length] at this;simpa using this
   refine dA (f:=λq=>q++FK) I e hp ho (by rw[Array.toList_append];exact rl.append Kf) ra λQ E q'=>?_;have T1:s.TypeIs (.ref p.1) "list":=⟨_,ho,rfl⟩;unfold inplaceOp;refine wpAny_holding ?_;refine wpAny_bind (wpAny_typeOf T1 (wpAny_bind (wpAny_of_eq ip ?_)));refine(?_:wpAny _ A (if false=true then _ else _) Q E s);rw[if_neg Bool.false_ne_true];refine wpAny_bind (wpAny_binaryOp1_none (nm:="add") T1 ⟨_,FD,rfl⟩ noFill_list_add ?_);refine wpAny_bind (wpAny_of_eq l3 ?_);exact wpAny_bind (wpAny_rule (call_meets PySem.F.slot_list_iadd T1 PySem.F.entry_list_iadd (PySem.F.args_list_iadd_2 _ _) (rD p.1 ys n q FK n2 Bo xf hz) ⟨ho,FD,q'⟩))
 |int i=>
  cases b with
  |int j=>
   refine aM ra λt=>?_;refine aM rb λu=>?_;exact aa.int (j7 i j).symm I λQ E q=>Rows.iadd_int q
  |bool p=>
   refine aM ra λt=>?_;rw[eG.mp rb];exact aa.ite λ_=>aa.int (i:=i+if p=true then(1:Int) else 0) (by cases p;exact Int.add_zero i;exact(j7 i 1).symm) I λQ E q=>PySem.iadd_int_bool q
  |_=>exact aa.bad
 |str u=>
  cases b with
  |str v=>
   refine aE ra λt=>?_;refine aE rb λt'=>?_;refine aa.ite λhs=>?_;rw[bb];have:=bu hs;rw[len_eq,len_eq] at this
   exact aa.FA (tf u v) I λQ E q=>SB.iadd q (by
    have h':u.length+v.length<1000000:=this
    rw[bc,bc];unfold sizeLine;walk_at "om")
  |_=>exact aa.bad
 |ag _=>exact aa.bad
 |_=>exact aa.bad
theorem xy(I:Inv B φ F σ s.heap)(ra:VR φ F s.heap a x)(rb:VR φ F s.heap b y):aa B A F X φ s (AX a b σ) (inplaceOp .Sub x y) (RV F):=
 aa.ints (t:=inplaceOp .Sub) ra rb λi j t u=>aa.int rfl I λQ E q=>Rows.isub_int q
theorem u3(I:Inv B φ F σ s.heap)(ra:VR φ F s.heap a x)(rb:VR φ F s.heap b y):aa B A F X φ s (sF a b σ) (inplaceOp .FloorDiv x y) (RV F):=
 aa.ints (t:=inplaceOp .FloorDiv) ra rb λi j t u=>aa.ite λh=>by
  have h1:=of_decide_eq_true (fF _ _▸kG h);have:=eH (nF h);exact aa.int rfl I λQ E q=>ifloordiv_int (by walk_at "om") q (Or.inl (noPylong_of_log2 (Nat.lt_trans ((Nat.log2_lt (k:=60) (by walk_at "om")).mpr (by walk_at "om")) (by decide))))
theorem xA(I:Inv B φ F σ s.heap)(ra:VR φ F s.heap a x)(rb:VR φ F s.heap b y):aa B A F X φ s (AY a b σ) (inplaceOp .Mod x y) (RV F):=
 aa.ints (t:=inplaceOp .Mod) ra rb λi j t u=>aa.ite λh=>by
  have h1:=of_decide_eq_true (fF _ _▸h);exact aa.int rfl I λQ E q=>imod_int (by walk_at "om") q
theorem xB(I:Inv B φ F σ s.heap)(ra:VR φ F s.heap a x)(rb:VR φ F s.heap b y):aa B A F X φ s (AZ a b σ) (inplaceOp .RShift x y) (RV F):=
 aa.nats (t:=inplaceOp .RShift) ra rb λm n t u=>aa.ite λh=>by
  refine aa.int (i:=(m:Int).fdiv (2^(n:Int).toNat)) ?_ I λQ E q=>irshift_int (by walk_at "om") q;refine(?_:(m:Int).fdiv (2^n)=((m/2^n:Nat):Int))
  have:((2:Int)^n)=((2^n:Nat):Int):=by push_cast;rfl
  rw[this,Int.ofNat_fdiv]
theorem tE{o:jo}{op:Operator}(Ka:jL o op=true)(I:Inv B φ F σ s.heap)(ra:VR φ F s.heap a x)(rb:VR φ F s.heap b y):aa B A F X φ s (dh o a b σ) (inplaceOp op x y) (RV F):=by
 cases of_decide_eq_true Ka;exact@jo.rec (λo=>aa B A F X φ s (dh o a b σ) (inplaceOp (Fs o) x y) (RV F)) (xw I ra rb) (xy I ra rb) aa.bad (u3 I ra rb) (xA I ra rb) aa.bad aa.bad (xB I ra rb) aa.bad aa.bad o
end
noncomputable def D8(φ:aS)(F:List Addr)(h:Heap)(env:Env)(N:NC)(ρ:List LV):Prop:=
 env.locals∈F/\ρ.length+1=N.names.length/\(∃m,h.Ns env.locals m)/\∀(i:Nat)(n:Str)(v:LV),N.names[i+1]?=some n->ρ[i]?=some v->
  N.kind n≠some .local/\(N.kind n=some .cell->∃x ca,env.cells.lookup n=some ca/\h.IsCell ca (some x)/\¬Own φ ca/\ca∉F/\VR φ F h v x)
noncomputable def oR(h:Heap)(it:Addr):LV->Value->Nat->Prop
 |.str u,x,i=>∃t,x=.str (toS u) t/\(((toS u).cps.all (·<128)=true/\h.IsStrIter it "str_ascii_iterator" (toS u) t i)∨((toS u).cps.all (·<128)=false/\h.IsStrIter it "str_iterator" (toS u) t i))
 |.tup _,x,i=>∃a,x=.ref a/\h.IsTupleIter it a i
 |.ag _,x,i=>∃a,x=.ref a/\h.IsListIter it a i
 |.ref _,x,i=>∃a,x=.ref a/\h.IsListIter it a i
 |_,_,_=>False
structure xC(B:Bg)(d:Nat)(N:NC)(A:Around)(F:List Addr)(φ:aS)(σ:LH)(s:Shared)(env:Env)(ρ:List LV)(it acc k:Nat)(v:LV)(z:Value)(i:Nat):Prop where
 xc:XC A F s.heap (B.x+d)
 ok:cJ N env
 lv:N.lv=1
 own:∃x r,N.names=x::r/\N.kind x=some .local
 inv:Inv B φ F σ s.heap
 Kh:it∈F
 ne:it≠env.locals
 nr:D8 φ F s.heap env N ρ
 rv:VR φ F s.heap v z
 ir:oR s.heap it v z i
 acc:φ[k]?=some (acc,acc)
inductive pH(B:Bg)(F:List Addr)(φ:aS)(s:Shared)(it L:Addr)(ax:LH)(s':Shared):Prop
 |mk (ak:aS) (s₁:Shared) (h':Heap) (e:s'={s₁ with heap:=h'}) (le:Le F [it,L] φ ak s s₁) (I:Inv B ak F ax s₁.heap) (ext:Heap.ExtBut it s₁.heap h') (ns:∃m,h'.Ns L m)
@[reducible] def D9(B:Bg)(F:List Addr)(φ:aS)(s:Shared)(it L:Addr)(k:Nat)(out:Out LV)(rr:Result)(s':Shared):Prop:=
 rr=.ok .next/\@Out.rec LV (λ_=>Prop) (λv ax=>v=.ref k/\pH B F φ s it L ax s') (λ_ _=>False) False out
noncomputable def Ea(B:Bg)(d:Nat)(r:Ev):Prop:=∀elt e N x sc pos iter tp A F φ σ s env ρ it acc k v z i,aJ B.nm N elt e=true->N.names.head?=some x->xC B d N A F φ σ s env ρ it acc k v z i->r.comp elt v i k ρ σ≠.bad->
 codeAny (model B.prog B.w) A (.compLoop (.ListComp e [⟨.Name x tp,iter,[],0⟩] sc pos) 0 (.ref it) (.ref acc) env) (D9 B F φ s it env.locals k (r.comp elt v i k ρ σ)) s
structure aA(B:Bg)(d:Nat)(r:Ev):Prop where
 e:∀e pe N,aJ B.nm N e pe=true->SE B d (r.e e) N pe
 t:∀e pe N,aJ B.nm N e pe=true->ST B d (r.t e) N pe
 es:∀es qA N,cU B.nm N es qA=true->SL B d (r.es es) N qA
 comp:Ea B d r
 nR:∀elt v i k ρ σ,r.comp elt v i k ρ σ≠.bad->∃o,item? v i σ=some o
 nil:∀ρ σ,r.es .nil ρ σ=.bad∨r.es .nil ρ σ=.ok [] σ
 Md:∀e pe N,aJ B.nm N e pe=true->∀A F φ σ s env ρ,fb B d N A F φ σ s env ρ->aa B A F [] φ s (r.es (.cons e .nil) ρ σ) (eval pe env) (λvs φ h z=>∃v,vs=[v]/\VR φ F h v z)
section
variable{B:Bg}{d:Nat}{N:NC}{r:Ev}
theorem BM(G:aA B d r)(P:dR){o:jo}{a b:Ex}{pe:Expr}(h:aJ B.nm N (.bin o a b) pe=true):SE B d (I8 o a b P r) N pe:=by
 refine w7 h λl op q pos h=>?_
 ·intro A F φ σ s env ρ c;have h1:=bL (bL h);have h2:=bR (bL h);have h3:=bR h;refine(?_:aa B A F [] φ s _ (do let a←eval l env;let b←holding [a] (eval q env);standAt pos;operate [a,b] (binaryOp op a b)) _);refine(G.e a l N h2 _ _ _ _ _ _ _ c).bind λva aG bG s1 x _ cf I1 ra=>?_;refine aa.bind (aa.holding (G.e b q N h3 _ _ _ _ _ _ _ (c.le cf I1))) λvb bU fN s2 y _ cR I2 rb=>?_;exact aa.at (aa.operate (Bx h1 I2 (ra.mono cR) rb))
theorem BN(G:aA B d r)(P:dR){a:Ex}{pe:Expr}(h:aJ B.nm N (.neg a) pe=true):SE B d (I9 a P r) N pe:=by
 refine w2 h λq pos h=>?_
 ·intro A F φ σ s env ρ c;refine(?_:aa B A F [] φ s _ (do let v←eval q env;standAt pos;holding [v] (unaryOp .USub v)) _);refine(G.e a q N h _ _ _ _ _ _ _ c).bind λva aG bG s1 x _ cf I1 ra=>aa.at (aa.holding ?_)
  cases va with
  |int i=>
   refine aM ra λt=>?_;exact aa.ite λ_=>aa.int rfl I1 λQ E q=>Rows.neg_int q
  |_=>exact aa.bad
theorem BO(G:aA B d r)(P:dR){a:Ex}{pe:Expr}(h:aJ B.nm N (.not a) pe=true):ST B d (Jm a r) N pe:=by
 refine w3 h λq pos h=>?_
 ·intro A F φ σ s env ρ c;refine(?_:aa B A F [] φ s _ (do let b←isTrue q env (eval q env);return !b) _);refine(G.t a q N h _ _ _ _ _ _ _ c).bind λva aG bG s1 x _ cf I1 ra=>?_;have:x=va:=ra;subst this;exact aa.ok I1 (by show(!x)=hZ x;simp)
end
noncomputable def aL:Expr->Bool
 |.UnaryOp .Not _ _=>true
 |.BoolOp ..=>true
 |.IfExp ..=>true
 |.Compare ..=>true
 |_=>false
set_option tactic.hygienic true in
theorem l4(pe:Expr)(env:Env)(whole:Sem Value)(h:aL pe=false):isTrue pe env whole=(do let v←whole;standAt pe.pos;holding [v] (truthy v)):=by
 cases pe<;>first|rfl|(cases h;done)|skip
 rename_i op _ _
 cases op<;>first|rfl|(cases h;done)
theorem cZ(T:Nm)(N:NC):∀(e:Ex)(pe:Expr),aJ T N e pe=true->∀x p,pe≠.Starred x p
 |.ag e,pe,h,x,p=>cZ T N e pe h x p
 |.none,pe,h,x,p=>by rintro rfl;exact absurd h Bool.false_ne_true
 |.bool _,pe,h,x,p=>by rintro rfl;exact absurd h Bool.false_ne_true
 |.int _,pe,h,x,p=>by rintro rfl;exact absurd h Bool.false_ne_true
 |.str _,pe,h,x,p=>by rintro rfl;exact absurd h Bool.false_ne_true
 |.var _,pe,h,x,p=>by rintro rfl;exact absurd h Bool.false_ne_true
 |.a7 _ _,pe,h,x,p=>by rintro rfl;exact absurd h Bool.false_ne_true
 |.bin _ _ _,pe,h,x,p=>by rintro rfl;exact absurd h Bool.false_ne_true
 |.neg _,pe,h,x,p=>by rintro rfl;exact absurd h Bool.false_ne_true
 |.not _,pe,h,x,p=>by rintro rfl;exact absurd h Bool.false_ne_true
 |.and _ _,pe,h,x,p=>by rintro rfl;exact absurd h Bool.false_ne_true
 |.or _ _,pe,h,x,p=>by rintro rfl;exact absurd h Bool.false_ne_true
 |.cmp _ _ _,pe,h,x,p=>by rintro rfl;exact absurd h Bool.false_ne_true
 |.hY _ _ _ _ _,pe,h,x,p=>by rintro rfl;exact absurd h Bool.false_ne_true
 |.ite _ _ _,pe,h,x,p=>by rintro rfl;exact absurd h Bool.false_ne_true
 |.call _ _,pe,h,x,p=>by rintro rfl;exact absurd h Bool.false_ne_true
 |.meth _ _ _ _,pe,h,x,p=>by rintro rfl;exact absurd h Bool.false_ne_true
 |.new _ _,pe,h,x,p=>by rintro rfl;exact absurd h Bool.false_ne_true
 |.ki _ _ _,pe,h,x,p=>by rintro rfl;exact absurd h Bool.false_ne_true
 |.bi b _,pe,h,x,p=>by rintro rfl;exact absurd h Bool.false_ne_true
 |.bm _ _ _,pe,h,x,p=>by rintro rfl;exact absurd h Bool.false_ne_true
 |.attr _ _ _,pe,h,x,p=>by rintro rfl;exact absurd h Bool.false_ne_true
 |.sub _ _,pe,h,x,p=>by rintro rfl;exact absurd h Bool.false_ne_true
 |.slice _ _ _,pe,h,x,p=>by rintro rfl;exact absurd h Bool.false_ne_true
 |.rev _,pe,h,x,p=>by rintro rfl;exact absurd h Bool.false_ne_true
 |.oW _ _,pe,h,x,p=>by rintro rfl;exact absurd h Bool.false_ne_true
 |.list _,pe,h,x,p=>by rintro rfl;exact absurd h Bool.false_ne_true
 |.tup _,pe,h,x,p=>by rintro rfl;exact absurd h Bool.false_ne_true
 |.comp _ _,pe,h,x,p=>by rintro rfl;exact absurd h Bool.false_ne_true
 |.stuck,pe,h,x,p=>by rintro rfl;exact absurd h Bool.false_ne_true
theorem cK{e:Expr}{r:List Expr}{env:Env}(h:∀x p,e≠.Starred x p):starEach (e::r) env=(false,eval e env)::starEach r env:=by
 cases e<;>first|rfl|exact absurd rfl (h _ _)
theorem eJ{pos:Pos}{t:Sem Value}{r:List (Bool×Sem Value)}:backTo pos ((false,t)::r)=(false,t)::backTo pos r:=rfl
section
variable{B:Bg}{d:Nat}{N:NC}{r:Ev}
theorem BP(G:aA B d r){e:Ex}{pe:Expr}(hs:aL pe=false)(h:aJ B.nm N e pe=true):ST B d (dZ e r) N pe:=λA F φ σ s env ρ c=>by
 rw[l4 pe env _ hs];refine(G.e e pe N h _ _ _ _ _ _ _ c).bind λva aG bG s1 x _ cf I1 ra=>aa.at (aa.holding (aa.opt λb hb=>?_));exact aa.prim I1 λQ E q=>iT ra hb (q _ _ (λ_ _ e=>e) rfl rfl rfl)
theorem xD:SL B d (Ju r) N []:=λA F φ σ s env ρ pos c=>aa.ok c.inv (aB.a8.mpr rfl)
theorem xE{a b:Bool}(h:(a&&b)=true):a=true/\b=true:=⟨bL h,bR h⟩
theorem u4(G:aA B d r){e:Ex}{es:dH}{pe:Expr}{qA:List Expr}(h:cU B.nm N (.cons e es) (pe::qA)=true):SL B d (DI e es r) N (pe::qA):=λA F φ σ s env ρ pos c=>by
 have h:=xE (show(aJ B.nm N e pe&&cU B.nm N es qA)=true from h);rw[cK (cZ _ _ _ _ h.1),eJ];refine(?_:aa B A F [] φ s _ (spliced ((false,eval pe env)::backTo pos (starEach qA env))) _);rw[spliced];simp only[Bool.false_eq_true,if_false];refine(G.e e pe N h.1 _ _ _ _ _ _ _ c).bind λva aG bG s1 x _ cf I1 ra=>?_;refine aa.pre (a:=[x]) (λ_ _ q=>wpAny_pure q) ?_;refine aa.bind (aa.holding (G.es es qA N h.2 _ _ _ _ _ _ _ pos (c.le cf I1))) λvs bU fN s2 xs _ cR I2 rs=>?_;exact aa.ok I2 (aB.aH.mpr ⟨x,xs,rfl,ra.mono cR,rs⟩)
theorem xF(G:aA B d r){a b:Ex}{pe:Expr}(h:aJ B.nm N (.and a b) pe=true):ST B d (Jo a b r) N pe:=by
 refine w4 h (λx y pos h=>?_) λx y z q pos h=>?_<;>intro A F φ σ s env ρ c<;>replace h:=bt h
 ·skip
  refine(?_:aa B A F [] φ s _ (do match BoolOp.And,←isTrue x env (eval x env) with|.And,false=>pure false|.Or,true=>pure true|_,_=>allTrue .And [y] env) _);refine(G.t a x N h.1 _ _ _ _ _ _ _ c).bind λva aG bG s1 x _ cf I1 ra=>?_;have:x=va:=ra;subst this
  cases x with
  |false=>exact aa.ok I1 rfl
  |true=>
   refine(?_:aa B A F [] bG s1 (r.t b ρ aG) (do match BoolOp.And,←isTrue y env (eval y env) with|.And,false=>pure false|.Or,true=>pure true|_,_=>allTrue .And [] env) _);intro hb;refine wpAny_bind (wpAny_mono (G.t b y N h.2 _ _ _ _ _ _ _ (c.le cf I1) hb) (λz s' hz=>?_) λ_ _ q=>q)
   cases z<;>exact wpAny_pure hz
 ·skip
  refine(?_:aa B A F [] φ s _ (do match BoolOp.And,←isTrue x env (eval x env) with|.And,false=>pure false|.Or,true=>pure true|_,_=>allTrue .And (y::z::q) env) _);refine(G.t a x N h.1 _ _ _ _ _ _ _ c).bind λva aG bG s1 x _ cf I1 ra=>?_;have:x=va:=ra;subst this
  cases x with
  |false=>exact aa.ok I1 rfl
  |true=>exact G.t b (.BoolOp .And (y::z::q) pos) N h.2 _ _ _ _ _ _ _ (c.le cf I1)
theorem BQ(G:aA B d r){a b:Ex}{pe:Expr}(h:aJ B.nm N (.or a b) pe=true):ST B d (P0 a b r) N pe:=by
 refine D3 h (λx y pos h=>?_) λx y z q pos h=>?_<;>intro A F φ σ s env ρ c<;>replace h:=bt h
 ·skip
  refine(?_:aa B A F [] φ s _ (do match BoolOp.Or,←isTrue x env (eval x env) with|.And,false=>pure false|.Or,true=>pure true|_,_=>allTrue .Or [y] env) _);refine(G.t a x N h.1 _ _ _ _ _ _ _ c).bind λva aG bG s1 x _ cf I1 ra=>?_;have:x=va:=ra;subst this
  cases x with
  |true=>exact aa.ok I1 rfl
  |false=>
   refine(?_:aa B A F [] bG s1 (r.t b ρ aG) (do match BoolOp.Or,←isTrue y env (eval y env) with|.And,false=>pure false|.Or,true=>pure true|_,_=>allTrue .Or [] env) _);intro hb;refine wpAny_bind (wpAny_mono (G.t b y N h.2 _ _ _ _ _ _ _ (c.le cf I1) hb) (λz s' hz=>?_) λ_ _ q=>q)
   cases z<;>exact wpAny_pure hz
 ·skip
  refine(?_:aa B A F [] φ s _ (do match BoolOp.Or,←isTrue x env (eval x env) with|.And,false=>pure false|.Or,true=>pure true|_,_=>allTrue .Or (y::z::q) env) _);refine(G.t a x N h.1 _ _ _ _ _ _ _ c).bind λva aG bG s1 x _ cf I1 ra=>?_;have:x=va:=ra;subst this
  cases x with
  |true=>exact aa.ok I1 rfl
  |false=>exact G.t b (.BoolOp .Or (y::z::q) pos) N h.2 _ _ _ _ _ _ _ (c.le cf I1)
theorem BR(G:aA B d r)(P:dR){a b:Ex}{pe:Expr}(h:aJ B.nm N (.and a b) pe=true):SE B d (E5 a b P r) N pe:=by
 have go:∀(x:Expr)(rest:List Expr)(pos:Pos),aJ B.nm N a x=true->(∀A F φ σ s env ρ,fb B d N A F φ σ s env ρ->aa B A F [] φ s (r.e b ρ σ) (boolOp pos .And (evalEach rest env)) (RV F))->rest≠[]->
   ∀A F φ σ s env ρ,fb B d N A F φ σ s env ρ->aa B A F [] φ s (E5 a b P r ρ σ) (boolOp pos .And (eval x env::evalEach rest env)) (RV F):=λx rest pos hx hb gY A F φ σ s env ρ c=>by
  have e:boolOp pos .And (eval x env::evalEach rest env)=(do
    let v←eval x env
    standAt pos
    let t←holding [v] (truthy v)
    match BoolOp.And,t with
    |.And,false|.Or,true=>pure v
    |_,_=>boolOp pos .And (evalEach rest env)):=by
   cases rest with
   |nil=>exact absurd rfl gY
   |cons y r=>rfl
  rw[e];refine(G.e a x N hx _ _ _ _ _ _ _ c).bind λva aG bG s1 x _ cf I1 ra=>aa.at (aa.opt λt ht=>?_);refine aa.pre (a:=t) (λQ E q=>wpAny_holding (iT ra ht q)) ?_
  cases t with
  |false=>exact aa.ok I1 ra
  |true=>exact hb _ _ _ _ _ _ _ (c.le cf I1)
 exact w4 h (λx y pos h=>go x [y] pos (bL h) (λA F φ σ s env ρ c=>G.e b y N (bR h) _ _ _ _ _ _ _ c) nofun) λx y z q pos h=>go x (y::z::q) pos (bL h) (λA F φ σ s env ρ c=>G.e b _ N (bR h) _ _ _ _ _ _ _ c) nofun
theorem FP(G:aA B d r)(P:dR){a b:Ex}{pe:Expr}(h:aJ B.nm N (.or a b) pe=true):SE B d (MP a b P r) N pe:=by
 have go:∀(x:Expr)(rest:List Expr)(pos:Pos),aJ B.nm N a x=true->(∀A F φ σ s env ρ,fb B d N A F φ σ s env ρ->aa B A F [] φ s (r.e b ρ σ) (boolOp pos .Or (evalEach rest env)) (RV F))->rest≠[]->
   ∀A F φ σ s env ρ,fb B d N A F φ σ s env ρ->aa B A F [] φ s (MP a b P r ρ σ) (boolOp pos .Or (eval x env::evalEach rest env)) (RV F):=λx rest pos hx hb gY A F φ σ s env ρ c=>by
  have e:boolOp pos .Or (eval x env::evalEach rest env)=(do
    let v←eval x env
    standAt pos
    let t←holding [v] (truthy v)
    match BoolOp.Or,t with
    |.And,false|.Or,true=>pure v
    |_,_=>boolOp pos .Or (evalEach rest env)):=by
   cases rest with
   |nil=>exact absurd rfl gY
   |cons y r=>rfl
  rw[e];refine(G.e a x N hx _ _ _ _ _ _ _ c).bind λva aG bG s1 x _ cf I1 ra=>aa.at (aa.opt λt ht=>?_);refine aa.pre (a:=t) (λQ E q=>wpAny_holding (iT ra ht q)) ?_
  cases t with
  |true=>exact aa.ok I1 ra
  |false=>exact hb _ _ _ _ _ _ _ (c.le cf I1)
 exact D3 h (λx y pos h=>go x [y] pos (bL h) (λA F φ σ s env ρ c=>G.e b y N (bR h) _ _ _ _ _ _ _ c) nofun) λx y z q pos h=>go x (y::z::q) pos (bL h) (λA F φ σ s env ρ c=>G.e b _ N (bR h) _ _ _ _ _ _ _ c) nofun
theorem fg{A:Around}{F:List Addr}{h:Heap}(x:XC A F h d):A.units+1<cLine:=by have:=x.units;exact Jl [A.units,d,cLine] 1 (.c 1 (.p (.p (.a J0 (.m 40 J1)) 20) 1) J2 .z) (.p (.p J0 1) 1) J2 Jt this
theorem BS(G:aA B d r)(P:dR){a b:Ex}{o:jY}{pe:Expr}(h:aJ B.nm N (.cmp a o b) pe=true):SE B d (Jb a o b P r) N pe:=by
 refine qW h λl op q pos h=>?_
 ·intro A F φ σ s env ρ c;have h1:=bL (bL (bL h));have h2:=bR (bL (bL h));have h3:=bR (bL h);have h4:=bF (bR h);rw[eval_Compare1,markedBehindIn_of_false h4];refine(G.e a l N h2 _ _ _ _ _ _ _ c).bind λva aG bG s1 x _ cf I1 ra=>?_;refine aa.bind (aa.holding (G.e b q N h3 _ _ _ _ _ _ _ (c.le cf I1))) λvb bU fN s2 y _ cR I2 rb=>?_;refine aa.at (aa.operate (aa.opt λt ht=>?_));exact aa.prim I2 λQ E q=>ij h1 (fg c.xc) I2 (ra.mono cR) rb ht (q _ _ (λ_ _ e=>e) rfl rfl VR.b)
theorem xG(G:aA B d r){a b:Ex}{o:jY}{pe:Expr}(h:aJ B.nm N (.cmp a o b) pe=true):ST B d (Jp a o b r) N pe:=by
 refine qW h λl op q pos h=>?_
 ·intro A F φ σ s env ρ c;have h1:=bL (bL (bL h));have h2:=bR (bL (bL h));have h3:=bR (bL h);have h4:=bF (bR h);rw[isTrue_Compare1,markedBehindIn_of_false h4];refine(G.e a l N h2 _ _ _ _ _ _ _ c).bind λva aG bG s1 x _ cf I1 ra=>?_;refine aa.bind (aa.holding (G.e b q N h3 _ _ _ _ _ _ _ (c.le cf I1))) λvb bU fN s2 y _ cR I2 rb=>?_;refine aa.at (aa.opt λt ht=>?_);refine aa.prim I2 λQ E q=>wpAny_bind (wpAny_operate' (ij h1 (fg c.xc) I2 (ra.mono cR) rb ht (wpAny_holding (wpAny_truthy_bool (q _ _ (λ_ _ e=>e) rfl rfl rfl)))))
theorem tF(NG NH:CmpOp)(m q:Expr)(env:Env)(h1:behindInMarks NG m=false)(h2:behindInMarks NH q=false):markedEach [NG,NH] [m,q] (evalEach [m,q] env)=[eval m env,eval q env]:=by
 have e:lastMarks [NG,NH] [m,q]=false:=h2;simp only[markedEach,evalEach,markedBehindIn_of_false h1,markedBehindIn_of_false h2]
theorem xH(G:aA B d r)(P:dR){a b e:Ex}{o p:jY}{pe:Expr}(h:aJ B.nm N (.hY a o b p e) pe=true):SE B d (DA a o b p e P r) N pe:=by
 refine sZ h λl op oq m q pos h=>?_
 ·intro A F φ σ s env ρ c;have h1:=bL (bL (bL (bL (bL (bL h)))));have h2:=bR (bL (bL (bL (bL (bL h)))));have h3:=bR (bL (bL (bL (bL h))));have h4:=bR (bL (bL (bL h)));have h5:=bR (bL (bL h));have h6:=bF (bR (bL h));have h7:=bF (bR h);refine(?_:aa B A F [] φ s _ (do compareChain pos (←eval l env) [op,oq] (markedEach [op,oq] [m,q] (evalEach [m,q] env))) _);rw[tF _ _ _ _ _ h6 h7];refine(G.e a l N h3 _ _ _ _ _ _ _ c).bind λva aG bG s1 x _ cf I1 ra=>?_
  refine(?_:aa B A F [] bG s1 _ (do
   let rv←holding [x] (eval m env)
   standAt pos
   let c←holding [x,rv] (compareOp op x rv)
   release [x,rv] [c]
   if←holding [c,rv] (truthy c) then compareChain pos rv [oq] [eval q env] else pure c) _)
  refine aa.bind (aa.holding (G.e b m N h4 _ _ _ _ _ _ _ (c.le cf I1))) λvb bU fN s2 y _ cR I2 rb=>?_;refine aa.at (aa.opt λt ht=>?_);refine aa.pre (a:=.bool t) (λQ E q=>wpAny_holding (ij h1 (fg c.xc) I2 (ra.mono cR) rb ht q)) ?_;refine aa.pre (a:=()) (λQ E q=>wpAny_release' q) ?_;refine aa.pre (a:=t) (λQ E q=>wpAny_holding (wpAny_truthy_bool q)) ?_
  cases t with
  |false=>exact aa.ok I2 VR.b
  |true=>
   refine(?_:aa B A F [] fN s2 (oB (r.e e ρ bU) λz σ=>oN (ao p vb z σ) λu=>Out.ok (LV.bool u) σ) (do
    let rv←holding [y] (eval q env)
    standAt pos
    operate [y,rv] (compareOp oq y rv)) _)
   refine aa.bind (aa.holding (G.e e q N h5 _ _ _ _ _ _ _ ((c.le cf I1).le cR I2))) λvc fT kb s3 z _ jO I3 rc=>?_;refine aa.at (aa.operate (aa.opt λt ht=>?_));exact aa.prim I3 λQ E q=>ij h2 (fg c.xc) I3 (rb.mono jO) rc ht (q _ _ (λ_ _ e=>e) rfl rfl VR.b)
theorem u5(G:aA B d r){a b e:Ex}{o p:jY}{pe:Expr}(h:aJ B.nm N (.hY a o b p e) pe=true):ST B d (DH a o b p e r) N pe:=by
 refine sZ h λl op oq m q pos h=>?_
 ·intro A F φ σ s env ρ c;have h1:=bL (bL (bL (bL (bL (bL h)))));have h2:=bR (bL (bL (bL (bL (bL h)))));have h3:=bR (bL (bL (bL (bL h))));have h4:=bR (bL (bL (bL h)));have h5:=bR (bL (bL h));have h6:=bF (bR (bL h));have h7:=bF (bR h);refine(?_:aa B A F [] φ s _ (do testChain pos (←eval l env) [op,oq] (markedEach [op,oq] [m,q] (evalEach [m,q] env))) _);rw[tF _ _ _ _ _ h6 h7];refine(G.e a l N h3 _ _ _ _ _ _ _ c).bind λva aG bG s1 x _ cf I1 ra=>?_
  refine(?_:aa B A F [] bG s1 _ (do
   let rv←holding [x] (eval m env)
   standAt pos
   let c←holding [x,rv] (compareOp op x rv)
   release [x,rv] [c]
   if←holding [c,rv] (truthy c) then testChain pos rv [oq] [eval q env] else pure false) _)
  refine aa.bind (aa.holding (G.e b m N h4 _ _ _ _ _ _ _ (c.le cf I1))) λvb bU fN s2 y _ cR I2 rb=>?_;refine aa.at (aa.opt λt ht=>?_);refine aa.pre (a:=.bool t) (λQ E q=>wpAny_holding (ij h1 (fg c.xc) I2 (ra.mono cR) rb ht q)) ?_;refine aa.pre (a:=()) (λQ E q=>wpAny_release' q) ?_;refine aa.pre (a:=t) (λQ E q=>wpAny_holding (wpAny_truthy_bool q)) ?_
  cases t with
  |false=>exact aa.ok I2 rfl
  |true=>
   refine(?_:aa B A F [] fN s2 (oB (r.e e ρ bU) λz σ=>oN (ao p vb z σ) λu=>.ok u σ) (do
    let rv←holding [y] (eval q env)
    standAt pos
    let c←operate [y,rv] (compareOp oq y rv)
    holding [c] (truthy c)) _)
   refine aa.bind (aa.holding (G.e e q N h5 _ _ _ _ _ _ _ ((c.le cf I1).le cR I2))) λvc fT kb s3 z _ jO I3 rc=>?_;refine aa.at (aa.opt λt ht=>?_);exact aa.prim I3 λQ E q=>wpAny_bind (wpAny_operate' (ij h2 (fg c.xc) I3 (rb.mono jO) rc ht (wpAny_holding (wpAny_truthy_bool (q _ _ (λ_ _ e=>e) rfl rfl rfl)))))
theorem BU(G:aA B d r)(P:dR){a b e:Ex}{pe:Expr}(h:aJ B.nm N (.ite e a b) pe=true):SE B d (Jc e a b P r) N pe:=by
 refine w8 h λt x y pos h=>?_
 ·intro A F φ σ s env ρ c;have h1:=bL (bL h);have h2:=bR (bL h);have h3:=bR h;refine(?_:aa B A F [] φ s _ (do if←isTrue t env (eval t env) then eval x env else eval y env) _);refine(G.t e t N h1 _ _ _ _ _ _ _ c).bind λva aG bG s1 z _ cf I1 ra=>?_;have:z=va:=ra;subst this
  cases z with
  |false=>exact G.e b y N h3 _ _ _ _ _ _ _ (c.le cf I1)
  |true=>exact G.e a x N h2 _ _ _ _ _ _ _ (c.le cf I1)
theorem xI(G:aA B d r){a b e:Ex}{pe:Expr}(h:aJ B.nm N (.ite e a b) pe=true):ST B d (Jq e a b r) N pe:=by
 refine w8 h λt x y pos h=>?_
 ·intro A F φ σ s env ρ c;have h1:=bL (bL h);have h2:=bR (bL h);have h3:=bR h;refine(?_:aa B A F [] φ s _ (do if←isTrue t env (eval t env) then isTrue x env (eval x env) else isTrue y env (eval y env)) _);refine(G.t e t N h1 _ _ _ _ _ _ _ c).bind λva aG bG s1 z _ cf I1 ra=>?_;have:z=va:=ra;subst this
  cases z with
  |false=>exact G.t b y N h3 _ _ _ _ _ _ _ (c.le cf I1)
  |true=>exact G.t a x N h2 _ _ _ _ _ _ _ (c.le cf I1)
end
structure Fy(B:Bg):Prop extends Fx B where
 hK:B.K.In B.h0
 cls:∀c,B.bK c≠[]->tA B c
theorem iY{ox:Expr}{n:Str}{env:Env}{whole:Sem Value}(h:isCall ox=false):attributeBase ox n env whole=whole:=by
 cases ox<;>first|rfl|cases h
section
variable{B:Bg}{A:Around}{F X:List Addr}{φ:aS}{s s4:Shared}{α β lY:Type}
theorem aa.make{out:Out α}{u:Sem lY}{g:lY->Sem β}{R:α->aS->Heap->β->Prop}{a:lY}(hu:∀(Q:lY->Shared->Prop) E,Q a s4->wpAny (model B.prog B.w) A u Q E s)
  (k:∀b o,s.heap.get? b=some o->s4.heap.get? b=some o) (hg:s4.gens=s.gens) (ho:s4.os=s.os) (x:aa B A F X φ s4 out (g a) R):aa B A F X φ s out (u>>=g) R:=λhb=>
 have le:Le F X φ φ s s4:=.of_keeps k hg ho
 wpAny_bind (hu _ _ (x.from le hb))
theorem aa.post{out:Out α}{t:Sem β}{R:α->aS->Heap->β->Prop}(x:aa B A F X φ s out t R){t':Sem β}(h:∀Q E,wpAny (model B.prog B.w) A t Q E s->wpAny (model B.prog B.w) A t' Q E s):aa B A F X φ s out t' R:=λhb=>h _ _ (x hb)
end
section
variable{B:Bg}{d:Nat}{N:NC}{r:Ev}
set_option tactic.hygienic true in
theorem xJ(fy:Fy B)(G:aA B d r)(P:dR){c j:Nat}{o:Ex}{pe:Expr}(h:aJ B.nm N (.attr c j o) pe=true):SE B d (DF c j o P r) N pe:=by
 refine tc h λox n pos h=>?_
 ·intro A F φ σ s env ρ cx;have h1:=bL (bL h);have h2:=bF (bR (bL h));have h3:=bR h
  split at h1
  ·rename_i fn Me;have:=eq_of_beq h1;subst this
   refine(?_:aa B A F [] φ s _ (do
    let o←attributeBase ox fn env (eval ox env)
    standAt pos.atName
    let r←holding [o] (getAttr o fn true)
    letTemporaryGo ox o r
    pure r) _)
   rw[iY h2];refine(G.e o ox N h3 _ _ _ _ _ _ _ cx).bind λva aG bG s1 x _ cf I1 ra=>aa.at (aa.opt λv hv=>?_)
   have gY:B.bK c≠[]:=λq=>by
    have:(B.nm.bK c)[j]?=none:=by rw[show B.nm.bK c=[] from q];rfl
    rw[Me] at this;cases this
   exact aa.prim I1 λQ E q=>wpAny_bind (wpAny_holding (tB fy.hK (fy.cls c gY) I1 ra hv Me λz rz=>wpAny_bind (wpAny_letTemporaryGo (wpAny_pure (q _ _ (λ_ _ e=>e) rfl rfl rz)))))
  ·cases h1
theorem BV(G:aA B d r)(P:dR){o i:Ex}{pe:Expr}(h:aJ B.nm N (.sub o i) pe=true):SE B d (Jh o i P r) N pe:=by
 refine w9 h λox ix pos h=>?_
 ·intro A F φ σ s env ρ cx;replace h:=bt h;rw[eval_Subscript];refine(G.e o ox N h.1 _ _ _ _ _ _ _ cx).bind λva aG bG s1 x _ cf I1 ra=>?_;refine aa.bind (aa.holding (G.e i ix N h.2 _ _ _ _ _ _ _ (cx.le cf I1))) λvb bU fN s2 y _ cR I2 rb=>aa.at (aa.opt λv hv=>?_);refine aa.prim I2 λQ E q=>?_;obtain⟨⟨T,id,hT,hl⟩,hw⟩:=FH (prog:=B.prog) (w:=B.w) (A:=A) (E:=E) (Q:=Q) (ra.mono cR) rb I2 hv λz k rz=>q _ _ (λ_ _ e=>e) rfl rfl rz;exact iW hT hl hw
theorem mv(G:aA B d r){A:Around}{F:List Addr}{φ:aS}{σ:LH}{s:Shared}{env:Env}{ρ:List LV}(c:fb B d N A F φ σ s env ρ):aa B A F [] φ s (r.e .none ρ σ) (pure .none) (RV F):=
 G.e .none (.Constant .none 0 default) N rfl _ _ _ _ _ _ _ c
theorem rE(G:aA B d r)(P:dR){o lo hi:Ex}{ox:Expr}{l h':Option Expr}{p pos:Pos}(ho:aJ B.nm N o ox=true)
  (NI:∀A F φ σ s env ρ,fb B d N A F φ σ s env ρ->aa B A F [] φ s (r.e lo ρ σ) (valueOrNone (evalOpt l env)) (RV F)) (R2:∀A F φ σ s env ρ,fb B d N A F φ σ s env ρ->aa B A F [] φ s (r.e hi ρ σ) (valueOrNone (evalOpt h' env)) (RV F)):
  SE B d (qJ o lo hi P r) N (.Subscript ox (.Slice l h' none p) pos):=λA F φ σ s env ρ cx=>by
 rw[eval_Subscript];refine(G.e o ox N ho _ _ _ _ _ _ _ cx).bind λva aG bG s1 x _ cf I1 ra=>?_
 refine(?_:aa B A F [] bG s1 _ (holding [x] (do
   let l←valueOrNone (evalOpt l env)
   let u←holding [l] (valueOrNone (evalOpt h' env))
   let s←holding [l,u] (pure .none)
   newFields "slice" [l,u,s])>>=λi=>do
    standAt pos
    let r←subscripted (.Slice l h' none p) (←getitemInPython x) x i
    letTemporaryGo ox x r
    pure r) _)
 have e:(oB (r.e lo ρ aG) λl σ=>oB (r.e hi ρ σ) λh σ=>bA va l h σ)=oB (oB (r.e lo ρ aG) λl σ=>oB (r.e hi ρ σ) λh σ=>(.ok (l,h) σ:Out (LV×LV))) λp σ=>bA va p.1 p.2 σ:=by
  cases r.e lo ρ aG with
  |bad=>rfl
  |err _ _=>rfl
  |ok l σ=>
   rw[A6,A6]
   cases r.e hi ρ σ<;>rfl
 refine(?_:aa B A F [] bG s1 (oB (r.e lo ρ aG) λl σ=>oB (r.e hi ρ σ) λh σ=>bA va l h σ) _ _);rw[e];refine aa.bind (R:=λ(p:LV×LV) φ h i=>∃a y z,i=.ref a/\h.IsSliceOf a y z .none/\VR φ F h p.1 y/\VR φ F h p.2 z) (aa.holding ?_) λpr fT kb s3 i _ jO I3 R3=>?_
 ·refine aa.bind (NI _ _ _ _ _ _ _ (cx.le cf I1)) λvl bU fN s2 y _ cR I2 rl=>?_;refine aa.bind (aa.holding (R2 _ _ _ _ _ _ _ ((cx.le cf I1).le cR I2))) λvh fT kb s3 z _ jO I3 rh=>?_;refine aa.pre (a:=.none) (λQ E q=>wpAny_holding (wpAny_pure q)) ?_
  have k:∀b o,s3.heap.get? b=some o->(s3.heap.push {cls:=.type "slice",data:=.fields #[y,z,.none]}).get? b=some o:=λb o e=>Heap.get?_push_of_some _ e
  exact λ_=>wpAny_newObj_type ⟨kb,.of_keeps k rfl rfl,I3.keeps k,s3.heap.objs.size,y,z,rfl,Heap.IsSliceOf.new ..,(rl.mono jO).keeps k,rh.keeps k⟩
 ·obtain⟨sl,y,z,rfl,hs,Qm,Qn⟩:=R3;obtain⟨vl,vh⟩:=pr;have Qo:=ra.mono jO;refine aa.at ?_
  have lists:∀vs,listOf? va fT=some vs->aa B A F [] kb s3 (cT vs vl vh fT) (do
    let r←subscripted (.Slice l h' none p) (←getitemInPython x) x (.ref sl)
    letTemporaryGo ox x r
    pure r) (RV F):=λvs e=>aa.ite λgK=>aa.opt λa ha=>aa.opt λb hb=>by
   obtain⟨q,xs,rfl,hl,H5⟩:=aj I3 Qo e;obtain⟨o1,p1,e1⟩:=tw Qm ha;obtain⟨o2,p2,e2⟩:=tw Qn hb
   have hn:len vs=xs.size:=by rw[len_eq];have:=H5.length;simp at this;exact this.symm
   have ea:a=eI o1 xs.size:=by rw[e1,hn];cases o1<;>rfl
   have eb:b=dp o2 xs.size:=by rw[e2,hn];cases o2<;>rfl
   have hz:=(il H5 gK).1;refine aa.pA (xs:=slicePick xs o1 o2 none) I3 ?_ λQ E hq=>iW hl.typeIs list_getitem_lookup (wpAny_getItem_list_slice hl hs p1 p2 .none (by simp) (hq s3.toks 0) hz);rw[lZ,ea,eb,gu,gu];exact(H5.drop _).take _
  cases va with
  |str u=>
   refine aE Qo λt=>?_;refine aa.ite λgK=>aa.opt λa ha=>aa.opt λb hb=>?_;obtain⟨o1,p1,e1⟩:=xn Qm ha;obtain⟨o2,p2,e2⟩:=xn Qn hb;have hz:=bu gK;rw[len_eq] at hz
   have ea:a=eI o1 u.length:=by rw[e1,len_eq];cases o1<;>rfl
   have eb:b=dp o2 u.length:=by rw[e2,len_eq];cases o2<;>rfl
   refine aa.prim I3 λQ E q=>iW (typeIs_str _ _ t) PySem.F.slot_str_getitem.lookup (kH hs p1 p2 (by unfold sizeLine;walk_at "om") λt' k=>q _ _ (λ_ _ e=>e) rfl rfl ?_);rw[ea,eb];exact VR.st
  |ag vs=>exact lists vs rfl
  |ref i=>exact aa.opt λvs e=>lists vs e
  |_=>exact aa.bad
theorem u6(G:aA B d r)(P:dR){o lo hi:Ex}{pe:Expr}(h:aJ B.nm N (.slice o lo hi) pe=true):SE B d (qJ o lo hi P r) N pe:=by
 refine pv h λox l u sp pos h=>?_;have h2:=bR (bL h);have h3:=bR h;refine rE G P (bL (bL h)) (λA F φ σ s env ρ c=>?_) (λA F φ σ s env ρ c=>?_)
 ·cases l with
  |none=>cases lo<;>first|exact mv G c|exact absurd h2 Bool.false_ne_true
  |some e=>exact G.e _ _ N h2 _ _ _ _ _ _ _ c
 ·cases u with
  |none=>cases hi<;>first|exact mv G c|exact absurd h3 Bool.false_ne_true
  |some e=>exact G.e _ _ N h3 _ _ _ _ _ _ _ c
theorem BW(G:aA B d r)(P:dR){o:Ex}{pe:Expr}(h:aJ B.nm N (.rev o) pe=true):SE B d (Ji o P r) N pe:=by
 refine w6 h λox k p1 p2 p3 pos h=>?_
 ·intro A F φ σ s env ρ cx;rw[eval_Subscript];refine(G.e o ox N h _ _ _ _ _ _ _ cx).bind λva aG bG s1 x _ cf I1 ra=>aa.opt λvs e=>aa.ite λgK=>?_;obtain⟨q,xs,rfl,hl,H5⟩:=aj I1 ra e;have hz:=(il H5 gK).1
  have kk:∀b o,s1.heap.get? b=some o->(s1.heap.push {cls:=.type "slice",data:=.fields #[.none,.none,.int (-1) (s1.toks+1)]}).get? b=some o:=λb o e=>Heap.get?_push_of_some _ e
  refine aa.make (s4:={s1 with heap:=s1.heap.push {cls:=.type "slice",data:=.fields #[.none,.none,.int (-1) (s1.toks+1)]},toks:=s1.toks+1+1}) (a:=.ref s1.heap.objs.size) (λQ E q=>?_) kk rfl rfl ?_
  ·refine wpAny_holding (wpAny_Slice (wpAny_pure (wpAny_pure ?_)));refine(?_:wpAny _ _ (eval (.UnaryOp .USub (.Constant (.int 1) k p1) p2) env) _ _ s1);refine(?_:wpAny _ _ (do let v←eval (.Constant (.int 1) k p1) env;standAt p2;holding [v] (unaryOp .USub v)) _ _ s1);refine wpAny_bind (wpAny_mkInt (wpAny_bind (wpAny_standAt (wpAny_holding (Rows.neg_int ?_)))));exact q
  ·have I4:=I1.keeps kk
   have Qp:(s1.heap.push {cls:=.type "slice",data:=.fields #[.none,.none,.int (-1) (s1.toks+1)]}).IsList q xs:=hl.push _
   refine aa.at ?_;refine aa.pA (xs:=slicePick xs none none (some (-1))) I4 ?_ λQ E hq=>iW Qp.typeIs list_getitem_lookup (wpAny_getItem_list_slice Qp (Heap.IsSliceOf.new ..) .none .none (.int (-1) _) (by simp) (hq _ 0) hz);rw[krv_pick,rev_eq];exact(H5.keeps kk).reverse
theorem xK(G:aA B d r)(P:dR){es:dH}{pe:Expr}(h:aJ B.nm N (.list es) pe=true):SE B d (eList es P r) N pe:=by
 refine td h λelts pos h=>?_
 ·intro A F φ σ s env ρ cx;refine(?_:aa B A F [] φ s _ (do standAt pos;newList (←spliced (backTo pos (starEach elts env)))) _);refine aa.at ((G.es es elts N h _ _ _ _ _ _ _ pos cx).bind λvs aG bG s1 xs _ cf I1 rs=>aa.ite λgK=>?_)
  have hz:xs.length<=sizeLine:=by
   have:=bu gK;rw[len_eq,←rs.length] at this;unfold sizeLine;walk_at "om"
  exact aa.pA (xs:=xs.toArray) I1 (by simpa using rs) λQ E q=>wpAny_newObj_type (q _ 0) (by show xs.toArray.size<=sizeLine;simpa using hz)
theorem BX(G:aA B d r)(P:dR){es:dH}{pe:Expr}(h:aJ B.nm N (.tup es) pe=true):SE B d (Jj es P r) N pe:=by
 refine xa h λelts k pos h=>?_
 ·intro A F φ σ s env ρ cx;refine(?_:aa B A F [] φ s _ (do standAt pos;newTuple (←spliced (backTo pos (starEach elts env)))) _);refine aa.at ((G.es es elts N h _ _ _ _ _ _ _ pos cx).bind λvs aG bG s1 xs _ cf I1 rs=>aa.ite λgK=>?_)
  have Ki:Nat.blt 0 (len vs)=true/\small (len vs)=true:=by rwa [bV,Bool.and_eq_true] at gK
  have hz:xs.length<=sizeLine:=by
   have:=bu Ki.2;rw[len_eq,←rs.length] at this;unfold sizeLine;walk_at "om"
  have gY:xs≠[]:=λe=>by
   have:=rs.length;have h0:=cV Ki.1;rw[len_eq,←this,e] at h0;simp at h0
  have kk:∀b o,s1.heap.get? b=some o->(s1.heap.push {cls:=.type "tuple",data:=.seq xs.toArray}).get? b=some o:=λb o e=>Heap.get?_push_of_some _ e;refine aa.prim I1 λQ E q=>?_
  have:newTuple xs=newObj (.type "tuple") (.seq xs.toArray):=by
   cases xs with
   |nil=>exact absurd rfl gY
   |cons _ _=>rfl
  rw[this];refine wpAny_newObj_type (q _ _ kk rfl rfl (gr.mpr ⟨s1.heap.objs.size,_,xs.toArray,0,rfl,Heap.get?_push_size _ rfl,?_,?_,rfl,rfl,by simpa using rs.keeps kk⟩)) (by show xs.toArray.size<=sizeLine;simpa using hz)
  ·intro ho;obtain⟨ob,e,_⟩:=I1.live ho;rw[bz] at e;cases e
  ·intro hf;obtain⟨ob,e⟩:=(I1.fr _ hf).2;rw[bz] at e;cases e
theorem aa.ag{A:Around}{F:List Addr}{φ:aS}{σ:LH}{s:Shared}{out:Out LV}{t:Sem Value}(hl:len σ=φ.length)(S:aa B A F [] φ s out t (RV F)):aa B A F [] φ s (oB out λv ax=>freeze (len σ) v ax) t (RV F):=λhb=>by
 cases out with
 |bad=>exact absurd rfl hb
 |err c ax=>exact wpAny_mono (S jA) (λ_ _ q=>q.elim) λ_ _ q=>q
 |ok v ax=>
  refine wpAny_mono (S iR) (λx s' q=>?_) λ_ _ q=>q.elim;obtain⟨ak,le,I,rv⟩:=q;obtain⟨ψ,rfl,wU⟩:=le.ext;rw[A6,hl] at hb⊢
  cases hf:freeze φ.length v ax with
  |bad=>exact absurd hf hb
  |err c bU=>exact absurd hf gf
  |ok v2 bU=>
   obtain⟨I2,r2⟩:=jK I hf rv;exact⟨φ,⟨le.keep,le.live,le.fr,le.oP,⟨[],(List.append_nil _).symm,nofun⟩,le.gens,le.os⟩,I2,r2⟩
theorem BY(G:aA B d r)(P:dR){e:Ex}{pe:Expr}(h:aJ B.nm N (.ag e) pe=true):SE B d (Jk e P r) N pe:=λA F φ σ s env ρ cx=>
 aa.ag ((len_eq _).trans cx.inv.len.symm) (G.e e pe N h _ _ _ _ _ _ _ cx)
end
structure XK(A:Around)(F:List Addr)(h:Heap)(d:Nat):Prop where
 handled:A.handled=none
 frames:∃l,A.frames=some l/\gh F h l
 depth:A.depth+4*d+3<recursionLimit
 units:A.units+40*d+10<cLine
theorem XC.k{A F h d}(x:XC A F h d):XK A F h d:=⟨x.handled,x.frames,by have:=x.depth;exact Jl [A.depth,d,_] 1 (.c 1 (.p (.p (.a J0 (.m 4 J1)) 4) 1) J2 .z) (.p (.p (.a J0 (.m 4 J1)) 3) 1) J2 Jt this,by have:=x.units;exact Jl [A.units,d,cLine] 1 (.c 1 (.p (.p (.a J0 (.m 40 J1)) 20) 1) J2 .z) (.p (.p (.a J0 (.m 40 J1)) 10) 1) J2 Jt this⟩
section
variable{B:Bg}{A:Around}{F X:List Addr}{φ:aS}{s:Shared}{α β lY JY:Type}
noncomputable def BZ(B:Bg)(F X:List Addr)(φ:aS)(s:Shared)(out:Out LV)(r:Result)(s':Shared):Prop:=match r with
 |.ok (.ret x)=>qZ B F X φ s (RV F) out x s'
 |.ok _=>False
 |.error e=>qz B F X φ s out e s'
noncomputable def nS(B:Bg)(A:Around)(F X:List Addr)(φ:aS)(s:Shared)(out:Out LV)(c:Code):Prop:=
 out≠.bad->codeAny (model B.prog B.w) A c (BZ B F X φ s out) s
theorem nS.call{out:Out LV}{f:Value}{xs:List Value}{kw:List (Str×Value)}(x:nS B A F X φ s out (.call f ⟨xs,kw⟩)):aa B A F X φ s out (PySem.call f xs kw) (RV F):=λhb=>wpAny_call (x hb)
theorem aa.into{out:Out α}{t:Sem β}{f:α->LH->Out lY}{g:β->Sem JY}{R:α->aS->Heap->β->Prop}{R':lY->aS->Heap->JY->Prop}(x:aa B A F X φ s out t R)
  (h:∀v ax ak s' x,out=.ok v ax->Le F X φ ak s s'->Inv B ak F ax s'.heap->R v ak s'.heap x->aa B A F X ak s' (f v ax) (g x) R') (hb:oB out f≠.bad):
  wpAny (model B.prog B.w) A t (λx s₁=>B.h0.StaysIn s₁.heap/\wpAny (model B.prog B.w) A (g x) (qZ B F X φ s R' (oB out f)) (qz B F X φ s (oB out f)) s₁) (qz B F X φ s (oB out f)) s:=by
 cases out with
 |bad=>exact absurd rfl hb
 |err c ax=>exact wpAny_mono (x jA) (λ_ _ q=>q.elim) λ_ _ q=>q
 |ok v ax=>exact wpAny_mono (x iR) (λy s' q=>q.rec λak le I r=>⟨I.base,(h v ax ak s' y rfl le I r).from le hb⟩) λ_ _ q=>q.elim
theorem dU{M:Model}{E:Value->Shared->Prop}{f:Value}{trees:List (Bool×Sem Value)}{Q:Args->Shared->Prop}(wg:trees.any (·.1)=false)(h:wpAny M A (spliced trees) (λvs s'=>Q ⟨vs,[]⟩ s') E s):
  wpAny M A (evalArgs f true trees []) Q E s:=by
 cases trees with
 |nil=>
  unfold evalArgs;refine(?_:wpAny M A (spliced []>>=_) Q E s);refine wpAny_bind (wpAny_mono h (λvs s' h'=>?_) λ_ _ x=>x);refine wpAny_bind (wpAny_pure ?_);refine wpAny_holding ?_;exact wpAny_bind (wpAny_pure (wpAny_bind (wpAny_pure (wpAny_pure h'))))
 |cons t rest=>
  obtain⟨b,t⟩:=t;rw[List.any_cons,Bool.or_eq_false_iff] at wg;obtain⟨h1,_⟩:=wg;dsimp only at h1;subst h1;exact Calls.evalArgs_plain h
theorem aa.kM{pos:Pos}{f:Value}{first:List Value}{trees:List (Bool×Sem Value)}{out:Out α}{g:α->LH->Out LV}{R:α->aS->Heap->List Value->Prop}(wg:trees.any (·.1)=false)
  (hk:∀h,B.h0.StaysIn h->∃k,(k=Keeper.frame∨k=Keeper.machine∨k=Keeper.boundFrame)/\Looks (model B.prog B.w) h (keeperOf f) k)
  (S:aa B A F X φ s out (spliced trees) R)
  (hc:∀vs ax ak s' xs,out=.ok vs ax->Le F X φ ak s s'->Inv B ak F ax s'.heap->R vs ak s'.heap xs->aa B A F X ak s' (g vs ax) (PySem.call f (first ++xs)) (RV F)):
  aa B A F X φ s (oB out g) (callWith pos f first trees []) (RV F):=λhb=>
 callWith_of (P:=λh=>B.h0.StaysIn h) (by rw[wg];rfl) hk (dU wg (S.into (g:=λxs=>PySem.call f (first ++xs)) hc hb))
end
theorem fh{T:Nm}{N:NC}{pos:Pos}{env:Env}:∀(es:dH)(qA:List Expr),cU T N es qA=true->(backTo pos (starEach qA env)).any (·.1)=false
 |.nil,[],_=>rfl
 |.nil,_::_,h=>absurd h Bool.false_ne_true
 |.cons e r,[],h=>absurd h Bool.false_ne_true
 |.cons e r,pe::q,h=>by
  have h:=xE (show(aJ T N e pe&&cU T N r q)=true from h);rw[cK (cZ T N e pe h.1),eJ,List.any_cons];exact fh r q h.2
theorem cM{B:Bg}{f:Value}(e:keeperOf f=pure Keeper.machine):∀h,B.h0.StaysIn h->∃k,(k=Keeper.frame∨k=Keeper.machine∨k=Keeper.boundFrame)/\Looks (model B.prog B.w) h (keeperOf f) k:=
 λ_ _=>⟨.machine,.inr (.inl rfl),Looks.of_pure e⟩
theorem c8{B:Bg}{f:Value}(hK:B.K.In B.h0)(e:keepIn B.K f=true):∀h,B.h0.StaysIn h->∃k,(k=Keeper.frame∨k=Keeper.machine∨k=Keeper.boundFrame)/\Looks (model B.prog B.w) h (keeperOf f) k:=
 λh x=>keeps_K e h (hK.keeps x)
noncomputable def hG:Bi->Value
 |.len=>.builtin "len"|.ord=>.builtin "ord"|.chr=>.builtin "chr"|.min=>.builtin "min"|.max=>.builtin "max"|.int=>.type "int"|.str=>.type "str"|.list=>.type "list"|.isInt=>.builtin "isinstance"|.isStr=>.builtin "isinstance"|.isRef=>.builtin "isinstance"
theorem pI{B:Bg}(b:Bi):∀h,B.h0.StaysIn h->∃k,(k=Keeper.frame∨k=Keeper.machine∨k=Keeper.boundFrame)/\Looks (model B.prog B.w) h (keeperOf (hG b)) k:=by
 cases b<;>exact cM rfl
structure Fz(B:Bg):Prop extends Fy B where
 bin:∀b,B.mg (bM b)=none
 biv:∀b,B.mb (bM b)=some (hG b)
 refC:∃C,B.mg "Ref"=some C/\kitOne B.K (.type "str") C=some false
 fn:∀f,B.nm.gd f=""∨(B.mg (B.nm.gd f)=some (.ref (B.fa f))/\keepIn B.K (.ref (B.fa f))=true)
section
variable{B:Bg}{A:Around}{F X:List Addr}{φ:aS}{s:Shared}{a b:LV}{x y:Value}{σ:LH}
theorem B0{f:LV->LH->Out LV}{vs:List LV}(hb:one f vs σ≠.bad):∃v,vs=[v]/\one f vs σ=f v σ:=by
 cases vs with
 |nil=>exact absurd rfl hb
 |cons v r=>
  cases r with
  |nil=>exact⟨v,rfl,rfl⟩
  |cons _ _=>exact absurd rfl hb
theorem B1{f:LV->LV->LH->Out LV}{vs:List LV}(hb:two f vs σ≠.bad):∃v w,vs=[v,w]/\two f vs σ=f v w σ:=by
 cases vs with
 |nil=>exact absurd rfl hb
 |cons v r=>
  cases r with
  |nil=>exact absurd rfl hb
  |cons w r=>
   cases r with
   |nil=>exact⟨v,w,rfl,rfl⟩
   |cons _ _=>exact absurd rfl hb
theorem gL{f:LV->LH->Out LV}{vs:List LV}{xs:List Value}{t:List Value->Sem Value}(rs:aB φ F s.heap vs xs)(h:∀v z,VR φ F s.heap v z->aa B A F X φ s (f v σ) (t [z]) (RV F)):aa B A F X φ s (one f vs σ) (t xs) (RV F):=aa.nb λhb=>by
 obtain⟨v,rfl,e⟩:=B0 hb;obtain⟨z,j8,rfl,r1,r2⟩:=aB.aH.mp rs;rw[aB.a8.mp r2,e];exact h v z r1
theorem tG{f:LV->LV->LH->Out LV}{vs:List LV}{xs:List Value}{t:List Value->Sem Value}(rs:aB φ F s.heap vs xs)(h:∀v z w y,VR φ F s.heap v z->VR φ F s.heap w y->aa B A F X φ s (f v w σ) (t [z,y]) (RV F)):aa B A F X φ s (two f vs σ) (t xs) (RV F):=aa.nb λhb=>by
 obtain⟨v,w,rfl,e⟩:=B1 hb;obtain⟨z,j8,rfl,r1,r2⟩:=aB.aH.mp rs;obtain⟨y,R4,rfl,r3,r4⟩:=aB.aH.mp r2;rw[aB.a8.mp r4,e];exact h v z w y r1 r3
end
section
variable{B:Bg}{d:Nat}{N:NC}{r:Ev}
theorem tH(fz:Fz B){A:Around}{F:List Addr}{φ:aS}{σ:LH}{s:Shared}{env:Env}{ρ:List LV}(c:fb B d N A F φ σ s env ρ)(b:Bi){pos:Pos}(hg:br N (bM b)=true)(Q:Value->Shared->Prop)(E:Value->Shared->Prop)(q:Q (hG b) s):
  wpAny (model B.prog B.w) A (eval (.Name (bM b) pos) env) Q E s:=px fz.toFx c hg (fz.bin b) (fz.biv b) q
theorem B2(fz:Fz B)(G:aA B d r){b:Bi}{as:dH}{args:List Expr}{p pos:Pos}(hg:br N (bM b)=true)(hs:cU B.nm N as args=true){g:List LV->LH->Out LV}
  (h:∀A F φ σ s vs xs,A.handled=none->Inv B φ F σ s.heap->aB φ F s.heap vs xs->aa B A F [] φ s (g vs σ) (PySem.call (hG b) xs) (RV F)):SE B d (λρ σ=>oB (r.es as ρ σ) g) N (.Call (.Name (bM b) p) args [] pos):=λA F φ σ s env ρ cx=>by
 refine(?_:aa B A F [] φ s _ (eval (.Name (bM b) p) env>>=λf=>callWith pos f [] (backTo pos (starEach args env)) []) _);refine aa.pre (a:=hG b) (tH fz cx b hg) ?_;exact aa.kM (fh as args hs) (pI b) (G.es as args N hs _ _ _ _ _ _ _ pos cx) λvs ax ak s' xs _ le I rs=>h _ _ _ _ _ _ _ cx.xc.handled I rs
theorem nT{A:Around}{s:Shared}{env:Env}{x:Str}{pos:Pos}{v:Value}{Q:Value->Shared->Prop}{E:Value->Shared->Prop}(fx:Fx B)(ok:cJ N env)(base:B.h0.StaysIn s.heap)(hg:br N x=true)(hv:B.mg x=some v)(q:Q v s):
  wpAny (model B.prog B.w) A (eval (.Name x pos) env) Q E s:=by
 obtain⟨hk,hd⟩:=fH hg;refine Calls.Name_function_global ok.fn (by rw[ok.of];exact hk) (Calls.loadGlobal_global ?_ hv q) hd;rw[ok.gl];exact fx.g.keeps base
theorem kN{A:Around}{s:Shared}{env:Env}{x:Str}{pos:Pos}{v:Value}{Q:Value->Shared->Prop}{E:Value->Shared->Prop}(fx:Fx B)(ok:cJ N env)(base:B.h0.StaysIn s.heap)(hg:br N x=true)(hn:B.mg x=none)(hv:B.mb x=some v)(q:Q v s):
  wpAny (model B.prog B.w) A (eval (.Name x pos) env) Q E s:=by
 obtain⟨hk,hd⟩:=fH hg;refine Calls.Name_function_global ok.fn (by rw[ok.of];exact hk) (Calls.loadGlobal_builtin ?_ hn ?_ hv q) hd
 ·rw[ok.gl];exact fx.g.keeps base
 ·rw[ok.bl];exact fx.b.keeps base
theorem Kj{A:Around}{env:Env}{x:Expr}{tn:Str}{p':Pos}{tv:Value}{s:Shared}{F:List Addr}{φ:aS}{out:Out (List LV)}
  (S:aa B A F [] φ s out (eval x env) (λvs φ h z=>∃v,vs=[v]/\VR φ F h v z))
  (ht:∀s':Shared,B.h0.StaysIn s'.heap->∀(Q:Value->Shared->Prop) E,Q tv s'->wpAny (model B.prog B.w) A (eval (.Name tn p') env) Q E s'):
  aa B A F [] φ s out (spliced [(false,eval x env),(false,eval (.Name tn p') env)]) (λvs φ h xs=>∃v z,vs=[v]/\xs=[z,tv]/\VR φ F h v z):=λhb=>
 Calls.spliced_cons (wpAny_mono (S hb) (λz s' q=>Calls.spliced_cons (ht s' q.base _ _ (Calls.spliced_nil (q.map λvs φ h ⟨v,e,r⟩=>⟨v,z,e,rfl,r⟩)))) λ_ _ q=>q)
theorem nU(fz:Fz B)(G:aA B d r){b:Bi}{as:dH}{x:Expr}{tn:Str}{tv:Value}{p p' pos:Pos}(hg:br N (bM b)=true)(hs:cU B.nm N as [x]=true){g:LV->LH->Out LV}
  (ht:∀A(s:Shared) env,cJ N env->B.h0.StaysIn s.heap->∀(Q:Value->Shared->Prop) E,Q tv s->wpAny (model B.prog B.w) A (eval (.Name tn p') env) Q E s)
  (h:∀A F φ σ s v z,A.handled=none->Inv B φ F σ s.heap->VR φ F s.heap v z->aa B A F [] φ s (g v σ) (PySem.call (hG b) [z,tv]) (RV F)):SE B d (λρ σ=>oB (r.es as ρ σ) (one g)) N (.Call (.Name (bM b) p) [x,.Name tn p'] [] pos):=λA F φ σ s env ρ cx=>by
 refine(?_:aa B A F [] φ s _ (eval (.Name (bM b) p) env>>=λf=>callWith pos f [] (backTo pos (starEach [x,.Name tn p'] env)) []) _);refine aa.pre (a:=hG b) (tH fz cx b hg) ?_
 cases as with
 |nil=>exact absurd hs Bool.false_ne_true
 |cons e q=>
  have hs:=xE (show(aJ B.nm N e x&&cU B.nm N q [])=true from hs)
  cases q with
  |cons _ _=>exact absurd hs.2 Bool.false_ne_true
  |nil=>
   have hx:starEach [x,.Name tn p'] env=(false,eval x env)::(false,eval (.Name tn p') env)::[]:=by
    rw[cK (cZ _ _ e x hs.1)];rfl
   rw[hx];refine(?_:aa B A F [] φ s _ (callWith pos (hG b) [] [(false,eval x env),(false,eval (.Name tn p') env)] []) _);refine aa.kM (R:=λvs φ h xs=>∃v z,vs=[v]/\xs=[z,tv]/\VR φ F h v z) rfl (pI b) (Kj (G.Md e x N hs.1 _ _ _ _ _ _ _ cx) λs' st=>?_) ?_
   ·exact ht A s' env cx.ok st
   ·rintro vs ax ak s' xs _ le I ⟨v,z,rfl,rfl,rv⟩
    exact h _ _ _ _ _ _ _ cx.xc.handled I rv
theorem FQ(fz:Fz B)(G:aA B d r)(P:dR){b:Bi}{as:dH}{pe:Expr}(h:aJ B.nm N (.bi b as) pe=true):SE B d (A2 b as P r) N pe:=by
 have gen:∀b' args n p pos,b'=b->(bM b'==n)=true->br N n=true->cU B.nm N as args=true->(∀A F φ σ s vs xs,A.handled=none->Inv B φ F σ s.heap->aB φ F s.heap vs xs->aa B A F [] φ s (e6 b vs σ) (PySem.call (hG b) xs) (RV F))->
   SE B d (A2 b as P r) N (.Call (.Name n p) args [] pos):=λb' args n p pos e h1 h2 h3 hh=>by
  have:=eq_of_beq h1;subst this;subst e;exact B2 fz G h2 h3 hh
 refine D4 h λn np args pos h=>?_;have h1:=bL (bL (bL h));have h2:=bR (bL (bL h));have h3:=bR (bL h);have h4:=bR h;cases b
 ·exact gen .len _ _ _ _ rfl h1 h2 h4 λA F φ σ s vs xs hh I rs=>gL (t:=λxs=>PySem.call (.builtin "len") xs) rs λv z rv=>BC I rv
 ·exact gen .ord _ _ _ _ rfl h1 h2 h4 λA F φ σ s vs xs hh I rs=>gL (t:=λxs=>PySem.call (.builtin "ord") xs) rs λv z rv=>BD I rv
 ·exact gen .chr _ _ _ _ rfl h1 h2 h4 λA F φ σ s vs xs hh I rs=>gL (t:=λxs=>PySem.call (.builtin "chr") xs) rs λv z rv=>BE I rv
 ·exact gen .min _ _ _ _ rfl h1 h2 h4 λA F φ σ s vs xs hh I rs=>tG (t:=λxs=>PySem.call (.builtin "min") xs) rs λv z w y rv uW=>BF hh I rv uW
 ·exact gen .max _ _ _ _ rfl h1 h2 h4 λA F φ σ s vs xs hh I rs=>tG (t:=λxs=>PySem.call (.builtin "max") xs) rs λv z w y rv uW=>BG hh I rv uW
 ·exact gen .int _ _ _ _ rfl h1 h2 h4 λA F φ σ s vs xs hh I rs=>gL (t:=λxs=>PySem.call (.type "int") xs) rs λv z rv=>BH I rv
 ·exact gen .str _ _ _ _ rfl h1 h2 h4 λA F φ σ s vs xs hh I rs=>gL (t:=λxs=>PySem.call (.type "str") xs) rs λv z rv=>BI I rv
 ·exact gen .list _ _ _ _ rfl h1 h2 h4 λA F φ σ s vs xs hh I rs=>gL (t:=λxs=>PySem.call (.type "list") xs) rs λv z rv=>xt I rv
 ·have:=eq_of_beq h1;subst this;refine pn (Q:=λargs=>cU B.nm N as (args.take 1)=true->SE B d (A2 .isInt as P r) N (.Call (.Name (bM .isInt) np) args [] pos)) h3 (λx te h3 h4=>?_) h4;refine aY (Q:=λte=>SE B d (A2 .isInt as P r) N (.Call (.Name (bM .isInt) np) [x,te] [] pos)) h3 λt tp h3=>?_;have h5:=bR h3;have:=eq_of_beq (bL h3);subst this;exact nU (b:=.isInt) fz G h2 h4 (λA s env ok st Q E q=>kN fz.toFx ok st h5 (fz.bin .int) (fz.biv .int) q) λA F φ σ s v z hh I rv=>uT I rv
 ·have:=eq_of_beq h1;subst this;refine pn (Q:=λargs=>cU B.nm N as (args.take 1)=true->SE B d (A2 .isStr as P r) N (.Call (.Name (bM .isStr) np) args [] pos)) h3 (λx te h3 h4=>?_) h4;refine aY (Q:=λte=>SE B d (A2 .isStr as P r) N (.Call (.Name (bM .isStr) np) [x,te] [] pos)) h3 λt tp h3=>?_;have h5:=bR h3;have:=eq_of_beq (bL h3);subst this;exact nU (b:=.isStr) fz G h2 h4 (λA s env ok st Q E q=>kN fz.toFx ok st h5 (fz.bin .str) (fz.biv .str) q) λA F φ σ s v z hh I rv=>uU I rv
 ·have:=eq_of_beq h1;subst this;refine pn (Q:=λargs=>cU B.nm N as (args.take 1)=true->SE B d (A2 .isRef as P r) N (.Call (.Name (bM .isRef) np) args [] pos)) h3 (λx te h3 h4=>?_) h4;refine aY (Q:=λte=>SE B d (A2 .isRef as P r) N (.Call (.Name (bM .isRef) np) [x,te] [] pos)) h3 λt tp h3=>?_;have h5:=bR h3;have:=eq_of_beq (bL h3);subst this;obtain⟨C,e1,e2⟩:=fz.refC;exact nU (b:=.isRef) fz G h2 h4 (λA s env ok st Q E q=>nT fz.toFx ok st h5 e1 q) λA F φ σ s v z hh I rv=>uV fz.hK e2 I rv
end
noncomputable def dM(B:Bg)(d:Nat)(C:Nat->List LV->LH->Out LV):Prop:=
 ∀f lf vs aU A F φ σ s xs,B.P.dg.get f=some lf->places lf vs=some aU->XK A F s.heap (B.x+d)->Inv B φ F σ s.heap->aB φ F s.heap vs xs->nS B A F [] φ s (C f aU σ) (.call (.ref (B.fa f)) ⟨xs,[]⟩)
noncomputable def ei(B:Bg):Prop:=∀f vs v,B.P.memo f vs=some v->∀d A F φ σ s xs,XK A F s.heap (B.x+d)->Inv B φ F σ s.heap->aB φ F s.heap vs xs->aa B A F [] φ s (.ok v σ) (PySem.call (.ref (B.fa f)) xs) (RV F)
section
variable{B:Bg}{d:Nat}{N:NC}{r:Ev}{C:Nat->List LV->LH->Out LV}
theorem rF(CG:dM B d C)(MG:ei B){f:Nat}{vs:List LV}{xs:List Value}{A:Around}{F:List Addr}{φ:aS}{σ:LH}{s:Shared}(k:XK A F s.heap (B.x+d))(I:Inv B φ F σ s.heap)(rs:aB φ F s.heap vs xs):
  aa B A F [] φ s (ah B.P C f vs σ) (PySem.call (.ref (B.fa f)) xs) (RV F):=by
 unfold ah
 cases hm:B.P.memo f vs with
 |some v=>exact MG f vs v hm d A F φ σ s xs k I rs
 |none=>
  refine(?_:aa B A F [] φ s (oN (B.P.dg.get f) λlf=>oN (places lf vs) λρ=>C f ρ σ) _ _);exact aa.opt λlf hf=>aa.opt λaU hp=>(CG f lf vs aU A F φ σ s xs hf hp k I rs).call
theorem xM(fz:Fz B)(G:aA B d r)(CG:dM B d r.call)(MG:ei B){f:Nat}{as:dH}{pe:Expr}(h:aJ B.nm N (.call f as) pe=true):SE B d (DB f as B.P r) N pe:=by
 refine s6 h λn p args pos h=>?_
 ·intro A F φ σ s env ρ cx;have h1:=bL (bL (bL h));have h2:=bR (bL (bL h));have h3:=bF (bR (bL h));have h4:=bR h;have:=eq_of_beq h1;subst this
  obtain⟨hv,hk⟩:B.mg (B.nm.gd f)=some (.ref (B.fa f))/\keepIn B.K (.ref (B.fa f))=true:=by
   rcases fz.fn f with q|q
   ·rw[q] at h3;simp at h3
   ·exact q
  refine(?_:aa B A F [] φ s _ (eval (.Name (B.nm.gd f) p) env>>=λg=>callWith pos g [] (backTo pos (starEach args env)) []) _);refine aa.pre (a:=.ref (B.fa f)) (λQ E q=>gH fz.toFx cx h2 hv q) ?_;exact aa.kM (fh as args h4) (c8 fz.hK hk) (G.es as args N h4 _ _ _ _ _ _ _ pos cx) λvs ax ak s' xs _ le I rs=>rF CG MG (cx.xc.le le).k I rs
theorem pJ{b:Bm}{x:LV}{σ:LH}(h:j0 b x σ=true):(DE b=true/\∃u,x=.str u)∨(wL b=true/\∃r vs,x=.ref r/\σ[r]?=some (.list vs)):=by
 cases x with
 |str u=>exact .inl ⟨h,u,rfl⟩
 |ref r=>
  change cO (bf σ r) (bC false (λ_=>wL b)) false=true at h;refine .inr ?_;rw[aT] at h;cases hn:σ[r]?with
  |none=>rw[hn] at h;cases h
  |some o=>
   rw[hn] at h
   cases o with
   |list vs=>exact⟨h,r,vs,rfl,hn⟩
   |inst _ _=>cases h
 |_=>cases h
theorem xN{b:Bm}{F:List Addr}{φ:aS}{s:Shared}{σ:LH}{v:LV}{x:Value}(h:j0 b v σ=true)(I:Inv B φ F σ s.heap)(r:VR φ F s.heap v x):
  ∃T id,s.TypeIs x T/\PlainAttrs T/\Slot T (jy b) id/\typeOf (.builtin id)=pure (.type "method_descriptor")/\∀a,x=.ref a->∃o,s.heap.get? a=some o/\o.dict=none:=by
 rcases pJ h with⟨hb,u,rfl⟩|⟨hb,i,vs,rfl,hs⟩
 ·refine aE r λt=>?_
  cases b<;>first|(cases hb;done)|skip
  ·exact⟨_,_,typeIs_str _ _ _,PySem.F.plainAttrs_str,PySem.F.slot_str_index,PySem.F.type_str_index,λ_ e=>nomatch e⟩
  ·exact⟨_,_,typeIs_str _ _ _,PySem.F.plainAttrs_str,PySem.F.slot_str_find,PySem.F.type_str_find,λ_ e=>nomatch e⟩
  ·exact⟨_,_,typeIs_str _ _ _,PySem.F.plainAttrs_str,PySem.F.slot_str_join,PySem.F.type_str_join,λ_ e=>nomatch e⟩
  ·exact⟨_,_,typeIs_str _ _ _,PySem.F.plainAttrs_str,PySem.F.slot_str_lstrip,PySem.F.type_str_lstrip,λ_ e=>nomatch e⟩
  ·exact⟨_,_,typeIs_str _ _ _,PySem.F.plainAttrs_str,PySem.F.slot_str_rstrip,PySem.F.type_str_rstrip,λ_ e=>nomatch e⟩
 ·obtain⟨p,ys,n,hp,rfl,ho,rl⟩:=dq I hs r
  cases b<;>first|(cases hb;done)|skip
  ·exact⟨_,_,⟨_,ho,rfl⟩,PySem.F.plainAttrs_list,PySem.F.slot_list_append,PySem.F.type_list_append,λa e=>by cases e;exact⟨_,ho,rfl⟩⟩
  ·exact⟨_,_,⟨_,ho,rfl⟩,PySem.F.plainAttrs_list,PySem.F.slot_list_extend,PySem.F.type_list_extend,λa e=>by cases e;exact⟨_,ho,rfl⟩⟩
  ·exact⟨_,_,⟨_,ho,rfl⟩,PySem.F.plainAttrs_list,PySem.F.slot_list_pop,PySem.F.type_list_pop,λa e=>by cases e;exact⟨_,ho,rfl⟩⟩
  ·exact⟨_,_,⟨_,ho,rfl⟩,PySem.F.plainAttrs_list,PySem.F.slot_list_reverse,PySem.F.type_list_reverse,λa e=>by cases e;exact⟨_,ho,rfl⟩⟩
  ·exact⟨_,_,⟨_,ho,rfl⟩,PySem.F.plainAttrs_list,PySem.F.slot_list_index,PySem.F.type_list_index,λa e=>by cases e;exact⟨_,ho,rfl⟩⟩
theorem u7{b:Bm}{F X:List Addr}{φ ak:aS}{s s':Shared}{σ ax:LH}{v:LV}{x:Value}{T:String}(h:j0 b v σ=true)(I:Inv B φ F σ s.heap)(r:VR φ F s.heap v x)(le:Le F X φ ak s s')(I':Inv B ak F ax s'.heap)(ty:s'.TypeIs x T):
  s.TypeIs x T/\∀a,x=.ref a->∃o,s.heap.get? a=some o/\o.dict=none:=by
 rcases pJ h with⟨hb,u,rfl⟩|⟨hb,i,vs,rfl,hs⟩
 ·obtain⟨t,rfl⟩:=ic.mp r;exact⟨ty,λa e=>by cases e⟩
 ·obtain⟨p,ys,n,hp,rfl,ho,rl⟩:=dq I hs r;obtain⟨o',e1,e2⟩:=ty;obtain⟨o2,Tz,r2⟩:=I'.obj (le.idx hp)
  have:T="list":=by
   cases o2 with
   |inst c fs=>
    rw[OR] at r2
    rw[r2.2.1] at e1;injection e1 with e1;subst e1
    cases e2
   |list us=>
    rw[OR] at r2;obtain⟨_,j8,n',u9,_⟩:=r2
    rw[u9] at e1;injection e1 with e1;subst e1
    injection e2 with e2;exact e2.symm
  subst this;exact⟨⟨_,ho,rfl⟩,λb e=>by injection e with e;subst e;exact⟨_,ho,rfl⟩⟩
theorem pure_eq{α:Type}{a b:α}(h:(pure a:Sem α)=pure b):a=b:=Sem.pure.inj h
theorem rG{s:Shared}{x:Value}{T T':String}(h:s.TypeIs x T)(h':s.TypeIs x T'):T=T':=by
 cases x with
 |ref a=>
  obtain⟨o,e1,e2⟩:=h;obtain⟨o',e3,e4⟩:=h'
  rw[e1] at e3;injection e3 with e3;subst e3
  rw[e2] at e4;injection e4
 |_=>
  have:=pure_eq (h.symm.trans h');injection this
theorem xO{T:String}{name:Str}{id NJ:String}(h:Slot T name id)(h':Slot T name NJ):id=NJ:=by
 have:=pure_eq (h.lookup.symm.trans h'.lookup)
 injection this with this
 injection this
theorem eU{o:Expr}{name:Str}{ap pos:Pos}{env:Env}{ov:Value}{n:Nat}{trees:List (Bool×Sem Value)}(h:trees.any (·.1)=false)(hn:n<30)(hl:(ap.endLine==pos.line)=true):
  methodCall o name ap pos env ov n trees []=(do
   let fx←holding [ov] (getMethod ov name (do return (←importBound o env).getD true))
   callWith pos fx.1 fx.2 trees []):=by
 have hf:methodCallForm n trees []=true:=by
  unfold methodCallForm
  have:trees.all (λp=>!p.1)=true:=by
   rw[List.all_eq_not_any_not];simp only[Bool.not_not,Bool.not_eq_true'];exact h
  simp[this,hn]
 unfold methodCall calleeOf methodCallPos;rw[hf,hl];rfl
theorem FT(G:aA B d r)(P:dR){b:Bm}{o:Ex}{as:dH}{pe:Expr}(h:aJ B.nm N (.bm b o as) pe=true):SE B d (PZ b o as P r) N pe:=by
 refine D5 h λox n ap args pos h=>?_
 ·intro A F φ σ s env ρ cx;have h1:=bL (bL (bL (bL (bL h))));have h2:=bR (bL (bL (bL (bL h))));have h3:=bR (bL (bL (bL h)));have h4:=bF (bR (bL (bL h)));have h5:=bR (bL h);have h6:=bR h;have:=eq_of_beq h1;subst this;have wg:=fh (T:=B.nm) (N:=N) (pos:=pos) (env:=env) as args h6
  refine(?_:aa B A F [] φ s _ (do
   let ov←attributeBase ox (jy b) env (eval ox env)
   standAt ap.atName
   methodCall ox (jy b) ap pos env ov (args.length+0) (backTo pos (starEach args env)) []) _)
  rw[iY h4];refine(G.e o ox N h5 _ _ _ _ _ _ _ cx).bind λva aG bG s1 x _ cf I1 ra=>aa.at (aa.ite λKk=>?_);rw[eU wg (by have:=cV h3;exact Jl [_] 1 (.c 1 (.p J0 1) (.k 9) .z) (.p (.p J0 0) 1) (.k 30) Jt this) h2];refine aa.nb λhb=>?_;have S:=G.es as args N h6 _ _ _ _ _ _ _ pos (cx.le cf I1)
  cases ho:r.es as ρ aG with
  |bad=>rw[ho] at hb;exact absurd rfl hb
  |err c bU=>
   obtain⟨T,id,ty,pa,sl,tt,hd⟩:=xN Kk I1 ra;rw[←ho];refine aa.pre (a:=(.builtin id,[x])) (λQ E q=>wpAny_holding (getMethod_builtin ty pa sl tt hd q)) ?_
   exact aa.kM wg (cM rfl) S λvs ax _ _ _ e=>by rw[ho] at e;cases e
  |ok vs bU=>
   obtain⟨T,id,ty,pa,sl,tt,hd⟩:=xN Kk I1 ra;rw[←ho];refine aa.pre (a:=(.builtin id,[x])) (λQ E q=>wpAny_holding (getMethod_builtin ty pa sl tt hd q)) ?_;refine aa.kM wg (cM rfl) S λBd ax ak s' xs e le I rs=>aa.nb λNK=>?_;obtain⟨T',NJ,R5,_,DU,_,_,S'⟩:=FN I (ra.mono le) rs NK;have hT:=rG ty (u7 Kk I1 ra le I R5).1;subst hT;have:=xO sl DU;subst this;exact S'
end
theorem pK{α:Type}[DecidableEq α]:∀(l ks:List α),l.Nodup->(∀x∈l,x∈ks)->l.length<=ks.length
 |[],_,_,_=>by simp
 |a::l,ks,hn,hs=>by
  have ha:=hs a List.mem_cons_self;rw[List.nodup_cons] at hn;have:=pK l (ks.erase a) hn.2 λx hx=>(List.mem_erase_of_ne (λe=>hn.1 (by rw[←e];exact hx))).mpr (hs x (List.mem_cons_of_mem _ hx));rw[List.length_erase_of_mem ha] at this;have h0:0<ks.length:=List.length_pos_of_mem ha;simp only[List.length_cons];exact Jl [l.length,_,ks.length] 1 (.c 1 J0 J1 (.c 1 (.p J1 1) J2 .z)) (.p J0 1) J2 Jt this (Jf (Nat.sub_add_cancel (Jl [ks.length] 1 (.c 1 (.p (.k 0) 1) J0 .z) (.k 1) J0 Jt h0)))
section
variable{B:Bg}{φ:aS}{F:List Addr}{h:Heap}
noncomputable def keyOf(e:DictEntry):Str:=match e.key with|.str x _=>x|_=>""
theorem kO{es:Array DictEntry}{n:Str}{v:Value}(e:nsFind es n=some v):n∈es.toList.map keyOf:=by
 unfold nsFind findBy at e;obtain⟨en,h1,_⟩:=Option.map_eq_some_iff.mp e;have h2:=Array.find?_some h1;have h3:=Array.mem_of_find?_eq_some h1;have h2:en.key.isStr n=true:=h2;refine List.mem_map.mpr ⟨en,by simpa using h3,?_⟩;unfold keyOf
 cases hk:en.key with
 |str y t=>
  rw[hk] at h2
  have e:y=n:=by simpa[Value.isStr] using h2
  exact e
 |_=>rw[hk] at h2;cases h2
theorem noName{d:Addr}{m:Str->Option Value}{c:Nat}{fs:List LV}{n:Str}(hn:sO h d m fs.length)(hf:FR B φ F h c fs m)(nd:(B.bK c).Nodup)(h1:n∉B.bK c):m n=none:=by
 cases hm:m n with
 |none=>rfl
 |some v=>
  exfalso;obtain⟨o,es,ep,_,_,_,hz,hv⟩:=hn;have hl:=pK (n::(B.bK c).take fs.length) (es.toList.map keyOf) ?_ ?_
  ·simp only[List.length_cons,List.length_take,List.length_map,Array.length_toList] at hl;have:=hf.1;walk_at "om"
  ·rw[List.nodup_cons];exact⟨λq=>h1 (List.mem_of_mem_take q),nd.sublist (List.take_sublist _ _)⟩
  ·intro x hx
   rcases List.mem_cons.mp hx with rfl|hx
   ·exact kO (v:=v) (by rw[hv,hm])
   ·obtain⟨j,hj,e⟩:=List.getElem_of_mem hx;rw[List.length_take] at hj;rw[List.getElem_take] at e;have h2:=hf.2 j x (by rw[List.getElem?_eq_getElem (by walk_at "om"),e]);rw[List.getElem?_eq_getElem (show j<fs.length by exact Jl [j,_,fs.length] 1 (.c 1 (.p J0 1) J1 (.c 1 J1 J2 .z)) (.p J0 1) J2 Jt hj (Nat.min_le_left _ _))] at h2;obtain⟨y,h3,_⟩:=h2;exact kO (v:=y) (by rw[hv,h3])
end
structure Fm(B:Bg):Prop extends Fz B where
 meth:∀c m f,pb c m B.P.meth=some f->findIn B.K (.ref (B.cls c)) (B.nm.gX m)=some (some (.ref (B.fa f)))/\typeIn B.K (.ref (B.fa f))=some (.type "function")/\keepIn B.K (.ref (B.fa f))=true/\B.nm.gX m∉B.bK c/\B.bK c≠[]
 dn:∀g,B.nm.mf g=""∨∃a,B.mg (B.nm.mf g)=some (.ref a)/\∀d,bf B.P.jI g=some d->KTD.TextTab B.h0 a (d.map λp=>(toS p.1,KTD.Dat.flat (.int p.2)))
section
variable{B:Bg}{d:Nat}{N:NC}{r:Ev}{C:Nat->List LV->LH->Out LV}
theorem rH{c:Nat}{x:LV}{σ:LH}(h:wK c x σ=true):∃i fs,x=.ref i/\σ[i]?=some (.inst c fs):=by
 cases x with
 |ref i=>
  change cO (bf σ i) (jt false (λc' _=>Nat.beq c c')) false=true at h;rw[aT] at h;cases hn:σ[i]?with
  |none=>rw[hn] at h;cases h
  |some o=>
   rw[hn] at h
   cases o with
   |list _=>cases h
   |inst c' fs=>
    have:=Nat.eq_of_beq_eq_true (show Nat.beq c c'=true from h);subst this;exact⟨i,fs,rfl,hn⟩
 |_=>cases h
theorem xP(fm:Fm B)(G:aA B d r)(CG:dM B d r.call)(MG:ei B){c m:Nat}{o:Ex}{as:dH}{pe:Expr}(h:aJ B.nm N (.meth c m o as) pe=true):SE B d (DC c m o as B.P r) N pe:=by
 refine s7 h λox n ap args pos h=>?_
 ·intro A F φ σ s env ρ cx;have h1:=bL (bL (bL (bL (bL h))));have h2:=bR (bL (bL (bL (bL h))));have h3:=bR (bL (bL (bL h)));have h4:=bR (bL (bL h));have h5:=bR (bL h);have h6:=bR h;have:=eq_of_beq h1;subst this;have wg:=fh (T:=B.nm) (N:=N) (pos:=pos) (env:=env) as args h6
  refine(?_:aa B A F [] φ s _ (do
   let ov←attributeBase ox (B.nm.gX m) env (eval ox env)
   standAt ap.atName
   methodCall ox (B.nm.gX m) ap pos env ov (args.length+0) (backTo pos (starEach args env)) []) _)
  rw[iY (by cases ox<;>first|rfl|cases h4)];refine(G.e o ox N h5 _ _ _ _ _ _ _ cx).bind λva aG bG s1 x _ cf I1 ra=>aa.at (aa.ite λKk=>aa.opt λf hf=>?_);rw[eU wg (by have:=cV h3;exact Jl [_] 1 (.c 1 (.p J0 1) (.k 9) .z) (.p (.p J0 0) 1) (.k 30) Jt this) h2];obtain⟨i,fs,rfl,hs⟩:=rH Kk;obtain⟨p,hp,rfl⟩:=dk.mp ra;obtain⟨m1,m2,m3,m4,m5⟩:=fm.meth c m f hf;have cl:=fm.cls c m5;obtain⟨od,mm,IA,hz,hl,wd⟩:=nP I1 hs hp;have Ke:=noName hz wd (fm.nodup c) m4;refine aa.pre (a:=(.ref (B.fa f),[.ref p.1])) (λQ E q=>wpAny_holding (method_fn (fm.hK.keeps I1.base) IA cl.ga cl.gn m1 m2 (by show(lookIn _ od).map _=_;rw[hl,Ke];rfl) q)) ?_;refine aa.kM wg (c8 fm.hK m3) (G.es as args N h6 _ _ _ _ _ _ _ pos (cx.le cf I1)) λvs ax ak s' xs _ le I rs=>?_;exact rF CG MG ((cx.xc.le cf).le le).k I (aB.aH.mpr ⟨_,_,rfl,ra.mono le,rs⟩)
theorem xQ(G:aA B d r)(P:dR){a:Ex}{pe:Expr}(h:aJ B.nm N (.not a) pe=true):SE B d (Ja a P r) N pe:=by
 refine w3 h λq pos h=>?_
 ·intro A F φ σ s env ρ c;refine(?_:aa B A F [] φ s _ (do let v←eval q env;standAt pos;holding [v] (unaryOp .Not v)) _);refine(G.e a q N h _ _ _ _ _ _ _ c).bind λva aG bG s1 x _ cf I1 ra=>aa.at (aa.opt λb hb=>?_);refine aa.prim I1 λQ E q=>wpAny_holding ?_;unfold unaryOp;refine wpAny_holding ?_;dsimp only;rw[if_pos (by decide)];exact wpAny_bind (iT ra hb (wpAny_pure (q _ _ (λ_ _ e=>e) rfl rfl (by rw[ni];exact VR.b))))
theorem jP{s:List Nat}:∀{dd:List (List Nat×Int)}{v:Int},wJ s dd=some v->KTD.datumAt (toS s) (dd.map λp=>(toS p.1,KTD.Dat.flat (.int p.2)))=some (.flat (.int v))
 |[],_,h=>by cases h
 |p::dd,v,h=>by
  have h':(if seq p.1 s=true then some p.2 else wJ s dd)=some v:=by rw[←dI];exact h
  refine(?_:(if decide (toS s=toS p.1)=true then some (KTD.Dat.flat (.int p.2)) else KTD.datumAt (toS s) (dd.map λp=>(toS p.1,KTD.Dat.flat (.int p.2))))=_);by_cases q:p.1=s
  ·have hq:seq p.1 s=true:=by rw[seq_eq];simp[q]
   rw[if_pos hq] at h';injection h' with h'
   rw[if_pos (by simp[q]),h']
  ·have hq:¬seq p.1 s=true:=by rw[seq_eq];simp[q]
   rw[if_neg hq] at h';rw[if_neg (by simp only[decide_eq_true_eq];intro e;exact q (th e).symm)];exact jP h'
theorem item_dict{A:Around}{s:Shared}{value slice:Expr}{a:Addr}{k:List Nat}{tk:Tok}{D:List (Str×KTD.Dat)}{i:Int}{Q:Value->Shared->Prop}{E:Value->Shared->Prop}{h₀:Heap}(T:KTD.TextTab h₀ a D)(st:h₀.StaysIn s.heap)(hm:KTD.datumAt (toS k) D=some (.flat (.int i)))
  (q:∀t,Q (.int i t) {s with toks:=s.toks+1}):
  wpAny (model B.prog B.w) A (do let r←subscripted slice (←getitemInPython (.ref a)) (.ref a) (.str (toS k) tk);letTemporaryGo value (.ref a) r;pure r) Q E s:=by
 have T':KTD.Here h₀ s.heap a D:=⟨T,st⟩;refine iW T'.typeIs slot_dict_getitem.lookup ?_;unfold getItem
 try with_reducible refine wpAny_holding ?_
 refine wpAny_bind (wpAny_sequenceKey T'.typeIs (by decide) ?_)
 refine wpAny_bind (wpAny_callSpecial?_slot (name:=Str.ofString "__getitem__") T'.typeIs slot_dict_getitem
  (wpAny_call_entry slot_dict_getitem T'.typeIs entry_dict_getitem ?_ (args_dict_getitem _ _)))
 refine(?_:wpAny _ _ (dictGet a (.str (toS k) tk)>>=_) _ _ s);refine wpAny_bind (KTD.dictGet_text T' (λdd v ha hv=>wpAny_pure ⟨v,rfl,wpAny_pure ?_⟩) λhn=>by rw[hm] at hn;cases hn)
 rw[hm] at ha;injection ha with ha;subst ha
 obtain⟨t,rfl⟩:=PyProof.V.Flat.int_inv (show PyProof.V.Flat v (.int i) from hv);exact q t
theorem xR(fm:Fm B)(G:aA B d r){g:Nat}{i:Ex}{pe:Expr}(h:aJ B.nm N (.oW g i) pe=true):SE B d (DG g i B.P r) N pe:=by
 refine s9 h λn p ix pos h=>?_
 ·intro A F φ σ s env ρ cx;have h1:=bL (bL (bL h));have h2:=bR (bL (bL h));have h3:=bF (bR (bL h));have h4:=bR h;have:=eq_of_beq h1;subst this
  obtain⟨a,hv,hd⟩:∃a,B.mg (B.nm.mf g)=some (.ref a)/\∀d,bf B.P.jI g=some d->KTD.TextTab B.h0 a (d.map λp=>(toS p.1,KTD.Dat.flat (.int p.2))):=by
   rcases fm.dn g with q|q
   ·rw[q] at h3;simp at h3
   ·exact q
  rw[eval_Subscript];refine aa.pre (a:=.ref a) (λQ E q=>gH fm.toFx cx h2 hv q) ?_;refine aa.bind (aa.holding (G.e i ix N h4 _ _ _ _ _ _ _ cx)) λvb aG bG s1 y _ cf I1 rb=>aa.at ?_
  cases vb with
  |str u=>
   refine aE rb λt=>?_;refine aa.opt λdd NL=>aa.opt λv NM=>?_;exact aa.prim I1 λQ E q=>item_dict (hd dd NL) I1.base (jP NM) λt=>q _ _ (λ_ _ e=>e) rfl rfl VR.i
  |_=>exact aa.bad
end
structure Fc(B:Bg):Prop extends Fm B where
 cn:∀c,B.nm.cD c=""∨(B.mg (B.nm.cD c)=some (.ref (B.cls c))/\keepIn B.K (.ref (B.cls c))=true)
 init:∀c f lf,bf B.P.init c=some f->B.P.dg.get f=some lf->makesIn B.K (B.cls c)=true/\findIn B.K (.ref (B.cls c)) "__init__"=some (some (.ref (B.fa f)))/\typeIn B.K (.ref (B.fa f))=some (.type "function")
noncomputable def fj(B:Bg)(d:Nat)(C:Nat->List LV->LH->Out LV):Prop:=
 ∀c k kn f lf self v aU A F φ σ s x y,bf B.P.init c=some f->(B.bK c)[k]?=some kn->B.P.dg.get f=some lf->placesK lf self k v=some aU->XK A F s.heap (B.x+d)->Inv B φ F σ s.heap->VR φ F s.heap self x->VR φ F s.heap v y->nS B A F [] φ s (C f aU σ) (.call (.ref (B.fa f)) ⟨[x],[(kn,y)]⟩)
theorem mw(C:Addr)(rest:List Value)(kw:List (Str×Value)):(Code.builtin "type.__call__" ⟨.ref C::rest,kw⟩).weight=1:=by
 have h1:(Code.builtin "type.__call__" ⟨.ref C::rest,kw⟩).frames=0:=rfl;have h2:(Code.builtin "type.__call__" ⟨.ref C::rest,kw⟩).isCreation=true:=rfl
 have h3:(Code.builtin "type.__call__" ⟨.ref C::rest,kw⟩).isGuard=false:=by show guardIds.contains "type.__call__"=false;decide+kernel
 have h4:(Code.builtin "type.__call__" ⟨.ref C::rest,kw⟩).isCaller=false:=rfl;unfold Code.weight;rw[h1,h2,h3,h4];rfl
section
variable{B:Bg}{d:Nat}{N:NC}{r:Ev}{C:Nat->List LV->LH->Out LV}
theorem XC.under{A:Around}{F:List Addr}{h:Heap}{n:Nat}(x:XC A F h n)(C:Addr)(rest:List Value)(kw:List (Str×Value)):XK (A.under (.builtin "type.__call__" ⟨.ref C::rest,kw⟩)) F h n:=by
 obtain⟨l,e,f⟩:=x.frames;refine⟨x.handled,⟨l,?_,f⟩,?_,?_⟩
 ·simp only[Around.under,e];rfl
 ·refine(?_:A.depth+Code.weight _+4*n+3<_);rw[mw];have:=x.depth;exact Jl [A.depth,n,_] 1 (.c 1 (.p (.p (.a J0 (.m 4 J1)) 4) 1) J2 .z) (.p (.p (.a (.p J0 1) (.m 4 J1)) 3) 1) J2 Jt this
 ·refine(?_:A.units+Code.cUnits _+40*n+10<_);have:Code.cUnits (.builtin "type.__call__" ⟨.ref C::rest,kw⟩)=1:=rfl;rw[this];have:=x.units;exact Jl [A.units,n,cLine] 1 (.c 1 (.p (.p (.a J0 (.m 40 J1)) 20) 1) J2 .z) (.p (.p (.a (.p J0 1) (.m 40 J1)) 10) 1) J2 Jt this
theorem pL(fc:Fc B){c f:Nat}{lf:LF}{out:Out LV}{xs:List Value}{kw:List (Str×Value)}{A:Around}{F:List Addr}{φ:aS}{σ:LH}{s:Shared}(hi:bf B.P.init c=some f)(hf:B.P.dg.get f=some lf)(xc:XC A F s.heap (B.x+d))(I:Inv B φ F σ s.heap)
  (H:∀A' ak s' x,XK A' F s'.heap (B.x+d)->Inv B ak F (σ++[.inst c []]) s'.heap->Le F [] φ ak s s'->VR ak F s'.heap (.ref σ.length) x->nS B A' F [] ak s' out (.call (.ref (B.fa f)) ⟨x::xs,kw⟩)):
  aa B A F [] φ s (oB out (jx (len σ))) (PySem.call (.ref (B.cls c)) xs kw) (RV F):=nS.call λhb=>by
 obtain⟨hh,g,dd,t,os⟩:=s;obtain⟨m1,m2,m3⟩:=fc.init c f lf hi hf;have hK:=fc.hK.keeps I.base;refine make_core (makes_of hK m1) (looks_findIn hK m2) (λself=>bind_fn hK self m3) (.inl rfl) ?_;have k:∀b o,hh.get? b=some o->((hh.push emptyDict).push (instObj (B.cls c) hh.objs.size)).get? b=some o:=λb o e=>Heap.get?_push_of_some _ (Heap.get?_push_of_some _ e)
 have hx:((hh.push emptyDict).push (instObj (B.cls c) hh.objs.size)).get? (hh.objs.size+1)=some (instObj (B.cls c) hh.objs.size):=by heap_get
 have hd:((hh.push emptyDict).push (instObj (B.cls c) hh.objs.size)).get? hh.objs.size=some emptyDict:=by heap_get
 have n0:hh.get? hh.objs.size=none:=bz _;have n1:hh.get? (hh.objs.size+1)=none:=Heap.get?_none_of_le (by walk_at "om");have I':Inv B (φ++[(hh.objs.size+1,hh.objs.size)]) F (σ++[.inst c []]) ((hh.push emptyDict).push (instObj (B.cls c) hh.objs.size)):=
  I.Ba k n1 n0 (by exact λq=>Jx [_] (.c 1 (.p J0 1) J0 .z) Jt (Jf q)) hx ⟨_,#[],_,hd,rfl,λe he=>by simp at he,by simp,λn=>rfl⟩
 have le:Le F [] φ (φ++[(hh.objs.size+1,hh.objs.size)]) ⟨hh,g,dd,t,os⟩ ⟨(hh.push emptyDict).push (instObj (B.cls c) hh.objs.size),g,dd,t,os⟩:=Le.grow k n1 n0 rfl rfl
 have hl:(φ++[(hh.objs.size+1,hh.objs.size)])[σ.length]?=some (hh.objs.size+1,hh.objs.size):=by rw[←I.len];simp
 have S:=H _ _ _ (.ref (hh.objs.size+1)) ((xc.le le).under (B.cls c) xs kw) I' le (dk.mpr ⟨_,hl,rfl⟩)
 cases out with
 |bad=>exact absurd rfl hb
 |err c' ax=>
  refine codeAny_mono (S jA) λr s' z=>?_
  cases r with
  |error e=>exact qz.from (out:=(.err c' ax:Out LV)) le z
  |ok fl=>cases fl<;>exact z.elim
 |ok v' ax=>
  refine codeAny_mono (S iR) λr s' z=>?_
  cases r with
  |error e=>exact z.elim
  |ok fl=>
   cases fl with
   |ret v=>
    cases v' with
    |none=>
     obtain⟨ak,e2,e3,e4⟩:=z;exact⟨dj.mp e4,ak,le.trans e2,e3,len_eq σ▸dk.mpr ⟨_,e2.idx hl,rfl⟩⟩
    |_=>exact absurd rfl hb
   |_=>exact z.elim
theorem B3(fc:Fc B)(G:aA B d r)(CG:dM B d r.call){c:Nat}{as:dH}{pe:Expr}(h:aJ B.nm N (.new c as) pe=true):SE B d (eNew c as B.P r) N pe:=by
 refine w5 h λn p args pos h=>?_
 ·intro A F φ σ s env ρ cx;have h1:=bL (bL (bL h));have h2:=bR (bL (bL h));have h3:=bF (bR (bL h));have h4:=bR h;have:=eq_of_beq h1;subst this
  obtain⟨hv,hk⟩:B.mg (B.nm.cD c)=some (.ref (B.cls c))/\keepIn B.K (.ref (B.cls c))=true:=by
   rcases fc.cn c with q|q
   ·rw[q] at h3;simp at h3
   ·exact q
  refine(?_:aa B A F [] φ s _ (eval (.Name (B.nm.cD c) p) env>>=λg=>callWith pos g [] (backTo pos (starEach args env)) []) _);refine aa.pre (a:=.ref (B.cls c)) (λQ E q=>gH fc.toFx cx h2 hv q) ?_;refine aa.kM (fh as args h4) (c8 fc.hK hk) (G.es as args N h4 _ _ _ _ _ _ _ pos cx) λvs ax ak s' xs _ le I rs=>?_;refine aa.opt λf hf=>aa.opt λlf Kl=>aa.opt λaU hp=>?_;refine pL fc hf Kl (cx.xc.le le) I λA' fG cb x k' NN vd rx=>?_;rw[bb];rw[len_eq] at hp;exact CG f lf _ aU _ _ _ _ _ _ Kl hp k' NN (aB.aH.mpr ⟨_,_,rfl,rx,rs.mono vd⟩)
set_option tactic.hygienic true in
theorem xS(fc:Fc B)(G:aA B d r)(CG:fj B d r.call){c k:Nat}{e:Ex}{pe:Expr}(h:aJ B.nm N (.ki c k e) pe=true):SE B d (DD c k e B.P r) N pe:=by
 refine s8 h λn p kn v kp pos h=>?_
 ·intro A F φ σ s env ρ cx;have h1:=bL (bL (bL (bL h)));have h2:=bR (bL (bL (bL h)));have h3:=bF (bR (bL (bL h)));have h4:=bR (bL h);have h5:=bR h;have:=eq_of_beq h1;subst this
  obtain⟨hv,hk⟩:B.mg (B.nm.cD c)=some (.ref (B.cls c))/\keepIn B.K (.ref (B.cls c))=true:=by
   rcases fc.cn c with q|q
   ·rw[q] at h3;simp at h3
   ·exact q
  split at h4
  ·rename_i fn Me;have:=eq_of_beq h4;subst this;refine(?_:aa B A F [] φ s _ (eval (.Name (B.nm.cD c) p) env>>=λg=>callWith pos g [] [] [(some fn,do let w←eval v env;standAt pos;pure w)]) _);refine aa.pre (a:=.ref (B.cls c)) (λQ E q=>gH fc.toFx cx h2 hv q) ?_;intro hb;refine callWith_of (P:=λh=>B.h0.StaysIn h) rfl (c8 fc.hK hk) ?_;refine evalArgs_kw_nil rfl ?_;refine wpAny_evalAll_cons (wpAny_bind ?_);refine wpAny_mono ((G.e e v N h5 _ _ _ _ _ _ _ cx).into (g:=λy=>PySem.call (.ref (B.cls c)) [] [(fn,y)]) (λv' ax ak s' y _ le I rv=>?_) hb) (λy s' h=>wpAny_bind (wpAny_standAt (wpAny_pure (wpAny_evalAll_nil h)))) λ_ _ e=>e;refine aa.opt λf hf=>aa.opt λlf Kl=>aa.opt λaU hp=>?_;refine pL fc hf Kl (cx.xc.le le) I λA' fG cb x k' NN vd rx=>?_;rw[bb];rw[len_eq] at hp;exact CG c k fn f lf _ _ aU _ _ _ _ _ _ _ hf Me Kl hp k' NN rx (rv.mono vd)
  ·cases h4
end
theorem oR.at{h h':Heap}{it:Addr}{v:LV}{x:Value}{i:Nat}(r:oR h it v x i)(k:∀o,h.get? it=some o->∃sl,h'.get? it=some {o with slots:=sl}):oR h' it v x i:=by
 cases v with
 |str u=>
  obtain⟨t,e,⟨a,o,ho,hc,hd⟩|⟨a,o,ho,hc,hd⟩⟩:=r
  ·obtain⟨sl,u9⟩:=k o ho;exact⟨t,e,.inl ⟨a,_,u9,hc,hd⟩⟩
  ·obtain⟨sl,u9⟩:=k o ho;exact⟨t,e,.inr ⟨a,_,u9,hc,hd⟩⟩
 |tup vs=>obtain⟨a,e,o,ho,hc,hd⟩:=r;obtain⟨sl,u9⟩:=k o ho;exact⟨a,e,_,u9,hc,hd⟩
 |ag vs=>obtain⟨a,e,o,ho,hc,hd⟩:=r;obtain⟨sl,u9⟩:=k o ho;exact⟨a,e,_,u9,hc,hd⟩
 |ref vs=>obtain⟨a,e,o,ho,hc,hd⟩:=r;obtain⟨sl,u9⟩:=k o ho;exact⟨a,e,_,u9,hc,hd⟩
 |_=>exact r
theorem oR.live{h:Heap}{it:Addr}{v:LV}{x:Value}{i:Nat}(r:oR h it v x i):∃o vs,h.get? it=some o/\o.data=.fields vs:=by
 cases v with
 |str u=>
  obtain⟨t,e,⟨a,o,ho,hc,hd⟩|⟨a,o,ho,hc,hd⟩⟩:=r
  ·exact⟨o,_,ho,hd⟩
  ·exact⟨o,_,ho,hd⟩
 |tup vs=>obtain⟨a,e,o,ho,hc,hd⟩:=r;exact⟨o,_,ho,hd⟩
 |ag vs=>obtain⟨a,e,o,ho,hc,hd⟩:=r;exact⟨o,_,ho,hd⟩
 |ref vs=>obtain⟨a,e,o,ho,hc,hd⟩:=r;exact⟨o,_,ho,hd⟩
 |_=>exact r.elim
section
variable{B:Bg}{A:Around}{F X:List Addr}{φ ak:aS}{σ:LH}{s:Shared}{E:Value->Shared->Prop}
theorem Le.step{it:Addr}{h':Heap}(hm:it∈F)(hs:Heap.SameBut it s.heap h')(hl:∃o,h'.get? it=some o)(hf:∀o,s.heap.get? it=some o->∃vs,o.data=.fields vs){k:Nat}:Le F [it] φ φ s {s with heap:=h',toks:=k} where
 keep b o e _ nf:=(hs.2 b λq=>nf (q▸hm)).trans e
 live b o e:=by
  by_cases q:b=it
  ·subst q;exact hl
  ·exact⟨o,(hs.2 b q).trans e⟩
 fr b o e _ nx:=⟨o.slots,(hs.2 b λq=>nx (by simp[q])).trans e⟩
 oP b o e _ d:=by
  by_cases q:b=it
  ·subst q;obtain⟨vs,e'⟩:=hf o e;exact absurd e' (d vs)
  ·exact⟨o,(hs.2 b q).trans e,d⟩
 ext:=⟨[],by simp,λ_ h=>by simp at h⟩
 gens:=rfl
 os:=rfl
theorem Inv.step{it:Addr}{h':Heap}(I:Inv B φ F σ s.heap)(hm:it∈F)(hs:Heap.SameBut it s.heap h')(hl:∃o,h'.get? it=some o):Inv B φ F σ h':=
 I.held (λb o e nf=>(hs.2 b λq=>nf (q▸hm)).trans e) λb o e _=>by
  by_cases q:b=it
  ·subst q;exact hl
  ·exact⟨o,(hs.2 b q).trans e⟩
theorem Le.TA{X':List Addr}{s':Shared}(x:Le F X φ ak s s')(h:∀b∈X,b∈X'):Le F X' φ ak s s':=x.wide h
theorem Le.out{it:Addr}{s₁ s':Shared}(k:∀b o,s.heap.get? b=some o->s₁.heap.get? b=some o)(n:s.heap.get? it=none)(hg:s₁.gens=s.gens)(ho:s₁.os=s.os)(x:Le (it::F) (it::X) φ ak s₁ s'):Le F X φ ak s s' where
 keep b o e no nf:=x.keep b o (k b o e) no λq=>by
  rcases List.mem_cons.mp q with q|q
  ·rw[q,n] at e;cases e
  ·exact nf q
 live b o e:=x.live b o (k b o e)
 fr b o e m nx:=x.fr b o (k b o e) (List.mem_cons_of_mem _ m) λq=>by
  rcases List.mem_cons.mp q with q|q
  ·rw[q,n] at e;cases e
  ·exact nx q
 oP b o e m d:=x.oP b o (k b o e) (List.mem_cons_of_mem _ m) d
 ext:=by
  obtain⟨ψ,e,h⟩:=x.ext;exact⟨ψ,e,λp hp=>⟨aQ (λb o e=>⟨o,k b o e⟩) (h p hp).1,aQ (λb o e=>⟨o,k b o e⟩) (h p hp).2⟩⟩
 gens:=x.gens.trans hg
 os:=x.os.trans ho
theorem nV{v:LV}{x:Value}{i:Nat}{o:Option LV}(I:Inv B φ F σ s.heap)(r:VR φ F s.heap v x)(e:item? v i σ=some o){Q:Value->Shared->Prop}
  (h:∀ob,oR (s.heap.push ob) s.heap.objs.size v x 0->Q (.ref s.heap.objs.size) {s with heap:=s.heap.push ob}):wpAny (model B.prog B.w) A (pyIter x) Q E s:=by
 cases v with
 |str u=>
  obtain⟨t,rfl⟩:=ic.mp r
  cases ha:(toS u).cps.all (·<128) with
  |true=>exact wpAny_pyIter_ascii ha (h _ ⟨t,rfl,.inl ⟨ha,_,Heap.get?_push_size _ rfl,rfl,rfl⟩⟩)
  |false=>exact wpAny_pyIter_wide ha (h _ ⟨t,rfl,.inr ⟨ha,_,Heap.get?_push_size _ rfl,rfl,rfl⟩⟩)
 |tup vs=>
  obtain⟨a,ob,xs,n,rfl,ho,_,_,hc,hd,_⟩:=gr.mp r;exact wpAny_pyIter_tuple ⟨ob,ho,hc,n,hd⟩ (h _ ⟨a,rfl,_,Heap.get?_push_size _ rfl,rfl,rfl⟩)
 |ag vs=>
  obtain⟨a,xs,rfl,hl,_⟩:=aj I r (vs:=vs) rfl;exact wpAny_pyIter_list hl (h _ ⟨a,rfl,_,Heap.get?_push_size _ rfl,rfl,rfl⟩)
 |ref j=>
  cases hl:listOf? (.ref j) σ with
  |none=>
   change iL (.ref j) i σ=some o at e;unfold iL at e;rw[show itemsOf (.ref j) σ=listOf? (.ref j) σ from rfl,hl] at e;cases e
  |some vs=>
   obtain⟨a,xs,rfl,hl,_⟩:=aj I r hl;exact wpAny_pyIter_list hl (h _ ⟨a,rfl,_,Heap.get?_push_size _ rfl,rfl,rfl⟩)
 |_=>cases e
theorem mx{l it:Addr}{vs:List LV}{xs:Array Value}{i:Nat}(hh:A.handled=none)(hm:it∈F)(I:Inv B φ F σ s.heap)(hl:s.heap.IsList l xs)(rs:aB φ F s.heap vs xs.toList)(r:s.heap.IsListIter it l i){Q:Option Value->Shared->Prop}
  (h1:∀w z s',vs[i]?=some w->Le F [it] φ φ s s'->Inv B φ F σ s'.heap->VR φ F s'.heap w z->s'.heap.IsListIter it l (i+1)->Q (some z) s') (h2:∀h',vs[i]?=none->Heap.ExtBut it s.heap h'->Q none {s with heap:=h'}):wpAny (model B.prog B.w) A (pyNext (.ref it)) Q E s:=by
 cases hv:vs[i]?with
 |some w=>
  obtain⟨z,hz,rz⟩:=rs.get hv;refine wpAny_pyNext_list_item r hl (by rw[←Array.getElem?_toList];exact hz) λh' r' hs=>?_;have xT:∃o,h'.get? it=some o:=let⟨o,ho,_⟩:=r';⟨o,ho⟩
  have le:Le F [it] φ φ s {s with heap:=h'}:=Le.step hm (k:=s.toks) hs xT λo e=>by
   obtain⟨o',ho,_,hd⟩:=r;rw[e] at ho;injection ho with ho;subst ho;exact⟨_,hd⟩
  exact h1 w z _ hv le (I.step hm hs xT) (rz.mono le) r'
 |none=>
  refine wpAny_pyNext_list_end hh r hl ?_ λh' hs=>h2 h' hv hs;rw[←Array.getElem?_toList];rw[List.getElem?_eq_none_iff] at hv⊢;rw[rs.length];exact hv
theorem gM{v:LV}{x:Value}{i:Nat}{it:Addr}{o:Option LV}(hh:A.handled=none)(hm:it∈F)(I:Inv B φ F σ s.heap)(rv:VR φ F s.heap v x)(r:oR s.heap it v x i)(e:item? v i σ=some o){Q:Option Value->Shared->Prop}
  (h1:∀w z s',o=some w->Le F [it] φ φ s s'->Inv B φ F σ s'.heap->VR φ F s'.heap w z->oR s'.heap it v x (i+1)->Q (some z) s') (h2:∀h',o=none->Heap.ExtBut it s.heap h'->Q none {s with heap:=h'}):wpAny (model B.prog B.w) A (pyNext (.ref it)) Q E s:=by
 cases v with
 |str u=>
  obtain⟨t,rfl,⟨ha,r⟩|⟨ha,r⟩⟩:=r
  all_goals
   change wy u i=some o at e;unfold wy at e;rw[aT] at e
   have hd:∀ob,s.heap.get? it=some ob->∃vs,ob.data=.fields vs:=λob q=>by
    obtain⟨o',ho,_,hd⟩:=r;rw[q] at ho;injection ho with ho;subst ho;exact⟨_,hd⟩
   cases hu:u[i]?with
   |some c=>
    rw[hu] at e;change some (some (LV.str [c]))=some o at e
    injection e with e
    have hc:(toS u).cps[i]?=some c:=by show u.toArray[i]?=some c;simpa using hu
    first
     |refine wpAny_pyNext_ascii_item r hc λh' r' hs=>?_
     |refine wpAny_pyNext_wide_item r hc λh' r' hs=>?_
    have xT:∃o,h'.get? it=some o:=let⟨o,ho,_⟩:=r';⟨o,ho⟩;have le:Le F [it] φ φ s {s with heap:=h',toks:=s.toks+1}:=Le.step hm (k:=s.toks+1) hs xT hd;exact h1 (.str [c]) _ _ e.symm le (I.step hm hs xT) VR.st ⟨t,rfl,by first|exact .inl ⟨ha,r'⟩|exact .inr ⟨ha,r'⟩⟩
   |none=>
    rw[hu] at e;change some none=some o at e
    injection e with e
    have hc:(toS u).cps[i]?=none:=by show u.toArray[i]?=none;simpa using hu
    first
     |exact wpAny_pyNext_ascii_end hh r hc λh' hs=>h2 h' e.symm hs
     |exact wpAny_pyNext_wide_end hh r hc λh' hs=>h2 h' e.symm hs
 |tup vs=>
  obtain⟨a,rfl,r⟩:=r;obtain⟨a',ob,xs,n,ea,ho,_,_,hc,hd,rs⟩:=gr.mp rv
  injection ea with ea;subst ea
  change some (bf vs i)=some o at e
  injection e with e
  rw[aT] at e
  have NL:∀ob,s.heap.get? it=some ob->∃vs,ob.data=.fields vs:=λob q=>by
   obtain⟨o',ho,_,hd⟩:=r;rw[q] at ho;injection ho with ho;subst ho;exact⟨_,hd⟩
  cases hv:vs[i]?with
  |some w=>
   obtain⟨z,hz,rz⟩:=rs.get hv;refine wpAny_pyNext_tuple_item r ⟨ob,ho,hc,n,hd⟩ (by rw[←Array.getElem?_toList];exact hz) λh' r' hs=>?_;have xT:∃o,h'.get? it=some o:=let⟨o,ho,_⟩:=r';⟨o,ho⟩;have le:Le F [it] φ φ s {s with heap:=h'}:=Le.step hm (k:=s.toks) hs xT NL;exact h1 w z _ (by rw[←e,hv]) le (I.step hm hs xT) (rz.mono le) ⟨a,rfl,r'⟩
  |none=>
   refine wpAny_pyNext_tuple_end hh r ⟨ob,ho,hc,n,hd⟩ ?_ λh' hs=>h2 h' (by rw[←e,hv]) hs;rw[←Array.getElem?_toList];rw[List.getElem?_eq_none_iff] at hv⊢;rw[rs.length];exact hv
 |ag vs=>
  obtain⟨a,rfl,r⟩:=r;obtain⟨a',xs,ea,hl,rs⟩:=aj I rv (vs:=vs) rfl
  injection ea with ea;subst ea
  change some (bf vs i)=some o at e
  injection e with e
  rw[aT] at e;exact mx hh hm I hl rs r (λw z s' q le I' uW r'=>h1 w z s' (by rw[←e,q]) le I' uW ⟨a,rfl,r'⟩) λh' q hs=>h2 h' (by rw[←e,q]) hs
 |ref j=>
  cases hl:listOf? (.ref j) σ with
  |none=>
   change iL (.ref j) i σ=some o at e;unfold iL at e;rw[show itemsOf (.ref j) σ=listOf? (.ref j) σ from rfl,hl] at e;cases e
  |some vs=>
   obtain⟨a,rfl,r⟩:=r;obtain⟨a',xs,ea,NF,rs⟩:=aj I rv hl
   injection ea with ea;subst ea
   change iL (.ref j) i σ=some o at e;unfold iL at e;rw[show itemsOf (.ref j) σ=listOf? (.ref j) σ from rfl,hl] at e;change some (bf vs i)=some o at e
   injection e with e
   rw[aT] at e;exact mx hh hm I NF rs r (λw z s' q le I' uW r'=>h1 w z s' (by rw[←e,q]) le I' uW ⟨a,rfl,r'⟩) λh' q hs=>h2 h' (by rw[←e,q]) hs
 |_=>exact r.elim
end
noncomputable def iq(cells:List (Str×Addr)):List (Str×NameKind)->List (Str×Addr)->List (Str×Addr)
 |[],acc=>acc
 |(n,k)::r,acc=>if k==.free then iq cells r ((n,(cells.lookup n).getD 0)::acc) else iq cells r acc
theorem kP{scope:Scope}{env:Env}(h:∀x∈scope.names,x.2=.free->(env.cells.lookup x.1).isSome=true):closureFor scope env=pure (iq env.cells scope.names []):=by
 simp only[closureFor];have:∀(l:List (Str×NameKind))(acc:List (Str×Addr)),(∀x∈l,x.2=.free->(env.cells.lookup x.1).isSome=true)->
   (forIn l acc (λx r=>if(x.2==NameKind.free)=true then do
      let a←cellOf env x.1
      pure (ForInStep.yield ((x.1,a)::r))
     else pure (ForInStep.yield r)):Sem (List (Str×Addr)))=pure (iq env.cells l acc):=by
  intro l
  induction l with
  |nil=>intro acc _;rfl
  |cons x l ih=>
   intro acc h;obtain⟨n,k⟩:=x;have Qq:=λacc=>ih acc λy hy=>h y (List.mem_cons_of_mem _ hy);rw[List.forIn_cons];by_cases hk:k=.free
   ·subst hk;obtain⟨c,hc⟩:=Option.isSome_iff_exists.mp (h (n,.free) List.mem_cons_self rfl)
    have R6:cellOf env n=pure c:=by unfold cellOf;dsimp only at hc;rw[hc]
    simp only[beq_self_eq_true,if_true,R6,pure_bind,Qq]
    conv=>rhs;unfold iq
    dsimp only at hc;rw[hc];rfl
   ·have hb:(k==NameKind.free)=false:=by simpa using hk
    simp only[hb,Bool.false_eq_true,if_false,pure_bind,Qq]
    conv=>rhs;unfold iq
    rw[hb];rfl
 rw[this scope.names [] h];rfl
theorem iu{cells:List (Str×Addr)}{n:Str}{c:Addr}(hc:cells.lookup n=some c):∀(l:List (Str×NameKind))(acc:List (Str×Addr)),((n,NameKind.free)∈l∨acc.lookup n=some c)->(∀c',acc.lookup n=some c'->c'=c)->(iq cells l acc).lookup n=some c
 |[],acc,h,_=>by
  rcases h with h|h
  ·cases h
  ·exact h
 |(m,k)::r,acc,h,h'=>by
  unfold iq;by_cases hk:k=.free
  ·subst hk;rw[if_pos (by rfl)];refine iu hc r _ ?_ ?_
   ·by_cases hm:n=m
    ·subst hm;right;simp[hc]
    ·rcases h with h|h
     ·rcases List.mem_cons.mp h with e|e
      ·injection e with e1 _;exact absurd e1 hm
      ·exact .inl e
     ·right;rw[List.lookup_cons]
      have:(n==m)=false:=by simpa using hm
      rw[this];exact h
   ·intro c' e;rw[List.lookup_cons] at e;by_cases hm:n=m
    ·subst hm;simp[hc] at e;exact e.symm
    ·have:(n==m)=false:=by simpa using hm
     rw[this] at e;exact h' c' e
  ·rw[if_neg (by simpa using hk)];refine iu hc r acc ?_ h'
   rcases h with h|h
   ·rcases List.mem_cons.mp h with e|e
    ·injection e with _ e2;exact absurd e2.symm hk
    ·exact .inl e
   ·exact .inr h
section
variable{M:Model}{A:Around}{E:Value->Shared->Prop}{s:Shared}{env:Env}
theorem xU{elt target iter:Expr}{scope my:Scope}{pos:Pos}{Q:Value->Shared->Prop}
  (FU:∀x∈scope.names,x.2=.free->(env.cells.lookup x.1).isSome=true) (xV:scope.kind=.function) (rI:∀x∈scope.names,x.2=.local->my.names.lookup x.1=some .local)
  (Km:my={scope with names:=scope.names.map λ(n,k)=>if(k==.free&&env.scope.kind==.function&&env.kindOf n==some .cell) then(n,.cell) else(n,k)})
  (h:wpAny M A (eval iter env) (λx s₁=>wpAny M A (pyIter x) (λit cz=>wpAny M A (newList []) (λacc eT=>
   wpAny M A (newFunctionEnv scope env.globals (iq env.cells scope.names []) [] env.qual none .none (some env)) (λcenv s₄=>
    codeAny M A (.compStart (.ListComp elt [⟨target,iter,[],0⟩] scope pos) 0 it acc {cenv with scope:=my})
     (λr s'=>∃m,s'.heap.Ns cenv.locals m/\∀h',Heap.SameBut cenv.locals s'.heap h'->
      match r with|.ok _=>Q acc {s' with heap:=h'}|.error x=>wpAny M A (passOn "comprehension.variables-let-go" x {cenv with scope:=my}) Q E {s' with heap:=h'}) s₄) E eT) E cz) E s₁) E s)
  (hs:∀x,foldedSetIterable iter env x=pure x:=by intro _;rfl):
  wpAny M A (eval (.ListComp elt [⟨target,iter,[],0⟩] scope pos) env) Q E s:=by
 rw[eval_ListComp];unfold comprehension;rw[kP FU,show clausesOf (.ListComp elt [⟨target,iter,[],0⟩] scope pos)=[⟨target,iter,[],0⟩] from rfl]
 refine wpAny_bind (wpAny_mono h (λx s₁ nW=>wpAny_bind (wpAny_standAt (wpAny_bind (wpAny_of_eq (hs x) (wpAny_bind (wpAny_holding (wpAny_mono nW (λit cz j5=>
  wpAny_standIf (wpAny_bind (wpAny_mono j5 (λacc eT gw=>wpAny_bind (wpAny_pure (wpAny_bind (wpAny_mono gw (λcenv s₄ xW=>?_) λ_ _ h'=>h')))) λ_ _ h'=>h')))
   λ_ _ h'=>h'))))))) λ_ _ h'=>h')
 dsimp only;rw[←Km];have hv:∀x∈(scope.names.filter λx=>(x.2==.local||x.2==.cell)&&x.1 !=(".0":Str)).reverse,x.2=.local->
   Env.kindOf {cenv with scope:=my} x.1=some .local:=λx hx hl=>rI x (List.mem_filter.mp (List.mem_reverse.mp hx)).1 hl
 have Kn:my.kind=.function:=by rw[Km];exact xV
 refine wpAny_holding (wpAny_bind (wpAny_attempt (wpAny_holding (wpAny_run (codeAny_mono xW λr s' hr=>?_)))));obtain⟨m,hn,hr⟩:=hr
 cases r with
 |ok f=>exact wpAny_bind (wpAny_holding (wpAny_comp_letGo (cenv:={cenv with scope:=my}) Kn _ s' m hv hn λh' m' _ FV=>wpAny_pure (hr h' FV)))
 |error x=>exact wpAny_bind (wpAny_holding (wpAny_comp_letGo (cenv:={cenv with scope:=my}) Kn _ s' m hv hn λh' m' _ FV=>hr h' FV))
end
theorem l6{prog:Program}{w:World}{A:Around}{R:Result->Shared->Prop}{s:Shared}{elt target iter:Expr}{scope:Scope}{pos:Pos}{it acc:Value}{env:Env}
  (turn:wpAny (model prog w) A (pyNext it) (λr s₁=>match r with
   |none=>R (.ok .next) s₁
   |some v=>wpAny (model prog w) A (assign target env v) (λ_ cz=>wpAny (model prog w) A (eval elt env) (λx eT=>
     wpAny (model prog w) A (call (.builtin "list.append") [acc,x]) (λ_ s₄=>codeAny (model prog w) A (.compLoop (.ListComp elt [⟨target,iter,[],0⟩] scope pos) 0 it acc env) R s₄) (λ_ _=>False) eT)
     (λ_ _=>False) cz) (λ_ _=>False) s₁) (λ_ _=>False) s)
  (ht:∀v,letOwnedTupleGo target it v=pure ():=by intro _;rfl):
  codeAny (model prog w) A (.compLoop (.ListComp elt [⟨target,iter,[],0⟩] scope pos) 0 it acc env) R s:=by
 refine codeAny_of_tree ?_;rw[Around.under_of_weight rfl rfl];refine(?_:wpAny _ _ ((compTurn (.ListComp elt [⟨target,iter,[],0⟩] scope pos) 0 it acc env).onRaise (λx=>do noteFrame x env;theTreesLotGoes x)) _ _ s);refine wpAny_onRaise (wpAny_mono (E:=λ_ _=>False) ?_ (λ_ _ q=>q) λ_ _ q=>q.elim);rw[compTurn_list1];refine wpAny_bind (wpAny_standAt (wpAny_bind (wpAny_mono turn (λr s₁ nW=>?_) λ_ _ h'=>h')))
 cases r with
 |none=>exact wpAny_pure nW
 |some v=>
  refine wpAny_bind (wpAny_of_eq (ht v) ?_)
  exact wpAny_bind (wpAny_mono nW (λ_ cz j5=>wpAny_bind (wpAny_bind (wpAny_mono j5 (λx eT gw=>wpAny_bind (wpAny_mono gw
   (λ_ s₄ xW=>wpAny_pure (wpAny_pure ⟨rfl,xW⟩)) λ_ _ h'=>h')) λ_ _ h'=>h'))) λ_ _ h'=>h')
section
variable{B:Bg}{A:Around}{F X:List Addr}{φ ak:aS}{σ:LH}{s s':Shared}{d:Nat}{N:NC}{r:Ev}{env:Env}{ρ:List LV}
theorem Le.Eb{it:Addr}{h':Heap}(hm:it∈F)(hs:Heap.SameBut it s.heap h')(hl:∃o,h'.get? it=some o/\∀vs,o.data≠.fields vs){k:Nat}:Le F [it] φ φ s {s with heap:=h',toks:=k} where
 keep b o e _ nf:=(hs.2 b λq=>nf (q▸hm)).trans e
 live b o e:=by
  by_cases q:b=it
  ·subst q;obtain⟨o',e',_⟩:=hl;exact⟨o',e'⟩
  ·exact⟨o,(hs.2 b q).trans e⟩
 fr b o e _ nx:=⟨o.slots,(hs.2 b λq=>nx (by simp[q])).trans e⟩
 oP b o e _ d:=by
  by_cases q:b=it
  ·subst q;exact hl
  ·exact⟨o,(hs.2 b q).trans e,d⟩
 ext:=⟨[],by simp,λ_ h=>by simp at h⟩
 gens:=rfl
 os:=rfl
theorem D8.le(x:D8 φ F s.heap env N ρ)(y:Le F X φ ak s s')(hm:∃m,s'.heap.Ns env.locals m):D8 ak F s'.heap env N ρ:=by
 obtain⟨h1,h2,_,h3⟩:=x;refine⟨h1,h2,hm,λi n v e1 e2=>⟨(h3 i n v e1 e2).1,λk=>?_⟩⟩;obtain⟨x,ca,g1,⟨o,g2,Ko⟩,g3,g4,g5⟩:=(h3 i n v e1 e2).2 k;exact⟨x,ca,g1,⟨o,y.keep _ _ g2 g3 g4,Ko⟩,y.ky g2 g3,g4,g5.mono y⟩
theorem Le.ns{a:Addr}{m}(y:Le F X φ ak s s')(h:s.heap.Ns a m)(ha:a∈F)(hx:a∉X):s'.heap.Ns a m:=gp h λo e=>y.fr _ o e ha hx
theorem ns_obj{h:Heap}{a:Addr}{m}(x:h.Ns a m):∃o,h.get? a=some o/\∀vs,o.data≠.fields vs:=by
 obtain⟨o,es,ep,ho,hd,_⟩:=x;exact⟨o,ho,λvs q=>by rw[hd] at q;cases q⟩
theorem xY{x:Str}{rest:List Str}{tp:Pos}{w:LV}{z:Value}(hn:N.names=x::rest)(hk:N.kind x=some .local)(ok:cJ N env)(I:Inv B φ F σ s.heap)(nr:D8 φ F s.heap env N ρ)(uW:VR φ F s.heap w z){Q:Unit->Shared->Prop}{E:Value->Shared->Prop}
  (h:∀s',Le F [env.locals] φ φ s s'->Inv B φ F σ s'.heap->NR φ F s'.heap env N (w::ρ)->D8 φ F s'.heap env N ρ->Q () s'):wpAny (model B.prog B.w) A (assign (.Name x tp) env z) Q E s:=by
 obtain⟨h1,h2,⟨m,hm⟩,h3⟩:=nr;refine wpAny_assign_Name (wpAny_storeName_local (by rw[ok.of];exact hk) hm (λh' qN hs=>?_) (by rw[ok.fn];rfl));have ho:=ns_obj qN;have le:Le F [env.locals] φ φ s {s with heap:=h',toks:=s.toks+1}:=Le.Eb h1 hs ho;have I':Inv B φ F σ h':=I.step h1 hs (let⟨o,e,_⟩:=ho;⟨o,e⟩);have nc:D8 φ F h' env N ρ:=D8.le (s':={s with heap:=h',toks:=s.toks+1}) ⟨h1,h2,⟨m,hm⟩,h3⟩ le ⟨_,qN⟩;refine h _ le I' ⟨h1,by rw[hn];rw[hn] at h2;simpa using h2,_,qN,λi n v e1 e2=>?_⟩ nc
 cases i with
 |zero=>
  rw[hn] at e1
  have e1:x=n:=by simpa using e1
  have e2:w=v:=by simpa using e2
  subst e1 e2;exact⟨λ_=>.inr ⟨z,by simp,uW.mono le⟩,λk=>by rw[hk] at k;cases k⟩
 |succ i=>
  have:=nc.2.2.2 i n v e1 (by simpa using e2);exact⟨λk=>absurd k this.1,this.2⟩
theorem rJ{k:Nat}{vs:List LV}{p:Addr}{v:LV}{z:Value}(I:Inv B φ F σ s.heap)(hs:σ[k]?=some (.list vs))(hp:φ[k]?=some (p,p))(rv:VR φ F s.heap v z)(gK:small (len vs)=true):
  aa B A F [] φ s (.ok .none (aW σ (.list (app vs [v])) k)) (call (.builtin "list.append") [.ref p,z]) (RV F):=by
 obtain⟨p',ys,n,H6,e,ho,rl⟩:=dq I hs (x:=.ref p) (dk.mpr ⟨_,hp,rfl⟩)
 rw[hp] at H6;injection H6 with H6;subst H6
 rw[bb];exact dA (f:=λq=>q.push z) I hs hp ho (by rw[Array.toList_push];exact rl.append (.one rv)) VR.n λQ E q=>
  call_meets PySem.F.slot_list_append ⟨_,ho,rfl⟩ PySem.F.entry_list_append (PySem.F.args_list_append_2 _ _) (AutoListH.list_append_list_val_0 p ys n z (il rl gK).1) ⟨ho,q⟩
inductive tI(r:Ev)(elt:Ex)(v:LV)(i k:Nat)(ρ:List LV)(σ:LH)(out:Out LV):Prop
 |stop (h:item? v i σ=some none) (e:out=.ok (.ref k) σ)
 |go (w y:LV) (fT:LH) (vs:List LV) (h:item? v i σ=some (some w)) (he:r.e elt (w::ρ) σ=.ok y fT) (hk:fT[k]?=some (.list vs)) (hs:small (len vs)=true) (e:out=r.comp elt v (i+1) k ρ (aW fT (.list (app vs [y])) k))
theorem Kp{r:Ev}{elt:Ex}{v:LV}{i k:Nat}{ρ:List LV}{σ:LH}(hb:d5 r elt v i k ρ σ≠.bad):tI r elt v i k ρ σ (d5 r elt v i k ρ σ):=by
 unfold d5 at hb⊢
 cases ho:item? v i σ with
 |none=>rw[ho] at hb;exact absurd rfl hb
 |some o=>
  rw[ho] at hb
  cases o with
  |none=>exact .stop ho rfl
  |some w=>
   rw[Nf] at hb⊢;change(Iz (r.e elt (w::ρ) σ) _:Out LV)≠_ at hb;change tI r elt v i k ρ σ (Iz (r.e elt (w::ρ) σ) _)
   cases hy:r.e elt (w::ρ) σ with
   |bad=>rw[hy] at hb;exact absurd rfl hb
   |err _ _=>rw[hy] at hb;exact absurd rfl hb
   |ok y fT=>
    rw[hy] at hb;change(oN (bf fT k) _:Out LV)≠_ at hb;change tI r elt v i k ρ σ (oN (bf fT k) _)
    cases hk:bf fT k with
    |none=>rw[hk] at hb;exact absurd rfl hb
    |some ob=>
     rw[hk] at hb
     cases ob with
     |inst _ _=>exact absurd rfl hb
     |list vs=>
      change(bN (small (len vs)) _:Out LV)≠_ at hb;change tI r elt v i k ρ σ (bN (small (len vs)) _)
      cases gK:small (len vs) with
      |false=>rw[gK] at hb;exact absurd rfl hb
      |true=>exact .go w y fT vs ho hy (by rw[←aT];exact hk) gK rfl
theorem B4.from{B:Bg}{F:List Addr}{φ ak:aS}{s s':Shared}{it L:Addr}{k:Nat}{out:Out LV}{cb:Shared}(h:@Out.rec LV (λ_=>Prop) (λv ax=>v=.ref k/\pH B F ak s' it L ax cb) (λ_ _=>False) False out)(le:Le F [it,L] φ ak s s'):
  @Out.rec LV (λ_=>Prop) (λv ax=>v=.ref k/\pH B F φ s it L ax cb) (λ_ _=>False) False out:=by
 cases out with
 |ok v ax=>exact⟨h.1,h.2.rec λfG s₁ h' a b c d e=>⟨fG,s₁,h',a,le.trans b,c,d,e⟩⟩
 |_=>exact h
theorem ve(G:aA B d r){e:Ex}:∀elt e N x sc pos iter tp A F φ σ s env ρ it acc k v z i,aJ B.nm N elt e=true->N.names.head?=some x->xC B d N A F φ σ s env ρ it acc k v z i->d5 r elt v i k ρ σ≠.bad->
 codeAny (model B.prog B.w) A (.compLoop (.ListComp e [⟨.Name x tp,iter,[],0⟩] sc pos) 0 (.ref it) (.ref acc) env) (D9 B F φ s it env.locals k (d5 r elt v i k ρ σ)) s:=by
 intro elt e N x sc pos iter tp A F φ σ s env ρ it acc k v z i AO hx cx hb;refine l6 ?_
 cases Kp hb with
 |stop h eo=>
  rw[eo];refine gM cx.xc.handled cx.Kh cx.inv cx.rv cx.ir h (λw zw s1 eo _ _ _ _=>nomatch eo) λh' eo fk=>?_;obtain⟨m0,o,es,ep,ho,hr⟩:=cx.nr.2.2.1;exact⟨rfl,rfl,φ,s,h',rfl,.refl,cx.inv,fk,m0,o,es,ep,fk _ _ (Ne.symm cx.ne) ho,hr⟩
 |go w y fT vs h hy R7 gK eo=>
  rw[eo] at hb⊢;refine gM cx.xc.handled cx.Kh cx.inv cx.rv cx.ir h (λw' zw s1 eo cf I1 Kq B5=>?_) λh' eo _=>nomatch eo;cases eo;obtain⟨xx,rest,hn,hk⟩:=cx.own
  rw[hn] at hx;injection hx with hx;subst hx
  obtain⟨m0,Qr⟩:=cx.nr.2.2.1;have NO:=cx.nr.le cf ⟨m0,cf.ns Qr cx.nr.1 (by simp[Ne.symm cx.ne])⟩;refine xY hn hk cx.ok I1 NO Kq λs2 cR I2 Ec Kr=>?_;have S:=G.e elt e N AO _ _ _ _ _ _ _ ⟨(cx.xc.le cf).le cR,cx.ok,I2,Ec,λq=>by rw[cx.lv] at q;cases q⟩;rw[hy] at S;refine wpAny_mono (S iR) (λzy s3 q=>?_) λ_ _ q=>q.elim;obtain⟨kb,jO,I3,ry⟩:=q;have Ks:Le F [it,env.locals] φ kb s s3:=((cf.wide (by simp)).trans (cR.wide (by simp))).trans (jO.wide (by simp));refine wpAny_mono (rJ I3 R7 (Ks.idx cx.acc) ry gK iR) (λ_ s4 q=>?_) λ_ _ q=>q.elim;obtain⟨Mf,Mg,I4,_⟩:=q;have B6:Le F [it,env.locals] φ Mf s s4:=Ks.trans (Mg.wide (by simp));have FW:Le F [] φ Mf s2 s4:=jO.trans Mg
  have R8:xC B d N A F Mf (aW fT (.list (app vs [y])) k) s4 env ρ it acc k v z (i+1):=by
   obtain⟨m2,R9⟩:=Kr.2.2.1
   exact⟨cx.xc.le B6,cx.ok,cx.lv,⟨xx,rest,hn,hk⟩,I4,cx.Kh,cx.ne,Kr.le FW ⟨m2,FW.ns R9 cx.nr.1 (by simp)⟩,cx.rv.mono B6,
    (B5.at λo e=>cR.fr _ o e cx.Kh (by simp[cx.ne])).at λo e=>FW.fr _ o e cx.Kh (by simp),B6.idx cx.acc⟩
  refine codeAny_mono (G.comp elt e N xx sc pos iter tp A F Mf _ s4 env ρ it acc k v z (i+1) AO (by rw[hn];rfl) R8 hb) λrr s' h=>⟨h.1,?_⟩;exact B4.from h.2 B6
end
section
variable{B:Bg}{A:Around}{F X:List Addr}{φ ak:aS}{σ:LH}{s s':Shared}{d:Nat}{N:NC}{r:Ev}{env:Env}{ρ:List LV}
theorem Inv.iZ{G:List Addr}{h h':Heap}(I:Inv B φ (G++F) σ h)(k:∀b o,b∉G->h.get? b=some o->h'.get? b=some o)(hd:∀f∈F,f∉G):Inv B φ F σ h' where
 len:=I.len
 ok i o p a b:=by
  have r:=I.ok i o p a b;have hm:=I.di p (List.mem_of_getElem? b);have n1:p.1∉G:=λq=>hm.1 (List.mem_append_left _ q);have n2:p.2∉G:=λq=>hm.2 (List.mem_append_left _ q);obtain⟨⟨o1,e1,_⟩,⟨o2,e2,_⟩⟩:=r.live;exact r.bq ((k _ _ n1 e1).trans e1.symm) ((k _ _ n2 e2).trans e2.symm) (λb o e n nf=>⟨k b o (λq=>nf (List.mem_append_left _ q)) e,n,λq=>nf (List.mem_append_right _ q)⟩) λ_ _ e=>e
 sep:=I.sep
 top:=I.top
 di p hp:=⟨λq=>(I.di p hp).1 (List.mem_append_right _ q),λq=>(I.di p hp).2 (List.mem_append_right _ q)⟩
 base b o e:=k b o (λhf=>by have:=(I.fr b (List.mem_append_left _ hf)).1;rw[this] at e;cases e) (I.base b o e)
 fr f hf:=⟨(I.fr f (List.mem_append_right _ hf)).1,let⟨o,e⟩:=(I.fr f (List.mem_append_right _ hf)).2;⟨o,k f o (hd f hf) e⟩⟩
theorem Le.made{G:List Addr}{s₁ s₄ s₅:Shared}{h':Heap}{ψ:aS}{t:Nat}(k:∀b o,s₁.heap.get? b=some o->s₄.heap.get? b=some o)(n:∀g∈G,s₁.heap.get? g=none)(wU:∀p∈ψ,s₁.heap.get? p.1=none/\s₁.heap.get? p.2=none)(hg:s₄.gens=s₁.gens)(ho:s₄.os=s₁.os)
  (x:Le (G++F) (G++X) (φ++ψ) ak s₄ s₅) (k':∀b o,b∉G->s₅.heap.get? b=some o->h'.get? b=some o):Le F X φ ak s₁ {s₅ with heap:=h',toks:=t}:=by
 have ng:∀b o,s₁.heap.get? b=some o->b∉G:=λb o e q=>by rw[n b q] at e;cases e
 have no:∀b o,s₁.heap.get? b=some o->¬Own φ b->¬Own (φ++ψ) b:=λb o e q=>by
  rw[Own.append]
  rintro(h|⟨p,hp,h|h⟩)
  ·exact q h
  ·rw[h,(wU p hp).1] at e;cases e
  ·rw[h,(wU p hp).2] at e;cases e
 refine⟨λb o e q nf=>?_,λb o e=>?_,λb o e m nx=>?_,λb o e m dd=>?_,?_,x.gens.trans hg,x.os.trans ho⟩
 ·exact k' b o (ng b o e) (x.keep b o (k b o e) (no b o e q) λq=>(List.mem_append.mp q).elim (ng b o e) nf)
 ·obtain⟨o',e'⟩:=x.live b o (k b o e);exact⟨o',k' b o' (ng b o e) e'⟩
 ·obtain⟨sl,e'⟩:=x.fr b o (k b o e) (List.mem_append_right _ m) λq=>(List.mem_append.mp q).elim (ng b o e) nx;exact⟨sl,k' b _ (ng b o e) e'⟩
 ·obtain⟨o',e',d'⟩:=x.oP b o (k b o e) (List.mem_append_right _ m) dd;exact⟨o',k' b o' (ng b o e) e',d'⟩
 ·obtain⟨χ,e,h⟩:=x.ext;refine⟨ψ++χ,by rw[e,List.append_assoc],λp hp=>?_⟩
  rcases List.mem_append.mp hp with q|q
  ·exact wU p q
  ·exact⟨aQ (λb o e=>⟨o,k b o e⟩) (h p q).1,aQ (λb o e=>⟨o,k b o e⟩) (h p q).2⟩
end
theorem dE(N:NC)(n:Str):∀l:List (Str×NameKind),(l.map λ(n,k)=>if(k==.free&&N.sc.kind==.function&&N.sc.names.lookup n==some .cell) then(n,NameKind.cell) else(n,k)).lookup n=
  (l.lookup n).map λk=>if(k==.free&&N.sc.kind==.function&&N.sc.names.lookup n==some .cell) then .cell else k
 |[]=>rfl
 |(m,k)::l=>by
  have ih:=dE N n l
  have pair:∀c:Bool,(if c=true then(m,NameKind.cell) else(m,k))=(m,if c=true then NameKind.cell else k):=λc=>by cases c<;>rfl
  rw[List.map_cons];dsimp only;rw[pair,List.lookup_cons,List.lookup_cons];by_cases hm:n=m
  ·subst hm;simp only[beq_self_eq_true];rfl
  ·have hb:(n==m)=false:=by simpa using hm
   rw[hb];exact ih
structure iv(N:NC)(sc:Scope)(x:Str):Prop where
 B7:∀y∈sc.names,y.2=.free->N.sc.names.lookup y.1=some .cell/\y.1∈N.names
 Kt:∀y∈sc.names,y.2=.local->sc.names.lookup y.1=some .local
 NP:∀y∈sc.names,y.2=.local->y.1∉N.names
 cell:∀y∈sc.names,y.2≠.cell
 own:sc.names.lookup x=some .local
 kind:sc.kind=.function
 new:x∉N.names
 lv:N.lv=0
theorem iv.of{N:NC}{sc:Scope}{x:Str}(h:ny N sc x=true):iv N sc x:=by
 unfold ny at h;simp only[Bool.and_eq_true,List.all_eq_true,Bool.not_eq_true'] at h;obtain⟨⟨⟨⟨⟨⟨h1,h2⟩,h3⟩,h4⟩,h5⟩,h6⟩,h7⟩:=h;refine⟨λy hy e=>?_,λy hy e=>?_,λy hy e=>?_,λy hy e=>?_,?_,?_,by simpa using h6,by simpa using h7⟩
 ·have:=h1 y hy;rw[e] at this;simpa using this
 ·have:=h1 y hy;rw[e] at this;simp at this;exact this.1
 ·have:=h1 y hy;rw[e] at this;simp at this;exact this.2
 ·have:=h1 y hy;rw[e] at this;simp at this
 ·split at h2
  ·assumption
  ·cases h2
 ·split at h3
  ·assumption
  ·cases h3
section
variable{B:Bg}{A:Around}{F X:List Addr}{φ ak:aS}{σ:LH}{s s':Shared}{d:Nat}{N:NC}{r:Ev}{env:Env}{ρ:List LV}{E:Value->Shared->Prop}
theorem NR.cell{n:Str}(x:NR φ F s.heap env N ρ)(hn:n∈N.names)(hk:N.kind n=some .cell):∃(i:Nat)(v:LV)(y:Value)(ca:Addr),N.names[i]?=some n/\ρ[i]?=some v/\env.cells.lookup n=some ca/\s.heap.IsCell ca (some y)/\¬Own φ ca/\ca∉F/\VR φ F s.heap v y:=by
 obtain⟨hf,hl,m,hm,r⟩:=x;obtain⟨i,hi,e⟩:=List.getElem_of_mem hn
 have e1:N.names[i]?=some n:=by rw[List.getElem?_eq_getElem hi,e]
 have e2:ρ[i]?=some ρ[i]:=List.getElem?_eq_getElem (by exact Jl [_,ρ.length,i] 1 (.c 1 J0 J1 (.c 1 (.p J2 1) J0 .z)) (.p J2 1) J1 Jt (Jg hl) hi);obtain⟨y,ca,a,b,c,dd,ee⟩:=(r i n _ e1 e2).2 hk;exact⟨i,_,y,ca,e1,e2,a,b,c,dd,ee⟩
theorem rK{it:Addr}{v:LV}{x:Value}{i:Nat}(r:oR s.heap it v x i){Q:Value->Shared->Prop}(h:Q (.ref it) s):wpAny (model B.prog B.w) A (pyIter (.ref it)) Q E s:=by
 cases v with
 |str u=>
  obtain⟨t,rfl,⟨ha,r⟩|⟨ha,r⟩⟩:=r
  ·exact wpAny_pyIter_striter_ascii r h
  ·exact wpAny_pyIter_striter_wide r h
 |tup vs=>obtain⟨a,_,r⟩:=r;exact wpAny_pyIter_tupleiter r h
 |ag vs=>obtain⟨a,_,r⟩:=r;exact wpAny_pyIter_listiter r h
 |ref j=>obtain⟨a,_,r⟩:=r;exact wpAny_pyIter_listiter r h
 |_=>exact r.elim
end
theorem gh.push{F F':List Addr}{h h':Heap}{l:List Env}(x:gh F h l)(hF:∀f∈F,f∈F')(k:∀b o,h.get? b=some o->h'.get? b=some o):gh F' h' l:=λenv he=>by
 obtain⟨hk,L,hf,hL,o,ho,hd⟩:=x env he;exact⟨hk,L,hf,hF L hL,o,k L o ho,hd⟩
theorem XC.push{A:Around}{F F':List Addr}{h h':Heap}{d:Nat}(x:XC A F h d)(hF:∀f∈F,f∈F')(k:∀b o,h.get? b=some o->h'.get? b=some o):XC A F' h' d:=
 ⟨x.handled,let⟨l,e,f⟩:=x.frames;⟨l,e,f.push hF k⟩,x.depth,x.units⟩
theorem jQ{B:Bg}{φ:aS}{F:List Addr}{h:Heap}{σ:LH}{v:LV}{x:Value}{i:Nat}{ob:LO}{o:Option LV}(I:Inv B φ F σ h)(r:VR φ F h v x)(e:item? v i (σ++[ob])=some o):item? v i σ=some o:=by
 cases v with
 |ref j=>
  obtain⟨p,hp,_⟩:=dk.mp r;have hj:j<σ.length:=I.len▸(List.getElem?_eq_some_iff.mp hp).1;change cO (cO (bf (σ++[ob]) j) (bC none some) none) (λvs=>some (bf vs i)) none=some o at e;refine(?_:cO (cO (bf σ j) (bC none some) none) (λvs=>some (bf vs i)) none=some o);rw[aT] at e⊢;rwa [List.getElem?_append_left hj] at e
 |_=>exact e
theorem nX{e:Expr}{env:Env}(h:kF e=true):∀z,foldedSetIterable e env z=pure z:=λz=>by cases e<;>first|rfl|cases h
theorem xZ{B:Bg}{F:List Addr}{φ:aS}{s:Shared}{it L:Addr}{k:Nat}{out:Out LV}{cb:Shared}(h:@Out.rec LV (λ_=>Prop) (λv ax=>v=.ref k/\pH B F φ s it L ax cb) (λ_ _=>False) False out):∃ax,out=.ok (.ref k) ax/\pH B F φ s it L ax cb:=by
 cases out with
 |ok v ax=>exact⟨ax,by rw[h.1],h.2⟩
 |_=>exact h.elim
noncomputable def CR(B:Bg)(A:Around)(F:List Addr)(φ:aS)(s:Shared)(sc:Scope)(out:Out LV)(acc:Value)(cenv:Env)(rr:Result)(s':Shared):Prop:=
 ∃m,s'.heap.Ns cenv.locals m/\∀h',Heap.SameBut cenv.locals s'.heap h'->match rr with
  |.ok _=>qZ B F [] φ s (RV F) out acc {s' with heap:=h'}
  |.error x=>wpAny (model B.prog B.w) A (passOn "comprehension.variables-let-go" x {cenv with scope:=sc}) (qZ B F [] φ s (RV F) out) (qz B F [] φ s out) {s' with heap:=h'}
section
variable{B:Bg}{d:Nat}{N:NC}{r:Ev}{A:Around}{F X:List Addr}{φ ak:aS}{σ:LH}{s s':Shared}{env:Env}{ρ:List LV}{E:Value->Shared->Prop}
theorem fo{h:Heap}{a b:Addr}{o:Obj}(e:h.get? b=some o)(n:h.get? a=none):b≠a:=λq=>by rw[q,n] at e;cases e
theorem B8{hh h₀:Heap}{it acc L:Addr}(k:∀b o,hh.get? b=some o->h₀.get? b=some o)(nI:hh.get? it=none)(nA:hh.get? acc=none)(nL:hh.get? L=none):
  ∀b o,hh.get? b=some o->¬Own φ b->b∉F->h₀.get? b=some o/\¬Own (φ++[(acc,acc)]) b/\b∉L::it::F:=λb o e n nf=>
 ⟨k b o e,λq=>(Own.append.mp q).elim n λ⟨p,hp,q⟩=>by
  rw[List.mem_singleton] at hp;rw[hp] at q
  exact q.elim (fo e nA) (fo e nA),λq=>(List.mem_cons.mp q).elim (fo e nL) λq=>(List.mem_cons.mp q).elim (fo e nI) nf⟩
theorem pM(p':Addr×Addr)(i:Nat)(p:Addr×Addr)(e:φ[i]?=some p):(φ++[p'])[i]?=some p:=by
 rw[List.getElem?_append_left (List.getElem?_eq_some_iff.mp e).1];exact e
noncomputable def iw(N:NC)(n:Str)(k:NameKind):NameKind:=if(k==.free&&N.sc.kind==.function&&N.sc.names.lookup n==some .cell) then .cell else k
theorem vf{N:NC}{n:Str}{k:NameKind}(h:k≠.free):iw N n k=k:=by
 unfold iw;rw[beq_eq_false_iff_ne.mpr h];rfl
theorem vg{e:Env}{x n:Str}{sc:Scope}{v':LV}{i:Nat}{h:Heap}(co:iv N sc x)(cx:NR φ F h e N ρ)(hk:N.sc.kind=.function)(e1:N.names[i]?=some n)(e2:ρ[i]?=some v'){P:Value->Addr->Prop}
  (K:∀y ca,e.cells.lookup n=some ca->h.IsCell ca (some y)->¬Own φ ca->ca∉F->VR φ F h v' y->P y ca):
  (sc.names.lookup n).map (iw N n)≠some .local/\((sc.names.lookup n).map (iw N n)=some .cell->∃y ca,(iq e.cells sc.names []).lookup n=some ca/\P y ca):=by
 cases hl:sc.names.lookup n with
 |none=>exact⟨λq=>(by cases q),λq=>(by cases q)⟩
 |some kd=>
  have hm:=mem_of_lookup hl;by_cases hf:kd=.free
  ·rw[hf] at hm⊢;have c1:N.sc.names.lookup n=some .cell:=(co.B7 _ hm rfl).1
   have c3:iw N n .free=.cell:=by unfold iw;rw[c1,hk];rfl
   refine⟨λq=>?_,λ_=>?_⟩
   ·rw[Option.map_some,c3] at q;cases q
   ·obtain⟨TB,TC,m,TF,hr⟩:=cx;obtain⟨y,ca,g1,g2,g3,g4,g5⟩:=(hr i n v' e1 e2).2 c1;exact⟨y,ca,iu g1 _ _ (.inl hm) (λ_ q=>by cases q),K y ca g1 g2 g3 g4 g5⟩
  ·rw[Option.map_some,vf hf];refine⟨λq=>?_,λq=>?_⟩
   ·rw[Option.some.inj q] at hm;exact co.NP _ hm rfl (List.mem_of_getElem? e1)
   ·rw[Option.some.inj q] at hm;exact absurd rfl (co.cell _ hm)
noncomputable def compEnv(N:NC)(sc:Scope)(L:Addr)(env:Env):Env:={newEnv sc L env.globals (iq env.cells sc.names []) env.qual none .none (some env) builtinsNs with scope:=cE N sc}
theorem B9{x:Str}{sc:Scope}{v:LV}{z:Value}(co:iv N sc x)(cx:fb B d N A F φ σ s env ρ)(rv:VR φ F s.heap v z){hA hB h₀:Heap}{it acc L:Addr}{t':Nat}
  (kA:∀b o,s.heap.get? b=some o->hA.get? b=some o) (kB:∀b o,hA.get? b=some o->hB.get? b=some o) (kC:∀b o,hB.get? b=some o->h₀.get? b=some o)
  (nI:s.heap.get? it=none) (nA:hA.get? acc=none) (nL:hB.get? L=none) (Mh:s.heap.get? acc=none) (Ku:s.heap.get? L=none) (ne:it≠L) (NQ:hB.get? acc=some (lobj #[] 0)) (qN:h₀.Ns L λ_=>none) (vi:oR hA it v z 0):
  xC B d (jM N sc x) A (L::it::F) (φ++[(acc,acc)]) (σ++[.list []]) {s with heap:=h₀,toks:=t'} (compEnv N sc L env) ρ it acc (len σ) v z 0:=by
 have k:∀b o,s.heap.get? b=some o->h₀.get? b=some o:=λb o e=>kC b o (kB b o (kA b o e));have KK:=B8 (φ:=φ) (F:=F) k nI Mh Ku
 have look:∀n,(cE N sc).names.lookup n=(sc.names.lookup n).map (iw N n):=λn=>by unfold cE;exact dE N n sc.names
 refine⟨cx.xc.push (λf hf=>List.mem_cons_of_mem _ (List.mem_cons_of_mem _ hf)) k,⟨rfl,cx.ok.gl,cx.ok.bl,co.kind⟩,rfl,⟨x,N.names,rfl,?_⟩,
  ((cx.inv.fM kA nI (let⟨o,_,e,_⟩:=vi.live;⟨o,e⟩)).newList kB nA NQ (aB.a8.mpr rfl)).fM kC nL (let⟨o,e,_⟩:=ns_obj qN;⟨o,e⟩),
  List.mem_cons_of_mem _ List.mem_cons_self,ne,⟨List.mem_cons_self,congrArg (·+1) cx.nr.2.1,⟨_,qN⟩,λi n v' e1 e2=>?_⟩,VR.bq KK (pM _) _ _ rv,vi.at λo e=>⟨o.slots,kC _ _ (kB _ _ e)⟩,?_⟩
 ·refine(?_:(cE N sc).names.lookup x=_);rw[look,co.own];rfl
 ·have e1:N.names[i]?=some n:=by simpa[jM] using e1
  refine(?_:(cE N sc).names.lookup n≠some .local/\((cE N sc).names.lookup n=some .cell->_));rw[look];exact vg co cx.nr cx.ok.kind e1 e2 λy ca _ ⟨o',g2,Ko⟩ g3 g4 g5=>⟨⟨o',(KK _ _ g2 g3 g4).1,Ko⟩,(KK _ _ g2 g3 g4).2.1,(KK _ _ g2 g3 g4).2.2,VR.bq KK (pM _) _ _ g5⟩
 ·rw[len_eq,←cx.inv.len];exact List.getElem?_concat_length
theorem ya(G:aA B d r){elt:Ex}{e iter:Expr}{x:Str}{tp pos:Pos}{sc:Scope}{v:LV}{z:Value}(h3:aJ B.nm (jM N sc x) elt e=true){h₀:Heap}{it acc L:Addr}{t':Nat}
  (cc:xC B d (jM N sc x) A (L::it::F) (φ++[(acc,acc)]) (σ++[.list []]) {s with heap:=h₀,toks:=t'} (compEnv N sc L env) ρ it acc (len σ) v z 0) (hb:r.comp elt v 0 (len σ) ρ (σ++[.list []])≠.bad)
  (k:∀b o,s.heap.get? b=some o->h₀.get? b=some o) (nI:s.heap.get? it=none) (nA:s.heap.get? acc=none) (nL:s.heap.get? L=none) {R:Result->Shared->Prop}
  (H:∀(ax:LH)(ak:aS)(s₁:Shared)(h':Heap),r.comp elt v 0 (len σ) ρ (σ++[.list []])=.ok (.ref (len σ)) ax->(∀(kQ:Heap)(t:Nat),(∀b o,b∉[L,it]->s₁.heap.get? b=some o->kQ.get? b=some o)->Le F [] φ ak s {s₁ with heap:=kQ,toks:=t})->
   Inv B ak (L::it::F) ax s₁.heap->Heap.ExtBut it s₁.heap h'->(∃m,h'.Ns L m)->ak[len σ]?=some (acc,acc)->R (.ok .next) {s₁ with heap:=h'}):
  codeAny (model B.prog B.w) A (.compStart (.ListComp e [⟨.Name x tp,iter,[],0⟩] sc pos) 0 (.ref it) (.ref acc) (compEnv N sc L env)) R {s with heap:=h₀,toks:=t'}:=by
 have go:codeAny (model B.prog B.w) A (.compLoop (.ListComp e [⟨.Name x tp,iter,[],0⟩] sc pos) 0 (.ref it) (.ref acc) (compEnv N sc L env)) R {s with heap:=h₀,toks:=t'}:=by
  refine codeAny_mono (G.comp elt e (jM N sc x) x sc pos iter tp A _ _ _ _ _ ρ _ _ _ v z 0 h3 rfl cc hb) λrr s' q=>?_;obtain⟨ax,e1,ak,s₁,h',e2,e3,e4,e5,hm⟩:=xZ q.2;rw[q.1,e2];refine H ax ak s₁ h' e1 (λkQ t kk=>?_) e4 e5 hm (e3.idx cc.acc);exact Le.made (G:=[L,it]) (s₄:={s with heap:=h₀,toks:=t'}) (ψ:=[(acc,acc)]) k (λg' hg=>(List.mem_cons.mp hg).elim (λq=>q▸nL) λhg=>List.mem_singleton.mp hg▸nI) (λp hp=>List.mem_singleton.mp hp▸⟨nA,nA⟩) rfl rfl
   (e3.wide λb hb=>(List.mem_cons.mp hb).elim (λq=>List.mem_cons_of_mem _ (List.mem_singleton.mpr q)) λhb=>List.mem_singleton.mp hb▸List.mem_cons_self) kk
 exact codeAny_compStart_list go (rK cc.ir go)
theorem mz(G:aA B d r){elt:Ex}{e iter:Expr}{x:Str}{tp pos:Pos}{sc:Scope}{v:LV}{z:Value}{o:Option LV}(co:iv N sc x)(h3:aJ B.nm (jM N sc x) elt e=true)
  (cx:fb B d N A F φ σ s env ρ) (rv:VR φ F s.heap v z) (hi:item? v 0 σ=some o) (hb:r.comp elt v 0 (len σ) ρ (app σ [.list []])≠.bad) {R:Value->Env->Result->Shared->Prop}
  (H:∀(L it acc:Addr)(cenv:Env)(ax:LH)(ak:aS)(s₁:Shared)(h':Heap),cenv.locals=L->s.heap.get? L=none->s.heap.get? it=none->L≠it->r.comp elt v 0 (len σ) ρ (app σ [.list []])=.ok (.ref (len σ)) ax->
   (∀(kQ:Heap)(t:Nat),(∀b o,b∉[L,it]->s₁.heap.get? b=some o->kQ.get? b=some o)->Le F [] φ ak s {s₁ with heap:=kQ,toks:=t})->Inv B ak (L::it::F) ax s₁.heap->Heap.ExtBut it s₁.heap h'->(∃m,h'.Ns L m)->ak[len σ]?=some (acc,acc)->
   R (.ref acc) cenv (.ok .next) {s₁ with heap:=h'}):
  wpAny (model B.prog B.w) A (pyIter z) (λit cz=>wpAny (model B.prog B.w) A (newList []) (λacc eT=>
   wpAny (model B.prog B.w) A (newFunctionEnv sc env.globals (iq env.cells sc.names []) [] env.qual none .none (some env)) (λcenv s₄=>
    codeAny (model B.prog B.w) A (.compStart (.ListComp e [⟨.Name x tp,iter,[],0⟩] sc pos) 0 it acc {cenv with scope:=cE N sc}) (R acc cenv) s₄) E eT) E cz) E s:=by
 refine nV cx.inv rv hi λob vi=>?_;refine wpAny_newObj_type ?_ (by size_fits);refine wpAny_newFunctionEnv co.cell (by simp) (λh₀ qN Kd=>?_) co.kind;rw[bb] at hb H;have eA:(s.heap.push ob).objs.size=s.heap.objs.size+1:=Heap.size_push ..;have eL:((s.heap.push ob).push {cls:=.type "list",data:=.seq [].toArray}).objs.size=s.heap.objs.size+2:=(Heap.size_push ..).trans (congrArg (·+1) eA);have nL:=bz ((s.heap.push ob).push {cls:=.type "list",data:=.seq [].toArray});have nA:=bz (s.heap.push ob);have kA:∀b o,s.heap.get? b=some o->(s.heap.push ob).get? b=some o:=λb o e=>Heap.get?_push_of_some _ e;have kB:∀b o,(s.heap.push ob).get? b=some o->((s.heap.push ob).push {cls:=.type "list",data:=.seq [].toArray}).get? b=some o:=λb o e=>Heap.get?_push_of_some _ e;have kC:∀b o,((s.heap.push ob).push {cls:=.type "list",data:=.seq [].toArray}).get? b=some o->h₀.get? b=some o:=λb o e=>(Kd.2 b (fo e nL)).trans (Heap.get?_push_of_some _ e);have nI:=bz s.heap;have Mh:s.heap.get? (s.heap.push ob).objs.size=none:=Heap.get?_none_of_le (eA▸Nat.le_add_right _ _);have Ku:s.heap.get? ((s.heap.push ob).push {cls:=.type "list",data:=.seq [].toArray}).objs.size=none:=Heap.get?_none_of_le (eL▸Nat.le_add_right _ _);have ne:s.heap.objs.size≠((s.heap.push ob).push {cls:=.type "list",data:=.seq [].toArray}).objs.size:=eL▸Nat.ne_of_lt (Nat.lt_add_of_pos_right (by decide));exact ya G h3 (B9 co cx rv kA kB kC nI nA nL Mh Ku ne (Heap.get?_push_size _ rfl) qN vi) hb (λb o e=>kC b o (kB b o (kA b o e))) nI Mh Ku
  λax ak s₁ h' e1 mk I2 fk hm kx=>H _ _ _ _ ax ak s₁ h' rfl Ku nI ne.symm e1 mk I2 fk hm kx
theorem yb(G:aA B d r)(P:dR){elt it:Ex}{pe:Expr}(h:aJ B.nm N (.comp elt it) pe=true):SE B d (md elt it P r) N pe:=by
 refine nD h λe x tp iter sc pos h=>?_;intro A F φ σ s env ρ cx hb;have co:=iv.of (bL (bL (bL h)));refine xU (my:=cE N sc) (λy hy e=>?_) co.kind (λy hy e=>?_) (by unfold cE;rw[←cx.ok.sc];rfl) ?_ (nX (bR (bL (bL h))))
 ·obtain⟨_,_,_,ca,_,_,q,_⟩:=cx.nr.cell (co.B7 y hy e).2 (co.B7 y hy e).1;rw[q];rfl
 ·exact(dE N y.1 sc.names).trans (by rw[co.Kt y hy e];rfl)
 ·refine(G.e it iter N (bR (bL h)) _ _ _ _ _ _ _ cx).then (K:=λout z s₁=>wpAny (model B.prog B.w) A (pyIter z) (λit cz=>wpAny (model B.prog B.w) A (newList []) (λacc eT=>
   wpAny (model B.prog B.w) A (newFunctionEnv sc env.globals (iq env.cells sc.names []) [] env.qual none .none (some env)) (λcenv s₄=>
    codeAny (model B.prog B.w) A (.compStart (.ListComp e [⟨.Name x tp,iter,[],0⟩] sc pos) 0 it acc {cenv with scope:=cE N sc}) (CR B A F φ s (cE N sc) out acc cenv) s₄) (qz B F [] φ s out) eT) (qz B F [] φ s out) cz) (qz B F [] φ s out) s₁) hb
   λv aG bG s1 z _ cf I1 rv Qs=>?_
  obtain⟨o,hi⟩:=G.nR _ _ _ _ _ _ Qs;rw[bb] at hi;refine mz G co (bR h) (cx.le cf I1) rv (jQ I1 rv hi) Qs λL kc acc cenv ax ak s₁ h' hL nL nI gY e1 mk I2 fk hm kx=>?_;subst hL;rw[e1];obtain⟨m,hm⟩:=hm;refine⟨m,hm,λkQ Ca=>?_⟩
  have kk:∀b o,b∉[cenv.locals,kc]->s₁.heap.get? b=some o->kQ.get? b=some o:=λb o nb e=>by
   simp only[List.mem_cons,List.not_mem_nil,or_false,not_or] at nb;exact(Ca.2 b nb.1).trans (fk b o nb.2 e)
  refine⟨ak,cf.trans (mk kQ s₁.toks kk),Inv.iZ (G:=[cenv.locals,kc]) I2 kk λf hf q=>?_,dk.mpr ⟨_,kx,rfl⟩⟩;obtain⟨o,e⟩:=(I1.fr f hf).2;simp only[List.mem_cons,List.not_mem_nil,or_false] at q
  rcases q with q|q
  ·rw[q,nL] at e;cases e
  ·rw[q,nI] at e;cases e
end
noncomputable def jD(e:Expr):Bool:=Nat.beq e.ctorIdx 8||Nat.beq e.ctorIdx 9||Nat.beq e.ctorIdx 10
noncomputable def yc(e:Expr):Bool:=Nat.beq e.ctorIdx 25
noncomputable def kR(T:Nm)(c j:Nat)(n:Str):Bool:=match(T.bK c)[j]?with|some fn=>fn==n|none=>false
noncomputable def FX(e:Stmt)(f:Expr->Bool):Bool:=aR e.ctorIdx 24 λh=>Stmt.Expr.elim (motive_2:=λ_=>Bool) e h λv _=>f v
theorem FY{Q:Stmt->Prop}{e:Stmt}{f:Expr->Bool}(h:FX e f=true)(k:∀v p,f v=true->Q (.Expr v p)):Q e:=
 Stmt.Expr.elim (motive_2:=λe=>FX e f=true->Q e) e (ar h) k h
noncomputable def pN(e:Stmt)(f:List Expr->Expr->Bool):Bool:=aR e.ctorIdx 5 λh=>Stmt.Assign.elim (motive_2:=λ_=>Bool) e h λts v _=>f ts v
theorem nY{Q:Stmt->Prop}{e:Stmt}{f:List Expr->Expr->Bool}(h:pN e f=true)(k:∀ts v p,f ts v=true->Q (.Assign ts v p)):Q e:=
 Stmt.Assign.elim (motive_2:=λe=>pN e f=true->Q e) e (ar h) k h
noncomputable def tJ(e:Stmt)(f:Expr->Operator->Expr->Bool):Bool:=aR e.ctorIdx 7 λh=>Stmt.AugAssign.elim (motive_2:=λ_=>Bool) e h λt op v _=>f t op v
theorem tK{Q:Stmt->Prop}{e:Stmt}{f:Expr->Operator->Expr->Bool}(h:tJ e f=true)(k:∀t op v p,f t op v=true->Q (.AugAssign t op v p)):Q e:=
 Stmt.AugAssign.elim (motive_2:=λe=>tJ e f=true->Q e) e (ar h) k h
noncomputable def mA(e:Stmt)(f:Option Expr->Bool):Bool:=aR e.ctorIdx 3 λh=>Stmt.Return.elim (motive_2:=λ_=>Bool) e h λo _=>f o
theorem nZ{Q:Stmt->Prop}{e:Stmt}{f:Option Expr->Bool}(h:mA e f=true)(k:∀o p,f o=true->Q (.Return o p)):Q e:=
 Stmt.Return.elim (motive_2:=λe=>mA e f=true->Q e) e (ar h) k h
noncomputable def yd(e:Stmt)(f:Expr->List Stmt->List Stmt->Bool):Bool:=aR e.ctorIdx 12 λh=>Stmt.If.elim (motive_2:=λ_=>Bool) e h λt x y _=>f t x y
theorem Cb{Q:Stmt->Prop}{e:Stmt}{f:Expr->List Stmt->List Stmt->Bool}(h:yd e f=true)(k:∀t x y p,f t x y=true->Q (.If t x y p)):Q e:=
 Stmt.If.elim (motive_2:=λe=>yd e f=true->Q e) e (ar h) k h
noncomputable def ye(e:Stmt)(f:Expr->List Stmt->List Stmt->Bool):Bool:=aR e.ctorIdx 11 λh=>Stmt.While.elim (motive_2:=λ_=>Bool) e h λt x y _=>f t x y
theorem Cc{Q:Stmt->Prop}{e:Stmt}{f:Expr->List Stmt->List Stmt->Bool}(h:ye e f=true)(k:∀t x y p,f t x y=true->Q (.While t x y p)):Q e:=
 Stmt.While.elim (motive_2:=λe=>ye e f=true->Q e) e (ar h) k h
noncomputable def tL(e:Stmt)(f:Expr->Expr->List Stmt->List Stmt->Bool):Bool:=aR e.ctorIdx 9 λh=>Stmt.For.elim (motive_2:=λ_=>Bool) e h λtg it x y _=>f tg it x y
theorem tM{Q:Stmt->Prop}{e:Stmt}{f:Expr->Expr->List Stmt->List Stmt->Bool}(h:tL e f=true)(k:∀tg it x y p,f tg it x y=true->Q (.For tg it x y p)):Q e:=
 Stmt.For.elim (motive_2:=λe=>tL e f=true->Q e) e (ar h) k h
noncomputable def yf(e:Stmt)(f:List Stmt->List ExceptHandler->List Stmt->List Stmt->Bool):Bool:=aR e.ctorIdx 17 λh=>Stmt.Try.elim (motive_2:=λ_=>Bool) e h λx hx y z _=>f x hx y z
theorem Cd{Q:Stmt->Prop}{e:Stmt}{f:List Stmt->List ExceptHandler->List Stmt->List Stmt->Bool}(h:yf e f=true)(k:∀x hx y z p,f x hx y z=true->Q (.Try x hx y z p)):Q e:=
 Stmt.Try.elim (motive_2:=λe=>yf e f=true->Q e) e (ar h) k h
noncomputable def yg(e:Stmt)(f:Option Expr->Option Expr->Bool):Bool:=aR e.ctorIdx 16 λh=>Stmt.Raise.elim (motive_2:=λ_=>Bool) e h λe z _=>f e z
theorem Ce{Q:Stmt->Prop}{e:Stmt}{f:Option Expr->Option Expr->Bool}(h:yg e f=true)(k:∀e z p,f e z=true->Q (.Raise e z p)):Q e:=
 Stmt.Raise.elim (motive_2:=λe=>yg e f=true->Q e) e (ar h) k h
noncomputable def Ed(s:Stmt):Bool:=aR s.ctorIdx 26 λ_=>true
noncomputable def Ee(s:Stmt):Bool:=aR s.ctorIdx 27 λ_=>true
theorem Cf{Q:Stmt->Prop}{s:Stmt}(h:Ed s=true)(k:∀p,Q (.Break p)):Q s:=Stmt.Break.elim (motive_2:=Q) s (ar h) k
theorem Cg{Q:Stmt->Prop}{s:Stmt}(h:Ee s=true)(k:∀p,Q (.Continue p)):Q s:=Stmt.Continue.elim (motive_2:=Q) s (ar h) k
def Kv(l:Option Str):Bool:=cO l (λ_=>false) true
noncomputable def NS(x:ExceptHandler)(f:Option Expr->Option Str->List Stmt->Bool):Bool:=match x with|.ExceptHandler t z b _=>f t z b
def Ci(T:Nm)(N:NC):Tg->Expr->Bool
 |.nm x,e=>bQ e λn _=>cm N x n&&d9 N n
 |.sD c j o,e=>gj e λox n _=>kR T c j n&&aJ T N o ox
noncomputable def fO(T:Nm)(N:NC):List Tg->List Expr->Bool
 |[],[]=>true
 |t::ts,e::es=>Ci T N t e&&fO T N ts es
 |_,_=>false
def pO(N:NC)(t:List Nat)(e:Expr):Bool:=match t with
 |[]=>false
 |[x]=>bQ e λn _=>cm N x n&&d9 N n
 |x::y::t=>pk e λelts=>fO ⟨λ_=>"",λ_=>"",λ_=>"",λ_=>[],λ_=>"",λ_=>.none,λ_=>""⟩ N (.nm x::.nm y::t.map .nm) elts
noncomputable def Cj(e:Ex)(b:Bool):Bool:=aR e.ctorIdx 28 λh=>Ex.ag.elim (motive_1:=λ_=>Bool) e h λe=>aR e.ctorIdx 27 λ_=>b
theorem FZ{Q:Ex->Prop}{e:Ex}{b:Bool}(h:Cj e b=true)(k:∀x y,b=true->Q (.ag (.comp x y))):Q e:=
 Ex.ag.elim (motive_1:=λe=>Cj e b=true->Q e) e (ar h) (λe h=>Ex.comp.elim (motive_1:=λe=>Cj (.ag e) b=true->Q (.ag e)) e (ar h) (λx y h=>k x y h) h) h
noncomputable def yh(e:Ex)(v:Expr)(n:Str)(tp:Pos):Bool:=Cj e (Bh v λ_ _ sc pos=>tp.line==pos.line&&!(sc.names.any λp=>p.1==n&&(p.2==.local||p.2==.cell)))
noncomputable def gx(c:Nat):Bool:=Nat.beq c 1||Nat.beq c 2||Nat.beq c 3
noncomputable def F0(T:Nm)(N:NC):List (Nat×Ex)->List ExceptHandler->Bool
 |[],[]=>true
 |p::hs,x::xs=>(NS x λt z b=>Kv z&&oQ t false λe=>bQ e λn _=>we b λst=>mA st λo=>oQ o false λv=>T.cD p.1==n&&!(n=="")&&br N n&&gx p.1&&aJ T N p.2 v)&&F0 T N hs xs
 |_,_=>false
theorem Kw{T:Nm}{N:NC}{Q:ExceptHandler->Prop}{p:Nat×Ex}{hs:List (Nat×Ex)}{x:ExceptHandler}{xs:List ExceptHandler}(h:F0 T N (p::hs) (x::xs)=true)
  (k:∀n np v rp hp,(T.cD p.1==n&&!(n=="")&&br N n&&gx p.1&&aJ T N p.2 v)=true->F0 T N hs xs=true->Q (.ExceptHandler (some (.Name n np)) none [.Return (some v) rp] hp)):Q x:=match x,h with
 |.ExceptHandler t z b hp,h=>by
  replace h:((Kv z&&oQ t false λe=>bQ e λn _=>we b λst=>mA st λo=>oQ o false λv=>T.cD p.1==n&&!(n=="")&&br N n&&gx p.1&&aJ T N p.2 v)&&F0 T N hs xs)=true:=h
  exact match z,bL (bL h) with
  |none,_=>gk (Q:=λt=>Q (.ExceptHandler t none b hp)) (bR (bL h)) λe ha=>aY (Q:=λe=>Q (.ExceptHandler (some e) none b hp)) ha λn np hb=>gZ (Q:=λb=>Q (.ExceptHandler (some (.Name n np)) none b hp)) hb λst hc=>
   nZ (Q:=λst=>Q (.ExceptHandler (some (.Name n np)) none [st] hp)) hc λo rp hd=>gk (Q:=λo=>Q (.ExceptHandler (some (.Name n np)) none [.Return o rp] hp)) hd λv he=>k n np v rp hp he (bR h)
mutual
noncomputable def iz(T:Nm)(N:NC):St->Stmt->Bool
 |.expr e,ps=>FX ps λv=>aJ T N e v&&!jD v
 |.asg x e,ps=>pN ps λts v=>we ts λt=>bQ t λn tp=>cm N x n&&d9 N n&&aJ T N e v&&(!jD v||yh e v n tp)
 |.de c j o e,ps=>pN ps λts v=>we ts λt=>gj t λox n _=>kR T c j n&&aJ T N o ox&&aJ T N e v
 |.dc us e,ps=>pN ps λts v=>we ts λt=>pk t λelts=>fO T N us elts&&aJ T N e v&&!yc v
 |.aug x o e,ps=>tJ ps λt op v=>bQ t λn _=>cm N x n&&d9 N n&&jL o op&&aJ T N e v
 |.eY c j ob o e,ps=>tJ ps λt op v=>gj t λox n _=>kR T c j n&&aJ T N ob ox&&jL o op&&aJ T N e v
 |.ret e,ps=>mA ps λo=>oQ o false λv=>aJ T N e v
 |.lU,ps=>mA ps λo=>oQ o true λ_=>false
 |.aV c a b,ps=>yd ps λt x y=>aJ T N c t&&ej T N a x&&ej T N b y
 |.eE c b,ps=>ye ps λt x l=>isNil l&&(aJ T N c t&&ej T N b x)
 |.cj t it b,ps=>tL ps λtg iter x l=>isNil l&&(pO N t tg&&kF iter&&aJ T N it iter&&ej T N b x)
 |.forr x n b,ps=>tL ps λtg ie z l=>isNil l&&bQ tg λy _=>eS ie λfe as ks _=>isNil ks&&bQ fe λrn _=>we as λe=>cm N x y&&d9 N y&&("range":Str)==rn&&br N rn&&aJ T N n e&&ej T N b z
 |.brk,ps=>Ed ps
 |.cont,ps=>Ee ps
 |.mX b hs,ps=>yf ps λx hx y z=>isNil y&&isNil z&&(ej T N b x&&F0 T N hs hx&&(match hx with|[]=>false|_=>true))
 |.raise c as,ps=>yg ps λe z=>oQ z true (λ_=>false)&&oQ e false λe=>eS e λfe args ks _=>isNil ks&&bQ fe λn _=>we args λa=>T.cD c==n&&br N n&&!(n=="")&&gx c&&cU T N as [a]
 |.stuck,_=>true
noncomputable def ej(T:Nm)(N:NC):bB->List Stmt->Bool
 |.nil,[]=>true
 |.cons s r,p::q=>iz T N s p&&ej T N r q
 |_,_=>false
end
section
variable{T:Nm}{N:NC}{ps:Stmt}
theorem Ck{Q:Stmt->Prop}{e:Ex}(h:iz T N (.expr e) ps=true)(k1:∀v p,(aJ T N e v&&!jD v)=true->Q (.Expr v p)):Q ps:=
 FY h k1
theorem F1{Q:Stmt->Prop}{x:Nat}{e:Ex}(h:iz T N (.asg x e) ps=true)(k1:∀n tp v p,(cm N x n&&d9 N n&&aJ T N e v&&(!jD v||yh e v n tp))=true->Q (.Assign [.Name n tp] v p)):Q ps:=
 nY h λts v p h=>gZ (Q:=λts=>Q (.Assign ts v p)) h λt h=>aY (Q:=λt=>Q (.Assign [t] v p)) h λn tp h=>k1 n tp v p h
theorem Cm{Q:Stmt->Prop}{c j:Nat}{o e:Ex}(h:iz T N (.de c j o e) ps=true)(k1:∀ox n ap v p,(kR T c j n&&aJ T N o ox&&aJ T N e v)=true->Q (.Assign [.Attribute ox n ap] v p)):Q ps:=
 nY h λts v p h=>gZ (Q:=λts=>Q (.Assign ts v p)) h λt h=>ef (Q:=λt=>Q (.Assign [t] v p)) h λox n ap h=>k1 ox n ap v p h
theorem Cn{Q:Stmt->Prop}{us:List Tg}{e:Ex}(h:iz T N (.dc us e) ps=true)(k1:∀elts k tp v p,(fO T N us elts&&aJ T N e v&&!yc v)=true->Q (.Assign [.Tuple elts k tp] v p)):Q ps:=
 nY h λts v p h=>gZ (Q:=λts=>Q (.Assign ts v p)) h λt h=>nB (Q:=λt=>Q (.Assign [t] v p)) h λelts k tp h=>k1 elts k tp v p h
theorem F2{Q:Stmt->Prop}{x:Nat}{o:jo}{e:Ex}(h:iz T N (.aug x o e) ps=true)(k1:∀n np op v p,(cm N x n&&d9 N n&&jL o op&&aJ T N e v)=true->Q (.AugAssign (.Name n np) op v p)):Q ps:=
 tK h λt op v p h=>aY (Q:=λt=>Q (.AugAssign t op v p)) h λn np h=>k1 n np op v p h
theorem Co{Q:Stmt->Prop}{c j:Nat}{o:jo}{ob e:Ex}(h:iz T N (.eY c j ob o e) ps=true)(k1:∀ox n ap op v p,(kR T c j n&&aJ T N ob ox&&jL o op&&aJ T N e v)=true->Q (.AugAssign (.Attribute ox n ap) op v p)):Q ps:=
 tK h λt op v p h=>ef (Q:=λt=>Q (.AugAssign t op v p)) h λox n ap h=>k1 ox n ap op v p h
theorem F3{Q:Stmt->Prop}{e:Ex}(h:iz T N (.ret e) ps=true)(k1:∀v p,(aJ T N e v)=true->Q (.Return (some v) p)):Q ps:=
 nZ h λo p h=>gk (Q:=λo=>Q (.Return o p)) h λv h=>k1 v p h
theorem Cp{Q:Stmt->Prop}(h:iz T N .lU ps=true)(k1:∀p,Q (.Return none p)):Q ps:=
 nZ h λo p h=>gm (Q:=λo=>Q (.Return o p)) h (k1 p)
theorem F4{Q:Stmt->Prop}{c:Ex}{a b:bB}(h:iz T N (.aV c a b) ps=true)(k1:∀t x y p,(aJ T N c t&&ej T N a x&&ej T N b y)=true->Q (.If t x y p)):Q ps:=
 Cb h k1
theorem F5{Q:Stmt->Prop}{c:Ex}{b:bB}(h:iz T N (.eE c b) ps=true)(k1:∀t x p,(aJ T N c t&&ej T N b x)=true->Q (.While t x [] p)):Q ps:=
 Cc h λt x l p h=>bW (Q:=λl=>Q (.While t x l p)) (bL h) (k1 t x p (bR h))
theorem Cq{Q:Stmt->Prop}{t:List Nat}{it:Ex}{b:bB}(h:iz T N (.cj t it b) ps=true)(k1:∀tg iter x p,(pO N t tg&&kF iter&&aJ T N it iter&&ej T N b x)=true->Q (.For tg iter x [] p)):Q ps:=
 tM h λtg iter x l p h=>bW (Q:=λl=>Q (.For tg iter x l p)) (bL h) (k1 tg iter x p (bR h))
theorem Cr{Q:Stmt->Prop}{x:Nat}{n:Ex}{b:bB}(h:iz T N (.forr x n b) ps=true)(k1:∀y tp rn np e cp z p,(cm N x y&&d9 N y&&("range":Str)==rn&&br N rn&&aJ T N n e&&ej T N b z)=true->Q (.For (.Name y tp) (.Call (.Name rn np) [e] [] cp) z [] p)):Q ps:=
 tM h λtg ie z l p h=>bW (Q:=λl=>Q (.For tg ie z l p)) (bL h)<|aY (Q:=λtg=>Q (.For tg ie z [] p)) (bR h) λy tp h=>dK (Q:=λie=>Q (.For (.Name y tp) ie z [] p)) h λfe as ks cp h=>
  bW (Q:=λks=>Q (.For (.Name y tp) (.Call fe as ks cp) z [] p)) (bL h)<|aY (Q:=λfe=>Q (.For (.Name y tp) (.Call fe as [] cp) z [] p)) (bR h) λrn np h=>
  gZ (Q:=λas=>Q (.For (.Name y tp) (.Call (.Name rn np) as [] cp) z [] p)) h λe h=>k1 y tp rn np e cp z p h
theorem Cs{Q:Stmt->Prop}{b:bB}{hs:List (Nat×Ex)}(h:iz T N (.mX b hs) ps=true)(k1:∀x hx p,(ej T N b x&&F0 T N hs hx&&(match hx with|[]=>false|_=>true))=true->Q (.Try x hx [] [] p)):Q ps:=
 Cd h λx hx y z p h=>bW (Q:=λy=>Q (.Try x hx y z p)) (bL (bL h))<|bW (Q:=λz=>Q (.Try x hx [] z p)) (bR (bL h)) (k1 x hx p (bR h))
theorem yi{Q:Stmt->Prop}{c:Nat}{as:dH}(h:iz T N (.raise c as) ps=true)(k1:∀n np a cp p,(T.cD c==n&&br N n&&!(n=="")&&gx c&&cU T N as [a])=true->Q (.Raise (some (.Call (.Name n np) [a] [] cp)) none p)):Q ps:=
 Ce h λe z p h=>gm (Q:=λz=>Q (.Raise e z p)) (bL h)<|gk (Q:=λe=>Q (.Raise e none p)) (bR h) λe h=>dK (Q:=λe=>Q (.Raise (some e) none p)) h λfe Mi ks cp h=>
  bW (Q:=λks=>Q (.Raise (some (.Call fe Mi ks cp)) none p)) (bL h)<|aY (Q:=λfe=>Q (.Raise (some (.Call fe Mi [] cp)) none p)) (bR h) λn np h=>
  gZ (Q:=λMi=>Q (.Raise (some (.Call (.Name n np) Mi [] cp)) none p)) h λa h=>k1 n np a cp p h
end
structure dx(B:Bg)(d:Nat)(N:NC)(A:Around)(F:List Addr)(φ:aS)(σ:LH)(s:Shared)(env:Env)(ρ:List LV):Prop extends fb B d N A F φ σ s env ρ where
 fr:∃l,A.frames=some (env::l)
 nd:N.names.Nodup
section
variable{B:Bg}{d:Nat}{N:NC}{A:Around}{F X:List Addr}{φ ak:aS}{σ ax:LH}{s s':Shared}{env:Env}{ρ aU:List LV}
theorem dx.le(x:dx B d N A F φ σ s env ρ)(y:Le F X φ ak s s')(I:Inv B ak F ax s'.heap)(nr:NR ak F s'.heap env N aU):dx B d N A F ak ax s' env aU:=
 ⟨⟨x.xc.le y,x.ok,I,nr,x.room⟩,x.fr,x.nd⟩
theorem dx.Kx(x:dx B d N A F φ σ s env ρ):∃l,A.frames=some (env::l)/\gh F s.heap (env::l):=by
 obtain⟨l,e⟩:=x.fr;obtain⟨l',e',f⟩:=x.xc.frames
 rw[e] at e';injection e' with e';subst e'
 exact⟨l,e,f⟩
inductive yj(B:Bg)(F X:List Addr)(φ:aS)(s:Shared)(N:NC)(env:Env)(aU:List LV)(ax:LH)(s':Shared):Prop
 |mk (ak:aS) (le:Le F X φ ak s s') (I:Inv B ak F ax s'.heap) (nr:NR ak F s'.heap env N aU)
inductive NT(B:Bg)(F X:List Addr)(φ:aS)(s:Shared)(fl:Flow)(v:LV)(ax:LH)(s':Shared):Prop
 |mk (x:Value) (e:fl=.ret x) (ak:aS) (le:Le F X φ ak s s') (I:Inv B ak F ax s'.heap) (rv:VR ak F s'.heap v x)
inductive yk(B:Bg)(F X:List Addr)(φ:aS)(s:Shared)(N:NC)(env:Env)(c:Nat)(aU:List LV)(ax:LH)(e:Value)(s':Shared):Prop
 |mk (ak:aS) (le:Le F X φ ak s s') (I:Inv B ak F ax s'.heap) (nr:NR ak F s'.heap env N aU) (ex:ExcAt B s.heap c e s'.heap)
@[reducible] def oU(B:Bg)(F X:List Addr)(φ:aS)(s:Shared)(N:NC)(env:Env)(out:av)(fl:Flow)(s':Shared):Prop:=
 @av.rec (λ_=>Prop) (λaU ax=>fl=.next/\yj B F X φ s N env aU ax s') (λv ax=>NT B F X φ s fl v ax s') (λaU ax=>fl=.brk/\yj B F X φ s N env aU ax s') (λaU ax=>fl=.cont/\yj B F X φ s N env aU ax s') (λ_ _ _=>False) False out
@[reducible] def gy(B:Bg)(F X:List Addr)(φ:aS)(s:Shared)(N:NC)(env:Env)(out:av)(e:Value)(s':Shared):Prop:=
 @av.rec (λ_=>Prop) (λ_ _=>False) (λ_ _=>False) (λ_ _=>False) (λ_ _=>False) (λc aU ax=>yk B F X φ s N env c aU ax e s') False out
noncomputable def aK(B:Bg)(A:Around)(F X:List Addr)(φ:aS)(s:Shared)(N:NC)(env:Env)(out:av)(t:Sem Flow):Prop:=
 out≠.bad->wpAny (model B.prog B.w) A t (oU B F X φ s N env out) (gy B F X φ s N env out) s
theorem Ky{ρ:List LV}{σ:LH}:av.nx ρ σ≠.bad:=nofun
theorem yj.from{cb:Shared}(le:Le F X φ ak s s')(x:yj B F X ak s' N env ρ σ cb):yj B F X φ s N env ρ σ cb:=x.rec λfG a I nr=>⟨fG,le.trans a,I,nr⟩
theorem oU.from{out:av}{fl:Flow}{cb:Shared}(le:Le F X φ ak s s')(x:oU B F X ak s' N env out fl cb):oU B F X φ s N env out fl cb:=by
 cases out with
 |ret v σ=>exact x.rec λz e fG a I r=>⟨z,e,fG,le.trans a,I,r⟩
 |err=>exact x
 |bad=>exact x
 |_=>exact⟨x.1,x.2.from le⟩
theorem gy.from{out:av}{e:Value}{cb:Shared}(le:Le F X φ ak s s')(x:gy B F X ak s' N env out e cb):gy B F X φ s N env out e cb:=by
 cases out with
 |err c ρ σ=>exact x.rec λfG a I nr ex=>⟨fG,le.trans a,I,nr,ex.kz le.live⟩
 |_=>exact x
theorem aK.bad{t:Sem Flow}:aK B A F X φ s N env .bad t:=λh=>absurd rfl h
theorem aK.nb{out:av}{t:Sem Flow}(x:out≠.bad->aK B A F X φ s N env out t):aK B A F X φ s N env out t:=λhb=>x hb hb
theorem aK.opt{γ:Type}{o:Option γ}{f:γ->av}{t:Sem Flow}(h:∀c,o=some c->aK B A F X φ s N env (f c) t):aK B A F X φ s N env (jJ o f) t:=by
 cases o with
 |none=>exact .bad
 |some c=>exact h c rfl
theorem aK.from{out:av}{t:Sem Flow}(le:Le F X φ ak s s')(x:aK B A F X ak s' N env out t)(hb:out≠.bad):wpAny (model B.prog B.w) A t (oU B F X φ s N env out) (gy B F X φ s N env out) s':=
 wpAny_mono (x hb) (λ_ _ h=>h.from le) λ_ _ h=>h.from le
theorem aK.then{α β:Type}{out:Out α}{t:Sem β}{f:α->LH->av}{R:α->aS->Heap->β->Prop}{K:av->β->Shared->Prop}(nr:NR φ F s.heap env N ρ)(x:aa B A F [] φ s out t R)(hb:oS out ρ f≠.bad)
  (h:∀v ax ak s' x,out=.ok v ax->Le F [] φ ak s s'->Inv B ak F ax s'.heap->R v ak s'.heap x->f v ax≠.bad->K (f v ax) x s'):wpAny (model B.prog B.w) A t (K (oS out ρ f)) (gy B F X φ s N env (oS out ρ f)) s:=by
 cases out with
 |bad=>exact absurd rfl hb
 |err c ax=>exact wpAny_mono (x jA) (λ_ _ q=>q.elim) λe s' q=>q.rec λak le I ex=>⟨ak,le.wide (λ_ h=>nomatch h),I,nr.mono le,ex⟩
 |ok v ax=>exact wpAny_mono (x iR) (λy s' q=>q.rec λak le I r=>h v ax ak s' y rfl le I r hb) λ_ _ q=>q.elim
theorem aK.bind{α β:Type}{out:Out α}{t:Sem β}{f:α->LH->av}{g:β->Sem Flow}{R:α->aS->Heap->β->Prop}(nr:NR φ F s.heap env N ρ)(x:aa B A F [] φ s out t R)
  (h:∀v ax ak s' x,out=.ok v ax->Le F [] φ ak s s'->Inv B ak F ax s'.heap->R v ak s'.heap x->aK B A F X ak s' N env (f v ax) (g x)):aK B A F X φ s N env (oS out ρ f) (t>>=g):=λhb=>
 wpAny_bind (aK.then (K:=λo x s'=>wpAny (model B.prog B.w) A (g x) (oU B F X φ s N env o) (gy B F X φ s N env o) s') nr x hb λv ax ak s' y e le I r hb=>(h v ax ak s' y e le I r).from (le.wide λ_ h=>nomatch h) hb)
theorem aK.pre{lY:Type}{out:av}{u:Sem lY}{g:lY->Sem Flow}{a:lY}(hu:∀(Q:lY->Shared->Prop) E,Q a s->wpAny (model B.prog B.w) A u Q E s)(x:aK B A F X φ s N env out (g a)):aK B A F X φ s N env out (u>>=g):=λhb=>
 wpAny_bind (hu _ _ (x hb))
theorem aK.at{out:av}{pos:Pos}{t:Unit->Sem Flow}(x:aK B A F X φ s N env out (t ())):aK B A F X φ s N env out (standAt pos>>=t):=
 aK.pre (g:=t) (a:=()) (λ_ _ q=>wpAny_standAt q) x
theorem aK.holding{out:av}{vs:List Value}{t:Sem Flow}(x:aK B A F X φ s N env out t):aK B A F X φ s N env out (PySem.holding vs t):=λhb=>wpAny_holding (x hb)
theorem aK.step{aU:List LV}{t:Sem Flow}(h:∀Q E,(∀s',(∃ak,Le F X φ ak s s'/\Inv B ak F ax s'.heap/\NR ak F s'.heap env N aU)->Q .next s')->wpAny (model B.prog B.w) A t Q E s):aK B A F X φ s N env (.nx aU ax) t:=λ_=>
 h _ _ λs' ⟨ak,a,b,c⟩=>⟨rfl,ak,a,b,c⟩
end
noncomputable def SS(B:Bg)(d:Nat)(rs:List LV->LH->av)(N:NC)(ps:Stmt):Prop:=
 ∀A F φ σ s env ρ,dx B d N A F φ σ s env ρ->aK B A F [env.locals] φ s N env (rs ρ σ) (exec ps env)
noncomputable def NU(B:Bg)(d:Nat)(rs:List LV->LH->av)(N:NC)(ps:List Stmt):Prop:=
 ∀A F φ σ s env ρ,dx B d N A F φ σ s env ρ->aK B A F [env.locals] φ s N env (rs ρ σ) (execs ps env)
section
variable{B:Bg}{d:Nat}{N:NC}{r:Ev}
theorem hH{v:Expr}{tg:Option Expr}{l:Nat}{env:Env}(h:jD v=false):swapsWith v tg l env=pure false:=by
 cases v<;>first|(cases h;done)|rfl
theorem gz{env:Env}(h:env.scope.kind=.function):interactive env=false:=by
 unfold interactive;rw[h];rfl
theorem vj(G:aA B d r){e:Ex}{ps:Stmt}(h:iz B.nm N (.expr e) ps=true):SS B d (DK e r) N ps:=by
 refine Ck h λv pos h=>?_
 ·intro A F φ σ s env ρ cx;rw[exec_Expr env v pos (gz cx.ok.fn) (hH (bF (bR h)))];refine aK.at (aK.bind cx.nr (G.e e v N (bL h) _ _ _ _ _ _ _ cx.tofb) λx aG bG s1 z _ le I rv=>?_);have key:aK B A F [env.locals] bG s1 N env (.nx ρ aG) (dropValue v pos z):=aK.step λQ E q=>wpAny_dropValue (q _ ⟨bG,.refl,I,cx.nr.mono le⟩)
  cases x<;>first|exact .bad|exact key
theorem yl(G:aA B d r){e:Ex}{ps:Stmt}(h:iz B.nm N (.ret e) ps=true):SS B d (Jy e r) N ps:=by
 refine F3 h λv pos h=>?_
 ·intro A F φ σ s env ρ cx;rw[arm_exec_Return];refine aK.at (aK.bind cx.nr (G.e e v N h _ _ _ _ _ _ _ cx.tofb) λx aG bG s1 z _ le I rv=>?_);exact λ_=>wpAny_pure ⟨_,rfl,bG,.refl,I,rv⟩
theorem vk{ps:Stmt}(h:iz B.nm N .lU ps=true):SS B d (DO r) N ps:=by
 refine Cp h λp=>?_;intro A F φ σ s env ρ cx;rw[arm_exec_Return];exact aK.at λ_=>wpAny_pure ⟨_,rfl,φ,.refl,cx.inv,VR.n⟩
theorem ym{ps:Stmt}(h:iz B.nm N .brk ps=true):SS B d (JC r) N ps:=Cf h λp A F φ σ s env ρ cx _=>wpAny_Break ⟨rfl,φ,.refl,cx.inv,cx.nr⟩
theorem vm{ps:Stmt}(h:iz B.nm N .cont ps=true):SS B d (DQ r) N ps:=Cg h λp A F φ σ s env ρ cx _=>wpAny_Continue ⟨rfl,φ,.refl,cx.inv,cx.nr⟩
theorem fp{A:Around}{F:List Addr}{φ:aS}{σ:LH}{s:Shared}{env:Env}{ρ:List LV}{x:Nat}{n:Str}{v:LV}{z:Value}(hn:cm N x n=true)(hl:d9 N n=true)(nd:N.names.Nodup)(ok:cJ N env)
  (I:Inv B φ F σ s.heap) (nr:NR φ F s.heap env N ρ) (rv:VR φ F s.heap v z) {Q:Unit->Shared->Prop} {E:Value->Shared->Prop}
  (h:∀s',Le F [env.locals] φ φ s s'->Inv B φ F σ s'.heap->NR φ F s'.heap env N (aW ρ v x)->Q () s'):wpAny (model B.prog B.w) A (bindName env n z) Q E s:=by
 replace hn:=ed hn;have hk:=gi hl;obtain⟨h1,h2,m,hm,h3⟩:=nr;refine wpAny_bindName (wpAny_storeName_local (by rw[ok.of];exact hk) hm (λh' qN hs=>?_) (by rw[ok.fn];rfl));have ho:=ns_obj qN;have le:Le F [env.locals] φ φ s {s with heap:=h',toks:=s.toks+1}:=Le.Eb h1 hs ho;have I':Inv B φ F σ h':=I.step h1 hs (let⟨o,e,_⟩:=ho;⟨o,e⟩);refine h _ le I' ⟨h1,by rw[fE];simpa using h2,_,qN,λi y w e1 e2=>?_⟩;rw[fE] at e2;by_cases hi:x=i
 ·subst hi
  rw[hn] at e1;injection e1 with e1;subst e1
  have hx:x<ρ.length:=by rw[h2];exact(List.getElem?_eq_some_iff.mp hn).1
  rw[List.getElem?_set_self hx] at e2;injection e2 with e2;subst e2
  exact⟨λ_=>.inr ⟨z,by simp,rv.mono le⟩,λk=>by rw[hk] at k;cases k⟩
 ·rw[List.getElem?_set_ne hi] at e2
  have gY:y≠n:=λq=>by
   subst q;have a:=List.getElem?_eq_some_iff.mp hn;have b:=List.getElem?_eq_some_iff.mp e1;exact hi ((List.getElem_inj nd).mp (a.2.trans b.2.symm))
  have:=h3 i y w e1 e2;refine⟨λk=>?_,λk=>?_⟩
  ·rcases this.1 k with⟨q1,q2⟩|⟨u,a,b⟩
   ·exact .inl ⟨q1,by simp[gY,q2]⟩
   ·exact .inr ⟨u,by simp[gY,a],b.mono le⟩
  ·obtain⟨u,ca,g1,⟨o,g2,Ko⟩,g3,g4,g5⟩:=this.2 k;exact⟨u,ca,g1,⟨o,le.keep _ _ g2 g3 g4,Ko⟩,g3,g4,g5.mono le⟩
end
section
variable{B:Bg}{d:Nat}{N:NC}{r:Ev}{A:Around}{F X:List Addr}{φ ak:aS}{σ:LH}{s s':Shared}{env:Env}{ρ:List LV}
structure i0(B:Bg)(d:Nat)(r:Ev):Prop where
 s:∀st ps N,iz B.nm N st ps=true->SS B d (r.s st) N ps
 ss:∀b ps N,ej B.nm N b ps=true->NU B d (r.ss b) N ps
theorem cu{targets:List Expr}{value:Expr}{pos:Pos}(h1:swapsWithSole targets value pos.line env=pure false)(h2:swappedStores targets value env=pure none):
  exec (.Assign targets value pos) env=(do standAt pos;let v←eval value env;assignAll v ((assignEach targets env).map (·.2));pure .next):=by
 rw[arm_exec_Assign,h1];refine(?_:(do standAt pos;let v←eval value env;let r←swappedStores targets value env;assignStores env v r _)=_);rw[h2];rfl
theorem vn(G:aA B d r){x:Nat}{e:Ex}{n:Str}{tp pos:Pos}{v:Expr}(h1:cm N x n=true)(h2:d9 N n=true)(h3:aJ B.nm N e v=true)(h4:jD v=false):SS B d (A3 x e r) N (.Assign [.Name n tp] v pos):=λA F φ σ s env ρ cx=>by
 rw[cu (show swapsWithSole [.Name n tp] v pos.line env=pure false from(hH (tg:=some (.Name n tp)) (l:=pos.line) (env:=env) h4:swapsWith v (some (.Name n tp)) pos.line env=pure false)) (by cases v<;>rfl)];refine aK.at (aK.bind cx.nr (G.e e v N h3 _ _ _ _ _ _ _ cx.tofb) λw aG bG s1 z _ le I rv=>aK.step λQ E q=>?_);refine(?_:wpAny _ _ (do assign (.Name n tp) env z;pure .next) Q E s1);refine(?_:wpAny _ _ (do(do standAt tp;bindName env n z);pure .next) Q E s1);exact wpAny_bind (wpAny_bind (wpAny_standAt (fp h1 h2 cx.nd cx.ok I (cx.nr.mono le) rv λs' vd I' NV=>wpAny_pure (q s' ⟨bG,vd,I',NV⟩))))
set_option tactic.hygienic true in
theorem kT{T:Nm}{c j:Nat}{n:Str}(h:kR T c j n=true):(T.bK c)[j]?=some n:=by
 unfold kR at h
 split at h
 ·rename_i fn e;rw[e,eq_of_beq h]
 ·cases h
theorem rL{c j:Nat}{n:Str}(h:(B.nm.bK c)[j]?=some n):B.bK c≠[]:=λq=>by
 have:(B.nm.bK c)[j]?=none:=by rw[show B.nm.bK c=[] from q];rfl
 rw[h] at this;cases this
theorem gA(fy:Fy B){c j:Nat}{n:Str}{ap:Pos}{x z:Value}{a v:LV}{ax:LH}{Q:Unit->Shared->Prop}{E:Value->Shared->Prop}(hn:(B.nm.bK c)[j]?=some n)(I:Inv B φ F σ s.heap)(ra:VR φ F s.heap a x)(rv:VR φ F s.heap v z)(e:bO c j a v σ=some ax)
  (q:∀s',Inv B φ F ax s'.heap->Le F X φ φ s s'->Q () s'):wpAny (model B.prog B.w) A (do standAt ap.atName;holding [z,x] (setAttr x n z);release [z,x] []) Q E s:=
 wpAny_bind (wpAny_standAt (wpAny_bind (wpAny_holding (xr fy.hK (fy.cls c (rL hn)) (fy.nodup c) I ra rv e hn λs' I' le=>wpAny_release' (q s' I' le)))))
theorem vo(fy:Fy B)(G:aA B d r){c j:Nat}{o e:Ex}{ps:Stmt}(h:iz B.nm N (.de c j o e) ps=true):SS B d (DL c j o e r) N ps:=by
 refine Cm h λox n ap v pos h=>?_
 ·intro A F φ σ s env ρ cx;have h1:=bL (bL h);have h2:=bR (bL h);have h3:=bR h;have hn:=kT h1;rw[cu (by cases v<;>rfl) (by cases v<;>rfl)];refine aK.at (aK.bind cx.nr (G.e e v N h3 _ _ _ _ _ _ _ cx.tofb) λw aG bG s1 z _ le I rv=>?_);refine(?_:aK B A F [env.locals] bG s1 N env _ (do(do let ov←holding [z] (eval ox env);standAt ap.atName;holding [z,ov] (setAttr ov n z);release [z,ov] []);pure .next));have e1:(do(do let ov←holding [z] (eval ox env);standAt ap.atName;holding [z,ov] (setAttr ov n z);release [z,ov] []);pure Flow.next:Sem Flow)=
   (holding [z] (eval ox env)>>=λov=>(do standAt ap.atName;holding [z,ov] (setAttr ov n z);release [z,ov] [])>>=λ_=>pure .next):=by simp only[bind_assoc]
  rw[e1];refine aK.bind (cx.nr.mono le) (aa.holding (G.e o ox N h2 _ _ _ _ _ _ _ (cx.tofb.le le I))) λa bU fN s2 x _ cR I2 ra=>aK.opt λfT hp=>aK.step λQ E q=>?_;exact wpAny_bind (gA (X:=[]) fy hn I2 ra (rv.mono cR) hp λs' I' vd=>wpAny_pure (q s' ⟨fN,vd.wide (by simp),I',((cx.nr.mono le).mono cR).mono vd⟩))
theorem yn(G:aA B d r){x:Nat}{o:jo}{e:Ex}{ps:Stmt}(h:iz B.nm N (.aug x o e) ps=true):SS B d (Jw x o e r) N ps:=by
 refine F2 h λn np op v pos h=>?_
 ·intro A F φ σ s env ρ cx;have h1:=bL (bL (bL h));have h2:=bR (bL (bL h));have h3:=bR (bL h);have h4:=bR h;rw[arm_exec_AugAssign];refine aK.at (aK.opt λold ho=>?_);rw[aT] at ho;have hn:=ed h1;have hk:=gi h2;obtain⟨_,_,m,hm,hr⟩:=id cx.nr
  rcases(hr x n old hn ho).1 hk with⟨q,_⟩|⟨w,hw,uW⟩
  ·subst q;exact .bad
  ·have eb:∀y,bound old y=y∨bound old y=.bad:=λy=>by cases old<;>first|exact .inl rfl|exact .inr rfl
   rcases eb (oS (r.e e ρ σ) ρ λv σ=>oS (dh o old v σ) ρ λn σ=>.nx (aW ρ n x) σ) with eb|eb
   ·rw[eb];refine aK.pre (a:=w) (λQ E q=>wpAny_loadName_local cx.ok.fn (by rw[cx.ok.of];exact hk) hm hw q) ?_;refine aK.bind cx.nr (aa.holding (G.e e v N h4 _ _ _ _ _ _ _ cx.tofb)) λu aG bG s1 z _ le I rv=>aK.at ?_;refine aK.bind (cx.nr.mono le) (aa.operate (tE h3 I (uW.mono le) rv)) λnew bU fN s2 y _ cR I2 ry=>aK.at (aK.step λQ E q=>?_);exact wpAny_bind (fp h1 h2 cx.nd cx.ok I2 ((cx.nr.mono le).mono cR) ry λs' vd I' NV=>wpAny_pure (q s' ⟨fN,vd,I',NV⟩))
   ·rw[eb];exact .bad
theorem vp(fy:Fy B)(G:aA B d r){c j:Nat}{o:jo}{ob e:Ex}{ps:Stmt}(h:iz B.nm N (.eY c j ob o e) ps=true):SS B d (DN c j ob o e r) N ps:=by
 refine Co h λox n ap op v pos h=>?_
 ·intro A F φ σ s env ρ cx;have h1:=bL (bL (bL h));have h2:=bR (bL (bL h));have h3:=bR (bL h);have h4:=bR h;have hn:=kT h1;rw[arm_exec_AugAssign_2];refine aK.at (aK.bind cx.nr (G.e ob ox N h2 _ _ _ _ _ _ _ cx.tofb) λa aG bG s1 x _ le I ra=>aK.opt λold ho=>?_);refine aK.nb λhb=>?_
  have e0:(oS (r.e e ρ aG) ρ λv σ=>oS (dh o old v σ) ρ λn σ=>jJ (bO c j a n σ) λσ=>.nx ρ σ)=oS (oB (r.e e ρ aG) λv σ=>dh o old v σ) ρ λn σ=>jJ (bO c j a n σ) λσ=>.nx ρ σ:=by
   cases r.e e ρ aG<;>rfl
  rw[e0];refine aK.bind (R:=RV F) (cx.nr.mono le) (aa.holding ?_) λnew bU fN s2 y _ cR I2 ry=>aK.at (aK.opt λfT hp=>aK.step λQ E q=>?_)
  ·refine aa.at ?_;intro NK;refine wpAny_bind (tB fy.hK (fy.cls c (rL hn)) I ra ho hn λz rz=>?_);have k:Le F [] bG bG s1 {s1 with toks:=s1.toks+1}:=.of_keeps (λ_ _ e=>e) rfl rfl;have S:aa B A F [] bG {s1 with toks:=s1.toks+1} (oB (r.e e ρ aG) λv σ=>dh o old v σ) (do let v←holding [z] (eval v env);standAt pos;operate [z,v] (inplaceOp op z v)) (RV F):=
    aa.bind (aa.holding (G.e e v N h4 _ _ _ _ _ _ _ ((cx.tofb.le le I).le k (I.keeps λ_ _ e=>e)))) λu bU fN s2 y _ cR I2 ru=>aa.at (aa.operate (tE h3 I2 (VR.mono (s:={s1 with toks:=s1.toks+1}) rz cR) ru))
   exact S.from k NK
  ·exact wpAny_bind (wpAny_holding (xr (X:=[]) fy.hK (fy.cls c (rL hn)) (fy.nodup c) I2 (ra.mono cR) ry hp hn λs' I' vd=>wpAny_bind (wpAny_release' (wpAny_pure (q s' ⟨fN,vd.wide (by simp),I',((cx.nr.mono le).mono cR).mono vd⟩)))))
theorem yo(G:aA B d r)(GS:i0 B d r){c:Ex}{a b:bB}{ps:Stmt}(h:iz B.nm N (.aV c a b) ps=true):SS B d (JA c a b r) N ps:=by
 refine F4 h λt x y pos h=>?_
 ·intro A F φ σ s env ρ cx;have h1:=bL (bL h);have h2:=bR (bL h);have h3:=bR h;rw[arm_exec_If];refine aK.at (aK.bind cx.nr (G.t c t N h1 _ _ _ _ _ _ _ cx.tofb) λw aG bG s1 z _ le I rv=>?_);have:z=w:=rv;subst this;have iJ:=cx.le le I (cx.nr.mono le)
  cases z with
  |true=>exact GS.ss a x N h2 _ _ _ _ _ _ _ iJ
  |false=>exact GS.ss b y N h3 _ _ _ _ _ _ _ iJ
theorem yq:NU B d (JD r) N []:=λA F φ σ s env ρ cx=>aK.step λQ E q=>wpAny_execs_nil (q s ⟨φ,.refl,cx.inv,cx.nr⟩)
theorem aK.seq{out:av}{p:Stmt}{ps:List Stmt}{f:List LV->LH->av}(x:aK B A F [env.locals] φ s N env out (exec p env))(h:∀fq aG bG s1,Le F [env.locals] φ bG s s1->Inv B bG F aG s1.heap->NR bG F s1.heap env N fq->aK B A F [env.locals] bG s1 N env (f fq aG) (execs ps env)):
  aK B A F [env.locals] φ s N env (f9 out f) (execs (p::ps) env):=λhb=>by
 cases out with
 |bad=>exact absurd rfl hb
 |err c aU ax=>exact wpAny_execs_cons (wpAny_mono (x nofun) (λ_ _ q=>q.elim) λ_ _ q=>q)
 |nx aU ax=>
  refine wpAny_execs_cons (wpAny_mono (x nofun) (λfl s1 q=>?_) λ_ _ q=>q.elim);obtain⟨rfl,ak,le,I,nr⟩:=q;exact(h aU ax ak s1 le I nr).from le hb
 |ret v ax=>
  refine wpAny_execs_cons (wpAny_mono (x nofun) (λfl s1 q=>?_) λ_ _ q=>q.elim);obtain⟨x,rfl,ak,le,I,rv⟩:=q;exact⟨x,rfl,ak,le,I,rv⟩
 |brk aU ax=>
  refine wpAny_execs_cons (wpAny_mono (x nofun) (λfl s1 q=>?_) λ_ _ q=>q.elim);obtain⟨rfl,q⟩:=q;exact⟨rfl,q⟩
 |cont aU ax=>
  refine wpAny_execs_cons (wpAny_mono (x nofun) (λfl s1 q=>?_) λ_ _ q=>q.elim);obtain⟨rfl,q⟩:=q;exact⟨rfl,q⟩
theorem vq(GS:i0 B d r){st:St}{q:bB}{p:Stmt}{ps:List Stmt}(h:ej B.nm N (.cons st q) (p::ps)=true):NU B d (DR st q r) N (p::ps):=λA F φ σ s env ρ cx=>aK.seq (GS.s st p N (bL h) _ _ _ _ _ _ _ cx) λfq aG bG s1 le I nr=>GS.ss q ps N (bR h) _ _ _ _ _ _ _ (cx.le le I nr)
end
section
variable{B:Bg}{d:Nat}{N:NC}{r:Ev}{A:Around}{F X:List Addr}{φ ak:aS}{σ:LH}{s s':Shared}{env:Env}{ρ:List LV}
theorem NR.nt{g:Heap}(x:NR φ F s.heap env N ρ)(y:Nt g F s s'):NR φ F s'.heap env N ρ:=by
 obtain⟨hf,hl,m,hm,r⟩:=x;have K:∀b o,s.heap.get? b=some o->b∉F->(∀vs,o.data≠.fields vs)->s'.heap.get? b=some o:=λb o e nf d=>y.a b o e nf (.inr d);refine⟨hf,hl,m,gp hm λo e=>y.f _ o e hf,λi n v e1 e2=>⟨λk=>?_,λk=>?_⟩⟩
 ·rcases(r i n v e1 e2).1 k with q|⟨x,a,b⟩
  ·exact .inl q
  ·exact .inr ⟨x,a,VR.seq' K v x b⟩
 ·obtain⟨x,ca,h1,⟨o,h2,qY⟩,h3,h4,h5⟩:=(r i n v e1 e2).2 k;exact⟨x,ca,h1,⟨o,K _ _ h2 h4 (λvs q=>by rw[qY] at q;cases q),qY⟩,h3,h4,VR.seq' K v x h5⟩
inductive Mj(B:Bg)(F X:List Addr)(φ:aS)(s:Shared)(N:NC)(env:Env)(c:Nat)(aU:List LV)(ax:LH)(e:Value)(s':Shared):Prop
 |mk (ak:aS) (le:Le F X φ ak s s') (I:Inv B ak F ax s'.heap) (nr:NR ak F s'.heap env N aU) (ex:dJ B s.heap c e s'.heap)
@[reducible] def iA(B:Bg)(F X:List Addr)(φ:aS)(s:Shared)(N:NC)(env:Env)(out:av)(e:Value)(s':Shared):Prop:=
 @av.rec (λ_=>Prop) (λ_ _=>False) (λ_ _=>False) (λ_ _=>False) (λ_ _=>False) (λc aU ax=>Mj B F X φ s N env c aU ax e s') False out
theorem iA.er{out:av}{e:Value}(x:iA B F X φ s N env out e s'):gy B F X φ s N env out e s':=by
 cases out with
 |err c ρ σ=>exact x.rec λak le I nr ex=>⟨ak,le,I,nr,ex.at⟩
 |_=>exact x
theorem iA.from{out:av}{e:Value}{cb:Shared}(le:Le F X φ ak s s')(x:iA B F X ak s' N env out e cb):iA B F X φ s N env out e cb:=by
 cases out with
 |err c ρ σ=>exact x.rec λak a I nr ex=>⟨ak,le.trans a,I,nr,ex.kz le.live⟩
 |_=>exact x
theorem yk.note(cx:dx B d N A F φ σ s env ρ){c:Nat}{aU:List LV}{ax:LH}{e:Value}(x:yk B F X φ s N env c aU ax e s'){Q:Unit->Shared->Prop}{E:Value->Shared->Prop}(h:∀cb,Mj B F X φ s N env c aU ax e cb->Q () cb):
  wpAny (model B.prog B.w) A (noteFrame e env) Q E s':=by
 obtain⟨ak,le,I,nr,ex⟩:=x;obtain⟨l,wd,hl⟩:=cx.Kx;exact pf wd (hl.le le) (λf hf=>(cx.inv.fr f hf).2) le.live ex λcb nt x'=>h cb ⟨ak,le.e8 nt,I.e8 nt cx.inv.base,nr.nt nt,x'⟩
theorem yr(cx:dx B d N A F φ σ s env ρ){out:av}{α:Type}{t:Sem α}{Q:α->Shared->Prop}{s1:Shared}(x:wpAny (model B.prog B.w) A t Q (gy B F X φ s N env out) s1){E:Value->Shared->Prop}(h:∀e cb,iA B F X φ s N env out e cb->E e cb):
  wpAny (model B.prog B.w) A t Q (notedBy (model B.prog B.w) A env E) s1:=wpAny_mono x (λ_ _ q=>q) λe s' q=>by
 cases out with
 |err c aU ax=>exact yk.note cx q λcb z=>h e cb z
 |_=>exact q.elim
theorem iA.back(cx:dx B d N A F φ σ s env ρ){out:av}{e:Value}(x:iA B F X φ s N env out e s'){E:Value->Shared->Prop}(h:∀cb,iA B F X φ s N env out e cb->E e cb):
  cameBackBy (model B.prog B.w) A env E e s':=by
 cases out with
 |err c aU ax=>
  obtain⟨ak,le,I,nr,ex⟩:=x;exact nv (λf hf=>(cx.inv.fr f hf).2) ex λcb nt x'=>h cb ⟨ak,le.e8 nt,I.e8 nt cx.inv.base,nr.nt nt,x'⟩
 |_=>exact x.elim
noncomputable def pP(C:Shared->Prop)(R:Result->Shared->Prop)(f:Flow)(s:Shared):Prop:=match f with
 |.next=>C s
 |.cont=>C s
 |.brk=>R (.ok .next) s
 |.ret v=>R (.ok (.ret v)) s
theorem tN{s1:Shared}{bG:aS}{out:av}{f:List LV->LH->av}{t:Sem Flow}{C:av->Shared->Prop}{Rp:av->Result->Shared->Prop}{E:av->Value->Shared->Prop}(x:aK B A F X bG s1 N env out t)(hb:turn out f≠.bad)
  (h:∀jq bU fN s2,Le F X bG fN s1 s2->Inv B fN F bU s2.heap->NR fN F s2.heap env N jq->f jq bU≠.bad->C (f jq bU) s2) (hk:∀jq bU s2,yj B F X bG s1 N env jq bU s2->Rp (.nx jq bU) (.ok .next) s2)
  (hr:∀v x bU s2,NT B F X bG s1 (.ret x) v bU s2->Rp (.ret v bU) (.ok (.ret x)) s2) (he:∀c jq bU e s2,yk B F X bG s1 N env c jq bU e s2->E (.err c jq bU) e s2):
  wpAny (model B.prog B.w) A t (pP (C (turn out f)) (Rp (turn out f))) (E (turn out f)) s1:=by
 cases out with
 |bad=>exact absurd rfl hb
 |err c aU ax=>exact wpAny_mono (x nofun) (λ_ _ q=>q.elim) λ_ _ q=>he _ _ _ _ _ q
 |nx aU ax=>
  refine wpAny_mono (x nofun) (λfl s1 q=>?_) λ_ _ q=>q.elim;obtain⟨rfl,ak,le,I,nr⟩:=q;exact h aU ax ak s1 le I nr hb
 |cont aU ax=>
  refine wpAny_mono (x nofun) (λfl s1 q=>?_) λ_ _ q=>q.elim;obtain⟨rfl,ak,le,I,nr⟩:=q;exact h aU ax ak s1 le I nr hb
 |ret v ax=>
  refine wpAny_mono (x nofun) (λfl s1 q=>?_) λ_ _ q=>q.elim;obtain⟨x,rfl,ak,le,I,rv⟩:=q;exact hr _ _ _ _ ⟨x,rfl,ak,le,I,rv⟩
 |brk aU ax=>
  refine wpAny_mono (x nofun) (λfl s1 q=>?_) λ_ _ q=>q.elim;obtain⟨rfl,q⟩:=q;exact hk _ _ _ q
theorem kU{prog:Program}{w:World}{test:Expr}{body:List Stmt}{R:Result->Shared->Prop}
  (turn:wpAny (model prog w) A (isTrue test env (eval test env)) (λb cz=>
    if b then wpAny (model prog w) A (execs body env) (pP (codeAny (model prog w) A (.whileLoop test body [] env) R) R) (notedBy (model prog w) A env λe s'=>R (.error e) s') cz
    else R (.ok .next) cz)
    (notedBy (model prog w) A env λe s'=>R (.error e) s') s):codeAny (model prog w) A (.whileLoop test body [] env) R s:=by
 refine codeAny_of_tree ?_;refine(?_:wpAny _ A ((whileTurn test body [] env).onRaise (λx=>do noteFrame x env;theTreesLotGoes x)) _ _ s);refine wpAny_noted ?_;simp only[whileTurn];refine wpAny_bind (wpAny_mono turn (λb cz j5=>?_) λ_ _ h'=>h')
 cases b with
 |false=>
  simp only[Bool.false_eq_true,if_false] at j5⊢;exact wpAny_bind (wpAny_execs_nil (wpAny_pure j5))
 |true=>
  simp only[if_true] at j5⊢;refine wpAny_bind (wpAny_mono j5 (λf eT gw=>?_) λ_ _ h'=>h')
  cases f with
  |next=>exact wpAny_pure ⟨rfl,gw⟩
  |cont=>exact wpAny_pure ⟨rfl,gw⟩
  |brk=>exact wpAny_pure gw
  |ret v=>exact wpAny_pure gw
noncomputable def et(B:Bg)(F X:List Addr)(φ:aS)(s:Shared)(N:NC)(env:Env)(out:av)(rr:Result)(s':Shared):Prop:=match rr with
 |.ok f=>oU B F X φ s N env out f s'
 |.error e=>iA B F X φ s N env out e s'
theorem et.from{out:av}{rr:Result}{cb:Shared}(le:Le F X φ ak s s')(x:et B F X ak s' N env out rr cb):et B F X φ s N env out rr cb:=by
 cases rr with
 |ok f=>exact oU.from le x
 |error e=>exact iA.from le x
noncomputable def Ct(B:Bg)(d:Nat)(r:Ev):Prop:=∀c b test body N A F φ σ s env ρ,aJ B.nm N c test=true->ej B.nm N b body=true->dx B d N A F φ σ s env ρ->r.eE c b ρ σ≠.bad->
 codeAny (model B.prog B.w) A (.whileLoop test body [] env) (et B F [env.locals] φ s N env (r.eE c b ρ σ)) s
theorem yt(G:aA B d r)(GS:i0 B d r)(W:Ct B d r):∀c b test body N A F φ σ s env ρ,aJ B.nm N c test=true->ej B.nm N b body=true->dx B d N A F φ σ s env ρ->nh r c b ρ σ≠.bad->
  codeAny (model B.prog B.w) A (.whileLoop test body [] env) (et B F [env.locals] φ s N env (nh r c b ρ σ)) s:=by
 intro c b test body N A F φ σ s env ρ h1 h2 cx hb;refine kU ?_
 refine yr cx (aK.then (K:=λout b cz=>if b then wpAny (model B.prog B.w) A (execs body env) (pP (codeAny (model B.prog B.w) A (.whileLoop test body [] env) (et B F [env.locals] φ s N env out)) (et B F [env.locals] φ s N env out))
   (notedBy (model B.prog B.w) A env λe s'=>et B F [env.locals] φ s N env out (.error e) s') cz else et B F [env.locals] φ s N env out (.ok .next) cz) cx.nr (G.t c test N h1 _ _ _ _ _ _ _ cx.tofb) hb λt aG bG s1 t' _ le I e hb=>?_) λe cb h=>h
 cases (e:t'=t);have AP:Le F [env.locals] φ bG s s1:=le.wide λ_ h=>nomatch h;have iJ:=cx.le le I (cx.nr.mono le)
 cases t with
 |false=>exact⟨rfl,bG,AP,I,cx.nr.mono le⟩
 |true=>
  rw[if_pos rfl];exact tN (C:=λout=>codeAny (model B.prog B.w) A (.whileLoop test body [] env) (et B F [env.locals] φ s N env out)) (Rp:=et B F [env.locals] φ s N env) (E:=λout=>notedBy (model B.prog B.w) A env λe s'=>et B F [env.locals] φ s N env out (.error e) s')
   (GS.ss b body N h2 _ _ _ _ _ _ _ iJ) hb (λjq bU fN s2 cR I2 Ec Sa=>codeAny_mono (W c b test body N A F fN bU s2 env jq h1 h2 (iJ.le cR I2 Ec) Sa) λrr s' h=>h.from (AP.trans cR))
   (λjq bU s2 z=>⟨rfl,z.from AP⟩) (λv x bU s2 z=>oU.from (N:=N) (env:=env) (out:=.ret v bU) AP z) λc jq bU e s2 z=>yk.note cx (gy.from (out:=.err c jq bU) AP z) λcb h=>h
theorem yu(W:Ct B d r){c:Ex}{b:bB}{ps:Stmt}(h:iz B.nm N (.eE c b) ps=true):SS B d (JB c b r) N ps:=by
 refine F5 h λt x pos h=>?_
 ·intro A F φ σ s env ρ cx hb;refine wpAny_While (codeAny_mono (W c b t x N A F φ σ s env ρ (bL h) (bR h) cx hb) λrr s' hr=>?_)
  cases rr with
  |ok f=>exact hr
  |error e=>exact iA.back cx hr λcb h=>h.er
end
section
variable{B:Bg}{d:Nat}{N:NC}{r:Ev}{A:Around}{F X:List Addr}{φ ak:aS}{σ:LH}{s s':Shared}{env:Env}{ρ:List LV}{E:Value->Shared->Prop}
theorem VR.l7{G:List Addr}{h h':Heap}{v:LV}{x:Value}(r:VR φ (G++F) h v x)(k:∀b o,b∉G->h.get? b=some o->h'.get? b=some o):VR φ F h' v x:=
 VR.bq (λb o e n nf=>⟨k b o (λq=>nf (List.mem_append_left _ q)) e,n,λq=>nf (List.mem_append_right _ q)⟩) (λ_ _ e=>e) v x r
theorem aB.l7{G:List Addr}{h h':Heap}{v:List LV}{x:List Value}(r:aB φ (G++F) h v x)(k:∀b o,b∉G->h.get? b=some o->h'.get? b=some o):aB φ F h' v x:=
 aB.bq (λb o e n nf=>⟨k b o (λq=>nf (List.mem_append_left _ q)) e,n,λq=>nf (List.mem_append_right _ q)⟩) (λ_ _ e=>e) v x r
theorem NR.l7{G:List Addr}{h h':Heap}(r:NR φ (G++F) h env N ρ)(hm:env.locals∈F)(hg:env.locals∉G)(k:∀b o,b∉G->h.get? b=some o->h'.get? b=some o):NR φ F h' env N ρ:=by
 obtain⟨_,hl,m,⟨o,es,ep,ho,hr⟩,q⟩:=r;refine⟨hm,hl,m,⟨o,es,ep,k _ _ hg ho,hr⟩,λi n v e1 e2=>⟨λkd=>?_,λkd=>?_⟩⟩
 ·rcases(q i n v e1 e2).1 kd with z|⟨x,a,b⟩
  ·exact .inl z
  ·exact .inr ⟨x,a,b.l7 k⟩
 ·obtain⟨x,ca,h1,⟨o,h2,qY⟩,h3,h4,h5⟩:=(q i n v e1 e2).2 kd;exact⟨x,ca,h1,⟨o,k _ _ (λq=>h4 (List.mem_append_left _ q)) h2,qY⟩,h3,λq=>h4 (List.mem_append_right _ q),h5.l7 k⟩
theorem NR.pushX{a:Addr}{h h':Heap}(r:NR φ F h env N ρ)(k:∀b o,h.get? b=some o->h'.get? b=some o)(ha:h.get? a=none):NR φ (a::F) h' env N ρ:=by
 obtain⟨hm,hl,m,⟨o,es,ep,ho,hr⟩,q⟩:=r;refine⟨List.mem_cons_of_mem _ hm,hl,m,⟨o,es,ep,k _ _ ho,hr⟩,λi n v e1 e2=>⟨λkd=>?_,λkd=>?_⟩⟩
 ·rcases(q i n v e1 e2).1 kd with z|⟨x,a,b⟩
  ·exact .inl z
  ·exact .inr ⟨x,a,b.fM k ha⟩
 ·obtain⟨x,ca,h1,⟨o,h2,qY⟩,h3,h4,h5⟩:=(q i n v e1 e2).2 kd;refine⟨x,ca,h1,⟨o,k _ _ h2,qY⟩,h3,λq=>?_,h5.fM k ha⟩
  rcases List.mem_cons.mp q with q|q
  ·rw[q,ha] at h2;cases h2
  ·exact h4 q
theorem NR.Ef(x:NR φ F s.heap env N ρ)(y:Le F X φ ak s s')(hX:env.locals∉X):NR ak F s'.heap env N ρ:=by
 obtain⟨hf,hl,m,hm,r⟩:=x;refine⟨hf,hl,m,gp hm λo e=>y.fr _ o e hf hX,λi n v e1 e2=>⟨λk=>?_,λk=>?_⟩⟩
 ·rcases(r i n v e1 e2).1 k with q|⟨x,a,b⟩
  ·exact .inl q
  ·exact .inr ⟨x,a,b.mono y⟩
 ·obtain⟨x,ca,h1,⟨o,h2,qY⟩,h3,h4,h5⟩:=(r i n v e1 e2).2 k;exact⟨x,ca,h1,⟨o,y.keep _ _ h2 h3 h4,qY⟩,y.ky h2 h3,h4,h5.mono y⟩
theorem Le.pQ{g:Addr}{s₁ s₄ s₅:Shared}{h':Heap}{t:Nat}(k:∀b o,s₁.heap.get? b=some o->s₄.heap.get? b=some o)(n:s₁.heap.get? g=none)(hg:s₄.gens=s₁.gens)(ho:s₄.os=s₁.os)
  (x:Le (g::F) (g::X) φ ak s₄ s₅) (k':∀b o,b≠g->s₅.heap.get? b=some o->h'.get? b=some o):Le F X φ ak s₁ {s₅ with heap:=h',toks:=t}:=
 Le.made (G:=[g]) (s₄:=s₄) (ψ:=[]) k (λb hb=>by simp only[List.mem_singleton] at hb;rw[hb];exact n) (λ_ h=>by simp at h) hg ho (by rw[List.append_nil];exact x) λb o nb e=>k' b o (by simpa using nb) e
theorem eV{v:LV}{vs:List LV}{i:Nat}(e:itemsOf v σ=some vs):item? v i σ=some vs[i]?:=by
 cases v with
 |tup ws=>
  have:ws=vs:=by simpa[itemsOf,eQ] using e
  subst this;show some (bf ws i)=_;rw[aT]
 |ag ws=>
  have:ws=vs:=by simpa[itemsOf,eQ] using e
  subst this;show some (bf ws i)=_;rw[aT]
 |ref j=>
  refine(?_:iL (.ref j) i σ=_);unfold iL;rw[e];show some (bf vs i)=_;rw[aT]
 |_=>cases e
theorem tO{v:LV}{x:Value}{vs:List LV}{it:Addr}(hh:A.handled=none)(hm:it∈F)(e:itemsOf v σ=some vs):∀(n i:Nat)(s:Shared)(Q:List Value->Shared->Prop),Inv B φ F σ s.heap->VR φ F s.heap v x->oR s.heap it v x i->i+n<=vs.length->
  (∀zs s',Le F [it] φ φ s s'->Inv B φ F σ s'.heap->aB φ F s'.heap ((vs.drop i).take n) zs->oR s'.heap it v x (i+n)->Q zs s')->wpAny (model B.prog B.w) A (draw (.ref it) n) Q E s
 |0,i,s,Q,I,rv,ir,hle,h=>wpAny_pure (h [] s .refl I (by rw[List.take_zero];exact aB.a8.mpr rfl) ir)
 |n+1,i,s,Q,I,rv,ir,hle,h=>by
  refine(?_:wpAny _ _ (pyNext (.ref it)>>=_) Q E s)
  have eh:i<vs.length:=by exact Jl [i,n,vs.length] 1 (.c 1 (.a J0 (.p J1 1)) J2 .z) (.p J0 1) J2 Jt hle
  refine wpAny_bind (gM hh hm I rv ir (eV e) (λw z s1 ew cf I1 Kq B5=>?_) λh' ew _=>?_)
  ·refine wpAny_bind (wpAny_holding (tO hh hm e n (i+1) s1 _ I1 (rv.mono cf) B5 (by exact Jl [i,n,vs.length] 1 (.c 1 (.a J0 (.p J1 1)) J2 .z) (.a (.p J0 1) J1) J2 Jt hle) λzs s2 cR I2 rs NW=>wpAny_pure ?_));refine h (z::zs) s2 (cf.trans cR) I2 ?_ (by rw[show i+(n+1)=i+1+n by exact Nat.le_antisymm (Jl [i,n] 1 .z (.a J0 (.p J1 1)) (.a (.p J0 1) J1) Jt) (Jl [i,n] 1 .z (.a (.p J0 1) J1) (.a J0 (.p J1 1)) Jt)];exact NW);rw[List.drop_eq_getElem_cons eh,List.take_succ_cons]
   have:w=vs[i]:=by rw[List.getElem?_eq_getElem eh] at ew;injection ew with ew;exact ew.symm
   subst this;exact aB.aH.mpr ⟨z,zs,rfl,Kq.mono cR,rs⟩
  ·rw[List.getElem?_eq_getElem eh] at ew;cases ew
theorem pR{v:LV}{x:Value}{vs:List LV}{Q:Bool->Shared->Prop}(I:Inv B φ F σ s.heap)(r:VR φ F s.heap v x)(e:itemsOf v σ=some vs)(h:Q false s):wpAny (model B.prog B.w) A (notIterableAtAll x) Q E s:=by
 have lst:∀Bd,listOf? v σ=some Bd->wpAny (model B.prog B.w) A (notIterableAtAll x) Q E s:=λBd e'=>by
  obtain⟨a,xs,rfl,hl,_⟩:=aj I r e';unfold notIterableAtAll;refine wpAny_bind (wpAny_specialOf hl.typeIs slot_list_iter.lookup ?_);exact wpAny_pure h
 cases v with
 |tup ws=>
  obtain⟨a,ob,xs,n,rfl,ho,_,_,hc,hd,_⟩:=gr.mp r;have ht:s.heap.IsTuple a xs:=⟨ob,ho,hc,n,hd⟩;unfold notIterableAtAll;refine wpAny_bind (wpAny_specialOf ht.typeIs PySem.F.slot_tuple_iter.lookup ?_);exact wpAny_pure h
 |ag ws=>exact lst ws rfl
 |ref j=>exact lst vs e
 |_=>cases e
theorem mB{v:LV}{x:Value}{vs:List LV}{Q:List Value->Shared->Prop}(hh:A.handled=none)(I:Inv B φ F σ s.heap)(r:VR φ F s.heap v x)(e:itemsOf v σ=some vs)
  (h:∀zs s',Le F [] φ φ s s'->Inv B φ F σ s'.heap->aB φ F s'.heap vs zs->Q zs s'):wpAny (model B.prog B.w) A (unpackItems x vs.length none) Q E s:=by
 unfold unpackItems;refine wpAny_bind (pR I r e ?_);simp only[Bool.false_eq_true,if_false];refine wpAny_bind (wpAny_holding (nV I r (eV (i:=0) e) λob vi=>?_));have k:∀b o,s.heap.get? b=some o->(s.heap.push ob).get? b=some o:=λb o e=>Heap.get?_push_of_some _ e;have n:s.heap.get? s.heap.objs.size=none:=bz _;have I1:Inv B φ (s.heap.objs.size::F) σ (s.heap.push ob):=I.fM k n (let⟨o,_,e,_⟩:=vi.live;⟨o,e⟩);have r1:VR φ (s.heap.objs.size::F) (s.heap.push ob) v x:=r.fM k n;refine wpAny_bind (wpAny_holding (tO (F:=s.heap.objs.size::F) hh (by simp) e vs.length 0 {s with heap:=s.heap.push ob} _ I1 r1 vi (by exact Jl [vs.length] 1 .z (.a (.k 0) J0) J0 Jt) λzs s2 cR I2 rs NW=>?_))
 have hz:List.take vs.length (List.drop 0 vs)=vs:=by rw[List.drop_zero];exact List.take_of_length_le (Nat.le_refl _)
 rw[hz] at rs;rw[if_neg (by rw[rs.length];exact Nat.not_lt_of_le (Jl [vs.length] 1 .z J0 J0 Jt))];refine wpAny_bind (wpAny_holding (gM hh (by simp) I2 (r1.mono cR) NW (eV e) (λw z s3 ew _ _ _ _=>?_) λh' ew fk=>?_))
 ·rw[List.getElem?_eq_none (by walk_at "om")] at ew;cases ew
 ·simp only[Option.isSome_none,Bool.false_eq_true,if_false];have k':∀b o,b≠s.heap.objs.size->s2.heap.get? b=some o->h'.get? b=some o:=λb o nb e=>fk b o nb e;have kg:∀b o,b∉[s.heap.objs.size]->s2.heap.get? b=some o->h'.get? b=some o:=λb o nb e=>fk b o (by simpa using nb) e;have le:Le F [] φ φ s {s2 with heap:=h',toks:=s2.toks}:=Le.pQ (s₄:={s with heap:=s.heap.push ob}) k n rfl rfl cR k';refine wpAny_pure (h zs _ le (Inv.iZ (G:=[s.heap.objs.size]) I2 kg λf hf q=>?_) (aB.l7 (G:=[s.heap.objs.size]) rs kg));obtain⟨o,e⟩:=(I.fr f hf).2;simp only[List.mem_singleton] at q;rw[q,n] at e;cases e
theorem iB{T:Nm}:∀{ts:List Tg}{es:List Expr},fO T N ts es=true->(assignEach es env).map (·.2)=es.map (λe=>assign e env)/\(assignEach es env).findIdx? (·.1)=none/\(assignEach es env).length=ts.length
 |[],[],_=>⟨rfl,rfl,rfl⟩
 |[],_::_,h=>absurd h Bool.false_ne_true
 |_::_,[],h=>absurd h Bool.false_ne_true
 |t::ts,e::es,h=>by
  have h:=xE (show(Ci T N t e&&fO T N ts es)=true from h);obtain⟨a,b,c⟩:=iB h.2
  have e1:assignEach (e::es) env=(false,assign e env)::assignEach es env:=by
   cases t with
   |nm x=>exact aY (Q:=λe=>assignEach (e::es) env=(false,assign e env)::assignEach es env) h.1 λ_ _ _=>rfl
   |sD c j o=>exact ef (Q:=λe=>assignEach (e::es) env=(false,assign e env)::assignEach es env) h.1 λ_ _ _ _=>rfl
  rw[e1];refine⟨by rw[List.map_cons,a];rfl,?_,by simp[c]⟩;rw[List.findIdx?_cons];simp[b]
@[reducible] def AQ(B:Bg)(F X:List Addr)(φ:aS)(s:Shared)(N:NC)(env:Env)(out:av)(_:Unit)(s':Shared):Prop:=
 @av.rec (λ_=>Prop) (λaU ax=>yj B F X φ s N env aU ax s') (λ_ _=>False) (λ_ _=>False) (λ_ _=>False) (λ_ _ _=>False) False out
theorem AQ.from{out:av}{u:Unit}{cb:Shared}(le:Le F X φ ak s s')(x:AQ B F X ak s' N env out u cb):AQ B F X φ s N env out u cb:=by
 cases out with
 |nx ρ σ=>exact yj.from le x
 |_=>exact x
theorem AQ.ok{out:av}{u:Unit}(x:AQ B F X φ s N env out u s'):oU B F X φ s N env out .next s':=by
 cases out with
 |nx ρ σ=>exact⟨rfl,x⟩
 |_=>exact x.elim
noncomputable def F6(B:Bg)(A:Around)(F X:List Addr)(φ:aS)(s:Shared)(N:NC)(env:Env)(out:av)(t:Sem Unit):Prop:=
 out≠.bad->wpAny (model B.prog B.w) A t (AQ B F X φ s N env out) (gy B F X φ s N env out) s
theorem F6.from{out:av}{t:Sem Unit}(le:Le F X φ ak s s')(x:F6 B A F X ak s' N env out t)(hb:out≠.bad):wpAny (model B.prog B.w) A t (AQ B F X φ s N env out) (gy B F X φ s N env out) s':=
 wpAny_mono (x hb) (λ_ _ q=>q.from le) λ_ _ q=>q.from le
theorem gN(fy:Fy B)(G:aA B d r):∀(ts:List Tg)(es:List Expr)(vs:List LV)(zs:List Value)(σ:LH)(φ:aS)(s:Shared)(ρ:List LV),fO B.nm N ts es=true->dx B d N A F φ σ s env ρ->aB φ F s.heap vs zs->
  F6 B A F [env.locals] φ s N env (cH r ts vs ρ σ) (assignInOrder (es.map λe=>assign e env) zs)
 |[],[],vs,zs,σ,φ,s,ρ,h,cx,rs=>λhb=>by
  cases vs with
  |nil=>exact wpAny_pure ⟨φ,.refl,cx.inv,cx.nr⟩
  |cons _ _=>exact absurd rfl hb
 |[],_::_,_,_,_,_,_,_,h,_,_=>absurd h Bool.false_ne_true
 |_::_,[],_,_,_,_,_,_,h,_,_=>absurd h Bool.false_ne_true
 |t::ts,e::es,vs,zs,σ,φ,s,ρ,h,cx,rs=>λhb=>by
  cases vs with
  |nil=>exact absurd rfl hb
  |cons v vs=>
   obtain⟨z,H7,rfl,rv,Qt⟩:=aB.aH.mp rs;refine wpAny_bind (m:=holding H7 (assign e env z)) (wpAny_holding ?_);have h2:=bR (b:=fO B.nm N ts es) h
   cases t with
   |nm x=>
    refine aY (Q:=λe=>wpAny (model B.prog B.w) A (assign e env z) (λ_ s1=>wpAny (model B.prog B.w) A (assignInOrder (es.map λe=>assign e env) H7) (AQ B F [env.locals] φ s N env (cH r ts vs (aW ρ v x) σ)) (gy B F [env.locals] φ s N env (cH r ts vs (aW ρ v x) σ)) s1) (gy B F [env.locals] φ s N env (cH r ts vs (aW ρ v x) σ)) s) (bL h) λn p h1=>?_;exact wpAny_bind (wpAny_standAt (fp (bL h1) (bR h1) cx.nd cx.ok cx.inv cx.nr rv λs1 cf I1 NO=>(gN fy G ts es vs H7 σ φ s1 _ h2 (cx.le cf I1 NO) (Qt.mono cf)).from cf hb))
   |sD c j o=>
    refine ef (Q:=λe=>wpAny (model B.prog B.w) A (assign e env z) (λ_ s1=>wpAny (model B.prog B.w) A (assignInOrder (es.map λe=>assign e env) H7) (AQ B F [env.locals] φ s N env (cH r (.sD c j o::ts) (v::vs) ρ σ)) (gy B F [env.locals] φ s N env (cH r (.sD c j o::ts) (v::vs) ρ σ)) s1) (gy B F [env.locals] φ s N env (cH r (.sD c j o::ts) (v::vs) ρ σ)) s) (bL h) λox n ap h1=>?_;have hn:=kT (bL h1)
    refine wpAny_bind (aK.then (f:=λx σ=>jJ (bO c j x v σ) λσ=>cH r ts vs ρ σ) (K:=λout ov s1=>wpAny (model B.prog B.w) A (do standAt ap.atName;holding [z,ov] (setAttr ov n z);release [z,ov] []) (λ_ s2=>wpAny (model B.prog B.w) A (assignInOrder (es.map λe=>assign e env) H7) (AQ B F [env.locals] φ s N env out) (gy B F [env.locals] φ s N env out) s2) (gy B F [env.locals] φ s N env out) s1)
     cx.nr (aa.holding (G.e o ox N (bR h1) _ _ _ _ _ _ _ cx.tofb)) hb λa aG bG s1 x _ le I ra hb=>?_)
    obtain⟨bU,hp,hb⟩:=nq hb;rw[hp];refine gA (X:=[]) fy hn I ra (rv.mono le) hp λs2 I2 cR=>?_;have pS:Le F [] φ bG s s2:=le.trans cR;have AP:Le F [env.locals] φ bG s s2:=pS.wide λ_ h=>nomatch h;exact(gN fy G ts es vs H7 bU bG s2 ρ h2 (cx.le AP I2 (cx.nr.mono pS)) (Qt.mono pS)).from AP hb
theorem vr(fy:Fy B)(G:aA B d r){ts:List Tg}{e:Ex}{ps:Stmt}(h:iz B.nm N (.dc ts e) ps=true):SS B d (DM ts e r) N ps:=by
 refine Cn h λelts k tp v pos h=>?_
 ·intro A F φ σ s env ρ cx;have h1:=bL (bL h);have h2:=bR (bL h);have h3:=bF (bR h);obtain⟨g1,g2,g3⟩:=iB (env:=env) h1;rw[cu (by cases v<;>rfl) (by cases v<;>first|rfl|(cases h3;done))];refine aK.at (aK.bind cx.nr (G.e e v N h2 _ _ _ _ _ _ _ cx.tofb) λw aG bG s1 z _ le I rv=>aK.opt λvs hi=>?_);refine(?_:aK B A F [env.locals] bG s1 N env _ (do assign (.Tuple elts k tp) env z;pure .next));refine(?_:aK B A F [env.locals] bG s1 N env _ (do(do standAt tp;unpack z (assignEach elts env));pure .next))
  cases hl:Nat.beq (len ts) (len vs) with
  |false=>exact .bad
  |true=>
   rw[lV];intro hb
   have hl:ts.length=vs.length:=by have:=Nat.eq_of_beq_eq_true hl;rwa [len_eq,len_eq] at this
   refine wpAny_bind (wpAny_bind (wpAny_standAt ?_));unfold unpack;rw[g1,g2,g3,hl];refine wpAny_bind (wpAny_holding (mB cx.xc.handled I rv hi λzs s2 cR I2 rs=>?_));have iJ:=(cx.le (X:=[]) le I (cx.nr.mono le)).le (X:=[]) cR I2 ((cx.nr.mono le).mono cR);have AP:Le F [env.locals] bG bG s1 s2:=cR.wide (by simp);exact wpAny_mono ((gN fy G ts elts vs zs aG bG s2 ρ h1 iJ rs).from AP hb) (λ_ _ q=>wpAny_pure q.ok) λ_ _ q=>q
end
theorem jR(r:Ev){σ:LH}:∀(t:List Nat)(vs ρ aU:List LV),DJ t vs ρ=some aU->cH r (t.map .nm) vs ρ σ=.nx aU σ/\t.length=vs.length
 |[],[],ρ,aU,h=>by injection h with h;subst h;exact⟨rfl,rfl⟩
 |[],_::_,_,_,h=>by cases h
 |_::_,[],_,_,h=>by cases h
 |x::t,v::vs,ρ,aU,h=>by
  have:=jR (σ:=σ) r t vs (aW ρ v x) aU h;exact⟨this.1,by simp[this.2]⟩
theorem jS{T T':Nm}{N:NC}:∀(t:List Nat)(es:List Expr),fO T N (t.map .nm) es=true->fO T' N (t.map .nm) es=true
 |[],[],_=>rfl
 |[],_::_,h=>absurd h Bool.false_ne_true
 |_::_,[],h=>absurd h Bool.false_ne_true
 |x::t,e::es,h=>by
  have h:=xE (show(Ci T N (.nm x) e&&fO T N (t.map .nm) es)=true from h);refine(?_:(Ci T' N (.nm x) e&&fO T' N (t.map .nm) es)=true);rw[Bool.and_eq_true];refine⟨?_,jS t es h.2⟩;have h1:=h.1;exact h1
section
variable{B:Bg}{d:Nat}{N:NC}{r:Ev}{A:Around}{F X:List Addr}{φ ak:aS}{σ:LH}{s s':Shared}{env:Env}{ρ:List LV}{E:Value->Shared->Prop}
theorem i8{prog:Program}{w:World}{target:Expr}{it:Value}{body:List Stmt}{R:Result->Shared->Prop}
  (turn:wpAny (model prog w) A (pyNext it) (λr s₁=>match r with
   |none=>R (.ok .next) s₁
   |some v=>wpAny (model prog w) A (letOwnedTupleGo target it v) (λ_ Eg=>
     wpAny (model prog w) A (assign target env v) (λ_ cz=>wpAny (model prog w) A (execs body env) (pP (codeAny (model prog w) A (.forLoop target it body [] env) R) R) (notedBy (model prog w) A env λe s'=>R (.error e) s') cz) (notedBy (model prog w) A env λe s'=>R (.error e) s') Eg) (notedBy (model prog w) A env λe s'=>R (.error e) s') s₁)
   (notedBy (model prog w) A env λe s'=>R (.error e) s') s):codeAny (model prog w) A (.forLoop target it body [] env) R s:=by
 refine codeAny_of_tree ?_;refine(?_:wpAny _ A ((forTurn target it body [] env).onRaise (λx=>do noteFrame x env;theTreesLotGoes x)) _ _ s);refine wpAny_noted ?_;simp only[forTurn];refine wpAny_bind (wpAny_standAt (wpAny_bind (wpAny_onRaise (wpAny_mono turn (λr s₁ nW=>?_) λ_ _ h'=>wpAny_standAt h'))))
 cases r with
 |none=>exact wpAny_pure ⟨rfl,codeAny_block (wpAny_execs_nil nW)⟩
 |some v=>
  refine wpAny_bind (wpAny_mono nW (λ_ Eg Kz=>?_) λ_ _ h'=>h');refine wpAny_bind (wpAny_mono Kz (λ_ cz j5=>wpAny_bind (wpAny_mono j5 (λf eT gw=>?_) λ_ _ h'=>h')) λ_ _ h'=>h')
  cases f with
  |next=>exact wpAny_pure ⟨rfl,gw⟩
  |cont=>exact wpAny_pure ⟨rfl,gw⟩
  |brk=>exact wpAny_pure gw
  |ret v=>exact wpAny_pure gw
inductive NX(B:Bg)(F:List Addr)(φ:aS)(s:Shared)(N:NC)(env:Env)(it:Addr)(out:av)(f:Flow)(s':Shared):Prop
 |mk (s₁:Shared) (h':Heap) (e:s'={s₁ with heap:=h'}) (ext:Heap.ExtBut it s₁.heap h') (ok:oU B F [it,env.locals] φ s N env out f s₁)
noncomputable def fU(B:Bg)(F:List Addr)(φ:aS)(s:Shared)(N:NC)(env:Env)(it:Addr)(out:av)(rr:Result)(s':Shared):Prop:=match rr with
 |.ok f=>NX B F φ s N env it out f s'
 |.error e=>iA B F [it,env.locals] φ s N env out e s'
theorem fU.from{it:Addr}{out:av}{rr:Result}{cb:Shared}(le:Le F [it,env.locals] φ ak s s')(x:fU B F ak s' N env it out rr cb):fU B F φ s N env it out rr cb:=by
 cases rr with
 |ok f=>obtain⟨s₁,h',a,b,c⟩:=x;exact⟨s₁,h',a,b,c.from le⟩
 |error e=>exact iA.from le x
theorem pT{it:Addr}{s2:Shared}{fN:aS}{out:av}{f:List LV->LH->av}{t:Sem Flow}{c:Code}(cx:dx B d N A F φ σ s env ρ)(le:Le F [it,env.locals] φ fN s s2)(x:aK B A F [env.locals] fN s2 N env out t)(hb:turn out f≠.bad)
  (h:∀yv fT kb s3,Le F [env.locals] fN kb s2 s3->Inv B kb F fT s3.heap->NR kb F s3.heap env N yv->f yv fT≠.bad->codeAny (model B.prog B.w) A c (fU B F kb s3 N env it (f yv fT)) s3):
  wpAny (model B.prog B.w) A t (pP (codeAny (model B.prog B.w) A c (fU B F φ s N env it (turn out f))) (fU B F φ s N env it (turn out f))) (notedBy (model B.prog B.w) A env λe s'=>fU B F φ s N env it (turn out f) (.error e) s') s2:=by
 have w:∀b,b∈[env.locals]->b∈[it,env.locals]:=λb h=>.tail _ h;exact tN (C:=λout=>codeAny (model B.prog B.w) A c (fU B F φ s N env it out)) (Rp:=fU B F φ s N env it) (E:=λout=>notedBy (model B.prog B.w) A env λe s'=>fU B F φ s N env it out (.error e) s') x hb
  (λyv fT kb s3 jO I3 F7 KA=>codeAny_mono (h yv fT kb s3 jO I3 F7 KA) λrr s' h=>h.from (le.trans (jO.wide w)))
  (λyv fT s3 z=>⟨s3,s3.heap,rfl,λ_ _ _ e=>e,rfl,z.rec λkb jO I nr=>⟨kb,le.trans (jO.wide w),I,nr⟩⟩)
  (λv x fT s3 z=>⟨s3,s3.heap,rfl,λ_ _ _ e=>e,z.rec λy e kb jO I rv=>⟨y,e,kb,le.trans (jO.wide w),I,rv⟩⟩)
  λc yv fT e s3 z=>yk.note (X:=[it,env.locals]) cx (z.rec λkb jO I nr ex=>⟨kb,le.trans (jO.wide w),I,nr,ex.kz le.live⟩) λcb h=>h
theorem oR.go{h:Heap}{prog:Program}{w:World}{tg:Expr}{it:Addr}{v:LV}{x z:Value}{i:Nat}(r:oR s.heap it v x i){Q:Unit->Shared->Prop}(q:Q () s):wpAny (model prog w) A (letOwnedTupleGo tg (.ref it) z) Q E s:=by
 have key:∀(T:String)(o:Obj)(vs:Array Value),s.heap.get? it=some o->o.cls=.type T->o.data=.fields vs->["enumerate","zip","dict_itemiterator","dict_reverseitemiterator","odict_iterator","itertools.zip_longest","itertools.pairwise"].contains T=false->
   wpAny (model prog w) A (letOwnedTupleGo tg (.ref it) z) Q E s:=λT o vs ho hc hd hn=>by
  have go:∀(t:Sem Unit),t=(match(Value.ref it,z) with
    |(.ref r,.ref a)=>do
     let o←load r
     match o.cls,o.data with
     |.type n,.fields vs=>
      if["enumerate","zip","dict_itemiterator","dict_reverseitemiterator","odict_iterator","itertools.zip_longest","itertools.pairwise"].contains n&&vs[0]?==some (rawInt a) then do
       rule "for.unpacks-the-owned-tuple"
       updateField r 0 .none
      else pure ()
     |_,_=>pure ()
    |_=>pure ())->wpAny (model prog w) A t Q E s:=λt e=>by
   subst e
   cases z with
   |ref a=>
    refine wpAny_bind (wpAny_load ho ?_);rw[hc,hd];dsimp only;rw[hn,Bool.false_and];exact wpAny_pure q
   |_=>exact wpAny_pure q
  cases tg<;>first|exact wpAny_pure q|exact go _ rfl
 cases v with
 |str u=>
  obtain⟨t,e,⟨a,o,ho,hc,hd⟩|⟨a,o,ho,hc,hd⟩⟩:=r
  ·exact key _ o _ ho hc hd (by decide)
  ·exact key _ o _ ho hc hd (by decide)
 |tup vs=>obtain⟨a,e,o,ho,hc,hd⟩:=r;exact key _ o _ ho hc hd (by decide)
 |ag vs=>obtain⟨a,e,o,ho,hc,hd⟩:=r;exact key _ o _ ho hc hd (by decide)
 |ref vs=>obtain⟨a,e,o,ho,hc,hd⟩:=r;exact key _ o _ ho hc hd (by decide)
 |_=>exact r.elim
noncomputable def tP(B:Bg)(d:Nat)(r:Ev):Prop:=∀t b tg body N A F φ σ s env ρ v z i it,pO N t tg=true->ej B.nm N b body=true->dx B d N A F φ σ s env ρ->it∈F->it≠env.locals->VR φ F s.heap v z->oR s.heap it v z i->r.cj t v i b ρ σ≠.bad->
 codeAny (model B.prog B.w) A (.forLoop tg (.ref it) body [] env) (fU B F φ s N env it (r.cj t v i b ρ σ)) s
theorem rM(fy:Fy B)(G:aA B d r){t:List Nat}{tg:Expr}{w:LV}{zw:Value}{fq:List LV}{Q:Unit->Shared->Prop}(h:pO N t tg=true)(cx:dx B d N A F φ σ s env ρ)(rv:VR φ F s.heap w zw)(e:qK t w ρ=some fq)
  (hQ:∀ak s',Le F [env.locals] φ ak s s'->Inv B ak F σ s'.heap->NR ak F s'.heap env N fq->Q () s'):wpAny (model B.prog B.w) A (assign tg env zw) Q E s:=by
 cases t with
 |nil=>cases e
 |cons x t=>
  cases t with
  |nil=>
   injection e with e;subst e
   exact aY (Q:=λtg=>wpAny (model B.prog B.w) A (assign tg env zw) Q E s) h λn p h=>wpAny_bind (wpAny_standAt (fp (bL h) (bR h) cx.nd cx.ok cx.inv cx.nr rv (hQ φ)))
  |cons y t=>
   refine nB (Q:=λtg=>wpAny (model B.prog B.w) A (assign tg env zw) Q E s) h λelts k p h=>?_;have h:=jS (T':=B.nm) (x::y::t) elts h
   cases w with
   |tup vs=>
    obtain⟨e1,e2⟩:=jR r (σ:=σ) (x::y::t) vs ρ fq e;obtain⟨g1,g2,g3⟩:=iB (env:=env) h;refine wpAny_bind (m:=standAt p) (wpAny_standAt (?_:wpAny _ _ (unpack zw (assignEach elts env)) _ _ s));unfold unpack;rw[g1,g2,g3,List.length_map,e2];refine wpAny_bind (wpAny_holding (mB cx.xc.handled cx.inv rv (vs:=vs) rfl λzs s2 cR I2 rs=>?_));have P:=gN fy G _ elts vs zs σ φ s2 ρ h (cx.le (X:=[]) cR I2 (cx.nr.mono cR)) rs;rw[e1] at P;exact wpAny_mono (P Ky) (λ_ s' q=>q.rec λak le I nr=>hQ ak s' ((cR.wide λ_ h=>nomatch h).trans le) I nr) λ_ _ q=>q.elim
   |_=>cases e
theorem yw(fy:Fy B)(G:aA B d r)(GS:i0 B d r)(W:tP B d r):∀t b tg body N A F φ σ s env ρ v z i it,pO N t tg=true->ej B.nm N b body=true->dx B d N A F φ σ s env ρ->it∈F->it≠env.locals->VR φ F s.heap v z->oR s.heap it v z i->gb r t v i b ρ σ≠.bad->
  codeAny (model B.prog B.w) A (.forLoop tg (.ref it) body [] env) (fU B F φ s N env it (gb r t v i b ρ σ)) s:=by
 intro t b tg body N A F φ σ s env ρ v z i it h1 h2 cx hm gY rv ir hb;refine i8 ?_;unfold gb at hb⊢
 cases ho:item? v i σ with
 |none=>rw[ho] at hb;exact absurd rfl hb
 |some o=>
  rw[ho] at hb;rw[DT] at hb⊢
  cases o with
  |none=>exact gM cx.xc.handled hm cx.inv rv ir ho (λw zw s1 eo _ _ _ _=>nomatch eo) λh' _ fk=>⟨s,h',rfl,fk,rfl,φ,.refl,cx.inv,cx.nr⟩
  |some w=>
   obtain⟨fq,hp,hb⟩:=nq hb;rw[lW,hp,DT];refine gM cx.xc.handled hm cx.inv rv ir ho (λw' zw s1 eo cf I1 Kq B5=>?_) λh' eo _=>nomatch eo;cases eo;have iJ:=cx.le cf I1 (cx.nr.Ef cf (by simp[Ne.symm gY]));refine oR.go (h:=s1.heap) B5 (rM fy G h1 iJ Kq hp λfN s2 cR I2 Ec=>?_);have Cu:=iJ.le cR I2 Ec;have pS:Le F [it,env.locals] φ fN s s2:=(cf.wide (by simp)).trans (cR.wide (by simp));exact pT cx pS (GS.ss b body N h2 _ _ _ _ _ _ _ Cu) hb λyv fT kb s3 jO I3 F7 KA=>W t b tg body N A F kb fT s3 env yv v z (i+1) it h1 h2 (Cu.le jO I3 F7) hm gY ((rv.mono pS).mono jO)
    ((B5.at λo e=>cR.fr _ o e hm (by simpa using gY)).at λo e=>jO.fr _ o e hm (by simpa using gY)) KA
theorem fU.leave{it:Addr}{out:av}{rr:Result}{s₁:Shared}(cx:dx B d N A F φ σ s env ρ)(k:∀b o,s.heap.get? b=some o->s₁.heap.get? b=some o)(n:s.heap.get? it=none)(hg:s₁.gens=s.gens)(Fn:s₁.os=s.os)
  (x:fU B (it::F) φ s₁ N env it out rr s'):et B F [env.locals] φ s N env out rr s':=by
 have hL:env.locals∈F:=cx.nr.1
 have gY:env.locals≠it:=λq=>by
  obtain⟨o,e⟩:=(cx.inv.fr _ hL).2;rw[q,n] at e;cases e
 have Eh:∀f∈F,f∉[it]:=λf hf q=>by
  simp only[List.mem_singleton] at q;obtain⟨o,e⟩:=(cx.inv.fr _ hf).2;rw[q,n] at e;cases e
 cases rr with
 |ok f=>
  obtain⟨cz,h',rfl,fk,x⟩:=x;have kg:∀b o,b∉[it]->cz.heap.get? b=some o->h'.get? b=some o:=λb o nb e=>fk b o (by simpa using nb) e;have st:∀{aU ax},yj B (it::F) [it,env.locals] φ s₁ N env aU ax cz->yj B F [env.locals] φ s N env aU ax {cz with heap:=h'}:=λz=>z.rec λak le I nr=>
   ⟨ak,Le.pQ k n hg Fn le λb o nb e=>fk b o nb e,Inv.iZ (G:=[it]) I kg Eh,NR.l7 (G:=[it]) nr hL (by simpa using gY) kg⟩
  cases out with
  |ret v ax=>exact NT.rec (λy e ak le I rv=>⟨y,e,ak,Le.pQ k n hg Fn le λb o nb e=>fk b o nb e,Inv.iZ (G:=[it]) I kg Eh,VR.l7 (G:=[it]) rv kg⟩) x
  |err=>exact x
  |bad=>exact x
  |_=>exact⟨x.1,st x.2⟩
 |error e=>
  cases out with
  |err c aU ax=>exact Mj.rec (λak le I nr ex=>⟨ak,Le.pQ (s₅:=s') k n hg Fn le λb o _ e=>e,Inv.iZ (G:=[it]) I (λb o _ e=>e) Eh,NR.l7 (G:=[it]) nr hL (by simpa using gY) λb o _ e=>e,ex.kz λb o e=>⟨o,k b o e⟩⟩) x
  |_=>exact x
theorem dx.push{it:Addr}{ob:Obj}(cx:dx B d N A F φ σ s env ρ){s₁:Shared}(k:∀b o,s.heap.get? b=some o->s₁.heap.get? b=some o)(n:s.heap.get? it=none)(hl:∃o,s₁.heap.get? it=some o):dx B d N A (it::F) φ σ s₁ env ρ:=
 ⟨⟨cx.xc.push (λf hf=>List.mem_cons_of_mem _ hf) k,cx.ok,cx.inv.fM k n hl,cx.nr.pushX k n,cx.room⟩,cx.fr,cx.nd⟩
noncomputable def yx(B:Bg)(A:Around)(F:List Addr)(φ:aS)(s:Shared)(N:NC)(env:Env)(out:av)(rr:Result)(s':Shared):Prop:=match rr with
 |.ok f=>oU B F [env.locals] φ s N env out f s'
 |.error e=>cameBackBy (model B.prog B.w) A env (gy B F [env.locals] φ s N env out) e s'
theorem pU{s1:Shared}{bG:aS}{out:av}{rr:Result}(cx:dx B d N A F φ σ s env ρ)(le:Le F [] φ bG s s1)(hr:et B F [env.locals] bG s1 N env out rr s'):yx B A F φ s N env out rr s':=by
 have hr:=et.from (le.wide λ_ h=>nomatch h) hr
 cases rr with
 |ok f=>exact hr
 |error e=>exact iA.back cx hr λcb h=>h.er
theorem vt(G:aA B d r)(W:tP B d r)(hI:∀t v i b ρ σ,r.cj t v i b ρ σ≠.bad->∃o,item? v i σ=some o){t:List Nat}{it:Ex}{b:bB}{ps:Stmt}(h:iz B.nm N (.cj t it b) ps=true):SS B d (DP t it b r) N ps:=by
 refine Cq h λtg iter x pos h=>?_
 ·intro A F φ σ s env ρ cx hb;have h1:=bL (bL (bL h));have h2:=bR (bL (bL h));have h3:=bR (bL h);have h4:=bR h;refine wpAny_For ?_ (nX h2);refine aK.then (K:=λout z s₁=>wpAny (model B.prog B.w) A (pyIter z) (λit cz=>codeAny (model B.prog B.w) A (.forLoop tg it x [] env) (yx B A F φ s N env out) cz) (gy B F [env.locals] φ s N env out) s₁)
   cx.nr (G.e it iter N h3 _ _ _ _ _ _ _ cx.tofb) hb λv aG bG s1 z _ le I rv hb=>?_
  obtain⟨o,hi⟩:=hI _ _ _ _ _ _ hb;have iJ:=cx.le (X:=[]) le I (cx.nr.mono le);refine nV I rv hi λob vi=>?_;have k:∀b o,s1.heap.get? b=some o->(s1.heap.push ob).get? b=some o:=λb o e=>Heap.get?_push_of_some _ e;have n:s1.heap.get? s1.heap.objs.size=none:=bz _;have Cu:dx B d N A (s1.heap.objs.size::F) bG aG {s1 with heap:=s1.heap.push ob} env ρ:=iJ.push (ob:=ob) (s₁:={s1 with heap:=s1.heap.push ob}) k n (let⟨o,_,e,_⟩:=vi.live;⟨o,e⟩)
  have gY:s1.heap.objs.size≠env.locals:=λq=>by
   obtain⟨o,e⟩:=(iJ.inv.fr _ iJ.nr.1).2;rw[←q,n] at e;cases e
  exact codeAny_mono (W t b tg x N A _ bG aG _ env ρ v z 0 s1.heap.objs.size h1 h4 Cu (.head _) gY (rv.fM k n) vi hb) λrr s' hr=>pU cx le (fU.leave (s₁:={s1 with heap:=s1.heap.push ob}) iJ k n rfl rfl hr)
end
structure Mk(B:Bg):Prop extends Fc B where
 rng:B.mg "range"=none/\B.mb "range"=some (.type "range")
noncomputable def n7(h:Heap)(it:Addr)(i n:Nat):Prop:=∃o,h.get? it=some o/\o.cls=.type "range_iterator"/\o.data=.fields #[rawInt (i:Int),rawInt ((n:Int)-i),rawInt 1]
theorem Cv(it:Addr)(x left step:Int)(dd:Option Addr)(sl:Array (Option Value))(TG:¬left<=0):
  Meets (Builtin.«range_iterator.__next__» ⟨[.ref it],[]⟩) (λ_ R s=>s.heap.get? it=some {cls:=.type "range_iterator",dict:=dd,data:=.fields #[rawInt x,rawInt left,rawInt step],slots:=sl}/\R (.ok (.ret (Value.int x s.toks))) {s with heap:=(s.heap.update it (Obj.mapFields λx_1=>x_1.setIfInBounds 0 (rawInt (x+step)))).update it (Obj.mapFields λx=>x.setIfInBounds 1 (rawInt (left-1))),toks:=s.toks+1}):=
 .of_wp λprog w A R s h=>by obtain⟨hp,g,d,tk,os⟩:=s;obtain⟨hl,h⟩:=h;wp_walk;exact⟨_,rfl,h⟩
section
variable{prog:Program}{w:World}{A:Around}{E:Value->Shared->Prop}{s:Shared}
theorem j6{it:Addr}{i n:Nat}{Q:Option Value->Shared->Prop}(hit:n7 s.heap it i n)(eh:i<n)
  (hQ:∀h',n7 h' it (i+1) n->Heap.SameBut it s.heap h'->Q (some (.int i s.toks)) {s with heap:=h',toks:=s.toks+1}):
  wpAny (model prog w) A (pyNext (.ref it)) Q E s:=by
 obtain⟨⟨c,dd,dt,sl⟩,ho,hc,hd⟩:=hit;simp only at hc hd;subst hc hd;have hT:s.TypeIs (.ref it) "range_iterator":=⟨_,ho,rfl⟩;unfold pyNext
 refine wpAny_bind (wpAny_attempt (wpAny_callSpecial?_slot (name:=Str.ofString "__next__") hT PySem.F.slot_range_iterator_next
  (call_meets PySem.F.slot_range_iterator_next hT PySem.F.entry_range_iterator_next (PySem.F.args_range_iterator_next_1 _) (Cv it i ((n:Int)-i) 1 dd sl (by walk_at "om")) ⟨ho,?_⟩)))
 refine wpAny_pure (hQ _ ⟨_,Heap.get?_update_self _ (Heap.get?_update_self _ ho rfl) rfl,rfl,?_⟩ ((Heap.SameBut.update ..).trans (Heap.SameBut.update ..)))
 refine(?_:Data.fields #[rawInt ((i:Int)+1),rawInt ((n:Int)-i-1),rawInt 1]=_)
 have:(n:Int)-((i+1:Nat):Int)=(n:Int)-i-1:=by push_cast;walk_at "om"
 rw[this];rfl
theorem kW{it:Addr}{i n:Nat}{Q:Option Value->Shared->Prop}(hh:A.handled=none)(hit:n7 s.heap it i n)(hle:n<=i)
  (hQ:∀h',Heap.ExtBut it s.heap h'->Q none {s with heap:=h'}):wpAny (model prog w) A (pyNext (.ref it)) Q E s:=by
 obtain⟨o,ho,hc,hd⟩:=hit;have hT:s.TypeIs (.ref it) "range_iterator":=⟨_,ho,hc⟩;unfold pyNext
 refine wpAny_bind (wpAny_attempt (wpAny_callSpecial?_slot (name:=Str.ofString "__next__") hT PySem.F.slot_range_iterator_next
  (wpAny_call_entry PySem.F.slot_range_iterator_next hT PySem.F.entry_range_iterator_next ?_ (PySem.F.args_range_iterator_next_1 _))))
 refine(?_:wpAny _ _ (field (.ref it) 0>>=_) _ _ s);refine wpAny_bind (wpAny_field ho hd (x:=rawInt (i:Int)) rfl ?_);refine(?_:wpAny _ _ (field (.ref it) 1>>=_) _ _ s);refine wpAny_bind (wpAny_field ho hd (x:=rawInt ((n:Int)-i)) rfl ?_);refine(?_:wpAny _ _ (field (.ref it) 2>>=_) _ _ s);refine wpAny_bind (wpAny_field ho hd (x:=rawInt 1) rfl ?_);refine(?_:wpAny _ _ (if((n:Int)-i)<=0 then _ else _) _ _ s);rw[if_pos (by walk_at "om")];refine wpAny_bind (wpAny_rule ?_);refine wpAny_bind ?_;refine(?_:wpAny _ _ (newExc (.type "StopIteration") []>>=_) _ _ _);refine wpAny_bind ?_;simp only[newExc,newTuple];refine wpAny_bind (wpAny_newObj_type ?_ (by size_fits));refine wpAny_bind (m:=firstArgMember _ _) (wpAny_of_eq (a:=Value.none) (by first|rfl|(simp only[firstArgMember];rfl)) ?_);refine wpAny_newObj_type ?_ (by size_fits);simp only[raiseNew];refine wpAny_bind (wpAny_handled ?_)
 first|rw[show A.in1.handled=none from hh]|rw[hh]
 refine wpAny_bind (wpAny_pure (wpAny_throw ?_));refine wpAny_bind (wpAny_isInstance (T:="StopIteration") (b:=true) ⟨_,Heap.get?_push_size _ rfl,rfl⟩ isSubtype_stop ?_);exact wpAny_pure (hQ _ (((Heap.ExtBut.refl it s.heap).push _).push _))
end
theorem n7.at{h h':Heap}{it:Addr}{i n:Nat}(r:n7 h it i n)(k:∀o,h.get? it=some o->∃sl,h'.get? it=some {o with slots:=sl}):n7 h' it i n:=by
 obtain⟨o,ho,hc,hd⟩:=r;obtain⟨sl,e⟩:=k o ho;exact⟨_,e,hc,hd⟩
section
variable{B:Bg}{d:Nat}{N:NC}{r:Ev}{A:Around}{F X:List Addr}{φ ak:aS}{σ:LH}{s s':Shared}{env:Env}{ρ:List LV}{E:Value->Shared->Prop}
noncomputable def tQ(B:Bg)(d:Nat)(r:Ev):Prop:=∀x b y tp body N A F φ σ s env ρ i n it,cm N x y=true->d9 N y=true->ej B.nm N b body=true->dx B d N A F φ σ s env ρ->it∈F->it≠env.locals->n7 s.heap it i n->r.forr x i n b ρ σ≠.bad->
 codeAny (model B.prog B.w) A (.forLoop (.Name y tp) (.ref it) body [] env) (fU B F φ s N env it (r.forr x i n b ρ σ)) s
theorem vu(GS:i0 B d r)(W:tQ B d r):∀x b y tp body N A F φ σ s env ρ i n it,cm N x y=true->d9 N y=true->ej B.nm N b body=true->dx B d N A F φ σ s env ρ->it∈F->it≠env.locals->n7 s.heap it i n->iN r x i n b ρ σ≠.bad->
  codeAny (model B.prog B.w) A (.forLoop (.Name y tp) (.ref it) body [] env) (fU B F φ s N env it (iN r x i n b ρ σ)) s:=by
 intro x b y tp body N A F φ σ s env ρ i n it h0 h1 h2 cx hm gY ir hb;refine i8 ?_;unfold iN at hb⊢
 cases eh:Nat.blt i n with
 |false=>
  have hle:n<=i:=Nat.le_of_not_lt λq=>by rw[show Nat.blt i n=true from Nat.ble_eq.mpr q] at eh;cases eh
  exact kW cx.xc.handled ir hle λh' fk=>⟨s,h',rfl,fk,rfl,φ,.refl,cx.inv,cx.nr⟩
 |true=>
  rw[eh,lV] at hb;rw[lV];refine j6 ir (cV eh) λEj B5 Qu=>?_;have xT:∃o,Ej.get? it=some o:=let⟨o,ho,_⟩:=B5;⟨o,ho⟩
  have hd:∀ob,s.heap.get? it=some ob->∃vs,ob.data=.fields vs:=λob q=>by
   obtain⟨o',ho,_,hd⟩:=ir;rw[q] at ho;injection ho with ho;subst ho;exact⟨_,hd⟩
  have cf:Le F [it] φ φ s {s with heap:=Ej,toks:=s.toks+1}:=Le.step hm (k:=s.toks+1) Qu xT hd;have iJ:=cx.le cf (cx.inv.step hm Qu xT) (cx.nr.Ef cf (by simp[Ne.symm gY]));refine wpAny_pure ?_;refine wpAny_bind (m:=standAt tp) (wpAny_standAt (fp h0 h1 iJ.nd iJ.ok iJ.inv iJ.nr (v:=.int (.ofNat i)) VR.i λs2 cR I2 Ec=>?_));have Cu:=iJ.le cR I2 Ec;have pS:Le F [it,env.locals] φ φ s s2:=(cf.wide (by simp)).trans (cR.wide (by simp));exact pT cx pS (GS.ss b body N h2 _ _ _ _ _ _ _ Cu) hb λyv fT kb s3 jO I3 F7 KA=>W x b y tp body N A F kb fT s3 env yv (i+1) n it h0 h1 h2 (Cu.le jO I3 F7) hm gY
   ((B5.at λo e=>cR.fr _ o e hm (by simpa using gY)).at λo e=>jO.fr _ o e hm (by simpa using gY)) KA
theorem rangeSize_nat(i:Int):Builtin.Range.rangeSize 0 i 1=(kl i:Int):=by
 rw[rangeSize_one]
 cases i with
 |ofNat n=>
  refine(?_:(if(0:Int)<(n:Int) then(n:Int)-0 else 0)=(n:Int))
  split<;>walk_at "om"
 |negSucc n=>
  refine(?_:(if(0:Int)<Int.negSucc n then Int.negSucc n-0 else 0)=((0:Nat):Int));rw[if_neg (by walk_at "om")];rfl
def F8(v:LV)(σ:LH):Out Int:=ct .bad (λi=>.ok i σ) v
theorem yy{x:Nat}{e:Ex}{b:bB}:pd x e b r ρ σ=oS (oB (r.e e ρ σ) F8) ρ λi σ=>cB (band (b6 i) (small (kl i))) (r.forr x 0 (kl i) b ρ σ) .bad:=by
 unfold pd
 cases r.e e ρ σ with
 |ok v σ=>cases v<;>rfl
 |_=>rfl
theorem vv(fr:Mk B)(G:aA B d r)(W:tQ B d r){x:Nat}{e:Ex}{b:bB}{ps:Stmt}(h:iz B.nm N (.forr x e b) ps=true):SS B d (pd x e b r) N ps:=by
 refine Cr h λy tp rn np ex Cw body pos h=>?_
 ·intro A F φ σ s env ρ cx hb;have h1:=bL (bL (bL (bL (bL h))));have h2:=bR (bL (bL (bL (bL h))));have h3:=bR (bL (bL (bL h)));have h4:=bR (bL (bL h));have h5:=bR (bL h);have h6:=bR h;have:=eq_of_beq h3;subst this;refine wpAny_For ?_ (λz=>rfl)
  have St:aa B A F [] φ s (oB (r.e e ρ σ) F8) (eval (.Call (.Name "range" np) [ex] [] Cw) env) (λi ak h x=>∃a t u v,x=.ref a/\IsRange h a 0 i 1 t u v):=by
   refine(?_:aa B A F [] φ s _ (eval (.Name "range" np) env>>=λf=>callWith Cw f [] (backTo Cw (starEach [ex] env)) []) _);refine aa.pre (a:=.type "range") (λQ E q=>px fr.toFx cx.tofb h4 fr.rng.1 fr.rng.2 q) ?_;rw[cK (cZ _ _ e ex h5),eJ];intro hb
   refine callWith_of (P:=λh=>B.h0.StaysIn h) rfl (cM rfl) (dU rfl (Calls.spliced_cons (aa.then (K:=λout z s1=>wpAny (model B.prog B.w) A (spliced []) (λzs s2=>B.h0.StaysIn s2.heap/\wpAny (model B.prog B.w) A (PySem.call (.type "range") (z::zs) []) (qZ B F [] φ s _ out) (qz B F [] φ s out) s2) (qz B F [] φ s out) s1)
    (G.e e ex N h5 _ _ _ _ _ _ _ cx.tofb) hb λv aG bG s1 z _ le I rv hb=>Calls.spliced_nil ⟨I.base,?_⟩)))
   cases v with
   |int i=>
    refine aM rv λt=>?_;refine call_range_1 ?_
    have k:∀b o,s1.heap.get? b=some o->(s1.heap.push {cls:=.type "range",data:=.fields #[.int 0 s1.toks,.int i t,.int 1 (s1.toks+1)]}).get? b=some o:=λb o e=>Heap.get?_push_of_some _ e
    exact⟨bG,le.trans (.of_keeps k rfl rfl),I.keeps k,_,_,_,_,rfl,IsRange.new ..⟩
   |_=>exact absurd rfl hb
  rw[show(pd x e b r ρ σ:av)=oS (oB (r.e e ρ σ) F8) ρ λi σ=>cB (band (b6 i) (small (kl i))) (r.forr x 0 (kl i) b ρ σ) .bad from yy] at hb⊢;refine aK.then (K:=λout z s₁=>wpAny (model B.prog B.w) A (pyIter z) (λit cz=>codeAny (model B.prog B.w) A (.forLoop (.Name y tp) it body [] env) (yx B A F φ s N env out) cz) (gy B F [env.locals] φ s N env out) s₁)
   cx.nr St hb λi aG bG s1 z _ le I rv hb=>?_
  obtain⟨a,t,u,w,rfl,hr⟩:=rv
  cases gK:band (b6 i) (small (kl i)) with
  |false=>rw[gK] at hb;exact absurd rfl hb
  |true=>
   rw[gK,lV] at hb;rw[lV];have iJ:=cx.le (X:=[]) le I (cx.nr.mono le);have hz:=eH (kG gK);refine wpAny_pyIter_range hr (small_one (by walk_at "om") (by walk_at "om") (by walk_at "om") (by walk_at "om")) ?_;rw[rangeSize_nat]
   have k:∀b o,s1.heap.get? b=some o->(s1.heap.push {cls:=.type "range_iterator",data:=.fields #[rawInt 0,rawInt (kl i:Int),rawInt 1]}).get? b=some o:=λb o e=>Heap.get?_push_of_some _ e
   have n:s1.heap.get? s1.heap.objs.size=none:=bz _
   have vi:n7 (s1.heap.push {cls:=.type "range_iterator",data:=.fields #[rawInt 0,rawInt (kl i:Int),rawInt 1]}) s1.heap.objs.size 0 (kl i):=⟨_,Heap.get?_push_size _ rfl,rfl,by simp⟩
   have Cu:=iJ.push (ob:={cls:=.type "range_iterator",data:=.fields #[]}) (s₁:={s1 with heap:=s1.heap.push {cls:=.type "range_iterator",data:=.fields #[rawInt 0,rawInt (kl i:Int),rawInt 1]}}) k n (let⟨o,e,_⟩:=vi;⟨o,e⟩)
   have gY:s1.heap.objs.size≠env.locals:=λq=>by
    obtain⟨o,e⟩:=(iJ.inv.fr _ iJ.nr.1).2;rw[←q,n] at e;cases e
   exact codeAny_mono (W x b y tp body N A _ bG aG _ env ρ 0 (kl i) s1.heap.objs.size h1 h2 h6 Cu (.head _) gY vi hb) λrr s' hr=>
    pU cx le (fU.leave (s₁:={s1 with heap:=s1.heap.push {cls:=.type "range_iterator",data:=.fields #[rawInt 0,rawInt (kl i:Int),rawInt 1]}}) iJ k n rfl rfl hr)
end
end Mine
end
section
open PySem PySem.W PyProof PyProof.Rows
namespace Mine
section
variable{φ:aS}{F:List Addr}{h:Heap}
mutual
theorem VR.below:∀(v:LV)(x:Value),VR φ F h v x->below φ.length v=true
 |.au,_,r=>by simp[VR] at r
 |.none,_,_=>rfl
 |.bool _,_,_=>rfl
 |.int _,_,_=>rfl
 |.str _,_,_=>rfl
 |.ag _,_,_=>rfl
 |.ref i,x,r=>by
  rw[VR] at r;obtain⟨p,hp,_⟩:=r;have hi:i<φ.length:=(List.getElem?_eq_some_iff.mp hp).1;refine(?_:Nat.blt i φ.length=true);exact Nat.ble_eq_true_of_le hi
 |.tup vs,x,r=>by
  rw[VR] at r;obtain⟨a,o,xs,n,e,ha,no,nf,hc,hd,rs⟩:=r;rw[mh];exact aB.below vs xs.toList rs
theorem aB.below:∀(vs:List LV)(xs:List Value),aB φ F h vs xs->belows φ.length vs=true
 |[],[],_=>rfl
 |[],_::_,r=>by simp[aB] at r
 |_::_,[],r=>by simp[aB] at r
 |v::vs,x::xs,r=>by
  rw[aB] at r;refine(?_:band (Mine.below φ.length v) (belows φ.length vs)=true);rw[VR.below v x r.1,aB.below vs xs r.2];rfl
end
end
section
variable{M:Model}{A:Around}{E:Value->Shared->Prop}{s:Shared}{env:Env}
theorem yz{elt target iter:Expr}{scope my:Scope}{pos:Pos}{u:Value->Sem Unit}{Q:Unit->Shared->Prop}
  (FU:∀x∈scope.names,x.2=.free->(env.cells.lookup x.1).isSome=true) (xV:scope.kind=.function) (rI:∀x∈scope.names,x.2=.local->my.names.lookup x.1=some .local)
  (Km:my={scope with names:=scope.names.map λ(n,k)=>if(k==.free&&env.scope.kind==.function&&env.kindOf n==some .cell) then(n,.cell) else(n,k)})
  (h:wpAny M A (eval iter env) (λx s₁=>wpAny M A (pyIter x) (λit cz=>wpAny M A (newList []) (λacc eT=>
   wpAny M A (newFunctionEnv scope env.globals (iq env.cells scope.names []) [] env.qual none .none (some env)) (λcenv s₄=>
    codeAny M A (.compStart (.ListComp elt [⟨target,iter,[],0⟩] scope pos) 0 it acc {cenv with scope:=my})
     (λr s'=>match r with
      |.ok _=>wpAny M A (u acc) (λ_ cb=>∃m,cb.heap.Ns cenv.locals m/\∀h',Heap.SameBut cenv.locals cb.heap h'->Q () {cb with heap:=h'}) E s'
      |.error x=>∃m,s'.heap.Ns cenv.locals m/\∀h',Heap.SameBut cenv.locals s'.heap h'->wpAny M A (passOn "comprehension.variables-let-go" x {cenv with scope:=my}:Sem Value) (λ_=>Q ()) E {s' with heap:=h'}) s₄) E eT) E cz) E s₁) E s)
  (hs:∀x,foldedSetIterable iter env x=pure x:=by intro _;rfl):
  wpAny M A (evalThenUse (.ListComp elt [⟨target,iter,[],0⟩] scope pos) env u) Q E s:=by
 refine(?_:wpAny M A (do let _←comprehension (.ListComp elt [⟨target,iter,[],0⟩] scope pos) scope env (firstIterPos [⟨target,iter,[],0⟩] pos) (newList []) (firstAsync [⟨target,iter,[],0⟩]) (firstIter [⟨target,iter,[],0⟩] env) (some u)) Q E s);refine wpAny_bind (wpAny_mono (Q:=λ_=>Q ()) (E:=E) ?_ (λ_ _ x=>wpAny_pure x) λ_ _ x=>x);unfold comprehension;rw[kP FU,show clausesOf (.ListComp elt [⟨target,iter,[],0⟩] scope pos)=[⟨target,iter,[],0⟩] from rfl]
 refine wpAny_bind (wpAny_mono h (λx s₁ nW=>wpAny_bind (wpAny_standAt (wpAny_bind (wpAny_of_eq (hs x) (wpAny_bind (wpAny_holding (wpAny_mono nW (λit cz j5=>
  wpAny_standIf (wpAny_bind (wpAny_mono j5 (λacc eT gw=>wpAny_bind (wpAny_pure (wpAny_bind (wpAny_mono gw (λcenv s₄ xW=>?_) λ_ _ h'=>h')))) λ_ _ h'=>h')))
   λ_ _ h'=>h'))))))) λ_ _ h'=>h')
 dsimp only;rw[←Km];have hv:∀x∈(scope.names.filter λx=>(x.2==.local||x.2==.cell)&&x.1 !=(".0":Str)).reverse,x.2=.local->
   Env.kindOf {cenv with scope:=my} x.1=some .local:=λx hx hl=>rI x (List.mem_filter.mp (List.mem_reverse.mp hx)).1 hl
 have NM:∀x∈(scope.names.filter λx=>(x.2==.local||x.2==.cell)&&x.1 !=(".0":Str)).reverse.drop 1++(scope.names.filter λx=>(x.2==.local||x.2==.cell)&&x.1 !=(".0":Str)).reverse.take 1,
   x.2=.local->Env.kindOf {cenv with scope:=my} x.1=some .local:=λx hx hl=>by
  rcases List.mem_append.mp hx with h1|h1
  ·exact hv x (List.mem_of_mem_drop h1) hl
  ·exact hv x (List.mem_of_mem_take h1) hl
 have Kn:my.kind=.function:=by rw[Km];exact xV
 refine wpAny_holding (wpAny_bind (wpAny_attempt (wpAny_holding (wpAny_run (codeAny_mono xW λr s' hr=>?_)))))
 cases r with
 |ok f=>
  refine wpAny_bind (wpAny_rule (wpAny_bind (wpAny_holding (wpAny_mono hr (λ_ cb NY=>?_) λ_ _ h'=>h'))));obtain⟨m,hn,NY⟩:=NY;exact wpAny_bind (wpAny_comp_letGo (cenv:={cenv with scope:=my}) Kn _ cb m NM hn λh' m' _ FV=>wpAny_pure (NY h' FV))
 |error x=>
  obtain⟨m,hn,hr⟩:=hr;exact wpAny_bind (wpAny_holding (wpAny_comp_letGo (cenv:={cenv with scope:=my}) Kn _ s' m hv hn λh' m' _ FV=>hr h' FV))
end
section
variable{B:Bg}{d:Nat}{N:NC}{r:Ev}{A:Around}{F X:List Addr}{φ ak:aS}{σ:LH}{s s':Shared}{env:Env}{ρ:List LV}{E:Value->Shared->Prop}
theorem Inv.perm{F':List Addr}{h:Heap}(I:Inv B φ F σ h)(e:∀b,b∈F↔b∈F'):Inv B φ F' σ h where
 len:=I.len
 ok i o p a b:=(I.ok i o p a b).bq rfl rfl (λb o q n nf=>⟨q,n,λz=>nf ((e b).mpr z)⟩) λ_ _ q=>q
 sep:=I.sep
 top:=I.top
 di p hp:=⟨λz=>(I.di p hp).1 ((e _).mpr z),λz=>(I.di p hp).2 ((e _).mpr z)⟩
 base:=I.base
 fr f hf:=I.fr f ((e f).mpr hf)
theorem NR.gen{F':List Addr}{h h':Heap}(x:NR φ F h env N ρ)(hm:env.locals∈F')(hk:∀o,h.get? env.locals=some o->∃sl,h'.get? env.locals=some {o with slots:=sl})
  (K:∀b o,h.get? b=some o->¬Own φ b->b∉F->h'.get? b=some o/\¬Own ak b/\b∉F') (Ei:∀(i:Nat)(p:Addr×Addr),φ[i]?=some p->ak[i]?=some p):NR ak F' h' env N ρ:=by
 obtain⟨hf,hl,m,A9,r⟩:=x;refine⟨hm,hl,m,gp A9 hk,λi n v e1 e2=>⟨λk=>?_,λk=>?_⟩⟩
 ·rcases(r i n v e1 e2).1 k with q|⟨x,a,b⟩
  ·exact .inl q
  ·exact .inr ⟨x,a,VR.bq K Ei v x b⟩
 ·obtain⟨x,ca,h1,⟨o,h2,qY⟩,h3,h4,h5⟩:=(r i n v e1 e2).2 k;obtain⟨k1,k2,k3⟩:=K _ _ h2 h3 h4;exact⟨x,ca,h1,⟨o,k1,qY⟩,k2,k3,VR.bq K Ei v x h5⟩
theorem Le.KC{L:Addr}{sA s2:Shared}{kQ:Heap}{t:Nat}(a:Le F [] φ ak s sA)(b:Le (L::F) X ak ak sA s2)(n:s.heap.get? L=none)(hF:∀f∈F,f≠L)(k:∀b,b≠L->kQ.get? b=s2.heap.get? b):Le F X φ ak s {s2 with heap:=kQ,toks:=t} where
 keep c o e no nf:=by
  have hc:c≠L:=λq=>by rw[q,n] at e;cases e
  exact(k c hc).trans (b.keep c o (a.keep c o e no nf) (a.ky e no) (by simp[hc,nf]))
 live c o e:=by
  have hc:c≠L:=λq=>by rw[q,n] at e;cases e
  obtain⟨o1,e1⟩:=a.live c o e;obtain⟨o2,e2⟩:=b.live c o1 e1;exact⟨o2,(k c hc).trans e2⟩
 fr c o e m nx:=by
  obtain⟨sl,e1⟩:=a.fr c o e m (by simp);obtain⟨xf,e2⟩:=b.fr c _ e1 (List.mem_cons_of_mem _ m) nx;exact⟨xf,(k c (hF c m)).trans e2⟩
 oP c o e m dd:=by
  obtain⟨o1,e1,d1⟩:=a.oP c o e m dd;obtain⟨o2,e2,d2⟩:=b.oP c o1 e1 (List.mem_cons_of_mem _ m) d1;exact⟨o2,(k c (hF c m)).trans e2,d2⟩
 ext:=a.ext
 gens:=b.gens.trans a.gens
 os:=b.os.trans a.os
noncomputable def KD(B:Bg)(d:Nat)(re:List LV->LH->Out LV)(N:NC)(v:Expr):Prop:=∀A F φ σ s env ρ x n tp,dx B d N A F φ σ s env ρ->cm N x n=true->d9 N n=true->
 aK B A F [env.locals] φ s N env (oS (re ρ σ) ρ λw σ=>.nx (aW ρ w x) σ) (do evalThenUse v env (assign (.Name n tp) env);pure .next)
theorem NR.take{ψ:aS}{kQ:Heap}{x:Nat}{n:Str}{r0:LV}{v2:LV}{a:Addr}(Sb:NR φ F s.heap env N ρ)(hx:N.names[x]?=some n)(hk:N.kind n=some .local)(NZ:NR (φ++ψ) F kQ env N (aW ρ r0 x))(h0:∀y,VR (φ++ψ) F kQ r0 y->y=.ref a)(hu:r0≠.au)(r6:VR φ F kQ v2 (.ref a)):
  NR φ F kQ env N (aW ρ v2 x):=by
 obtain⟨q1,q2,m4,Sd,q4⟩:=NZ;obtain⟨_,p2,m0,Qr,p4⟩:=Sb;rw[fE] at q2 q4
 have Qv:x<ρ.length:=by rw[p2];exact(List.getElem?_eq_some_iff.mp hx).1
 rw[fE];refine⟨q1,by simpa using p2,m4,Sd,λi y w g1 g2=>?_⟩;by_cases hi:x=i
 ·subst hi
  rw[hx] at g1;injection g1 with g1;subst g1
  rw[List.getElem?_set_self Qv] at g2;injection g2 with g2;subst g2
  refine⟨λ_=>?_,λq=>by rw[hk] at q;cases q⟩
  rcases(q4 x n r0 hx (List.getElem?_set_self Qv)).1 hk with⟨q,_⟩|⟨xx,a,b⟩
  ·exact absurd q hu
  ·cases h0 _ b;exact .inr ⟨_,a,r6⟩
 ·rw[List.getElem?_set_ne hi] at g2;have z4:=q4 i y w g1 (by rw[List.getElem?_set_ne hi];exact g2);have z0:=p4 i y w g1 g2;refine⟨λq=>?_,λq=>?_⟩
  ·rcases z4.1 q with z|⟨xx,a,b⟩
   ·exact .inl z
   ·rcases z0.1 q with⟨u,_⟩|⟨x0,_,b0⟩
    ·subst u;exact absurd b xe
    ·exact .inr ⟨xx,a,VR.cut w xx (b0.below) b⟩
  ·obtain⟨xx,ca,a1,a2,a3,a4,a5⟩:=z4.2 q;obtain⟨x0,_,_,_,_,_,b0⟩:=z0.2 q;exact⟨xx,ca,a1,a2,λq=>a3 (Own.append.mpr (.inl q)),a4,VR.cut w xx (b0.below) a5⟩
noncomputable def UR(B:Bg)(A:Around)(F:List Addr)(φ:aS)(s:Shared)(N:NC)(env:Env)(u:Value->Sem Unit)(sc:Scope)(out:av)(acc:Value)(cenv:Env)(rr:Result)(s':Shared):Prop:=match rr with
 |.ok _=>wpAny (model B.prog B.w) A (u acc) (λ_ cb=>∃m,cb.heap.Ns cenv.locals m/\∀h',Heap.SameBut cenv.locals cb.heap h'->oU B F [env.locals] φ s N env out .next {cb with heap:=h'}) (gy B F [env.locals] φ s N env out) s'
 |.error x=>∃m,s'.heap.Ns cenv.locals m/\∀h',Heap.SameBut cenv.locals s'.heap h'->wpAny (model B.prog B.w) A (passOn "comprehension.variables-let-go" x {cenv with scope:=sc}:Sem Value) (λ_=>oU B F [env.locals] φ s N env out .next) (gy B F [env.locals] φ s N env out) {s' with heap:=h'}
theorem yA(G:aA B d r)(P:dR){elt it:Ex}{pe:Expr}(h:aJ B.nm N (.comp elt it) pe=true):KD B d (λρ σ=>oB (md elt it P r ρ σ) λv ax=>freeze (len σ) v ax) N pe:=by
 refine nD h λe y yp iter sc pos h=>?_;intro A F φ σ s env ρ x n tp cx h6 h7 hb;have co:=iv.of (bL (bL (bL h)))
 have eo:(oS (oB (md elt it P r ρ σ) λv ax=>freeze (len σ) v ax) ρ λw σ=>.nx (aW ρ w x) σ)=oS (r.e it ρ σ) ρ λv aG=>oS (oB (r.comp elt v 0 (len aG) ρ (app aG [.list []])) λv ax=>freeze (len σ) v ax) ρ λw σ=>.nx (aW ρ w x) σ:=by
  unfold md
  cases r.e it ρ σ<;>rfl
 rw[show(oS ((λρ σ=>oB (md elt it P r ρ σ) λv ax=>freeze (len σ) v ax) ρ σ) ρ λw σ=>.nx (aW ρ w x) σ)=_ from eo] at hb⊢;refine wpAny_bind (wpAny_mono (Q:=λ_ s'=>oU B F [env.locals] φ s N env (oS (r.e it ρ σ) ρ _) .next s') (E:=gy B F [env.locals] φ s N env (oS (r.e it ρ σ) ρ _)) ?_ (λ_ _ q=>wpAny_pure q) λ_ _ q=>q);refine yz (my:=cE N sc) (λy hy e=>?_) co.kind (λy hy e=>?_) (by unfold cE;rw[←cx.ok.sc];rfl) ?_ (nX (bR (bL (bL h))))
 ·obtain⟨_,_,_,ca,_,_,q,_⟩:=cx.nr.cell (co.B7 y hy e).2 (co.B7 y hy e).1;rw[q];rfl
 ·exact(dE N y.1 sc.names).trans (by rw[co.Kt y hy e];rfl)
 ·refine aK.then (K:=λout z s₁=>wpAny (model B.prog B.w) A (pyIter z) (λit cz=>wpAny (model B.prog B.w) A (newList []) (λacc eT=>
   wpAny (model B.prog B.w) A (newFunctionEnv sc env.globals (iq env.cells sc.names []) [] env.qual none .none (some env)) (λcenv s₄=>
    codeAny (model B.prog B.w) A (.compStart (.ListComp e [⟨.Name y yp,iter,[],0⟩] sc pos) 0 it acc {cenv with scope:=cE N sc}) (UR B A F φ s N env (assign (.Name n tp) env) (cE N sc) out acc cenv) s₄) (gy B F [env.locals] φ s N env out) eT) (gy B F [env.locals] φ s N env out) cz) (gy B F [env.locals] φ s N env out) s₁)
   cx.nr (G.e it iter N (bR (bL h)) _ _ _ _ _ _ _ cx.tofb) hb λv aG bG s1 z _ cf I1 rv hb=>?_
  have Qw:r.comp elt v 0 (len aG) ρ (app aG [.list []])≠.bad:=λq=>hb (by rw[q];rfl);obtain⟨o,hi⟩:=G.nR _ _ _ _ _ _ Qw;rw[bb] at hi;have iJ:=cx.tofb.le cf I1;refine mz G co (bR h) iJ rv (jQ I1 rv hi) Qw λL kc acc cenv ax ak s₁ h' hL nL nI gY e1 mk I2 fk hm kx=>?_;subst hL;have k1:∀b o,b∉[cenv.locals,kc]->s₁.heap.get? b=some o->h'.get? b=some o:=λb o nb e=>fk b o (λq=>nb (by simp[q])) e;have KG:Le F [] bG ak s1 {s₁ with heap:=h',toks:=s₁.toks}:=mk h' s₁.toks k1
  have Ml:∀f∈F,f≠cenv.locals:=λf hf q=>by obtain⟨o,e⟩:=(I1.fr f hf).2;rw[q,nL] at e;cases e
  have IL:Inv B ak (cenv.locals::F) ax h':=Inv.iZ (G:=[kc]) (I2.perm (F':=[kc]++(cenv.locals::F)) λb=>by simp only[List.mem_cons,List.cons_append,List.nil_append];exact or_left_comm)
   (λb o nb e=>fk b o (by simpa using nb) e) λf hf q=>by
    simp only[List.mem_singleton] at q
    rcases List.mem_cons.mp hf with z|z
    ·exact gY (z.symm.trans q)
    ·obtain⟨o,e⟩:=(I1.fr f z).2;rw[q,nI] at e;cases e
  have KH:=iJ.nr.1
  have Se:NR ak (cenv.locals::F) h' env N ρ:=iJ.nr.gen (List.mem_cons_of_mem _ KH) (λo e=>KG.fr _ o e KH (by simp)) (λb o e n nf=>⟨KG.keep b o e n nf,KG.ky e n,by
   simp only[List.mem_cons,not_or]
   exact⟨λq=>(by rw[q,nL] at e;cases e),nf⟩⟩) λi p e=>KG.idx e
  refine(?_:wpAny _ _ (do standAt tp;bindName env n (.ref acc)) _ _ {s₁ with heap:=h'});refine wpAny_bind (wpAny_standAt (fp (s:={s₁ with heap:=h'}) h6 h7 cx.nd cx.ok IL Se (dk.mpr ⟨_,kx,rfl⟩:VR ak (cenv.locals::F) h' (.ref (len aG)) (.ref acc)) λs2 cR I3 F7=>?_));obtain⟨m,hm⟩:=hm;refine⟨m,cR.ns hm (.head _) (by simp only[List.mem_singleton];exact λq=>Ml _ KH q.symm),λkQ Ca=>?_⟩;have kg:∀b o,b∉[cenv.locals]->s2.heap.get? b=some o->kQ.get? b=some o:=λb o nb e=>(Ca.2 b (by simpa using nb)).trans e;have Eh:∀f∈F,f∉[cenv.locals]:=λf hf q=>Ml f hf (by simpa using q);have I4:Inv B ak F ax kQ:=Inv.iZ (G:=[cenv.locals]) I3 kg Eh;have NZ:NR ak F kQ env N (aW ρ (.ref (len aG)) x):=NR.l7 (G:=[cenv.locals]) F7 KH (λq=>Ml _ KH (by simpa using q)) kg;have F9:Le F [env.locals] φ ak s {s2 with heap:=kQ,toks:=s2.toks}:=(cf.wide (by simp)).trans (Le.KC (sA:={s₁ with heap:=h',toks:=s₁.toks}) KG cR nL Ml λb hb=>Ca.2 b hb);rw[e1,A6] at hb⊢;obtain⟨ψ,Sf,wU⟩:=F9.ext;subst Sf
  have hl:len σ=φ.length:=by rw[len_eq,←cx.inv.len]
  rw[hl] at hb⊢
  cases hf:freeze φ.length (.ref (len aG)) ax with
  |bad=>rw[hf] at hb;exact absurd rfl hb
  |err c bU=>exact absurd hf gf
  |ok v2 bU=>
   obtain⟨I6,r6⟩:=jK I4 hf (dk.mpr ⟨_,kx,rfl⟩:VR (φ++ψ) F kQ (.ref (len aG)) (.ref acc));refine⟨rfl,φ,⟨F9.keep,F9.live,F9.fr,F9.oP,⟨[],(List.append_nil _).symm,nofun⟩,F9.gens,F9.os⟩,I6,cx.nr.take (ed h6) (gi h7) NZ (λy b=>?_) nofun r6⟩
   exact iS b λp hp=>by rw[kx] at hp;cases hp;rfl
end
end Mine
end
section
open PySem PySem.W PyProof PyProof.Rows
namespace Mine
noncomputable def mC(B:Bg)(h:Heap)(c:Nat)(v:Value)(h':Heap):Prop:=
 ∃ea oe vs a0,v=.ref ea/\(∀b o,h.get? b=some o->h'.get? b=some o)/\h.get? ea=none/\h'.get? ea=some oe/\oe.cls=.ref (B.cls c)/\oe.data=.fields vs/\vs[0]?=some a0/\vs[1]?=some .none
structure Fe(B:Bg):Prop extends Mk B where
 sub:∀c c',gx c'=true->mroIn B.K (B.cls c) (.ref (B.cls c'))=some (Nat.beq c' c)
 exc:∀c',gx c'=true->mroIn B.K (B.cls c') (.type "BaseException")=some true
 ty:∀c',gx c'=true->Looks (model B.prog B.w) B.h0 (isExcClass (.ref (B.cls c'))) true
 tup:∀c',gx c'=true->Looks (model B.prog B.w) B.h0 (isInstance (.ref (B.cls c')) (.type "tuple")) false
 nty:∀c',gx c'=true->typeIn B.K (.ref (B.cls c'))=some (.type "type")
 made:∀c,gx c=true->∀d A F(s:Shared) x,XK A F s.heap d->B.h0.StaysIn s.heap->wpAny (model B.prog B.w) A (PySem.call (.ref (B.cls c)) [x]) (λv s'=>mC B s.heap c v s'.heap/\s'.gens=s.gens/\s'.os=s.os) (λ_ _=>False) s
section
variable{B:Bg}{d:Nat}{N:NC}{r:Ev}{A:Around}{F X:List Addr}{φ ak:aS}{σ:LH}{s s':Shared}{env:Env}{ρ:List LV}{E:Value->Shared->Prop}
theorem Cx(fe:Fe B){ea:Addr}{oe:Obj}{c c':Nat}(h1:s.heap.get? ea=some oe)(h2:oe.cls=.ref (B.cls c))(base:B.h0.StaysIn s.heap)(hc:gx c'=true){Q:Bool->Shared->Prop}(q:Q (Nat.beq c' c) s):
  wpAny (model B.prog B.w) A (excMatches (.ref ea) (.ref (B.cls c'))) Q E s:=by
 have hK:=fe.hK.keeps base;have L1:=(fe.tup c' hc).keeps base;have L2:=(fe.ty c' hc).keeps base;have L3:=looks_mroIn (M:=model B.prog B.w) hK (fe.sub c c' hc);unfold excMatches;refine wpAny_bind (L1 _ _ _ _ (λ_ _ e=>e) ?_);refine wpAny_bind (wpAny_pure ?_);dsimp only;rw[List.forIn_cons];refine wpAny_bind (wpAny_bind (wpAny_bind (L2 _ _ _ _ (λ_ _ e=>e) ?_)));refine wpAny_pure (wpAny_pure ?_);refine wpAny_bind (m:=typeOf (.ref ea)) (wpAny_bind (wpAny_loadPart h1 (wpAny_pure ?_)));rw[h2,List.forIn_cons];refine wpAny_bind (wpAny_bind (wpAny_bind (L3 _ _ _ _ (λ_ _ e=>e) ?_)))
 cases hb:Nat.beq c' c with
 |true=>rw[hb] at q;exact wpAny_pure (wpAny_pure (wpAny_pure q))
 |false=>rw[hb] at q;exact wpAny_pure (wpAny_pure (wpAny_pure q))
theorem yB(fe:Fe B){c:Nat}{v:Value}{x:Sem Value}(hc:gx c=true)(hh:A.handled=none){Q:Flow->Shared->Prop}
  (h:wpAny (model B.prog B.w) A x (λv s1=>∃h0:Heap,B.h0.StaysIn s1.heap/\mC B h0 c v s1.heap/\E v s1) E s):wpAny (model B.prog B.w) A (raiseStmt env (some x) none) Q E s:=by
 unfold raiseStmt;refine wpAny_bind (wpAny_mono h (λv s1 h1=>?_) λ_ _ q=>q);obtain⟨h0,base,⟨ea,oe,vs,a0,rfl,kp,ne,he,H8,hd,TJ,Ej⟩,hE⟩:=h1;have hK:=fe.hK.keeps base
 have nt:∀(Q:Bool->Shared->Prop) E,Q false s1->wpAny (model B.prog B.w) A (PySem.isType (.ref ea)) Q E s1:=λQ E q=>by
  unfold PySem.isType loadHead;refine wpAny_bind (wpAny_loadPart he ?_);rw[hd];exact wpAny_pure q
 refine wpAny_bind (wpAny_pure ?_);refine wpAny_bind (wpAny_holding ?_);unfold excFromValue;refine wpAny_bind (wpAny_bind (nt _ _ (wpAny_pure ?_)));refine wpAny_bind (m:=isInstance (.ref ea) (.type "BaseException")) (wpAny_bind (wpAny_bind (wpAny_loadPart he (wpAny_pure ?_))));rw[H8];refine looks_mroIn (M:=model B.prog B.w) hK (fe.exc c hc) _ _ _ _ (λ_ _ e=>e) ?_;refine wpAny_pure ?_;refine wpAny_bind (m:=PySem.isType (.ref ea)) (nt _ _ ?_);refine(?_:wpAny _ _ (raisedInstance (.ref ea)>>=λe=>setFlight e none>>=λ_=>raiseNew e) _ _ _);refine wpAny_bind ?_;unfold raisedInstance;refine wpAny_bind (m:=typeOf (.ref ea)) (wpAny_bind (wpAny_loadPart he (wpAny_pure ?_)));rw[H8];refine wpAny_bind (looks_typeIn (M:=model B.prog B.w) hK (fe.nty c hc) _ _ _ _ (λ_ _ e=>e) ?_);refine wpAny_pure ?_;unfold setFlight;refine wpAny_bind (wpAny_bind (wpAny_field he hd Ej ?_));refine wpAny_pure ?_;exact wpAny_raiseNew_none hh hE
end
section
variable{B:Bg}{d:Nat}{N:NC}{r:Ev}{A:Around}{F X:List Addr}{φ ak:aS}{σ:LH}{s s':Shared}{env:Env}{ρ:List LV}{E:Value->Shared->Prop}
theorem mg_of(fe:Fe B){c:Nat}(h:(B.nm.cD c=="")=false):B.mg (B.nm.cD c)=some (.ref (B.cls c))/\keepIn B.K (.ref (B.cls c))=true:=(fe.cn c).elim (λq=>by rw[q] at h;cases h) id
theorem mC.kp{h h':Heap}{c:Nat}{v:Value}(x:mC B h c v h'):∀b o,h.get? b=some o->h'.get? b=some o:=by
 obtain⟨_,_,_,_,_,kp,_⟩:=x;exact kp
theorem Cy{c:Nat}{v:Value}{s1 s2:Shared}{bG:aS}{aG:LH}(nr:NR φ F s.heap env N ρ)(le:Le F [] φ bG s s1)(I:Inv B bG F aG s1.heap)(ne:mC B s1.heap c v s2.heap)(hg:s2.gens=s1.gens)(ho:s2.os=s1.os):
  yk B F [env.locals] φ s N env c ρ aG v s2:=by
 obtain⟨ea,oe,ws,a0,e,kp,nn,he,H8,hd,q0,q1⟩:=ne;have cR:Le F [] φ bG s s2:=le.trans (.of_keeps kp hg ho);exact⟨bG,cR.wide (λ_ h=>nomatch h),I.keeps kp,nr.mono cR,ea,oe,ws,a0,e,aQ le.live nn,he,H8,hd,q0,.inl q1⟩
theorem rN(fe:Fe B)(G:aA B d r){c:Nat}{as:dH}{ps:Stmt}(h:iz B.nm N (.raise c as) ps=true):SS B d (wM c as r) N ps:=by
 refine yi h λn p a Cw pos h=>?_
 ·intro A F φ σ s env ρ cx;have h1:=bL (bL (bL (bL h)));have h2:=bR (bL (bL (bL h)));have h3:=bF (bR (bL (bL h)));have h4:=bR (bL h);have h5:=bR h;have:=eq_of_beq h1;subst this;obtain⟨hv,hk⟩:=mg_of fe h3;rw[arm_exec_Raise];refine aK.at ?_;intro hb;refine yB (v:=.none) fe h4 cx.xc.handled (wpAny_bind (wpAny_bind (m:=eval (.Name (B.nm.cD c) p) env) (gH fe.toFx cx.tofb h2 hv ?_)))
  cases as with
  |nil=>exact absurd h5 Bool.false_ne_true
  |cons e1 q1=>
   cases q1 with
   |cons _ _=>exact absurd (bR (b:=cU B.nm N _ []) h5) Bool.false_ne_true
   |nil=>
    have h5:=bL (b:=cU B.nm N .nil []) h5;rw[cK (cZ _ _ e1 a h5),eJ]
    refine callWith_of (P:=λh=>B.h0.StaysIn h) rfl (c8 fe.hK hk) (dU rfl (Calls.spliced_cons (aK.then (f:=λ_ σ=>.err c ρ σ) (K:=λout x s1=>wpAny (model B.prog B.w) A (spliced []) (λzs s2=>B.h0.StaysIn s2.heap/\wpAny (model B.prog B.w) A (PySem.call (.ref (B.cls c)) (x::zs) [])
     (λv s'=>wpAny (model B.prog B.w) A (do standAt pos;pure v) (λv s1=>∃h0:Heap,B.h0.StaysIn s1.heap/\mC B h0 c v s1.heap/\gy B F [env.locals] φ s N env out v s1) (gy B F [env.locals] φ s N env out) s') (gy B F [env.locals] φ s N env out) s2) (gy B F [env.locals] φ s N env out) s1)
     cx.nr (G.Md e1 a N h5 _ _ _ _ _ _ _ cx.tofb) hb λvs aG bG s1 x _ le I _ _=>Calls.spliced_nil ⟨I.base,?_⟩)))
    refine wpAny_mono (fe.made c h4 _ A F s1 x (cx.xc.le le).k I.base) (λv s2 ⟨ne,hg,ho⟩=>wpAny_bind (wpAny_standAt (wpAny_pure ?_))) λ_ _ q=>q.elim;exact⟨s1.heap,(I.keeps ne.kp).base,ne,Cy cx.nr le I ne hg ho⟩
theorem Ga{i:Nat}{n:Str}{pos:Pos}{v:LV}(ok:cJ N env)(nr:NR φ F s.heap env N ρ)(h:(cm N i n&&isVar N n&&n !="__debug__")=true)(hv:ρ[i]?=some v)(hu:v≠.au){prog:Program}{w:World}{Q:Value->Shared->Prop}
  (q:∀x,VR φ F s.heap v x->Q x s):wpAny (model prog w) A (eval (.Name n pos) env) Q E s:=by
 have hn:=ed (bL (bL h));have hd:=DY (bR h)
 rcases kD (bR (bL h)) with k|k
 ·exact nr.2.2.rec λm z=>((z.2 i n v hn hv).1 k).elim (λq=>absurd q.1 hu) λ⟨y,a,b⟩=>wpAny_Name (wpAny_loadName_local ok.fn ((ok.of n).trans k) z.1 a (q y b)) hd
 ·exact nr.2.2.rec λm z=>((z.2 i n v hn hv).2 k).rec λy w=>w.rec λca u=>wpAny_Name (wpAny_loadName_cell ok.fn ((ok.of n).trans k) u.1 u.2.1 (q y u.2.2.2.2)) hd
set_option tactic.hygienic true in
@[elab_as_elim] theorem yC{P:Ex->Prop}{ρ:List LV}{σ:LH}(ex:Ex)(hb:handle ex ρ σ≠.bad)(s:∀b,P (.str b))(t:∀b,P (.bool b))(c:∀i k,P (.cmp (.var i) .gt (.int k))):P ex:=by
 cases ex with
 |str b=>exact s b
 |bool b=>exact t b
 |cmp a o b=>
  cases a with
  |var i=>
   cases o with
   |gt=>
    cases b with
    |int k=>exact c i k
    |_=>exact absurd rfl hb
   |_=>exact absurd rfl hb
  |_=>exact absurd rfl hb
 |_=>exact absurd rfl hb
theorem vw{ex:Ex}{v:Expr}{T:Nm}(hu:A.units+1<cLine)(ok:cJ N env)(I:Inv B φ F σ s.heap)(nr:NR φ F s.heap env N ρ)(h:aJ T N ex v=true)(hb:handle ex ρ σ≠.bad){Q:Value->Shared->Prop}
  (q:∀w x s',handle ex ρ σ=.ret w σ->Le F [] φ φ s s'->Inv B φ F σ s'.heap->VR φ F s'.heap w x->Q x s'):wpAny (model B.prog B.w) A (eval v env) Q E s:=by
 have cst:∀w x k,handle ex ρ σ=.ret w σ->VR φ F s.heap w x->Q x {s with toks:=k}:=λw x k e r=>q w x _ e (.of_keeps (λ_ _ e=>e) rfl rfl) (I.keeps λ_ _ e=>e) r;clear q;have rO:=hb
 revert h cst hb
 refine yC ex rO (λb0 h hb cst=>?_) (λb0 h hb cst=>?_) λi k h hb cst=>?_
 ·exact qU (Q:=λv=>wpAny (model B.prog B.w) A (eval v env) Q E s) h λt _ _ h=>by
   have:=eq_of_beq h;subst this;exact wpAny_mkText (cst _ _ _ rfl VR.st)
 ·exact nC (Q:=λv=>wpAny (model B.prog B.w) A (eval v env) Q E s) h λt _ _ h=>by
   have:=eq_of_beq h;subst this;exact wpAny_pure (cst _ _ _ rfl VR.b)
 ·refine qW (Q:=λv=>wpAny (model B.prog B.w) A (eval v env) Q E s) h λl op rr pos h=>?_;refine qX (Q:=λl=>wpAny (model B.prog B.w) A (eval (.Compare l [op] [rr] pos) env) Q E s) (bR (bL (bL h))) λn np h2=>?_;have h4:=bF (bR h);rw[eval_Compare1,markedBehindIn_of_false h4];refine qT (Q:=λrr=>wpAny (model B.prog B.w) A (do let a←eval (.Name n np) env;let b←holding [a] (eval rr env);standAt pos;operate [a,b] (compareOp op a b)) Q E s) (bR (bL h)) λj kk jp h3=>?_;have:=of_decide_eq_true h3;subst this;obtain⟨w,hw,hb⟩:=nq hb;rw[aT] at hw
  cases w with
  |int x=>
   refine wpAny_bind (Ga ok nr h2 hw nofun λxv rx=>?_);refine wpAny_bind (wpAny_holding (wpAny_mkInt ?_));refine wpAny_bind (wpAny_standAt (wpAny_operate' ?_));have I':Inv B φ F σ ({s with toks:=s.toks+1}:Shared).heap:=I;refine ij (s:={s with toks:=s.toks+1}) (a:=.int x) (b:=.int k) (o:=.gt) (c:=kj k x) (bL (bL (bL h))) hu I' rx VR.i rfl ?_;exact cst _ _ _ (by show jJ (bf ρ i) _=_;rw[aT,hw];rfl) VR.b
  |_=>exact absurd rfl hb
theorem mD(fe:Fe B){c:Nat}{e:Value}{aU:List LV}{ax:LH}(cx:dx B d N A F φ σ s env ρ):∀hs xs s2,F0 B.nm N hs xs=true->Mj B F X φ s N env c aU ax e s2->cO (iM c hs) (λex=>handle ex aU ax) (.err c aU ax)≠.bad->
  wpAny (model B.prog B.w) A (handleBy e env xs) (oU B F X φ s N env (cO (iM c hs) (λex=>handle ex aU ax) (.err c aU ax))) (gy B F X φ s N env (cO (iM c hs) (λex=>handle ex aU ax) (.err c aU ax))) s2
 |[],[],s2,_,x,hb=>by
  obtain⟨bG,le,I,nr,ex⟩:=x;exact wpAny_handleBy_nil (qP (λf hf=>(cx.inv.fr f hf).2) ex λs3 nt x'=>⟨bG,le.e8 nt,I.e8 nt cx.inv.base,nr.nt nt,x'.at⟩)
 |[],_::_,_,h,_,_=>absurd h Bool.false_ne_true
 |_::_,[],_,h,_,_=>absurd h Bool.false_ne_true
 |p::hs,hx::xs,s2,h,x,hb=>by
  have Sg:iM c (p::hs)=cB (Nat.beq p.1 c) (some p.2) (iM c hs):=rfl;rw[Sg] at hb⊢;refine Kw (Q:=λhx=>wpAny (model B.prog B.w) A (handleBy e env (hx::xs)) _ _ s2) h λn np v rp hp h h6=>?_;have:=eq_of_beq (bL (bL (bL (bL h))));subst this
  have hv:B.mg (B.nm.cD p.1)=some (.ref (B.cls p.1)):=by
   rcases fe.cn p.1 with q|q
   ·have:=bF (bR (bL (bL (bL h))));rw[q] at this;cases this
   ·exact q.1
  obtain⟨bG,le,I,nr,ex⟩:=id x;obtain⟨ea,oe,ws,a0,rfl,_,he,H8,_⟩:=id ex;refine wpAny_handleBy_cons (codeAny_handlers_test (nT fe.toFx cx.ok I.base (bR (bL (bL h))) hv (Cx fe he H8 I.base (bR (bL h)) ?_))) nofun
  cases hm:Nat.beq p.1 c with
  |false=>
   rw[hm] at hb;exact mD fe cx hs xs s2 h6 x hb
  |true=>
   rw[hm,lV,lW] at hb;rw[lV,lW];refine codeAny_handlers_suite (d8 (λf hf=>(cx.inv.fr f hf).2) ex.at λs3 nt x3 _=>?_);refine wpAny_execs_cons ?_;rw[arm_exec_Return]
   have hu:(A.mark (some (.ref ea))).units+1<cLine:=by have:=cx.xc.units;show A.units+1<cLine;exact Jl [A.units,B.x,d,cLine] 1 (.c 1 (.p (.p (.a J0 (.m 40 (.a J1 J2))) 20) 1) J3 .z) (.p (.p J0 1) 1) J3 Jt this
   refine wpAny_bind (wpAny_standAt (wpAny_bind (m:=eval v env) (vw hu cx.ok (I.e8 nt cx.inv.base) (nr.nt nt) (bR h) hb λw y s4 e4 Mg I4 r4=>wpAny_pure ?_)));rw[e4];exact⟨y,rfl,bG,(le.e8 nt).trans (Mg.wide λ_ h=>nomatch h),I4,r4⟩
def Gb(out:av)(hs:List (Nat×Ex)):av:=@av.rec (λ_=>av) .nx .ret .brk .cont (λc ρ σ=>cO (iM c hs) (λe=>handle e ρ σ) (.err c ρ σ)) .bad out
theorem Gd{out:av}{hs:List (Nat×Ex)}{t:Sem Flow}{M:av->Value->Shared->Prop}(x:aK B A F X φ s N env out t)(hb:Gb out hs≠.bad)
  (he:∀c fq aG e s1,yk B F X φ s N env c fq aG e s1->cO (iM c hs) (λex=>handle ex fq aG) (.err c fq aG)≠.bad->M (cO (iM c hs) (λex=>handle ex fq aG) (.err c fq aG)) e s1):
  wpAny (model B.prog B.w) A t (oU B F X φ s N env (Gb out hs)) (M (Gb out hs)) s:=by
 cases out with
 |bad=>exact absurd rfl hb
 |err c fq aG=>exact wpAny_mono (x nofun) (λ_ _ q=>q.elim) λe s1 q=>he c fq aG e s1 q hb
 |_=>exact wpAny_mono (x nofun) (λ_ _ q=>q) λ_ _ q=>q.elim
theorem vx(fe:Fe B)(GS:i0 B d r){b:bB}{hs:List (Nat×Ex)}{ps:Stmt}(h:iz B.nm N (.mX b hs) ps=true):SS B d (sM b hs r) N ps:=by
 refine Cs h λx hx pos h=>?_
 ·intro A F φ σ s env ρ cx hb;have h1:=bL (bL h);have h2:=bR (bL h);have h3:=bR h
  cases hx with
  |nil=>cases h3
  |cons h0 xs=>
   refine wpAny_Try_except (wpAny_mono (Gd (M:=λout e s₁=>wpAny (model B.prog B.w) A (noteFrame e env) (λ_ cz=>wpAny (model B.prog B.w) A (setFlight e none) (λ_ eT=>wpAny (model B.prog B.w) A (handleBy e env (h0::xs)) (oU B F [env.locals] φ s N env out) (gy B F [env.locals] φ s N env out) eT) (gy B F [env.locals] φ s N env out) cz) (gy B F [env.locals] φ s N env out) s₁)
    (GS.ss b x N h1 _ _ _ _ _ _ _ cx) hb λc fq aG e s1 q hb=>?_) (λfl s1 q=>?_) λ_ _ q=>q)
   ·refine yk.note cx q λs2 q2=>?_;obtain⟨ak,le,I,nr,ex⟩:=q2;exact d8 (λf hf=>(cx.inv.fr f hf).2) ex.at λs3 nt x3 k3=>mD fe cx hs (h0::xs) s3 h2 ⟨ak,le.e8 nt,I.e8 nt cx.inv.base,nr.nt nt,k3 ex⟩ hb
   ·cases fl with
    |next=>exact wpAny_execs_nil q
    |_=>exact q
end
structure Good(B:Bg)(d:Nat)(r:Ev):Prop where
 ev:aA B d r
 st:i0 B d r
 eE:Ct B d r
 cj:tP B d r
 forr:tQ B d r
 fi:∀t v i b ρ σ,r.cj t v i b ρ σ≠.bad->∃o,item? v i σ=some o
 us:∀elt it pe N,aJ B.nm N (.ag (.comp elt it)) pe=true->KD B d (r.e (.ag (.comp elt it))) N pe
theorem l8{T:Nm}{N:NC}{e:Ex}{pe:Expr}(h:aJ T N e pe=true)(hp:match e with|.not _=>False|.and _ _=>False|.or _ _=>False|.cmp _ _ _=>False|.hY _ _ _ _ _=>False|.ite _ _ _=>False|.ag _=>False|.stuck=>False|_=>True):aL pe=false:=by
 cases e<;>first|exact hp.elim|skip
 case bi=>exact D4 (Q:=λpe=>aL pe=false) h λ_ _ _ _ _=>rfl
 case slice=>exact pv (Q:=λpe=>aL pe=false) h λ_ _ _ _ _ _=>rfl
 case none=>exact sY (Q:=λpe=>aL pe=false) h λ_ _=>rfl
 case bool=>exact nC (Q:=λpe=>aL pe=false) h λ_ _ _ _=>rfl
 case int=>exact qT (Q:=λpe=>aL pe=false) h λ_ _ _ _=>rfl
 case str=>exact qU (Q:=λpe=>aL pe=false) h λ_ _ _ _=>rfl
 case var=>exact qX (Q:=λpe=>aL pe=false) h λ_ _ _=>rfl
 case a7=>exact ta (Q:=λpe=>aL pe=false) h λ_ _ _=>rfl
 case bin=>exact w7 (Q:=λpe=>aL pe=false) h λ_ _ _ _ _=>rfl
 case neg=>exact w2 (Q:=λpe=>aL pe=false) h λ_ _ _=>rfl
 case call=>exact s6 (Q:=λpe=>aL pe=false) h λ_ _ _ _ _=>rfl
 case meth=>exact s7 (Q:=λpe=>aL pe=false) h λ_ _ _ _ _ _=>rfl
 case new=>exact w5 (Q:=λpe=>aL pe=false) h λ_ _ _ _ _=>rfl
 case ki=>exact s8 (Q:=λpe=>aL pe=false) h λ_ _ _ _ _ _ _=>rfl
 case bm=>exact D5 (Q:=λpe=>aL pe=false) h λ_ _ _ _ _ _=>rfl
 case attr=>exact tc (Q:=λpe=>aL pe=false) h λ_ _ _ _=>rfl
 case sub=>exact w9 (Q:=λpe=>aL pe=false) h λ_ _ _ _=>rfl
 case rev=>exact w6 (Q:=λpe=>aL pe=false) h λ_ _ _ _ _ _ _=>rfl
 case oW=>exact s9 (Q:=λpe=>aL pe=false) h λ_ _ _ _ _=>rfl
 case list=>exact td (Q:=λpe=>aL pe=false) h λ_ _ _=>rfl
 case tup=>exact xa (Q:=λpe=>aL pe=false) h λ_ _ _ _=>rfl
 case comp=>exact nD (Q:=λpe=>aL pe=false) h λ_ _ _ _ _ _ _=>rfl
section
variable{B:Bg}{d:Nat}{C:Nat->List LV->LH->Out LV}{r:Ev}
set_option tactic.hygienic true in
theorem yD:Good B d P1 where
 ev:={
  e:=λ_ _ _ _ _ _ _ _ _ _ _ _=>aa.bad
  t:=λ_ _ _ _ _ _ _ _ _ _ _ _=>aa.bad
  es:=λ_ _ _ _ _ _ _ _ _ _ _ _ _=>aa.bad
  comp:=by unfold Ea;intros;rename_i hb;exact absurd rfl hb
  nR:=λ_ _ _ _ _ _ hb=>absurd rfl hb
  nil:=λ_ _=>.inl rfl
  Md:=λ_ _ _ _ _ _ _ _ _ _ _ _=>aa.bad}
 st:={s:=λ_ _ _ _ _ _ _ _ _ _ _ _=>aK.bad,ss:=λ_ _ _ _ _ _ _ _ _ _ _ _=>aK.bad}
 eE:=by unfold Ct;intros;rename_i hb;exact absurd rfl hb
 cj:=by unfold tP;intros;rename_i hb;exact absurd rfl hb
 forr:=by unfold tQ;intros;rename_i hb;exact absurd rfl hb
 fi:=λ_ _ _ _ _ _ hb=>absurd rfl hb
 us:=λ_ _ _ _ _ _ _ _ _ _ _ _ _ _ _ _ _ _=>aK.bad
theorem Cz(fe:Fe B)(g:Good B d r)(CG:dM B d r.call)(CK:fj B d r.call)(MG:ei B):aA B d (step B.P C r) where
 e e pe N h:=by
  cases e with
  |none=>exact SE.none pe B.nm h
  |bool b=>exact SE.bool pe B.nm h
  |int i=>exact SE.int pe B.nm h
  |str s=>exact SE.str pe B.nm h
  |var i=>exact SE.var pe h
  |a7 gg v=>exact SE.a7 fe.toFx pe h
  |bin o a b=>exact BM g.ev B.P h
  |neg a=>exact BN g.ev B.P h
  |not a=>exact xQ g.ev B.P h
  |and a b=>exact BR g.ev B.P h
  |or a b=>exact FP g.ev B.P h
  |cmp a o b=>exact BS g.ev B.P h
  |hY a o b p c=>exact xH g.ev B.P h
  |ite c a b=>exact BU g.ev B.P h
  |call f as=>exact xM fe.toFz g.ev CG MG h
  |meth c m o as=>exact xP fe.toFm g.ev CG MG h
  |new c as=>exact B3 fe.toFc g.ev CG h
  |ki c k e=>exact xS fe.toFc g.ev CK h
  |bi b as=>exact FQ fe.toFz g.ev B.P h
  |bm b o as=>exact FT g.ev B.P h
  |attr c j o=>exact xJ fe.toFy g.ev B.P h
  |sub o i=>exact BV g.ev B.P h
  |slice o l hh=>exact u6 g.ev B.P h
  |rev o=>exact BW g.ev B.P h
  |oW gg i=>exact xR fe.toFm g.ev h
  |list es=>exact xK g.ev B.P h
  |tup es=>exact BX g.ev B.P h
  |comp elt it=>exact yb g.ev B.P h
  |ag e=>exact BY g.ev B.P h
  |stuck=>exact λ_ _ _ _ _ _ _ _=>aa.bad
 t e pe N h:=by
  cases e with
  |not a=>exact BO g.ev B.P h
  |and a b=>exact xF g.ev h
  |or a b=>exact BQ g.ev h
  |cmp a o b=>exact xG g.ev h
  |hY a o b p c=>exact u5 g.ev h
  |ite c a b=>exact xI g.ev h
  |ag e=>exact λ_ _ _ _ _ _ _ _=>aa.bad
  |stuck=>exact λ_ _ _ _ _ _ _ _=>aa.bad
  |_=>exact BP g.ev (l8 h trivial) h
 es es qA N h:=by
  cases es with
  |nil=>
   cases qA with
   |nil=>exact xD (r:=r)
   |cons _ _=>exact absurd h Bool.false_ne_true
  |cons e q=>
   cases qA with
   |nil=>exact absurd h Bool.false_ne_true
   |cons p ps=>exact u4 g.ev h
 comp:=ve (e:=.none) g.ev
 nR elt v i k ρ σ hb:=by
  change d5 r elt v i k ρ σ≠.bad at hb;obtain⟨o,e,_⟩:=JL hb;exact⟨o,e⟩
 nil ρ σ:=.inr rfl
 Md e pe N h A F φ σ s env ρ cx:=by
  refine(?_:aa B A F [] φ s (oB (r.e e ρ σ) λv σ=>oB (r.es .nil ρ σ) λvs σ=>.ok (v::vs) σ) (eval pe env) _);have S:=g.ev.e e pe N h _ _ _ _ _ _ _ cx;have S2:aa B A F [] φ s (oB (r.e e ρ σ) λv σ=>oB (r.es .nil ρ σ) λvs σ=>.ok (v::vs) σ) (eval pe env>>=pure) (λvs φ h z=>∃v,vs=[v]/\VR φ F h v z):=
   S.bind λv aG bG s1 x _ le I rv=>by
    rcases g.ev.nil ρ aG with q|q
    ·rw[q];exact aa.bad
    ·rw[q];exact aa.ok I ⟨v,rfl,rv⟩
  rw[bind_pure] at S2;exact S2
theorem CA(fe:Fe B)(g:Good B d r):i0 B d (step B.P C r) where
 s st ps N h:=by
  cases st with
  |expr e=>exact vj g.ev h
  |asg x e=>
   refine F1 h λn tp v pos h=>?_;have h1:=bL (bL (bL h));have h2:=bR (bL (bL h));have h3:=bR (bL h)
   rcases Bool.or_eq_true _ _▸bR h with h4|h4
   ·exact vn g.ev h1 h2 h3 (bF h4)
   ·unfold yh at h4
    revert h3
    refine FZ (Q:=λe=>aJ B.nm N e v=true->SS B d (A3 x e r) N (.Assign [.Name n tp] v pos)) h4 λelt it h4=>?_;refine wZ (Q:=λv=>aJ B.nm N (.ag (.comp elt it)) v=true->SS B d (A3 x (.ag (.comp elt it)) r) N (.Assign [.Name n tp] v pos)) h4 λle lg sc lp h4 h3=>?_;intro A F φ σ s env ρ cx
    have Sh:swapsWith (.ListComp le lg sc lp) (some (.Name n tp)) pos.line env=pure true:=by
     refine(?_:(pure (env.blockKind==.function&&env.kindOf n==some .local&&tp.line==lp.line&&!(sc.names.any λ(q,k)=>q==n&&(k==.local||k==.cell))):Sem Bool)=pure true)
     have e1:env.blockKind=.function:=by unfold Env.blockKind;rw[cx.ok.fn];rfl
     have e2:env.kindOf n=some .local:=(cx.ok.of n).trans (gi h2);have e3:(sc.names.any λ(q,k)=>q==n&&(k==NameKind.local||k==.cell))=false:=bF (bR h4);rw[e1,e2,bL h4,e3];rfl
    rw[exec_Assign_Name_used n tp _ pos Sh];exact aK.at (g.us elt it (.ListComp le lg sc lp) N h3 A F φ σ s env ρ x n tp cx h1 h2)
  |de c j o e=>exact vo fe.toFy g.ev h
  |dc ts e=>exact vr fe.toFy g.ev h
  |aug x o e=>exact yn g.ev h
  |eY c j ob o e=>exact vp fe.toFy g.ev h
  |ret e=>exact yl g.ev h
  |lU=>exact vk (r:=r) h
  |aV c a b=>exact yo g.ev g.st h
  |eE c b=>exact yu g.eE h
  |cj t it b=>exact vt g.ev g.cj g.fi h
  |forr x n b=>exact vv fe.toMk g.ev g.forr h
  |brk=>exact ym (r:=r) h
  |cont=>exact vm (r:=r) h
  |mX b hs=>exact vx fe g.st h
  |raise c as=>exact rN fe g.ev h
  |stuck=>exact λ_ _ _ _ _ _ _ _=>aK.bad
 ss b ps N h:=by
  cases b with
  |nil=>
   cases ps with
   |nil=>exact yq (r:=r)
   |cons _ _=>exact absurd h Bool.false_ne_true
  |cons s q=>
   cases ps with
   |nil=>exact absurd h Bool.false_ne_true
   |cons p ps=>exact vq g.st h
theorem pV(n:Nat):(∀f ρ σ,(run B.P C n).call f ρ σ=.bad)∨(run B.P C n).call=C:=by
 cases n with
 |zero=>exact .inl λ_ _ _=>rfl
 |succ n=>exact .inr rfl
theorem yE(fe:Fe B)(CG:dM B d C)(CK:fj B d C)(MG:ei B):∀n,Good B d (run B.P C n):=by
 intro n
 induction n using Nat.strongRecOn with
 |ind n ih=>
  cases n with
  |zero=>exact yD
  |succ n=>
   have g:=ih n (Nat.lt_succ_self n)
   have cg:dM B d (run B.P C n).call:=by
    rcases pV (B:=B) (C:=C) n with q|q
    ·intro f lf vs aU A F φ σ s xs _ _ _ _ _ hb;exact absurd (q f aU σ) hb
    ·rw[q];exact CG
   have ck:fj B d (run B.P C n).call:=by
    rcases pV (B:=B) (C:=C) n with q|q
    ·intro c k kn f lf self v aU A F φ σ s x y _ _ _ _ _ _ _ _ hb;exact absurd (q f aU σ) hb
    ·rw[q];exact CK
   refine⟨Cz fe g cg ck MG,CA fe g,yt g.ev g.st g.eE,yw fe.toFy g.ev g.st g.cj,vu g.st g.forr,?_,?_⟩
   ·intro t v i b ρ σ hb;change gb (run B.P C n) t v i b ρ σ≠.bad at hb;obtain⟨o,e,_⟩:=nq hb;exact⟨o,e⟩
   ·intro elt it pe N h
    cases n with
    |zero=>exact λ_ _ _ _ _ _ _ _ _ _ _ _ _=>aK.bad
    |succ m=>
     have h':aJ B.nm N (.comp elt it) pe=true:=h;exact yA (ih m (by exact Jl [m] 1 .z (.p J0 1) (.p (.p J0 1) 1) Jt)).ev B.P h'
end
def Ge(l:List (Str×Addr)):Bool:=cL l true λ_ _=>false
theorem tR{l:List (Str×Addr)}(h:Ge l=true):l=[]:=bW (Q:=λl=>l=[]) h rfl
noncomputable def rP(b:FuncBody)(f:List Stmt->Bool):Bool:=match b with|.stmts l=>f l|.expr _=>false
def wh(T:Nm)(names:List Str)(fd:FuncData)(lf:LF):Bool:=
 rP fd.body (λb=>ej T ⟨names,fd.scope,0⟩ lf.body b)&&Nat.beq names.length lf.nl&&Nat.ble lf.np lf.nl&&decide names.Nodup&&
 decide (fd.scope.kind=.function)&&!fd.scope.isCoroutine&&!fd.scope.isGenerator&&Ge fd.closure&&Nat.beq fd.globals mainGlobals&&Nat.beq fd.builtins builtinsNs&&
 (names.take lf.np).all (isVar ⟨names,fd.scope,0⟩)&&(names.drop lf.np).all (d9 ⟨names,fd.scope,0⟩)&&d6 lf.dflt
structure Mm(B:Bg)(f:Nat)(lf:LF):Prop where
 o:∃o,B.h0.get? (B.fa f)=some o/\o.data=.func (B.fi f).fd
 code:B.h0.CodeRec (B.fi f).fd.code (B.fi f).fd.qualname
 ok:wh B.nm (B.fi f).names (B.fi f).fd lf=true
 bind:∀(s:Shared) xs,B.h0.StaysIn s.heap->xs.length+lf.dflt.length=lf.np->∃ds,aB [] [] B.h0 lf.dflt ds/\BindsTo s (B.fi f).fd ⟨xs,[]⟩ (((B.fi f).names.take lf.np).zip (xs++ds))
 bindK:∀(s:Shared) c k kn x y,B.h0.StaysIn s.heap->bf B.P.init c=some f->(B.bK c)[k]?=some kn->lf.dflt.length+1=lf.np->k<lf.dflt.length->∃ds,aB [] [] B.h0 lf.dflt ds/\BindsTo s (B.fi f).fd ⟨[x],[(kn,y)]⟩ (((B.fi f).names.take lf.np).zip (x::ds.set k y))
set_option tactic.hygienic true in
theorem dF{n:Str}:∀(l:List (Str×NameKind))(k:Nat)(acc:List (Str×Addr)),((n,NameKind.cell)∈l∨(acc.lookup n).isSome=true)->((cellsFrom k l acc).lookup n).isSome=true
 |[],k,acc,h=>by
  rcases h with h|h
  ·cases h
  ·exact h
 |(m,kd)::r,k,acc,h=>by
  unfold cellsFrom
  split
  ·rename_i hk;refine dF r _ _ ?_;by_cases hm:n=m
   ·subst hm;right;simp
   ·rcases h with h|h
    ·rcases List.mem_cons.mp h with e|e
     ·injection e with e1 _;exact absurd e1 hm
     ·exact .inl e
    ·right;rw[List.lookup_cons]
     have:(n==m)=false:=by simpa using hm
     rw[this];exact h
  ·rename_i hk;refine dF r _ _ ?_
   rcases h with h|h
   ·rcases List.mem_cons.mp h with e|e
    ·injection e with _ e2;subst e2;exact absurd rfl hk
    ·exact .inl e
   ·exact .inr h
theorem jE{kindOf:Str->Option NameKind}{n:Str}:∀(ps:List Str)(xs:List Value)(m:Str->Option Value),n∉ps->bindL kindOf (ps.zip xs) m n=m n
 |[],_,_,_=>rfl
 |_::_,[],_,_=>rfl
 |p::ps,x::xs,m,h=>by
  rw[List.zip_cons_cons];unfold bindL;rw[jE ps xs _ λq=>h (List.mem_cons_of_mem _ q)];have:n≠p:=λq=>h (by simp[q])
  split
  ·simp[this]
  ·rfl
theorem i9{kindOf:Str->Option NameKind}{n:Str}{x:Value}(hk:kindOf n=some .local):∀(ps:List Str)(xs:List Value)(m:Str->Option Value)(i:Nat),ps.Nodup->ps[i]?=some n->xs[i]?=some x->bindL kindOf (ps.zip xs) m n=some x
 |[],_,_,_,_,h,_=>by simp at h
 |_::_,[],_,_,_,_,h=>by simp at h
 |p::ps,y::xs,m,i,nd,h1,h2=>by
  rw[List.nodup_cons] at nd;rw[List.zip_cons_cons];unfold bindL
  cases i with
  |zero=>
   simp at h1 h2;subst h1 h2;rw[jE ps xs _ nd.1,if_pos hk];simp
  |succ i=>exact i9 hk ps xs _ i nd.2 (by simpa using h1) (by simpa using h2)
theorem mE{kindOf:Str->Option NameKind}{n:Str}:∀(ps:List Str)(xs:List Value)(m:Str->Option Value),n∉ps->bindC kindOf (ps.zip xs) m n=m n
 |[],_,_,_=>rfl
 |_::_,[],_,_=>rfl
 |p::ps,x::xs,m,h=>by
  rw[List.zip_cons_cons];unfold bindC;rw[mE ps xs _ λq=>h (List.mem_cons_of_mem _ q)];have:n≠p:=λq=>h (by simp[q])
  split
  ·rfl
  ·simp[this]
theorem pW{kindOf:Str->Option NameKind}{n:Str}{x:Value}(hk:kindOf n≠some .local):∀(ps:List Str)(xs:List Value)(m:Str->Option Value)(i:Nat),ps.Nodup->ps[i]?=some n->xs[i]?=some x->bindC kindOf (ps.zip xs) m n=some x
 |[],_,_,_,_,h,_=>by simp at h
 |_::_,[],_,_,_,_,h=>by simp at h
 |p::ps,y::xs,m,i,nd,h1,h2=>by
  rw[List.nodup_cons] at nd;rw[List.zip_cons_cons];unfold bindC
  cases i with
  |zero=>
   simp at h1 h2;subst h1 h2;rw[mE ps xs _ nd.1,if_neg hk];simp
  |succ i=>exact pW hk ps xs _ i nd.2 (by simpa using h1) (by simpa using h2)
theorem tS(n:Nat):kr n=List.replicate n .au:=by
 induction n with
 |zero=>rfl
 |succ n ih=>show LV.au::kr n=_;rw[ih];rfl
section
variable{B:Bg}{d:Nat}{r:Ev}{A:Around}{F X:List Addr}{φ ak:aS}{σ:LH}{s s':Shared}
theorem yF{b:FuncBody}{f:List Stmt->Bool}(h:rP b f=true):∃l,b=.stmts l/\f l=true:=match b,h with
 |.stmts l,h=>⟨l,rfl,h⟩
theorem CB{fd:FuncData}{names:List Str}{lf:LF}{vs:List LV}{xs:List Value}{a:Addr}{s₁:Shared}(I:Inv B φ F σ s.heap)
  (x:InCallC s (callEnvC fd s.heap.objs.size a).locals (bindL (callEnvC fd s.heap.objs.size a).kindOf ((names.take lf.np).zip xs) λ_=>none) (callEnvC fd s.heap.objs.size a).cells (bindC (callEnvC fd s.heap.objs.size a).kindOf ((names.take lf.np).zip xs) λ_=>none) s₁)
  (Si:aB φ (s.heap.objs.size::F) s₁.heap vs xs) (hl:vs.length=lf.np) (o2:names.length=lf.nl) (o3:lf.np<=lf.nl) (o4:names.Nodup) (MD:∀n∈names.drop lf.np,fd.scope.names.lookup n=some .local):
  NR φ (s.heap.objs.size::F) s₁.heap (callEnvC fd s.heap.objs.size a) ⟨names,fd.scope,0⟩ (vs++kr (lf.nl-lf.np)):=by
 refine⟨.head _,?_,_,x.toInCall.ns,λi n v e1 e2=>?_⟩
 ·rw[tS];simp;exact Nat.le_antisymm (Jl [vs.length,lf.np,lf.nl,_,_] 1 (.c 1 J0 J1 (.c 1 J2 J3 (.c 1 (.a J4 J1) J2 .z))) (.a J0 J4) J3 Jt (Jf hl) (Jg o2) (Jf (Nat.sub_add_cancel o3))) (Jl [lf.np,vs.length,_,lf.nl,_] 1 (.c 1 J0 J1 (.c 1 J2 J3 (.c 1 J3 (.a J4 J0) .z))) J2 (.a J1 J4) Jt (Jg hl) (Jf o2) (Jg (Nat.sub_add_cancel o3)))
 ·have H3:(names.take lf.np).Nodup:=o4.sublist (List.take_sublist _ _)
  rcases Nat.lt_or_ge i lf.np with FJ|FJ
  ·have Qx:(names.take lf.np)[i]?=some n:=by rw[List.getElem?_take,if_pos FJ];exact e1
   rw[List.getElem?_append_left (hl.symm▸FJ)] at e2;obtain⟨z,hz,rz⟩:=Si.get e2;refine⟨λq=>.inr ⟨z,i9 (show(callEnvC fd s.heap.objs.size a).kindOf n=some .local from q) _ _ _ i H3 Qx hz,rz⟩,λq=>?_⟩;have q:(callEnvC fd s.heap.objs.size a).kindOf n=some .cell:=q;obtain⟨ca,N0⟩:=Option.isSome_iff_exists.mp (dF (n:=n) fd.scope.names (s.heap.objs.size+1) [] (.inl (mem_of_lookup q)));have Qy:=x.cell n ca N0;have xg:s.heap.objs.size<(ca:Nat):=x.above n ca (mem_of_lookup N0);rw[pW (by rw[q];decide) _ _ _ i H3 Qx hz] at Qy;have hi:∀{o},s.heap.get? ca=some o->False:=λe=>Nat.lt_irrefl _ (Nat.lt_trans (Heap.lt_size e) xg);exact⟨z,ca,N0,Qy,λN1=>(I.live N1).rec λob e=>hi e.1,λhf=>(List.mem_cons.mp hf).elim (Nat.ne_of_gt xg) λhf=>(I.fr _ hf).2.rec λob e=>hi e,rz⟩
  ·have hn:n∈names.drop lf.np:=by
    refine List.mem_of_getElem? (i:=i-lf.np) ?_;rw[List.getElem?_drop,Nat.add_sub_cancel' FJ];exact e1
   have Sj:=MD n hn;refine⟨λ_=>.inl ⟨?_,?_⟩,λq=>?_⟩
   ·rw[List.getElem?_append_right (hl.symm▸FJ),tS] at e2;exact List.eq_of_mem_replicate (List.mem_of_getElem? e2)
   ·rw[jE];intro hm;have Qz:=o4;rw[←List.take_append_drop lf.np names,List.nodup_append] at Qz;exact Qz.2.2 n hm n hn rfl
   ·have q:fd.scope.names.lookup n=some .cell:=q;rw[Sj] at q;cases q
theorem CC{N:NC}{env:Env}{s₁:Shared}{out:av}{t:Sem Flow}{K M:Out LV->Value->Shared->Prop}(x:aK B A F X φ s₁ N env out t)(hb:ba out≠.bad)
  (h1:∀v bU fN s2 y,Le F X φ fN s₁ s2->Inv B fN F bU s2.heap->VR fN F s2.heap v y->K (.ok v bU) y s2) (h2:∀c jq bU e s2,yk B F X φ s₁ N env c jq bU e s2->M (.err c bU) e s2):
  wpAny (model B.prog B.w) A t (λfl s2=>K (ba out) (match fl with|.ret v=>v|_=>.none) s2) (M (ba out)) s₁:=by
 cases out with
 |nx jq bU=>
  refine wpAny_mono (x nofun) (λfl s2 q=>?_) λ_ _ q=>q.elim;obtain⟨rfl,fN,le,I,_⟩:=q;exact h1 _ _ _ _ _ le I VR.n
 |ret v bU=>
  refine wpAny_mono (x nofun) (λfl s2 q=>?_) λ_ _ q=>q.elim;obtain⟨y,rfl,fN,le,I,rv⟩:=q;exact h1 _ _ _ _ _ le I rv
 |err c jq bU=>exact wpAny_mono (x nofun) (λ_ _ q=>q.elim) λe s2 q=>h2 _ _ _ _ _ q
 |_=>exact absurd rfl hb
theorem pX(fx:Fx B){f:Nat}{lf:LF}{vs:List LV}{xs:List Value}{args:Args}(FO:Mm B f lf)(GS:i0 B d r)(k:XK A F s.heap (B.x+(d+1)))(I:Inv B φ F σ s.heap)(rs:aB φ F s.heap vs xs)(hl:vs.length=lf.np)
  (pY:BindsTo s (B.fi f).fd args (((B.fi f).names.take lf.np).zip xs)):nS B A F [] φ s (ba (r.ss lf.body (vs++kr (lf.nl-lf.np)) σ)) (.call (.ref (B.fa f)) args):=λhb=>by
 obtain⟨⟨o,ho,yG⟩,H9,ok,_,_⟩:=FO;unfold wh at ok;have p9:=bL (bL (bL (bL (bL (bL (bL (bL (bL ok))))))));obtain⟨body,KI,o1⟩:=yF (bL (bL (bL p9)));have o2:=Nat.eq_of_beq_eq_true (bR (bL (bL p9)));have o3:lf.np<=lf.nl:=Nat.le_of_ble_eq_true (bR (bL p9));have o4:(B.fi f).names.Nodup:=of_decide_eq_true (bR p9);have o5:(B.fi f).fd.scope.kind=.function:=of_decide_eq_true (bR (bL (bL (bL (bL (bL (bL (bL (bL ok)))))))));obtain⟨l,wd,DX⟩:=k.frames;have Gf:=k.depth;have QA:=k.units;refine codeAny_call_function (body:=body) (by exact Jl [A.depth,B.x,d,_] 1 (.c 1 (.p (.p (.a J0 (.m 4 (.a J1 (.p J2 1)))) 3) 1) J3 .z) (.p J0 1) J3 Jt Gf) (I.base _ _ ho) yG (bF (bR (bL (bL (bL (bL (bL (bL (bL ok))))))))) (bF (bR (bL (bL (bL (bL (bL (bL ok)))))))) KI (H9.keeps I.base) (pY _ _ _ _ ?_);rw[tR (bR (bL (bL (bL (bL (bL ok))))))];refine wpAny_newFunctionEnv_cells o5 (λy hy=>?_) λenv he s₁ x=>?_
 ·exact(kD (List.all_eq_true.mp (bR (bL (bL ok))) y.1 (List.of_mem_zip (show(y.1,y.2)∈_ from hy)).1)).imp id λq=>⟨q,dF _ _ _ (.inl (mem_of_lookup q))⟩
 ·subst he;refine⟨fx.xb.keeps λb o e=>x.toInCall.keep b o (I.base b o e),codeAny_func ?_⟩;have nL:s.heap.get? s.heap.objs.size=none:=bz _;obtain⟨hp,tk,es⟩:=x.toInCall.same;have kp:=x.toInCall.keep;have I1:Inv B φ (s.heap.objs.size::F) σ s₁.heap:=I.fM kp nL (let⟨o,e,_⟩:=ns_obj x.toInCall.ns;⟨o,e⟩);have nr:=CB I x (rs.fM kp nL) hl o2 o3 o4 λn hn=>gi (List.all_eq_true.mp (bR (bL ok)) n hn);have QB:(A.deeper (callEnvC (B.fi f).fd s.heap.objs.size (B.fa f))).frames=some (callEnvC (B.fi f).fd s.heap.objs.size (B.fa f)::l):=Around.frames_deeper wd
  have cx:dx B d ⟨(B.fi f).names,(B.fi f).fd.scope,0⟩ (A.deeper (callEnvC (B.fi f).fd s.heap.objs.size (B.fa f))) (s.heap.objs.size::F) φ σ s₁ (callEnvC (B.fi f).fd s.heap.objs.size (B.fa f)) (vs++kr (lf.nl-lf.np)):=by
   refine⟨⟨⟨k.handled,⟨_,QB,λe he=>?_⟩,?_,?_⟩,⟨rfl,Nat.eq_of_beq_eq_true (bR (bL (bL (bL (bL ok))))),Nat.eq_of_beq_eq_true (bR (bL (bL (bL ok)))),o5⟩,I1,nr,λ_=>⟨?_,?_⟩⟩,⟨_,QB⟩,o4⟩
   ·rcases List.mem_cons.mp he with rfl|he
    ·obtain⟨o,e,d⟩:=ns_obj x.toInCall.ns;exact⟨(by rw[show(callEnvC (B.fi f).fd s.heap.objs.size (B.fa f)).scope=(B.fi f).fd.scope from rfl,o5];decide),s.heap.objs.size,rfl,.head _,o,e,d⟩
    ·exact(DX.push (λf hf=>List.mem_cons_of_mem _ hf) kp) e he
   ·show A.depth+1+4*(B.x+d)+4<_;exact Jl [A.depth,B.x,d,_] 1 (.c 1 (.p (.p (.a J0 (.m 4 (.a J1 (.p J2 1)))) 3) 1) J3 .z) (.p (.p (.a (.p J0 1) (.m 4 (.a J1 J2))) 4) 1) J3 Jt Gf
   ·show A.units+3+40*(B.x+d)+20<_;exact Jl [A.units,B.x,d,cLine] 1 (.c 1 (.p (.p (.a J0 (.m 40 (.a J1 (.p J2 1)))) 10) 1) J3 .z) (.p (.p (.a (.p J0 3) (.m 40 (.a J1 J2))) 20) 1) J3 Jt QA
   ·show A.depth+1+4*(B.x+d)+5<_;exact Jl [A.depth,B.x,d,_] 1 (.c 1 (.p (.p (.a J0 (.m 4 (.a J1 (.p J2 1)))) 3) 1) J3 .z) (.p (.p (.a (.p J0 1) (.m 4 (.a J1 J2))) 5) 1) J3 Jt Gf
   ·show A.units+3+40*(B.x+d)+30<_;exact Jl [A.units,B.x,d,cLine] 1 (.c 1 (.p (.p (.a J0 (.m 40 (.a J1 (.p J2 1)))) 10) 1) J3 .z) (.p (.p (.a (.p J0 3) (.m 40 (.a J1 J2))) 30) 1) J3 Jt QA
  have Eh:∀f∈F,f∉[s.heap.objs.size]:=λf hf q=>by
   obtain⟨o,e⟩:=(I.fr _ hf).2;rw[List.mem_singleton.mp q,nL] at e;cases e
  have pop:∀{ak:aS}{s2:Shared},Le (s.heap.objs.size::F) [s.heap.objs.size] φ ak s₁ s2->Le F [] φ ak s {s2 with heap:=s2.heap,toks:=s2.toks}:=λle=>Le.pQ (X:=[]) kp nL (by rw[es]) (by rw[es]) le λb o _ e=>e;refine CC (K:=λout y s2=>BZ B F [] φ s out (.ok (.ret y)) s2) (M:=λout e s'=>wpAny (model B.prog B.w) (A.deeper (callEnvC (B.fi f).fd s.heap.objs.size (B.fa f))) (leaving (callEnvC (B.fi f).fd s.heap.objs.size (B.fa f)) e) (λ_ cb=>BZ B F [] φ s out (.error e) cb) (λe' cb=>BZ B F [] φ s out (.error e') cb) s')
   (GS.ss lf.body body ⟨(B.fi f).names,(B.fi f).fd.scope,0⟩ o1 _ _ _ _ _ _ _ cx) hb (λv bU fN s2 y le I2 rv=>⟨fN,pop le,Inv.iZ (G:=[s.heap.objs.size]) I2 (λb o _ e=>e) Eh,VR.l7 (G:=[s.heap.objs.size]) rv λb o _ e=>e⟩) λc jq bU e s2 q=>?_
  obtain⟨fN,le,I2,Ec,ex⟩:=q;obtain⟨l',N2,N3⟩:=cx.Kx;exact pg N2 (N3.le le) (λf hf=>(I1.fr f hf).2) le.live ex λs3 nt x3=>⟨fN,pop (le.e8 nt),Inv.iZ (G:=[s.heap.objs.size]) (I2.e8 nt I1.base) (λb o _ e=>e) Eh,x3.at.kz λb o e=>⟨o,kp b o e⟩⟩
end
section
variable{B:Bg}
theorem rQ{lf:LF}{vs ρ:List LV}(h:places lf vs=some ρ):vs.length+lf.dflt.length=lf.np/\ρ=(vs++lf.dflt)++kr (lf.nl-lf.np):=by
 unfold places at h
 cases hb:Nat.beq (Nat.add (len vs) (len lf.dflt)) lf.np with
 |false=>rw[hb] at h;cases h
 |true=>
  rw[hb,lV] at h
  injection h with h
  have:=Nat.eq_of_beq_eq_true hb;rw[len_eq,len_eq] at this;refine⟨this,?_⟩;rw[←h,bb,bb];rfl
theorem p0{lf:LF}{self v:LV}{k:Nat}{ρ:List LV}(h:placesK lf self k v=some ρ):lf.dflt.length+1=lf.np/\k<lf.dflt.length/\ρ=(self::lf.dflt.set k v)++kr (lf.nl-lf.np):=by
 unfold placesK at h
 cases hb:band (Nat.beq (Nat.add (len lf.dflt) 1) lf.np) (Nat.blt k (len lf.dflt)) with
 |false=>rw[hb] at h;cases h
 |true=>
  rw[hb,lV] at h
  injection h with h
  rw[bV,Bool.and_eq_true] at hb;have h1:=Nat.eq_of_beq_eq_true hb.1;have h2:=cV hb.2;rw[len_eq] at h1 h2;exact⟨h1,h2,by rw[←h,bb,fE];rfl⟩
theorem vy(fe:Fe B)(FO:∀f lf,B.P.dg.get f=some lf->Mm B f lf)(MG:ei B):∀d,dM B d (deep B.P d)/\fj B d (deep B.P d):=by
 intro d
 induction d with
 |zero=>
  refine⟨λf lf vs aU A F φ σ s xs _ _ _ _ _ hb=>absurd rfl hb,λc k kn f lf self v aU A F φ σ s x y _ _ _ _ _ _ _ _ hb=>absurd rfl hb⟩
 |succ d ih=>
  have g:=yE fe ih.1 ih.2 MG 3000;refine⟨λf lf vs aU A F φ σ s xs hf hp k I rs=>?_,λc kk kn f lf self v aU A F φ σ s x y hc Sk hf hp k I rx ry=>?_⟩
  ·obtain⟨h1,rfl⟩:=rQ hp;obtain⟨ds,N4,pY⟩:=(FO f lf hf).bind s xs I.base (by rw[rs.length];exact h1)
   have N5:d6 lf.dflt=true:=by
    have:=(FO f lf hf).ok;unfold wh at this;simp only[Bool.and_eq_true] at this;exact this.2
   have key:=pX fe.toFx (FO f lf hf) g.st k I (rs.append (aB.pure' (xd I) _ _ N5 N4)) (by simpa using h1) pY;refine(?_:nS B A F [] φ s (bodyOf B.P (run B.P (deep B.P d) 3000) f ((vs++lf.dflt)++kr (lf.nl-lf.np)) σ) _);unfold bodyOf;rw[hf];exact key
  ·obtain⟨h1,h2,rfl⟩:=p0 hp;obtain⟨ds,N4,pY⟩:=(FO f lf hf).bindK s c kk kn x y I.base hc Sk h1 h2
   have N5:d6 lf.dflt=true:=by
    have:=(FO f lf hf).ok;unfold wh at this;simp only[Bool.and_eq_true] at this;exact this.2
   have key:=pX fe.toFx (FO f lf hf) g.st k I (aB.aH.mpr ⟨_,_,rfl,rx,(aB.pure' (xd I) _ _ N5 N4).set ry⟩) (by simpa using h1) pY;refine(?_:nS B A F [] φ s (bodyOf B.P (run B.P (deep B.P d) 3000) f ((self::lf.dflt.set kk v)++kr (lf.nl-lf.np)) σ) _);unfold bodyOf;rw[hf];exact key
end
end Mine
end
section
open PySem PySem.W
namespace Mine
noncomputable def Sl:List Nat:=[21,28,35,42,189,196,273,280,287,294,315,371,378,385,392,400,407,414,428,435,442,456,470,477,484,491,498,505,512,519,533,555,569,576,583,590,597,602,609,623,630,637,651,658,665,672,679,684,699,720,734,741,748,753,760,767,774,781,788,795,802,809,823,830,837,844,851,858,863,870,875,880,887,894,901,908,913,920,925,930,937,944,951,956]
noncomputable def rR:List Str:=List.map Str.ofString ["wrap_number","number_head","numeric_text","number_text","to_text","to_number","row_of_number","number_of_row","row_of_ber","read_ber","row_of_bits","is_uu","uu_six","read_uu_line","read_uu","fixed_size","has_sign","is_big_first","","","","read_figures","read_repeat","read_marks","in_order","read_one","pass_by","read_counted","read_items","parse_template","moved","","octets_left","note_value","note_step","repeat_of","take_octets","text_of_row","unpack_text","unpack_fixed","unpack_running","unpack_move","unpack_group","unpack_counted","unpack_uu","unpack_item","unpack_items","unpack_values","","","values_left","next_value","next_number","next_codes","lay_octets","lay_noughts","go_to_place","count_of_item","pack_text","pack_digits","row_of_value","pack_numbers","pack_move","pack_group","pack_counted","count_step","pack_item","pack_items","pack_values","_law_cell","_law_text","_law_heard","_law_sign","_law_line","_law_lines","_law_number","_law_length","_law_read","_law_laid","_law_lengths","_law_bounds","_law_steps","_law_deep","law"]
noncomputable def fV:List Str:=["self","width","depth","steps","text","items"]
noncomputable def Gg:List (List Str):=List.map (List.map Str.ofString) [["n","width"],["text","at","end","first"],["text","width","at","end","n","sign"],["n","text"],["value"],["value","limits"],["n","size","is_big","row","k"],["row","is_big","is_signed","found","ordered","octet"],["n","row"],["data","at","found"],["codes","count","is_big","row","k"],["data","at"],["data","at"],["data","at","size","row","bits","k"],["data","at","row","part"],["letter","has_bang"],["letter","has_bang"],["letter","order"],["self","text"],["self"],["self"],["reader","begun","figures"],["reader","sign"],["reader","letter","order","has_bang","sign"],["items","order","found","letter","own","has_bang","count","inner"],["reader","depth","letter","inner","order","has_bang","count"],["reader"],["reader","depth","length","counted"],["reader","depth","items","item"],["text"],["at","letter","has_bang","many"],["self","data","limits"],["unpacker"],["unpacker","value"],["unpacker"],["item","most"],["unpacker","many","row"],["row"],["unpacker","item","row"],["unpacker","item","letter","order","has_bang","count","inner","size","turn","row","number"],["unpacker","item","turn","number"],["unpacker","item","letter","order","has_bang","count","inner","many","place"],["unpacker","item","letter","order","has_bang","count","inner","turns","turn"],["unpacker","item","begun","length","counted","is_beyond","letter","order","has_bang","count","inner","many"],["unpacker","row"],["unpacker","item","letter"],["unpacker","items","begun","item"],["template","text","limits","unpacker"],["self","width","depth","steps","text","items"],["self","values","limits"],["packer"],["packer"],["packer"],["packer"],["packer","row"],["packer","many"],["packer","place","letter"],["item","star"],["packer","item","codes","size","kept"],["packer","item","codes","size"],["packer","item","letter","order","has_bang","count","inner","number"],["packer","item","turn"],["packer","item","letter","order","has_bang","count","inner","many"],["packer","item","turn"],["packer","item","length","counted","letter","order","has_bang","count","inner","value"],["packer"],["packer","item","letter"],["packer","items","item"],["template","values","limits","packer"],["script","place"],["octets"],["way","template","things","limits"],["data","at"],["data","at","size","row","turn","number","k","six"],["data","row","at","more"],["text","figures","sign","worth"],["data","letter","count","row","text","many"],["data","letter","count","counted","values","at","many","rest"],["letter","count","counted","values","first","many","row","text"],["script","letter","count","counted","template","data","begun","some","values"],["script","most","n","limits","template","size","wide","due"],["script","n","m","template","need","steps","due","laid"],["script","deep","blank","items","heights"],["script","data"]]
noncomputable def Gh:List Nat:=[213,233,245,264,445,558,702,723]
noncomputable def rS:List Str:=["","Die","BadTemplate","TooLong","TemplateReader","Unpacker","Limits","Packer"]
noncomputable def Ek:List (List Str):=[[],[],[],[],["text","at"],["data","at","found","starts","limits","steps"],["width","depth","steps","text","items"],["out","values","at","starts","limits","steps","length"]]
noncomputable def Gi:List Str:=["FIGURES_numbers","SPACES","STAR","NO_COUNT","LETTERS","ORDERED","BANGED","MOVERS","BLANKS","FIGURES_packtemplate","DEEPEST","MOST_FIGURES","BLANK_OCTETS"]
noncomputable def tT:List LV:=[(.str [48,49,50,51,52,53,54,55,56,57]),(.str [32,9,10,13,12,11]),(.int (-1)),(.int (-2)),(.str [99,67,115,83,108,76,113,81,105,73,106,74,110,78,118,86,119,85,97,65,90,98,66,104,72,117,120,88,64,46]),(.str [115,83,108,76,113,81,105,73,106,74]),(.str [115,83,105,73,108,76,110,78,118,86,120,88,64,46]),(.str [120,88,64,46]),(.str [32,9,10,13,12]),(.str [48,49,50,51,52,53,54,55,56,57]),(.int 20),(.int 9),(.ag [(.int 0),(.int 9),(.int 10),(.int 11),(.int 12),(.int 13),(.int 32)])]
noncomputable def jF:Nm where
 gd f:=(rR[f]?).getD ""
 cD c:=(rS[c]?).getD ""
 gX m:=if m=0 then"peek" else"skip"
 bK c:=(Ek[c]?).getD []
 me g:=(Gi[g]?).getD ""
 a7 g:=(tT[g]?).getD .none
 mf g:=if g=0 then"FIXED" else""
noncomputable def jr(f:Nat):Nat:=(Sl[f]?).getD 0
noncomputable def names0(f:Nat):List Str:=(Gg[f]?).getD []
noncomputable def dN(c:Nat):Nat:=(Gh[c]?).getD 213
noncomputable def KJ:List Nat:=[0,2,3,21,28,35,42,58,59,79,80,98,99,117,118,136,137,156,157,189,196,210,212,213,230,232,233,244,245,261,263,264,273,280,287,294,315,371,378,385,392,400,407,414,428,435,442,444,445,456,470,477,484,491,498,505,512,519,533,555,557,558,569,576,583,590,597,602,609,623,630,637,651,658,665,672,679,684,699,701,702,720,722,723,734,741,748,753,760,767,774,781,788,795,802,809,823,830,837,844,851,858,863,870,875,880,887,894,901,908,913,920,925,930,937,944,951,956]
end Mine
end
section
open PySem PySem.W PyProof PyProof.Rows
namespace Mine
section
variable{M:Model}{A:Around}{E:Value->Shared->Prop}{h:Heap}{g:Array GenState}{d:Drawn}{t:Nat}{os:OsState}
variable{nm q:Str}{C N:Addr}{bs bm:List Value}{n8:Bool}{sn:List Str}{sub:List Value}{ab:Bool}{col:Option Bool}{dd:Option Addr}{k0 k1 k2 k3 k5:Option Value}
theorem n9(hb:bm.contains (.type "Exception")=true){rest:List Value}{Q:Unit->Shared->Prop}(hC:h.get? C=some (excClassObj nm q C N bs bm n8 sn sub ab col dd k0 k1 k2 k3 k5 "Exception.__new__"))
  (hq:Q () ⟨h,g,d,t,os⟩):wpAny M A (checkBuiltinCall "Exception.__new__" ⟨.ref C::rest,[]⟩) Q E ⟨h,g,d,t,os⟩:=by
 have F:=PySem.F.excBase_Exception
 have KL:(Value.ref C::bm).contains (.type "Exception")=true:=by rw[List.contains_cons,hb,Bool.or_true]
 have QC:=F.noStar;simp only[checkBuiltinCall,F.newKind,F.newSplit,F.newRow]
 repeat (first|refine wpAny_loadPart_at hC ?_|(refine wpAny_isSubtype_exc hC ?_;rw[KL])|refine wpAny_staticBase_exc hC ?_|refine wpAny_madeBy_exc hC ?_|simp only[bne_self_eq_false,Bool.false_eq_true,if_false]|wp_step)
 exact hq
end
section
variable{prog:Program}{w:World}{A:Around}{R:Result->Shared->Prop}{E:Value->Shared->Prop}{h:Heap}{g:Array GenState}{d:Drawn}{t:Nat}{os:OsState}
variable{nm q:Str}{C N:Addr}{bs bm:List Value}{n8:Bool}{sn:List Str}{sub:List Value}{ab:Bool}{col:Option Bool}{dd:Option Addr}{k0 k1 k2 k3 k5:Option Value}
theorem Gj(hb:bm.contains (.type "Exception")=true)(ha:bm.contains (.type "AttributeError")=false)(hn:bm.contains (.type "NameError")=false){rest:List Value}(hC:h.get? C=some (excClassObj nm q C N bs bm n8 sn sub ab col dd k0 k1 k2 k3 k5 "Exception.__new__"))
  (hq:R (.ok (.ret (.ref (h.objs.size+1)))) ⟨(h.push {cls:=.type "tuple",data:=.seq rest.toArray}).push
   {cls:=.ref C,data:=.fields #[.ref h.objs.size,.none,.none,.none,.bool false,.none]},g,d,t,os⟩) (hrest:rest.length<=sizeLine:=by size_fits):
  codeAny (model prog w) A (.builtin "Exception.__new__" ⟨.ref C::rest,[]⟩) R ⟨h,g,d,t,os⟩:=by
 have F:=PySem.F.excBase_Exception;have QD:=F.ends
 have N6:(Value.ref C::bm).contains (.type "Exception")=true:=by rw[List.contains_cons,hb,Bool.or_true]
 have Sm:(Value.ref C::bm).contains (.type "AttributeError")=false:=by rw[List.contains_cons,ha];rfl
 have Sn:(Value.ref C::bm).contains (.type "NameError")=false:=by rw[List.contains_cons,hn];rfl
 refine PySem.codeAny_builtinAt F.entry ?_;unfold Builtin.«BaseException.__new__»;refine PySem.wpAt_bind ?_;refine(?_:PySem.wpAt _ _ _ (stack>>=_) _ _ _);refine PySem.wpAt_bind (PySem.wpAt_stack λp below=>PySem.wpAt_of_wpAny ?_)
 wp_walk
 refine PySem.wpAt_of_wpAny ?_;rw[F.owner]
 repeat (first|with_reducible refine wpAny_madeHere_exc F.canon hC ?_|with_reducible refine wpAny_loadPart_at hC ?_|(with_reducible refine wpAny_isSubtype_exc hC ?_;first|rw[N6]|rw[Sm]|rw[Sn])|wp_step)
 refine(?_:R _ _);rw[Heap.size_push];exact hq
theorem oc(hb:bm.contains (.type "Exception")=true)(ha:bm.contains (.type "AttributeError")=false)(hn:bm.contains (.type "NameError")=false){rest:List Value}{fI:Value}{Q:Fin->Shared->Prop}(hC:h.get? C=some (excClassObj nm q C N bs bm n8 sn sub ab col dd k0 k1 k2 k3 k5 "Exception.__new__"))
  (hi:Looks (model prog w) h (typeLookup (.ref C) "__init__") (some fI)) (N7:∀self,Looks (model prog w) h (bindSpecial fI self) (fI,[self]))
  (hq:wpAny (model prog w) A (call fI (.ref (h.objs.size+1)::rest)) (λv s'=>v=.none/\Q (.done (.ret (.ref (h.objs.size+1)))) s') E ⟨(h.push {cls:=.type "tuple",data:=.seq rest.toArray}).push {cls:=.ref C,data:=.fields #[.ref h.objs.size,.none,.none,.none,.bool false,.none]},g,d,t,os⟩)
  (hrest:rest.length<=sizeLine:=by size_fits):
  wpAny (model prog w) A (Builtin.«type.__call__» ⟨.ref C::rest,[]⟩) Q E ⟨h,g,d,t,os⟩:=by
 have F:=PySem.F.excBase_Exception
 repeat (first|with_reducible refine wpAny_loadPart_at hC ?_|with_reducible refine wpAny_madeBy_exc hC ?_|wp_step)
 refine codeAny_call_builtin_code (Code.quiet_builtin _ F.quiet) (n9 hb hC ?_);refine Gj hb ha hn hC ?_ hrest;refine(?_:wpAny _ _ _ _ _ _)
 have k:∀b o,h.get? b=some o->((h.push {cls:=.type "tuple",data:=.seq rest.toArray}).push {cls:=.ref C,data:=.fields #[.ref h.objs.size,.none,.none,.none,.bool false,.none]}).get? b=some o:=λb o e=>Heap.get?_push_of_some _ (Heap.get?_push_of_some _ e)
 have KN:=k _ _ hC
 have wV:((h.push {cls:=.type "tuple",data:=.seq rest.toArray}).push
   {cls:=.ref C,data:=.fields #[.ref h.objs.size,.none,.none,.none,.bool false,.none]}).get? (h.objs.size+1)=some
   {cls:=.ref C,data:=.fields #[.ref h.objs.size,.none,.none,.none,.bool false,.none]}:=by heap_get
 have So:(Value.ref C::bm).contains (.ref C)=true:=by simp
 unfold isInstance
 repeat (first|with_reducible refine wpAny_loadPart_at wV ?_|(with_reducible refine wpAny_isSubtype_exc KN ?_;rw[So])|wp_step)
 refine(?_:wpAny _ _ (typeLookup (.ref C) _) _ _ _);refine(hi.keeps k).here ?_;refine wpAny_holding (wpAny_bind (((N7 _).keeps k).here ?_));refine wpAny_bind (wpAny_mono hq (λv s' ⟨e,z⟩=>?_) λ_ _ x=>x);subst e;exact wpAny_pure (wpAny_pure z)
end
end Mine
end
section
open PySem PySem.W PyProof PyProof.Rows Builtin Builtin.ObjectAttr
namespace Mine
noncomputable def fP(l:List Value):Prop:=∃rs:List Addr,l=rs.map .ref++[.type "Exception",.type "BaseException",.type "object"]
theorem ja{v:Value}{b:Bool}(hv:([.type "Exception",.type "BaseException",.type "object"]:List Value).contains v=b)(hr:∀a,(v==.ref a)=false){l:List Value}:fP l->l.contains v=b:=λ⟨rs,e⟩=>by
 rw[e];clear e
 induction rs with
 |nil=>exact hv
 |cons a r ih=>rw[List.map_cons,List.cons_append,List.contains_cons,hr,Bool.false_or];exact ih
theorem yH{l:List Value}:fP l->l.contains (.type "Exception")=true:=ja (by decide+kernel) λ_=>rfl
theorem Gk{l:List Value}:fP l->l.contains (.type "object")=true:=ja (by decide+kernel) λ_=>rfl
theorem Gl{l:List Value}:fP l->l.contains (.type "AttributeError")=false:=ja (by decide+kernel) λ_=>rfl
theorem Gm{l:List Value}:fP l->l.contains (.type "NameError")=false:=ja (by decide+kernel) λ_=>rfl
section
variable{prog:Program}{w:World}{A:Around}{E:Value->Shared->Prop}{h:Heap}{g:Array GenState}{d:Drawn}{t:Nat}{os:OsState}
variable{nm q:Str}{C N:Addr}{bs bm:List Value}{n8:Bool}{sn:List Str}{sub:List Value}{ab:Bool}{col:Option Bool}{dd:Option Addr}{k0 k1 k2 k3 k5:Option Value}
theorem CD(ht:fP bm){rest:List Value}{fI:Value}{Q:Value->Shared->Prop}(hC:h.get? C=some (excClassObj nm q C N bs bm n8 sn sub ab col dd k0 k1 k2 k3 k5 "Exception.__new__"))
  (hi:Looks (model prog w) h (typeLookup (.ref C) "__init__") (some fI)) (N7:∀self,Looks (model prog w) h (bindSpecial fI self) (fI,[self]))
  (hq:wpAny (model prog w) (A.under (.builtin "type.__call__" ⟨.ref C::rest,[]⟩)) (call fI (.ref (h.objs.size+1)::rest)) (λv s'=>v=.none/\Q (.ref (h.objs.size+1)) s') E ⟨(h.push {cls:=.type "tuple",data:=.seq rest.toArray}).push {cls:=.ref C,data:=.fields #[.ref h.objs.size,.none,.none,.none,.bool false,.none]},g,d,t,os⟩)
  (hrest:rest.length<=sizeLine:=by size_fits):wpAny (model prog w) A (call (.ref C) rest) Q E ⟨h,g,d,t,os⟩:=by
 have f1:=tc_lookup;have f2:=tc_bind (.ref C);have hT:(⟨h,g,d,t,os⟩:Shared).TypeIs (.ref C) "type":=⟨_,hC,rfl⟩;refine PySem.wpAny_call (codeAny_of_tree ?_);refine(?_:PySem.wpAny _ _ (callAny (.ref C) _) _ _ _)
 repeat (any_goals (first|assumption|with_reducible refine wpAny_loadPart_at hC ?_|wp_step))
 refine⟨rfl,?_⟩;refine codeAny_call_builtin_at (Code.quiet_builtin _ (by decide+kernel)) entry_typeCall (wpAny_check_type_call_sub hC (oc (hrest:=hrest) (yH ht) (Gl ht) (Gm ht) hC hi N7 ?_));exact hq
end
inductive XO(P:Addr->Obj->Prop)(h:Heap)(e C:Addr)(k:Nat):Prop
 |mk (all:∀b o,P b o->h.get? b=some o/\b≠e) (dd:Option Addr) (vs:Array Value) (sl:Array (Option Value)) (a0:Value) (he:h.get? e=some ⟨.ref C,dd,.fields vs,sl⟩) (v0:vs[0]?=some a0) (v1:vs[1]?=some .none)
  (TK:∀d,dd=some d->(∀o,¬P d o)/\d≠e/\∃m j,sO h d m j/\j<=k)
theorem XO.all{P:Addr->Obj->Prop}{h:Heap}{e C:Addr}{k:Nat}:XO P h e C k->∀b o,P b o->h.get? b=some o/\b≠e
 |⟨a,_,_,_,_,_,_,_,_⟩=>a
theorem tU{h:Heap}{a L:Addr}{o:Obj}(n:h.get? L=none)(e:h.get? a=some o):a≠L:=λq=>by rw[q,n] at e;cases e
theorem XO.CE{P:Addr->Obj->Prop}{h:Heap}{e C L:Addr}{k:Nat}(n:h.get? L=none):XO P h e C k->e≠L
 |⟨_,_,_,_,_,he,_,_,_⟩=>tU n he
theorem XO.vz{P:Addr->Obj->Prop}{h h':Heap}{e C L:Addr}{k:Nat}(n:h.get? L=none)(y:∀b o,h.get? b=some o->h'.get? b=some o){oe:Obj}{d:Addr}(h1:h'.get? e=some oe)(h2:oe.dict=some d):XO P h e C k->d≠L
 |⟨_,_,_,_,_,he,_,_,c6⟩=>by
  have:=Option.some.inj ((y _ _ he).symm.trans h1);subst this;obtain⟨_,_,_,_,⟨_,_,_,n1,_⟩,_⟩:=c6 d h2;exact tU n n1
theorem XO.keeps{P:Addr->Obj->Prop}{h h':Heap}{e C:Addr}{k:Nat}(x:XO P h e C k)(y:∀b o,h.get? b=some o->h'.get? b=some o):XO P h' e C k:=
 match x with
 |⟨a,dd,vs,sl,a0,c1,c4,c5,c6⟩=>⟨λb o z=>⟨y _ _ (a b o z).1,(a b o z).2⟩,dd,vs,sl,a0,y _ _ c1,c4,c5,λd hd=>match c6 d hd with
  |⟨d1,d2,m,j,⟨o,es,ep,q1,q2⟩,d4⟩=>⟨d1,d2,m,j,⟨o,es,ep,y _ _ q1,q2⟩,d4⟩⟩
theorem XO.less{P P':Addr->Obj->Prop}{h:Heap}{e C:Addr}{k:Nat}(x:XO P h e C k)(y:∀b o,P' b o->P b o):XO P' h e C k:=
 match x with
 |⟨a,dd,vs,sl,a0,c1,c4,c5,c6⟩=>⟨λb o z=>a b o (y b o z),dd,vs,sl,a0,c1,c4,c5,λd hd=>⟨λo z=>(c6 d hd).1 o (y d o z),(c6 d hd).2⟩⟩
theorem XO.more{P:Addr->Obj->Prop}{h:Heap}{e C:Addr}{k:Nat}(x:XO P h e C k){a:Addr}{oa:Obj}(h1:h.get? a=some oa)(h2:a≠e)(h3:∀oe d,h.get? e=some oe->oe.dict=some d->d≠a):XO (λb o=>P b o∨(b=a/\o=oa)) h e C k:=
 match x with
 |⟨q,dd,vs,sl,a0,c1,c4,c5,c6⟩=>⟨λb o z=>z.elim (q b o) λz=>⟨z.1▸z.2▸h1,z.1▸h2⟩,dd,vs,sl,a0,c1,c4,c5,λd hd=>⟨λo z=>z.elim ((c6 d hd).1 o) λz=>h3 _ d c1 hd z.1,(c6 d hd).2⟩⟩
theorem p6(self:Value){l:List Value}:fP l->refuseLoop self "__setattr__" l=pure ():=λ⟨rs,e⟩=>by
 rw[e];clear e
 induction rs with
 |nil=>show refuseLoop self "__setattr__" [.type "Exception",.type "BaseException",.type "object"]=_;kernel_rfl
 |cons a r ih=>rw[List.map_cons,List.cons_append,refuseLoop_ref];exact ih
section
variable{prog:Program}{w:World}{A:Around}{E:Value->Shared->Prop}{s:Shared}{R:Result->Shared->Prop}
theorem tV{K:Frag}{x C:Addr}{ox:Obj}{od:Option Obj}{name:Str}{tk:Tok}{v:Value}{cd:ClassData}(X:K.In s.heap)(I:InstAt s.heap x ox C od)(hc:clsIn K C=some cd)(ht:fP cd.mro)(hf:findIn K (.ref C) name=some none)
  (h:wpAny (model prog w) A.in1 (storeInOwnDict (.ref x) (.ref C) (.str name tk) name v false)
   (λfin s'=>match fin with|.done f=>R (.ok f) s'|.again c'=>c'.quiet=true/\codeAny (model prog w) A c' R s') (λe s'=>R (.error e) s') s):
  codeAny (model prog w) A (.call (.builtin "object.__setattr__") ⟨[.ref x,.str name tk,v],[]⟩) R s:=by
 have SF:=PySem.F.store_object
 have ne:cd.mro.isEmpty=false:=by obtain⟨rs,e⟩:=ht;rw[e];cases rs<;>rfl
 have sub:Looks (model prog w) s.heap (isInstance (.ref x) (.type "object")) true:=I.type.andThen (looks_mroIn X (by unfold mroIn;rw[hc,Option.bind_some,if_neg (by rw[ne];decide),Gk ht]));refine codeAny_call_builtin SF.slot.plain SF.entry (@check_slot (model prog w) _ _ s "object.__setattr__" "object" "__setattr__" (.ref x) [.str name tk,v] [] _ SF.kind SF.split sub (SF.args (.ref x) (.str name tk) v) ?_);have hm:Looks (model prog w) s.heap (mroOf (.ref C)) cd.mro:=(looks_clsIn X hc).andThen .now;rw[osa_eq,refuse_eq];refine wpAny_bind (wpAny_bind (I.type.here (wpAny_bind (hm.here ?_))));rw[p6 _ ht];refine wpAny_pure (wpAny_bind (I.type.here (wpAny_bind ((looks_findIn X hf).here (wpAny_bind (wpAny_pure ?_))))));exact h
theorem p7{M:Model}{d:Addr}{m:Str->Option Value}{j k:Nat}{n:Str}{tk:Tok}{z:Value}{Q:Fin->Shared->Prop}(hn:sO s.heap d m j)(hj:j<=k)(hk:k<1000)
  (q:∀h',sO h' d (λy=>if y=n then some z else m y) (k+1)->Heap.SameBut d s.heap h'->Q (.done (.ret .none)) {s with heap:=h',toks:=s.toks+1}):wpAny M A (storeInDict d (.str n tk) n z) Q E s:=by
 refine(?_:wpAny _ _ (newKeyGuard d n (.str n _)>>=λ_=>nsSet d n z>>=λ_=>lookBehind d (some (.str n 0))>>=λ_=>ret .none) _ _ _);refine wpAny_bind (wpAny_pure (wpAny_bind (xq hn λh' xp Kd=>?_)))
 have hz:sO h' d (λy=>if y=n then some z else m y) (k+1):=by
  obtain⟨o,es,ep,q1,q2,q3,q4,q5⟩:=xp;refine⟨o,es,ep,q1,q2,q3,Nat.le_trans q4 ?_,q5⟩
  split<;>walk_at "om"
 obtain⟨o,es,ep,q1,q2,q3,q4,q5⟩:=id hz;exact wpAny_bind (wpAny_lookBehind q1 (by rw[q2];exact pastItsLine_dict (by unfold sizeLine;walk_at "om")) (wpAny_pure (q _ hz Kd)))
theorem CF{M:Model}{e C:Addr}{vs:Array Value}{Gn:Array (Option Value)}{cd:ClassData}{Q:Option Addr->Shared->Prop}(c1:s.heap.get? e=some ⟨.ref C,none,.fields vs,Gn⟩)(L:Looks M s.heap (classData C) cd)(hd:cd.hasDict=true)
  (q:Q (some s.heap.objs.size) {s with heap:=(s.heap.push {cls:=.type "dict",data:=.dict #[]}).update e λo=>{o with dict:=some s.heap.objs.size}}):wpAny M A (instanceDict e true) Q E s:=by
 unfold instanceDict;refine wpAny_bind (wpAny_loadPart c1 ?_);dsimp only;refine wpAny_bind (L _ _ _ _ (λ_ _ e=>e) ?_);rw[hd];refine wpAny_bind (wpAny_alloc (wpAny_bind (wpAny_update (o:=⟨.ref C,none,.fields vs,Gn⟩) (Heap.get?_push_of_some _ c1) ?_)));exact wpAny_pure q
theorem Gp{K:Frag}{P:Addr->Obj->Prop}{e C:Addr}{k:Nat}{n:Str}{z:Value}{cd:ClassData}{Q:Unit->Shared->Prop}(X:K.In s.heap)(hc:clsIn K C=some cd)(ht:fP cd.mro)(hd:cd.hasDict=true)(hs:findIn K (.ref C) "__setattr__"=some (some (.builtin "object.__setattr__")))(hf:findIn K (.ref C) n=some none)
  (x:XO P s.heap e C k) (hk:k<1000) (q:∀s',XO P s'.heap e C (k+1)->s'.gens=s.gens->s'.os=s.os->Q () s'):wpAny (model prog w) A (setAttr (.ref e) n z) Q E s:=by
 obtain⟨a,N8,vs,Gn,a0,c1,c4,c5,c6⟩:=x;have L:=looks_clsIn (M:=model prog w) (h:=s.heap) X hc
 cases N8 with
 |none=>
  refine set_plain X (ox:=⟨.ref C,none,.fields vs,Gn⟩) (od:=none) ⟨c1,rfl,rfl,trivial⟩ hs (tV (od:=none) (s:={s with toks:=s.toks+1}) X ⟨c1,rfl,rfl,trivial⟩ hc ht hf ?_);have ne:e≠s.heap.objs.size:=Nat.ne_of_lt (Heap.lt_size c1)
  have Mn:=Heap.get?_update_self (λo=>{o with dict:=some s.heap.objs.size}) (Heap.get?_push_of_some {cls:=.type "dict",data:=.dict #[]} c1) rfl
  have hN:((s.heap.push {cls:=.type "dict",data:=.dict #[]}).update e λo=>{o with dict:=some s.heap.objs.size}).get? s.heap.objs.size=some {cls:=.type "dict",data:=.dict #[]}:=Heap.get?_update_of_ne _ ne (Heap.get?_push_at rfl rfl)
  have other:∀b o,b≠e->s.heap.get? b=some o->((s.heap.push {cls:=.type "dict",data:=.dict #[]}).update e λo=>{o with dict:=some s.heap.objs.size}).get? b=some o:=λb o hb ho=>Heap.get?_update_of_ne _ (Ne.symm hb) (Heap.get?_push_of_some _ ho)
  refine wpAny_bind (wpAny_pure (wpAny_bind (CF (s:={s with toks:=s.toks+1}) c1 L hd ?_)))
  refine p7 (m:=λ_=>none) (j:=0) (k:=k) ⟨_,#[],0,hN,rfl,λe h=>(by simp at h),Nat.le_refl _,λ_=>rfl⟩ (Nat.zero_le _) hk λh' xp sb=>?_
  refine q _ ⟨λb o hb=>⟨?_,(a b o hb).2⟩,_,vs,_,a0,(sb.2 e ne).trans Mn,c4,c5,λd hd=>?_⟩ rfl rfl
  ·obtain⟨h1,h2⟩:=a b o hb;exact(sb.2 b (Nat.ne_of_lt (Heap.lt_size h1))).trans (other b o h2 h1)
  ·injection hd with hd
   subst hd;refine⟨λo ho=>?_,Ne.symm ne,_,_,xp,Nat.le_refl _⟩;have:=Heap.lt_size (a _ o ho).1;exact Nat.lt_irrefl _ this
 |some d=>
  obtain⟨d1,d2,m,j,hn,hj⟩:=c6 d rfl;obtain⟨od,TL,TM,n1,n2⟩:=id hn;refine set_plain X (ox:=⟨.ref C,some d,.fields vs,Gn⟩) (od:=some od) ⟨c1,rfl,rfl,n1⟩ hs (tV (od:=some od) (s:={s with toks:=s.toks+1}) X ⟨c1,rfl,rfl,n1⟩ hc ht hf ?_);refine wpAny_bind (wpAny_pure (wpAny_bind (wpAny_bind (wpAny_loadPart c1 (wpAny_bind (L _ _ _ _ (λ_ _ e=>e) ?_))))));rw[hd];refine wpAny_pure (a:=some d) ?_;refine p7 (s:={s with toks:=s.toks+1}) hn hj hk λh' xp sb=>?_;refine q _ ⟨λb o hb=>⟨?_,(a b o hb).2⟩,_,vs,_,a0,(sb.2 e (Ne.symm d2)).trans c1,c4,c5,λd' hd=>?_⟩ rfl rfl
  ·have:b≠d:=λe=>by subst e;exact d1 o hb
   exact(sb.2 b this).trans (a b o hb).1
  ·injection hd with hd
   subst hd;exact⟨d1,d2,_,_,xp,Nat.le_refl _⟩
end
section
variable{prog:Program}{w:World}{A:Around}{E:Value->Shared->Prop}{h:Heap}{g:Array GenState}{d:Drawn}{t:Nat}{os:OsState}
variable{nm q:Str}{C N:Addr}{bs bm:List Value}{n8:Bool}{sn:List Str}{sub:List Value}{ab:Bool}{col:Option Bool}{dd:Option Addr}{k0 k1 k2 k3 k5:Option Value}
theorem l9{M:Model}(ht:fP bm){e:Addr}{oe:Obj}{rest:List Value}{Q:Unit->Shared->Prop}
  (hC:h.get? C=some (excClassObj nm q C N bs bm n8 sn sub ab col dd k0 k1 k2 k3 k5 "Exception.__new__")) (he:h.get? e=some oe) (lX:oe.cls=.ref C) (hq:Q () ⟨h,g,d,t,os⟩):
  wpAny M A (checkBuiltinCall "Exception.__init__" ⟨.ref e::rest,[]⟩) Q E ⟨h,g,d,t,os⟩:=by
 have F:=PySem.F.excBase_Exception
 have N6:(Value.ref C::bm).contains (.type "Exception")=true:=by rw[List.contains_cons,yH ht,Bool.or_true]
 have N9:=F.noStar;simp only[checkBuiltinCall,F.initKind,F.initSplit,F.initRow]
 repeat (first|(with_reducible refine wpAny_loadPart_at he ?_;rw[lX])|with_reducible refine wpAny_loadPart_at hC ?_|(with_reducible refine wpAny_isSubtype_exc hC ?_;rw[N6])|wp_step)
 refine wpAny_onRaise ?_
 rw[show∀(a b:String)(n:Nat),Bind.check ⟨.positional,"*","Exception",.self,[⟨"args",.varPos,false⟩]⟩ a b n (List.map (λx=>x.fst) ({pos:=Value.ref e::rest}:Args).kw)=pure () from
  λa b n=>check_star_args _ _ _ _ _ _]
 exact wpAny_pure hq
theorem CH{P:Addr->Obj->Prop}{e:Addr}{k:Nat}{v:Value}(ht:fP bm)(hC:h.get? C=some (excClassObj nm q C N bs bm n8 sn sub ab col dd k0 k1 k2 k3 k5 "Exception.__new__"))(x:XO P h e C k):
  PySem.wpAny (model prog w) A (call (.builtin "Exception.__init__") [.ref e,v]) (λr s'=>r=.none/\XO P s'.heap e C k/\s'.gens=g/\s'.os=os) (λ_ _=>False) ⟨h,g,d,t,os⟩:=by
 have F:=PySem.F.excBase_Exception;obtain⟨a,N8,vs,Gn,a0,c1,c4,c5,c6⟩:=id x;refine PySem.wpAny_call (codeAny_call_builtin F.init.plain F.initEntry (l9 ht hC c1 rfl ?_))
 wp_walk
 have Mn:(h.push {cls:=.type "tuple",data:=.seq #[v]}).get? e=some ⟨.ref C,N8,.fields vs,Gn⟩:=Heap.get?_push_of_some _ c1
 rw[c4]
 refine PySem.wpAny_pure (PySem.wpAny_bind (wpAny_setField Mn rfl (by
  rcases Nat.lt_or_ge 0 vs.size with q|q
  ·exact q
  ·rw[Array.getElem?_eq_none q] at c4;cases c4) ?_))
 have fin:∀s':Shared,s'=⟨(h.push {cls:=.type "tuple",data:=.seq #[v]}).update e (Obj.mapFields (·.setIfInBounds 0 (.ref h.objs.size))),g,d,t,os⟩->XO P s'.heap e C k/\s'.gens=g/\s'.os=os:=by
  rintro s' rfl
  refine⟨⟨λb o hb=>⟨?_,(a b o hb).2⟩,_,_,_,.ref h.objs.size,Heap.get?_update_self _ Mn rfl,?_,?_,λd hd=>?_⟩,rfl,rfl⟩
  ·exact Heap.get?_update_of_ne _ (Ne.symm (a b o hb).2) (Heap.get?_push_of_some _ (a b o hb).1)
  ·refine(?_:(vs.setIfInBounds 0 _)[0]?=_);rw[Array.getElem?_setIfInBounds_self];rw[if_pos]
   rcases Nat.lt_or_ge 0 vs.size with q|q
   ·exact q
   ·rw[Array.getElem?_eq_none q] at c4;cases c4
  ·refine(?_:(vs.setIfInBounds 0 _)[1]?=_);rw[Array.getElem?_setIfInBounds_ne (by decide)];exact c5
  ·obtain⟨d1,d2,m,j,⟨o,es,ep,q1,q2⟩,d4⟩:=c6 d hd;exact⟨d1,d2,m,j,⟨o,es,ep,Heap.get?_update_of_ne _ (Ne.symm d2) (Heap.get?_push_of_some _ q1),q2⟩,d4⟩
 cases a0 with
 |ref b=>exact wpAny_letGo (PySem.wpAny_pure ⟨rfl,fin _ rfl⟩)
 |_=>exact PySem.wpAny_pure (PySem.wpAny_pure ⟨rfl,fin _ rfl⟩)
end
end Mine
end
section
open PySem PySem.W PyProof PyProof.Rows
namespace Mine
structure Oa(B:Bg)(f:Addr)(fd:FuncData)(p:Str)(body:List Stmt):Prop where
 o:∃o,B.h0.get? f=some o/\o.data=.func fd
 code:B.h0.CodeRec fd.code fd.qualname
 body:fd.body=.stmts body
 kind:fd.scope.kind=.function
 Gq:fd.scope.isCoroutine=false
 gen:fd.scope.isGenerator=false
 B7:fd.closure=[]
 gl:fd.globals=mainGlobals
 bl:fd.builtins=builtinsNs
 l0:fd.scope.names.lookup ("self":Str)=some .local
 l1:fd.scope.names.lookup p=some .local
 ne:("self":Str)≠p
 bind:∀s v0 v1,B.h0.StaysIn s.heap->BindsTo s fd ⟨[v0,v1],[]⟩ [("self",v0),(p,v1)]
noncomputable def kX(P:Addr->Obj->Prop)(L:Addr)(n:Str)(v:Value):Prop:=∃o es ep,P L o/\o.data=.dict es ep/\StrKeys es/\nsFind es n=some v
section
variable{B:Bg}{A:Around}{s:Shared}{P:Addr->Obj->Prop}{e C f:Addr}{k k':Nat}{fd:FuncData}{p:Str}{body:List Stmt}{v:Value}
noncomputable abbrev KO(fd:FuncData)(f L:Addr):Env:=newEnv fd.scope L fd.globals (cellsFrom (L+1) fd.scope.names []) (fd.qualname++".<locals>.") (some f) fd.code none fd.builtins
theorem CI(fx:Fx B)(I:Oa B f fd p body)(base:∀b o,B.h0.get? b=some o->P b o)(x:XO P s.heap e C k)(room:A.depth<recursionLimit)
  (H:∀env s₁ P',cJ ⟨[],fd.scope,0⟩ env->(∀b o,P b o->P' b o)->XO P' s₁.heap e C k->kX P' env.locals "self" (.ref e)->kX P' env.locals p v->
   wpAny (model B.prog B.w) (A.deeper env) (execs body env) (λfl s'=>fl=.next/\XO P' s'.heap e C k'/\s'.gens=s₁.gens/\s'.os=s₁.os) (λ_ _=>False) s₁):
  wpAny (model B.prog B.w) A (PySem.call (.ref f) [.ref e,v]) (λr s'=>r=.none/\XO P s'.heap e C k'/\s'.gens=s.gens/\s'.os=s.os) (λ_ _=>False) s:=by
 obtain⟨o,ho,yG⟩:=I.o;have st:B.h0.StaysIn s.heap:=λb o h=>(x.all b o (base b o h)).1;refine PySem.wpAny_call (codeAny_call_function (body:=body) room (st _ _ ho) yG I.Gq I.gen I.body (I.code.keeps st) (I.bind s _ _ st _ _ _ _ ?_));rw[I.B7];refine wpAny_newFunctionEnv_cells I.kind (λy hy=>?_) λenv he s₁ y=>?_
 ·simp only[List.mem_cons,List.not_mem_nil,or_false] at hy
  rcases hy with rfl|rfl
  ·exact .inl I.l0
  ·exact .inl I.l1
 ·subst he;refine⟨fx.xb.keeps λb o e=>y.toInCall.keep b o (st b o e),codeAny_func ?_⟩;have nL:s.heap.get? s.heap.objs.size=none:=bz _;obtain⟨hp,tk,es⟩:=y.toInCall.same;have kp:=y.toInCall.keep;have ok:cJ ⟨[],fd.scope,0⟩ (KO fd f s.heap.objs.size):=⟨rfl,I.gl,I.bl,I.kind⟩;obtain⟨oL,eL,ep,g1,g2,g3,g4⟩:=y.toInCall.ns
  refine wpAny_mono (H (KO fd f s.heap.objs.size) s₁ _ ok (λb o h=>.inl h) ((x.keeps kp).more g1 (x.CE nL).symm λQj d h1 h2=>x.vz nL kp h1 h2)
   ⟨oL,eL,ep,.inr ⟨rfl,rfl⟩,g2,g3,(g4 _).trans (i9 (ps:=[("self":Str),p]) (xs:=[.ref e,v]) I.l0 _ 0 (by simpa using I.ne) rfl rfl)⟩
   ⟨oL,eL,ep,.inr ⟨rfl,rfl⟩,g2,g3,(g4 _).trans (i9 (ps:=[("self":Str),p]) (xs:=[.ref e,v]) I.l1 _ 1 (by simpa using I.ne) rfl rfl)⟩) (λfl s' h=>?_) λ_ _ h=>h.elim
  obtain⟨rfl,z,h1,h2⟩:=h;exact⟨rfl,z.less λb o h=>.inl h,by rw[h1,es],by rw[h2,es]⟩
theorem gO{N:NC}{env:Env}{n:Str}{pos:Pos}{z:Value}{E:Value->Shared->Prop}(ok:cJ N env)(hl:N.sc.names.lookup n=some .local)(hd:(n==("__debug__":Str))=false)(x:XO P s.heap e C k)(h:kX P env.locals n z){Q:Value->Shared->Prop}(q:Q z s):
  wpAny (model B.prog B.w) A (eval (.Name n pos) env) Q E s:=by
 obtain⟨o,es,ep,h1,h2,h3,h4⟩:=h;exact wpAny_Name (wpAny_loadName_local ok.fn (by rw[ok.of];exact hl) ⟨o,es,ep,(x.all _ _ h1).1,h2,h3,λ_=>rfl⟩ h4 q) hd
end
structure mF(B:Bg)(N:NC)(bn:Str)(bv g:Value):Prop where
 name:∀A(s:Shared) env(Q:Value->Shared->Prop) E pos,cJ N env->B.h0.StaysIn s.heap->Q bv s->wpAny (model B.prog B.w) A (eval (.Name bn pos) env) Q E s
 get:∀A(s:Shared) pl(Q:Value×List Value->Shared->Prop) E,B.h0.StaysIn s.heap->(∀s',s'.heap=s.heap->s'.gens=s.gens->s'.os=s.os->Q (g,[]) s')->wpAny (model B.prog B.w) A (getMethod bv "__init__" pl) Q E s
 keep:∀h,B.h0.StaysIn h->∃k,(k=Keeper.frame∨k=Keeper.machine∨k=Keeper.boundFrame)/\Looks (model B.prog B.w) h (keeperOf g) k
noncomputable def kY(B:Bg)(A:Around)(g:Value)(e C:Addr)(n:Nat):Prop:=∀(P:Addr->Obj->Prop)(s:Shared)(k:Nat) v,(∀b o,B.h0.get? b=some o->P b o)->XO P s.heap e C k->k<900->
 wpAny (model B.prog B.w) A (PySem.call g [.ref e,v]) (λr s'=>r=.none/\XO P s'.heap e C (k+n)/\s'.gens=s.gens/\s'.os=s.os) (λ_ _=>False) s
inductive Gr(K:Frag)(C:Addr):Prop
 |mk (nm q:Str) (N:Addr) (bs:List Value) (rs:List Addr) (sn:List Str) (sub:List Value) (ab:Bool) (col:Option Bool) (dd:Option Addr) (k0 k1 k2 k3 k5:Option Value)
  (h:K.lookup C=some (excClassObj nm q C N bs (rs.map .ref++[.type "Exception",.type "BaseException",.type "object"]) true sn sub ab col dd k0 k1 k2 k3 k5 "Exception.__new__"))
structure gB(K:Frag)(C:Addr)(fl:List Str):Prop where
 obj:Gr K C
 cls:∃cd,clsIn K C=some cd/\fP cd.mro/\cd.hasDict=true
 sa:findIn K (.ref C) "__setattr__"=some (some (.builtin "object.__setattr__"))
 fld:∀n∈fl,findIn K (.ref C) n=some none
section
variable{B:Bg}{A:Around}{s:Shared}{P:Addr->Obj->Prop}{e C f:Addr}{k n:Nat}{fd:FuncData}{p fld bn:Str}{v bv g:Value}{q1 q2 q3 q4 q5 ap El cp ep:Pos}{arg:Expr}{fl:List Str}
noncomputable abbrev p8(bn p fld:Str)(arg:Expr)(q1 q2 q3 q4 q5 ap El cp ep:Pos):List Stmt:=
 [.Expr (.Call (.Attribute (.Name bn q1) "__init__" ap) [.Name "self" q2,arg] [] cp) ep,.Assign [.Attribute (.Name "self" q3) fld El] (.Name p q4) q5]
theorem vA(fx:Fx B)(hK:B.K.In B.h0)(XC:gB B.K C fl)(DX:fld∈fl)(I:Oa B f fd p (p8 bn p fld arg q1 q2 q3 q4 q5 ap El cp ep))(Ib:mF B ⟨[],fd.scope,0⟩ bn bv g)(hl:(ap.endLine==cp.line)=true)(hp:(p==("__debug__":Str))=false)
  (ht:∀env,backTo cp (starEach [.Name "self" q2,arg] env)=[(false,eval (.Name "self" q2) env),(false,eval arg env)])
  (Gs:∀A(P:Addr->Obj->Prop)(s:Shared) env(Q:Value->Shared->Prop) E v k,cJ ⟨[],fd.scope,0⟩ env->XO P s.heap e C k->kX P env.locals p v->(∀z s',s'.heap=s.heap->s'.gens=s.gens->s'.os=s.os->Q z s')->wpAny (model B.prog B.w) A (eval arg env) Q E s)
  (room:A.depth<recursionLimit) (D:∀env,kY B (A.deeper env) g e C n) (hn:n<90):kY B A (.ref f) e C (n+1):=λP s k v base x hk=>by
 refine CI fx I base x room λenv s₁ P' ok le x1 h1 h2=>?_;have Em:∀b o,B.h0.get? b=some o->P' b o:=λb o h=>le b o (base b o h);have st:∀{s:Shared}{k},XO P' s.heap e C k->B.h0.StaysIn s.heap:=λx b o h=>(x.all b o (Em b o h)).1;refine wpAny_execs_cons ?_;rw[exec_Expr env _ ep (gz ok.fn) rfl];refine wpAny_bind (wpAny_standAt (wpAny_bind ?_))
 refine(?_:wpAny _ _ (do
   let ov←attributeBase (.Name bn q1) "__init__" env (eval (.Name bn q1) env)
   standAt ap.atName
   methodCall (.Name bn q1) "__init__" ap cp env ov 2 (backTo cp (starEach [.Name "self" q2,arg] env)) []) _ _ _)
 rw[iY rfl];refine wpAny_bind (Ib.name _ _ _ _ _ _ ok (st x1) (wpAny_bind (wpAny_standAt ?_)));rw[ht env,eU rfl (by decide) hl];refine wpAny_bind (wpAny_holding (Ib.get _ _ _ _ _ (st x1) λs2 e1 e2 e3=>?_))
 have x2:XO P' s2.heap e C k:=by rw[e1];exact x1
 refine callWith_of (P:=λh=>B.h0.StaysIn h) rfl Ib.keep (dU rfl (Calls.spliced_cons (gO ok I.l0 (by decide) x2 h1 (Calls.spliced_cons (Gs _ _ _ _ _ _ _ _ ok x2 h2 λz s3 i1 i2 i3=>Calls.spliced_nil ?_)))))
 have x3:XO P' s3.heap e C k:=by rw[i1];exact x2
 refine⟨st x3,wpAny_mono (D env P' s3 k z Em x3 hk) (λr s4 h=>?_) λ_ _ h=>h.elim⟩;obtain⟨rfl,x4,j2,j3⟩:=h;refine wpAny_dropValue ?_;refine wpAny_execs_cons ?_;rw[cu (by rfl) (by rfl)];refine wpAny_bind (wpAny_standAt (wpAny_bind (gO ok I.l1 hp x4 h2 ?_)));refine(?_:wpAny _ _ (do(do let ov←holding [v] (eval (.Name "self" q3) env);standAt El.atName;holding [v,ov] (setAttr ov fld v);release [v,ov] []);pure Flow.next) _ _ _);refine wpAny_bind (wpAny_bind (wpAny_holding (gO ok I.l0 (by decide) x4 h1 (wpAny_bind (wpAny_standAt (wpAny_bind (wpAny_holding ?_)))))));obtain⟨cd,hc,ht,hd⟩:=XC.cls;refine Gp (hK.keeps (st x4)) hc ht hd XC.sa (XC.fld _ DX) x4 (by exact Jl [n,k] 1 (.c 1 (.p J0 1) (.k 90) (.c 1 (.p J1 1) (.k 900) .z)) (.p (.a J1 J0) 1) (.k 1000) Jt hn hk) λs5 x5 g5 o5=>?_;exact wpAny_release' (wpAny_pure (wpAny_execs_nil ⟨rfl,x5,by rw[g5,j2,i2,e2],by rw[o5,j3,i3,e3]⟩))
end
section
variable{B:Bg}{A:Around}{s:Shared}{P:Addr->Obj->Prop}{e C f C':Addr}{k n:Nat}{fd:FuncData}{p fld bn:Str}{v bv g:Value}{q1 q2 q3 q4 q5 ap El cp ep:Pos}{arg:Expr}{fl:List Str}{N:NC}
theorem ma(K:Frag):findCls K (.type "Exception") (.type "type") "__init__"=some (.val (.builtin "Exception.__init__")):=by kernel_rfl
theorem yI:typeOf (.type "Exception")=pure (.type "type"):=by kernel_rfl
theorem yJ:Manifest.isStub "Exception"=false:=by kernel_rfl
theorem yK(fx:Fx B)(hK:B.K.In B.h0)(hg:br N "Exception"=true)(hn:B.mg "Exception"=none)(hv:B.mb "Exception"=some (.type "Exception")):mF B N "Exception" (.type "Exception") (.builtin "Exception.__init__") where
 name:=λA s env Q E pos ok st q=>kN fx ok st hg hn hv q
 keep:=cM rfl
 get:=λA s pl Q E st q=>by
  have X:=hK.keeps st
  have KP:opaqueClassAbove (.type "Exception")=pure none:=by unfold opaqueClassAbove;dsimp only;rw[yJ];rfl
  have L0:Looks (model B.prog B.w) s.heap (typeOf (.type "Exception")) (.type "type"):=Looks.of_pure yI;have hg:findIn B.K (.type "type") "__getattribute__"=some (some (.builtin "type.__getattribute__")):=type_tga;unfold getMethod specialOf;refine wpAny_bind (wpAny_bind (L0.here ((looks_findIn X hg).here ?_)));dsimp only;rw[if_pos canon_tga];refine wpAny_bind (wpAny_mono (Q:=λv=>Q (v,[])) (E:=E) ?_ (λ_ _ z=>wpAny_pure z) λ_ _ z=>z);have LO:Looks (model B.prog B.w) s.heap (opaqueClassAbove (.type "Exception")) none:=Looks.of_pure KP;refine cls_open X LO L0 hg (looks_hook X (r:=none) (by rfl)) (by show subIn B.K _ _=_;rfl) (ma B.K)
   (wpAny_pure (by show wpAny _ _ (handedOut _) _ _ _;rw[handedOut_of rfl];exact wpAny_pure (q _ rfl rfl rfl)))
theorem yL(fx:Fx B)(hK:B.K.In B.h0)(hg:br N bn=true)(hv:B.mg bn=some (.ref C'))(hr:readsIn B.K C' (.type "type")=true)(e:findCls B.K (.ref C') (.type "type") "__init__"=some (.val (.ref f)))
  (Sp:specialIn B.K (.ref C') "__getattribute__"=some (some (.builtin "type.__getattribute__"))) (hk:keepIn B.K (.ref f)=true):mF B N bn (.ref C') (.ref f) where
 name:=λA s env Q E pos ok st q=>nT fx ok st hg hv q
 keep:=c8 hK hk
 get:=λA s pl Q E st q=>method_cls (hK.keeps st) Sp (cls_value (hK.keeps st) hr e rfl (q _ rfl rfl rfl))
theorem yM(hK:B.K.In B.h0)(XC:gB B.K C fl):kY B A (.builtin "Exception.__init__") e C 0:=λP s k v base x hk=>by
 obtain⟨nm,q,N,bs,rs,sn,sub,ab,col,dd,k0,k1,k2,k3,k5,ho⟩:=XC.obj;obtain⟨h,g,d,t,os⟩:=s;exact CH ⟨rs,rfl⟩ ((hK.keeps λb o z=>(x.all b o (base b o z)).1) _ _ ho) x
theorem yN(hl:fd.scope.names.lookup p=some .local)(hd:(p==("__debug__":Str))=false)(pos:Pos):∀A(P:Addr->Obj->Prop)(s:Shared) env(Q:Value->Shared->Prop) E v k,cJ ⟨[],fd.scope,0⟩ env->XO P s.heap e C k->kX P env.locals p v->(∀z s',s'.heap=s.heap->s'.gens=s.gens->s'.os=s.os->Q z s')->wpAny (model B.prog B.w) A (eval (.Name p pos) env) Q E s:=
 λA P s env Q E v k ok x h q=>gO ok hl hd x h (q _ _ rfl rfl rfl)
theorem arg_str(t:Str)(kd:Nat)(pos:Pos):∀A(P:Addr->Obj->Prop)(s:Shared) env(Q:Value->Shared->Prop) E v k,cJ ⟨[],fd.scope,0⟩ env->XO P s.heap e C k->kX P env.locals p v->(∀z s',s'.heap=s.heap->s'.gens=s.gens->s'.os=s.os->Q z s')->wpAny (model B.prog B.w) A (eval (.Constant (.str t) kd pos) env) Q E s:=
 λA P s env Q E v k ok x h q=>wpAny_mkText (q _ _ rfl rfl rfl)
theorem kZ(hK:B.K.In B.h0)(XC:gB B.K C fl)(hi:findIn B.K (.ref C) "__init__"=some (some (.ref f)))(hf:typeIn B.K (.ref f)=some (.type "function"))(base:B.h0.StaysIn s.heap){x:Value}
  (D:∀e,kY B (A.under (.builtin "type.__call__" ⟨[.ref C,x],[]⟩)) (.ref f) e C n):
  wpAny (model B.prog B.w) A (PySem.call (.ref C) [x]) (λv s'=>(∃ea oe vs a0,v=.ref ea/\(∀b o,s.heap.get? b=some o->s'.heap.get? b=some o)/\s.heap.get? ea=none/\s'.heap.get? ea=some oe/\oe.cls=.ref C/\oe.data=.fields vs/\vs[0]?=some a0/\vs[1]?=some .none)/\s'.gens=s.gens/\s'.os=s.os) (λ_ _=>False) s:=by
 have X:=hK.keeps base;obtain⟨nm,q,N,bs,rs,sn,sub,ab,col,dd,k0,k1,k2,k3,k5,ho⟩:=XC.obj;obtain⟨h,g,d,t,os⟩:=s;refine CD ⟨rs,rfl⟩ (X _ _ ho) (looks_findIn X hi) (λself=>bind_fn X self hf) ?_ (by unfold sizeLine;simp)
 have keep:∀b o,h.get? b=some o->((h.push {cls:=.type "tuple",data:=.seq [x].toArray}).push {cls:=.ref C,data:=.fields #[.ref h.objs.size,.none,.none,.none,.bool false,.none]}).get? b=some o:=λb o e=>Heap.get?_push_of_some _ (Heap.get?_push_of_some _ e)
 have wV:((h.push {cls:=.type "tuple",data:=.seq [x].toArray}).push {cls:=.ref C,data:=.fields #[.ref h.objs.size,.none,.none,.none,.bool false,.none]}).get? (h.objs.size+1)=some
   {cls:=.ref C,data:=.fields #[.ref h.objs.size,.none,.none,.none,.bool false,.none]}:=by heap_get
 have nw:h.get? (h.objs.size+1)=none:=Heap.get?_none_of_le (Nat.le_succ _)
 have x0:XO (λb o=>h.get? b=some o) ((h.push {cls:=.type "tuple",data:=.seq [x].toArray}).push {cls:=.ref C,data:=.fields #[.ref h.objs.size,.none,.none,.none,.bool false,.none]}) (h.objs.size+1) C 0:=
  ⟨λb o z=>⟨keep b o z,λq=>by rw[q,nw] at z;cases z⟩,_,_,_,.ref h.objs.size,wV,rfl,rfl,λd hd=>nomatch hd⟩
 refine wpAny_mono (D (h.objs.size+1) _ _ 0 x (λb o z=>base b o z) x0 (by decide)) (λr s' z=>?_) λ_ _ z=>z.elim;obtain⟨rfl,⟨y1,TN,vs,sl,a0,y2,y5,y6,_⟩,y7,y8⟩:=z;exact⟨rfl,⟨_,_,vs,a0,rfl,λb o z=>(y1 b o z).1,nw,y2,rfl,rfl,y5,y6⟩,y7,y8⟩
end
noncomputable abbrev jT:=Addr->Option Obj
noncomputable def mG(es:List DictEntry)(n:Str):Option Value:=(es.find? λe=>e.key.isStr n).map (·.val)
noncomputable def CJ(x:Value)(f:Bool->Bool):Bool:=aR x.ctorIdx 3 λh=>Value.bool.elim (motive:=λ_=>Bool) x h f
noncomputable def vB(x:Value)(f:Int->Bool):Bool:=aR x.ctorIdx 4 λh=>Value.int.elim (motive:=λ_=>Bool) x h λj _=>f j
noncomputable def qa(x:Value)(f:Str->Bool):Bool:=aR x.ctorIdx 6 λh=>Value.str.elim (motive:=λ_=>Bool) x h λt _=>f t
noncomputable def CL(x:Value)(f:String->Bool):Bool:=aR x.ctorIdx 8 λh=>Value.type.elim (motive:=λ_=>Bool) x h f
noncomputable def vC(x:Value)(f:Addr->Bool):Bool:=aR x.ctorIdx 10 λh=>Value.ref.elim (motive:=λ_=>Bool) x h f
noncomputable def CM(x:Value):Bool:=aR x.ctorIdx 0 λ_=>true
noncomputable def CN(d:Data)(f:Array Value->Bool):Bool:=aR d.ctorIdx 2 λh=>Data.seq.elim (motive:=λ_=>Bool) d h λxs _=>f xs
noncomputable def CO(d:Data)(f:Array DictEntry->Bool):Bool:=aR d.ctorIdx 3 λh=>Data.dict.elim (motive:=λ_=>Bool) d h λxs _=>f xs
noncomputable def Gu(d:Data)(f:Array Value->Bool):Bool:=aR d.ctorIdx 9 λh=>Data.fields.elim (motive:=λ_=>Bool) d h f
noncomputable def rT(g:jT)(a:Addr)(f:Obj->Bool):Bool:=cO (g a) f false
theorem Gv{x:Value}{f:Bool->Bool}(h:CJ x f=true):∃b,x=.bool b/\f b=true:=Value.bool.elim (motive:=λx=>CJ x f=true->∃b,x=.bool b/\f b=true) x (ar h) (λb e=>⟨b,rfl,e⟩) h
theorem yO{x:Value}{f:Int->Bool}(h:vB x f=true):∃j t,x=.int j t/\f j=true:=Value.int.elim (motive:=λx=>vB x f=true->∃j t,x=.int j t/\f j=true) x (ar h) (λb t e=>⟨b,t,rfl,e⟩) h
theorem og{x:Value}{f:Str->Bool}(h:qa x f=true):∃j t,x=.str j t/\f j=true:=Value.str.elim (motive:=λx=>qa x f=true->∃j t,x=.str j t/\f j=true) x (ar h) (λb t e=>⟨b,t,rfl,e⟩) h
theorem yP{x:Value}{f:String->Bool}(h:CL x f=true):∃j,x=.type j/\f j=true:=Value.type.elim (motive:=λx=>CL x f=true->∃j,x=.type j/\f j=true) x (ar h) (λb e=>⟨b,rfl,e⟩) h
theorem oh{x:Value}{f:Addr->Bool}(h:vC x f=true):∃j,x=.ref j/\f j=true:=Value.ref.elim (motive:=λx=>vC x f=true->∃j,x=.ref j/\f j=true) x (ar h) (λb e=>⟨b,rfl,e⟩) h
theorem yQ{x:Value}(h:CM x=true):x=.none:=Value.none.elim (motive:=λx=>x=.none) x (ar h) rfl
theorem yR{d:Data}{f:Array Value->Bool}(h:CN d f=true):∃xs n,d=.seq xs n/\f xs=true:=Data.seq.elim (motive:=λd=>CN d f=true->∃xs n,d=.seq xs n/\f xs=true) d (ar h) (λb t e=>⟨b,t,rfl,e⟩) h
theorem yS{d:Data}{f:Array DictEntry->Bool}(h:CO d f=true):∃xs n,d=.dict xs n/\f xs=true:=Data.dict.elim (motive:=λd=>CO d f=true->∃xs n,d=.dict xs n/\f xs=true) d (ar h) (λb t e=>⟨b,t,rfl,e⟩) h
theorem Gw{d:Data}{f:Array Value->Bool}(h:Gu d f=true):∃xs,d=.fields xs/\f xs=true:=Data.fields.elim (motive:=λd=>Gu d f=true->∃xs,d=.fields xs/\f xs=true) d (ar h) (λb e=>⟨b,rfl,e⟩) h
theorem lb{g:jT}{a:Addr}{f:Obj->Bool}(h:rT g a f=true):∃o,g a=some o/\f o=true:=by
 unfold rT at h
 cases e:g a with
 |none=>rw[e] at h;cases h
 |some o=>rw[e] at h;exact⟨o,rfl,h⟩
noncomputable def Ob(o:Obj):List DictEntry:=if h:o.data.ctorIdx=3 then(Data.dict.elim (motive:=λ_=>Array DictEntry) o.data h λes _=>es).toList else[]
noncomputable def lh(g:jT)(a:Addr):Option (List DictEntry):=cB (rT g a λo=>CO o.data λes=>es.toList.all λe=>qa e.key λ_=>true) (cO (g a) (λo=>some (Ob o)) none) none
noncomputable def QE(g:jT)(vs:List LV)(ih:List Value->Bool)(x:Value):Bool:=vC x λa=>d6 vs&&rT g a λo=>CL o.cls (λt=>t=="list")&&CN o.data λxs=>ih xs.toList
noncomputable def QF(ih:Value->Bool)(Fp:List Value->Bool)(l:List Value):Bool:=cL l false λx xs=>ih x&&Fp xs
noncomputable def Mo(g:jT)(v:LV):Value->Bool:=@LV.rec (λ_=>Value->Bool) (λ_=>List Value->Bool) (λ_=>false) CM (λb x=>CJ x λc=>b==c) (λi x=>vB x λj=>decide (i=j)) (λs x=>qa x λt=>t==toS s)
 (λ_ _ _=>false) (QE g) (λ_ _=>false) (λl=>cL l true λ_ _=>false) (λ_ _=>QF) v
noncomputable def CP(g:jT)(vs:List LV):List Value->Bool:=@LV.rec_1 (λ_=>Value->Bool) (λ_=>List Value->Bool) (λ_=>false) CM (λb x=>CJ x λc=>b==c) (λi x=>vB x λj=>decide (i=j)) (λs x=>qa x λt=>t==toS s)
 (λ_ _ _=>false) (QE g) (λ_ _=>false) (λl=>cL l true λ_ _=>false) (λ_ _=>QF) vs
noncomputable def yT(es:List DictEntry):List (List Nat×Int)->Bool:=@List.rec DictEntry (λ_=>List (List Nat×Int)->Bool) (λd=>cL d true λ_ _=>false)
 (λe _ ih d=>cL d false λp d=>qa e.key (λt=>t==toS p.1)&&vB e.val (λj=>decide (j=p.2))&&ih d) es
noncomputable def codeB(g:jT)(cd:Value)(q:Str):Bool:=vC cd λc=>rT g c λo=>Gu o.data λvs=>cL vs.toList false λ_ r=>cL r false λy _=>qa y λn=>n==q
noncomputable def yU(fd:FuncData)(ps:List Str):Bool:=fd.params.posonlyargs.isEmpty&&fd.params.kwonlyargs.isEmpty&&fd.params.vararg.isNone&&fd.params.kwarg.isNone&&(fd.params.args.map (·.arg))==ps
noncomputable def En(g:jT)(dv:Value)(ds:List LV):Bool:=(CM dv&&ds.isEmpty)||vC dv λt=>rT g t λo=>CN o.data λxs=>CP g ds xs.toList&&Nat.beq ds.length 5
noncomputable def bX(g:jT)(a:Addr):FuncData:=match g a with
 |some ⟨_,_,.func fd,_⟩=>fd
 |_=>default
noncomputable def isFn:Option Obj->Bool
 |some ⟨_,_,.func _,_⟩=>true
 |_=>false
noncomputable def Oc(g:jT)(f:Nat)(lf:LF):Bool:=
 isFn (g (jr f))&&codeB g (bX g (jr f)).code (bX g (jr f)).qualname&&Ge (bX g (jr f)).closure&&Nat.beq (bX g (jr f)).globals mainGlobals&&Nat.beq (bX g (jr f)).builtins builtinsNs&&yU (bX g (jr f)) ((names0 f).take lf.np)&&(En g (bX g (jr f)).defaults lf.dflt&&(lf.dflt.isEmpty||Nat.beq f 48))
noncomputable def Gx(g:jT)(f:Nat):Option (FuncBody×Scope):=some ((bX g (jr f)).body,(bX g (jr f)).scope)
noncomputable def oi(b:FuncBody)(sc:Scope):FuncData:={name:="",qualname:="",params:=⟨[],[],none,[],[],none,[]⟩,body:=b,scope:=sc,globals:=mainGlobals,closure:=[],defaults:=.none,kwdefaults:=.none,builtins:=builtinsNs}
noncomputable def jU{α:Type}:Tr α->(Nat->α->Bool)->Bool
 |.nil,_=>true
 |.node v l r,p=>p 0 v&&jU l (λk v=>p (2*k+1) v)&&jU r (λk v=>p (2*k+2) v)
noncomputable def CQ(K:Frag)(c:Nat):Bool:=findIn K (.ref (dN c)) "__getattribute__"==some (some (.builtin "object.__getattribute__"))&&findIn K (.ref (dN c)) "__getattr__"==some none&&
 findIn K (.ref (dN c)) "__setattr__"==some (some (.builtin "object.__setattr__"))&&plainOver K (dN c)&&hasDictIn K (dN c)&&(jF.bK c).all (λn=>findIn K (.ref (dN c)) n==some none)
noncomputable def QG:List Bi:=[.len,.ord,.chr,.min,.max,.int,.str,.list,.isInt,.isStr,.isRef]
structure IX(g:jT)(f:Addr)(p bn fld:Str)(arg:Expr):Prop where
 o:(g f).map (·.data)=some (.func (bX g f))
 code:codeB g (bX g f).code (bX g f).qualname=true
 kind:(bX g f).scope.kind=.function
 Gq:(bX g f).scope.isCoroutine=false
 gen:(bX g f).scope.isGenerator=false
 B7:(bX g f).closure=[]
 gl:(bX g f).globals=mainGlobals
 bl:(bX g f).builtins=builtinsNs
 l0:(bX g f).scope.names.lookup ("self":Str)=some .local
 l1:(bX g f).scope.names.lookup p=some .local
 Sq:br ⟨[],(bX g f).scope,0⟩ bn=true
 p1:(bX g f).params.posonlyargs=[]
 p2:(bX g f).params.kwonlyargs=[]
 p3:(bX g f).params.vararg=none
 p4:(bX g f).params.kwarg=none
 p5:(bX g f).params.args.map (·.arg)=[("self":Str),p]
 df:(bX g f).defaults=.none
 body:∃q1 q2 q3 q4 q5 ap El cp ep,(bX g f).body=.stmts (p8 bn p fld arg q1 q2 q3 q4 q5 ap El cp ep)/\(ap.endLine==cp.line)=true
noncomputable def lj(K:Frag)(eg eb:List DictEntry):Bool:=
 QG.all (λb=>mG eg (bM b)==none&&mG eb (bM b)==some (hG b))&&(match mG eg "Ref" with|some C=>kitOne K (.type "str") C==some false|none=>false)&&
 (List.range 84).all (λf=>jF.gd f==("":Str)||(mG eg (jF.gd f)==some (.ref (jr f))&&keepIn K (.ref (jr f))))&&
 (List.range 8).all (λc=>jF.cD c==("":Str)||(mG eg (jF.cD c)==some (.ref (dN c))&&keepIn K (.ref (dN c))))&&
 mG eg "range"==none&&mG eb "range"==some (.type "range")
noncomputable def QH(g:jT)(eg:List DictEntry):Bool:=(List.range tT.length).all λi=>eF (jF.a7 i)&&cO (mG eg (jF.me i)) (λx=>Mo g (jF.a7 i) x) false
noncomputable def QI(g:jT)(eg:List DictEntry):Bool:=cO (mG eg "FIXED") (λx=>vC x λa=>!(a==sysModules)&&rT g a λo=>CL o.cls (λt=>t=="dict")&&o.dict.isNone&&o.slots.isEmpty&&CO o.data λes=>yT es.toList (jI.headD [])) false
noncomputable def yV(K:Frag)(c m f:Nat):Bool:=findIn K (.ref (dN c)) (jF.gX m)==some (some (.ref (jr f)))&&typeIn K (.ref (jr f))==some (.type "function")&&keepIn K (.ref (jr f))&&!(jF.bK c).contains (jF.gX m)
noncomputable def hJ(K:Frag)(c f:Nat):Bool:=makesIn K (dN c)&&findIn K (.ref (dN c)) "__init__"==some (some (.ref (jr f)))&&typeIn K (.ref (jr f))==some (.type "function")
noncomputable def Gy(g:jT)(K:Frag)(eg eb:List DictEntry):Bool:=
 (List.range 8).all (λc=>[1,2,3].all λc'=>mroIn K (dN c) (.ref (dN c'))==some (Nat.beq c' c))&&[1,2,3].all (λc=>mroIn K (dN c) (.type "BaseException")==some true&&typeIn K (.ref (dN c))==some (.type "type"))&&
 mG eg "Exception"==none&&mG eb "Exception"==some (.type "Exception")&&mG eg "PerlError"==some (.ref 213)&&readsIn K 213 (.type "type")&&(match findCls K (.ref 213) (.type "type") "__init__" with|some (.val (.ref f))=>f==210|_=>false)&&
 specialIn K (.ref 213) "__getattribute__"==some (some (.builtin "type.__getattribute__"))&&keepIn K (.ref 210)&&
 findIn K (.ref 233) "__init__"==some (some (.ref 230))&&findIn K (.ref 245) "__init__"==some (some (.ref 210))&&findIn K (.ref 264) "__init__"==some (some (.ref 261))&&typeIn K (.ref 210)==some (.type "function")&&typeIn K (.ref 230)==some (.type "function")&&typeIn K (.ref 261)==some (.type "function")
noncomputable def fragOf(g:jT):Frag:=KJ.filterMap λa=>(g a).map λo=>(a,o)
noncomputable def KQ(g:jT)(K:Frag)(eg eb ec:List DictEntry):Bool:=
 (mG ec "sys.recursionlimit").isNone&&QH g eg&&[4,5,6,7].all (CQ K)&&lj K eg eb&&meths.all (λp=>yV K p.1 p.2.1 p.2.2)&&QI g eg&&hJ K 4 18&&hJ K 5 31&&hJ K 6 48&&hJ K 7 49&&Gy g K eg eb&&jU dg (Oc g)
noncomputable def QJ(g:jT):Bool:=cO (lh g mainGlobals) (λeg=>cO (lh g builtinsNs) (λeb=>cO (lh g cStatics) (λec=>KQ g (fragOf g) eg eb ec) false) false) false
theorem iC{n p:Str}{x:Value}{l:List (Str×Value)}(h:n≠p):((p,x)::l).lookup n=l.lookup n:=by
 rw[List.lookup_cons]
 have:(n==p)=false:=by simpa using h
 rw[this]
theorem filterMap_eq{α β:Type}{f k:α->Option β}:∀(l:List α),(∀n∈l,f n=k n)->l.filterMap f=l.filterMap k
 |[],_=>rfl
 |a::l,h=>by rw[List.filterMap_cons,List.filterMap_cons,h a (by simp),filterMap_eq l λn hn=>h n (List.mem_cons_of_mem _ hn)]
theorem hM:∀(ps:List Str)(xs:List Value),ps.Nodup->ps.length=xs.length->ps.filterMap (λn=>((ps.zip xs).lookup n).map (n,·))=ps.zip xs
 |[],_,_,_=>rfl
 |p::ps,[],_,h=>by simp at h
 |p::ps,x::xs,nd,h=>by
  rw[List.nodup_cons] at nd;rw[List.zip_cons_cons,List.filterMap_cons]
  have e1:((p,x)::ps.zip xs).lookup p=some x:=by rw[List.lookup_cons];simp
  rw[e1];refine(?_:(p,x)::_=_)
  congr 1
  refine Eq.trans (filterMap_eq ps λn hn=>?_) (hM ps xs nd.2 (by simpa using h));have ne:n≠p:=λe=>nd.1 (e▸hn);rw[iC ne]
theorem fQ:∀(ps:List Str)(xs:List Value),ps.length=xs.length->∀n∈ps,((ps.zip xs).lookup n).isNone=false
 |[],_,_,n,h=>by cases h
 |p::ps,[],h,_,_=>by simp at h
 |p::ps,x::xs,h,n,hn=>by
  rw[List.zip_cons_cons,List.lookup_cons]
  cases e:n==p with
  |true=>rfl
  |false=>
   rcases List.mem_cons.mp hn with rfl|hn
   ·simp at e
   ·exact fQ ps xs (by simpa using h) n hn
noncomputable abbrev BL:=List (Str×Value)
noncomputable def Gz(c:Bool)(e1 e2:Sem BL)(ps:List Str)(sl:BL)(D:List Value):Sem BL:=
 let f:=ps.length-D.length
 let k:=λ(_:Unit)=>(forIn ((ps.drop f).zip D) sl λx s=>if(s.lookup x.1).isNone=true then pure (.yield (s++[(x.1,x.2)])) else pure (.yield s):Sem BL)>>=λs=>
  pure ((ps++[]).filterMap λn=>(s.lookup n).map (n,·))
 if c=true then e1 else
  let m:=(ps.take f).filter λn=>(sl.lookup n).isNone
  if(!m.isEmpty)=true then e2 else k ()
inductive GA(fd:FuncData)(ps:List Str):Prop
 |mk (K:List Value->BL->Str×Value->BL×BL->Sem (ForInStep (BL×BL))) (e1 e2:List Value->BL->BL×BL->Option (Array Value)->Sem BL)
  (h1:∀xs kw k v s,(ps.contains k||([]:List Str).contains k)=true->¬(s.1.lookup k).isSome=true->K xs kw (k,v) s=pure (.yield (s.1++[(k,v)],s.2)))
  (h2:∀(xs:List Value)(kw:BL),bindArgs fd ⟨xs,kw⟩=(forIn kw (ps.zip xs,[]) (K xs kw)>>=λs=>seqItems? fd.defaults>>=λd=>Gz (decide (xs.length>ps.length)&&true) (e1 xs kw s d) (e2 xs kw s d) ps s.1 ((d.getD #[]).toList.drop ((d.getD #[]).toList.length-ps.length))))
theorem oj{fd:FuncData}{ps:List Str}(h1:fd.params.posonlyargs=[])(h2:fd.params.kwonlyargs=[])(h3:fd.params.vararg=none)(h4:fd.params.kwarg=none)(h5:fd.params.args.map (·.arg)=ps):GA fd ps:=by
 obtain⟨n,q,⟨po,as,va,ko,kd,ka,df⟩,_,_,_,_,dv,_,_,_,_,_,_,_⟩:=fd;cases h1;cases h2;cases h3;cases h4;cases h5;refine .mk _ _ _ ?_ λxs kw=>rfl;exact λxs kw k v s a b=>(if_pos a).trans (if_neg b)
theorem vD{e1 e2:Sem BL}{ps:List Str}{xs:List Value}(hl:ps.length=xs.length)(nd:ps.Nodup):Gz (decide (xs.length>ps.length)&&true) e1 e2 ps (ps.zip xs) []=pure (ps.zip xs):=by
 unfold Gz
 have a:ps.filter (λn=>((ps.zip xs).lookup n).isNone)=[]:=by
  rw[List.filter_eq_nil_iff];intro n hn;rw[fQ ps xs hl n hn];decide
 rw[if_neg (by rw[hl];simp)];dsimp only;rw[List.length_nil,Nat.sub_zero,List.take_length,a,List.append_nil,List.zip_nil_right];exact congrArg (pure:BL->Sem BL) (hM ps xs nd hl)
theorem lk{fd:FuncData}{ps:List Str}{xs:List Value}(h1:fd.params.posonlyargs=[])(h2:fd.params.kwonlyargs=[])(h3:fd.params.vararg=none)(h4:fd.params.kwarg=none)(h5:fd.params.args.map (·.arg)=ps)(h6:fd.defaults=.none)
  (hl:ps.length=xs.length) (nd:ps.Nodup):bindArgs fd ⟨xs,[]⟩=pure (ps.zip xs):=by
 obtain⟨K,e1,e2,-,e⟩:=oj h1 h2 h3 h4 h5;rw[e xs [],h6];refine Eq.trans ?_ (vD (e1:=e1 xs [] (ps.zip xs,[]) none) (e2:=e2 xs [] (ps.zip xs,[]) none) hl nd);refine(?_:Gz _ _ _ _ _ (List.drop _ [])=_);rw[List.drop_nil]
section
variable{s:Shared}{fd:FuncData}{T:Addr}{o:Obj}{n:Nat}{x y d0 d1 d2 d3 d4:Value}
theorem Eo{α:Type}{M:Model}{A:Around}{t:Sem α}{a:α}{Q:α->Shared->Prop}{E:Value->Shared->Prop}(e:t=pure a)(h:Q a s):wpAny M A t Q E s:=by rw[e];exact wpAny_pure h
theorem yW(h1:fd.params.posonlyargs=[])(h2:fd.params.kwonlyargs=[])(h3:fd.params.vararg=none)(h4:fd.params.kwarg=none)(h5:fd.params.args.map (·.arg)=fV)(h6:fd.defaults=.ref T)
  (ho:s.heap.get? T=some o) (hs:o.data=.seq #[d0,d1,d2,d3,d4] n):BindsTo s fd ⟨[x],[]⟩ (fV.zip [x,d0,d1,d2,d3,d4]):=by
 obtain⟨K,e1,e2,-,e⟩:=oj h1 h2 h3 h4 h5;exact .of_defaults (k:=λd=>Gz _ (e1 [x] [] _ d) (e2 [x] [] _ d) fV _ _) h6 ho hs (e [x] []) rfl
theorem vE{k:Nat}{kn:Str}(hk:k<5)(hn:fV[k+1]?=some kn)(h1:fd.params.posonlyargs=[])(h2:fd.params.kwonlyargs=[])(h3:fd.params.vararg=none)(h4:fd.params.kwarg=none)(h5:fd.params.args.map (·.arg)=fV)(h6:fd.defaults=.ref T)
  (ho:s.heap.get? T=some o) (hs:o.data=.seq #[d0,d1,d2,d3,d4] n):BindsTo s fd ⟨[x],[(kn,y)]⟩ (fV.zip (x::[d0,d1,d2,d3,d4].set k y)):=by
 obtain⟨K,e1,e2,eK,e⟩:=oj h1 h2 h3 h4 h5
 have hc:(fV.contains kn||([]:List Str).contains kn)=true/\¬((fV.zip [x]).lookup kn).isSome=true/\∀(c1 c2:Sem BL),Gz (decide (1>fV.length)&&true) c1 c2 fV (fV.zip [x]++[(kn,y)]) [d0,d1,d2,d3,d4]=pure (fV.zip (x::[d0,d1,d2,d3,d4].set k y)):=by
  rcases k with _|_|_|_|_|k
  iterate 5 (cases hn;exact⟨by decide+kernel,Bool.false_ne_true,λ_ _=>rfl⟩)
  walk_at "om"
 refine .of_defaults (k:=λd=>Gz (decide ([x].length>fV.length)&&true) (e1 [x] [(kn,y)] (fV.zip [x]++[(kn,y)],[]) d) (e2 [x] [(kn,y)] (fV.zip [x]++[(kn,y)],[]) d) fV (fV.zip [x]++[(kn,y)]) ((d.getD #[]).toList.drop ((d.getD #[]).toList.length-fV.length))) h6 ho hs ((e [x] [(kn,y)]).trans ?_) (hc.2.2 _ _)
 rw[List.forIn_cons,eK _ _ _ _ _ hc.1 hc.2.1];rfl
end
theorem rU(es:Array DictEntry)(n:Str):nsFind es n=mG es.toList n:=by
 unfold nsFind findBy mG;rw[←Array.find?_toList]
section
variable{g:jT}{h:Heap}
theorem CS{α:Type}{l:List α}{f:α->List α->Bool}(h:cL l false f=true):∃a r,l=a::r/\f a r=true:=by
 cases l with
 |nil=>cases h
 |cons a r=>exact⟨a,r,rfl,h⟩
theorem ll(hg:∀a o,g a=some o->h.get? a=some o){a:Addr}{es:List DictEntry}(e:lh g a=some es):h.Ns a (mG es):=by
 obtain⟨hc,e⟩:=rd e;obtain⟨o,ho,hc⟩:=lb hc;obtain⟨o',u9,e⟩:=ik e;obtain⟨xs,n,hd,ha⟩:=yS hc;have q:o'=o:=Option.some.inj (u9.symm.trans ho);have e:Ob o=es:=q▸Option.some.inj e
 have e:xs.toList=es:=by
  unfold Ob at e;rw[hd] at e;exact e
 rw[←e];exact⟨o,xs,n,hg _ _ ho,hd,λx hx=>let⟨k,t,hk,_⟩:=og (List.all_eq_true.mp ha x (Array.mem_toList_iff.mpr hx));⟨k,t,hk⟩,λn=>rU _ _⟩
theorem yX(hg:∀a o,g a=some o->h.get? a=some o)(v:LV):∀x:Value,Mo g v x=true->VR [] [] h v x:=
 @LV.rec (λv=>∀x:Value,Mo g v x=true->VR [] [] h v x) (λvs=>∀xs,CP g vs xs=true->aB [] [] h vs xs)
  (λ_ e=>absurd e Bool.false_ne_true) (λx e=>dj.mpr (yQ e))
  (λb x e=>by
   obtain⟨c,q,e⟩:=Gv e
   rw[q,eq_of_beq e];exact eG.mpr rfl)
  (λi x e=>by
   obtain⟨j,t,q,e⟩:=yO e
   rw[q,of_decide_eq_true e];exact gq.mpr ⟨t,rfl⟩)
  (λs x e=>by
   obtain⟨j,t,q,e⟩:=og e
   rw[q,eq_of_beq e];exact ic.mpr ⟨t,rfl⟩)
  (λ_ _ _ e=>absurd e Bool.false_ne_true)
  (λvs ih x e=>by
   obtain⟨a,q,e⟩:=oh e;obtain⟨o,ho,e2⟩:=lb (bR e);obtain⟨t,hc,e3⟩:=yP (bL e2);obtain⟨xs,n,hd,e4⟩:=yR (bR e2);rw[eq_of_beq e3] at hc
   exact nE.mpr ⟨bL e,a,o,xs,n,q,hg _ _ ho,(λ⟨p,hp,_⟩=>nomatch hp),List.not_mem_nil,hc,hd,ih _ e4⟩)
  (λ_ _ e=>absurd e Bool.false_ne_true)
  (λxs e=>by
   cases xs with
   |nil=>rw[aB];trivial
   |cons _ _=>cases e)
  (λv vs ih Fp xs e=>by
   obtain⟨x,r,q,e⟩:=CS e;rw[q,aB]
   exact⟨ih x (bL e),Fp r (bR e)⟩) v
theorem yY(hg:∀a o,g a=some o->h.get? a=some o):∀(vs:List LV)(xs:List Value),CP g vs xs=true->aB [] [] h vs xs:=λvs=>by
 induction vs with
 |nil=>
  intro xs e
  cases xs with
  |nil=>rw[aB];trivial
  |cons _ _=>cases e
 |cons v vs ih=>
  intro xs e;obtain⟨x,r,q,e⟩:=CS (f:=λx xs=>Mo g v x&&CP g vs xs) e;rw[q,aB];exact⟨yX hg v x (bL e),ih r (bR e)⟩
theorem rV(es:List DictEntry):∀d:List (List Nat×Int),yT es d=true->KTD.Rows (KTD.Dat.At h) es (d.map λp=>(toS p.1,KTD.Dat.flat (.int p.2))):=by
 induction es with
 |nil=>
  intro d e
  cases d with
  |nil=>exact .nil
  |cons _ _=>cases e
 |cons e es ih=>
  intro d q
  cases d with
  |nil=>cases q
  |cons p d=>
   have q:(qa e.key (λt=>t==toS p.1)&&vB e.val (λj=>decide (j=p.2))&&yT es d)=true:=q;obtain⟨t,tk,hk,e1⟩:=og (bL (bL q));obtain⟨j,tj,hv,e2⟩:=yO (bR (bL q));refine .cons (eq_of_beq e1▸hk) ?_ (ih d (bR q));rw[hv,of_decide_eq_true e2];exact PyProof.V.Flat.int _ _
theorem mH(hg:∀a o,g a=some o->h.get? a=some o){cd:Value}{q:Str}(e:codeB g cd q=true):h.CodeRec cd q:=by
 obtain⟨c,hc,e⟩:=oh e;obtain⟨o,ho,e⟩:=lb e;obtain⟨vs,hd,e⟩:=Gw e;obtain⟨a,r,hl,e⟩:=CS e;obtain⟨y,r',hr,e⟩:=CS e;obtain⟨n,t,hy,e⟩:=og e;refine⟨c,o,vs,t,hc,hg _ _ ho,hd,?_⟩;rw[←Array.getElem?_toList,hl,hr,hy,eq_of_beq e];rfl
theorem vF{fd:FuncData}{ps:List Str}(e:yU fd ps=true):fd.params.posonlyargs=[]/\fd.params.kwonlyargs=[]/\fd.params.vararg=none/\fd.params.kwarg=none/\fd.params.args.map (·.arg)=ps:=by
 unfold yU at e;simp only[Bool.and_eq_true,List.isEmpty_iff,Option.isNone_iff_eq_none,beq_iff_eq] at e;obtain⟨⟨⟨⟨a,b⟩,c⟩,d⟩,e⟩:=e;exact⟨a,b,c,d,e⟩
theorem gP{α:Type}:∀(t:Tr α)(p:Nat->α->Bool),jU t p=true->∀i v,t.get i=some v->p i v=true
 |.nil,_,_,i,v,e=>by cases e
 |.node w l r,p,h,i,v,e=>by
  have h:(p 0 w&&jU l (λk v=>p (2*k+1) v)&&jU r (λk v=>p (2*k+2) v))=true:=h;have e:cB (Nat.beq i 0) (some w) (cB (Nat.beq (i%2) 1) (l.get (i/2)) (r.get (Nat.sub (i/2) 1)))=some v:=e
  cases i with
  |zero=>exact Option.some.inj e▸bL (bL h)
  |succ i=>
   have dm:=Nat.div_add_mod (i+1) 2;have e:cB (Nat.beq ((i+1)%2) 1) (l.get ((i+1)/2)) (r.get (Nat.sub ((i+1)/2) 1))=some v:=e
   rcases Nat.mod_two_eq_zero_or_one (i+1) with q|q
   ·rw[q] at e dm;have k:=gP r _ (bR h) _ _ e
    cases hd:(i+1)/2 with
    |zero=>rw[hd] at dm;cases dm
    |succ m=>rw[hd] at k dm;exact dm▸k
   ·rw[q] at e dm;have k:=gP l _ (bR (bL h)) _ _ e;exact dm▸k
end
noncomputable def bg(prog:Program)(w:World)(h:Heap)(g:jT)(eg eb:List DictEntry):Bg:=⟨prog,w,h,af,jF,dN,jr,λf=>⟨names0 f,bX g (jr f)⟩,mG eg,mG eb,fragOf g,0⟩
theorem yZ{α:Type}{x:Option α}{f:α->Bool}(h:cO x f false=true):∃y,x=some y/\f y=true:=by
 cases x with
 |none=>cases h
 |some y=>exact⟨y,rfl,h⟩
theorem lookup_mem{α β:Type}[BEq α][LawfulBEq α]:∀{l:List (α×β)}{a:α}{b:β},l.lookup a=some b->(a,b)∈l
 |(x,y)::r,a,b,e=>by
  rw[List.lookup_cons] at e
  cases q:a==x with
  |true=>
   rw[q] at e
   injection e with e
   subst e;rw[eq_of_beq q];simp
  |false=>rw[q] at e;exact List.mem_cons_of_mem _ (lookup_mem e)
section
variable{prog:Program}{w:World}{g:jT}{h:Heap}{eg eb ec:List DictEntry}
theorem tW(hg:∀a o,g a=some o->h.get? a=some o):(fragOf g).In h:=λa o e=>by
 have:=lookup_mem e;unfold fragOf at this;obtain⟨b,_,hb⟩:=List.mem_filterMap.mp this;obtain⟨o',ho,e'⟩:=Option.map_eq_some_iff.mp hb
 injection e' with e1 e2
 subst e1 e2;exact hg _ _ ho
theorem range_all{n:Nat}{p:Nat->Bool}(e:(List.range n).all p=true){i:Nat}(hi:i<n):p i=true:=List.all_eq_true.mp e i (List.mem_range.mpr hi)
theorem rW(c:Nat):(jF.bK c).Nodup:=by
 refine(?_:((Ek[c]?).getD []).Nodup)
 rcases c with _|_|_|_|_|_|_|_|c
 all_goals first|(show List.Nodup [];exact List.nodup_nil)|exact of_decide_eq_true (by decide+kernel)
theorem y0(c:Nat)(hc:jF.bK c≠[]):c∈[4,5,6,7]:=by
 rcases c with _|_|_|_|_|_|_|_|c
 all_goals first|(exact absurd rfl hc)|simp
theorem CT(hc:CQ (fragOf g) c=true)(Nz:(jF.bK c).length<=1000):tA (bg prog w h g eg eb) c:=by
 unfold CQ at hc;simp only[Bool.and_eq_true,beq_iff_eq,List.all_eq_true] at hc;obtain⟨⟨⟨⟨⟨a,b⟩,c⟩,d⟩,e⟩,f⟩:=hc;exact⟨a,b,c,d,e,f,Nz⟩
set_option tactic.hygienic true in
theorem KR(hg:∀a o,g a=some o->h.get? a=some o)(h1:lh g mainGlobals=some eg)(h2:lh g builtinsNs=some eb)(h3:lh g cStatics=some ec)(hl:(mG ec "sys.recursionlimit").isNone=true)(hv:QH g eg=true):Fx (bg prog w h g eg eb) where
 g:=ll hg h1
 b:=ll hg h2
 xb:=⟨_,ll hg h3,Option.isNone_iff_eq_none.mp hl⟩
 nodup:=rW
 gv:=λi v e=>by
  have:=Fq _ _ e;subst this;by_cases hi:i<tT.length
  ·have k:=range_all hv hi;rw[Bool.and_eq_true] at k;obtain⟨k1,k2⟩:=k;refine⟨k1,?_⟩;refine(?_:∃x,mG eg (jF.me i)=some x/\_);obtain⟨x,hx,k2⟩:=yZ k2;exact⟨x,hx,yX hg _ _ k2⟩
  ·have:jF.a7 i=.none:=by
    refine(?_:(tT[i]?).getD .none=.none);rw[List.getElem?_eq_none (by walk_at "om")];rfl
   change sQ (jF.a7 i) (jF.a7 i)=true at e;rw[this] at e;cases e
set_option tactic.hygienic true in
theorem KS(hg:∀a o,g a=some o->h.get? a=some o)(fx:Fx (bg prog w h g eg eb))(hc:[4,5,6,7].all (CQ (fragOf g))=true)(hn:lj (fragOf g) eg eb=true)(hm:meths.all (λp=>yV (fragOf g) p.1 p.2.1 p.2.2)=true)(hd:QI g eg=true):Fm (bg prog w h g eg eb):=by
 unfold lj at hn;simp only[Bool.and_eq_true] at hn;obtain⟨⟨⟨⟨⟨n1,n2⟩,n3⟩,n4⟩,n5⟩,n6⟩:=hn;have n1:=List.all_eq_true.mp n1
 have QK:∀b:Bi,b∈QG:=λb=>by cases b<;>repeat (first|exact .head _|apply List.Mem.tail)
 refine{toFx:=fx,hK:=tW hg,cls:=λc h=>?_,bin:=λb=>?_,biv:=λb=>?_,refC:=?_,fn:=λf=>?_,meth:=λc m f e=>?_,dn:=λi=>?_}
 ·have hm:=y0 c h;refine CT (List.all_eq_true.mp hc c hm) ?_;simp only[List.mem_cons,List.not_mem_nil,or_false] at hm
  rcases hm with rfl|rfl|rfl|rfl<;>decide+kernel
 ·have:=n1 b (QK b);simp only[Bool.and_eq_true,beq_iff_eq] at this;exact this.1
 ·have:=n1 b (QK b);simp only[Bool.and_eq_true,beq_iff_eq] at this;exact this.2
 ·split at n2
  ·rename_i C hC;exact⟨C,hC,eq_of_beq n2⟩
  ·cases n2
 ·by_cases hf:f<84
  ·have:=range_all n3 hf;simp only[Bool.or_eq_true,Bool.and_eq_true,beq_iff_eq] at this;exact this
  ·left;refine(?_:(rR[f]?).getD ""="");rw[List.getElem?_eq_none (show rR.length<=f from Nat.le_of_not_lt hf)];rfl
 ·have hp:(c,m,f)∈meths:=by
   have e':pb c m meths=some f:=e;clear e
   have:∀(l:List (Nat×Nat×Nat)),pb c m l=some f->(c,m,f)∈l:=by
    intro l
    induction l with
    |nil=>intro e;cases e
    |cons p r ih=>
     intro e;change cB (band (Nat.beq p.1 c) (Nat.beq p.2.1 m)) (some p.2.2) (pb c m r)=some f at e;rw[dI] at e
     split at e
     ·rename_i q;rw[bV,Bool.and_eq_true] at q
      injection e with e
      obtain⟨p1,p2,p3⟩:=p;have q1:=Nat.eq_of_beq_eq_true q.1;have q2:=Nat.eq_of_beq_eq_true q.2;dsimp only at q1 q2 e;subst q1 q2;rw[←e];simp
     ·exact List.mem_cons_of_mem _ (ih e)
   exact this _ e'
  have:=List.all_eq_true.mp hm _ hp;unfold yV at this;simp only[Bool.and_eq_true,beq_iff_eq,Bool.not_eq_true'] at this;obtain⟨⟨⟨a,b⟩,c'⟩,d⟩:=this;refine⟨a,b,c',λq=>?_,λq=>?_⟩
  ·have q:jF.gX m∈jF.bK c:=q;rw[List.contains_iff_mem.mpr q] at d;cases d
  ·have H6:c=4:=by
    simp only[meths,List.mem_cons,List.not_mem_nil,or_false,Prod.mk.injEq] at hp
    rcases hp with⟨a,_⟩|⟨a,_⟩<;>exact a
   subst H6;exact absurd (show jF.bK 4=[] from q) (by decide+kernel)
 ·by_cases hi:i=0
  ·subst hi;right;obtain⟨x,ha,hd⟩:=yZ hd;obtain⟨a,hx,hd⟩:=oh hd;obtain⟨o,ho,d2⟩:=lb (bR hd);obtain⟨ty,hc,d3⟩:=yP (bL (bL (bL d2)));obtain⟨es,n,he,e3⟩:=yS (bR d2);rw[hx] at ha;rw[eq_of_beq d3] at hc;refine⟨a,ha,λd NB=>?_⟩;rw[←(Option.some.inj ((aT jI 0).symm.trans NB):jI.headD []=d)];exact⟨bF (bL hd),o,es,n,hg _ _ ho,⟨hc,Option.isNone_iff_eq_none.mp (bR (bL (bL d2))),Array.isEmpty_iff.mp (bR (bL d2))⟩,he,rV _ _ e3⟩
  ·left;refine(?_:(if i=0 then("FIXED":Str) else"")="");rw[if_neg hi]
end
section
variable{prog:Program}{w:World}{g:jT}{h:Heap}{eg eb ec:List DictEntry}
theorem jb{c f:Nat}(e:hJ (fragOf g) c f=true):makesIn (fragOf g) (dN c)=true/\findIn (fragOf g) (.ref (dN c)) "__init__"=some (some (.ref (jr f)))/\typeIn (fragOf g) (.ref (jr f))=some (.type "function"):=by
 unfold hJ at e;simp only[Bool.and_eq_true,beq_iff_eq] at e;exact⟨e.1.1,e.1.2,e.2⟩
theorem tX{c f:Nat}{lf:LF}(e1:bf DS c=some f)(e2:dg.get f=some lf):(c=4/\f=18)∨(c=5/\f=31)∨(c=6/\f=48)∨(c=7/\f=49):=by
 rw[aT] at e1
 have no:dg.get 9999=none:=by decide+kernel
 rcases c with _|_|_|_|_|_|_|_|c
 all_goals (first|(injection e1 with e1;subst e1;first|(rw[no] at e2;cases e2;done)|simp)|(cases e1))
theorem GB(fm:Fm (bg prog w h g eg eb))(hn:lj (fragOf g) eg eb=true)(i4:hJ (fragOf g) 4 18=true)(i5:hJ (fragOf g) 5 31=true)(i6:hJ (fragOf g) 6 48=true)(i7:hJ (fragOf g) 7 49=true):Mk (bg prog w h g eg eb):=by
 unfold lj at hn;simp only[Bool.and_eq_true] at hn;obtain⟨⟨⟨⟨⟨n1,n2⟩,n3⟩,n4⟩,n5⟩,n6⟩:=hn;refine{toFm:=fm,cn:=λc=>?_,init:=λc f lf e1 e2=>?_,rng:=⟨eq_of_beq n5,eq_of_beq n6⟩}
 ·by_cases hc:c<8
  ·have:=range_all n4 hc;simp only[Bool.or_eq_true,Bool.and_eq_true,beq_iff_eq] at this;exact this
  ·left;refine(?_:(rS[c]?).getD ""="");rw[List.getElem?_eq_none (show rS.length<=c from Nat.le_of_not_lt hc)];rfl
 ·rcases tX e1 e2 with⟨rfl,rfl⟩|⟨rfl,rfl⟩|⟨rfl,rfl⟩|⟨rfl,rfl⟩
  ·exact jb i4
  ·exact jb i5
  ·exact jb i6
  ·exact jb i7
theorem GC(hg:∀a o,g a=some o->h.get? a=some o){f:Addr}{p fld bn:Str}{arg:Expr}{b:List Stmt}(np:("self":Str)≠p)(e:IX g f p bn fld arg)(hb:(bX g f).body=.stmts b):Oa (bg prog w h g eg eb) f (bX g f) p b:=by
 obtain⟨o,ho,hd⟩:=Option.map_eq_some_iff.mp e.o;exact⟨⟨o,hg _ _ ho,hd⟩,mH hg e.code,hb,e.kind,e.Gq,e.gen,e.B7,e.gl,e.bl,e.l0,e.l1,np,λs v0 v1 st=>BindsTo.of_eq (lk (ps:=["self",p]) e.p1 e.p2 e.p3 e.p4 e.p5 e.df rfl (by simpa using np))⟩
end
section
variable{prog:Program}{w:World}{g:jT}{h:Heap}{eg eb ec:List DictEntry}{A:Around}
noncomputable abbrev TO(A:Around):Prop:=A.depth+2<recursionLimit
theorem lq(fx:Fx (bg prog w h g eg eb))(hK:(fragOf g).In h)(hg:∀a o,g a=some o->h.get? a=some o){f C:Addr}{fl:List Str}{p fld bn:Str}{arg:Expr}{bv gv:Value}{n:Nat}(e:IX g f p bn fld arg)(np:("self":Str)≠p)(hp:(p==("__debug__":Str))=false)
  (XC:gB (fragOf g) C fl) (DX:fld∈fl) (Ib:∀sc,br ⟨[],sc,0⟩ bn=true->mF (bg prog w h g eg eb) ⟨[],sc,0⟩ bn bv gv) (room:A.depth<recursionLimit) (hn:n<90) (ea:Addr) (D:∀env,kY (bg prog w h g eg eb) (A.deeper env) gv ea C n)
  (ht:∀env cp q,backTo cp (starEach [.Name "self" q,arg] env)=[(false,eval (.Name "self" q) env),(false,eval arg env)])
  (Gs:∀A(P:Addr->Obj->Prop)(s:Shared) env(Q:Value->Shared->Prop) E v k,cJ ⟨[],(bX g f).scope,0⟩ env->XO P s.heap ea C k->kX P env.locals p v->(∀z s',s'.heap=s.heap->s'.gens=s.gens->s'.os=s.os->Q z s')->wpAny (model prog w) A (eval arg env) Q E s):
  kY (bg prog w h g eg eb) A (.ref f) ea C (n+1):=by
 obtain⟨q1,q2,q3,q4,q5,ap,El,cp,ep,hb,hl⟩:=e.body;exact vA fx hK XC DX (GC hg np e hb) (Ib _ e.Sq) hl hp (λenv=>ht env cp q2) Gs room D hn
theorem iD{c:Nat}(h:gx c=true):c=1∨c=2∨c=3:=by
 unfold gx at h;simp only[Bool.or_eq_true] at h
 rcases h with(h|h)|h
 ·exact .inl (Nat.eq_of_beq_eq_true h)
 ·exact .inr (.inl (Nat.eq_of_beq_eq_true h))
 ·exact .inr (.inr (Nat.eq_of_beq_eq_true h))
theorem KU{v:Option CFound}{a:Addr}(e:(match v with|some (.val (.ref f))=>f==a|_=>false)=true):v=some (.val (.ref a)):=by
 split at e
 ·rw[eq_of_beq e]
 ·cases e
set_option tactic.hygienic true in
theorem KV(hg:∀a o,g a=some o->h.get? a=some o)(fr:Mk (bg prog w h g eg eb))(he:Gy g (fragOf g) eg eb=true)(x1:∃q,IX g 210 "text" "Exception" "text" (.Name "text" q))(x2:∃t k q,IX g 230 "value" "PerlError" "value" (.Constant (.str t) k q))(x3:∃t k q,IX g 261 "steps" "PerlError" "steps" (.Constant (.str t) k q))(X1:gB (fragOf g) 233 ["text","value"])(X2:gB (fragOf g) 245 ["text"])(X3:gB (fragOf g) 264 ["text","steps"]):Fe (bg prog w h g eg eb):=by
 unfold Gy at he;have hK:(fragOf g).In h:=tW hg
 have m:∀c',gx c'=true->c'∈[1,2,3]:=λc' h=>by rcases iD h with rfl|rfl|rfl<;>simp
 have b:∀c',gx c'=true->mroIn (fragOf g) (dN c') (.type "BaseException")=some true/\typeIn (fragOf g) (.ref (dN c'))=some (.type "type"):=λc' h=>by
  have:=List.all_eq_true.mp (bR (bL (bL (bL (bL (bL (bL (bL (bL (bL (bL (bL (bL (bL he)))))))))))))) c' (m c' h);simp only[Bool.and_eq_true,beq_iff_eq] at this;exact this
 have bE:∀sc,br ⟨[],sc,0⟩ "Exception"=true->mF (bg prog w h g eg eb) ⟨[],sc,0⟩ "Exception" (.type "Exception") (.builtin "Exception.__init__"):=λsc AN=>yK fr.toFx hK AN (eq_of_beq (bR (bL (bL (bL (bL (bL (bL (bL (bL (bL (bL (bL (bL he)))))))))))))) (eq_of_beq (bR (bL (bL (bL (bL (bL (bL (bL (bL (bL (bL (bL he)))))))))))))
 have bP:∀sc,br ⟨[],sc,0⟩ "PerlError"=true->mF (bg prog w h g eg eb) ⟨[],sc,0⟩ "PerlError" (.ref 213) (.ref 210):=λsc AN=>by
  exact yL fr.toFx hK AN (eq_of_beq (bR (bL (bL (bL (bL (bL (bL (bL (bL (bL (bL he)))))))))))) (bR (bL (bL (bL (bL (bL (bL (bL (bL (bL he)))))))))) (KU (bR (bL (bL (bL (bL (bL (bL (bL (bL he)))))))))) (eq_of_beq (bR (bL (bL (bL (bL (bL (bL (bL he))))))))) (bR (bL (bL (bL (bL (bL (bL he)))))))
 obtain⟨q1,x1⟩:=x1;obtain⟨t2,k2,q2,x2⟩:=x2;obtain⟨t3,k3,q3,x3⟩:=x3;have dP:∀{A:Around}{C:Addr}{fl:List Str}(e:Addr),gB (fragOf g) C fl->Str.ofString "text"∈fl->A.depth<recursionLimit->kY (bg prog w h g eg eb) A (.ref 210) e C 1:=λe X hf room=>
  lq fr.toFx hK hg x1 (by decide+kernel) (by decide+kernel) X hf bE room (by decide) e (λenv=>yM (B:=bg prog w h g eg eb) hK X) (λ_ _ _=>rfl) (yN (B:=bg prog w h g eg eb) x1.l1 (by decide+kernel) q1)
 refine{toMk:=fr,sub:=λc c' h=>?_,exc:=λc' h=>(b c' h).1,ty:=λc' hx=>?_,tup:=λc' hx=>?_,nty:=λc' h=>(b c' h).2,made:=λc hc d A F s x xk st=>?_}
 ·have hm:=m c' h;by_cases hc:c<8
  ·have:=List.all_eq_true.mp (range_all (bL (bL (bL (bL (bL (bL (bL (bL (bL (bL (bL (bL (bL (bL he)))))))))))))) hc) c' hm;exact eq_of_beq this
  ·have:=List.all_eq_true.mp (range_all (bL (bL (bL (bL (bL (bL (bL (bL (bL (bL (bL (bL (bL (bL he)))))))))))))) (show 0<8 by decide)) c' hm
   have h0:dN c=dN 0:=by
    refine(?_:(Gh[c]?).getD 213=_);rw[List.getElem?_eq_none (show Gh.length<=c from Nat.le_of_not_lt hc)];rfl
   have h1:Nat.beq c' c=Nat.beq c' 0:=by
    rcases iD h with rfl|rfl|rfl<;>(rw[Bool.eq_iff_iff,Nat.beq_eq,Nat.beq_eq];walk_at "om")
   refine(?_:mroIn (fragOf g) (dN c) (.ref (dN c'))=_);rw[h0,h1];exact eq_of_beq this
 ·have L:Looks (model prog w) h (isSubtype (.ref (dN c')) (.type "BaseException")) true:=looks_mroIn hK (b c' hx).1;obtain⟨cd,H9,_⟩:=Option.bind_eq_some_iff.mp (b c' hx).1
  have T:Looks (model prog w) h (PySem.isType (.ref (dN c'))) true:=by
   unfold clsIn at H9
   split at H9
   ·rename_i x1 x2 TP sl ho;exact(Looks.ld (hK _ _ ho)).andThen .now
   ·cases H9
  exact T.andThen L
 ·refine(looks_typeIn hK (b c' hx).2).andThen ?_;rw[tc_notTuple];exact .now
 ·have dep:=xk.depth
  have wt:∀C:Addr,(A.under (.builtin "type.__call__" ⟨[.ref C,x],[]⟩)).depth=A.depth+1:=λC=>by
   refine(?_:A.depth+(Code.builtin "type.__call__" ⟨.ref C::[x],[]⟩).weight=_);rw[mw]
  rcases iD hc with rfl|rfl|rfl
  ·exact kZ (B:=bg prog w h g eg eb) hK X1 (eq_of_beq (bR (bL (bL (bL (bL (bL he))))))) (eq_of_beq (bR (bL he))) st λe=>lq fr.toFx hK hg x2 (by decide+kernel) (by decide+kernel) X1 (by simp) bP (by rw[wt];exact Jl [A.depth,d,_] 1 (.c 1 (.p (.p (.a J0 (.m 4 J1)) 3) 1) J2 .z) (.p (.p J0 1) 1) J2 Jt dep) (by decide) e (λenv=>dP e X1 (by simp) (by rw[show((A.under (.builtin "type.__call__" ⟨[.ref 233,x],[]⟩)).deeper env).depth=(A.under (.builtin "type.__call__" ⟨[.ref 233,x],[]⟩)).depth+1 from rfl,wt];exact Jl [A.depth,d,_] 1 (.c 1 (.p (.p (.a J0 (.m 4 J1)) 3) 1) J2 .z) (.p (.p (.p J0 1) 1) 1) J2 Jt dep)) (λ_ _ _=>rfl) (arg_str (B:=bg prog w h g eg eb) t2 k2 q2)
  ·exact kZ (B:=bg prog w h g eg eb) hK X2 (eq_of_beq (bR (bL (bL (bL (bL he)))))) (eq_of_beq (bR (bL (bL he)))) st λe=>dP e X2 (by simp) (by rw[wt];exact Jl [A.depth,d,_] 1 (.c 1 (.p (.p (.a J0 (.m 4 J1)) 3) 1) J2 .z) (.p (.p J0 1) 1) J2 Jt dep)
  ·exact kZ (B:=bg prog w h g eg eb) hK X3 (eq_of_beq (bR (bL (bL (bL he))))) (eq_of_beq (bR he)) st λe=>lq fr.toFx hK hg x3 (by decide+kernel) (by decide+kernel) X3 (by simp) bP (by rw[wt];exact Jl [A.depth,d,_] 1 (.c 1 (.p (.p (.a J0 (.m 4 J1)) 3) 1) J2 .z) (.p (.p J0 1) 1) J2 Jt dep) (by decide) e (λenv=>dP e X3 (by simp) (by rw[show((A.under (.builtin "type.__call__" ⟨[.ref 264,x],[]⟩)).deeper env).depth=(A.under (.builtin "type.__call__" ⟨[.ref 264,x],[]⟩)).depth+1 from rfl,wt];exact Jl [A.depth,d,_] 1 (.c 1 (.p (.p (.a J0 (.m 4 J1)) 3) 1) J2 .z) (.p (.p (.p J0 1) 1) 1) J2 Jt dep)) (λ_ _ _=>rfl) (arg_str (B:=bg prog w h g eg eb) t3 k3 q3)
end
theorem rX{T:Nm}{names:List Str}{fd:FuncData}{lf:LF}(h:wh T names fd lf=true):(rP fd.body (λb=>ej T ⟨names,fd.scope,0⟩ lf.body b)&&Nat.beq names.length lf.nl&&Nat.ble lf.np lf.nl&&decide names.Nodup)=true:=by
 unfold wh at h;exact bL (bL (bL (bL (bL (bL (bL (bL (bL h))))))))
theorem y4{T:Nm}{names:List Str}{fd:FuncData}{lf:LF}(h1:fd.closure=[])(h2:fd.globals=mainGlobals)(h3:fd.builtins=builtinsNs)(h:wh T names (oi fd.body fd.scope) lf=true):wh T names fd lf=true:=by
 unfold wh at h⊢;rw[h1,h2,h3];exact h
section
variable{prog:Program}{w:World}{g:jT}{h:Heap}{eg eb ec:List DictEntry}{A:Around}
theorem CU{xs:List Value}(h:xs.length=5):∃d0 d1 d2 d3 d4,xs=[d0,d1,d2,d3,d4]:=by
 iterate 5 (cases xs with|nil=>cases h|cons _ xs=>?_)
 cases xs with
 |nil=>exact⟨_,_,_,_,_,rfl⟩
 |cons _ _=>cases h
theorem Od{a:Addr}(e:isFn (g a)=true):∃o,g a=some o/\o.data=.func (bX g a):=by
 unfold bX
 cases hq:g a with
 |none=>rw[hq] at e;cases e
 |some o=>
  obtain⟨c,d,dt,sl⟩:=o;rw[hq] at e
  cases dt with
  |func fd=>exact⟨_,rfl,rfl⟩
  |_=>cases e
inductive Oe(h:Heap)(f:Nat)(dv:Value)(ds:List LV):Prop
 |no (e:dv=.none) (n:ds=[])
 |GD (t:Addr) (o:Obj) (d0 d1 d2 d3 d4:Value) (n:Nat) (e:dv=.ref t) (ho:h.get? t=some o) (hd:o.data=.seq #[d0,d1,d2,d3,d4] n) (r:aB [] [] h ds [d0,d1,d2,d3,d4]) (l:ds.length=5) (hf:f=48)
theorem KW(hg:∀a o,g a=some o->h.get? a=some o){f:Nat}{dv:Value}{ds:List LV}(e:(En g dv ds&&(ds.isEmpty||Nat.beq f 48))=true):Oe h f dv ds:=by
 rcases Bool.or_eq_true _ _▸bL e with e1|e1
 ·exact .no (yQ (bL e1)) (List.isEmpty_iff.mp (bR e1))
 ·obtain⟨t,ht,e1⟩:=oh e1;obtain⟨o,ho,e1⟩:=lb e1;obtain⟨xs,n,hd,e1⟩:=yR e1;have l5:=Nat.eq_of_beq_eq_true (bR e1);have r:=yY hg _ _ (bL e1)
  have hf:f=48:=by
   have q:=bR e
   cases ds with
   |nil=>cases l5
   |cons _ _=>exact Nat.eq_of_beq_eq_true q
  obtain⟨d0,d1,d2,d3,d4,q⟩:=CU (r.length.trans l5);exact .GD t o d0 d1 d2 d3 d4 n ht (hg _ _ ho) (hd.trans (congrArg (Data.seq · n) (Array.ext' q))) (q▸r) l5 hf
theorem KX:(dg.get 48).map LF.np=some 6:=by decide+kernel
theorem GF{xs:List Value}(h:xs.length+5=6):∃x,xs=[x]:=List.length_eq_one_iff.mp (Nat.add_right_cancel (h:xs.length+5=1+5))
theorem GG(hg:∀a o,g a=some o->h.get? a=some o){f:Nat}{lf:LF}(hf:dg.get f=some lf)(hc:Oc g f lf=true)(ht:wh jF (names0 f) (oi (bX g (jr f)).body (bX g (jr f)).scope) lf=true):Mm (bg prog w h g eg eb) f lf:=by
 unfold Oc at hc;have df:=KW hg (bR hc);have ok:=y4 (tR (bR (bL (bL (bL (bL hc)))))) (Nat.eq_of_beq_eq_true (bR (bL (bL (bL hc))))) (Nat.eq_of_beq_eq_true (bR (bL (bL hc)))) ht;obtain⟨p1,p2,p3,p4,p5⟩:=vF (bR (bL hc))
 have o:∃o,h.get? (jr f)=some o/\o.data=.func (bX g (jr f)):=by
  obtain⟨o,h1,h2⟩:=Od (bL (bL (bL (bL (bL (bL hc))))));exact⟨o,hg _ _ h1,h2⟩
 have n1:(names0 f).Nodup:=of_decide_eq_true (bR (rX ok));have n2:lf.np<=(names0 f).length:=(Nat.eq_of_beq_eq_true (bR (bL (bL (rX ok))))).symm▸Nat.le_of_ble_eq_true (bR (bL (rX ok)));refine{o:=o,code:=mH hg (bR (bL (bL (bL (bL (bL hc)))))),ok:=ok,bind:=λs xs st hl=>?_,bindK:=λs c k kn x y st hc hk hl eh=>?_}
 ·cases df with
  |no e1 e2=>exact⟨[],e2▸aB.a8.mpr rfl,BindsTo.of_eq (by
    rw[List.append_nil]
    exact lk p1 p2 p3 p4 p5 e1 (by rw[List.length_take,←hl,e2,Nat.min_eq_left (by rw[←hl,e2] at n2;exact n2)];rfl) (n1.sublist (List.take_sublist _ _)))⟩
  |GD t o d0 d1 d2 d3 d4 n e1 e2 e3 r l5 e4=>
   subst e4;have np:lf.np=6:=Option.some.inj ((congrArg (Option.map LF.np) hf).symm.trans KX);rw[l5,np] at hl;obtain⟨x,rfl⟩:=GF hl;rw[np] at p5;exact⟨_,r,np▸yW p1 p2 p3 p4 p5 e1 (st _ _ e2) e3⟩
 ·cases df with
  |no e1 e2=>rw[e2] at eh;cases eh
  |GD t o d0 d1 d2 d3 d4 n e1 e2 e3 r l5 e4=>
   subst e4;have np:lf.np=6:=Option.some.inj ((congrArg (Option.map LF.np) hf).symm.trans KX)
   have Sr:c=6:=by
    rcases tX hc hf with⟨_,q⟩|⟨_,q⟩|⟨q,_⟩|⟨_,q⟩
    ·cases q
    ·cases q
    ·exact q
    ·cases q
   subst Sr;rw[np] at p5;exact⟨_,r,np▸vE (l5▸eh) hk p1 p2 p3 p4 p5 e1 (st _ _ e2) e3⟩
end
section
variable{prog:Program}{w:World}{g:jT}{h:Heap}
noncomputable def za(prog:Program)(w:World)(h:Heap)(B:Bg):Prop:=B.prog=prog/\B.w=w/\B.h0=h/\B.P=af/\B.fa=jr/\B.x=0/\B.nm=jF/\Fe B/\(∀f lf,B.P.dg.get f=some lf->Mm B f lf)/\ei B
set_option tactic.hygienic true in
theorem zb(hg:∀a o,g a=some o->h.get? a=some o)(hc:QJ g=true)(ht:∀f lf,dg.get f=some lf->wh jF (names0 f) (oi (bX g (jr f)).body (bX g (jr f)).scope) lf=true)(x1:∃q,IX g 210 "text" "Exception" "text" (.Name "text" q))(x2:∃t k q,IX g 230 "value" "PerlError" "value" (.Constant (.str t) k q))(x3:∃t k q,IX g 261 "steps" "PerlError" "steps" (.Constant (.str t) k q))(y1:gB (fragOf g) 233 ["text","value"])(y2:gB (fragOf g) 245 ["text"])(y3:gB (fragOf g) 264 ["text","steps"]):∃B,za prog w h B:=by
 obtain⟨eg,h1,hc⟩:=yZ hc;obtain⟨eb,h2,hc⟩:=yZ hc;obtain⟨ec,h3,hc⟩:=yZ hc
 ·unfold KQ at hc;have fx:Fx (bg prog w h g eg eb):=KR hg h1 h2 h3 (bL (bL (bL (bL (bL (bL (bL (bL (bL (bL (bL hc))))))))))) (bR (bL (bL (bL (bL (bL (bL (bL (bL (bL (bL hc)))))))))));have fm:=KS hg fx (bR (bL (bL (bL (bL (bL (bL (bL (bL (bL hc)))))))))) (bR (bL (bL (bL (bL (bL (bL (bL (bL hc))))))))) (bR (bL (bL (bL (bL (bL (bL (bL hc)))))))) (bR (bL (bL (bL (bL (bL (bL hc)))))));have fr:=GB fm (bR (bL (bL (bL (bL (bL (bL (bL (bL hc))))))))) (bR (bL (bL (bL (bL (bL hc)))))) (bR (bL (bL (bL (bL hc))))) (bR (bL (bL (bL hc)))) (bR (bL (bL hc)));refine⟨bg prog w h g eg eb,rfl,rfl,rfl,rfl,rfl,rfl,rfl,KV hg fr (bR (bL hc)) x1 x2 x3 y1 y2 y3,λf lf e=>GG hg e (gP dg _ (bR hc) f lf e) (ht f lf e),λf vs v e=>by cases e⟩
end
end Mine
end
section
open PySem PySem.W PyProof.Rows
namespace Mine
noncomputable def fK(n:Str):List Stmt->Option (FuncBody×Scope)
 |[]=>none
 |.FunctionDef m _ body _ _ _ sc _ _ _::r=>if m==n then some (.stmts body,sc) else fK n r
 |_::r=>fK n r
noncomputable def gC(n:Str):List Stmt->List Stmt
 |[]=>[]
 |.ClassDef m _ _ body _ _ _ _ _ _ _::r=>if m==n then body else gC n r
 |_::r=>gC n r
noncomputable def KY(f:Nat):Option (FuncBody×Scope):=match f with
 |18=>fK "__init__" (gC "TemplateReader" pw.main.body)
 |19=>fK "peek" (gC "TemplateReader" pw.main.body)
 |20=>fK "skip" (gC "TemplateReader" pw.main.body)
 |31=>fK "__init__" (gC "Unpacker" pw.main.body)
 |48=>fK "__init__" (gC "Limits" pw.main.body)
 |49=>fK "__init__" (gC "Packer" pw.main.body)
 |f=>fK (jF.gd f) pw.main.body
noncomputable def fR(T:BT)(n:Nat)(a:Nat):Option Obj:=match Nat.blt a n with
 |true=>(match T.get a with|some o=>alive o|none=>none)
 |false=>none
set_option tactic.hygienic true in
theorem vG{T:BT}{n:Nat}{life:Life}{a:Nat}{o:Obj}(e:fR T n a=some o):(absHeap T n life).get? a=some o:=by
 unfold fR at e
 split at e
 ·rename_i lt
  split at e
  ·rename_i o' ho;rw[abs_get (Nat.le_of_ble_eq_true lt) ho,e]
  ·cases e
 ·cases e
noncomputable def KZ(w:World)(x:Flow×SharedT×Code×Pos):=(x.1,x.2.2.1,x.2.2.2,qB w x.2.1.abs)
noncomputable def K0(x:Flow×SharedT×Code×Pos):=(QJ (fR x.2.1.tree x.2.1.n),(List.range 84).map (Gx (fR x.2.1.tree x.2.1.n)))
noncomputable def Ep:=(Flow.next,lT,(⟨895,0,899,100⟩:Pos),true,openGood qV eP)
noncomputable def Er:=(true,(List.range 84).map KY)
theorem t4(s:Shared)(w:World):topRun treeTable pw w 11 (some (.ref 6)) 5 s ⟨doneF .next,lT,⟨895,0,899,100⟩,fZ⟩=some s:=by
 first|rfl|kernel_rfl
theorem zc:mT=qB:=by
 unfold mT qB;rw[PySem.W.Fast.te4187177175401517315,PySem.W.Fast.te5923862056798008813]
noncomputable def Yf(s:Shared):Prop:=∀w:World,∃B,za pw w s.heap B
noncomputable def lr(f:Nat):Bool:=match KY f,dg.get f with
 |some (b,sc),some lf=>wh jF (names0 f) (oi b sc) lf
 |_,_=>false
theorem K1(w:World)(os:OsState):KZ w (.next,dy w os,lT,wx)=Ep:=by
 kernel_rfl
theorem K2(w:World)(os:OsState):K0 (.next,dy w os,lT,wx)=Er:=by
 kernel_rfl
noncomputable def gS(w:World)(os:OsState):jT:=fR (dy w os).tree (dy w os).n
theorem Ss(w:World)(os:OsState):∃q,IX (gS w os) 210 "text" "Exception" "text" (.Name "text" q):=
 ⟨⟨129,33,129,37⟩,by kernel_rfl,by kernel_rfl,by kernel_rfl,by kernel_rfl,by kernel_rfl,by kernel_rfl,by kernel_rfl,by kernel_rfl,by kernel_rfl,by kernel_rfl,by kernel_rfl,by kernel_rfl,by kernel_rfl,by kernel_rfl,by kernel_rfl,by kernel_rfl,by kernel_rfl,⟨129,8,129,17⟩,⟨129,27,129,31⟩,⟨130,8,130,12⟩,⟨130,20,130,24⟩,⟨130,8,130,24⟩,⟨129,8,129,26⟩,⟨130,8,130,17⟩,⟨129,8,129,38⟩,⟨129,8,129,38⟩,by kernel_rfl,by kernel_rfl⟩
theorem Su(w:World)(os:OsState):∃t k q,IX (gS w os) 230 "value" "PerlError" "value" (.Constant (.str t) k q):=
 ⟨"died",0,⟨134,33,134,39⟩,by kernel_rfl,by kernel_rfl,by kernel_rfl,by kernel_rfl,by kernel_rfl,by kernel_rfl,by kernel_rfl,by kernel_rfl,by kernel_rfl,by kernel_rfl,by kernel_rfl,by kernel_rfl,by kernel_rfl,by kernel_rfl,by kernel_rfl,by kernel_rfl,by kernel_rfl,⟨134,8,134,17⟩,⟨134,27,134,31⟩,⟨135,8,135,12⟩,⟨135,21,135,26⟩,⟨135,8,135,26⟩,⟨134,8,134,26⟩,⟨135,8,135,18⟩,⟨134,8,134,40⟩,⟨134,8,134,40⟩,by kernel_rfl,by kernel_rfl⟩
theorem Sv(w:World)(os:OsState):∃t k q,IX (gS w os) 261 "steps" "PerlError" "steps" (.Constant (.str t) k q):=
 ⟨"too many steps",0,⟨141,33,141,49⟩,by kernel_rfl,by kernel_rfl,by kernel_rfl,by kernel_rfl,by kernel_rfl,by kernel_rfl,by kernel_rfl,by kernel_rfl,by kernel_rfl,by kernel_rfl,by kernel_rfl,by kernel_rfl,by kernel_rfl,by kernel_rfl,by kernel_rfl,by kernel_rfl,by kernel_rfl,⟨141,8,141,17⟩,⟨141,27,141,31⟩,⟨142,8,142,12⟩,⟨142,21,142,26⟩,⟨142,8,142,26⟩,⟨141,8,141,26⟩,⟨142,8,142,18⟩,⟨141,8,141,50⟩,⟨141,8,141,50⟩,by kernel_rfl,by kernel_rfl⟩
noncomputable def dB(K:Frag)(C:Addr):ClassData:=(clsIn K C).getD default
noncomputable def iE(K:Frag)(C:Addr)(i:Nat):Option Value:=((K.lookup C).bind λo=>o.slots[i]?).getD none
noncomputable def GH(K:Frag)(C:Addr):Option Addr:=(K.lookup C).bind (·.dict)
noncomputable def kS(w:World)(os:OsState):Frag:=fragOf (gS w os)
theorem Sw(w:World)(os:OsState):gB (kS w os) 233 ["text","value"] where
 obj:=.mk (dB (kS w os) 233).name (dB (kS w os) 233).qualname (dB (kS w os) 233).ns (dB (kS w os) 233).bases [213] (dB (kS w os) 233).slotNames (dB (kS w os) 233).subclasses (dB (kS w os) 233).abstract (dB (kS w os) 233).collection (GH (kS w os) 233) (iE (kS w os) 233 0) (iE (kS w os) 233 1) (iE (kS w os) 233 2) (iE (kS w os) 233 3) (iE (kS w os) 233 5) (by kernel_rfl)
 cls:=⟨dB (kS w os) 233,by kernel_rfl,⟨[233,213],by kernel_rfl⟩,by kernel_rfl⟩
 sa:=by kernel_rfl
 fld:=λn hn=>of_decide_eq_true (List.all_eq_true.mp (show[("text":Str),("value":Str)].all (λn=>decide (findIn (kS w os) (.ref 233) n=some none))=true by kernel_rfl) n hn)
theorem Sx(w:World)(os:OsState):gB (kS w os) 245 ["text"] where
 obj:=.mk (dB (kS w os) 245).name (dB (kS w os) 245).qualname (dB (kS w os) 245).ns (dB (kS w os) 245).bases [213] (dB (kS w os) 245).slotNames (dB (kS w os) 245).subclasses (dB (kS w os) 245).abstract (dB (kS w os) 245).collection (GH (kS w os) 245) (iE (kS w os) 245 0) (iE (kS w os) 245 1) (iE (kS w os) 245 2) (iE (kS w os) 245 3) (iE (kS w os) 245 5) (by kernel_rfl)
 cls:=⟨dB (kS w os) 245,by kernel_rfl,⟨[245,213],by kernel_rfl⟩,by kernel_rfl⟩
 sa:=by kernel_rfl
 fld:=λn hn=>of_decide_eq_true (List.all_eq_true.mp (show[("text":Str)].all (λn=>decide (findIn (kS w os) (.ref 245) n=some none))=true by kernel_rfl) n hn)
theorem Sy(w:World)(os:OsState):gB (kS w os) 264 ["text","steps"] where
 obj:=.mk (dB (kS w os) 264).name (dB (kS w os) 264).qualname (dB (kS w os) 264).ns (dB (kS w os) 264).bases [213] (dB (kS w os) 264).slotNames (dB (kS w os) 264).subclasses (dB (kS w os) 264).abstract (dB (kS w os) 264).collection (GH (kS w os) 264) (iE (kS w os) 264 0) (iE (kS w os) 264 1) (iE (kS w os) 264 2) (iE (kS w os) 264 3) (iE (kS w os) 264 5) (by kernel_rfl)
 cls:=⟨dB (kS w os) 264,by kernel_rfl,⟨[264,213],by kernel_rfl⟩,by kernel_rfl⟩
 sa:=by kernel_rfl
 fld:=λn hn=>of_decide_eq_true (List.all_eq_true.mp (show[("text":Str),("steps":Str)].all (λn=>decide (findIn (kS w os) (.ref 264) n=some none))=true by kernel_rfl) n hn)
theorem CV{w:World}(AO:∀f,f<84->lr f=true)(hl:jU dg (λf _=>Nat.blt f 84)=true):
  (openEnds treeTable pw w 8000).map (λs=>(openSeen qV eP (importedModules pw.main.body) (λ_=>true) true s,Yf s))=some (openGood qV eP,True):=by
 obtain⟨⟨h0,gs,d,k,os⟩,e,e'⟩:=Option.map_eq_some_iff.mp (boot_open (p:=pw) (N:=8000) open_0 rfl AR w)
 obtain⟨rfl,rfl,rfl,rfl⟩:h0=boot_heap w.params/\gs=#[]/\d=boot_drawn/\k=boot_toks:=by simpa using e'
 have he:=K1 w os;have hb:=K2 w os;have i1:∃q,IX (fR (dy w os).tree (dy w os).n) 210 "text" "Exception" "text" (.Name "text" q):=Ss w os;have i2:∃t k q,IX (fR (dy w os).tree (dy w os).n) 230 "value" "PerlError" "value" (.Constant (.str t) k q):=Su w os;have i3:∃t k q,IX (fR (dy w os).tree (dy w os).n) 261 "steps" "PerlError" "steps" (.Constant (.str t) k q):=Sv w os;have j1:gB (fragOf (fR (dy w os).tree (dy w os).n)) 233 ["text","value"]:=Sw w os;have j2:gB (fragOf (fR (dy w os).tree (dy w os).n)) 245 ["text"]:=Sx w os;have j3:gB (fragOf (fR (dy w os).tree (dy w os).n)) 264 ["text","steps"]:=Sy w os;have h1:=mW (MI w os);have h2:=mW (MF w os);have h3:=mW (MH w os);generalize dy w os=S at *;unfold KZ Ep at he;unfold K0 Er at hb;rw[←zc] at he;simp only[Prod.mk.injEq] at he hb;obtain⟨_,_,_,he⟩:=he;obtain⟨hc,ht⟩:=hb;unfold mT at he;obtain⟨l1,l2⟩:=Prod.mk.inj he
 obtain⟨z1,z2,z3⟩:_/\_/\_:=by simpa only[Prod.mk.injEq] using size_0 w
 have r:topRun treeTable pw w 11 (some (.ref 6)) (12+(1+(3800+(1900+(1800+5))))) (Dp w os) (topStub pw)=some S.abs:=by
  refine go_top (ME w os) (piece_block (EN w os) ?_);rw[EW];exact piece_app h1 (piece_app h2 (piece_app h3 (t4 S.abs w)))
 have r:=topRun_mono 482 _ _ _ _ r
 have t:topFrom treeTable pw w 8000 ⟨boot_heap w.params,#[],boot_drawn,boot_toks,os⟩=some S.abs:=by
  unfold topFrom;dsimp only
  rw[z1,z2,z3,show topRun treeTable pw w 11 (some (.ref 6)) 8000 ⟨boot_heap w.params,#[],boot_drawn,boot_toks,os⟩ (topStub pw)=some S.abs from r]
  show(match staticsOk (importedModules pw.main.body) (boot_heap w.params) S.abs.heap&&namesBound pw S.abs.heap&&gensDone S.abs&&laidKept (boot_heap w.params) S.abs.heap with|true=>_|false=>_)=_;rw[l1]
 unfold openEnds;rw[e];rw[Option.bind_some];rw[t];refine congrArg some (Prod.ext l2 (eq_true λw'=>zb (g:=fR S.tree S.n) (λa o e=>vG e) hc (λf lf hf=>?_) i1 i2 i3 j1 j2 j3));have eh:f<84:=Nat.le_of_ble_eq_true (gP dg _ hl f lf hf);have k:=AO f eh;have:=congrArg (λl=>l[f]?) ht;simp only[List.getElem?_map,List.getElem?_range eh,Option.map_some,Option.some.injEq] at this;unfold lr at k;rw[←this,hf] at k;exact k
theorem ok_0:(List.range' 0 20).all lr=true:=by kernel_rfl
theorem ok_1:(List.range' 20 15).all lr=true:=by kernel_rfl
theorem ok_2:(List.range' 35 15).all lr=true:=by kernel_rfl
theorem ok_3:(List.range' 50 15).all lr=true:=by kernel_rfl
theorem ok_4:(List.range' 65 10).all lr=true:=by kernel_rfl
theorem ok_5:(List.range' 75 9).all lr=true:=by kernel_rfl
theorem GI(f:Nat)(h:f<84):lr f=true:=by
 have m:∀a n,(List.range' a n).all lr=true->a<=f->f<a+n->lr f=true:=λa n e h1 h2=>List.all_eq_true.mp e f (by rw[List.mem_range'_1];exact⟨h1,h2⟩)
 rcases Nat.lt_or_ge f 20 with q|q
 ·exact m _ _ ok_0 (Nat.zero_le _) (by walk_at "om")
 rcases Nat.lt_or_ge f 35 with q|q
 ·exact m _ _ ok_1 (by walk_at "om") (by walk_at "om")
 rcases Nat.lt_or_ge f 50 with q|q
 ·exact m _ _ ok_2 (by walk_at "om") (by walk_at "om")
 rcases Nat.lt_or_ge f 65 with q|q
 ·exact m _ _ ok_3 (by walk_at "om") (by walk_at "om")
 rcases Nat.lt_or_ge f 75 with q|q
 ·exact m _ _ ok_4 (by walk_at "om") (by walk_at "om")
 ·exact m _ _ ok_5 (by walk_at "om") (by walk_at "om")
theorem GJ:jU dg (λf _=>Nat.blt f 84)=true:=by kernel_rfl
noncomputable def YP(w:World)(h:Heap):Prop:=∃h0 B,za pw w h0 B/\∀b o,h0.get? b=some o->h.get? b=some o
theorem zd:(defOf qV (b5.row).name).isSome=true:=by kernel_rfl
theorem GK:(defOf qV (b5.row).name).map (λx=>(x.1.params,x.1.body,x.1.scope))=pw.theDef (b5.row).name:=by kernel_rfl
theorem GL:(defOf qV (b5.row).name).bind (λx=>(kwWritten? x.1.params.kwonlyargs x.1.params.kw_defaults).map λk=>k.isEmpty)=some true:=by kernel_rfl
theorem CW:(defOf qV (b5.row).name).map (λx=>x.2.isEmpty)=some true:=by kernel_rfl
theorem GN:(chainsOk qV&&opensWell (b5.row).prog&&(frees (b5.row).toRowW&&(b5.row).within.isEmpty))=true:=by kernel_rfl
theorem rY:(!(b5.row).writes||(b5.row).records.isEmpty)=true:=by kernel_rfl
theorem holds_of(left:LeftO pw qV eP (λ_=>true) Yf (λ_=>True) 8000)(hw:(b5.row).toRowW.promised)(hb:(b5.row).prog.bare)
 (call:∀d Ia,d.name=(b5.row).name->WalkO qV eP (λ_ _=>True) YP (b5.row).toRowW d Ia λf vs=>PySem.call f vs):b5.Holds:=by
 refine holds_law Ir λOf=>?_;obtain⟨⟨d,Ia⟩,hd⟩:=Option.isSome_iff_exists.mp zd;have e1:=GK;have e2:=GL;have e3:=CW;rw[hd] at e1 e2 e3;simp only[Option.map_some,Option.some.injEq,List.isEmpty_iff,Option.bind_some,Option.map_eq_some_iff] at e2 e3;subst e3;obtain⟨k,e2,e4⟩:=e2;subst e4;refine holds_open (Xt:=λ_=>true) (XP:=λ_ _=>True) (Yf:=Yf) (Ya:=λ_=>True) (YP:=YP) left (λw s e=>?_) (λw h h' y k=>?_) (λ_ _=>trivial) (λ_ _ _ _ _=>trivial) hd e1.symm e2 (λ_ _=>?_) rY Of GN hb hw (call d [] (defOf_name hd))
 ·obtain⟨B,hB⟩:=(of_eq_true e:Yf s) w;exact⟨_,B,hB,λ_ _ e=>e⟩
 ·obtain⟨h0,B,hB,kk⟩:=y;exact⟨h0,B,hB,λb o e=>k b o (kk b o e)⟩
 ·exact recFacts_of (R:=[]) (by rfl)
theorem vH:(b5.row).toRowW.promised:=by w_witness2
theorem ze{h:Heap}:∀{vs:List Value}{ns:List Int},IntsAre vs ns->aB [] [] h (ns.map .int) vs:=fun{vs ns} x=>by
 induction x with
 |nil=>rw[List.map_nil,aB];trivial
 |cons n t _ ih=>rw[List.map_cons,aB];exact⟨gq.mpr ⟨t,rfl⟩,ih⟩
theorem mI:∀(ns:List Int),d6 (ns.map .int)=true
 |[]=>rfl
 |n::r=>by rw[List.map_cons,d6,mI r];rfl
theorem vI(R:WRecords)(a1 a2:List WData):WTm.value R (.eq .res (.lit (.bool true))) {args:=a1,res:=some (.bool true),after:=a2}=some (.bool true):=by simp[WTm.value,same]
set_option tactic.hygienic true in
theorem K3(plain:∀l:List Int,l.length<=63->∃σ,ah af (deep af 150) 83 [.ag (l.map .int)] []=.ok (.bool true) σ)(d:DefRec)(Ia:List (Str×Expr))(hn:d.name=(b5.row).name):WalkO qV eP (λ_ _=>True) YP (b5.row).toRowW d Ia λf vs=>PySem.call f vs:=by
 intro w Bc s₁ mg mb G Y fa o pm cd doc dV kV ho hd H9 hD QL hg args vals as Og Oh Sz SA NI
 wrow_args Og Oh Sz SA NI
 rename_i ns hs TQ QM TR TS TU TV la vs TX hL hR hW TY hI SD hlen _;obtain⟨h0,B,⟨bp,bw,bh,bP,TZ,bx,SG,fe,FO,MG⟩,hk⟩:=Y;have base:B.h0.StaysIn s₁.heap:=λb o e=>hk b o (bh▸e)
 have Oi:B.mg "law"=some (.ref fa):=by
  have:=(fe.g.keeps base).eq_nsMap;rw[this,←G.T.g.eq_nsMap];have xp:d.name="law":=hn;rw[xp] at QL;exact QL
 have SH:B.fa 83=fa:=by
  have Es:B.nm.gd 83="law":=by rw[SG];rfl
  rcases fe.fn 83 with q|⟨q,_⟩
  ·rw[Es] at q;exact absurd q (by decide+kernel)
  ·rw[Es,Oi] at q
   injection q with q
   injection q with q
   exact q.symm
 obtain⟨oL,QM,SI,nL,SJ⟩:=hL;have inv:Inv B [] [] [] s₁.heap:=⟨rfl,λi o p e=>(by simp at e),λi j p q _ e=>(by simp at e),λp hp=>(by cases hp),λp hp=>(by cases hp),base,λf hf=>(by cases hf)⟩
 have rs:aB [] [] s₁.heap [.ag (ns.map .int)] [.ref la]:=by
  rw[aB,aB];refine⟨nE.mpr ⟨mI ns,la,oL,vs.toArray,nL,rfl,QM,(λ⟨p,hp,_⟩=>by cases hp),by simp,SI,SJ,ze hI⟩,trivial⟩
 have xk:XK callerA [] s₁.heap (B.x+150):=by
  rw[bx];exact⟨rfl,⟨[],rfl,λe he=>(by cases he)⟩,by decide+kernel,by decide+kernel⟩
 obtain⟨σ,SK⟩:=plain ns (by walk_at "om");have CG:=(vy fe FO MG 150).1;rw[bP] at CG;have S:=rF (B:=B) (C:=deep af 150) (f:=83) CG MG xk inv rs;rw[bP,SK] at S;have:=S iR;rw[SH,bp,bw] at this;refine wpAny_mono this (λv s' h=>?_) λe s' h=>h.elim;obtain⟨ak,le,_,r⟩:=h;have hv:v=.bool true:=eG.mp r;subst hv;refine⟨.inl ⟨_,.bool true,[],rfl,λcls=>?_,?_,?_,λ_=>⟨.nil,λ_ ha=>nomatch ha⟩⟩,.of_keep λb o e=>le.keep b o e (λ⟨p,hp,_⟩=>by cases hp) nofun,le.os,.of_eq (le.gens.trans hg)⟩
 ·rfl
 ·exact .bool true
 ·exact postW_of (r:=(b5.row).toRowW) (X:=true) (by rfl) (vI _ _ _) rfl
theorem qb(left:LeftO pw qV eP (λ_=>true) Yf (λ_=>True) 8000)(plain:∀l:List Int,l.length<=63->∃σ,ah af (deep af 150) 83 [.ag (l.map .int)] []=.ok (.bool true) σ):b5.Holds:=
 holds_of left vH It λd Ia hn=>K3 plain d Ia hn
theorem K4:LeftO pw qV eP (λ_=>true) Yf (λ_=>True) 8000:=λw=>CV (w:=w) GI GJ
end Mine
end
namespace MineP
open Mine
def cv(σ:LH)(v:LV):Out LV:=eQ .bad (.ok v σ) (λ_=>.ok v σ) (λ_=>.ok v σ) (λ_=>.ok v σ) (λ_=>.ok v σ) (λ_=>.ok v σ) (λ_=>.ok v σ) v
section
variable{P:dR}{C:Nat->List LV->LH->Out LV}{n d:Nat}{ρ:List LV}{σ:LH}{α β:Type}
theorem aw{x:α}{f:α->LH->Out β}:oB (.ok x σ) f=f x σ:=rfl
theorem Oj{c:Nat}{f:α->LH->Out β}:oB (.err c σ) f=.err c σ:=rfl
theorem zf{x:α}{f:α->LH->Out β}:Iz (.ok x σ) f=f x σ:=rfl
theorem b8{x:α}{f:α->LH->av}:oS (.ok x σ) ρ f=f x σ:=rfl
theorem Ol{c:Nat}{f:α->LH->av}:oS (.err c σ) ρ f=.err c ρ σ:=rfl
theorem aP{x:α}{f:α->Out β}:oN (some x) f=f x:=rfl
theorem lu{x:α}{f:α->av}:jJ (some x) f=f x:=rfl
theorem dW{x:Out β}:bN true x=x:=rfl
theorem dr{x y:β}:cB true x y=x:=rfl
theorem dO{x y:β}:cB false x y=y:=rfl
theorem cQ{x:α}{f:α->β}{y:β}:cO (some x) f y=f x:=rfl
theorem Mp{f:α->β}{y:β}:cO none f y=y:=rfl
theorem cP{f:List LV->LH->av}:f9 (.nx ρ σ) f=f ρ σ:=rfl
theorem c9{v:LV}{f:List LV->LH->av}:f9 (.ret v σ) f=.ret v σ:=rfl
theorem Ic{f:List LV->LH->av}:f9 (.brk ρ σ) f=.brk ρ σ:=rfl
theorem Ie{c:Nat}{f:List LV->LH->av}:f9 (.err c ρ σ) f=.err c ρ σ:=rfl
theorem bY{f:List LV->LH->av}:turn (.nx ρ σ) f=f ρ σ:=rfl
theorem K5{v:LV}{f:List LV->LH->av}:turn (.ret v σ) f=.ret v σ:=rfl
theorem zg{f:List LV->LH->av}:turn (.brk ρ σ) f=.nx ρ σ:=rfl
theorem ft{v:LV}:ba (.ret v σ)=.ok v σ:=rfl
theorem qc:ba (.nx ρ σ)=.ok .none σ:=rfl
theorem GO:(run P C (n+1)).e .none ρ σ=.ok .none σ:=rfl
theorem Om{b}:(run P C (n+1)).e (.bool b) ρ σ=.ok (.bool b) σ:=rfl
theorem jc{i}:(run P C (n+1)).e (.int i) ρ σ=.ok (.int i) σ:=rfl
theorem tY{i}:(run P C (n+1)).e (.str i) ρ σ=.ok (.str i) σ:=rfl
theorem Oo{g v}:(run P C (n+1)).e (.a7 g v) ρ σ=.ok v σ:=rfl
theorem iF{i}:(run P C (n+1)).e (.var i) ρ σ=oN (bf ρ i) (cv σ):=rfl
theorem Et{o a b}:(run P C (n+1)).e (.bin o a b) ρ σ=oB ((run P C n).e a ρ σ) λx σ=>oB ((run P C n).e b ρ σ) λy σ=>ay o x y σ:=rfl
theorem K6{a}:(run P C (n+1)).e (.neg a) ρ σ=oB ((run P C n).e a ρ σ) λx σ=>ct .bad (λi=>bN (b6 i) (.ok (.int (-i)) σ)) x:=rfl
theorem QN{a}:(run P C (n+1)).e (.not a) ρ σ=oB ((run P C n).e a ρ σ) λx σ=>oN (truth x) λb=>.ok (.bool (hZ b)) σ:=rfl
theorem mJ{a b}:(run P C (n+1)).e (.and a b) ρ σ=oB ((run P C n).e a ρ σ) λx σ=>oN (truth x) λt=>cB t ((run P C n).e b ρ σ) (.ok x σ):=rfl
theorem zh{a o b}:(run P C (n+1)).e (.cmp a o b) ρ σ=oB ((run P C n).e a ρ σ) λx σ=>oB ((run P C n).e b ρ σ) λy σ=>oN (ao o x y σ) λc=>.ok (.bool c) σ:=rfl
theorem zi{a o1 b o2 c}:(run P C (n+1)).e (.hY a o1 b o2 c) ρ σ=oB ((run P C n).e a ρ σ) λx σ=>oB ((run P C n).e b ρ σ) λy σ=>oN (ao o1 x y σ) λt=>
 cB t (oB ((run P C n).e c ρ σ) λz σ=>oN (ao o2 y z σ) λu=>.ok (.bool u) σ) (.ok (.bool false) σ):=rfl
theorem K7{c a b}:(run P C (n+1)).e (.ite c a b) ρ σ=oB ((run P C n).t c ρ σ) λt σ=>cB t ((run P C n).e a ρ σ) ((run P C n).e b ρ σ):=rfl
theorem lx{f as}:(run P C (n+1)).e (.call f as) ρ σ=oB ((run P C n).es as ρ σ) λvs σ=>ah P (run P C n).call f vs σ:=rfl
theorem jd:(run P C (n+1)).call=C:=rfl
theorem GP{b as}:(run P C (n+1)).e (.bi b as) ρ σ=oB ((run P C n).es as ρ σ) λvs σ=>e6 b vs σ:=rfl
theorem K8{b o as}:(run P C (n+1)).e (.bm b o as) ρ σ=oB ((run P C n).e o ρ σ) λx σ=>bN (j0 b x σ) (oB ((run P C n).es as ρ σ) λvs σ=>jZ b x vs σ):=rfl
theorem GQ{c j o}:(run P C (n+1)).e (.attr c j o) ρ σ=oB ((run P C n).e o ρ σ) λx σ=>oN (bj c j x σ) λv=>.ok v σ:=rfl
theorem tZ{o i}:(run P C (n+1)).e (.sub o i) ρ σ=oB ((run P C n).e o ρ σ) λx σ=>oB ((run P C n).e i ρ σ) λy σ=>oN (bH x y σ) λv=>.ok v σ:=rfl
theorem oo{o lo hi}:(run P C (n+1)).e (.slice o lo hi) ρ σ=oB ((run P C n).e o ρ σ) λx σ=>oB ((run P C n).e lo ρ σ) λl σ=>oB ((run P C n).e hi ρ σ) λh σ=>bA x l h σ:=rfl
theorem zj{es}:(run P C (n+1)).e (.list es) ρ σ=oB ((run P C n).es es ρ σ) λvs σ=>bN (small (len vs)) (alloc σ (.list vs)):=rfl
theorem Eu{es}:(run P C (n+1)).e (.tup es) ρ σ=oB ((run P C n).es es ρ σ) λvs σ=>bN (band (Nat.blt 0 (len vs)) (small (len vs))) (.ok (.tup vs) σ):=rfl
theorem zk{elt it}:(run P C (n+1)).e (.comp elt it) ρ σ=oB ((run P C n).e it ρ σ) λv σ=>(run P C n).comp elt v 0 (len σ) ρ (app σ [.list []]):=rfl
theorem jV{e}:(run P C (n+1)).e (.ag e) ρ σ=oB ((run P C n).e e ρ σ) λv ax=>freeze (len σ) v ax:=rfl
theorem fu:(run P C (n+1)).es .nil ρ σ=.ok [] σ:=rfl
theorem cw{a q}:(run P C (n+1)).es (.cons a q) ρ σ=oB ((run P C n).e a ρ σ) λv σ=>oB ((run P C n).es q ρ σ) λvs σ=>.ok (v::vs) σ:=rfl
theorem GR{f as}:(run P C (n+1)).t (.call f as) ρ σ=oB ((run P C n).e (.call f as) ρ σ) λv σ=>oN (truth v) λb=>.ok b σ:=rfl
theorem K9{i}:(run P C (n+1)).t (.var i) ρ σ=oB ((run P C n).e (.var i) ρ σ) λv σ=>oN (truth v) λb=>.ok b σ:=rfl
theorem La{a}:(run P C (n+1)).t (.not a) ρ σ=oB ((run P C n).t a ρ σ) λb σ=>.ok (hZ b) σ:=rfl
theorem Lb{a b}:(run P C (n+1)).t (.and a b) ρ σ=oB ((run P C n).t a ρ σ) λt σ=>cB t ((run P C n).t b ρ σ) (.ok false σ):=rfl
theorem Oq{a b}:(run P C (n+1)).t (.or a b) ρ σ=oB ((run P C n).t a ρ σ) λt σ=>cB t (.ok true σ) ((run P C n).t b ρ σ):=rfl
theorem t5{a o b}:(run P C (n+1)).t (.cmp a o b) ρ σ=oB ((run P C n).e a ρ σ) λx σ=>oB ((run P C n).e b ρ σ) λy σ=>oN (ao o x y σ) λc=>.ok c σ:=rfl
theorem GU{a o1 b o2 c}:(run P C (n+1)).t (.hY a o1 b o2 c) ρ σ=oB ((run P C n).e a ρ σ) λx σ=>oB ((run P C n).e b ρ σ) λy σ=>oN (ao o1 x y σ) λt=>
 cB t (oB ((run P C n).e c ρ σ) λz σ=>oN (ao o2 y z σ) λu=>.ok u σ) (.ok false σ):=rfl
theorem GV{e}:(run P C (n+1)).s (.expr e) ρ σ=oS ((run P C n).e e ρ σ) ρ λv σ=>plain v (.nx ρ σ):=rfl
theorem t6{x e}:(run P C (n+1)).s (.asg x e) ρ σ=oS ((run P C n).e e ρ σ) ρ λv σ=>.nx (aW ρ v x) σ:=rfl
theorem GW{c j o e}:(run P C (n+1)).s (.de c j o e) ρ σ=oS ((run P C n).e e ρ σ) ρ λv σ=>oS ((run P C n).e o ρ σ) ρ λx σ=>jJ (bO c j x v σ) λσ=>.nx ρ σ:=rfl
theorem GX{ts e}:(run P C (n+1)).s (.dc ts e) ρ σ=oS ((run P C n).e e ρ σ) ρ λv σ=>jJ (itemsOf v σ) λvs=>cB (Nat.beq (len ts) (len vs)) (cH (run P C n) ts vs ρ σ) .bad:=rfl
theorem Lc{x o e}:(run P C (n+1)).s (.aug x o e) ρ σ=jJ (bf ρ x) λold=>bound old<|oS ((run P C n).e e ρ σ) ρ λv σ=>oS (dh o old v σ) ρ λn σ=>.nx (aW ρ n x) σ:=rfl
theorem GY{c j ob o e}:(run P C (n+1)).s (.eY c j ob o e) ρ σ=oS ((run P C n).e ob ρ σ) ρ λx σ=>jJ (bj c j x σ) λold=>oS ((run P C n).e e ρ σ) ρ λv σ=>oS (dh o old v σ) ρ λn σ=>jJ (bO c j x n σ) λσ=>.nx ρ σ:=rfl
theorem mK{e}:(run P C (n+1)).s (.ret e) ρ σ=oS ((run P C n).e e ρ σ) ρ λv σ=>.ret v σ:=rfl
theorem Ot:(run P C (n+1)).s .lU ρ σ=.ret .none σ:=rfl
theorem t7{c a b}:(run P C (n+1)).s (.aV c a b) ρ σ=oS ((run P C n).t c ρ σ) ρ λt σ=>cB t ((run P C n).ss a ρ σ) ((run P C n).ss b ρ σ):=rfl
theorem Ld{c b}:(run P C (n+1)).s (.eE c b) ρ σ=(run P C n).eE c b ρ σ:=rfl
theorem ot{t it b}:(run P C (n+1)).s (.cj t it b) ρ σ=oS ((run P C n).e it ρ σ) ρ λv σ=>(run P C n).cj t v 0 b ρ σ:=rfl
theorem rZ{x e b}:(run P C (n+1)).s (.forr x e b) ρ σ=oS ((run P C n).e e ρ σ) ρ λv σ=>ct .bad (λi=>cB (band (b6 i) (small (kl i))) ((run P C n).forr x 0 (kl i) b ρ σ) .bad) v:=rfl
theorem QO:(run P C (n+1)).s .brk ρ σ=.brk ρ σ:=rfl
theorem t8:(run P C (n+1)).ss .nil ρ σ=.nx ρ σ:=rfl
theorem bZ{s q}:(run P C (n+1)).ss (.cons s q) ρ σ=f9 ((run P C n).s s ρ σ) λρ σ=>(run P C n).ss q ρ σ:=rfl
theorem mL{c b}:(run P C (n+1)).eE c b ρ σ=oS ((run P C n).t c ρ σ) ρ λt σ=>cB t (turn ((run P C n).ss b ρ σ) λρ σ=>(run P C n).eE c b ρ σ) (.nx ρ σ):=rfl
theorem jG{x i m b}:(run P C (n+1)).forr x i m b ρ σ=cB (Nat.blt i m) (turn ((run P C n).ss b (aW ρ (.int (.ofNat i)) x) σ) λρ σ=>(run P C n).forr x (Nat.add i 1) m b ρ σ) (.nx ρ σ):=rfl
theorem Ou{t v i b}:(run P C (n+1)).cj t v i b ρ σ=jJ (item? v i σ) λo=>cO o (λx=>jJ (qK t x ρ) λρ=>turn ((run P C n).ss b ρ σ) λρ σ=>(run P C n).cj t v (Nat.add i 1) b ρ σ) (.nx ρ σ):=rfl
theorem ou{elt v i k}:(run P C (n+1)).comp elt v i k ρ σ=oN (item? v i σ) λo=>cO o (λx=>Iz ((run P C n).e elt (x::ρ) σ) λy σ=>oN (bf σ k) (bC .bad λvs=>bN (small (len vs)) ((run P C n).comp elt v (Nat.add i 1) k ρ (aW σ (.list (app vs [y])) k)))) (.ok (.ref k) σ):=rfl
theorem aq{f vs lf aU}(h1:P.memo f vs=none)(h2:P.dg.get f=some lf)(h3:places lf vs=some aU):ah P (deep P (d+1)) f vs σ=ba ((run P (deep P d) 3000).ss lf.body aU σ):=by
 unfold ah;rw[h1];show oN (P.dg.get f) _=_;rw[h2];show oN (places lf vs) _=_;rw[h3];show bodyOf P (run P (deep P d) 3000) f aU σ=_;unfold bodyOf;rw[h2];rfl
theorem Mq:cv σ .none=.ok .none σ:=rfl
theorem Mr{b}:cv σ (.bool b)=.ok (.bool b) σ:=rfl
theorem ly{b}:cv σ (.int b)=.ok (.int b) σ:=rfl
theorem lz{b}:cv σ (.str b)=.ok (.str b) σ:=rfl
theorem Ov{b}:cv σ (.tup b)=.ok (.tup b) σ:=rfl
theorem eW{b}:cv σ (.ag b)=.ok (.ag b) σ:=rfl
theorem zl{b}:cv σ (.ref b)=.ok (.ref b) σ:=rfl
theorem fv{a:α}{l}:bf (a::l) 0=some a:=rfl
theorem eu{a:α}{l}:bf (a::l) (n+1)=bf l n:=rfl
theorem hO{a v:α}{l}:aW (a::l) v 0=v::l:=rfl
theorem hP{a v:α}{l}:aW (a::l) v (n+1)=a::aW l v n:=rfl
theorem QP(n:Nat):(@OfNat.ofNat Int n instOfNat)=Int.ofNat n:=rfl
theorem Lf{a b:Int}:ao .lt (.int a) (.int b) σ=some (kj a b):=rfl
theorem Ow{a b:Int}:ao .le (.int a) (.int b) σ=some (Dr a b):=rfl
theorem SM{a b:Int}:ao .gt (.int a) (.int b) σ=some (kj b a):=rfl
theorem SN{a b:Int}:ao .ge (.int a) (.int b) σ=some (Dr b a):=rfl
theorem SO{a b:Int}:ao .eq (.int a) (.int b) σ=some (oZ a b):=rfl
theorem SP{a b:Int}:ao .ne (.int a) (.int b) σ=some (hZ (oZ a b)):=rfl
theorem ow{a b:Nat}:kj (.ofNat a) (.ofNat b)=Nat.blt a b:=rfl
theorem Ox{a b:Nat}:oZ (.ofNat a) (.ofNat b)=Nat.beq a b:=rfl
theorem GZ{a b:Nat}:Dr (.ofNat a) (.ofNat b)=cB (Nat.blt b a) false true:=rfl
theorem oy{D}:e6 .len [.ag D] σ=bN (small (len D)) (.ok (.int (.ofNat (len D))) σ):=rfl
theorem CX{k:Nat}:e6 .len [.ref k] σ=oN (cO (bf σ k) (bC none some) none) λxs=>bN (small (len xs)) (.ok (.int (.ofNat (len xs))) σ):=rfl
theorem Ms{xs:List LV}:bC none some (.list xs)=some xs:=rfl
theorem je{b}:truth (.bool b)=some b:=rfl
theorem Oy{b:Int}{x:av}:bound (.int b) x=x:=rfl
theorem Oz{b:Nat}{x:av}:bound (.ref b) x=x:=rfl
theorem OA{b}{x:av}:bound (.str b) x=x:=rfl
theorem Mt{x:av}:plain .none x=x:=rfl
theorem OB{vs}:itemsOf (.tup vs) σ=some vs:=rfl
theorem OC{vs}:itemsOf (.ag vs) σ=some vs:=rfl
theorem zm{f:Int->β}{b:β}{i:Int}:ct b f (.int i)=f i:=rfl
theorem QQ{a b:Nat}:dh .add (.int (.ofNat a)) (.int (.ofNat b)) σ=.ok (.int (.ofNat (Nat.add a b))) σ:=rfl
theorem Lg{a b:Nat}:ay .add (.int (.ofNat a)) (.int (.ofNat b)) σ=.ok (.int (.ofNat (Nat.add a b))) σ:=rfl
theorem qe{a b:Int}:ay .sub (.int a) (.int b) σ=.ok (.int (a-b)) σ:=rfl
theorem jf{a b:Int}:ay .mod (.int a) (.int b) σ=bN (kj 0 b) (.ok (.int (Int.fmod a b)) σ):=rfl
theorem fL{a b:Int}:ay .fdiv (.int a) (.int b) σ=bN (band (kj 0 b) (b6 b)) (.ok (.int (Int.fdiv a b)) σ):=rfl
theorem Ew{a b:Int}:ay .mul (.int a) (.int b) σ=bN (band (b6 a) (b6 b)) (.ok (.int (a*b)) σ):=rfl
theorem qf{a b:Nat}:ay .band (.int (.ofNat a)) (.int (.ofNat b)) σ=.ok (.int (.ofNat (Nat.land a b))) σ:=rfl
theorem SQ{a b:Nat}:ay .bor (.int (.ofNat a)) (.int (.ofNat b)) σ=.ok (.int (.ofNat (Nat.lor a b))) σ:=rfl
theorem QR{a b:Nat}:ay .shl (.int (.ofNat a)) (.int (.ofNat b)) σ=bN (band (Nat.blt a 18446744073709551616) (Nat.blt b 128)) (.ok (.int (.ofNat (Nat.mul a (Nat.pow 2 b)))) σ):=rfl
theorem Ey{a b:Nat}:ay .shr (.int (.ofNat a)) (.int (.ofNat b)) σ=bN (Nat.blt b 128) (.ok (.int (.ofNat (Nat.div a (Nat.pow 2 b)))) σ):=rfl
theorem eM{D:List LV}{a:Nat}{v:LV}(h1:b6 (.ofNat a)=true)(h2:Nat.blt a (len D)=true)(h3:bf D a=some v):bH (.ag D) (.int (.ofNat a)) σ=some v:=by
 show cO (some (Int.ofNat a)) (λk=>cB (band (b6 k) true) (cO (idx k (len D)) (λj=>bf D j) none) none) none=_;show cB (band (b6 (.ofNat a)) true) (cO (cB (Nat.blt a (len D)) (some a) none) (λj=>bf D j) none) none=_;rw[h1,h2];exact h3
theorem zo{r:Ev}:cH r [] [] ρ σ=.nx ρ σ:=rfl
theorem QS{r:Ev}{x ts v vs}:cH r (.nm x::ts) (v::vs) ρ σ=cH r ts vs (aW ρ v x) σ:=rfl
end
section
variable{P:dR}{C:Nat->List LV->LH->Out LV}{n:Nat}{ρ fq:List LV}{σ aG bU:LH}{v w x y:LV}{vs:List LV}{b c c':Bool}{X:av}{R:Out LV}{T:Out Bool}
theorem Lh{bd:bB}(h1:(run P C n).ss bd ρ σ=X)(h2:ba X=R):ba ((run P C n).ss bd ρ σ)=R:=h1▸h2
theorem iG{s:St}{q:bB}{Y:av}(h1:(run P C n).s s ρ σ=X)(h2:f9 X (λρ σ=>(run P C n).ss q ρ σ)=Y):(run P C (n+1)).ss (.cons s q) ρ σ=Y:=by rw[bZ,h1];exact h2
theorem zp{q:bB}(h:(run P C n).ss q fq aG=X):f9 (.nx fq aG) (λρ σ=>(run P C n).ss q ρ σ)=X:=h
theorem zq{e:Ex}(h1:(run P C n).e e ρ σ=.ok v aG)(h2:∀Y:av,plain v Y=Y)(h3:.nx ρ aG=X):(run P C (n+1)).s (.expr e) ρ σ=X:=by rw[GV,h1,b8,h2];exact h3
theorem t9{e:Ex}{i:Nat}(h1:(run P C n).e e ρ σ=.ok v aG)(h2:.nx (aW ρ v i) aG=X):(run P C (n+1)).s (.asg i e) ρ σ=X:=by rw[t6,h1];exact h2
theorem OD{e o:Ex}{k j:Nat}(h1:(run P C n).e e ρ σ=.ok v aG)(h2:(run P C n).e o ρ aG=.ok w bU){τ:LH}(h3:bO k j w v bU=some τ):(run P C (n+1)).s (.de k j o e) ρ σ=.nx ρ τ:=by rw[GW,h1,b8,h2,b8,h3];rfl
theorem zr{e:Ex}{ts:List Tg}(h1:(run P C n).e e ρ σ=.ok v aG)(h2:itemsOf v aG=some vs)(h3:Nat.beq (len ts) (len vs)=true)(h4:cH (run P C n) ts vs ρ aG=X):(run P C (n+1)).s (.dc ts e) ρ σ=X:=by rw[GX,h1,b8,h2,lu,h3];exact h4
theorem ua{r:Ev}{i:Nat}{ts:List Tg}(h:cH r ts vs (aW ρ v i) σ=X):cH r (.nm i::ts) (v::vs) ρ σ=X:=h
theorem OE{k j:Nat}{o:Ex}{ts:List Tg}{τ:LH}(h1:(run P C n).e o ρ σ=.ok w aG)(h2:bO k j w v aG=some τ)(h:cH (run P C n) ts vs ρ τ=X):cH (run P C n) (.sD k j o::ts) (v::vs) ρ σ=X:=by
 show oS ((run P C n).e o ρ σ) ρ _=_;rw[h1,b8,h2];exact h
theorem QT{e:Ex}{i:Nat}{o:jo}(h0:bf ρ i=some x)(SR:∀X:av,bound x X=X)(h1:(run P C n).e e ρ σ=.ok v aG)(h2:dh o x v aG=.ok w bU)(h3:.nx (aW ρ w i) bU=X):(run P C (n+1)).s (.aug i o e) ρ σ=X:=by rw[Lc,h0,lu,SR,h1,b8,h2];exact h3
theorem OF{e ob:Ex}{k j:Nat}{o:jo}{τ:LH}{fT:LH}(h0:(run P C n).e ob ρ σ=.ok x aG)(h1:bj k j x aG=some y)(h2:(run P C n).e e ρ aG=.ok v bU)(h3:dh o y v bU=.ok w fT)(h4:bO k j x w fT=some τ):(run P C (n+1)).s (.eY k j ob o e) ρ σ=.nx ρ τ:=by rw[GY,h0,b8,h1,lu,h2,b8,h3,b8,h4];rfl
theorem Li{e:Ex}(h1:(run P C n).e e ρ σ=.ok v aG):(run P C (n+1)).s (.ret e) ρ σ=.ret v aG:=by rw[mK,h1];rfl
theorem zt{c0:Ex}{a d:bB}(h1:(run P C n).t c0 ρ σ=.ok b aG)(h2:cB b ((run P C n).ss a ρ aG) ((run P C n).ss d ρ aG)=X):(run P C (n+1)).s (.aV c0 a d) ρ σ=X:=by rw[t7,h1];exact h2
theorem OG{e:Ex}{i k:Nat}{bd:bB}(h1:(run P C n).e e ρ σ=.ok (.int (.ofNat k)) aG)(h2:band (b6 (.ofNat k)) (small k)=true)(h3:(run P C n).forr i 0 k bd ρ aG=X):(run P C (n+1)).s (.forr i e bd) ρ σ=X:=by
 rw[rZ,h1,b8,zm];show cB (band (b6 (.ofNat k)) (small k)) _ _=_;rw[h2];exact h3
theorem OH{e:Ex}{t:List Nat}{bd:bB}(h1:(run P C n).e e ρ σ=.ok v aG)(h3:(run P C n).cj t v 0 bd ρ aG=X):(run P C (n+1)).s (.cj t e bd) ρ σ=X:=by rw[ot,h1];exact h3
theorem QU{c0:Ex}{bd:bB}(h3:(run P C n).eE c0 bd ρ σ=X):(run P C (n+1)).s (.eE c0 bd) ρ σ=X:=by rw[Ld];exact h3
theorem QV{α:Type}{A B D:α}(h:b=true)(h2:A=D):cB b A B=D:=by subst h;exact h2
theorem QW{α:Type}{A B D:α}(h:b=false)(h2:B=D):cB b A B=D:=by subst h;exact h2
theorem OI{f:List LV->LH->av}{Y:av}(h1:X=.nx fq aG)(h2:f fq aG=Y):turn X f=Y:=by subst h1;exact h2
theorem QX{a d:Bool}(h1:a=true)(h2:d=true):band a d=true:=by rw[h1,h2];rfl
theorem Ez(h:.nx ρ σ=X):(run P C (n+1)).ss .nil ρ σ=X:=h
theorem QY{o:Ex}{ws:List LV}(h1:(run P C n).e o ρ σ=.ok x aG)(h2:listOf? x aG=some vs)(h3:small (len vs)=true)(h4:rev vs=ws):(run P C (n+1)).e (.rev o) ρ σ=.ok (.ref (len aG)) (app aG [.list ws]):=by
 subst h4;show oB ((run P C n).e o ρ σ) _=_;rw[h1,aw,h2,aP,h3];rfl
theorem Mu{k:Nat}{bd:bB}(h1:(run P C (n+1)).ss bd (aW ρ x k) σ=.nx fq aG)(h2:.nx fq aG=X):(run P C (n+2)).cj [k] (.ag [x]) 0 bd ρ σ=X:=by
 show turn ((run P C (n+1)).ss bd (aW ρ x k) σ) (λρ σ=>.nx ρ σ)=_;rw[h1];exact h2
theorem Mv{k:Nat}{bd:bB}{jq:List LV}(h1:(run P C (n+2)).ss bd (aW ρ x k) σ=.nx fq aG)(h2:(run P C (n+1)).ss bd (aW fq y k) aG=.nx jq bU)(h3:.nx jq bU=X):(run P C (n+3)).cj [k] (.ag [x,y]) 0 bd ρ σ=X:=by
 show turn ((run P C (n+2)).ss bd (aW ρ x k) σ) (λρ σ=>turn ((run P C (n+1)).ss bd (aW ρ y k) σ) λρ σ=>.nx ρ σ)=_;rw[h1,bY,h2];exact h3
theorem QZ{i j k:Nat}{bd:bB}(h:(run P C n).forr i j k bd fq σ=X)(h0:ρ=fq):(run P C n).forr i j k bd ρ σ=X:=by rw[h0];exact h
theorem Q0{t:List Nat}{j:Nat}{bd:bB}(h:(run P C n).cj t v j bd fq σ=X)(h0:ρ=fq):(run P C n).cj t v j bd ρ σ=X:=by rw[h0];exact h
theorem Q1{c0:Ex}{bd:bB}(h:(run P C n).eE c0 bd fq σ=X)(h0:ρ=fq):(run P C n).eE c0 bd ρ σ=X:=by rw[h0];exact h
theorem Lj{D:List LV}(h:small (len D)=true):e6 .len [.ag D] σ=.ok (.int (.ofNat (len D))) σ:=by rw[oy,h];rfl
theorem OJ{D:List LV}{m:Nat}(h0:len D=m)(h:small m=true):e6 .len [.ag D] σ=.ok (.int (.ofNat m)) σ:=by subst h0;exact Lj h
theorem Mw{o u:jY}{a d f:Ex}(h1:(run P C n).e a ρ σ=.ok x aG)(h2:(run P C n).e d ρ aG=.ok y bU)(h3:ao o x y bU=some b)(h4:cB b (oB ((run P C n).e f ρ bU) λz σ=>oN (ao u y z σ) λu=>.ok u σ) (.ok false bU)=T):(run P C (n+1)).t (.hY a o d u f) ρ σ=T:=by rw[GU,h1,aw,h2,aw,h3];exact h4
theorem Q2{u:jY}{f:Ex}(h1:(run P C n).e f ρ σ=.ok v aG)(h2:ao u y v aG=some c)(h3:c=c'):oB ((run P C n).e f ρ σ) (λz σ=>oN (ao u y z σ) λu=>.ok u σ)=.ok c' aG:=by subst h3;rw[h1,aw,h2];rfl
theorem Q3{a d:Nat}(h:Nat.blt a d=false):ao .ge (.int (.ofNat a)) (.int (.ofNat d)) σ=some true:=by
 show some (cB (Nat.blt a d) false true)=_;rw[h];rfl
theorem Q4{a d:Nat}(h:Nat.blt a d=true):ao .ge (.int (.ofNat a)) (.int (.ofNat d)) σ=some false:=by
 show some (cB (Nat.blt a d) false true)=_;rw[h];rfl
theorem Q5{a d:Nat}(h:Nat.blt d a=false):ao .le (.int (.ofNat a)) (.int (.ofNat d)) σ=some true:=by
 show some (cB (Nat.blt d a) false true)=_;rw[h];rfl
theorem Q6{a d:Nat}(h:Nat.blt d a=true):ao .le (.int (.ofNat a)) (.int (.ofNat d)) σ=some false:=by
 show some (cB (Nat.blt d a) false true)=_;rw[h];rfl
theorem jW{i:Nat}(h1:bf ρ i=some v)(h2:cv σ v=.ok w σ):(run P C (n+1)).e (.var i) ρ σ=.ok w σ:=by rw[iF,h1];exact h2
theorem Lk{o:jo}{a d:Ex}(h1:(run P C n).e a ρ σ=.ok x aG)(h2:(run P C n).e d ρ aG=.ok y bU)(h3:ay o x y bU=R):(run P C (n+1)).e (.bin o a d) ρ σ=R:=by rw[Et,h1,aw,h2];exact h3
theorem Q7{a:Ex}{i:Int}(h1:(run P C n).e a ρ σ=.ok (.int i) aG)(h2:b6 i=true):(run P C (n+1)).e (.neg a) ρ σ=.ok (.int (-i)) aG:=by rw[K6,h1,aw,zm,h2];rfl
theorem Q8{a d:Ex}(h1:(run P C n).e a ρ σ=.ok x aG)(h2:truth x=some b)(h3:cB b ((run P C n).e d ρ aG) (.ok x aG)=R):(run P C (n+1)).e (.and a d) ρ σ=R:=by rw[mJ,h1,aw,h2];exact h3
theorem Q9{o:jY}{a d:Ex}(h1:(run P C n).e a ρ σ=.ok x aG)(h2:(run P C n).e d ρ aG=.ok y bU)(h3:ao o x y bU=some c)(h4:c=c'):(run P C (n+1)).e (.cmp a o d) ρ σ=.ok (.bool c') bU:=by subst h4;rw[zh,h1,aw,h2,aw,h3];rfl
theorem Ra{c0 a d:Ex}(h1:(run P C n).t c0 ρ σ=.ok b aG)(h2:cB b ((run P C n).e a ρ aG) ((run P C n).e d ρ aG)=R):(run P C (n+1)).e (.ite c0 a d) ρ σ=R:=by rw[K7,h1];exact h2
theorem oz{f:Nat}{as:dH}(h1:(run P C (n+1)).es as ρ σ=.ok vs aG)(h2:ah P C f vs aG=R):(run P C (n+2)).e (.call f as) ρ σ=R:=by rw[lx,h1,aw,jd];exact h2
theorem OK{f:Bi}{as:dH}(h1:(run P C n).es as ρ σ=.ok vs aG)(h2:e6 f vs aG=R):(run P C (n+1)).e (.bi f as) ρ σ=R:=by rw[GP,h1];exact h2
theorem SU{f:Bm}{o:Ex}{as:dH}(h1:(run P C n).e o ρ σ=.ok x aG)(h0:j0 f x aG=true)(h2:(run P C n).es as ρ aG=.ok vs bU)(h3:jZ f x vs bU=R):(run P C (n+1)).e (.bm f o as) ρ σ=R:=by rw[K8,h1,aw,h0,dW,h2];exact h3
theorem OL{k j:Nat}{o:Ex}(h1:(run P C n).e o ρ σ=.ok x aG)(h2:bj k j x aG=some v):(run P C (n+1)).e (.attr k j o) ρ σ=.ok v aG:=by rw[GQ,h1,aw,h2];rfl
theorem Rb{o i:Ex}(h1:(run P C n).e o ρ σ=.ok x aG)(h2:(run P C n).e i ρ aG=.ok y bU)(h3:bH x y bU=some v):(run P C (n+1)).e (.sub o i) ρ σ=.ok v bU:=by rw[tZ,h1,aw,h2,aw,h3];rfl
theorem Mx{o l u:Ex}{fT:LH}(h1:(run P C n).e o ρ σ=.ok x aG)(h2:(run P C n).e l ρ aG=.ok y bU)(h3:(run P C n).e u ρ bU=.ok w fT)(h4:bA x y w fT=R):(run P C (n+1)).e (.slice o l u) ρ σ=R:=by rw[oo,h1,aw,h2,aw,h3];exact h4
theorem OM{es:dH}(h1:(run P C n).es es ρ σ=.ok vs aG)(h2:small (len vs)=true):(run P C (n+1)).e (.list es) ρ σ=.ok (.ref (len aG)) (app aG [.list vs]):=by rw[zj,h1,aw,h2];rfl
theorem Rc{es:dH}(h1:(run P C n).es es ρ σ=.ok vs aG)(h2:band (Nat.blt 0 (len vs)) (small (len vs))=true):(run P C (n+1)).e (.tup es) ρ σ=.ok (.tup vs) aG:=by rw[Eu,h1,aw,h2];rfl
theorem EA{e:Ex}(h1:(run P C n).e e ρ σ=.ok v aG)(h2:freeze (len σ) v aG=R):(run P C (n+1)).e (.ag e) ρ σ=R:=by rw[jV,h1];exact h2
theorem cS{a:Ex}{q:dH}(h1:(run P C n).e a ρ σ=.ok v aG)(h2:(run P C n).es q ρ aG=.ok vs bU):(run P C (n+1)).es (.cons a q) ρ σ=.ok (v::vs) bU:=by rw[cw,h1,aw,h2];rfl
theorem G0{o:jY}{a d:Ex}(h1:(run P C n).e a ρ σ=.ok x aG)(h2:(run P C n).e d ρ aG=.ok y bU)(h3:ao o x y bU=some c)(h4:c=c'):(run P C (n+1)).t (.cmp a o d) ρ σ=.ok c' bU:=by subst h4;rw[t5,h1,aw,h2,aw,h3];rfl
theorem ON{a d:Ex}(h1:(run P C n).t a ρ σ=.ok b aG)(h2:cB b ((run P C n).t d ρ aG) (.ok false aG)=T):(run P C (n+1)).t (.and a d) ρ σ=T:=by rw[Lb,h1];exact h2
theorem Rd{a d:Ex}(h1:(run P C n).t a ρ σ=.ok b aG)(h2:cB b (.ok true aG) ((run P C n).t d ρ aG)=T):(run P C (n+1)).t (.or a d) ρ σ=T:=by rw[Oq,h1];exact h2
theorem OO{a:Ex}(h1:(run P C n).t a ρ σ=.ok b aG)(h2:hZ b=c):(run P C (n+1)).t (.not a) ρ σ=.ok c aG:=by subst h2;rw[La,h1];rfl
theorem My{f:Nat}{as:dH}(h1:(run P C n).e (.call f as) ρ σ=.ok v aG)(h2:truth v=some b)(h3:b=c):(run P C (n+1)).t (.call f as) ρ σ=.ok c aG:=by subst h3;rw[GR,h1,aw,h2];rfl
theorem OP{i:Nat}(h1:(run P C n).e (.var i) ρ σ=.ok v aG)(h2:truth v=some b):(run P C (n+1)).t (.var i) ρ σ=.ok b aG:=by rw[K9,h1,aw,h2];rfl
theorem OQ{o:jo}{a d:Ex}(h1:(run P C n).e (.bin o a d) ρ σ=.ok v aG)(h2:truth v=some b):(run P C (n+1)).t (.bin o a d) ρ σ=.ok b aG:=by
 show oB ((run P C n).e (.bin o a d) ρ σ) _=_;rw[h1,aw,h2];rfl
theorem Rf{f:Bi}{as:dH}(h1:(run P C n).e (.bi f as) ρ σ=.ok v aG)(h2:truth v=some b):(run P C (n+1)).t (.bi f as) ρ σ=.ok b aG:=by
 show oB ((run P C n).e (.bi f as) ρ σ) _=_;rw[h1,aw,h2];rfl
theorem OS{k:Nat}:(run P C (n+1)).e (.int (@OfNat.ofNat Int k instOfNat)) ρ σ=.ok (.int (.ofNat k)) σ:=rfl
theorem SV{a d:Nat}:ao .lt (.int (.ofNat a)) (.int (.ofNat d)) σ=some (Nat.blt a d):=rfl
theorem SW{a d:Nat}:ao .gt (.int (.ofNat a)) (.int (.ofNat d)) σ=some (Nat.blt d a):=rfl
theorem SX{a d:Nat}:ao .eq (.int (.ofNat a)) (.int (.ofNat d)) σ=some (Nat.beq a d):=rfl
end
theorem zu{D:List LV}{a x d:Nat}{σ:LH}(h1:Nat.blt a (len D)=true)(h2:bf D a=some (.int (.ofNat x)))(h3:small (len D)=true)(h4:b6 (.ofNat a)=true):
  ah af (deep af (d+1)) 11 [.ag D,.int (.ofNat a)] σ=.ok (.bool (cB (Nat.blt x 32) false (Nat.blt x 97))) σ:=by
 rw[aq (aU:=[.ag D,.int (.ofNat a)]) rfl rfl rfl];have h5:=eM (σ:=σ) h4 h1 h2;clear h2;unfold MW MV;simp-implicitDefEqProofs only[QP,bZ,mK,mJ,zh,iF,eu,fv,aP,ly,GP,cw,eW,fu,aw,oy,dW,Lf,ow,zi,jc,tZ,je,Ow,GZ,dr,b8,t8,c9,ft,h3,h1,h5]
 cases Nat.blt x 32<;>rfl
theorem vJ{D:List LV}{a d:Nat}{σ:LH}(h1:Nat.blt a (len D)=false)(h3:small (len D)=true):
  ah af (deep af (d+1)) 11 [.ag D,.int (.ofNat a)] σ=.ok (.bool false) σ:=by
 rw[aq (aU:=[.ag D,.int (.ofNat a)]) rfl rfl rfl];unfold MW MV;simp-implicitDefEqProofs only[QP,bZ,mK,mJ,zh,iF,eu,fv,aP,ly,GP,cw,eW,fu,aw,oy,dW,Lf,ow,zi,jc,tZ,je,dO,b8,t8,c9,ft,h3,h1]
local macro_rules
 |`(tactic|walk_at "evA")=>`(tactic|first|assumption|solve_by_elim-symm-exfalso only[*])
 |`(tactic|walk_at "evB")=>`(tactic|first|assumption|with_unfolding_all exact(rfl:(_:Bool)=true)|with_unfolding_all exact(rfl:(_:Bool)=false))
 |`(tactic|walk_at "evC")=>`(tactic|first|assumption|(intro _;walk_at "evE"))
 |`(tactic|walk_at "evD")=>`(tactic|first|(show(_:List Mine.LV)=_;walk_at "evE")|(show(_:Bool)=_;first|walk_at "evB"|rfl)|(show∀Y,Mine.plain _ Y=Y;walk_at "evC")|(show∀X,Mine.bound _ X=X;walk_at "evC"))
 |`(tactic|walk_at "evE")=>`(tactic|with_unfolding_all rfl)
 |`(tactic|walk_at "evF")=>`(tactic|first|walk_at "evA"|walk_at "evx"|walk_at "evE")
 |`(tactic|walk_at "evG")=>`(tactic|assumption)
 |`(tactic|walk_at "evH")=>`(tactic|all_goals assumption)
local macro_rules
 |`(tactic|walk_at$n:str)=>do
  let some l:=[("evk","z Ot QO c9 Ic ft qc OS jc tY GO Om Oo fu je zo Ez zp iG zq t9 OD zr ua OE QT OF Li zt OG OH cS Lk Q7 Q8 Q9 Ra oz OK SU OL Rb Mx OM Rc EA jW QY Mu Mv QU G0 ON Rd OO My OP OQ Rf Lh Mw Q2 evB QV QW Q3 Q4 Q5 Q6 evH OJ QX evG Lj QZ Q0 Q1 F listOf? rev ay dh ao bH e6 jZ bA itemsOf bj bO truth hZ j0 small b6 band Nat.beq cv E av.nx Out.ok av.ret ba bf A ah freeze Ev.forr Ev.cj Ev.eE Ev.comp y evD"),("evx","z ly eW zl lz SV SW SX Lg QQ")].lookup n.getString|Lean.Macro.throwUnsupported
  let mut k:="z"
  let mut a:=#[]
  for x in l.splitOn " " do
   let i:=Lean.mkIdent x.toName
   if x.length==1||x.startsWith "ev"&&x !="evD" then k:=x
   else if k=="z" then a:=a.push (←`(Lean.Parser.Tactic.tacticSeq|apply$i))
   else if k=="y" then a:=a.push (←`(Lean.Parser.Tactic.tacticSeq|walk_at$(Lean.quote x)))
   else if k.length==1 then a:=a.push (←`(Lean.Parser.Tactic.tacticSeq|(show $i ..=_;walk_at$(Lean.quote ("ev"++k)))))
   else a:=a.push (←`(Lean.Parser.Tactic.tacticSeq|(apply$i;walk_at$(Lean.quote k))))
  if n.getString=="evx" then `(tactic|first $[|$a]*) else `(tactic|repeat' with_reducible first $[|$a]*)
set_option compiler.extract_closed false in
set_option compiler.extract_closed false in
noncomputable abbrev ae(xs:List Nat):List LV:=xs.map λx=>.int (.ofNat x)
def r7(x:Nat):Bool:=cB (Nat.blt x 32) false (Nat.blt x 97)
def lD(xs:List Nat)(a:Nat):Bool:=match xs[a]?with|some x=>r7 x|none=>false
def gD(xs:List Nat)(a:Nat):Nat:=match xs[a]?with|some x=>cB (r7 x) (Nat.land (x-32) 63) 0|none=>0
def cq(xs:List Nat)(a:Nat):Nat:=cB (lD xs a) (a+1) a
theorem lE{a b:Nat}(h:b<=a):(Int.ofNat a-Int.ofNat b:Int)=Int.ofNat (a-b):=by
 show((a:Int)-(b:Int))=((a-b:Nat):Int);walk_at "om"
theorem az(xs:List Nat):len (ae xs)=xs.length:=by rw[len_eq];simp
theorem ey(xs:List Nat)(a:Nat):bf (ae xs) a=(xs[a]?).map λx=>.int (.ofNat x):=by rw[aT];simp
theorem a6{a b:Nat}(h:a<b):Nat.blt a b=true:=Nat.ble_eq_true_of_le h
theorem bS{a b:Nat}(h:b<=a):Nat.blt a b=false:=by
 cases e:Nat.blt a b with
 |false=>rfl
 |true=>have:=Nat.le_of_ble_eq_true e;walk_at "om"
theorem dC{a:Nat}(h:a<1000000000000000000):b6 (.ofNat a)=true:=a6 h
theorem aN{a:Nat}(h:a<1000000):small a=true:=a6 h
section
variable{xs:List Nat}{a x d:Nat}{σ:LH}
theorem zv(hl:xs.length<1000)(ha:a<10000):ah af (deep af (d+1)) 11 [.ag (ae xs),.int (.ofNat a)] σ=.ok (.bool (lD xs a)) σ:=by
 have h3:small (len (ae xs))=true:=by rw[az];exact aN (by walk_at "om")
 have h4:b6 (.ofNat a)=true:=dC (by walk_at "om");cases e:xs[a]?with
 |some x=>
  have hx:=(List.getElem?_eq_some_iff.mp e).1;rw[zu (a6 (by rw[az];exact hx)) (by rw[ey,e];rfl) h3 h4];unfold lD;rw[e];rfl
 |none=>
  have hx:=List.getElem?_eq_none_iff.mp e;rw[vJ (bS (by rw[az];exact hx)) h3];unfold lD;rw[e]
theorem G1(hl:xs.length<1000)(ha:a<10000):ah af (deep af (d+2)) 12 [.ag (ae xs),.int (.ofNat a)] σ=.ok (.int (.ofNat (gD xs a))) σ:=by
 rw[aq (aU:=[.ag (ae xs),.int (.ofNat a)]) rfl rfl rfl];have hu:=λσ=>zv (xs:=xs) (a:=a) (d:=d) (σ:=σ) hl ha;unfold gD;unfold lD at hu;cases e:xs[a]?with
 |some x=>
  have hs:=λσ=>eM (σ:=σ) (dC (by walk_at "om")) (a6 (by rw[az];exact(List.getElem?_eq_some_iff.mp e).1)) (show bf (ae xs) a=some (.int (.ofNat x)) by rw[ey,e];rfl);rw[e] at hu;replace hu:∀σ,ah af (deep af (d+1)) 11 [.ag (ae xs),.int (.ofNat a)] σ=.ok (.bool (r7 x)) σ:=hu;refine(?_:ba ((run af (deep af (d+1)) 3000).ss JE _ _)=.ok (.int (.ofNat (cB (r7 x) (Nat.land (x-32) 63) 0))) σ);unfold JE
  cases hb:r7 x with
  |true=>
   rw[hb] at hu
   have r8:32<=x:=Nat.le_of_not_lt λq=>by unfold r7 at hb;rw[a6 q] at hb;cases hb
   have SY:∀σ:LH,ay .sub (.int (.ofNat x)) (.int (.ofNat 32)) σ=.ok (.int (.ofNat (x-32))) σ:=λσ=>by rw[qe,lE r8]
   walk_at "evk"
  |false=>
   rw[hb] at hu;walk_at "evk"
 |none=>
  rw[e] at hu;replace hu:∀σ,ah af (deep af (d+1)) 11 [.ag (ae xs),.int (.ofNat a)] σ=.ok (.bool false) σ:=hu;refine(?_:ba ((run af (deep af (d+1)) 3000).ss JE _ _)=.ok (.int (.ofNat 0)) σ);unfold JE;walk_at "evk"
end
noncomputable def HB(σ:LH):Prop:=∀o∈σ,aZ (len σ) o=true
theorem zx(n:Nat)(vs:List LV):below n (.tup vs)=belows n vs:=by
 induction vs with
 |nil=>rfl
 |cons v vs ih=>show band (below n v) (below n (.tup vs))=band (below n v) (belows n vs);rw[ih]
mutual
theorem r9{n m:Nat}(h:n<=m):∀v:LV,below n v=true->below m v=true
 |.au,_|.none,_|.bool _,_|.int _,_|.str _,_|.ag _,_=>rfl
 |.ref r,e=>by
  have:r<n:=Nat.le_of_ble_eq_true e;exact Nat.ble_eq_true_of_le (Nat.lt_of_lt_of_le this h)
 |.tup vs,e=>by rw[zx] at e⊢;exact eN h vs e
theorem eN{n m:Nat}(h:n<=m):∀vs:List LV,belows n vs=true->belows m vs=true
 |[],_=>rfl
 |v::vs,e=>by
  change band (below n v) (belows n vs)=true at e;show band (below m v) (belows m vs)=true;rw[bV,Bool.and_eq_true] at e⊢;exact⟨r9 h v e.1,eN h vs e.2⟩
end
theorem qg{n m:Nat}(h:n<=m):∀o:LO,aZ n o=true->aZ m o=true
 |.list vs,e=>eN h vs e
 |.inst _ fs,e=>eN h fs e
theorem len_app{α:Type}(l m:List α):len (app l m)=len l+len m:=by rw[bb,len_eq,len_eq,len_eq,List.length_append]
theorem HB.push{σ:LH}{o:LO}(h:HB σ)(ho:aZ (len σ+1) o=true):HB (app σ [o]):=λp hp=>by
 rw[len_app];rw[bb] at hp
 rcases List.mem_append.mp hp with q|q
 ·exact qg (Nat.le_add_right _ _) _ (h p q)
 ·rcases List.mem_singleton.mp q with rfl;exact ho
theorem ez{n:Nat}:∀(σ τ:LH),(∀o∈σ,aZ n o=true)->fD n (app σ τ) (len σ)=true
 |[],τ,_=>by
  show fD n τ 0=true
  cases τ<;>rfl
 |o::σ,τ,h=>by
  show band (aZ n o) (fD n (app σ τ) (len σ))=true;rw[h o (by simp),ez σ τ λp hp=>h p (List.mem_cons_of_mem _ hp)];rfl
theorem fw{α:Type}:∀(l m:List α),eZ (app l m) (len l)=l
 |[],m=>by cases m<;>rfl
 |a::l,m=>by
  show a::eZ (app l m) (len l)=_;rw[fw l m]
theorem cA{α:Type}:∀(l:List α)(a:α),bf (app l [a]) (len l)=some a
 |[],_=>rfl
 |b::l,a=>cA l a
theorem jg{α:Type}:∀(l:List α)(a b:α),aW (app l [a]) b (len l)=app l [b]
 |[],_,_=>rfl
 |c::l,a,b=>by
  show c::aW (app l [a]) b (len l)=_;rw[jg l a b];rfl
noncomputable def flat:LV->Bool
 |.none|.bool _|.int _|.str _|.ag _=>true
 |_=>false
theorem ub{σ:LH}{n k:Nat}:∀v:LV,flat v=true->fz σ n (k+1) v=some v
 |.none,_|.bool _,_|.int _,_|.str _,_|.ag _,_=>rfl
 |.au,e|.tup _,e|.ref _,e=>by cases e
theorem da{σ:LH}{n k:Nat}:∀vs:List LV,vs.all flat=true->eR (fz σ n (k+1)) vs=some vs
 |[],_=>rfl
 |v::vs,e=>by
  rw[List.all_cons,Bool.and_eq_true] at e;show cO (fz σ n (k+1) v) (λx=>cO (eR (fz σ n (k+1)) vs) (λq=>some (x::q)) none) none=_;rw[ub v e.1,da vs e.2];rfl
theorem aO{σ:LH}{vs:List LV}(h:HB σ)(hv:vs.all flat=true):freeze (len σ) (.ref (len σ)) (app σ [.list vs])=.ok (.ag vs) σ:=by
 unfold freeze;rw[ez σ _ h];show oN (cB (Nat.blt (len σ) (len σ)) none (cO (bf (app σ [.list vs]) (len σ)) (bC none (λBd=>cO (eR (fz (app σ [.list vs]) (len σ) 63) Bd) (λq=>some (LV.ag q)) none)) none)) _=_;rw[bS (Nat.le_refl _),cA];show oN (cO (eR (fz (app σ [.list vs]) (len σ) 63) vs) (λq=>some (LV.ag q)) none) _=_;rw[da vs hv];show Out.ok (LV.ag vs) (eZ (app σ [.list vs]) (len σ))=_;rw[fw]
theorem eO{σ τ:LH}{v:LV}(h:HB σ)(hv:flat v=true):freeze (len σ) v (app σ τ)=.ok v σ:=by
 unfold freeze;rw[ez σ _ h];show oN (fz (app σ τ) (len σ) 64 v) _=_;rw[ub v hv];show Out.ok v (eZ (app σ τ) (len σ))=_;rw[fw]
theorem aI(xs:List Nat):(ae xs).all flat=true:=by simp[ae,flat]
theorem sd{n:Nat}:∀v:LV,flat v=true->below n v=true
 |.none,_|.bool _,_|.int _,_|.str _,_|.ag _,_=>rfl
 |.au,e|.tup _,e|.ref _,e=>by cases e
theorem bD{n:Nat}:∀vs:List LV,vs.all flat=true->belows n vs=true
 |[],_=>rfl
 |v::vs,e=>by
  rw[List.all_cons,Bool.and_eq_true] at e;show band (below n v) (belows n vs)=true;rw[sd v e.1,bD vs e.2];rfl
theorem HB.flat{σ:LH}{vs:List LV}(h:HB σ)(hv:vs.all MineP.flat=true):HB (app σ [.list vs]):=h.push (bD vs hv)
set_option compiler.extract_closed false in
set_option compiler.extract_closed false in
theorem se(n:Nat):Nat.land n 63=n%64:=Nat.and_two_pow_sub_one_eq_mod n 6
theorem jh(n:Nat):Nat.land n 255=n%256:=Nat.and_two_pow_sub_one_eq_mod n 8
theorem eB(xs:List Nat)(a:Nat):gD xs a<64:=by
 unfold gD
 split
 ·cases r7 _ with
  |true=>show Nat.land _ 63<64;rw[se];exact Nat.mod_lt _ (by decide)
  |false=>show 0<64;decide
 ·decide
theorem CY{b s:Nat}(h:s<64):Nat.lor (Nat.mul b (Nat.pow 2 6)) s=b*64+s:=by
 show(b*2^6)|||s=_;rw[Nat.mul_comm,←Nat.two_pow_add_eq_or_of_lt (i:=6) h b,Nat.mul_comm]
theorem ji(m n:Nat):Int.fmod (.ofNat m) (.ofNat n)=.ofNat (m%n):=by
 cases m with
 |zero=>simp[Int.fmod]
 |succ m=>rfl
theorem jj(m n:Nat):Int.fdiv (.ofNat m) (.ofNat n)=.ofNat (m/n):=by
 cases m with
 |zero=>simp[Int.fdiv]
 |succ m=>rfl
theorem OT(m n:Nat):(Int.ofNat m*Int.ofNat n:Int)=.ofNat (m*n):=rfl
section
variable{P:dR}{C:Nat->List LV->LH->Out LV}{xs:List Nat}{a b x d n m:Nat}{ρ:List LV}{σ:LH}{sz k j:LV}{v:LV}
theorem EB{B:bB}:(run P C (n+5)).forr x 0 4 B ρ σ=turn ((run P C (n+4)).ss B (aW ρ (.int (.ofNat 0)) x) σ) λρ σ=>turn ((run P C (n+3)).ss B (aW ρ (.int (.ofNat 1)) x) σ) λρ σ=>turn ((run P C (n+2)).ss B (aW ρ (.int (.ofNat 2)) x) σ) λρ σ=>turn ((run P C (n+1)).ss B (aW ρ (.int (.ofNat 3)) x) σ) λρ σ=>.nx ρ σ:=rfl
noncomputable def CZ:bB:=(.cons (.asg 4 (.bin .bor (.bin .shl (.var 4) (.int 6)) (.call 12 (.cons (.var 0) (.cons (.var 1) .nil))))) (.cons (.aV (.call 11 (.cons (.var 0) (.cons (.var 1) .nil))) (.cons (.aug 1 .add (.int 1)) .nil) .nil) .nil))
noncomputable def C0:bB:=(.cons (.dc [.nm 7,.nm 1] (.call 72 (.cons (.var 0) (.cons (.var 1) .nil)))) (.cons (.asg 5 (.bin .add (.bin .mul (.var 5) (.int 64)) (.var 7))) .nil))
theorem oA(hl:xs.length<1000)(ha:a<1000)(hb:b<1000000000):(run af (deep af (d+2)) (n+20)).ss CZ [.ag (ae xs),.int (.ofNat a),sz,k,.int (.ofNat b),j] σ=.nx [.ag (ae xs),.int (.ofNat (cq xs a)),sz,k,.int (.ofNat (b*64+gD xs a)),j] σ:=by
 have hs:=λσ=>G1 (xs:=xs) (a:=a) (d:=d) (σ:=σ) hl (by walk_at "om");have hu:=λσ=>zv (xs:=xs) (a:=a) (d:=d+1) (σ:=σ) hl (by walk_at "om")
 have h1:∀σ:LH,ay .shl (.int (.ofNat b)) (.int (.ofNat 6)) σ=.ok (.int (.ofNat (Nat.mul b (Nat.pow 2 6)))) σ:=λσ=>by
  show bN (band (Nat.blt b 18446744073709551616) (Nat.blt 6 128)) _=_;rw[a6 (show b<18446744073709551616 by walk_at "om")];rfl
 have h3:∀σ:LH,ay .bor (.int (.ofNat (Nat.mul b (Nat.pow 2 6)))) (.int (.ofNat (gD xs a))) σ=.ok (.int (.ofNat (b*64+gD xs a))) σ:=λσ=>congrArg (λz=>(Out.ok (LV.int (Int.ofNat z)) σ:Out LV)) (CY (b:=b) (eB xs a));unfold CZ cq
 cases e:lD xs a<;>(rw[e] at hu;walk_at "evk")
theorem C1(hl:xs.length<1000)(ha:a<1000):ah af (deep af (d+1)) 72 [.ag (ae xs),.int (.ofNat a)] σ=.ok (.tup [.int (.ofNat (gD xs a)),.int (.ofNat (cq xs a))]) σ:=by
 rw[aq (aU:=[.ag (ae xs),.int (.ofNat a)]) rfl rfl rfl];have h4:b6 (.ofNat a)=true:=dC (by walk_at "om")
 have h5:small (len (ae xs))=true:=by rw[az];exact aN (by walk_at "om")
 unfold gD cq lD;cases e:xs[a]?with
 |some x=>
  have h6:Nat.blt a (len (ae xs))=true:=a6 (by rw[az];exact(List.getElem?_eq_some_iff.mp e).1);have hs:=λσ=>eM (σ:=σ) h4 h6 (show bf (ae xs) a=some (.int (.ofNat x)) by rw[ey,e];rfl);refine(?_:ba ((run af (deep af d) 3000).ss Fb _ _)=.ok (.tup [.int (.ofNat (cB (r7 x) (Nat.land (x-32) 63) 0)),.int (.ofNat (cB (r7 x) (a+1) a))]) σ)
  rcases Nat.lt_or_ge x 32 with q|q
  ·have h7:Nat.blt x 32=true:=a6 q
   have hu:r7 x=false:=by unfold r7;rw[h7];rfl
   rw[hu];unfold Fb;walk_at "evk"
  ·have h7:Nat.blt x 32=false:=bS q
   have hu:r7 x=Nat.blt x 97:=by unfold r7;rw[h7];rfl
   rw[hu]
   rcases Nat.lt_or_ge x 97 with q'|q'
   ·have h8:Nat.blt 96 x=false:=bS (by exact Jl [x] 1 (.c 1 (.p J0 1) (.k 97) .z) J0 (.k 96) Jt q');have h9:Nat.blt x 97=true:=a6 q'
    have D7:∀σ:LH,ay .sub (.int (.ofNat x)) (.int (.ofNat 32)) σ=.ok (.int (.ofNat (x-32))) σ:=λσ=>by rw[qe,lE q]
    have S3:∀σ:LH,ay .mod (.int (.ofNat (x-32))) (.int (.ofNat 64)) σ=.ok (.int (.ofNat (Nat.land (x-32) 63))) σ:=λσ=>by rw[jf,ji,se];rfl
    rw[h9];unfold Fb;walk_at "evk"
   ·have h8:Nat.blt 96 x=true:=a6 (by exact Jl [x] 1 (.c 1 (.k 97) J0 .z) (.p (.k 96) 1) J0 Jt q');have h9:Nat.blt x 97=false:=bS q';rw[h9];unfold Fb;walk_at "evk"
 |none=>
  have h6:Nat.blt a (len (ae xs))=false:=bS (by rw[az];exact List.getElem?_eq_none_iff.mp e);refine(?_:ba ((run af (deep af d) 3000).ss Fb _ _)=.ok (.tup [.int (.ofNat 0),.int (.ofNat a)]) σ);unfold Fb;walk_at "evk"
theorem oC(hl:xs.length<1000)(ha:a<1000)(hb:b<1000000000):(run af (deep af (d+2)) (n+20)).ss C0 [.ag (ae xs),.int (.ofNat a),sz,k,j,.int (.ofNat b),S4,v] σ=.nx [.ag (ae xs),.int (.ofNat (cq xs a)),sz,k,j,.int (.ofNat (b*64+gD xs a)),S4,.int (.ofNat (gD xs a))] σ:=by
 have hs:=λσ=>C1 (xs:=xs) (a:=a) (d:=d+1) (σ:=σ) hl ha
 have h1:∀σ:LH,ay .mul (.int (.ofNat b)) (.int (.ofNat 64)) σ=.ok (.int (.ofNat (b*64))) σ:=λσ=>by rw[Ew,dC (show b<1000000000000000000 by walk_at "om")];rfl
 unfold C0;walk_at "evk"
end
section
variable{σ:LH}{b:Nat}{x y z:LV}{vs ws:List LV}
theorem al{o:LO}:alloc σ o=.ok (.ref (len σ)) (app σ [o]):=rfl
theorem T2:small (len [x])=true:=rfl
theorem T3:small (len [x,y,z])=true:=rfl
theorem S5:ay .fdiv (.int (.ofNat b)) (.int (.ofNat 65536)) σ=.ok (.int (.ofNat (b/65536))) σ:=by rw[fL,jj];rfl
theorem Rg:ay .fdiv (.int (.ofNat b)) (.int (.ofNat 256)) σ=.ok (.int (.ofNat (b/256))) σ:=by rw[fL,jj];rfl
theorem Rh:ay .mod (.int (.ofNat b)) (.int (.ofNat 256)) σ=.ok (.int (.ofNat (b%256))) σ:=by rw[jf,ji];rfl
theorem Ri:band true (Nat.blt 6 128)=true:=rfl
theorem Rj:ay .shr (.int (.ofNat b)) (.int (.ofNat 16)) σ=.ok (.int (.ofNat (b/65536))) σ:=rfl
theorem S6:ay .shr (.int (.ofNat b)) (.int (.ofNat 8)) σ=.ok (.int (.ofNat (b/256))) σ:=rfl
theorem Rk:ay .band (.int (.ofNat b)) (.int (.ofNat 255)) σ=.ok (.int (.ofNat (b%256))) σ:=by rw[qf,jh]
theorem lF(h:small (len ws)=true):e6 .len [.ref (len σ)] (app σ [.list ws])=.ok (.int (.ofNat (len ws))) (app σ [.list ws]):=by
 rw[CX,cA];show bN (small (len ws)) _=_;rw[h];rfl
theorem qh:j0 .extend (.ref (len σ)) (app σ [.list ws])=true:=by
 show cO (bf (app σ [.list ws]) (len σ)) (bC false (λ_=>true)) false=true;rw[cA];rfl
theorem uc(h:small (Nat.add (len ws) (len vs))=true):jZ .extend (.ref (len σ)) [.ag vs] (app σ [.list ws])=.ok .none (app σ [.list (app ws vs)]):=by
 show oN (bf (app σ [.list ws]) (len σ)) (bC .bad λxs=>oN (listOf? (.ag vs) (app σ [.list ws])) λys=>bN (small (Nat.add (len xs) (len ys))) (.ok LV.none (aW (app σ [.list ws]) (.list (app xs ys)) (len σ))))=_;rw[cA];show bN (small (Nat.add (len ws) (len vs))) _=_;rw[h,jg];rfl
theorem ud(h:small (Nat.add (len ws) (len vs))=true):dh .add (.ref (len σ)) (.ag vs) (app σ [.list ws])=.ok (.ref (len σ)) (app σ [.list (app ws vs)]):=by
 show oN (bf (app σ [.list ws]) (len σ)) (wC (len σ) (.ag vs) (app σ [.list ws]))=_;rw[cA];show bN (small (Nat.add (len ws) (len vs))) _=_;rw[h,jg];rfl
end
theorem lG(xs ys:List Nat):app (ae xs) (ae ys)=ae (xs++ys):=by rw[bb];exact List.map_append.symm
def lH(xs:List Nat)(a:Nat):Nat:=cq xs (cq xs (cq xs (cq xs a)))
def aX(xs:List Nat)(a:Nat):Nat:=(((0*64+gD xs a)*64+gD xs (cq xs a))*64+gD xs (cq xs (cq xs a)))*64+gD xs (cq xs (cq xs (cq xs a)))
def C2(xs:List Nat)(a:Nat):List Nat:=[aX xs a/65536,aX xs a/256%256,aX xs a%256]
noncomputable def bI(xs:List Nat)(size:Nat):Nat->List Nat->Nat->List Nat×Nat
 |0,row,a=>(row,a)
 |m+1,row,a=>if row.length<size/\a<xs.length then bI xs size m (row++C2 xs a) (lH xs a) else(row,a)
theorem qi(xs:List Nat)(a:Nat):aX xs a<16777216:=by
 have h1:=eB xs a;have h2:=eB xs (cq xs a);have h3:=eB xs (cq xs (cq xs a));have h4:=eB xs (cq xs (cq xs (cq xs a)));unfold aX;exact Jl [_,_,_,_] 1 (.c 262144 (.p J0 1) (.k 64) (.c 4096 (.p J1 1) (.k 64) (.c 64 (.p J2 1) (.k 64) (.c 1 (.p J3 1) (.k 64) .z)))) (.p (.a (.t (.a (.t (.a (.t (.a (.m 0 (.k 64)) J0) 64) J1) 64) J2) 64) J3) 1) (.k 16777216) Jt h1 h2 h3 h4
set_option tactic.hygienic true in
theorem eX{xs:List Nat}{a:Nat}(h:a<=xs.length):cq xs a<=xs.length:=by
 unfold cq
 cases e:lD xs a with
 |false=>exact h
 |true=>
  show a+1<=_;unfold lD at e
  split at e
  ·rename_i x hx;exact(List.getElem?_eq_some_iff.mp hx).1
  ·cases e
theorem oD{xs:List Nat}{a:Nat}(h:a<=xs.length):lH xs a<=xs.length:=eX (eX (eX (eX h)))
section
variable{xs:List Nat}{a b x d n m size:Nat}{ρ:List LV}{σ:LH}{sz k j v4 v5 v6 v7:LV}{row:List Nat}
theorem G2(hl:xs.length<900)(ha:a<=xs.length):(run af (deep af (d+2)) (n+30)).forr 5 0 4 CZ [.ag (ae xs),.int (.ofNat a),sz,k,.int (.ofNat 0),j] σ=.nx [.ag (ae xs),.int (.ofNat (lH xs a)),sz,k,.int (.ofNat (aX xs a)),.int (.ofNat 3)] σ:=by
 have a1:=eX ha;have a2:=eX a1;have a3:=eX a2;have h1:=eB xs a;have h2:=eB xs (cq xs a);have h3:=eB xs (cq xs (cq xs a));rw[EB (n:=n+25)];simp only[hP,hO];rw[oA (n:=n+9) (by walk_at "om") (by exact Jl [xs.length,a] 1 (.c 1 (.p J0 1) (.k 900) (.c 1 J1 J0 .z)) (.p J1 1) (.k 1000) Jt hl ha) (by walk_at "om"),bY];simp only[hP,hO];rw[oA (n:=n+8) (by walk_at "om") (by exact Jl [xs.length,_] 1 (.c 1 (.p J0 1) (.k 900) (.c 1 J1 J0 .z)) (.p J1 1) (.k 1000) Jt hl a1) (by exact Jl [_] 1 (.c 1 (.p J0 1) (.k 64) .z) (.p (.a (.m 0 (.k 64)) J0) 1) (.k 1000000000) Jt h1),bY];simp only[hP,hO];rw[oA (n:=n+7) (by walk_at "om") (by exact Jl [xs.length,_] 1 (.c 1 (.p J0 1) (.k 900) (.c 1 J1 J0 .z)) (.p J1 1) (.k 1000) Jt hl a2) (by exact Jl [_,_] 1 (.c 64 (.p J0 1) (.k 64) (.c 1 (.p J1 1) (.k 64) .z)) (.p (.a (.t (.a (.m 0 (.k 64)) J0) 64) J1) 1) (.k 1000000000) Jt h1 h2),bY];simp only[hP,hO];rw[oA (n:=n+6) (by walk_at "om") (by exact Jl [xs.length,_] 1 (.c 1 (.p J0 1) (.k 900) (.c 1 J1 J0 .z)) (.p J1 1) (.k 1000) Jt hl a3) (by exact Jl [_,_,_] 1 (.c 4096 (.p J0 1) (.k 64) (.c 64 (.p J1 1) (.k 64) (.c 1 (.p J2 1) (.k 64) .z))) (.p (.a (.t (.a (.t (.a (.m 0 (.k 64)) J0) 64) J1) 64) J2) 1) (.k 1000000000) Jt h1 h2 h3),bY];rfl
theorem G3(hl:xs.length<900)(ha:a<=xs.length):(run af (deep af (d+2)) (n+30)).forr 6 0 4 C0 [.ag (ae xs),.int (.ofNat a),sz,k,j,.int (.ofNat 0),v6,v7] σ=.nx [.ag (ae xs),.int (.ofNat (lH xs a)),sz,k,j,.int (.ofNat (aX xs a)),.int (.ofNat 3),.int (.ofNat (gD xs (cq xs (cq xs (cq xs a)))))] σ:=by
 have a1:=eX ha;have a2:=eX a1;have a3:=eX a2;have h1:=eB xs a;have h2:=eB xs (cq xs a);have h3:=eB xs (cq xs (cq xs a));rw[EB (n:=n+25)];simp only[hP,hO];rw[oC (n:=n+9) (by walk_at "om") (by exact Jl [xs.length,a] 1 (.c 1 (.p J0 1) (.k 900) (.c 1 J1 J0 .z)) (.p J1 1) (.k 1000) Jt hl ha) (by walk_at "om"),bY];simp only[hP,hO];rw[oC (n:=n+8) (by walk_at "om") (by exact Jl [xs.length,_] 1 (.c 1 (.p J0 1) (.k 900) (.c 1 J1 J0 .z)) (.p J1 1) (.k 1000) Jt hl a1) (by exact Jl [_] 1 (.c 1 (.p J0 1) (.k 64) .z) (.p (.a (.m 0 (.k 64)) J0) 1) (.k 1000000000) Jt h1),bY];simp only[hP,hO];rw[oC (n:=n+7) (by walk_at "om") (by exact Jl [xs.length,_] 1 (.c 1 (.p J0 1) (.k 900) (.c 1 J1 J0 .z)) (.p J1 1) (.k 1000) Jt hl a2) (by exact Jl [_,_] 1 (.c 64 (.p J0 1) (.k 64) (.c 1 (.p J1 1) (.k 64) .z)) (.p (.a (.t (.a (.m 0 (.k 64)) J0) 64) J1) 1) (.k 1000000000) Jt h1 h2),bY];simp only[hP,hO];rw[oC (n:=n+6) (by walk_at "om") (by exact Jl [xs.length,_] 1 (.c 1 (.p J0 1) (.k 900) (.c 1 J1 J0 .z)) (.p J1 1) (.k 1000) Jt hl a3) (by exact Jl [_,_,_] 1 (.c 4096 (.p J0 1) (.k 64) (.c 64 (.p J1 1) (.k 64) (.c 1 (.p J2 1) (.k 64) .z))) (.p (.a (.t (.a (.t (.a (.m 0 (.k 64)) J0) 64) J1) 64) J2) 1) (.k 1000000000) Jt h1 h2 h3),bY];rfl
end
set_option compiler.extract_closed false in
set_option compiler.extract_closed false in
noncomputable def zz:bB:=(.cons (.asg 4 (.int 0)) (.cons (.forr 5 (.int 4) CZ) (.cons (.expr (.bm .extend (.var 3) (.cons (.ag (.list (.cons (.bin .band (.bin .shr (.var 4) (.int 16)) (.int 255)) (.cons (.bin .band (.bin .shr (.var 4) (.int 8)) (.int 255)) (.cons (.bin .band (.var 4) (.int 255)) .nil))))) .nil))) .nil)))
noncomputable def zA:Ex:=(.and (.cmp (.var 2) .gt (.bi .len (.cons (.var 3) .nil))) (.cmp (.var 1) .lt (.bi .len (.cons (.var 0) .nil))))
noncomputable def sf:bB:=(.cons (.aV (.cmp (.var 1) .ge (.bi .len (.cons (.var 0) .nil))) (.cons .brk .nil) .nil) (.cons (.asg 5 (.int 0)) (.cons (.forr 6 (.int 4) C0) (.cons (.aug 3 .add (.ag (.list (.cons (.bin .fdiv (.var 5) (.int 65536)) (.cons (.bin .mod (.bin .fdiv (.var 5) (.int 256)) (.int 256)) (.cons (.bin .mod (.var 5) (.int 256)) .nil)))))) .nil))))
theorem forr_4{P:dR}{C:Nat->List LV->LH->Out LV}{n x:Nat}{b:bB}{ρ:List LV}{σ:LH}:(run P C (n+2)).s (.forr x (.int (.ofNat 4)) b) ρ σ=(run P C (n+1)).forr x 0 4 b ρ σ:=rfl
theorem ue{σ:LH}(h:HB σ)(x y z:Int):freeze (len σ) (.ref (len σ)) (app σ [.list [.int x,.int y,.int z]])=.ok (.ag [.int x,.int y,.int z]) σ:=aO h rfl
section
variable{xs:List Nat}{a b x d n m size:Nat}{ρ:List LV}{σ:LH}{sz k j v4 v5 v6 v7:LV}{row:List Nat}
theorem uf:app (ae row) [.int (.ofNat (aX xs a/65536)),.int (.ofNat (aX xs a/256%256)),.int (.ofNat (aX xs a%256))]=ae (row++C2 xs a):=lG row (C2 xs a)
theorem G4(hl:xs.length<900)(ha:a<=xs.length)(hr:row.length<900)(hb:HB σ):(run af (deep af (d+2)) (n+60)).ss zz [.ag (ae xs),.int (.ofNat a),sz,.ref (len σ),v4,v5] (app σ [.list (ae row)])=
  .nx [.ag (ae xs),.int (.ofNat (lH xs a)),sz,.ref (len σ),.int (.ofNat (aX xs a)),.int (.ofNat 3)] (app σ [.list (ae (row++C2 xs a))]):=by
 rw[←uf];have hq:=G2 (d:=d) (n:=n+27) (sz:=sz) (σ:=app σ [.list (ae row)]) (k:=.ref (len σ)) (j:=v5) hl ha;have hf:=ue (hb.flat (aI row)) (.ofNat (aX xs a/65536)) (.ofNat (aX xs a/256%256)) (.ofNat (aX xs a%256));have e1:∀σ:LH,ay .shr (.int (.ofNat (aX xs a))) (.int (.ofNat 16)) σ=.ok (.int (.ofNat (aX xs a/65536))) σ:=λ_=>rfl
 have e2:∀σ:LH,ay .band (.int (.ofNat (aX xs a/65536))) (.int (.ofNat 255)) σ=.ok (.int (.ofNat (aX xs a/65536))) σ:=λ_=>by rw[qf,jh,Nat.mod_eq_of_lt (by have:=qi xs a;exact Jl [_,_] 65536 (.c 1 (.p J0 1) (.k 16777216) (.c 1 (.m 65536 J1) J0 .z)) (.p J1 1) (.k 256) Jt this (Jd _ _))]
 have e3:∀σ:LH,ay .shr (.int (.ofNat (aX xs a))) (.int (.ofNat 8)) σ=.ok (.int (.ofNat (aX xs a/256))) σ:=λ_=>rfl
 have e4:∀σ:LH,ay .band (.int (.ofNat (aX xs a/256))) (.int (.ofNat 255)) σ=.ok (.int (.ofNat (aX xs a/256%256))) σ:=λ_=>by rw[qf,jh]
 have e5:∀σ:LH,ay .band (.int (.ofNat (aX xs a))) (.int (.ofNat 255)) σ=.ok (.int (.ofNat (aX xs a%256))) σ:=λ_=>by rw[qf,jh]
 have he:jZ .extend (.ref (len σ)) [.ag [.int (.ofNat (aX xs a/65536)),.int (.ofNat (aX xs a/256%256)),.int (.ofNat (aX xs a%256))]] (app σ [.list (ae row)])=_:=uc (aN (by rw[az];show row.length+3<_;exact Jl [row.length] 1 (.c 1 (.p J0 1) (.k 900) .z) (.p (.p J0 3) 1) (.k 1000000) Jt hr));have hm:=qh (σ:=σ) (ws:=ae row);clear hl ha hr hb;unfold zz;walk_at "evk"
theorem G5(hl:xs.length<900)(ha:a<xs.length)(hr:row.length<900)(hb:HB σ):(run af (deep af (d+2)) (n+60)).ss sf [.ag (ae xs),.int (.ofNat a),sz,.ref (len σ),j,v5,v6,v7] (app σ [.list (ae row)])=
  .nx [.ag (ae xs),.int (.ofNat (lH xs a)),sz,.ref (len σ),j,.int (.ofNat (aX xs a)),.int (.ofNat 3),.int (.ofNat (gD xs (cq xs (cq xs (cq xs a)))))] (app σ [.list (ae (row++C2 xs a))]):=by
 rw[←uf];have hq:=G3 (d:=d) (n:=n+26) (sz:=sz) (σ:=app σ [.list (ae row)]) (k:=.ref (len σ)) (j:=j) (v6:=v6) (v7:=v7) hl (Nat.le_of_lt ha);have hf:=ue (hb.flat (aI row)) (.ofNat (aX xs a/65536)) (.ofNat (aX xs a/256%256)) (.ofNat (aX xs a%256))
 have h3:small (len (ae xs))=true:=by rw[az];exact aN (by walk_at "om")
 have h4:Nat.blt a (len (ae xs))=true:=a6 (by rw[az];exact ha)
 have e1:∀σ:LH,ay .fdiv (.int (.ofNat (aX xs a))) (.int (.ofNat 65536)) σ=.ok (.int (.ofNat (aX xs a/65536))) σ:=λ_=>by rw[fL,jj];rfl
 have e3:∀σ:LH,ay .fdiv (.int (.ofNat (aX xs a))) (.int (.ofNat 256)) σ=.ok (.int (.ofNat (aX xs a/256))) σ:=λ_=>by rw[fL,jj];rfl
 have e4:∀σ:LH,ay .mod (.int (.ofNat (aX xs a/256))) (.int (.ofNat 256)) σ=.ok (.int (.ofNat (aX xs a/256%256))) σ:=λ_=>by rw[jf,ji];rfl
 have e5:∀σ:LH,ay .mod (.int (.ofNat (aX xs a))) (.int (.ofNat 256)) σ=.ok (.int (.ofNat (aX xs a%256))) σ:=λ_=>by rw[jf,ji];rfl
 have he:dh .add (.ref (len σ)) (.ag [.int (.ofNat (aX xs a/65536)),.int (.ofNat (aX xs a/256%256)),.int (.ofNat (aX xs a%256))]) (app σ [.list (ae row)])=_:=ud (aN (by rw[az];show row.length+3<_;exact Jl [row.length] 1 (.c 1 (.p J0 1) (.k 900) .z) (.p (.p J0 3) 1) (.k 1000000) Jt hr));clear hl ha hr hb;unfold sf;walk_at "evk"
end
set_option compiler.extract_closed false in
set_option compiler.extract_closed false in
section
variable{xs:List Nat}{a b x d n m size:Nat}{ρ:List LV}{σ:LH}{sz k j v4 v5 v6 v7:LV}{row:List Nat}
theorem zB(hl:xs.length<900)(hr:row.length<900):(run af (deep af (d+2)) (n+20)).t zA [.ag (ae xs),.int (.ofNat a),.int (.ofNat size),.ref (len σ),v4,v5] (app σ [.list (ae row)])=
  .ok (decide (row.length<size/\a<xs.length)) (app σ [.list (ae row)]):=by
 have h1:=lF (σ:=σ) (ws:=ae row) (aN (by rw[az];walk_at "om"));rw[az] at h1;have h3:small xs.length=true:=aN (by walk_at "om");have h4:=az xs;unfold zA
 rcases Nat.lt_or_ge row.length size with q|q
 ·have h5:Nat.blt row.length size=true:=a6 q
  rcases Nat.lt_or_ge a xs.length with q'|q'
  ·have h6:Nat.blt a xs.length=true:=a6 q';rw[decide_eq_true ⟨q,q'⟩];clear q q' hl hr;walk_at "evk"
  ·have h6:Nat.blt a xs.length=false:=bS q';rw[decide_eq_false (λh=>Nat.not_lt.mpr q' h.2)];clear q q' hl hr;walk_at "evk"
 ·have h5:Nat.blt row.length size=false:=bS q;rw[decide_eq_false (λh=>Nat.not_lt.mpr q h.1)];clear q hl hr;walk_at "evk"
theorem EC(hl:xs.length<900)(hb:HB σ):∀m n row a v4 v5,a<=xs.length->row.length+3*m<800->size<=row.length+3*m->
  ∃OU G6,(run af (deep af (d+2)) (n+m+70)).eE zA zz [.ag (ae xs),.int (.ofNat a),.int (.ofNat size),.ref (len σ),v4,v5] (app σ [.list (ae row)])=
   .nx [.ag (ae xs),.int (.ofNat (bI xs size m row a).2),.int (.ofNat size),.ref (len σ),OU,G6] (app σ [.list (ae (bI xs size m row a).1)])
 |0,n,row,a,v4,v5,ha,hr,hz=>by
  refine⟨v4,v5,?_⟩;rw[show n+0+70=(n+69)+1 by walk_at "om",mL,zB (n:=n+49) hl (by exact Jl [row.length] 1 (.c 1 (.p (.a J0 (.m 3 (.k 0))) 1) (.k 800) .z) (.p J0 1) (.k 900) Jt hr),b8,decide_eq_false (λh=>by exact Jx [size,row.length] (.c 1 J0 (.a J1 (.m 3 (.k 0))) (.c 1 (.p J1 1) J0 .z)) Jt hz h.1),dO];rfl
 |m+1,n,row,a,v4,v5,ha,hr,hz=>by
  rw[show n+(m+1)+70=(n+m+70)+1 by exact Nat.le_antisymm (Jl [n,m] 1 .z (.p (.a J0 (.p J1 1)) 70) (.p (.p (.a J0 J1) 70) 1) Jt) (Jl [n,m] 1 .z (.p (.p (.a J0 J1) 70) 1) (.p (.a J0 (.p J1 1)) 70) Jt),mL,zB (n:=n+m+50) hl (by exact Jl [row.length,m] 1 (.c 1 (.p (.a J0 (.m 3 (.p J1 1))) 1) (.k 800) .z) (.p J0 1) (.k 900) Jt hr),b8];unfold bI;by_cases hc:row.length<size/\a<xs.length
  ·rw[decide_eq_true hc,dr,if_pos hc,G4 (n:=n+m+10) hl ha (by exact Jl [row.length,m] 1 (.c 1 (.p (.a J0 (.m 3 (.p J1 1))) 1) (.k 800) .z) (.p J0 1) (.k 900) Jt hr) hb,bY];exact EC hl hb m n _ _ _ _ (oD ha) (by rw[List.length_append];show row.length+3+3*m<800;exact Jl [row.length,m] 1 (.c 1 (.p (.a J0 (.m 3 (.p J1 1))) 1) (.k 800) .z) (.p (.a (.p J0 3) (.m 3 J1)) 1) (.k 800) Jt hr) (by rw[List.length_append];show size<=row.length+3+3*m;exact Jl [size,row.length,m] 1 (.c 1 J0 (.a J1 (.m 3 (.p J2 1))) .z) J0 (.a (.p J1 3) (.m 3 J2)) Jt hz)
  ·rw[decide_eq_false hc,dO,if_neg hc];exact⟨v4,v5,rfl⟩
theorem Ll(hl:xs.length<900)(ha:xs.length<=a):(run af (deep af (d+2)) (n+60)).ss sf [.ag (ae xs),.int (.ofNat a),sz,k,j,v5,v6,v7] σ=.brk [.ag (ae xs),.int (.ofNat a),sz,k,j,v5,v6,v7] σ:=by
 have h3:small (len (ae xs))=true:=by rw[az];exact aN (by walk_at "om")
 have h4:Nat.blt a (len (ae xs))=false:=bS (by rw[az];exact ha);clear hl ha;unfold sf;walk_at "evk"
theorem zE(hl:xs.length<900)(hb:HB σ):∀m n i row a j v5 v6 v7,a<=xs.length->row.length=3*i->row.length+3*m<800->i+m=(size+2)/3->
  ∃j' G6 OV OW,(run af (deep af (d+2)) (n+m+70)).forr 4 i (i+m) sf [.ag (ae xs),.int (.ofNat a),.int (.ofNat size),.ref (len σ),j,v5,v6,v7] (app σ [.list (ae row)])=
   .nx [.ag (ae xs),.int (.ofNat (bI xs size m row a).2),.int (.ofNat size),.ref (len σ),j',G6,OV,OW] (app σ [.list (ae (bI xs size m row a).1)])
 |0,n,i,row,a,j,v5,v6,v7,ha,he,hr,hz=>by
  refine⟨j,v5,v6,v7,?_⟩;rw[show n+0+70=(n+69)+1 by walk_at "om",jG,bS (by exact Jl [i] 1 .z (.p J0 0) J0 Jt),dO];rfl
 |m+1,n,i,row,a,j,v5,v6,v7,ha,he,hr,hz=>by
  rw[show n+(m+1)+70=(n+m+70)+1 by exact Nat.le_antisymm (Jl [n,m] 1 .z (.p (.a J0 (.p J1 1)) 70) (.p (.p (.a J0 J1) 70) 1) Jt) (Jl [n,m] 1 .z (.p (.p (.a J0 J1) 70) 1) (.p (.a J0 (.p J1 1)) 70) Jt),jG,a6 (by walk_at "om"),dr];simp only[hP,hO];unfold bI
  rcases Nat.lt_or_ge a xs.length with q|q
  ·rw[if_pos ⟨by exact Jl [row.length,i,m,_,size] 1 (.c 1 J0 (.m 3 J1) (.c 3 (.a J1 (.p J2 1)) J3 (.c 1 (.m 3 J3) (.p J4 2) .z))) (.p J0 1) J4 Jt (Jf he) (Jf hz) (Jd _ _),q⟩,G5 (n:=n+m+10) hl q (by exact Jl [row.length,m] 1 (.c 1 (.p (.a J0 (.m 3 (.p J1 1))) 1) (.k 800) .z) (.p J0 1) (.k 900) Jt hr) hb,bY,show i+(m+1)=i+1+m by exact Nat.le_antisymm (Jl [i,m] 1 .z (.a J0 (.p J1 1)) (.a (.p J0 1) J1) Jt) (Jl [i,m] 1 .z (.a (.p J0 1) J1) (.a J0 (.p J1 1)) Jt)];exact zE hl hb m n (i+1) _ _ _ _ _ _ (oD ha) (by rw[List.length_append];show row.length+3=_;exact Nat.le_antisymm (Jl [row.length,i] 1 (.c 1 J0 (.m 3 J1) .z) (.p J0 3) (.m 3 (.p J1 1)) Jt (Jf he)) (Jl [i,row.length] 1 (.c 1 (.m 3 J0) J1 .z) (.m 3 (.p J0 1)) (.p J1 3) Jt (Jg he))) (by rw[List.length_append];show row.length+3+3*m<800;exact Jl [row.length,m] 1 (.c 1 (.p (.a J0 (.m 3 (.p J1 1))) 1) (.k 800) .z) (.p (.a (.p J0 3) (.m 3 J1)) 1) (.k 800) Jt hr) (by exact Nat.le_antisymm (Jl [i,m,_] 1 (.c 1 (.a J0 (.p J1 1)) J2 .z) (.a (.p J0 1) J1) J2 Jt (Jf hz)) (Jl [_,i,m] 1 (.c 1 J0 (.a J1 (.p J2 1)) .z) J0 (.a (.p J1 1) J2) Jt (Jg hz)))
  ·rw[if_neg (λh=>by exact Jx [xs.length,a] (.c 1 J0 J1 (.c 1 (.p J1 1) J0 .z)) Jt q h.2),Ll (n:=n+m+10) hl q,zg];exact⟨_,_,_,_,rfl⟩
end
set_option compiler.extract_closed false in
set_option compiler.extract_closed false in
noncomputable def lS(xs:List Nat)(a:Nat):List Nat:=(xs[a]?).toList
noncomputable def mc(xs:List Nat)(a:Nat):Nat:=if lS xs a=[10] then a+1 else if lS xs (a+1)=[10] then a+2 else a
theorem cC(k n:Nat):clamp (.ofNat k) n=if k<n then k else n:=by
 show cB (Nat.blt k n) k n=_;by_cases h:k<n
 ·rw[a6 h,if_pos h];rfl
 ·rw[bS (by walk_at "om"),if_neg h];rfl
theorem gu(xs:List Nat)(l h:Nat):cut (ae xs) l h=ae ((xs.drop l).take (h-l)):=by
 unfold cut;rw[e7,gc,←List.map_drop,←List.map_take];rfl
theorem eC{xs:List Nat}{σ:LH}{lo hi:LV}{l h:Nat}(hs:xs.length<1000)(h1:qH lo 0 xs.length=some l)(h2:qH hi xs.length xs.length=some h):cT (ae xs) lo hi σ=.ok (.ref (len σ)) (app σ [.list (ae ((xs.drop l).take (h-l)))]):=by
 unfold cT;rw[az,aN (by walk_at "om"),h1,h2,←gu];rfl
theorem oE{xs:List Nat}{σ:LH}{a b:Nat}(hs:xs.length<1000)(hb:b=a+1):bA (.ag (ae xs)) (.int (.ofNat a)) (.int (.ofNat b)) σ=.ok (.ref (len σ)) (app σ [.list (ae (lS xs a))]):=by
 subst hb;show cT (ae xs) _ _ σ=_;rw[eC (l:=if a<xs.length then a else xs.length) (h:=if a+1<xs.length then a+1 else xs.length) hs (by rw[←cC];rfl) (by rw[←cC];rfl)]
 congr 4
 unfold lS;by_cases h:a<xs.length
 ·rw[if_pos h,List.getElem?_eq_getElem h]
  have:(if a+1<xs.length then a+1 else xs.length)-a=1:=by split<;>walk_at "om"
  rw[this,List.drop_eq_getElem_cons h];rfl
 ·rw[if_neg h,if_neg (by exact Nat.not_lt_of_le (Jl [xs.length,a] 1 (.c 1 J0 J1 .z) J0 (.p J1 1) Jt (Jz h))),List.getElem?_eq_none (by walk_at "om")];simp
theorem mM{ys:List Nat}{σ:LH}{k:Nat}(hs:ys.length<1000):bA (.ref (len σ)) .none (.int (.ofNat k)) (app σ [.list (ae ys)])=.ok (.ref (len (app σ [.list (ae ys)]))) (app (app σ [.list (ae ys)]) [.list (ae (ys.take k))]):=by
 show oN (cO (bf (app σ [.list (ae ys)]) (len σ)) (bC none some) none) (λvs=>cT vs .none (.int (.ofNat k)) (app σ [.list (ae ys)]))=_;rw[cA];show cT (ae ys) .none (.int (.ofNat k)) (app σ [.list (ae ys)])=_;rw[eC (l:=0) (h:=if k<ys.length then k else ys.length) hs rfl (by rw[←cC];rfl)]
 congr 4
 rw[List.drop_zero,Nat.sub_zero]
 split
 ·rfl
 ·rw[List.take_of_length_le (Nat.le_refl _),List.take_of_length_le (by walk_at "om")]
theorem cy{σ:LH}(h:HB σ)(ys:List Nat):freeze (len σ) (.ref (len σ)) (app σ [.list (ae ys)])=.ok (.ag (ae ys)) σ:=aO h (aI ys)
theorem ug{σ:LH}(h:HB σ)(x:Int):freeze (len σ) (.ref (len σ)) (app σ [.list [.int x]])=.ok (.ag [.int x]) σ:=aO h rfl
theorem qj{σ:LH}(ys:List Nat):ao .eq (.ag (ae ys)) (.ag [.int (.ofNat 10)]) σ=some (decide (ys=[10])):=by
 rcases ys with _|⟨y,_|⟨z,r⟩⟩
 ·rfl
 ·show cO (some (Nat.beq y 10)) (λt=>cO (some true) (λr=>some (cB t r false)) none) none=_;show some (cB (Nat.beq y 10) true false)=_;by_cases h:y=10
  ·subst h;rfl
  ·have:Nat.beq y 10=false:=by
    cases e:Nat.beq y 10 with
    |false=>rfl
    |true=>exact absurd (Nat.eq_of_beq_eq_true e) h
   rw[this,decide_eq_false (by simpa using h)];rfl
 ·rw[decide_eq_false (by simp)];rfl
noncomputable def G7:bB:=(.cons (.asg 3 (.ag (.slice (.var 3) .none (.var 2)))) (.cons (.aV (.cmp (.ag (.slice (.var 0) (.var 1) (.bin .add (.var 1) (.int 1)))) .eq (.ag (.list (.cons (.int 10) .nil)))) (.cons (.ret (.tup (.cons (.var 3) (.cons (.bin .add (.var 1) (.int 1)) .nil)))) .nil) .nil) (.cons (.aV (.cmp (.ag (.slice (.var 0) (.bin .add (.var 1) (.int 1)) (.bin .add (.var 1) (.int 2)))) .eq (.ag (.list (.cons (.int 10) .nil)))) (.cons (.ret (.tup (.cons (.var 3) (.cons (.bin .add (.var 1) (.int 2)) .nil)))) .nil) .nil) (.cons (.ret (.tup (.cons (.var 3) (.cons (.var 1) .nil)))) .nil))))
noncomputable def G8:bB:=(.cons (.aV (.cmp (.ag (.slice (.var 0) (.var 1) (.bin .add (.var 1) (.int 1)))) .eq (.ag (.list (.cons (.int 10) .nil)))) (.cons (.ret (.tup (.cons (.ag (.slice (.var 3) .none (.var 2))) (.cons (.bin .add (.var 1) (.int 1)) .nil)))) .nil) .nil) (.cons (.ret (.tup (.cons (.ag (.slice (.var 3) .none (.var 2))) (.cons (.ite (.cmp (.ag (.slice (.var 0) (.bin .add (.var 1) (.int 1)) (.bin .add (.var 1) (.int 2)))) .eq (.ag (.list (.cons (.int 10) .nil)))) (.bin .add (.var 1) (.int 2)) (.var 1)) .nil)))) .nil))
theorem T4{x y:LV}:band (Nat.blt 0 (len [x,y])) (small (len [x,y]))=true:=rfl
def cX(xs:List Nat)(a x:Nat):List Nat×Nat:=bI xs ((x-32)%64) (((x-32)%64+2)/3) [] (a+1)
theorem gE{xs:List Nat}{size:Nat}:∀m row a,a<=xs.length->(bI xs size m row a).2<=xs.length/\(bI xs size m row a).1.length<=row.length+3*m
 |0,row,a,h=>⟨h,by show row.length<=_;walk_at "om"⟩
 |m+1,row,a,h=>by
  unfold bI
  split
  ·have:=gE (xs:=xs) (size:=size) m (row++C2 xs a) _ (oD h);rw[List.length_append] at this;have e:(C2 xs a).length=3:=rfl;exact⟨this.1,by exact Jl [_,row.length,_,m] 1 (.c 1 J0 (.a (.a J1 J2) (.m 3 J3)) (.c 1 J2 (.k 3) .z)) J0 (.a J1 (.m 3 (.p J3 1))) Jt this.2 (Jf e)⟩
  ·exact⟨h,by show row.length<=_;walk_at "om"⟩
section
variable{xs:List Nat}{a b x d n m size:Nat}{ρ:List LV}{σ:LH}{sz k j v4 v5 v6 v7:LV}{row:List Nat}
theorem G9(hl:xs.length<900)(hb:HB σ)(hr:row.length<900):(run af (deep af (d+2)) (n+60)).ss G7 [.ag (ae xs),.int (.ofNat a),.int (.ofNat size),.ref (len σ),v4,v5] (app σ [.list (ae row)])=
  .ret (.tup [.ag (ae (row.take size)),.int (.ofNat (mc xs a))]) (app σ [.list (ae row)]):=by
 have h1:=mM (σ:=σ) (ys:=row) (k:=size) (by walk_at "om");have h2:=cy (hb.flat (aI row)) (row.take size);have S7:=cy (hb.flat (aI row)) (lS xs a);have S8:=cy (hb.flat (aI row)) (lS xs (Nat.add a 1));have h3:=λσ=>oE (σ:=σ) (xs:=xs) (a:=a) (b:=Nat.add a 1) (by walk_at "om") rfl;have h4:=λσ=>oE (σ:=σ) (xs:=xs) (a:=Nat.add a 1) (b:=Nat.add a 2) (by walk_at "om") rfl;have h5:=ug (hb.flat (aI row)) (.ofNat 10);unfold G7 mc;clear hl hb hr;by_cases q:lS xs a=[10]
 ·rw[if_pos q];have q1:∀σ:LH,ao .eq (.ag (ae (lS xs a))) (.ag [.int (.ofNat 10)]) σ=some true:=λσ=>(qj _).trans (by rw[decide_eq_true q]);clear q;walk_at "evk"
 ·rw[if_neg q];have q1:∀σ:LH,ao .eq (.ag (ae (lS xs a))) (.ag [.int (.ofNat 10)]) σ=some false:=λσ=>(qj _).trans (by rw[decide_eq_false q]);clear q;by_cases q:lS xs (a+1)=[10]
  ·rw[if_pos q];have q2:∀σ:LH,ao .eq (.ag (ae (lS xs (Nat.add a 1)))) (.ag [.int (.ofNat 10)]) σ=some true:=λσ=>(qj _).trans (congrArg some (decide_eq_true q));clear q;walk_at "evk"
  ·rw[if_neg q];have q2:∀σ:LH,ao .eq (.ag (ae (lS xs (Nat.add a 1)))) (.ag [.int (.ofNat 10)]) σ=some false:=λσ=>(qj _).trans (congrArg some (decide_eq_false q));clear q;walk_at "evk"
theorem Ha(hl:xs.length<900)(hb:HB σ)(hr:row.length<900):(run af (deep af (d+2)) (n+60)).ss G8 [.ag (ae xs),.int (.ofNat a),.int (.ofNat size),.ref (len σ),j,v5,v6,v7] (app σ [.list (ae row)])=
  .ret (.tup [.ag (ae (row.take size)),.int (.ofNat (mc xs a))]) (app σ [.list (ae row)]):=by
 have h1:=mM (σ:=σ) (ys:=row) (k:=size) (by walk_at "om");have h2:=cy (hb.flat (aI row)) (row.take size);have S7:=cy (hb.flat (aI row)) (lS xs a);have S8:=cy (hb.flat (aI row)) (lS xs (Nat.add a 1));have h3:=λσ=>oE (σ:=σ) (xs:=xs) (a:=a) (b:=Nat.add a 1) (by walk_at "om") rfl;have h4:=λσ=>oE (σ:=σ) (xs:=xs) (a:=Nat.add a 1) (b:=Nat.add a 2) (by walk_at "om") rfl;have h5:=ug (hb.flat (aI row)) (.ofNat 10);unfold G8 mc;clear hl hb hr;by_cases q:lS xs a=[10]
 ·rw[if_pos q];have q1:∀σ:LH,ao .eq (.ag (ae (lS xs a))) (.ag [.int (.ofNat 10)]) σ=some true:=λσ=>(qj _).trans (by rw[decide_eq_true q]);clear q;walk_at "evk"
 ·rw[if_neg q];have q1:∀σ:LH,ao .eq (.ag (ae (lS xs a))) (.ag [.int (.ofNat 10)]) σ=some false:=λσ=>(qj _).trans (by rw[decide_eq_false q]);clear q;by_cases q:lS xs (a+1)=[10]
  ·rw[if_pos q];have q2:∀σ:LH,ao .eq (.ag (ae (lS xs (Nat.add a 1)))) (.ag [.int (.ofNat 10)]) σ=some true:=λσ=>(qj _).trans (congrArg some (decide_eq_true q));clear q;walk_at "evk"
  ·rw[if_neg q];have q2:∀σ:LH,ao .eq (.ag (ae (lS xs (Nat.add a 1)))) (.ag [.int (.ofNat 10)]) σ=some false:=λσ=>(qj _).trans (congrArg some (decide_eq_false q));clear q;walk_at "evk"
end
set_option compiler.extract_closed false in
set_option compiler.extract_closed false in
section
variable{xs:List Nat}{a b x d n m size:Nat}{ρ:List LV}{σ:LH}{sz k j v4 v5 v6 v7:LV}{row:List Nat}
theorem T5{α:Type}:small (len ([]:List α))=true:=rfl
theorem OX:ay .mod (.int (.ofNat b)) (.int (.ofNat 64)) σ=.ok (.int (.ofNat (b%64))) σ:=by rw[jf,ji];rfl
theorem OY:ay .band (.int (.ofNat b)) (.int (.ofNat 63)) σ=.ok (.int (.ofNat (b%64))) σ:=by rw[qf,se]
theorem ED(h:32<=x):ay .sub (.int (.ofNat x)) (.int (.ofNat 32)) σ=.ok (.int (.ofNat (x-32))) σ:=by rw[qe,lE h]
theorem qk(a x:Nat)(h:a+1<=xs.length):(cX xs a x).1.length<100:=by
 have:=(gE (xs:=xs) (size:=(x-32)%64) (((x-32)%64+2)/3) [] (a+1) h).2;have h2:(x-32)%64<64:=Nat.mod_lt _ (by decide);unfold cX;have e:([]:List Nat).length=0:=rfl;exact Jl [_,_,_,_] 1 (.c 1 J0 (.a J1 (.m 3 J2)) (.c 1 (.p J3 1) (.k 64) (.c 1 J1 (.k 0) (.c 1 (.m 3 J2) (.p J3 2) .z)))) (.p J0 1) (.k 100) Jt this h2 (Jf e) (Jd _ _)
theorem vK(hl:xs.length<900)(hb:HB σ)(hx:xs[a]?=some x)(r8:32<=x):ah af (deep af (d+3)) 13 [.ag (ae xs),.int (.ofNat a)] σ=
  .ok (.tup [.ag (ae ((cX xs a x).1.take ((x-32)%64))),.int (.ofNat (mc xs (cX xs a x).2))]) (app σ [.list (ae (cX xs a x).1)]):=by
 have ha:=(List.getElem?_eq_some_iff.mp hx).1;rw[aq (aU:=[.ag (ae xs),.int (.ofNat a),.au,.au,.au,.au]) rfl rfl rfl];have hs:=λσ=>eM (σ:=σ) (dC (show a<1000000000000000000 by exact Jl [xs.length,a] 1 (.c 1 (.p J0 1) (.k 900) (.c 1 (.p J1 1) J0 .z)) (.p J1 1) (.k 1000000000000000000) Jt hl ha)) (a6 (by rw[az];exact ha)) (show bf (ae xs) a=some (.int (.ofNat x)) by rw[ey,hx];rfl);have h1:=λσ=>ED (σ:=σ) r8;have h2:=λσ=>OY (b:=x-32) (σ:=σ);have nu:(x-32)%64<64:=Nat.mod_lt _ (by decide);obtain⟨OU,G6,hw⟩:=EC (d:=d) (n:=2925-((x-32)%64+2)/3) (σ:=σ) (size:=(x-32)%64) hl hb (((x-32)%64+2)/3) [] (a+1) .au .au (by exact Jl [a,xs.length] 1 (.c 1 (.p J0 1) J1 .z) (.p J0 1) J1 Jt ha) (by show 0+_<800;exact Jl [_,_] 1 (.c 1 (.p J0 1) (.k 64) (.c 1 (.m 3 J1) (.p J0 2) .z)) (.p (.a (.k 0) (.m 3 J1)) 1) (.k 800) Jt nu (Jd _ _)) (by show _<=0+_;exact Jl [_,_] 1 (.c 1 (.p (.p J0 2) 1) (.p (.m 3 J1) 3) .z) J0 (.a (.k 0) (.m 3 J1)) Jt (Je _ _ (Nat.succ_pos _)));rw[show 2925-((x-32)%64+2)/3+((x-32)%64+2)/3+70=2995 by exact congrArg (·+70) (Nat.sub_add_cancel (Jl [_,_] 3 (.c 1 (.p J0 1) (.k 64) (.c 1 (.m 3 J1) (.p J0 2) .z)) J1 (.k 2925) Jt nu (Jd _ _)))] at hw;have OZ:(run af (deep af (d+2)) 2995).eE zA zz [.ag (ae xs),.int (.ofNat (Nat.add a 1)),.int (.ofNat ((x-32)%64)),.ref (len σ),.au,.au] (app σ [.list []])=_:=hw;have ht:=G9 (d:=d) (n:=2936) (xs:=xs) (a:=(cX xs a x).2) (size:=(x-32)%64) (σ:=σ) (v4:=OU) (v5:=G6) (row:=(cX xs a x).1) hl hb (by have:=qk (xs:=xs) a x ha;walk_at "om");have Lm:MX.body=.cons (.asg 2 (.bin .band (.bin .sub (.sub (.var 0) (.var 1)) (.int 32)) (.int 63))) (.cons (.aug 1 .add (.int 1)) (.cons (.asg 3 (.list .nil)) (.cons (.eE zA zz) G7))):=rfl;refine(?_:ba ((run af (deep af (d+2)) 3000).ss MX.body _ σ)=_);rw[Lm];clear hw hx r8 ha hl hb nu Lm;walk_at "evk";exact ht
theorem vL(hl:xs.length<900)(hb:HB σ)(hx:xs[a]?=some x)(r8:32<=x):ah af (deep af (d+3)) 73 [.ag (ae xs),.int (.ofNat a)] σ=
  .ok (.tup [.ag (ae ((cX xs a x).1.take ((x-32)%64))),.int (.ofNat (mc xs (cX xs a x).2))]) (app σ [.list (ae (cX xs a x).1)]):=by
 have ha:=(List.getElem?_eq_some_iff.mp hx).1;rw[aq (aU:=[.ag (ae xs),.int (.ofNat a),.au,.au,.au,.au,.au,.au]) rfl rfl rfl];have hs:=λσ=>eM (σ:=σ) (dC (show a<1000000000000000000 by exact Jl [xs.length,a] 1 (.c 1 (.p J0 1) (.k 900) (.c 1 (.p J1 1) J0 .z)) (.p J1 1) (.k 1000000000000000000) Jt hl ha)) (a6 (by rw[az];exact ha)) (show bf (ae xs) a=some (.int (.ofNat x)) by rw[ey,hx];rfl);have h1:=λσ=>ED (σ:=σ) r8;have h2:=λσ=>OX (b:=x-32) (σ:=σ);have nu:(x-32)%64<64:=Nat.mod_lt _ (by decide);obtain⟨j',G6,OV,OW,hw⟩:=zE (d:=d) (n:=2925-((x-32)%64+2)/3) (σ:=σ) (size:=(x-32)%64) hl hb (((x-32)%64+2)/3) 0 [] (a+1) .au .au .au .au (by exact Jl [a,xs.length] 1 (.c 1 (.p J0 1) J1 .z) (.p J0 1) J1 Jt ha) rfl (by show 0+_<800;exact Jl [_,_] 1 (.c 1 (.p J0 1) (.k 64) (.c 1 (.m 3 J1) (.p J0 2) .z)) (.p (.a (.k 0) (.m 3 J1)) 1) (.k 800) Jt nu (Jd _ _)) (by exact Nat.le_antisymm (Jl [_] 1 .z (.a (.k 0) J0) J0 Jt) (Jl [_] 1 .z J0 (.a (.k 0) J0) Jt));rw[show 2925-((x-32)%64+2)/3+((x-32)%64+2)/3+70=2995 by exact congrArg (·+70) (Nat.sub_add_cancel (Jl [_,_] 3 (.c 1 (.p J0 1) (.k 64) (.c 1 (.m 3 J1) (.p J0 2) .z)) J1 (.k 2925) Jt nu (Jd _ _))),Nat.zero_add] at hw;have OZ:(run af (deep af (d+2)) 2995).forr 4 0 (((x-32)%64+2)/3) sf [.ag (ae xs),.int (.ofNat (Nat.add a 1)),.int (.ofNat ((x-32)%64)),.ref (len σ),.au,.au,.au,.au] (app σ [.list []])=_:=hw
 have h3:∀σ:LH,ay .fdiv (.int (.ofNat (Nat.add ((x-32)%64) 2))) (.int (.ofNat 3)) σ=.ok (.int (.ofNat (((x-32)%64+2)/3))) σ:=λσ=>by
  rw[fL,jj];rfl
 have h4:b6 (.ofNat (((x-32)%64+2)/3))=true:=dC (by exact Jl [_,_] 3 (.c 1 (.p J0 1) (.k 64) (.c 1 (.m 3 J1) (.p J0 2) .z)) (.p J1 1) (.k 1000000000000000000) Jt nu (Jd _ _));have h5:small (((x-32)%64+2)/3)=true:=aN (by exact Jl [_,_] 3 (.c 1 (.p J0 1) (.k 64) (.c 1 (.m 3 J1) (.p J0 2) .z)) (.p J1 1) (.k 1000000) Jt nu (Jd _ _));have ht:=Ha (d:=d) (n:=2936) (xs:=xs) (a:=(cX xs a x).2) (size:=(x-32)%64) (σ:=σ) (j:=j') (v5:=G6) (v6:=OV) (v7:=OW) (row:=(cX xs a x).1) hl hb (by have:=qk (xs:=xs) a x ha;walk_at "om");have Ln:Na.body=.cons (.asg 2 (.bin .mod (.bin .sub (.sub (.var 0) (.var 1)) (.int 32)) (.int 64))) (.cons (.aug 1 .add (.int 1)) (.cons (.asg 3 (.list .nil)) (.cons (.forr 4 (.bin .fdiv (.bin .add (.var 2) (.int 2)) (.int 3)) sf) G8))):=rfl;refine(?_:ba ((run af (deep af (d+2)) 3000).ss Na.body _ σ)=_);rw[Ln];clear hw hx r8 ha hl hb nu Ln;walk_at "evk";exact ht
end
section
variable{P:dR}{C:Nat->List LV->LH->Out LV}{elt:Ex}{vs:List LV}{f:LV->LV}{ρ:List LV}{σ:LH}{xs:List Nat}{d n:Nat}{v:LV}
theorem uh(hit:∀i acc,item? v i (app σ [.list acc])=some (bf vs i))(he:∀m ax x,x∈vs->(run P C (m+30)).e elt (x::ρ) ax=.ok (f x) ax):∀k i acc n,i+k=vs.length->acc.length+k<5000->
  (run P C (n+k+40)).comp elt v i (len σ) ρ (app σ [.list acc])=.ok (.ref (len σ)) (app σ [.list (acc++(vs.drop i).map f)])
 |0,i,acc,n,hi,hs=>by
  rw[show n+0+40=(n+39)+1 by walk_at "om",ou,hit,aP,aT,List.getElem?_eq_none (by exact Jl [vs.length,i] 1 (.c 1 J0 (.p J1 0) .z) J0 J1 Jt (Jg hi)),List.drop_of_length_le (by exact Jl [vs.length,i] 1 (.c 1 J0 (.p J1 0) .z) J0 J1 Jt (Jg hi)),List.map_nil,List.append_nil];rfl
 |k+1,i,acc,n,hi,hs=>by
  have eh:i<vs.length:=by exact Jl [i,k,vs.length] 1 (.c 1 (.a J0 (.p J1 1)) J2 .z) (.p J0 1) J2 Jt (Jf hi)
  rw[show n+(k+1)+40=(n+k+40)+1 by exact Nat.le_antisymm (Jl [n,k] 1 .z (.p (.a J0 (.p J1 1)) 40) (.p (.p (.a J0 J1) 40) 1) Jt) (Jl [n,k] 1 .z (.p (.p (.a J0 J1) 40) 1) (.p (.a J0 (.p J1 1)) 40) Jt),ou,hit,aP,aT,List.getElem?_eq_getElem eh,cQ,he (n+k+10) _ _ (List.getElem_mem eh),zf,cA,aP];show bN (small (len acc)) ((run P C (n+k+40)).comp elt v (Nat.add i 1) (len σ) ρ (aW (app σ [.list acc]) (.list (app acc [f vs[i]])) (len σ)))=_;rw[len_eq,aN (by exact Jl [acc.length,k] 1 (.c 1 (.p (.a J0 (.p J1 1)) 1) (.k 5000) .z) (.p J0 1) (.k 1000000) Jt hs),dW,jg,bb acc,List.drop_eq_getElem_cons eh,List.map_cons];have:=uh hit he k (i+1) (acc++[f vs[i]]) n (by exact Nat.le_antisymm (Jl [i,k,vs.length] 1 (.c 1 (.a J0 (.p J1 1)) J2 .z) (.a (.p J0 1) J1) J2 Jt (Jf hi)) (Jl [vs.length,i,k] 1 (.c 1 J0 (.a J1 (.p J2 1)) .z) J0 (.a (.p J1 1) J2) Jt (Jg hi))) (by rw[List.length_append];show acc.length+1+k<5000;exact Jl [acc.length,k] 1 (.c 1 (.p (.a J0 (.p J1 1)) 1) (.k 5000) .z) (.p (.a (.p J0 1) J1) 1) (.k 5000) Jt hs);rw[List.append_assoc] at this;exact this
theorem lI{it:Ex}(hit:∀i acc,item? v i (app σ [.list acc])=some (bf vs i))(hb:HB σ)(hl:vs.length<2500)(hf:∀x∈vs,flat (f x)=true)(hi:(run P C (n+vs.length+40)).e it ρ σ=.ok v σ)(he:∀m ax x,x∈vs->(run P C (m+30)).e elt (x::ρ) ax=.ok (f x) ax):
  (run P C (n+vs.length+42)).e (.ag (.comp elt it)) ρ σ=.ok (.ag (vs.map f)) σ:=by
 rw[show n+vs.length+42=(n+vs.length+40)+1+1 by walk_at "om",jV,zk,hi,aw,uh (σ:=σ) hit he vs.length 0 [] n (by exact Nat.le_antisymm (Jl [vs.length] 1 .z (.a (.k 0) J0) J0 Jt) (Jl [vs.length] 1 .z J0 (.a (.k 0) J0) Jt)) (by show 0+_<5000;exact Jl [vs.length] 1 (.c 1 (.p J0 1) (.k 2500) .z) (.p (.a (.k 0) J0) 1) (.k 5000) Jt hl),aw,List.nil_append,List.drop_zero];refine aO hb ?_;rw[List.all_map,List.all_eq_true];exact λx hx=>hf x hx
noncomputable def C3:LV->LV
 |.int (.ofNat n)=>.str [n]
 |v=>v
theorem ql:∀(xs:List Nat),km ((ae xs).map C3)=some xs
 |[]=>rfl
 |x::xs=>by
  show cO (km ((ae xs).map C3)) (λq=>some (app [x] q)) none=_;rw[ql xs];rfl
theorem gQ(hv:flat v=true∨∃k,v=.ref k)(hit:∀i acc,item? v i (app σ [.list acc])=some (bf (ae xs) i))(hx:∀x∈xs,x<256)(hl:xs.length<2500)(hb:HB σ):(run P C 3000).ss (.cons (.ret (.bm .join (.str []) (.cons (.ag (.comp (.bi .chr (.cons (.var 0) .nil)) (.var 0))) .nil))) .nil) [v] σ=.ret (.str xs) σ:=by
 have hlen:(ae xs).length<2500:=by simpa using hl
 have hc:=lI (P:=P) (C:=C) (elt:=.bi .chr (.cons (.var 0) .nil)) (it:=.var 0) (vs:=ae xs) (f:=C3) (ρ:=[v]) (n:=2954-(ae xs).length) hit hb hlen
  (λv hv=>by obtain⟨x,_,rfl⟩:=List.mem_map.mp hv;rfl) (by
   rw[show 2954-(ae xs).length+(ae xs).length+40=2993+1 by exact Nat.le_antisymm (Jl [_,_] 1 (.c 1 (.a J0 J1) (.k 2954) .z) (.p (.a J0 J1) 40) (.p (.k 2993) 1) Jt (Jf (Nat.sub_add_cancel (Jl [_] 1 (.c 1 (.p J0 1) (.k 2500) .z) J0 (.k 2954) Jt hlen)))) (Jl [_,_] 1 (.c 1 (.k 2954) (.a J0 J1) .z) (.p (.k 2993) 1) (.p (.a J0 J1) 40) Jt (Jg (Nat.sub_add_cancel (Jl [_] 1 (.c 1 (.p J0 1) (.k 2500) .z) J0 (.k 2954) Jt hlen)))),iF,fv,aP]
   rcases hv with q|⟨k,rfl⟩
   ·cases v<;>first|rfl|cases q
   ·rfl) (λm ax v hv=>by
   obtain⟨x,BB,rfl⟩:=List.mem_map.mp hv;show bN (Nat.blt x 256) _=_
   rw[a6 (hx x BB)];rfl)
 rw[show 2954-(ae xs).length+(ae xs).length+42=2996 by exact congrArg (·+42) (Nat.sub_add_cancel (Jl [_] 1 (.c 1 (.p J0 1) (.k 2500) .z) J0 (.k 2954) Jt hlen))] at hc;rw[bZ,mK,K8,tY,aw];show f9 (oS (bN true (oB ((run P C 2997).es _ _ _) _)) _ _) _=_;rw[dW,cw,hc,aw,fu,aw,aw];show f9 (oS (oN (km ((ae xs).map C3)) λt=>bN (small (len t)) (.ok (LV.str t) σ)) _ _) _=_;rw[ql,aP,len_eq,aN (by walk_at "om")];rfl
theorem vM(hx:∀x∈xs,x<256)(hl:xs.length<2500)(hb:HB σ):ah af (deep af (d+1)) 37 [.ag (ae xs)] σ=.ok (.str xs) σ:=by
 rw[aq (aU:=[.ag (ae xs)]) rfl rfl rfl];exact congrArg ba (gQ (.inl rfl) (λ_ _=>rfl) hx hl hb)
theorem gR(hx:∀x∈xs,x<256)(hl:xs.length<2500)(hb:HB σ):ah af (deep af (d+1)) 70 [.ag (ae xs)] σ=.ok (.str xs) σ:=by
 rw[aq (aU:=[.ag (ae xs)]) rfl rfl rfl];exact congrArg ba (gQ (.inl rfl) (λ_ _=>rfl) hx hl hb)
theorem sh{α:Type}{l:List α}{k:Nat}{x:α}(a:α)(h:bf l k=some x):bf (app l [a]) k=some x:=by
 rw[aT] at h⊢;rw[bb,List.getElem?_append_left (List.getElem?_eq_some_iff.mp h).1];exact h
theorem qm{k:Nat}(h:bf σ k=some (.list vs)):∀i acc,item? (.ref k) i (app σ [.list acc])=some (bf vs i):=λi acc=>by
 show cO (cO (bf (app σ [.list acc]) k) (bC none some) none) (λvs=>some (bf vs i)) none=_;rw[sh _ h];rfl
theorem si{k:Nat}(h:bf σ k=some (.list (ae xs)))(hx:∀x∈xs,x<256)(hl:xs.length<2500)(hb:HB σ):ah af (deep af (d+1)) 70 [.ref k] σ=.ok (.str xs) σ:=by
 rw[aq (aU:=[.ref k]) rfl rfl rfl];exact congrArg ba (gQ (.inr ⟨k,rfl⟩) (qm h) hx hl hb)
theorem lJ{k:Nat}(h:bf σ k=some (.list (ae xs)))(hx:∀x∈xs,x<256)(hl:xs.length<2500)(hb:HB σ):ah af (deep af (d+1)) 37 [.ref k] σ=.ok (.str xs) σ:=by
 rw[aq (aU:=[.ref k]) rfl rfl rfl];exact congrArg ba (gQ (.inr ⟨k,rfl⟩) (qm h) hx hl hb)
theorem iH{τ:LH}(hb:HB σ)(hv:vs.all flat=true):freeze (len σ) (.tup vs) (app σ τ)=.ok (.tup vs) σ:=by
 unfold freeze;rw[ez σ _ hb];show oN (cO (eR (fz (app σ τ) (len σ) 63) vs) (λq=>some (LV.tup q)) none) _=_;rw[da vs hv];show Out.ok (LV.tup vs) (eZ (app σ τ) (len σ))=_;rw[fw]
theorem qn{i:Int}(hb:HB σ)(hv:vs.all flat=true):freeze (len σ) (.tup [.ref (len σ),.int i]) (app σ [.list vs])=.ok (.tup [.ag vs,.int i]) σ:=by
 unfold freeze;rw[ez σ _ hb];show oN (cO (cO (cB (Nat.blt (len σ) (len σ)) none (cO (bf (app σ [.list vs]) (len σ)) (bC none (λBd=>cO (eR (fz (app σ [.list vs]) (len σ) 62) Bd) (λq=>some (LV.ag q)) none)) none)) (λx=>cO (some [LV.int i]) (λq=>some (x::q)) none) none) (λq=>some (LV.tup q)) none) _=_;rw[bS (Nat.le_refl _),cA];show oN (cO (cO (cO (eR (fz (app σ [.list vs]) (len σ) 62) vs) (λq=>some (LV.ag q)) none) (λx=>cO (some [LV.int i]) (λq=>some (x::q)) none) none) (λq=>some (LV.tup q)) none) _=_;rw[da vs hv];show Out.ok (LV.tup [.ag vs,.int i]) (eZ (app σ [.list vs]) (len σ))=_;rw[fw]
end
set_option compiler.extract_closed false in
set_option compiler.extract_closed false in
noncomputable def bT(xs:List Nat)(a:Nat):Bool:=match xs[a]?with
 |some x=>decide (33<=x/\x<97)
 |none=>false
def bJ(xs:List Nat)(a:Nat):List Nat:=match xs[a]?with
 |some x=>(cX xs a x).1.take ((x-32)%64)
 |none=>[]
def dD(xs:List Nat)(a:Nat):Nat:=match xs[a]?with
 |some x=>mc xs (cX xs a x).2
 |none=>a
noncomputable def ai(xs:List Nat):Nat->List Nat->Nat->List Nat×Nat
 |0,row,a=>(row,a)
 |m+1,row,a=>if bT xs a=true then ai xs m (row++bJ xs a) (dD xs a) else(row,a)
theorem zG{xs:List Nat}{a:Nat}(h:lS xs a=[10]):a<xs.length:=by
 unfold lS at h;cases e:xs[a]?with
 |some x=>exact(List.getElem?_eq_some_iff.mp e).1
 |none=>rw[e] at h;cases h
set_option tactic.hygienic true in
theorem C4{xs:List Nat}{a:Nat}(h:a<=xs.length):a<=mc xs a/\mc xs a<=xs.length:=by
 unfold mc
 split
 ·rename_i q;have:=zG q;exact⟨Jl [a] 1 .z J0 (.p J0 1) Jt,Jl [a,xs.length] 1 (.c 1 (.p J0 1) J1 .z) (.p J0 1) J1 Jt this⟩
 ·split
  ·rename_i q;have:=zG q;exact⟨Jl [a] 1 .z J0 (.p J0 2) Jt,Jl [a,xs.length] 1 (.c 1 (.p (.p J0 1) 1) J1 .z) (.p J0 2) J1 Jt this⟩
  ·exact⟨Jl [a] 1 .z J0 J0 Jt,Jl [a,xs.length] 1 (.c 1 J0 J1 .z) J0 J1 Jt h⟩
theorem oF(xs:List Nat)(a:Nat):a<=cq xs a:=by
 unfold cq
 cases lD xs a with
 |true=>exact Nat.le_succ a
 |false=>exact Nat.le_refl a
theorem C5(xs:List Nat)(a:Nat):a<=lH xs a:=Nat.le_trans (oF xs a) (Nat.le_trans (oF xs _) (Nat.le_trans (oF xs _) (oF xs _)))
theorem ui{xs:List Nat}{size:Nat}:∀m row a,a<=(bI xs size m row a).2
 |0,row,a=>Nat.le_refl a
 |m+1,row,a=>by
  unfold bI
  split
  ·exact Nat.le_trans (C5 xs a) (ui m _ _)
  ·exact Nat.le_refl a
theorem jk{xs:List Nat}{a:Nat}(h:bT xs a=true):a<dD xs a/\dD xs a<=xs.length/\(bJ xs a).length<64:=by
 unfold bT at h;unfold dD bJ;cases e:xs[a]?with
 |none=>rw[e] at h;cases h
 |some x=>
  have ha:=(List.getElem?_eq_some_iff.mp e).1;have h1:=(gE (xs:=xs) (size:=(x-32)%64) (((x-32)%64+2)/3) [] (a+1) ha).1;have h2:=ui (xs:=xs) (size:=(x-32)%64) (((x-32)%64+2)/3) [] (a+1);have h3:=C4 h1;dsimp only;unfold cX;refine⟨by exact Jl [a,_,_] 1 (.c 1 (.p J0 1) J1 (.c 1 J1 J2 .z)) (.p J0 1) J2 Jt h2 h3.1,h3.2,?_⟩;rw[List.length_take];have:(x-32)%64<64:=Nat.mod_lt _ (by decide);exact Jl [_,_] 1 (.c 1 (.p J0 1) (.k 64) (.c 1 J1 J0 .z)) (.p J1 1) (.k 64) Jt this (Nat.min_le_left _ _)
noncomputable def zH:bB:=(.cons (.dc [.nm 3,.nm 1] (.ag (.call 13 (.cons (.var 0) (.cons (.var 1) .nil))))) (.cons (.expr (.bm .extend (.var 2) (.cons (.var 3) .nil))) .nil))
noncomputable def zJ:Ex:=(.and (.call 11 (.cons (.var 0) (.cons (.var 1) .nil))) (.cmp (.sub (.var 0) (.var 1)) .ne (.int 32)))
noncomputable def zK:bB:=(.cons (.dc [.nm 3,.nm 2] (.ag (.call 73 (.cons (.var 0) (.cons (.var 2) .nil))))) (.cons (.aug 1 .add (.var 3)) .nil))
noncomputable def zL:Ex:=(.and (.cmp (.var 2) .lt (.bi .len (.cons (.var 0) .nil))) (.hY (.int 33) .le (.sub (.var 0) (.var 2)) .le (.int 96)))
section
variable{xs:List Nat}{a b x d n m size:Nat}{ρ:List LV}{σ:LH}{k j v:LV}{row:List Nat}
theorem zM(hl:xs.length<900)(ha:a<1000):(run af (deep af (d+3)) (n+20)).t zJ [.ag (ae xs),.int (.ofNat a),k,v] σ=.ok (bT xs a) σ:=by
 have hu:=λσ=>zv (xs:=xs) (a:=a) (d:=d+2) (σ:=σ) (by walk_at "om") (by walk_at "om");unfold zJ bT;unfold lD at hu;cases e:xs[a]?with
 |none=>
  rw[e] at hu;replace hu:∀σ,ah af (deep af (d+2+1)) 11 [.ag (ae xs),.int (.ofNat a)] σ=.ok (.bool false) σ:=hu;clear hl ha e;walk_at "evk"
 |some x=>
  have hs:=λσ=>eM (σ:=σ) (dC (show a<1000000000000000000 by walk_at "om")) (a6 (by rw[az];exact(List.getElem?_eq_some_iff.mp e).1)) (show bf (ae xs) a=some (.int (.ofNat x)) by rw[ey,e];rfl);rw[e] at hu;have EE:∀b,r7 x=b->∀σ,ah af (deep af (d+2+1)) 11 [.ag (ae xs),.int (.ofNat a)] σ=.ok (.bool b) σ:=λb q=>q▸hu;unfold r7 at EE;clear hu;refine(?_:(run af (deep af (d+3)) (n+20)).t _ _ σ=.ok (decide (33<=x/\x<97)) σ)
  rcases Nat.lt_or_ge x 32 with q|q
  ·have hu:=EE false (by rw[a6 q];rfl);rw[decide_eq_false (by walk_at "om")];clear hl ha e q EE;walk_at "evk"
  ·rcases Nat.lt_or_ge x 97 with q'|q'
   ·have hu:=EE true (by rw[bS q,a6 q'];rfl);by_cases q2:x=32
    ·subst q2;have hd:∀σ:LH,ao .ne (.int (.ofNat 32)) (.int (.ofNat 32)) σ=some false:=λ_=>rfl;rw[decide_eq_false (by walk_at "om")];clear hl ha e q q' EE;walk_at "evk"
    ·have hd:∀σ:LH,ao .ne (.int (.ofNat x)) (.int (.ofNat 32)) σ=some true:=λ_=>by
      show some (hZ (Nat.beq x 32))=_;rw[Bool.eq_false_iff.mpr λh=>q2 (Nat.eq_of_beq_eq_true h)];rfl
     rw[decide_eq_true (by walk_at "om")];clear hl ha e q q' EE;walk_at "evk"
   ·have hu:=EE false (by rw[bS q,bS q'];rfl);rw[decide_eq_false (by walk_at "om")];clear hl ha e q q' EE;walk_at "evk"
end
set_option compiler.extract_closed false in
set_option compiler.extract_closed false in
section
variable{xs:List Nat}{a b x d n m size:Nat}{ρ:List LV}{σ:LH}{k j v:LV}{row:List Nat}
theorem oG{P:dR}{C:Nat->List LV->LH->Out LV}{aG:LH}{f:Nat}{as:dH}{vs:List LV}{R:Out LV}(h1:(run P C (n+1)).es as ρ σ=.ok vs aG)(h2:(oB (ah P C f vs aG) λv ax=>freeze (len σ) v ax)=R):(run P C (n+3)).e (.ag (.call f as)) ρ σ=R:=by rw[jV,lx,h1,aw,jd];exact h2
theorem zO(hl:xs.length<900)(ha:a<1000):(run af (deep af (d+3)) (n+20)).t zL [.ag (ae xs),k,.int (.ofNat a),v] σ=.ok (bT xs a) σ:=by
 have h5:small (len (ae xs))=true:=by rw[az];exact aN (by walk_at "om")
 unfold zL bT;cases e:xs[a]?with
 |none=>
  have h6:Nat.blt a (len (ae xs))=false:=bS (by rw[az];exact List.getElem?_eq_none_iff.mp e);dsimp only;clear hl ha e;walk_at "evk"
 |some x=>
  have hx:=(List.getElem?_eq_some_iff.mp e).1;have h6:Nat.blt a (len (ae xs))=true:=a6 (by rw[az];exact hx);have hs:=λσ=>eM (σ:=σ) (dC (show a<1000000000000000000 by exact Jl [a] 1 (.c 1 (.p J0 1) (.k 1000) .z) (.p J0 1) (.k 1000000000000000000) Jt ha)) h6 (show bf (ae xs) a=some (.int (.ofNat x)) by rw[ey,e];rfl);dsimp only
  rcases Nat.lt_or_ge x 33 with q|q
  ·have h7:Nat.blt x 33=true:=a6 q;rw[decide_eq_false (by walk_at "om")];clear hl ha e hx q;walk_at "evk"
  ·have h7:Nat.blt x 33=false:=bS q
   rcases Nat.lt_or_ge x 97 with q'|q'
   ·have h8:Nat.blt 96 x=false:=bS (by exact Jl [x] 1 (.c 1 (.p J0 1) (.k 97) .z) J0 (.k 96) Jt q');rw[decide_eq_true (by exact⟨Jl [x] 1 (.c 1 (.k 33) J0 .z) (.k 33) J0 Jt q,Jl [x] 1 (.c 1 (.p J0 1) (.k 97) .z) (.p J0 1) (.k 97) Jt q'⟩)];clear hl ha e hx q q';walk_at "evk"
   ·have h8:Nat.blt 96 x=true:=a6 (by exact Jl [x] 1 (.c 1 (.k 97) J0 .z) (.p (.k 96) 1) J0 Jt q');rw[decide_eq_false (by walk_at "om")];clear hl ha e hx q q';walk_at "evk"
theorem Lo(hl:xs.length<900)(hb:HB σ)(h:bT xs a=true):(oB (ah af (deep af (d+3)) 13 [.ag (ae xs),.int (.ofNat a)] σ) λv ax=>freeze (len σ) v ax)=.ok (.tup [.ag (ae (bJ xs a)),.int (.ofNat (dD xs a))]) σ:=by
 unfold bT at h;unfold bJ dD;cases e:xs[a]?with
 |none=>rw[e] at h;cases h
 |some x=>
  rw[e] at h;have:=of_decide_eq_true h;rw[vK hl hb e (by exact Jl [x] 1 (.c 1 (.k 33) J0 .z) (.k 32) J0 Jt this.1),aw];exact iH hb rfl
theorem Lp(hl:xs.length<900)(hb:HB σ)(h:bT xs a=true):(oB (ah af (deep af (d+3)) 73 [.ag (ae xs),.int (.ofNat a)] σ) λv ax=>freeze (len σ) v ax)=.ok (.tup [.ag (ae (bJ xs a)),.int (.ofNat (dD xs a))]) σ:=by
 unfold bT at h;unfold bJ dD;cases e:xs[a]?with
 |none=>rw[e] at h;cases h
 |some x=>
  rw[e] at h;have:=of_decide_eq_true h;rw[vL hl hb e (by exact Jl [x] 1 (.c 1 (.k 33) J0 .z) (.k 32) J0 Jt this.1),aw];exact iH hb rfl
theorem Hb(hl:xs.length<900)(hr:row.length<100000)(hb:HB σ)(h:bT xs a=true):(run af (deep af (d+3)) (n+60)).ss zH [.ag (ae xs),.int (.ofNat a),.ref (len σ),v] (app σ [.list (ae row)])=
  .nx [.ag (ae xs),.int (.ofNat (dD xs a)),.ref (len σ),.ag (ae (bJ xs a))] (app σ [.list (ae (row++bJ xs a))]):=by
 have h1:=Lo (d:=d) hl (hb.flat (aI row)) h;have hp:=(jk h).2.2
 have he:jZ .extend (.ref (len σ)) [.ag (ae (bJ xs a))] (app σ [.list (ae row)])=.ok .none (app σ [.list (ae (row++bJ xs a))]):=by
  rw[uc (aN (by rw[az,az];show row.length+(bJ xs a).length<_;exact Jl [row.length,_] 1 (.c 1 (.p J0 1) (.k 100000) (.c 1 (.p J1 1) (.k 64) .z)) (.p (.a J0 J1) 1) (.k 1000000) Jt hr hp)),lG]
 have hm:=qh (σ:=σ) (ws:=ae row);have h2:Nat.beq (len [Tg.nm 3,Tg.nm 1]) (len [LV.ag (ae (bJ xs a)),.int (.ofNat (dD xs a))])=true:=rfl;clear hl hr hb h hp;unfold zH;refine iG (zr (oG (cS (jW rfl eW) (cS (jW rfl ly) fu)) h1) rfl h2 (ua (ua zo))) (zp ?_);walk_at "evk"
theorem Hc(hl:xs.length<900)(hr:row.length<100000)(hb:HB σ)(h:bT xs a=true):(run af (deep af (d+3)) (n+60)).ss zK [.ag (ae xs),.ref (len σ),.int (.ofNat a),v] (app σ [.list (ae row)])=
  .nx [.ag (ae xs),.ref (len σ),.int (.ofNat (dD xs a)),.ag (ae (bJ xs a))] (app σ [.list (ae (row++bJ xs a))]):=by
 have h1:=Lp (d:=d) hl (hb.flat (aI row)) h;have hp:=(jk h).2.2
 have he:dh .add (.ref (len σ)) (.ag (ae (bJ xs a))) (app σ [.list (ae row)])=.ok (.ref (len σ)) (app σ [.list (ae (row++bJ xs a))]):=by
  rw[ud (aN (by rw[az,az];show row.length+(bJ xs a).length<_;exact Jl [row.length,_] 1 (.c 1 (.p J0 1) (.k 100000) (.c 1 (.p J1 1) (.k 64) .z)) (.p (.a J0 J1) 1) (.k 1000000) Jt hr hp)),lG]
 have h2:Nat.beq (len [Tg.nm 3,Tg.nm 2]) (len [LV.ag (ae (bJ xs a)),.int (.ofNat (dD xs a))])=true:=rfl;clear hl hr hb h hp;unfold zK;refine iG (zr (oG (cS (jW rfl eW) (cS (jW rfl ly) fu)) h1) rfl h2 (ua (ua zo))) (zp ?_);walk_at "evk"
theorem EF(hl:xs.length<900)(hb:HB σ):∀m n row a v,a<=xs.length->xs.length<=a+m->row.length+64*m<90000->
  ∃v',(run af (deep af (d+3)) (n+m+70)).eE zJ zH [.ag (ae xs),.int (.ofNat a),.ref (len σ),v] (app σ [.list (ae row)])=
   .nx [.ag (ae xs),.int (.ofNat (ai xs m row a).2),.ref (len σ),v'] (app σ [.list (ae (ai xs m row a).1)])
 |0,n,row,a,v,ha,hm,hr=>by
  refine⟨v,?_⟩
  have e:bT xs a=false:=by unfold bT;rw[List.getElem?_eq_none (by exact Jl [xs.length,a] 1 (.c 1 J0 (.p J1 0) .z) J0 J1 Jt hm)]
  rw[show n+0+70=(n+69)+1 by walk_at "om",mL,zM (n:=n+49) hl (by exact Jl [xs.length,a] 1 (.c 1 (.p J0 1) (.k 900) (.c 1 J1 J0 .z)) (.p J1 1) (.k 1000) Jt hl ha),b8,e,dO];rfl
 |m+1,n,row,a,v,ha,hm,hr=>by
  rw[show n+(m+1)+70=(n+m+70)+1 by exact Nat.le_antisymm (Jl [n,m] 1 .z (.p (.a J0 (.p J1 1)) 70) (.p (.p (.a J0 J1) 70) 1) Jt) (Jl [n,m] 1 .z (.p (.p (.a J0 J1) 70) 1) (.p (.a J0 (.p J1 1)) 70) Jt),mL,zM (n:=n+m+50) hl (by exact Jl [xs.length,a] 1 (.c 1 (.p J0 1) (.k 900) (.c 1 J1 J0 .z)) (.p J1 1) (.k 1000) Jt hl ha),b8];unfold ai
  cases e:bT xs a with
  |true=>
   have hp:=jk e;rw[dr,if_pos rfl,Hb (n:=n+m+10) hl (by exact Jl [row.length,m] 1 (.c 1 (.p (.a J0 (.m 64 (.p J1 1))) 1) (.k 90000) .z) (.p J0 1) (.k 100000) Jt hr) hb e,bY];exact EF hl hb m n _ _ _ hp.2.1 (by exact Jl [xs.length,a,m,_] 1 (.c 1 J0 (.a J1 (.p J2 1)) (.c 1 (.p J1 1) J3 .z)) J0 (.a J3 J2) Jt hm hp.1) (by rw[List.length_append];exact Jl [row.length,m,_] 1 (.c 1 (.p (.a J0 (.m 64 (.p J1 1))) 1) (.k 90000) (.c 1 (.p J2 1) (.k 64) .z)) (.p (.a (.a J0 J2) (.m 64 J1)) 1) (.k 90000) Jt hr hp.2.2)
  |false=>exact⟨v,rfl⟩
theorem EG(hl:xs.length<900)(hb:HB σ):∀m n row a v,a<=xs.length->xs.length<=a+m->row.length+64*m<90000->
  ∃v',(run af (deep af (d+3)) (n+m+70)).eE zL zK [.ag (ae xs),.ref (len σ),.int (.ofNat a),v] (app σ [.list (ae row)])=
   .nx [.ag (ae xs),.ref (len σ),.int (.ofNat (ai xs m row a).2),v'] (app σ [.list (ae (ai xs m row a).1)])
 |0,n,row,a,v,ha,hm,hr=>by
  refine⟨v,?_⟩
  have e:bT xs a=false:=by unfold bT;rw[List.getElem?_eq_none (by exact Jl [xs.length,a] 1 (.c 1 J0 (.p J1 0) .z) J0 J1 Jt hm)]
  rw[show n+0+70=(n+69)+1 by walk_at "om",mL,zO (n:=n+49) hl (by exact Jl [xs.length,a] 1 (.c 1 (.p J0 1) (.k 900) (.c 1 J1 J0 .z)) (.p J1 1) (.k 1000) Jt hl ha),b8,e,dO];rfl
 |m+1,n,row,a,v,ha,hm,hr=>by
  rw[show n+(m+1)+70=(n+m+70)+1 by exact Nat.le_antisymm (Jl [n,m] 1 .z (.p (.a J0 (.p J1 1)) 70) (.p (.p (.a J0 J1) 70) 1) Jt) (Jl [n,m] 1 .z (.p (.p (.a J0 J1) 70) 1) (.p (.a J0 (.p J1 1)) 70) Jt),mL,zO (n:=n+m+50) hl (by exact Jl [xs.length,a] 1 (.c 1 (.p J0 1) (.k 900) (.c 1 J1 J0 .z)) (.p J1 1) (.k 1000) Jt hl ha),b8];unfold ai
  cases e:bT xs a with
  |true=>
   have hp:=jk e;rw[dr,if_pos rfl,Hc (n:=n+m+10) hl (by exact Jl [row.length,m] 1 (.c 1 (.p (.a J0 (.m 64 (.p J1 1))) 1) (.k 90000) .z) (.p J0 1) (.k 100000) Jt hr) hb e,bY];exact EG hl hb m n _ _ _ hp.2.1 (by exact Jl [xs.length,a,m,_] 1 (.c 1 J0 (.a J1 (.p J2 1)) (.c 1 (.p J1 1) J3 .z)) J0 (.a J3 J2) Jt hm hp.1) (by rw[List.length_append];exact Jl [row.length,m,_] 1 (.c 1 (.p (.a J0 (.m 64 (.p J1 1))) 1) (.k 90000) (.c 1 (.p J2 1) (.k 64) .z)) (.p (.a (.a J0 J2) (.m 64 J1)) 1) (.k 90000) Jt hr hp.2.2)
  |false=>exact⟨v,rfl⟩
end
set_option compiler.extract_closed false in
set_option compiler.extract_closed false in
theorem Hd{xs:List Nat}{a:Nat}:∀x∈C2 xs a,x<256:=λx hx=>by
 have:=qi xs a;unfold C2 at hx;simp only[List.mem_cons,List.not_mem_nil,or_false] at hx
 rcases hx with rfl|rfl|rfl<;>walk_at "om"
theorem uj{xs:List Nat}{size:Nat}:∀m row a,(∀x∈row,x<256)->∀x∈(bI xs size m row a).1,x<256
 |0,row,a,h=>h
 |m+1,row,a,h=>by
  unfold bI
  split
  ·refine uj m _ _ λx hx=>?_
   rcases List.mem_append.mp hx with q|q
   ·exact h x q
   ·exact Hd x q
  ·exact h
theorem C6{xs:List Nat}{a:Nat}:∀x∈bJ xs a,x<256:=λx hx=>by
 unfold bJ at hx
 split at hx
 ·exact uj _ _ _ (λx h=>by cases h) x (List.mem_of_mem_take hx)
 ·cases hx
theorem jl{xs:List Nat}:∀m row a,a<=xs.length->(∀x∈row,x<256)->(∀x∈(ai xs m row a).1,x<256)/\(ai xs m row a).2<=xs.length/\(ai xs m row a).1.length<=row.length+64*m
 |0,row,a,ha,h=>⟨h,ha,by show row.length<=_;walk_at "om"⟩
 |m+1,row,a,ha,h=>by
  unfold ai
  cases e:bT xs a with
  |false=>exact⟨h,ha,by show row.length<=_;walk_at "om"⟩
  |true=>
   rw[if_pos rfl];have hp:=jk e
   have:=jl m (row++bJ xs a) (dD xs a) hp.2.1 (λx hx=>by
    rcases List.mem_append.mp hx with q|q
    ·exact h x q
    ·exact C6 x q)
   rw[List.length_append] at this;exact⟨this.1,this.2.1,by exact Jl [_,_,row.length,m] 1 (.c 1 (.p J0 1) (.k 64) (.c 1 J1 (.a (.a J2 J0) (.m 64 J3)) .z)) J1 (.a J2 (.m 64 (.p J3 1))) Jt hp.2.2 this.2.2⟩
section
variable{xs:List Nat}{a b x d n m size:Nat}{ρ:List LV}{σ:LH}{k j v:LV}{row:List Nat}
theorem sj(hl:xs.length<40)(hb:HB σ)(ha:a<=xs.length):ah af (deep af (d+4)) 14 [.ag (ae xs),.int (.ofNat a)] σ=
  .ok (.tup [.ref (len σ),.int (.ofNat (ai xs xs.length [] a).2)]) (app σ [.list (ae (ai xs xs.length [] a).1)]):=by
 rw[aq (aU:=[.ag (ae xs),.int (.ofNat a),.au,.au]) rfl rfl rfl];obtain⟨v',hw⟩:=EF (xs:=xs) (d:=d) (n:=2927-xs.length) (σ:=σ) (by walk_at "om") hb xs.length [] a .au ha (by walk_at "om") (by show 0+_<90000;exact Jl [xs.length] 1 (.c 64 (.p J0 1) (.k 40) .z) (.p (.a (.k 0) (.m 64 J0)) 1) (.k 90000) Jt hl);rw[show 2927-xs.length+xs.length+70=2997 by exact congrArg (·+70) (Nat.sub_add_cancel (Jl [xs.length] 1 (.c 1 (.p J0 1) (.k 40) .z) J0 (.k 2927) Jt hl))] at hw;have OZ:(run af (deep af (d+3)) 2997).eE zJ zH [.ag (ae xs),.int (.ofNat a),.ref (len σ),.au] (app σ [.list []])=_:=hw;have Lq:MY.body=.cons (.asg 2 (.list .nil)) (.cons (.eE zJ zH) (.cons (.ret (.tup (.cons (.var 2) (.cons (.var 1) .nil)))) .nil)):=rfl;refine(?_:ba ((run af (deep af (d+3)) 3000).ss MY.body _ σ)=_);rw[Lq];clear hw hl hb ha Lq;walk_at "evk"
theorem sk{σ:LH}(hs:xs.length<1000)(ha:a<=xs.length):bA (.ag (ae xs)) (.int (.ofNat a)) .none σ=.ok (.ref (len σ)) (app σ [.list (ae (xs.drop a))]):=by
 show cT (ae xs) _ _ σ=_;rw[eC (l:=if a<xs.length then a else xs.length) (h:=xs.length) hs (by rw[←cC];rfl) rfl]
 congr 4
 split
 ·rw[List.take_of_length_le (by rw[List.length_drop];exact Nat.le_refl _)]
 ·rw[show a=xs.length by exact Nat.le_antisymm (Jl [a,xs.length] 1 (.c 1 J0 J1 .z) J0 J1 Jt ha) (Jl [xs.length,a] 1 (.c 1 J0 J1 .z) J0 J1 Jt (Jz (by assumption))),List.drop_of_length_le (Nat.le_refl _)];simp
theorem C7{σ:LH}(h:HB σ)(x y:List Nat):freeze (len σ) (.ref (len σ)) (app σ [.list [.str x,.str y]])=.ok (.ag [.str x,.str y]) σ:=aO h rfl
theorem sm(hl:xs.length<40)(hx:∀x∈xs,x<256)(hb:HB σ):ah af (deep af (d+4)) 74 [.ag (ae xs)] σ=
  .ok (.ag [.str (ai xs xs.length [] 0).1,.str (xs.drop (ai xs xs.length [] 0).2)]) (app σ [.list (ae (ai xs xs.length [] 0).1)]):=by
 rw[aq (aU:=[.ag (ae xs),.au,.au,.au]) rfl rfl rfl];obtain⟨v',hw⟩:=EG (xs:=xs) (d:=d) (n:=2926-xs.length) (σ:=σ) (by walk_at "om") hb xs.length [] 0 .au (Nat.zero_le _) (by walk_at "om") (by show 0+_<90000;exact Jl [xs.length] 1 (.c 64 (.p J0 1) (.k 40) .z) (.p (.a (.k 0) (.m 64 J0)) 1) (.k 90000) Jt hl);rw[show 2926-xs.length+xs.length+70=2996 by exact congrArg (·+70) (Nat.sub_add_cancel (Jl [xs.length] 1 (.c 1 (.p J0 1) (.k 40) .z) J0 (.k 2926) Jt hl))] at hw;have OZ:(run af (deep af (d+3)) 2996).eE zL zK [.ag (ae xs),.ref (len σ),.int (.ofNat 0),.au] (app σ [.list []])=_:=hw;have hk:=jl (xs:=xs) xs.length [] 0 (Nat.zero_le _) (λx h=>by cases h);have hB:=hb.flat (aI (ai xs xs.length [] 0).1);have h4:=si (d:=d+2) (cA σ (.list (ae (ai xs xs.length [] 0).1))) hk.1 (by have:=hk.2.2;have e:([]:List Nat).length=0:=rfl;exact Jl [xs.length,_,_] 1 (.c 64 (.p J0 1) (.k 40) (.c 1 J1 (.a J2 (.m 64 J0)) (.c 1 J2 (.k 0) .z))) (.p J1 1) (.k 2500) Jt hl this (Jf e)) hB;have h5:=sk (xs:=xs) (a:=(ai xs xs.length [] 0).2) (σ:=app σ [.list (ae (ai xs xs.length [] 0).1)]) (by walk_at "om") hk.2.1;have h6:=cy hB (xs.drop (ai xs xs.length [] 0).2);have h7:=gR (d:=d+2) (σ:=app σ [.list (ae (ai xs xs.length [] 0).1)]) (xs:=xs.drop (ai xs xs.length [] 0).2) (λx h=>hx x (List.mem_of_mem_drop h)) (by rw[List.length_drop];exact Jl [xs.length,_,_] 1 (.c 1 (.p J0 1) (.k 40) (.c 1 (.a J1 J2) J0 .z)) (.p J1 1) (.k 2500) Jt hl (Jf (Nat.sub_add_cancel hk.2.1))) hB;have h8:=C7 hB (ai xs xs.length [] 0).1 (xs.drop (ai xs xs.length [] 0).2);have Lr:Nb.body=.cons (.asg 1 (.list .nil)) (.cons (.asg 2 (.int 0)) (.cons (.eE zL zK) (.cons (.ret (.ag (.list (.cons (.call 70 (.cons (.var 1) .nil)) (.cons (.call 70 (.cons (.ag (.slice (.var 0) (.var 2) .none)) .nil)) .nil))))) .nil))):=rfl;refine(?_:ba ((run af (deep af (d+3)) 3000).ss Nb.body _ σ)=_);rw[Lr];clear hw hl hb hx hk hB Lr;walk_at "evk"
end
set_option compiler.extract_closed false in
set_option compiler.extract_closed false in
noncomputable def HU(D:List Nat)(a:Nat)(fs:List LV)(st:Nat)(τ:LH):LH:=.inst 6 [.int (.ofNat 64),.int (.ofNat 50),.int (.ofNat 1000000),.int (.ofNat 100000),.int (.ofNat 10000)]::.inst 5 [.ag (ae D),.int (.ofNat a),.ref 2,.ref 3,.ref 0,.int (.ofNat st)]::.list fs::.list [.int (.ofNat 0)]::τ
section
variable{D:List Nat}{a st d n:Nat}{fs:List LV}{v:LV}{τ:LH}
theorem zP(hf:fs.all flat=true)(dQ:∀o∈τ,aZ (len τ+4) o=true):HB (HU D a fs st τ):=λo ho=>by
 have e:len (HU D a fs st τ)=len τ+4:=rfl;rw[e];unfold HU at ho;simp only[List.mem_cons] at ho
 rcases ho with rfl|rfl|rfl|rfl|ho
 ·exact bD [.int (.ofNat 64),.int (.ofNat 50),.int (.ofNat 1000000),.int (.ofNat 100000),.int (.ofNat 10000)] rfl
 ·show band true (band true (band (Nat.blt 2 (len τ+4)) (band (Nat.blt 3 (len τ+4)) (band (Nat.blt 0 (len τ+4)) true))))=true;rw[a6 (show 2<len τ+4 by exact Jl [_] 1 .z (.p (.k 2) 1) (.p J0 4) Jt),a6 (show 3<len τ+4 by exact Jl [_] 1 .z (.p (.k 3) 1) (.p J0 4) Jt),a6 (show 0<len τ+4 by walk_at "om")];rfl
 ·exact bD fs hf
 ·rfl
 ·exact dQ o ho
theorem oH:bj 5 0 (.ref 1) (HU D a fs st τ)=some (.ag (ae D)):=rfl
theorem uk:bj 5 1 (.ref 1) (HU D a fs st τ)=some (.int (.ofNat a)):=rfl
theorem lK:bj 5 2 (.ref 1) (HU D a fs st τ)=some (.ref 2):=rfl
theorem zQ:bj 5 4 (.ref 1) (HU D a fs st τ)=some (.ref 0):=rfl
theorem qo:bj 5 5 (.ref 1) (HU D a fs st τ)=some (.int (.ofNat st)):=rfl
theorem zR:bj 6 4 (.ref 0) (HU D a fs st τ)=some (.int (.ofNat 10000)):=rfl
theorem vN:bj 6 2 (.ref 0) (HU D a fs st τ)=some (.int (.ofNat 1000000)):=rfl
theorem zU{b:Nat}:bO 5 1 (.ref 1) (.int (.ofNat b)) (HU D a fs st τ)=some (HU D b fs st τ):=rfl
theorem C8{b:Nat}:bO 5 5 (.ref 1) (.int (.ofNat b)) (HU D a fs st τ)=some (HU D a fs b τ):=rfl
theorem He(h:small (len fs)=true):e6 .len [.ref 2] (HU D a fs st τ)=.ok (.int (.ofNat (len fs))) (HU D a fs st τ):=by
 show bN (small (len fs)) _=_;rw[h];rfl
theorem Hf(h:small (len fs)=true):jZ .append (.ref 2) [v] (HU D a fs st τ)=.ok .none (HU D a (app fs [v]) st τ):=by
 show bN (small (len fs)) _=_;rw[h];rfl
theorem Ls:j0 .append (.ref 2) (HU D a fs st τ)=true:=rfl
theorem mN(hv:cv (HU D a fs st τ) v=.ok v (HU D a fs st τ))(h:len fs<100):ah af (deep af (d+1)) 33 [.ref 1,v] (HU D a fs st τ)=.ok .none (HU D a (app fs [v]) st τ):=by
 rw[aq (aU:=[.ref 1,v]) rfl rfl rfl];have h1:=He (D:=D) (a:=a) (st:=st) (τ:=τ) (aN (show len fs<1000000 by walk_at "om"));have h2:=Hf (D:=D) (a:=a) (st:=st) (τ:=τ) (v:=v) (aN (show len fs<1000000 by walk_at "om"));have h3:=@lK D a st fs τ;have h4:=@zQ D a st fs τ;have h5:=@zR D a st fs τ;have h6:=@Ls D a st fs τ;have h7:Nat.blt (len fs) 10000=true:=a6 (by walk_at "om");clear h;refine(?_:ba ((run af (deep af d) 3000).ss JF _ _)=_);unfold JF;walk_at "evk"
 all_goals exact hv
theorem mO(h:st<1000):ah af (deep af (d+1)) 34 [.ref 1] (HU D a fs st τ)=.ok .none (HU D a fs (st+1) τ):=by
 rw[aq (aU:=[.ref 1]) rfl rfl rfl];have h1:=@qo D a st fs τ;have Ej:=@qo D a (Nat.add st 1) fs τ;have h2:=@C8 D a st fs τ (Nat.add st 1);have h4:=@zQ D a (Nat.add st 1) fs τ;have h5:=@vN D a (Nat.add st 1) fs τ;have h7:Nat.blt 1000000 (Nat.add st 1)=false:=bS (by show st+1<=_;exact Jl [st] 1 (.c 1 (.p J0 1) (.k 1000) .z) (.p J0 1) (.k 1000000) Jt h);clear h;unfold M3 M1;walk_at "evk"
end
set_option compiler.extract_closed false in
set_option compiler.extract_closed false in
section
variable{D:List Nat}{a st d n:Nat}{fs:List LV}{v:LV}{τ:LH}
theorem Hg{P:dR}{C:Nat->List LV->LH->Out LV}{c j:Nat}{o:Ex}{ts:List Tg}{v:LV}{vs ρ:List LV}{σ:LH}:cH (run P C n) (.sD c j o::ts) (v::vs) ρ σ=oS ((run P C n).e o ρ σ) ρ λx σ=>jJ (bO c j x v σ) λσ=>cH (run P C n) ts vs ρ σ:=rfl
theorem C9(hl:D.length<40)(hf:fs.all flat=true)(dQ:∀o∈τ,aZ (len τ+4) o=true)(hn:len fs<100):ah af (deep af (d+5)) 44 [.ref 1] (HU D 0 fs st τ)=.ok .none (HU D (ai D D.length [] 0).2 (app fs [.str (ai D D.length [] 0).1]) st τ):=by
 rw[aq (aU:=[.ref 1,.au]) rfl rfl rfl];have hb:=zP (D:=D) (a:=0) (st:=st) hf dQ;have h1:=sj (d:=d) (a:=0) (xs:=D) hl hb (Nat.zero_le _);have h2:=qn (σ:=HU D 0 fs st τ) (i:=.ofNat (ai D D.length [] 0).2) hb (aI (ai D D.length [] 0).1);have hk:=jl (xs:=D) D.length [] 0 (Nat.zero_le _) (λx h=>by cases h);have h3:=vM (d:=d+3) (σ:=HU D (ai D D.length [] 0).2 fs st τ) hk.1 (by have:=hk.2.2;have e:([]:List Nat).length=0:=rfl;exact Jl [D.length,_,_] 1 (.c 64 (.p J0 1) (.k 40) (.c 1 J1 (.a J2 (.m 64 J0)) (.c 1 J2 (.k 0) .z))) (.p J1 1) (.k 2500) Jt hl this (Jf e)) (zP hf dQ);have h4:=@oH D 0 st fs τ;have h5:=@uk D 0 st fs τ;have h6:=@zU D 0 st fs τ (ai D D.length [] 0).2;have h7:=mN (τ:=τ) (d:=d+3) (D:=D) (a:=(ai D D.length [] 0).2) (st:=st) (fs:=fs) (v:=.str (ai D D.length [] 0).1) rfl hn;have h8:=@Hg;have h9:Nat.beq (len [Tg.nm 1,Tg.sD 5 1 (.var 0)]) (len [LV.ag (ae (ai D D.length [] 0).1),.int (.ofNat (ai D D.length [] 0).2)])=true:=rfl;clear hl hf hn hb hk dQ;unfold P9 P8;walk_at "evk"
end
set_option compiler.extract_closed false in
set_option compiler.extract_closed false in
noncomputable def zV:LV:=.tup [.str [117],.str [],.bool false,.int (-2),.none]
noncomputable def kc:LV:=.tup [.str [97],.str [],.bool false,.int (-1),.none]
section
variable{D:List Nat}{a st d n:Nat}{fs:List LV}{v:LV}{τ:LH}{σ:LH}
theorem Hh(hl:D.length<40)(hf:fs.all flat=true)(dQ:∀o∈τ,aZ (len τ+4) o=true)(hn:len fs<100)(hs:st<1000):ah af (deep af (d+6)) 45 [.ref 1,zV] (HU D 0 fs st τ)=.ok .none (HU D (ai D D.length [] 0).2 (app fs [.str (ai D D.length [] 0).1]) (st+1) τ):=by
 rw[aq (aU:=[.ref 1,zV,.au]) rfl rfl rfl];have h1:=mO (τ:=τ) (d:=d+4) (D:=D) (a:=0) (st:=st) (fs:=fs) hs;have h2:=C9 (d:=d) (D:=D) (st:=st+1) (fs:=fs) hl hf dQ hn;have h0:∀σ,cv σ zV=.ok zV σ:=λ_=>rfl;have h3:∀σ,bH zV (.int (.ofNat 0)) σ=some (.str [117]):=λ_=>rfl;have c1:∀σ,ao .eq (.str [117]) (.str [40]) σ=some false:=λ_=>rfl;have c2:∀σ,ao .isin (.str [117]) (.str [97,65,90]) σ=some false:=λ_=>rfl;have c3:∀σ,ao .isin (.str [117]) (.str [98,66,104,72]) σ=some false:=λ_=>rfl;have c4:∀σ,ao .isin (.str [117]) (.str [120,88,64]) σ=some false:=λ_=>rfl;have c5:∀σ,ao .eq (.str [117]) (.str [46]) σ=some false:=λ_=>rfl;have c6:∀σ,ao .eq (.str [117]) (.str [117]) σ=some true:=λ_=>rfl;clear hl hf hn hs dQ;unfold E9 E8;walk_at "evk"
end
set_option compiler.extract_closed false in
set_option compiler.extract_closed false in
section
variable{D:List Nat}{a st d n m:Nat}{fs:List LV}{v:LV}{σ τ:LH}
theorem zW:ah af (deep af (d+1)) 35 [kc,.int (.ofNat m)] σ=.ok (.int (.ofNat m)) σ:=rfl
theorem Hi(hl:D.length<1000)(ha:a<=D.length):ah af (deep af (d+1)) 32 [.ref 1] (HU D a fs st τ)=.ok (.int (.ofNat (D.length-a))) (HU D a fs st τ):=by
 rw[aq (aU:=[.ref 1]) rfl rfl rfl];have h1:=@oH D a st fs τ;have h2:=@uk D a st fs τ
 have h3:small (len (ae D))=true:=by rw[az];exact aN (by walk_at "om")
 have h4:=az D
 have h5:∀σ,ay .sub (.int (.ofNat D.length)) (.int (.ofNat a)) σ=.ok (.int (.ofNat (D.length-a))) σ:=λσ=>by rw[qe,lE ha]
 rw[h4] at h3;clear hl ha;unfold M0 MZ;walk_at "evk"
theorem qp{xs:List Nat}{σ:LH}(hs:xs.length<1000):bA (.ag (ae xs)) (.int (.ofNat a)) (.int (.ofNat (Nat.add a m))) σ=.ok (.ref (len σ)) (app σ [.list (ae ((xs.drop a).take m))]):=by
 show cT (ae xs) _ _ σ=_;rw[eC (l:=if a<xs.length then a else xs.length) (h:=if a+m<xs.length then a+m else xs.length) hs (by rw[←cC];rfl) (by rw[←cC];rfl)]
 congr 4
 by_cases h:a<xs.length
 ·rw[if_pos h]
  split
  ·rw[show a+m-a=m by exact Nat.le_antisymm (Jl [_,a,m] 1 (.c 1 (.a J0 J1) (.a J1 J2) .z) J0 J2 Jt (Jf (Nat.sub_add_cancel (Jl [a,m] 1 .z J0 (.a J0 J1) Jt)))) (Jl [a,m,_] 1 (.c 1 (.a J0 J1) (.a J2 J0) .z) J1 J2 Jt (Jg (Nat.sub_add_cancel (Jl [a,m] 1 .z J0 (.a J0 J1) Jt))))]
  ·rw[List.take_of_length_le (by rw[List.length_drop];walk_at "om"),List.take_of_length_le (by rw[List.length_drop];exact Jl [xs.length,a,m,_] 1 (.c 1 J0 (.a J1 J2) (.c 1 (.a J3 J1) J0 .z)) J3 J2 Jt (Jz (by assumption)) (Jf (Nat.sub_add_cancel (Nat.le_of_lt h))))]
 ·rw[if_neg h,List.drop_of_length_le (Nat.le_refl _),List.drop_of_length_le (by walk_at "om")];simp
theorem oI{o:LO}:app (HU D a fs st τ) [o]=HU D a fs st (app τ [o]):=rfl
theorem Hj(hl:D.length<1000):ah af (deep af (d+1)) 36 [.ref 1,.int (.ofNat m)] (HU D a fs st τ)=
  .ok (.ref (len (HU D a fs st τ))) (HU D (a+((D.drop a).take m).length) fs st (app τ [.list (ae ((D.drop a).take m))])):=by
 rw[aq (aU:=[.ref 1,.int (.ofNat m),.au]) rfl rfl rfl];have h1:=@oH D a st fs τ;have h2:=@uk D a st fs τ;have h3:=λσ=>qp (xs:=D) (a:=a) (m:=m) (σ:=σ) hl;have h4:=lF (σ:=HU D a fs st τ) (ws:=ae ((D.drop a).take m)) (aN (by rw[az,List.length_take,List.length_drop];exact Jl [D.length,_,_] 1 (.c 1 (.p J0 1) (.k 1000) (.c 1 J1 J0 (.c 1 J2 J1 .z))) (.p J2 1) (.k 1000000) Jt hl (Nat.sub_le _ _) (Nat.min_le_right _ _)));rw[az] at h4;have h5:=@uk D a st fs (app τ [.list (ae ((D.drop a).take m))]);have h6:=@zU D a st fs (app τ [.list (ae ((D.drop a).take m))]) (Nat.add a ((D.drop a).take m).length);rw[←oI] at h5 h6;clear hl;unfold M6 M5;walk_at "evk"
 all_goals rfl
end
set_option compiler.extract_closed false in
set_option compiler.extract_closed false in
section
variable{D:List Nat}{a st d n m:Nat}{fs:List LV}{v:LV}{σ τ:LH}
theorem Hk(hl:D.length<1000)(hD:∀x∈D,x<256)(ha:a<=D.length)(hf:fs.all flat=true)(dQ:∀o∈τ,aZ (len τ+4) o=true)(hn:len fs<100):ah af (deep af (d+2)) 38 [.ref 1,kc] (HU D a fs st τ)=
  .ok .none (HU D D.length (app fs [.str (D.drop a)]) st (app τ [.list (ae (D.drop a))])):=by
 rw[aq (aU:=[.ref 1,kc,.au]) rfl rfl rfl];have h1:=Hi (d:=d) (D:=D) (a:=a) (st:=st) (fs:=fs) (τ:=τ) hl ha;have h2:=λσ=>zW (d:=d) (m:=D.length-a) (σ:=σ);have h3:=Hj (d:=d) (D:=D) (a:=a) (st:=st) (fs:=fs) (τ:=τ) (m:=D.length-a) hl;rw[List.take_of_length_le (by rw[List.length_drop];exact Nat.le_refl _),List.length_drop,show a+(D.length-a)=D.length by exact Nat.le_antisymm (Jl [_,a,D.length] 1 (.c 1 (.a J0 J1) J2 .z) (.a J1 J0) J2 Jt (Jf (Nat.sub_add_cancel ha))) (Jl [D.length,_,a] 1 (.c 1 J0 (.a J1 J2) .z) J0 (.a J2 J1) Jt (Jg (Nat.sub_add_cancel ha)))] at h3
 have hb:HB (HU D D.length fs st (app τ [.list (ae (D.drop a))])):=by
  rw[←oI];exact(zP hf dQ).flat (aI _)
 have h4:=lJ (d:=d) (σ:=HU D D.length fs st (app τ [.list (ae (D.drop a))])) (k:=len (HU D a fs st τ)) (xs:=D.drop a) (by rw[←oI];exact cA (HU D D.length fs st τ) _) (λx h=>hD x (List.mem_of_mem_drop h)) (by rw[List.length_drop];exact Jl [D.length,_,a] 1 (.c 1 (.p J0 1) (.k 1000) (.c 1 (.a J1 J2) J0 .z)) (.p J1 1) (.k 2500) Jt hl (Jf (Nat.sub_add_cancel ha))) hb;have h5:=mN (d:=d) (D:=D) (a:=D.length) (st:=st) (fs:=fs) (τ:=app τ [.list (ae (D.drop a))]) (v:=.str (D.drop a)) rfl hn;have h0:∀σ,cv σ kc=.ok kc σ:=λ_=>rfl;have h6:∀σ,bH kc (.int (.ofNat 0)) σ=some (.str [97]):=λ_=>rfl;have c1:∀σ,ao .eq (.str [97]) (.str [65]) σ=some false:=λ_=>rfl;have c2:∀σ,ao .eq (.str [97]) (.str [90]) σ=some false:=λ_=>rfl;clear hl hD ha hf dQ hn hb;unfold L5 L4;walk_at "evk"
theorem Hl(hl:D.length<1000)(hD:∀x∈D,x<256)(ha:a<=D.length)(hf:fs.all flat=true)(dQ:∀o∈τ,aZ (len τ+4) o=true)(hn:len fs<100)(hs:st<1000):ah af (deep af (d+3)) 45 [.ref 1,kc] (HU D a fs st τ)=
  .ok .none (HU D D.length (app fs [.str (D.drop a)]) (st+1) (app τ [.list (ae (D.drop a))])):=by
 rw[aq (aU:=[.ref 1,kc,.au]) rfl rfl rfl];have h1:=mO (τ:=τ) (d:=d+1) (D:=D) (a:=a) (st:=st) (fs:=fs) hs;have h2:=Hk (d:=d) (D:=D) (st:=st+1) (fs:=fs) hl hD ha hf dQ hn;have h0:∀σ,cv σ kc=.ok kc σ:=λ_=>rfl;have h3:∀σ,bH kc (.int (.ofNat 0)) σ=some (.str [97]):=λ_=>rfl;have c1:∀σ,ao .eq (.str [97]) (.str [40]) σ=some false:=λ_=>rfl;have c2:∀σ,ao .isin (.str [97]) (.str [97,65,90]) σ=some true:=λ_=>rfl;clear hl hD ha hf dQ hn hs;unfold E9 E8;walk_at "evk"
end
set_option compiler.extract_closed false in
set_option compiler.extract_closed false in
section
variable{D:List Nat}{a st d n m:Nat}{fs:List LV}{v:LV}{σ τ:LH}
theorem Lu{P:dR}{C:Nat->List LV->LH->Out LV}{b:bB}{ρ:List LV}{x y:LV}:(run P C (n+3)).cj [3] (.ag [x,y]) 0 b ρ σ=turn ((run P C (n+2)).ss b (aW ρ x 3) σ) λρ σ=>turn ((run P C (n+1)).ss b (aW ρ y 3) σ) λρ σ=>.nx ρ σ:=rfl
theorem zX(hl:D.length<40)(hD:∀x∈D,x<256):ah af (deep af (d+7)) 46 [.ref 1,.ag [zV,kc]] (HU D 0 [] 0 [])=
  .ok .none (HU D D.length [.str (ai D D.length [] 0).1,.str (D.drop (ai D D.length [] 0).2)] 2 [.list (ae (D.drop (ai D D.length [] 0).2))]):=by
 rw[aq (aU:=[.ref 1,.ag [zV,kc],.au,.au]) rfl rfl rfl];have hk:=jl (xs:=D) D.length [] 0 (Nat.zero_le _) (λx h=>by cases h);have h1:=Hh (d:=d) (D:=D) (st:=0) (fs:=[]) (τ:=[]) hl rfl (λo h=>by cases h) (by decide) (by decide);have h2:=Hl (d:=d+3) (D:=D) (a:=(ai D D.length [] 0).2) (st:=0+1) (fs:=app [] [.str (ai D D.length [] 0).1]) (τ:=[]) (by walk_at "om") hD hk.2.1 rfl (λo h=>by cases h) (show 1<100 by decide) (by decide);have h3:=@lK D 0 0 [] [];have h4:e6 .len [.ref 2] (HU D 0 [] 0 [])=.ok (.int (.ofNat 0)) (HU D 0 [] 0 []):=rfl;have h5:∀σ,cv σ zV=.ok zV σ:=λ_=>rfl;have h6:∀σ,cv σ kc=.ok kc σ:=λ_=>rfl;have h7:∀σ,bH zV (.int (.ofNat 0)) σ=some (.str [117]):=λ_=>rfl;have h8:∀σ,bH kc (.int (.ofNat 0)) σ=some (.str [97]):=λ_=>rfl;have c1:∀σ,ao .ne (.str [117]) (.str [47]) σ=some true:=λ_=>rfl;have c2:∀σ,ao .ne (.str [97]) (.str [47]) σ=some true:=λ_=>rfl;have h9:=@ot af (deep af (d+6));have hf:=@Lu;clear hl hD hk;unfold L7 L6;walk_at "evk"
 all_goals rfl
end
noncomputable def signs(xs:List Nat):List LV:=xs.map λc=>.str [c]
noncomputable def Lv:LV->LV
 |.str [c]=>.int (.ofNat c)
 |v=>v
section
variable{P:dR}{C:Nat->List LV->LH->Out LV}{xs:List Nat}{ρ:List LV}{σ:LH}{n:Nat}
theorem Dc:∀i acc,item? (.str xs) i (app σ [.list acc])=some (bf (signs xs) i):=λi acc=>by
 show cO (bf xs i) (λc=>some (some (LV.str [c]))) (some none)=_;unfold signs;rw[aT,aT,List.getElem?_map]
 cases xs[i]?<;>rfl
theorem vO:(signs xs).map Lv=ae xs:=by
 unfold signs;rw[List.map_map];rfl
theorem qq(hb:HB σ)(hl:xs.length<2500)(hx:∀x∈xs,x<256)(hv:bf ρ 1=some (.str xs)):(run P C (n+xs.length+42)).e (.ag (.comp (.bin .band (.bi .ord (.cons (.var 0) .nil)) (.int 255)) (.var 1))) ρ σ=.ok (.ag (ae xs)) σ:=by
 have hlen:(signs xs).length=xs.length:=by unfold signs;simp
 have:=lI (P:=P) (C:=C) (elt:=.bin .band (.bi .ord (.cons (.var 0) .nil)) (.int 255)) (it:=.var 1) (vs:=signs xs) (v:=.str xs) (f:=Lv) (ρ:=ρ) (n:=n) Dc hb (by exact Jl [xs.length,_] 1 (.c 1 (.p J0 1) (.k 2500) (.c 1 J1 J0 .z)) (.p J1 1) (.k 2500) Jt hl (Jf hlen))
  (λv hv=>by obtain⟨x,_,rfl⟩:=List.mem_map.mp hv;rfl) (by
   rw[show n+(signs xs).length+40=(n+(signs xs).length+39)+1 by walk_at "om",iF,hv];rfl) (λm ax v hv=>by
   obtain⟨x,BB,rfl⟩:=List.mem_map.mp hv;show Out.ok (LV.int (.ofNat (Nat.land x 255))) ax=_
   rw[jh,Nat.mod_eq_of_lt (hx x BB)];rfl)
 rw[hlen,vO] at this;exact this
end
theorem zY{D:List Nat}{d:Nat}:(oB (ah af (deep af (d+12)) 29 [.str [117,97,42]] (HU D 0 [] 0 [])) λv ax=>freeze (len (HU D 0 [] 0 [])) v ax)=.ok (.ag [zV,kc]) (HU D 0 [] 0 []):=by
 kernel_rfl
set_option compiler.extract_closed false in
set_option compiler.extract_closed false in
noncomputable def HL:LH:=[.inst 6 [.int (.ofNat 64),.int (.ofNat 50),.int (.ofNat 1000000),.int (.ofNat 100000),.int (.ofNat 10000)]]
section
variable{D:List Nat}{d n:Nat}{ρ:List LV}{σ:LH}
theorem zZ{P:dR}{C:Nat->List LV->LH->Out LV}{c:Nat}{as:dH}:(run P C (n+1)).e (.new c as) ρ σ=oB ((run P C n).es as ρ σ) λvs σ=>oN (bf P.init c) λf=>oN (P.dg.get f) λlf=>oN (places lf (.ref (len σ)::vs)) λaU=>oB ((run P C n).call f aU (app σ [.inst c []])) (jx (len σ)):=rfl
theorem Lw:(oN (bf af.init 5) λf=>oN (af.dg.get f) λlf=>oN (places lf (.ref (len HL)::[.ag (ae D),.ref 0])) λaU=>oB ((run af (deep af (d+1)) (n+1)).call f aU (app HL [.inst 5 []])) (jx (len HL)))=.ok (.ref 1) (HU D 0 [] 0 []):=by
 kernel_rfl
theorem um:HB HL:=λo ho=>by
 unfold HL at ho
 rcases List.mem_singleton.mp ho with rfl;rfl
theorem vP(hl:D.length<40)(hD:∀x∈D,x<256):ah af (deep af (d+14)) 47 [.str [117,97,42],.str D,.ref 0] HL=
  .ok (.ref 2) (HU D D.length [.str (ai D D.length [] 0).1,.str (D.drop (ai D D.length [] 0).2)] 2 [.list (ae (D.drop (ai D D.length [] 0).2))]):=by
 rw[aq (aU:=[.str [117,97,42],.str D,.ref 0,.au]) rfl rfl rfl];have h1:=λn=>qq (P:=af) (C:=deep af (d+13)) (xs:=D) (ρ:=[.str [117,97,42],.str D,.ref 0,.au]) (σ:=HL) (n:=n) um (by walk_at "om") hD rfl;have h1:=h1 (2954-D.length);rw[show 2954-D.length+D.length+42=2996 by exact congrArg (·+42) (Nat.sub_add_cancel (Jl [D.length] 1 (.c 1 (.p J0 1) (.k 40) .z) J0 (.k 2954) Jt hl))] at h1;have h2:=λn=>Lw (D:=D) (d:=d+12) (n:=n);have h3:=zY (D:=D) (d:=d+1);have h4:=zX (d:=d+6) hl hD;have h5:=@lK D D.length 2 [.str (ai D D.length [] 0).1,.str (D.drop (ai D D.length [] 0).2)] [.list (ae (D.drop (ai D D.length [] 0).2))];have h6:=@zZ;have z5:JG.body=(.cons (.asg 3 (.new 5 (.cons (.ag (.comp (.bin .band (.bi .ord (.cons (.var 0) .nil)) (.int 255)) (.var 1))) (.cons (.var 2) .nil)))) (.cons (.expr (.call 46 (.cons (.var 3) (.cons (.ag (.call 29 (.cons (.var 0) .nil))) .nil)))) (.cons (.ret (.attr 5 2 (.var 3))) .nil))):=rfl
 have a1:(run af (deep af (d+13)) 2997).es (.cons (.ag (.comp (.bin .band (.bi .ord (.cons (.var 0) .nil)) (.int 255)) (.var 1))) (.cons (.var 2) .nil)) [.str [117,97,42],.str D,.ref 0,.au] HL=.ok [.ag (ae D),.ref 0] HL:=by
  rw[cw,h1,aw];rfl
 show ba ((run af (deep af (d+13)) 3000).ss JG.body _ HL)=_;rw[z5,bZ,t6,zZ,a1,aw];have a2:=h2 2996;rw[a2,b8,cP]
 have a3:(run af (deep af (d+13)) 2999).ss (.cons (.expr (.call 46 (.cons (.var 3) (.cons (.ag (.call 29 (.cons (.var 0) .nil))) .nil)))) (.cons (.ret (.attr 5 2 (.var 3))) .nil)) [.str [117,97,42],.str D,.ref 0,.ref 1] (HU D 0 [] 0 [])=.ret (.ref 2) (HU D D.length [.str (ai D D.length [] 0).1,.str (D.drop (ai D D.length [] 0).2)] 2 [.list (ae (D.drop (ai D D.length [] 0).2))]):=by
  clear h1 h2 h6 z5 a1 a2 hl hD;refine iG (zq (oz (cS (jW rfl zl) (cS (oG (cS (jW rfl lz) fu) h3) fu)) h4) (λ_=>rfl) rfl) (zp ?_);walk_at "evk"
 exact congrArg ba a3
end
set_option compiler.extract_closed false in
set_option compiler.extract_closed false in
section
variable{D:List Nat}{d n:Nat}{ρ:List LV}{σ ax:LH}{v:LV}
theorem lL{P:dR}{C:Nat->List LV->LH->Out LV}{b:bB}{hs}(h:(run P C n).ss b ρ σ=.ret v ax):(run P C (n+1)).s (.mX b hs) ρ σ=.ret v ax:=by
 show sM b hs (run P C n) ρ σ=_;unfold sM;rw[h]
abbrev uo(D:List Nat):List LV:=[.str (ai D D.length [] 0).1,.str (D.drop (ai D D.length [] 0).2)]
theorem z6(hl:D.length<40)(hD:∀x∈D,x<256):ah af (deep af (d+15)) 71 [.int (.ofNat 1),.str [117,97,42],.ag (ae D),.ref 0] HL=
  .ok (.ref 2) (HU D D.length (uo D) 2 [.list (ae (D.drop (ai D D.length [] 0).2))]):=by
 rw[aq (aU:=[.int (.ofNat 1),.str [117,97,42],.ag (ae D),.ref 0]) rfl rfl rfl];have h1:=vP (d:=d) hl hD;have h2:=gR (d:=d+13) (σ:=HL) hD (by walk_at "om") um;have h3:Nat.beq 1 0=false:=rfl
 have a1:(run af (deep af (d+14)) 2998).ss (.cons (.aV (.cmp (.var 0) .eq (.int 0)) (.cons (.ret (.ag (.comp (.bi .ord (.cons (.var 0) .nil)) (.call 68 (.cons (.var 1) (.cons (.var 2) (.cons (.var 3) .nil))))))) .nil) .nil) (.cons (.ret (.call 47 (.cons (.var 1) (.cons (.call 70 (.cons (.var 2) .nil)) (.cons (.var 3) .nil))))) .nil)) [.int (.ofNat 1),.str [117,97,42],.ag (ae D),.ref 0] HL=.ret (.ref 2) (HU D D.length (uo D) 2 [.list (ae (D.drop (ai D D.length [] 0).2))]):=by
  clear hl hD;walk_at "evk"
 exact congrArg ba (show(run af (deep af (d+14)) 3000).ss M9.body _ HL=.ret _ _ by
  show(run af (deep af (d+14)) 3000).ss (.cons (.mX _ _) .nil) _ HL=_
  rw[bZ,lL a1,c9])
end
set_option compiler.extract_closed false in
set_option compiler.extract_closed false in
noncomputable def lM(c:Int):Nat:=match(Int.fmod (Int.fdiv c 65) 4).toNat with
 |0=>32+(Int.fmod c 65).toNat
 |1=>10
 |2=>33+(Int.fmod (Int.fdiv c 3) 9).toNat
 |_=>120
theorem du(c:Int){k:Nat}(h:0<k):Int.fmod c (.ofNat k)=.ofNat (Int.fmod c (.ofNat k)).toNat/\(Int.fmod c (.ofNat k)).toNat<k:=by
 have h1:0<=Int.fmod c (.ofNat k):=Int.fmod_nonneg_of_pos c (by show(0:Int)<(k:Int);walk_at "om");have h2:Int.fmod c (.ofNat k)<.ofNat k:=Int.fmod_lt_of_pos c (by show(0:Int)<(k:Int);walk_at "om");constructor
 ·exact(Int.toNat_of_nonneg h1).symm
 ·have:Int.fmod c (.ofNat k)<(k:Int):=h2;walk_at "om"
theorem z7(c:Int):lM c<256:=by
 have h1:=(du c (k:=65) (by decide)).2;have h2:=(du (Int.fdiv c 3) (k:=9) (by decide)).2;unfold lM
 split
 ·have:(Int.fmod c 65).toNat<65:=h1;exact Jl [_] 1 (.c 1 (.p J0 1) (.k 65) .z) (.p (.a (.k 32) J0) 1) (.k 256) Jt this
 ·decide
 ·have:(Int.fmod (Int.fdiv c 3) 9).toNat<9:=h2;exact Jl [_] 1 (.c 1 (.p J0 1) (.k 9) .z) (.p (.a (.k 33) J0) 1) (.k 256) Jt this
 ·decide
noncomputable def z8:Ex:=(.sub (.ag (.list (.cons (.bin .add (.int 32) (.bin .mod (.var 0) (.int 65))) (.cons (.int 10) (.cons (.bin .add (.int 33) (.bin .mod (.bin .fdiv (.var 0) (.int 3)) (.int 9))) (.cons (.int 120) .nil)))))) (.bin .mod (.bin .fdiv (.var 0) (.int 65)) (.int 4)))
section
variable{P:dR}{C:Nat->List LV->LH->Out LV}{c:Int}{n:Nat}{ρ:List LV}{σ:LH}
theorem Dd{σ:LH}(h:HB σ)(x y z w:Int):freeze (len σ) (.ref (len σ)) (app σ [.list [.int x,.int y,.int z,.int w]])=.ok (.ag [.int x,.int y,.int z,.int w]) σ:=aO h rfl
theorem De(hb:HB σ):(run P C (n+30)).e z8 (.int c::ρ) σ=.ok (.int (.ofNat (lM c))) σ:=by
 obtain⟨e1,b1⟩:=du c (k:=65) (by decide);obtain⟨e2,b2⟩:=du (Int.fdiv c (.ofNat 3)) (k:=9) (by decide);obtain⟨e3,b3⟩:=du (Int.fdiv c (.ofNat 65)) (k:=4) (by decide)
 have m1:∀σ,ay .mod (.int c) (.int (.ofNat 65)) σ=.ok (.int (.ofNat (Int.fmod c (.ofNat 65)).toNat)) σ:=λσ=>by rw[jf,←e1];rfl
 have m2:∀σ,ay .fdiv (.int c) (.int (.ofNat 3)) σ=.ok (.int (Int.fdiv c (.ofNat 3))) σ:=λσ=>by rw[fL];rfl
 have m3:∀σ,ay .mod (.int (Int.fdiv c (.ofNat 3))) (.int (.ofNat 9)) σ=.ok (.int (.ofNat (Int.fmod (Int.fdiv c (.ofNat 3)) (.ofNat 9)).toNat)) σ:=λσ=>by rw[jf,←e2];rfl
 have m4:∀σ,ay .fdiv (.int c) (.int (.ofNat 65)) σ=.ok (.int (Int.fdiv c (.ofNat 65))) σ:=λσ=>by rw[fL];rfl
 have m5:∀σ,ay .mod (.int (Int.fdiv c (.ofNat 65))) (.int (.ofNat 4)) σ=.ok (.int (.ofNat (Int.fmod (Int.fdiv c (.ofNat 65)) (.ofNat 4)).toNat)) σ:=λσ=>by rw[jf,←e3];rfl
 have hf:=Dd hb (.ofNat (Nat.add 32 (Int.fmod c (.ofNat 65)).toNat)) (.ofNat 10) (.ofNat (Nat.add 33 (Int.fmod (Int.fdiv c (.ofNat 3)) (.ofNat 9)).toNat)) (.ofNat 120)
 have hs:∀σ:LH,bH (.ag [.int (.ofNat (Nat.add 32 (Int.fmod c (.ofNat 65)).toNat)),.int (.ofNat 10),.int (.ofNat (Nat.add 33 (Int.fmod (Int.fdiv c (.ofNat 3)) (.ofNat 9)).toNat)),.int (.ofNat 120)]) (.int (.ofNat (Int.fmod (Int.fdiv c (.ofNat 65)) (.ofNat 4)).toNat)) σ=some (.int (.ofNat (lM c))):=λσ=>by
  unfold lM;generalize (Int.fmod (Int.fdiv c (.ofNat 65)) (.ofNat 4)).toNat=q at *
  rcases q with _|_|_|_|q
  ·rfl
  ·rfl
  ·rfl
  ·rfl
  ·exact Jx [q] (.c 1 (.p (.p (.p (.p (.p J0 1) 1) 1) 1) 1) (.k 4) .z) Jt b3
 clear e1 e2 e3 b1 b2 b3 hb;unfold z8;walk_at "evk"
end
noncomputable def aC(l:List Int):List LV:=l.map .int
section
variable{P:dR}{C:Nat->List LV->LH->Out LV}{elt:Ex}{vs:List LV}{f:LV->LV}{ρ:List LV}{σ:LH}{n:Nat}{v:LV}
theorem qr(hit:∀i acc,item? v i (app σ [.list acc])=some (bf vs i))(hb:HB σ)(hf:∀x∈vs,flat (f x)=true)(he:∀m ax x,HB ax->x∈vs->(run P C (m+30)).e elt (x::ρ) ax=.ok (f x) ax):∀k i acc n,acc.all flat=true->i+k=vs.length->acc.length+k<5000->
  (run P C (n+k+40)).comp elt v i (len σ) ρ (app σ [.list acc])=.ok (.ref (len σ)) (app σ [.list (acc++(vs.drop i).map f)])
 |0,i,acc,n,ha,hi,hs=>by
  rw[show n+0+40=(n+39)+1 by walk_at "om",ou,hit,aP,aT,List.getElem?_eq_none (by exact Jl [vs.length,i] 1 (.c 1 J0 (.p J1 0) .z) J0 J1 Jt (Jg hi)),List.drop_of_length_le (by exact Jl [vs.length,i] 1 (.c 1 J0 (.p J1 0) .z) J0 J1 Jt (Jg hi)),List.map_nil,List.append_nil];rfl
 |k+1,i,acc,n,ha,hi,hs=>by
  have eh:i<vs.length:=by exact Jl [i,k,vs.length] 1 (.c 1 (.a J0 (.p J1 1)) J2 .z) (.p J0 1) J2 Jt (Jf hi)
  rw[show n+(k+1)+40=(n+k+40)+1 by exact Nat.le_antisymm (Jl [n,k] 1 .z (.p (.a J0 (.p J1 1)) 40) (.p (.p (.a J0 J1) 40) 1) Jt) (Jl [n,k] 1 .z (.p (.p (.a J0 J1) 40) 1) (.p (.a J0 (.p J1 1)) 40) Jt),ou,hit,aP,aT,List.getElem?_eq_getElem eh,cQ,he (n+k+10) _ _ (hb.flat ha) (List.getElem_mem eh),zf,cA,aP];show bN (small (len acc)) ((run P C (n+k+40)).comp elt v (Nat.add i 1) (len σ) ρ (aW (app σ [.list acc]) (.list (app acc [f vs[i]])) (len σ)))=_;rw[len_eq,aN (by exact Jl [acc.length,k] 1 (.c 1 (.p (.a J0 (.p J1 1)) 1) (.k 5000) .z) (.p J0 1) (.k 1000000) Jt hs),dW,jg,bb acc,List.drop_eq_getElem_cons eh,List.map_cons];have:=qr hit hb hf he k (i+1) (acc++[f vs[i]]) n (by rw[List.all_append,ha,List.all_cons,hf _ (List.getElem_mem eh)];rfl) (by exact Nat.le_antisymm (Jl [i,k,vs.length] 1 (.c 1 (.a J0 (.p J1 1)) J2 .z) (.a (.p J0 1) J1) J2 Jt (Jf hi)) (Jl [vs.length,i,k] 1 (.c 1 J0 (.a J1 (.p J2 1)) .z) J0 (.a (.p J1 1) J2) Jt (Jg hi))) (by rw[List.length_append];show acc.length+1+k<5000;exact Jl [acc.length,k] 1 (.c 1 (.p (.a J0 (.p J1 1)) 1) (.k 5000) .z) (.p (.a (.p J0 1) J1) 1) (.k 5000) Jt hs);rw[List.append_assoc] at this;exact this
theorem qs{it:Ex}(hit:(run P C (n+vs.length+40)).e it ρ []=.ok (.ref 0) [.list vs])(hv:vs.all flat=true)(hl:vs.length<2500)(hf:∀x∈vs,flat (f x)=true)(he:∀m ax x,HB ax->x∈vs->(run P C (m+30)).e elt (x::ρ) ax=.ok (f x) ax):
  (run P C (n+vs.length+42)).e (.ag (.comp elt it)) ρ []=.ok (.ag (vs.map f)) []:=by
 have hb:HB [.list vs]:=HB.flat (σ:=[]) (λo h=>by cases h) hv;have e1:=qr (P:=P) (C:=C) (σ:=[.list vs]) (v:=.ref 0) (ρ:=ρ) (elt:=elt) (λi acc=>rfl) hb hf he vs.length 0 [] n rfl (by exact Nat.le_antisymm (Jl [vs.length] 1 .z (.a (.k 0) J0) J0 Jt) (Jl [vs.length] 1 .z J0 (.a (.k 0) J0) Jt)) (by show 0+_<5000;exact Jl [vs.length] 1 (.c 1 (.p J0 1) (.k 2500) .z) (.p (.a (.k 0) J0) 1) (.k 5000) Jt hl);rw[show n+vs.length+42=(n+vs.length+40)+1+1 by walk_at "om",jV,zk,hit,aw];have e2:(run P C (n+vs.length+40)).comp elt (.ref 0) 0 (len [LO.list vs]) ρ (app [.list vs] [.list []])=_:=e1;rw[e2,aw,List.nil_append,List.drop_zero];show oN (cO (eR (fz [.list vs,.list (vs.map f)] 0 63) (vs.map f)) (λq=>some (LV.ag q)) none) (λv'=>Out.ok v' [])=_;rw[da (vs.map f) (by rw[List.all_map,List.all_eq_true];exact λx hx=>hf x hx)];rfl
end
theorem e7{α:Type}:∀(l:List α)(k:Nat),eZ l k=l.take k
 |[],k=>by cases k<;>rfl
 |a::l,0=>rfl
 |a::l,k+1=>by
  show a::eZ l k=_;rw[e7 l k];rfl
theorem gc{α:Type}:∀(l:List α)(k:Nat),oY l k=l.drop k
 |[],k=>by cases k<;>rfl
 |a::l,0=>rfl
 |a::l,k+1=>gc l k
theorem lN(vs:List LV)(l h:Nat):cut vs l h=(vs.drop l).take (h-l):=by
 show eZ (oY vs l) (Nat.sub h l)=_;rw[e7,gc];rfl
theorem jH(l:List Int):len (aC l)=l.length:=by rw[len_eq];simp[aC]
theorem uq{l:List Int}{a b:Nat}{lo:LV}{σ:LH}(hs:l.length<1000)(h1:qH lo 0 l.length=some (if a<l.length then a else l.length))(S9:a<=b):bA (.ag (aC l)) lo (.int (.ofNat b)) σ=.ok (.ref (len σ)) (app σ [.list (aC ((l.drop a).take (b-a)))]):=by
 show cT (aC l) _ _ σ=_;unfold cT;rw[jH,aN (by walk_at "om"),h1]
 have h2:qH (.int (.ofNat b)) l.length l.length=some (if b<l.length then b else l.length):=by rw[←cC];rfl
 rw[h2,dW,aP,aP,lN]
 have e:((aC l).drop (if a<l.length then a else l.length)).take ((if b<l.length then b else l.length)-(if a<l.length then a else l.length))=aC ((l.drop a).take (b-a)):=by
  unfold aC;rw[←List.map_drop,←List.map_take]
  congr 1
  by_cases h:a<l.length
  ·rw[if_pos h]
   split
   ·rfl
   ·rw[List.take_of_length_le (by rw[List.length_drop];exact Nat.le_refl _),List.take_of_length_le (by rw[List.length_drop];exact Jl [l.length,b,_,a,_] 1 (.c 1 J0 J1 (.c 1 (.a J2 J3) J0 (.c 1 J1 (.a J4 J3) .z))) J2 J4 Jt (Jz (by assumption)) (Jf (Nat.sub_add_cancel (Nat.le_of_lt h))) (Jg (Nat.sub_add_cancel S9)))]
  ·rw[if_neg h,List.drop_of_length_le (Nat.le_refl _),List.drop_of_length_le (by walk_at "om")];simp
 rw[e];rfl
noncomputable def dw(l:List Int):List Nat:=(l.take 24).map lM
theorem mP(l:List Int):(aC l).all flat=true:=by simp[aC,flat]
noncomputable def Rl(f:Int->LV):LV->LV
 |.int i=>f i
 |v=>v
theorem z9{P:dR}{C:Nat->List LV->LH->Out LV}{l:List Int}{ρ:List LV}(hl:l.length<100):(run P C 2998).e (.ag (.comp z8 (.slice (.var 0) .none (.int 24)))) (.ag (aC l)::ρ) []=.ok (.ag (ae (dw l))) []:=by
 have hlen:(aC (l.take 24)).length<=24:=by simp[aC];walk_at "om"
 have h:=qs (P:=P) (C:=C) (elt:=z8) (it:=.slice (.var 0) .none (.int 24)) (vs:=aC (l.take 24)) (f:=Rl λc=>.int (.ofNat (lM c))) (ρ:=.ag (aC l)::ρ) (n:=2956-(aC (l.take 24)).length)
  (by
   rw[show 2956-(aC (l.take 24)).length+(aC (l.take 24)).length+40=2995+1 by exact Nat.le_antisymm (Jl [_,_] 1 (.c 1 (.a J0 J1) (.k 2956) .z) (.p (.a J0 J1) 40) (.p (.k 2995) 1) Jt (Jf (Nat.sub_add_cancel (Jl [_] 1 (.c 1 J0 (.k 24) .z) J0 (.k 2956) Jt hlen)))) (Jl [_,_] 1 (.c 1 (.k 2956) (.a J0 J1) .z) (.p (.k 2995) 1) (.p (.a J0 J1) 40) Jt (Jg (Nat.sub_add_cancel (Jl [_] 1 (.c 1 J0 (.k 24) .z) J0 (.k 2956) Jt hlen)))),oo,iF,fv,aP,eW,aw,GO,aw,jc,aw];have:=uq (l:=l) (a:=0) (b:=24) (lo:=.none) (σ:=[]) (by walk_at "om") (by show some 0=_;congr 1;split<;>walk_at "om") (by walk_at "om");rw[List.drop_zero] at this
   exact this)
  (mP _) (by walk_at "om")
  (λx hx=>by obtain⟨c,_,rfl⟩:=List.mem_map.mp hx;rfl)
  (λm ax x hb hx=>by obtain⟨c,_,rfl⟩:=List.mem_map.mp hx;exact De hb)
 rw[show 2956-(aC (l.take 24)).length+(aC (l.take 24)).length+42=2998 by exact congrArg (·+42) (Nat.sub_add_cancel (Jl [_] 1 (.c 1 J0 (.k 24) .z) J0 (.k 2956) Jt hlen))] at h;rw[h]
 congr 2
 unfold aC dw ae;rw[List.map_map,List.map_map];rfl
section
variable{l:List Int}{d n:Nat}{ρ:List LV}{σ:LH}{C:Nat->List LV->LH->Out LV}
theorem Lx:(run af (deep af (d+1)) (n+2)).e (.new 6 .nil) ρ []=.ok (.ref 0) HL:=by
 kernel_rfl
theorem vQ(l:List Int):(dw l).length<=24:=by unfold dw;simp;walk_at "om"
theorem qt(l:List Int):∀x∈dw l,x<256:=λx h=>by
 obtain⟨c,_,rfl⟩:=List.mem_map.mp h;exact z7 c
theorem vR(D:List Nat)(a st:Nat)(vs:List LV)(τ:LH)(hv:vs.all flat=true):freeze 0 (.ref 2) (HU D a vs st τ)=.ok (.ag vs) []:=by
 show oN (cO (eR (fz (HU D a vs st τ) 0 63) vs) (λq=>some (LV.ag q)) none) (λv'=>Out.ok v' [])=_;rw[da vs hv];rfl
theorem lO(x:List Nat):seq x x=true:=by rw[seq_eq];exact beq_self_eq_true x
theorem ne_self(x y:List Nat):ao .ne (.ag [.str x,.str y]) (.ag [.str x,.str y]) σ=some false:=by
 show jv (cO (some (seq x x)) (λt=>cO (cO (some (seq y y)) (λt=>cO (some true) (λr=>some (cB t r false)) none) none) (λr=>some (cB t r false)) none) none)=_;rw[lO,lO];rfl
noncomputable def O0:Ex:=.cmp (.ag (.call 71 (.cons (.int 1) (.cons (.str [117,97,42]) (.cons (.var 1) (.cons (.new 6 .nil) .nil)))))) .ne (.ag (.call 74 (.cons (.var 1) .nil)))
theorem vS{v:LV}:(run af (deep af (d+15)) 2997).t O0 [v,.ag (ae (dw l))] []=.ok false []:=by
 have hl:=vQ l;have h1:=z6 (d:=d) (D:=dw l) (by walk_at "om") (qt l);have h2:=sm (d:=d+11) (xs:=dw l) (σ:=[]) (by walk_at "om") (qt l) (λo h=>by cases h)
 have a1:(run af (deep af (d+15)) 2996).e (.ag (.call 71 (.cons (.int 1) (.cons (.str [117,97,42]) (.cons (.var 1) (.cons (.new 6 .nil) .nil)))))) [v,.ag (ae (dw l))] []=.ok (.ag (uo (dw l))) []:=by
  have e:(run af (deep af (d+15)) 2994).es (.cons (.int 1) (.cons (.str [117,97,42]) (.cons (.var 1) (.cons (.new 6 .nil) .nil)))) [v,.ag (ae (dw l))] []=.ok [.int (.ofNat 1),.str [117,97,42],.ag (ae (dw l)),.ref 0] HL:=by
   have:=Lx (d:=d+14) (n:=2988) (ρ:=[v,.ag (ae (dw l))]);rw[cw,jc,aw,cw,tY,aw,cw,iF,eu,fv,aP,eW,aw,cw,this];rfl
  rw[jV,lx,e,aw,jd,h1,aw];exact vR _ _ _ _ _ rfl
 have a2:(run af (deep af (d+15)) 2996).e (.ag (.call 74 (.cons (.var 1) .nil))) [v,.ag (ae (dw l))] []=.ok (.ag (uo (dw l))) []:=by
  rw[jV,lx,cw,iF,eu,fv,aP,eW,aw,fu,aw,aw,jd,h2,aw];exact eO (σ:=[]) (λo h=>by cases h) rfl
 unfold O0;rw[t5,a1,aw,a2,aw,ne_self,aP]
theorem jm{f:Nat}{v:LV}{ax:LH}(hg:ah af C f [.ag (aC l)] []=.ok (.bool true) ax):(run af C (n+5)).e (.ag (.call f (.cons (.var 0) .nil))) [.ag (aC l),v] []=.ok (.bool true) []:=by
 rw[jV,lx,cw,iF,fv,aP,eW,aw,fu,aw,aw,jd,hg,aw];exact eO (σ:=[]) (λo h=>by cases h) rfl
theorem Aa(O1:∀l:List Int,l.length<=63->∃σ,ah af (deep af 149) 79 [.ag (aC l)] []=.ok (.bool true) σ)
  (O2:∀l:List Int,l.length<=63->∃σ,ah af (deep af 149) 80 [.ag (aC l)] []=.ok (.bool true) σ)
  (O3:∀l:List Int,l.length<=63->∃σ,ah af (deep af 149) 81 [.ag (aC l)] []=.ok (.bool true) σ)
  (O4:∀l:List Int,l.length<=63->∃σ,ah af (deep af 149) 82 [.ag (aC l)] []=.ok (.bool true) σ) (l:List Int) (hl:l.length<=63):∃σ,ah af (deep af 150) 83 [.ag (l.map .int)] []=.ok (.bool true) σ:=by
 obtain⟨_,O1⟩:=O1 l hl;obtain⟨_,O2⟩:=O2 l hl;obtain⟨_,O3⟩:=O3 l hl;obtain⟨_,O4⟩:=O4 l hl;refine⟨[],?_⟩;rw[show l.map LV.int=aC l from rfl,aq (d:=149) (aU:=[.ag (aC l),.au]) rfl rfl rfl];have hd:=z9 (P:=af) (C:=deep af 149) (ρ:=[.au]) (show l.length<100 by walk_at "om");have hc:=vS (d:=134) (l:=l) (v:=.ag (aC l));have p1:=jm (n:=2990) (v:=.ag (ae (dw l))) O1;have p2:=jm (n:=2989) (v:=.ag (ae (dw l))) O2;have p3:=jm (n:=2988) (v:=.ag (ae (dw l))) O3;have p4:=jm (n:=2988) (v:=.ag (ae (dw l))) O4;show ba ((run af (deep af 149) 3000).ss (.cons (.asg 1 (.ag (.comp z8 (.slice (.var 0) .none (.int 24))))) (.cons (.aV O0 (.cons (.ret (.bool false)) .nil) .nil) (.cons (.ret (.and (.ag (.call 79 (.cons (.var 0) .nil))) (.and (.ag (.call 80 (.cons (.var 0) .nil))) (.and (.ag (.call 81 (.cons (.var 0) .nil))) (.ag (.call 82 (.cons (.var 0) .nil))))))) .nil))) [.ag (aC l),.au] [])=_;rw[bZ,t6,hd,b8,hP,hO,cP,bZ,t7,hc,b8,dO,t8,cP,bZ,mK,mJ,p1,aw,je,aP,dr,mJ,p2,aw,je,aP,dr,mJ,p3,aw,je,aP,dr,p4,b8,c9,ft]
end
set_option compiler.extract_closed false in
set_option compiler.extract_closed false in
section
variable{l:List Int}{d n p:Nat}{ρ:List LV}{σ:LH}{C:Nat->List LV->LH->Out LV}
noncomputable def cell(l:List Int)(p:Nat):Int:=match l[p]?with
 |some i=>Int.fmod i (.ofNat 1000000000)
 |none=>.ofNat (17*p+5)
theorem dG(hl:l.length<1000)(hp:p<1000):ah af (deep af (d+1)) 69 [.ag (aC l),.int (.ofNat p)] σ=.ok (.int (cell l p)) σ:=by
 rw[aq (aU:=[.ag (aC l),.int (.ofNat p)]) rfl rfl rfl];have h1:=jH l;have Ej:small l.length=true:=aN (by walk_at "om");unfold cell;cases e:l[p]?with
 |some i=>
  have eh:=(List.getElem?_eq_some_iff.mp e).1;have h2:Nat.blt p l.length=true:=a6 eh;have h3:∀σ,bH (.ag (aC l)) (.int (.ofNat p)) σ=some (.int i):=λσ=>eM (dC (by exact Jl [p] 1 (.c 1 (.p J0 1) (.k 1000) .z) (.p J0 1) (.k 1000000000000000000) Jt hp)) (by rw[jH];exact h2) (by unfold aC;rw[aT,List.getElem?_map,e];rfl);have h4:∀σ,ay .pow (.int (.ofNat 10)) (.int (.ofNat 9)) σ=.ok (.int (.ofNat 1000000000)) σ:=λ_=>rfl;have h5:∀σ,ay .mod (.int i) (.int (.ofNat 1000000000)) σ=.ok (.int (Int.fmod i (.ofNat 1000000000))) σ:=λ_=>rfl;clear e eh hl hp;unfold M8 M7;walk_at "evk"
 |none=>
  have h2:Nat.blt p l.length=false:=bS (List.getElem?_eq_none_iff.mp e)
  have h3:∀σ,ay .mul (.int (.ofNat 17)) (.int (.ofNat p)) σ=.ok (.int (.ofNat (17*p))) σ:=λσ=>by
   rw[Ew,dC (show p<_ by walk_at "om")];rfl
  clear e hl hp;unfold M8 M7;walk_at "evk"
theorem b9{k:Nat}{c:Int}(hk:Nat.blt 0 k=true):ay .mod (.int c) (.int (.ofNat k)) σ=.ok (.int (.ofNat (Int.fmod c (.ofNat k)).toNat)) σ:=by
 have:=(du c (k:=k) (Nat.le_of_ble_eq_true hk)).1;rw[jf,←this];show bN (Nat.blt 0 k) _=_;rw[hk];rfl
end
def vT(x:av):Bool:=@av.rec (λ_=>Bool) (λ_ _=>false) (λv _=>mY false (λb=>b) v) (λ_ _=>false) (λ_ _=>false) (λ_ _ _=>false) false x
theorem ur{x:av}(h:vT x=true):∃σ,x=.ret (.bool true) σ:=by
 cases x with
 |ret v σ=>cases v with
  |bool b=>cases b with
   |true=>exact⟨σ,rfl⟩
   |false=>cases h
  |_=>cases h
 |_=>cases h
noncomputable def Ly(n:Nat):bB->bB:=λb=>@Nat.rec (λ_=>bB->bB) (λb=>b) (λ_ ih b=>match b with|.cons _ q=>ih q|.nil=>.nil) n b
def dX(k:Nat)(f:Nat->Bool):Bool:=@Nat.rec (λ_=>Bool) true (λm ih=>cB (f m) ih false) k
theorem a9{f:Nat->Bool}:∀{k:Nat},dX k f=true->∀m,m<k->f m=true
 |0,_,m,h=>absurd h (Nat.not_lt_zero m)
 |k+1,e,m,h=>by
  change cB (f k) (dX k f) false=true at e
  cases hf:f k with
  |false=>rw[hf] at e;cases e
  |true=>
   rw[hf] at e
   rcases Nat.lt_succ_iff_lt_or_eq.mp h with q|q
   ·exact a9 e m q
   ·subst q;exact hf
noncomputable def Rm:bB:=Ly 2 Qc
noncomputable def Rn:bB:=Ly 2 Qd
noncomputable def Ro:bB:=Ly 2 Qe
def EH(L:LV)(m n:Nat):Bool:=vT ((run af (deep af 148) 2998).ss Rm [L,.int (.ofNat m),.int (.ofNat n),.au,.au,.au,.au,.au] [])
theorem j80_0{L:LV}:dX 12 (EH L 0)=true:=by kernel_rfl
theorem j80_1{L:LV}:dX 12 (EH L 1)=true:=by kernel_rfl
theorem j80_2{L:LV}:dX 12 (EH L 2)=true:=by kernel_rfl
theorem j80_3{L:LV}:dX 12 (EH L 3)=true:=by kernel_rfl
theorem j80_4{L:LV}:dX 12 (EH L 4)=true:=by kernel_rfl
theorem j80_5{L:LV}:dX 12 (EH L 5)=true:=by kernel_rfl
theorem j80_6{L:LV}:dX 12 (EH L 6)=true:=by kernel_rfl
theorem j80{L:LV}:∀m,m<7->∀n,n<12->EH L m n=true
 |0,_=>a9 j80_0
 |1,_=>a9 j80_1
 |2,_=>a9 j80_2
 |3,_=>a9 j80_3
 |4,_=>a9 j80_4
 |5,_=>a9 j80_5
 |6,_=>a9 j80_6
 |_+7,h=>by walk_at "om"
def Hm(L:LV)(m n:Nat):Bool:=vT ((run af (deep af 148) 2998).ss Rn [L,.int (.ofNat m),.int (.ofNat n),.au,.au,.au,.au,.au] [])
theorem j81_0{L:LV}:dX 6 (Hm L 0)=true:=by kernel_rfl
theorem j81_1{L:LV}:dX 6 (Hm L 1)=true:=by kernel_rfl
theorem j81_2{L:LV}:dX 6 (Hm L 2)=true:=by kernel_rfl
theorem j81_3{L:LV}:dX 6 (Hm L 3)=true:=by kernel_rfl
theorem j81_4{L:LV}:dX 6 (Hm L 4)=true:=by kernel_rfl
theorem j81_5{L:LV}:dX 6 (Hm L 5)=true:=by kernel_rfl
theorem j81{L:LV}:∀m,m<6->∀n,n<6->Hm L m n=true
 |0,_=>a9 j81_0
 |1,_=>a9 j81_1
 |2,_=>a9 j81_2
 |3,_=>a9 j81_3
 |4,_=>a9 j81_4
 |5,_=>a9 j81_5
 |_+6,h=>by walk_at "om"
def blank(k:Nat):LV:=.str ((bf [[32],[9],[10],[13],[12]] k).getD [])
def Ig(L:LV)(m n:Nat):Bool:=vT ((run af (deep af 148) 2998).ss Ro [L,.int (.ofNat (18+m)),blank n,.au,.au] [])
theorem j82_0{L:LV}:dX 5 (Ig L 0)=true:=by kernel_rfl
theorem j82_1{L:LV}:dX 5 (Ig L 1)=true:=by kernel_rfl
theorem j82_2{L:LV}:dX 5 (Ig L 2)=true:=by kernel_rfl
theorem j82_3{L:LV}:dX 5 (Ig L 3)=true:=by kernel_rfl
theorem j82_4{L:LV}:dX 5 (Ig L 4)=true:=by kernel_rfl
theorem j82{L:LV}:∀m,m<5->∀n,n<5->Ig L m n=true
 |0,_=>a9 j82_0
 |1,_=>a9 j82_1
 |2,_=>a9 j82_2
 |3,_=>a9 j82_3
 |4,_=>a9 j82_4
 |_+5,h=>by walk_at "om"
set_option compiler.extract_closed false in
set_option compiler.extract_closed false in
section
variable{l:List Int}{d n p:Nat}{ρ:List LV}{σ:LH}{C:Nat->List LV->LH->Out LV}
theorem Ab{s1 s2:St}{q:bB}{fq jq:List LV}(h1:(run af C 2999).s s1 ρ []=.nx fq [])(h2:(run af C 2998).s s2 fq []=.nx jq [])(h3:vT ((run af C 2998).ss q jq [])=true):∃σ,ba ((run af C 3000).ss (.cons s1 (.cons s2 q)) ρ [])=.ok (.bool true) σ:=by
 obtain⟨σ,h⟩:=ur h3;exact⟨σ,by rw[bZ,h1,cP,bZ,h2,cP,h,ft]⟩
theorem fS(c:Int)(k:Nat)(hk:Nat.blt 0 k=true):(Int.fmod c (.ofNat k)).toNat<k:=(du c (Nat.le_of_ble_eq_true hk)).2
theorem Hn(hl:l.length<=63):∃σ,ah af (deep af 149) 80 [.ag (aC l)] []=.ok (.bool true) σ:=by
 rw[aq (d:=148) (aU:=[.ag (aC l),.au,.au,.au,.au,.au,.au,.au]) rfl rfl rfl];have c4:=λσ=>dG (d:=147) (l:=l) (p:=4) (σ:=σ) (by walk_at "om") (by exact Jl [] 1 .z (.p (.k 4) 1) (.k 1000) Jt);have c5:=λσ=>dG (d:=147) (l:=l) (p:=5) (σ:=σ) (by walk_at "om") (by exact Jl [] 1 .z (.p (.k 5) 1) (.k 1000) Jt);have m4:=λσ=>b9 (σ:=σ) (c:=cell l 4) (k:=7) rfl;have m5:=λσ=>b9 (σ:=σ) (c:=cell l 5) (k:=12) rfl;refine Ab (s1:=.asg 1 (.bin .mod (.call 69 (.cons (.var 0) (.cons (.int 4) .nil))) (.int 7))) (s2:=.asg 2 (.bin .mod (.call 69 (.cons (.var 0) (.cons (.int 5) .nil))) (.int 12))) (q:=Rm) (jq:=[.ag (aC l),.int (.ofNat (Int.fmod (cell l 4) (.ofNat 7)).toNat),.int (.ofNat (Int.fmod (cell l 5) (.ofNat 12)).toNat),.au,.au,.au,.au,.au]) (fq:=[.ag (aC l),.int (.ofNat (Int.fmod (cell l 4) (.ofNat 7)).toNat),.au,.au,.au,.au,.au,.au]) ?_ ?_ ?_
 ·clear hl;walk_at "evk"
 ·clear hl;walk_at "evk"
 ·exact j80 _ (fS _ _ rfl) _ (fS _ _ rfl)
theorem Ho(hl:l.length<=63):∃σ,ah af (deep af 149) 81 [.ag (aC l)] []=.ok (.bool true) σ:=by
 rw[aq (d:=148) (aU:=[.ag (aC l),.au,.au,.au,.au,.au,.au,.au]) rfl rfl rfl];have c4:=λσ=>dG (d:=147) (l:=l) (p:=6) (σ:=σ) (by walk_at "om") (by exact Jl [] 1 .z (.p (.k 6) 1) (.k 1000) Jt);have c5:=λσ=>dG (d:=147) (l:=l) (p:=7) (σ:=σ) (by walk_at "om") (by exact Jl [] 1 .z (.p (.k 7) 1) (.k 1000) Jt);have m4:=λσ=>b9 (σ:=σ) (c:=cell l 6) (k:=6) rfl;have m5:=λσ=>b9 (σ:=σ) (c:=cell l 7) (k:=6) rfl;refine Ab (s1:=.asg 1 (.bin .mod (.call 69 (.cons (.var 0) (.cons (.int 6) .nil))) (.int 6))) (s2:=.asg 2 (.bin .mod (.call 69 (.cons (.var 0) (.cons (.int 7) .nil))) (.int 6))) (q:=Rn) (jq:=[.ag (aC l),.int (.ofNat (Int.fmod (cell l 6) (.ofNat 6)).toNat),.int (.ofNat (Int.fmod (cell l 7) (.ofNat 6)).toNat),.au,.au,.au,.au,.au]) (fq:=[.ag (aC l),.int (.ofNat (Int.fmod (cell l 6) (.ofNat 6)).toNat),.au,.au,.au,.au,.au,.au]) ?_ ?_ ?_
 ·clear hl;walk_at "evk"
 ·clear hl;walk_at "evk"
 ·exact j81 _ (fS _ _ rfl) _ (fS _ _ rfl)
theorem vU:∀k,k<5->∀σ,bH (.str [32,9,10,13,12]) (.int (.ofNat k)) σ=some (blank k)
 |0,_,_|1,_,_|2,_,_|3,_,_|4,_,_=>rfl
 |_+5,h,_=>by exact Jx [_] (.c 1 (.p (.p J0 5) 1) (.k 5) .z) Jt h
theorem Hp(hl:l.length<=63):∃σ,ah af (deep af 149) 82 [.ag (aC l)] []=.ok (.bool true) σ:=by
 rw[aq (d:=148) (aU:=[.ag (aC l),.au,.au,.au,.au]) rfl rfl rfl];have c4:=λσ=>dG (d:=147) (l:=l) (p:=8) (σ:=σ) (by walk_at "om") (by exact Jl [] 1 .z (.p (.k 8) 1) (.k 1000) Jt);have c5:=λσ=>dG (d:=147) (l:=l) (p:=9) (σ:=σ) (by walk_at "om") (by exact Jl [] 1 .z (.p (.k 9) 1) (.k 1000) Jt);have m4:=λσ=>b9 (σ:=σ) (c:=cell l 8) (k:=5) rfl;have m5:=λσ=>b9 (σ:=σ) (c:=cell l 9) (k:=5) rfl;have m6:=vU _ (fS (cell l 9) 5 rfl);have m7:∀a σ,ay .add (.int (.ofNat 18)) (.int (.ofNat a)) σ=.ok (.int (.ofNat (18+a))) σ:=λ_ _=>rfl;refine Ab (s1:=.asg 1 (.bin .add (.int 18) (.bin .mod (.call 69 (.cons (.var 0) (.cons (.int 8) .nil))) (.int 5)))) (s2:=.asg 2 (.sub (.str [32,9,10,13,12]) (.bin .mod (.call 69 (.cons (.var 0) (.cons (.int 9) .nil))) (.int 5)))) (q:=Ro) (jq:=[.ag (aC l),.int (.ofNat (18+(Int.fmod (cell l 8) (.ofNat 5)).toNat)),blank (Int.fmod (cell l 9) (.ofNat 5)).toNat,.au,.au]) (fq:=[.ag (aC l),.int (.ofNat (18+(Int.fmod (cell l 8) (.ofNat 5)).toNat)),.au,.au,.au]) ?_ ?_ ?_
 ·clear hl m6;walk_at "evk"
 ·clear hl;walk_at "evk"
 ·exact j82 _ (fS _ _ rfl) _ (fS _ _ rfl)
end
set_option compiler.extract_closed false in
set_option compiler.extract_closed false in
noncomputable def HV(D:List Nat)(a:Nat)(fs ss:List LV)(st:Nat)(τ:LH):LH:=.inst 6 [.int (.ofNat 64),.int (.ofNat 50),.int (.ofNat 1000000),.int (.ofNat 100000),.int (.ofNat 10000)]::.inst 5 [.ag (ae D),.int (.ofNat a),.ref 2,.ref 3,.ref 0,.int (.ofNat st)]::.list fs::.list ss::τ
section
variable{D:List Nat}{a st d n m:Nat}{fs ss:List LV}{v:LV}{τ σ:LH}
theorem EI(hf:fs.all flat=true)(hs:ss.all flat=true)(dQ:∀o∈τ,aZ (len τ+4) o=true):HB (HV D a fs ss st τ):=λo ho=>by
 have e:len (HV D a fs ss st τ)=len τ+4:=rfl;rw[e];unfold HV at ho;simp only[List.mem_cons] at ho
 rcases ho with rfl|rfl|rfl|rfl|ho
 ·exact bD [.int (.ofNat 64),.int (.ofNat 50),.int (.ofNat 1000000),.int (.ofNat 100000),.int (.ofNat 10000)] rfl
 ·show band true (band true (band (Nat.blt 2 (len τ+4)) (band (Nat.blt 3 (len τ+4)) (band (Nat.blt 0 (len τ+4)) true))))=true;rw[a6 (show 2<len τ+4 by exact Jl [_] 1 .z (.p (.k 2) 1) (.p J0 4) Jt),a6 (show 3<len τ+4 by exact Jl [_] 1 .z (.p (.k 3) 1) (.p J0 4) Jt),a6 (show 0<len τ+4 by walk_at "om")];rfl
 ·exact bD fs hf
 ·exact bD ss hs
 ·exact dQ o ho
theorem uu:bj 5 0 (.ref 1) (HV D a fs ss st τ)=some (.ag (ae D)):=rfl
theorem uv:bj 5 1 (.ref 1) (HV D a fs ss st τ)=some (.int (.ofNat a)):=rfl
theorem jn:bj 5 2 (.ref 1) (HV D a fs ss st τ)=some (.ref 2):=rfl
theorem mQ:bj 5 3 (.ref 1) (HV D a fs ss st τ)=some (.ref 3):=rfl
theorem oJ:bj 5 4 (.ref 1) (HV D a fs ss st τ)=some (.ref 0):=rfl
theorem qu:bj 5 5 (.ref 1) (HV D a fs ss st τ)=some (.int (.ofNat st)):=rfl
theorem Ac:bj 6 4 (.ref 0) (HV D a fs ss st τ)=some (.int (.ofNat 10000)):=rfl
theorem Ad:bj 6 0 (.ref 0) (HV D a fs ss st τ)=some (.int (.ofNat 64)):=rfl
theorem vV:bj 6 2 (.ref 0) (HV D a fs ss st τ)=some (.int (.ofNat 1000000)):=rfl
theorem Hq{b:Nat}:bO 5 1 (.ref 1) (.int (.ofNat b)) (HV D a fs ss st τ)=some (HV D b fs ss st τ):=rfl
theorem Df{b:Nat}:bO 5 5 (.ref 1) (.int (.ofNat b)) (HV D a fs ss st τ)=some (HV D a fs ss b τ):=rfl
theorem so(h:small (len fs)=true):e6 .len [.ref 2] (HV D a fs ss st τ)=.ok (.int (.ofNat (len fs))) (HV D a fs ss st τ):=by
 show bN (small (len fs)) _=_;rw[h];rfl
theorem Hr(h:small (len fs)=true):jZ .append (.ref 2) [v] (HV D a fs ss st τ)=.ok .none (HV D a (app fs [v]) ss st τ):=by
 show bN (small (len fs)) _=_;rw[h];rfl
theorem Lz:j0 .append (.ref 2) (HV D a fs ss st τ)=true:=rfl
theorem LA(h:len fs<1000)(hv:cv (HV D a fs ss st τ) v=.ok v (HV D a fs ss st τ)):ah af (deep af (d+1)) 33 [.ref 1,v] (HV D a fs ss st τ)=.ok .none (HV D a (app fs [v]) ss st τ):=by
 rw[aq (aU:=[.ref 1,v]) rfl rfl rfl];have h1:=so (D:=D) (a:=a) (st:=st) (ss:=ss) (τ:=τ) (aN (show len fs<1000000 by walk_at "om"));have h2:=Hr (D:=D) (a:=a) (st:=st) (ss:=ss) (τ:=τ) (v:=v) (aN (show len fs<1000000 by walk_at "om"));have h3:=@jn D a st fs ss τ;have h4:=@oJ D a st fs ss τ;have h5:=@Ac D a st fs ss τ;have h6:=@Lz D a st fs ss τ;have h7:Nat.blt (len fs) 10000=true:=a6 (by walk_at "om");clear h;refine(?_:ba ((run af (deep af d) 3000).ss JF _ _)=_);unfold JF;walk_at "evk"
 all_goals exact hv
theorem sq(h:st<10000):ah af (deep af (d+1)) 34 [.ref 1] (HV D a fs ss st τ)=.ok .none (HV D a fs ss (st+1) τ):=by
 rw[aq (aU:=[.ref 1]) rfl rfl rfl];have h1:=@qu D a st fs ss τ;have Ej:=@qu D a (Nat.add st 1) fs ss τ;have h2:=@Df D a st fs ss τ (Nat.add st 1);have h4:=@oJ D a (Nat.add st 1) fs ss τ;have h5:=@vV D a (Nat.add st 1) fs ss τ;have h7:Nat.blt 1000000 (Nat.add st 1)=false:=bS (by show st+1<=_;exact Jl [st] 1 (.c 1 (.p J0 1) (.k 10000) .z) (.p J0 1) (.k 1000000) Jt h);clear h;unfold M3 M1;walk_at "evk"
theorem Dg(hl:D.length<1000)(ha:a<=D.length):ah af (deep af (d+1)) 32 [.ref 1] (HV D a fs ss st τ)=.ok (.int (.ofNat (D.length-a))) (HV D a fs ss st τ):=by
 rw[aq (aU:=[.ref 1]) rfl rfl rfl];have h1:=@uu D a st fs ss τ;have h2:=@uv D a st fs ss τ
 have h3:small (len (ae D))=true:=by rw[az];exact aN (by walk_at "om")
 have h4:=az D
 have h5:∀σ,ay .sub (.int (.ofNat D.length)) (.int (.ofNat a)) σ=.ok (.int (.ofNat (D.length-a))) σ:=λσ=>by rw[qe,lE ha]
 rw[h4] at h3;clear hl ha;unfold M0 MZ;walk_at "evk"
theorem oK{o:LO}:app (HV D a fs ss st τ) [o]=HV D a fs ss st (app τ [o]):=rfl
theorem Hs(hl:D.length<1000):ah af (deep af (d+1)) 36 [.ref 1,.int (.ofNat m)] (HV D a fs ss st τ)=
  .ok (.ref (len (HV D a fs ss st τ))) (HV D (a+((D.drop a).take m).length) fs ss st (app τ [.list (ae ((D.drop a).take m))])):=by
 rw[aq (aU:=[.ref 1,.int (.ofNat m),.au]) rfl rfl rfl];have h1:=@uu D a st fs ss τ;have h2:=@uv D a st fs ss τ;have h3:=λσ=>qp (xs:=D) (a:=a) (m:=m) (σ:=σ) hl;have h4:=lF (σ:=HV D a fs ss st τ) (ws:=ae ((D.drop a).take m)) (aN (by rw[az,List.length_take,List.length_drop];exact Jl [D.length,_,_] 1 (.c 1 (.p J0 1) (.k 1000) (.c 1 J1 J0 (.c 1 J2 J1 .z))) (.p J2 1) (.k 1000000) Jt hl (Nat.sub_le _ _) (Nat.min_le_right _ _)));rw[az] at h4;have h5:=@uv D a st fs ss (app τ [.list (ae ((D.drop a).take m))]);have h6:=@Hq D a st fs ss (app τ [.list (ae ((D.drop a).take m))]) (Nat.add a ((D.drop a).take m).length);rw[←oK] at h5 h6;clear hl;unfold M6 M5;walk_at "evk"
 all_goals rfl
theorem Rq{P:dR}{C:Nat->List LV->LH->Out LV}{ρ:List LV}{o:Ex}:(run P C (n+1)).e (.rev o) ρ σ=oB ((run P C n).e o ρ σ) λx σ=>oN (listOf? x σ) λvs=>bN (small (len vs)) (alloc σ (.list (rev vs))):=rfl
theorem LB{P:dR}{C:Nat->List LV->LH->Out LV}{ρ:List LV}{o:jo}{a b:Ex}:(run P C (n+1)).t (.bin o a b) ρ σ=oB ((run P C n).e (.bin o a b) ρ σ) λv σ=>oN (truth v) λb=>.ok b σ:=rfl
noncomputable def sg(s:Bool)(x:Nat):Int:=if s=true/\127<x then(x:Int)-256 else x
theorem Rr{P:dR}{C:Nat->List LV->LH->Out LV}{b:bB}{ρ:List LV}{x:LV}{k:Nat}:(run P C (n+2)).cj [k] (.ag [x]) 0 b ρ σ=turn ((run P C (n+1)).ss b (aW ρ x k) σ) λρ σ=>.nx ρ σ:=rfl
theorem Ta{s:Bool}{x:Nat}(hx:x<256)(hb:HB σ):ah af (deep af (d+1)) 7 [.ag [.int (.ofNat x)],.bool false,.bool s] σ=.ok (.int (sg s x)) σ:=by
 rw[aq (aU:=[.ag [.int (.ofNat x)],.bool false,.bool s,.au,.au,.au]) rfl rfl rfl];have h1:=aO (vs:=[.int (.ofNat x)]) hb rfl;have h2:=aO (vs:=[]) hb rfl;have r2:∀σ,listOf? (.ag [.int (.ofNat x)]) σ=some [.int (.ofNat x)]:=λ_=>rfl;have r3:small (len [LV.int (.ofNat x)])=true:=rfl;have r4:small (len ([]:List LV))=true:=rfl;have r5:rev [LV.int (.ofNat x)]=[LV.int (.ofNat x)]:=rfl;have h5:∀σ,ay .mul (.int (.ofNat 0)) (.int (.ofNat 256)) σ=.ok (.int (.ofNat 0)) σ:=λ_=>rfl
 have h6:∀σ,ay .add (.int (.ofNat 0)) (.int (.ofNat x)) σ=.ok (.int (.ofNat x)) σ:=λσ=>by rw[Lg,show Nat.add 0 x=x from Nat.zero_add x]
 have h7:∀σ,ao .ne (.ag [.int (.ofNat x)]) (.ag []) σ=some true:=λ_=>rfl;have h8:∀σ,bH (.ag [.int (.ofNat x)]) (.int (.ofNat 0)) σ=some (.int (.ofNat x)):=λ_=>rfl;have h9:∀σ,e6 .len [.ag [.int (.ofNat x)]] σ=.ok (.int (.ofNat 1)) σ:=λ_=>rfl;have D7:∀σ,ay .mul (.int (.ofNat 8)) (.int (.ofNat 1)) σ=.ok (.int (.ofNat 8)) σ:=λ_=>rfl;have S3:∀σ,ay .shl (.int (.ofNat 1)) (.int (.ofNat 8)) σ=.ok (.int (.ofNat 256)) σ:=λ_=>rfl;refine(?_:ba ((run af (deep af d) 3000).ss b7 _ _)=_)
 cases s with
 |false=>
  have e:sg false x=.ofNat x:=rfl;rw[e];clear hx hb e;unfold b7;walk_at "evk"
 |true=>
  by_cases q:127<x
  ·have e:sg true x=(x:Int)-256:=if_pos ⟨rfl,q⟩;have Tb:Nat.blt 127 x=true:=a6 q;clear hx hb q;unfold b7;walk_at "evk";rw[e];rfl
  ·have e:sg true x=.ofNat x:=if_neg λh=>q h.2;have Tb:Nat.blt 127 x=false:=bS (by walk_at "om");rw[e];clear hx hb e q;unfold b7;walk_at "evk"
theorem Tc{s:Bool}{x:Nat}(hx:x<256):ah af (deep af (d+1)) 0 [.int (sg s x),.int (.ofNat 64)] σ=.ok (.int (sg s x)) σ:=by
 rw[aq (aU:=[.int (sg s x),.int (.ofNat 64)]) rfl rfl rfl];have h1:∀σ,ay .shl (.int (.ofNat 1)) (.int (.ofNat 64)) σ=.ok (.int (.ofNat 18446744073709551616)) σ:=λ_=>rfl;have h2:∀σ,ay .sub (.int (.ofNat 64)) (.int (.ofNat 1)) σ=.ok (.int (.ofNat 63)) σ:=λ_=>rfl;have t1:=@LB;by_cases q:s=true/\127<x
 ·have e:sg s x=(x:Int)-256:=if_pos q
  have h3:∀σ,dh .mod (.int (sg s x)) (.int (.ofNat 18446744073709551616)) σ=.ok (.int (.ofNat (18446744073709551360+x))) σ:=λσ=>by
   rw[e];show Out.ok (LV.int (Int.fmod ((x:Int)-256) 18446744073709551616)) σ=_;rw[Int.fmod_eq_emod_of_nonneg _ (by decide),show Int.ofNat (18446744073709551360+x)=18446744073709551360+(x:Int) from rfl]
   congr 2
   walk_at "om"
  have h4:∀σ,ay .shr (.int (.ofNat (18446744073709551360+x))) (.int (.ofNat 63)) σ=.ok (.int (.ofNat 1)) σ:=λσ=>by
   rw[Ey];show Out.ok (LV.int (.ofNat ((18446744073709551360+x)/9223372036854775808))) σ=_;rw[show(18446744073709551360+x)/9223372036854775808=1 by exact Nat.le_antisymm (Jl [x,_] 9223372036854775808 (.c 1 (.p J0 1) (.k 256) (.c 1 (.m 9223372036854775808 J1) (.a (.k 18446744073709551360) J0) .z)) J1 (.k 1) Jt hx (Jd _ _)) (Jl [x,_] 9223372036854775808 (.c 1 (.p (.a (.k 18446744073709551360) J0) 1) (.p (.m 9223372036854775808 J1) 9223372036854775808) .z) (.k 1) J1 Jt (Je _ _ (Nat.succ_pos _)))]
  have h5:truth (.int (.ofNat 1))=some true:=rfl
  have h6:∀σ,dh .sub (.int (.ofNat (18446744073709551360+x))) (.int (.ofNat 18446744073709551616)) σ=.ok (.int (sg s x)) σ:=λσ=>by
   rw[e];show Out.ok (LV.int (Int.ofNat (18446744073709551360+x)-18446744073709551616)) σ=_;rw[show Int.ofNat (18446744073709551360+x)=18446744073709551360+(x:Int) from rfl]
   congr 2
   walk_at "om"
  clear e q hx;unfold f0 b0;walk_at "evk"
 ·have e:sg s x=.ofNat x:=if_neg q
  have h3:∀σ,dh .mod (.int (.ofNat x)) (.int (.ofNat 18446744073709551616)) σ=.ok (.int (.ofNat x)) σ:=λσ=>by
   show Out.ok (LV.int (Int.fmod (x:Int) 18446744073709551616)) σ=_;rw[Int.fmod_eq_emod_of_nonneg _ (by decide),show Int.ofNat x=(x:Int) from rfl]
   congr 2
   walk_at "om"
  have h4:∀σ,ay .shr (.int (.ofNat x)) (.int (.ofNat 63)) σ=.ok (.int (.ofNat 0)) σ:=λσ=>by
   rw[Ey];show Out.ok (LV.int (.ofNat (x/9223372036854775808))) σ=_;rw[show x/9223372036854775808=0 by exact Nat.le_antisymm (Jl [x,_] 9223372036854775808 (.c 1 (.p J0 1) (.k 256) (.c 1 (.m 9223372036854775808 J1) J0 .z)) J1 (.k 0) Jt hx (Jd _ _)) (Jl [_] 1 .z (.k 0) J0 Jt)]
  have h5:truth (.int (.ofNat 0))=some false:=rfl;rw[e];clear e q hx;unfold f0 b0;walk_at "evk"
end
set_option compiler.extract_closed false in
set_option compiler.extract_closed false in
noncomputable def fW(s:Bool)(xs:List Nat):List LV:=xs.map λx=>.int (sg s x)
noncomputable def cF(c:Nat)(k:Int):LV:=.tup [.str [c],.str [],.bool false,.int k,.none]
noncomputable def Ih:bB:=(.cons (.expr (.call 34 (.cons (.var 0) .nil))) (.cons (.asg 9 (.ag (.call 36 (.cons (.var 0) (.cons (.var 7) .nil))))) (.cons (.asg 10 (.call 7 (.cons (.var 9) (.cons (.call 17 (.cons (.var 2) (.cons (.var 3) .nil))) (.cons (.call 16 (.cons (.var 2) (.cons (.var 4) .nil))) .nil))))) (.cons (.expr (.call 33 (.cons (.var 0) (.cons (.call 0 (.cons (.var 10) (.cons (.attr 6 0 (.attr 5 4 (.var 0))) .nil))) .nil)))) .nil))))
section
variable{D:List Nat}{a st d n m c:Nat}{fs ss:List LV}{v:LV}{τ σ:LH}{s:Bool}
noncomputable def LS(c:Nat)(s:Bool):Prop:=c=99/\s=true∨c=67/\s=false
theorem O5(h:LS c s):ah af (deep af (d+1)) 17 [.str [c],.str []] σ=.ok (.bool false) σ:=by rcases h with⟨rfl,_⟩|⟨rfl,_⟩<;>rfl
theorem O6(h:LS c s):ah af (deep af (d+1)) 16 [.str [c],.bool false] σ=.ok (.bool s) σ:=by rcases h with⟨rfl,rfl⟩|⟨rfl,rfl⟩<;>rfl
theorem O7(h:LS c s):ah af (deep af (d+1)) 15 [.str [c],.bool false] σ=.ok (.int (.ofNat 1)) σ:=by rcases h with⟨rfl,_⟩|⟨rfl,_⟩<;>rfl
theorem Ht:len (HV D a fs ss st τ)=len τ+4:=rfl
theorem Hu{it k x8 x9 x10:LV}{i x:Nat}(hc:LS c s)(hl:D.length<1000)(hD:∀x∈D,x<256)(hx:D[a]?=some x)(hf:fs.all flat=true)(hs:ss.all flat=true)(dQ:∀o∈τ,aZ (len τ+4) o=true)(hn:len fs<1000)(ht:st<10000):
  (run af (deep af (d+2)) (n+30)).ss Ih [.ref 1,it,.str [c],.str [],.bool false,k,.none,.int (.ofNat 1),x8,x9,x10] (HV D a fs ss st τ)=
  .nx [.ref 1,it,.str [c],.str [],.bool false,k,.none,.int (.ofNat 1),x8,.ag [.int (.ofNat x)],.int (sg s x)] (HV D (a+1) (app fs [.int (sg s x)]) ss (st+1) τ):=by
 have eh:=(List.getElem?_eq_some_iff.mp hx).1;have BB:D[a]=x:=(List.getElem?_eq_some_iff.mp hx).2;have O8:x<256:=hD x (BB▸List.getElem_mem eh)
 have e1:(D.drop a).take 1=[x]:=by rw[List.drop_eq_getElem_cons eh,BB];rfl
 have Rt:=sq (d:=d+1) (D:=D) (a:=a) (st:=st) (fs:=fs) (ss:=ss) (τ:=τ) ht;have Td:=Hs (d:=d+1) (D:=D) (a:=a) (st:=st+1) (fs:=fs) (ss:=ss) (τ:=τ) (m:=1) hl;rw[e1] at Td;have hb:HB (HV D (a+1) fs ss (st+1) τ):=EI hf hs dQ
 have T6:freeze (len (HV D a fs ss (st+1) τ)) (.ref (len (HV D a fs ss (st+1) τ))) (HV D (a+[x].length) fs ss (st+1) (app τ [.list (ae [x])]))=.ok (.ag [.int (.ofNat x)]) (HV D (a+1) fs ss (st+1) τ):=by
  have q:=aO (vs:=ae [x]) hb (aI _);rw[Ht] at q⊢;exact q
 have h7:=Ta (d:=d+1) (s:=s) O8 hb;have T7:=λσ=>O5 (d:=d+1) (σ:=σ) hc;have T8:=λσ=>O6 (d:=d+1) (σ:=σ) hc;have h0:=λσ=>Tc (d:=d+1) (σ:=σ) (s:=s) O8;have T9:=LA (d:=d+1) (D:=D) (a:=a+1) (st:=st+1) (fs:=fs) (ss:=ss) (τ:=τ) (v:=.int (sg s x)) hn rfl;have g1:=@oJ D (a+1) (st+1) fs ss τ;have g2:=@Ad D (a+1) (st+1) fs ss τ;clear hc hl hD hx hf hs dQ hn ht eh BB O8 e1 hb;unfold Ih;walk_at "evk"
theorem Ae{it k:LV}(hc:LS c s)(hl:D.length<1000)(hD:∀x∈D,x<256)(hs:ss.all flat=true)(dQ:∀o∈τ,aZ (len τ+4) o=true):∀m a fs st i x8 x9 x10,a+m<=D.length->fs.all flat=true->len fs+m<1000->st+m<10000->
  ∃y8 y9 Mz,(run af (deep af (d+2)) (n+m+70)).forr 8 i (i+m) Ih [.ref 1,it,.str [c],.str [],.bool false,k,.none,.int (.ofNat 1),x8,x9,x10] (HV D a fs ss st τ)=
  .nx [.ref 1,it,.str [c],.str [],.bool false,k,.none,.int (.ofNat 1),y8,y9,Mz] (HV D (a+m) (fs++fW s ((D.drop a).take m)) ss (st+m) τ)
 |0,a,fs,st,i,x8,x9,x10,_,_,_,_=>⟨x8,x9,x10,by
  rw[show n+0+70=(n+69)+1 by walk_at "om",jG,show Nat.blt i (i+0)=false from bS (Nat.le_refl _),List.take_zero,show fW s []=[] from rfl,List.append_nil];rfl⟩
 |m+1,a,fs,st,i,x8,x9,x10,ha,hf,hn,ht=>by
  have eh:a<D.length:=by exact Jl [a,m,D.length] 1 (.c 1 (.a J0 (.p J1 1)) J2 .z) (.p J0 1) J2 Jt ha
  have h1:=Hu (n:=n+m+40) (d:=d) (it:=it) (k:=k) (x8:=.int (.ofNat i)) (x9:=x9) (x10:=x10) (a:=a) (st:=st) (i:=i) hc hl hD (List.getElem?_eq_getElem eh) hf hs dQ (by exact Jl [_,m] 1 (.c 1 (.p (.a J0 (.p J1 1)) 1) (.k 1000) .z) (.p J0 1) (.k 1000) Jt hn) (by exact Jl [st,m] 1 (.c 1 (.p (.a J0 (.p J1 1)) 1) (.k 10000) .z) (.p J0 1) (.k 10000) Jt ht);obtain⟨y8,y9,Mz,h2⟩:=Ae (it:=it) (k:=k) hc hl hD hs dQ m (a+1) (fs++[.int (sg s D[a])]) (st+1) (i+1) (.int (.ofNat i)) (.ag [.int (.ofNat D[a])]) (.int (sg s D[a])) (by exact Jl [a,m,D.length] 1 (.c 1 (.a J0 (.p J1 1)) J2 .z) (.a (.p J0 1) J1) J2 Jt ha) (by rw[List.all_append,hf];rfl) (by rw[len_eq] at hn⊢;rw[List.length_append];show fs.length+1+m<1000;exact Jl [fs.length,m] 1 (.c 1 (.p (.a J0 (.p J1 1)) 1) (.k 1000) .z) (.p (.a (.p J0 1) J1) 1) (.k 1000) Jt hn) (by exact Jl [st,m] 1 (.c 1 (.p (.a J0 (.p J1 1)) 1) (.k 10000) .z) (.p (.a (.p J0 1) J1) 1) (.k 10000) Jt ht);refine⟨y8,y9,Mz,?_⟩;rw[show n+(m+1)+70=(n+m+70)+1 by exact Nat.le_antisymm (Jl [n,m] 1 .z (.p (.a J0 (.p J1 1)) 70) (.p (.p (.a J0 J1) 70) 1) Jt) (Jl [n,m] 1 .z (.p (.p (.a J0 J1) 70) 1) (.p (.a J0 (.p J1 1)) 70) Jt),jG,a6 (show i<i+(m+1) by walk_at "om"),dr];show turn ((run af (deep af (d+2)) (n+m+40+30)).ss Ih [.ref 1,it,.str [c],.str [],.bool false,k,.none,.int (.ofNat 1),.int (.ofNat i),x9,x10] (HV D a fs ss st τ)) _=_;rw[h1,bY,bb,show i+(m+1)=i+1+m by exact Nat.le_antisymm (Jl [i,m] 1 .z (.a J0 (.p J1 1)) (.a (.p J0 1) J1) Jt) (Jl [i,m] 1 .z (.a (.p J0 1) J1) (.a J0 (.p J1 1)) Jt)];show(run af (deep af (d+2)) (n+m+70)).forr 8 (i+1) (i+1+m) Ih _ _=_;rw[h2,List.append_assoc,List.drop_eq_getElem_cons eh,List.take_succ_cons,show a+1+m=a+(m+1) by exact Nat.le_antisymm (Jl [a,m] 1 .z (.a (.p J0 1) J1) (.a J0 (.p J1 1)) Jt) (Jl [a,m] 1 .z (.a J0 (.p J1 1)) (.a (.p J0 1) J1) Jt),show st+1+m=st+(m+1) by exact Nat.le_antisymm (Jl [st,m] 1 .z (.a (.p J0 1) J1) (.a J0 (.p J1 1)) Jt) (Jl [st,m] 1 .z (.a J0 (.p J1 1)) (.a (.p J0 1) J1) Jt)];rfl
noncomputable def eD(k:Int)(most:Nat):Nat:=if k=-2 then min 1 most else min k.toNat most
theorem Af{k:Int}(hk:k=-2∨0<=k):ah af (deep af (d+1)) 35 [cF c k,.int (.ofNat m)] σ=.ok (.int (.ofNat (eD k m))) σ:=by
 rw[aq (aU:=[cF c k,.int (.ofNat m)]) rfl rfl rfl];have h0:∀σ,cv σ (cF c k)=.ok (cF c k) σ:=λ_=>rfl;have h1:∀σ,bH (cF c k) (.int (.ofNat 3)) σ=some (.int k):=λ_=>rfl
 have mn:∀a b:Nat,∀σ,e6 .min [.int (.ofNat a),.int (.ofNat b)] σ=.ok (.int (.ofNat (min a b))) σ:=λa b σ=>by
  show Out.ok (LV.int (cB (kj (.ofNat b) (.ofNat a)) (.ofNat b) (.ofNat a))) σ=_;rw[ow];by_cases q:b<a
  ·rw[a6 q,show min a b=b by walk_at "om"];rfl
  ·rw[bS (by walk_at "om"),show min a b=a by walk_at "om"];rfl
 rcases hk with rfl|hk
 ·have e:eD (-2) m=min 1 m:=if_pos rfl
  have h2:ba ((run af (deep af d) 3000).ss P2.body [cF c (-2),.int (.ofNat m)] σ)=.ok (.int (cB (kj (.ofNat m) (.ofNat 1)) (.ofNat m) (.ofNat 1))) σ:=by kernel_rfl
  have h3:e6 .min [.int (.ofNat 1),.int (.ofNat m)] σ=.ok (.int (cB (kj (.ofNat m) (.ofNat 1)) (.ofNat m) (.ofNat 1))) σ:=rfl;rw[e,h2,←h3,mn]
 ·obtain⟨j,rfl⟩:=Int.eq_ofNat_of_zero_le hk;have e:eD (.ofNat j) m=min j m:=if_neg (by intro h;have:(j:Int)=-2:=h;walk_at "om");have h2:oZ (.ofNat j) (-.ofNat 1)=false:=rfl;have h3:oZ (.ofNat j) (-.ofNat 2)=false:=rfl;rw[show((j:Nat):Int)=Int.ofNat j from rfl,e];clear e hk;change∀σ,cv σ (cF c (.ofNat j))=.ok (cF c (.ofNat j)) σ at h0;change∀σ,bH (cF c (.ofNat j)) (.int (.ofNat 3)) σ=some (.int (.ofNat j)) at h1;replace mn:=mn j m;have h4:∀σ:LH,ao .eq (.int (.ofNat j)) (.int (-.ofNat 1)) σ=some false:=λ_=>rfl;have h5:∀σ:LH,ao .eq (.int (.ofNat j)) (.int (-.ofNat 2)) σ=some false:=λ_=>rfl;refine(?_:ba ((run af (deep af d) 3000).ss M4 _ _)=_);unfold M4;walk_at "evk"
end
set_option compiler.extract_closed false in
set_option compiler.extract_closed false in
section
variable{D:List Nat}{a st d n m c:Nat}{fs ss:List LV}{v:LV}{τ σ:LH}{s:Bool}{k:Int}
theorem Dh(k:Int)(m:Nat):eD k m<=m:=by unfold eD;split<;>walk_at "om"
theorem Ag(c:Nat)(k:Int)(σ:LH):itemsOf (cF c k) σ=some [.str [c],.str [],.bool false,.int k,.none]:=rfl
theorem O9(hc:LS c s)(hk:k=-2∨0<=k)(hl:D.length<900)(hD:∀x∈D,x<256)(ha:a<=D.length)(hf:fs.all flat=true)(hs:ss.all flat=true)(dQ:∀o∈τ,aZ (len τ+4) o=true)(hn:len fs+D.length<1000)(ht:st+D.length<10000):
  ah af (deep af (d+3)) 39 [.ref 1,cF c k] (HV D a fs ss st τ)=.ok .none (HV D (a+eD k (D.length-a)) (fs++fW s ((D.drop a).take (eD k (D.length-a)))) ss (st+eD k (D.length-a)) τ):=by
 rw[aq (aU:=[.ref 1,cF c k,.au,.au,.au,.au,.au,.au,.au,.au,.au]) rfl rfl rfl];have hr:=Dh k (D.length-a);have Te:=λσ=>Af (d:=d+1) (c:=c) (m:=D.length-a) (σ:=σ) hk;generalize eD k (D.length-a)=r at hr Te⊢;obtain⟨y8,y9,Mz,hw⟩:=Ae (it:=cF c k) (k:=.int k) (n:=2926-r) (d:=d) (ss:=ss) (τ:=τ) hc (show D.length<1000 by walk_at "om") hD hs dQ r a fs st 0 .au .au .au (by exact Jl [r,_,a,D.length] 1 (.c 1 J0 J1 (.c 1 (.a J1 J2) J3 .z)) (.a J2 J0) J3 Jt hr (Jf (Nat.sub_add_cancel ha))) hf (by exact Jl [_,D.length,r,_,a] 1 (.c 1 (.p (.a J0 J1) 1) (.k 1000) (.c 1 J2 J3 (.c 1 (.a J3 J4) J1 .z))) (.p (.a J0 J2) 1) (.k 1000) Jt hn hr (Jf (Nat.sub_add_cancel ha))) (by exact Jl [st,D.length,r,_,a] 1 (.c 1 (.p (.a J0 J1) 1) (.k 10000) (.c 1 J2 J3 (.c 1 (.a J3 J4) J1 .z))) (.p (.a J0 J2) 1) (.k 10000) Jt ht hr (Jf (Nat.sub_add_cancel ha)));rw[show 2926-r+r+70=2996 by exact congrArg (·+70) (Nat.sub_add_cancel (Jl [D.length,r,_,a] 1 (.c 1 (.p J0 1) (.k 900) (.c 1 J1 J2 (.c 1 (.a J2 J3) J0 .z))) J1 (.k 2926) Jt hl hr (Jf (Nat.sub_add_cancel ha)))),Nat.zero_add] at hw;have Tf:=Dg (d:=d+1) (D:=D) (a:=a) (st:=st) (fs:=fs) (ss:=ss) (τ:=τ) (by walk_at "om") ha;have Ua:=λσ=>O7 (d:=d+1) (σ:=σ) hc
 have fd:∀σ,ay .fdiv (.int (.ofNat (D.length-a))) (.int (.ofNat 1)) σ=.ok (.int (.ofNat (D.length-a))) σ:=λσ=>by
  rw[fL];show Out.ok (LV.int (Int.fdiv ((D.length-a:Nat):Int) 1)) σ=_;rw[Int.fdiv_one];rfl
 have g1:∀σ,cv σ (cF c k)=.ok (cF c k) σ:=λ_=>rfl;have g2:=Ag c k;have g3:Nat.beq (len [Tg.nm 2,.nm 3,.nm 4,.nm 5,.nm 6]) (len [LV.str [c],.str [],.bool false,.int k,.none])=true:=rfl;have g4:=@rZ af (deep af (d+2));have g5:b6 (.ofNat r)=true:=dC (by exact Jl [D.length,r,_,a] 1 (.c 1 (.p J0 1) (.k 900) (.c 1 J1 J2 (.c 1 (.a J2 J3) J0 .z))) (.p J1 1) (.k 1000000000000000000) Jt hl hr (Jf (Nat.sub_add_cancel ha)));have g6:small r=true:=aN (by exact Jl [D.length,r,_,a] 1 (.c 1 (.p J0 1) (.k 900) (.c 1 J1 J2 (.c 1 (.a J2 J3) J0 .z))) (.p J1 1) (.k 1000000) Jt hl hr (Jf (Nat.sub_add_cancel ha)));have g7:kl (.ofNat r)=r:=rfl;have g8:Mine.band true true=true:=rfl;have hb:P4.body=(.cons (.dc [.nm 2,.nm 3,.nm 4,.nm 5,.nm 6] (.var 1)) (.cons (.asg 7 (.call 15 (.cons (.var 2) (.cons (.var 4) .nil)))) (.cons (.forr 8 (.call 35 (.cons (.var 1) (.cons (.bin .fdiv (.call 32 (.cons (.var 0) .nil)) (.var 7)) .nil))) Ih) .nil))):=rfl;rw[hb];clear hc hk hl hD ha hf hs dQ hn ht hr hb;walk_at "evk"
theorem iI(hc:LS c s)(σ:LH):ao .eq (.str [c]) (.str [40]) σ=some false/\ao .isin (.str [c]) (.str [97,65,90]) σ=some false/\ao .isin (.str [c]) (.str [98,66,104,72]) σ=some false/\ao .isin (.str [c]) (.str [120,88,64]) σ=some false/\ao .eq (.str [c]) (.str [46]) σ=some false/\ao .eq (.str [c]) (.str [117]) σ=some false/\ao .isin (.str [c]) (.str [119,85]) σ=some false:=by
 rcases hc with⟨rfl,_⟩|⟨rfl,_⟩<;>exact⟨rfl,rfl,rfl,rfl,rfl,rfl,rfl⟩
theorem Hv(hc:LS c s)(hk:k=-2∨0<=k)(hl:D.length<900)(hD:∀x∈D,x<256)(ha:a<=D.length)(hf:fs.all flat=true)(hs:ss.all flat=true)(dQ:∀o∈τ,aZ (len τ+4) o=true)(hn:len fs+D.length<1000)(ht:st+D.length<9999):
  ah af (deep af (d+4)) 45 [.ref 1,cF c k] (HV D a fs ss st τ)=.ok .none (HV D (a+eD k (D.length-a)) (fs++fW s ((D.drop a).take (eD k (D.length-a)))) ss (st+1+eD k (D.length-a)) τ):=by
 rw[aq (aU:=[.ref 1,cF c k,.au]) rfl rfl rfl];have h1:=sq (d:=d+2) (D:=D) (a:=a) (st:=st) (fs:=fs) (ss:=ss) (τ:=τ) (by exact Jl [st,D.length] 1 (.c 1 (.p (.a J0 J1) 1) (.k 9999) .z) (.p J0 1) (.k 10000) Jt ht);have h2:=O9 (d:=d) (st:=st+1) hc hk hl hD ha hf hs dQ hn (by exact Jl [st,D.length] 1 (.c 1 (.p (.a J0 J1) 1) (.k 9999) .z) (.p (.a (.p J0 1) J1) 1) (.k 10000) Jt ht);have c1:=λσ=>(iI hc σ).1;have c2:=λσ=>(iI hc σ).2.1;have c3:=λσ=>(iI hc σ).2.2.1;have c4:=λσ=>(iI hc σ).2.2.2.1;have c5:=λσ=>(iI hc σ).2.2.2.2.1;have c6:=λσ=>(iI hc σ).2.2.2.2.2.1;have c7:=λσ=>(iI hc σ).2.2.2.2.2.2;have g1:∀σ,cv σ (cF c k)=.ok (cF c k) σ:=λ_=>rfl;have g2:∀σ,bH (cF c k) (.int (.ofNat 0)) σ=some (.str [c]):=λ_=>rfl;generalize eD k (D.length-a)=r at *;clear hc hk hl hD ha hf hs dQ hn ht;unfold E9 E8;walk_at "evk"
theorem LC(hk:0<=k)(hl:D.length<900)(hD:∀x∈D,x<256)(ha:a<=D.length)(hf:fs.all flat=true)(hs:ss.all flat=true)(dQ:∀o∈τ,aZ (len τ+4) o=true)(hn:len fs<1000):ah af (deep af (d+2)) 38 [.ref 1,cF 97 k] (HV D a fs ss st τ)=
  .ok .none (HV D (a+((D.drop a).take (eD k (D.length-a))).length) (app fs [.str ((D.drop a).take (eD k (D.length-a)))]) ss st (app τ [.list (ae ((D.drop a).take (eD k (D.length-a))))])):=by
 rw[aq (aU:=[.ref 1,cF 97 k,.au]) rfl rfl rfl];have h1:=Dg (d:=d) (D:=D) (a:=a) (st:=st) (fs:=fs) (ss:=ss) (τ:=τ) (by walk_at "om") ha;have h2:=λσ=>Af (d:=d) (c:=97) (m:=D.length-a) (σ:=σ) (k:=k) (.inr hk);generalize eD k (D.length-a)=r at h2⊢;have h3:=Hs (d:=d) (D:=D) (a:=a) (st:=st) (fs:=fs) (ss:=ss) (τ:=τ) (m:=r) (by walk_at "om")
 have hb:HB (HV D (a+((D.drop a).take r).length) fs ss st (app τ [.list (ae ((D.drop a).take r))])):=by
  rw[←oK];exact(EI hf hs dQ).flat (aI _)
 have h4:=lJ (d:=d) (σ:=HV D (a+((D.drop a).take r).length) fs ss st (app τ [.list (ae ((D.drop a).take r))])) (k:=len (HV D a fs ss st τ)) (xs:=(D.drop a).take r) (by rw[←oK];exact cA (HV D (a+((D.drop a).take r).length) fs ss st τ) _) (λx h=>hD x (List.mem_of_mem_drop (List.mem_of_mem_take h))) (by rw[List.length_take,List.length_drop];exact Jl [D.length,_,a,_] 1 (.c 1 (.p J0 1) (.k 900) (.c 1 (.a J1 J2) J0 (.c 1 J3 J1 .z))) (.p J3 1) (.k 2500) Jt hl (Jf (Nat.sub_add_cancel ha)) (Nat.min_le_right _ _)) hb;have h5:=LA (d:=d) (D:=D) (a:=a+((D.drop a).take r).length) (st:=st) (fs:=fs) (ss:=ss) (τ:=app τ [.list (ae ((D.drop a).take r))]) (v:=.str ((D.drop a).take r)) hn rfl;have h0:∀σ,cv σ (cF 97 k)=.ok (cF 97 k) σ:=λ_=>rfl;have h6:∀σ,bH (cF 97 k) (.int (.ofNat 0)) σ=some (.str [97]):=λ_=>rfl;have c1:∀σ,ao .eq (.str [97]) (.str [65]) σ=some false:=λ_=>rfl;have c2:∀σ,ao .eq (.str [97]) (.str [90]) σ=some false:=λ_=>rfl;generalize (D.drop a).take r=row at *;clear hk hl hD ha hf hs dQ hn hb;unfold L5 L4;walk_at "evk"
theorem Pa(hk:0<=k)(hl:D.length<900)(hD:∀x∈D,x<256)(ha:a<=D.length)(hf:fs.all flat=true)(hs:ss.all flat=true)(dQ:∀o∈τ,aZ (len τ+4) o=true)(hn:len fs<1000)(ht:st<9999):ah af (deep af (d+3)) 45 [.ref 1,cF 97 k] (HV D a fs ss st τ)=
  .ok .none (HV D (a+((D.drop a).take (eD k (D.length-a))).length) (app fs [.str ((D.drop a).take (eD k (D.length-a)))]) ss (st+1) (app τ [.list (ae ((D.drop a).take (eD k (D.length-a))))])):=by
 rw[aq (aU:=[.ref 1,cF 97 k,.au]) rfl rfl rfl];have h1:=sq (d:=d+1) (D:=D) (a:=a) (st:=st) (fs:=fs) (ss:=ss) (τ:=τ) (by walk_at "om");have h2:=LC (d:=d) (st:=st+1) hk hl hD ha hf hs dQ hn;have g1:∀σ,cv σ (cF 97 k)=.ok (cF 97 k) σ:=λ_=>rfl;have g2:∀σ,bH (cF 97 k) (.int (.ofNat 0)) σ=some (.str [97]):=λ_=>rfl;have c1:∀σ,ao .eq (.str [97]) (.str [40]) σ=some false:=λ_=>rfl;have c2:∀σ,ao .isin (.str [97]) (.str [97,65,90]) σ=some true:=λ_=>rfl;generalize (D.drop a).take (eD k (D.length-a))=row at *;clear hk hl hD ha hf hs dQ hn ht;unfold E9 E8;walk_at "evk"
end
set_option compiler.extract_closed false in
set_option compiler.extract_closed false in
noncomputable def wi(k:Int):LV:=.tup [.str [40],.str [],.bool false,.int k,.ag [cF 67 (-2)]]
noncomputable def S0:List LV:=[.int (.ofNat 0)]
noncomputable def Ii:bB:=(.cons (.aV (.and (.cmp (.var 5) .eq (.a7 2 (.int (-1)))) (.cmp (.call 32 (.cons (.var 0) .nil)) .eq (.int 0))) (.cons .lU .nil) .nil) (.cons (.expr (.call 34 (.cons (.var 0) .nil))) (.cons (.expr (.bm .append (.attr 5 3 (.var 0)) (.cons (.attr 5 1 (.var 0)) .nil))) (.cons (.expr (.call 46 (.cons (.var 0) (.cons (.var 6) .nil)))) (.cons (.expr (.bm .pop (.attr 5 3 (.var 0)) .nil)) .nil)))))
section
variable{D:List Nat}{a st d n m c:Nat}{fs ss:List LV}{v:LV}{τ σ:LH}{s:Bool}{k:Int}
theorem Ah{P:dR}{C:Nat->List LV->LH->Out LV}{b:bB}{ρ:List LV}{x:LV}:(run P C (n+2)).cj [3] (.ag [x]) 0 b ρ σ=turn ((run P C (n+1)).ss b (aW ρ x 3) σ) λρ σ=>.nx ρ σ:=rfl
theorem Pb(hl:D.length<900)(hD:∀x∈D,x<256)(ha:a<=D.length)(hf:fs.all flat=true)(hs:ss.all flat=true)(dQ:∀o∈τ,aZ (len τ+4) o=true)(hn:len fs+D.length<1000)(ht:st+D.length<9999):
  ah af (deep af (d+5)) 46 [.ref 1,.ag [cF 67 (-2)]] (HV D a fs ss st τ)=.ok .none (HV D (a+min 1 (D.length-a)) (fs++fW false ((D.drop a).take 1)) ss (st+1+min 1 (D.length-a)) τ):=by
 rw[aq (aU:=[.ref 1,.ag [cF 67 (-2)],.au,.au]) rfl rfl rfl];have h2:=Hv (d:=d) (c:=67) (s:=false) (k:=-2) (st:=st) (.inr ⟨rfl,rfl⟩) (.inl rfl) hl hD ha hf hs dQ hn ht;have e1:eD (-2) (D.length-a)=min 1 (D.length-a):=rfl
 rw[e1,show(D.drop a).take (min 1 (D.length-a))=(D.drop a).take 1 by
  rw[←List.length_drop];by_cases q:1<=(D.drop a).length
  ·rw[Nat.min_eq_left q]
  ·rw[Nat.min_eq_right (by exact Jl [_] 1 (.c 1 (.p J0 1) (.k 1) .z) J0 (.k 1) Jt (Jn q)),List.take_of_length_le (Nat.le_refl _),List.take_of_length_le (by exact Jl [_] 1 (.c 1 (.p J0 1) (.k 1) .z) J0 (.k 1) Jt (Jn q))]] at h2
 have h1:=so (D:=D) (a:=a) (st:=st) (ss:=ss) (τ:=τ) (fs:=fs) (aN (by exact Jl [_,D.length] 1 (.c 1 (.p (.a J0 J1) 1) (.k 1000) .z) (.p J0 1) (.k 1000000) Jt hn));have h3:=@jn D a st fs ss τ;have g1:∀σ,cv σ (cF 67 (-2))=.ok (cF 67 (-2)) σ:=λ_=>rfl;have g2:∀σ,bH (cF 67 (-2)) (.int (.ofNat 0)) σ=some (.str [67]):=λ_=>rfl;have g3:∀σ,ao .ne (.str [67]) (.str [47]) σ=some true:=λ_=>rfl;have g4:=@ot af (deep af (d+4));have g5:=@Ah;generalize hI:cF 67 (-2)=I at *;generalize min 1 (D.length-a)=r at *;generalize (D.drop a).take 1=row at *;clear hl hD ha hf hs dQ hn ht hI e1;unfold L7 L6;walk_at "evk"
theorem Ai(s:Bool)(xs:List Nat):(fW s xs).all flat=true:=by
 unfold fW;rw[List.all_map];exact List.all_eq_true.mpr λ_ _=>rfl
theorem Hw{it x8:LV}{k:Nat}(hl:D.length<900)(hD:∀x∈D,x<256)(ha:a<=D.length)(hf:fs.all flat=true)(dQ:∀o∈τ,aZ (len τ+4) o=true)(hn:len fs+D.length<1000)(ht:st+D.length<9990):
  (run af (deep af (d+5)) (n+30)).ss Ii [.ref 1,it,.str [40],.str [],.bool false,.int (.ofNat k),.ag [cF 67 (-2)],.int (.ofNat k),x8] (HV D a fs S0 st τ)=
  .nx [.ref 1,it,.str [40],.str [],.bool false,.int (.ofNat k),.ag [cF 67 (-2)],.int (.ofNat k),x8] (HV D (a+min 1 (D.length-a)) (fs++fW false ((D.drop a).take 1)) S0 (st+1+1+min 1 (D.length-a)) τ):=by
 have Rt:=sq (d:=d+4) (D:=D) (a:=a) (st:=st) (fs:=fs) (ss:=S0) (τ:=τ) (by exact Jl [st,D.length] 1 (.c 1 (.p (.a J0 J1) 1) (.k 9990) .z) (.p J0 1) (.k 10000) Jt ht);have Ub:=Pb (d:=d) (st:=st+1) (ss:=S0++[.int (.ofNat a)]) hl hD ha hf (by rfl) dQ hn (by exact Jl [st,D.length] 1 (.c 1 (.p (.a J0 J1) 1) (.k 9990) .z) (.p (.a (.p J0 1) J1) 1) (.k 9999) Jt ht);have g1:=@mQ D a (st+1) fs S0 τ;have g2:=@uv D a (st+1) fs S0 τ;have g3:j0 .append (.ref 3) (HV D a fs S0 (st+1) τ)=true:=rfl;have g4:jZ .append (.ref 3) [.int (.ofNat a)] (HV D a fs S0 (st+1) τ)=.ok .none (HV D a fs (S0++[.int (.ofNat a)]) (st+1) τ):=rfl;have g5:=@mQ D (a+min 1 (D.length-a)) (st+1+1+min 1 (D.length-a)) (fs++fW false ((D.drop a).take 1)) (S0++[.int (.ofNat a)]) τ;have g6:j0 .pop (.ref 3) (HV D (a+min 1 (D.length-a)) (fs++fW false ((D.drop a).take 1)) (S0++[.int (.ofNat a)]) (st+1+1+min 1 (D.length-a)) τ)=true:=rfl;have g7:jZ .pop (.ref 3) [] (HV D (a+min 1 (D.length-a)) (fs++fW false ((D.drop a).take 1)) (S0++[.int (.ofNat a)]) (st+1+1+min 1 (D.length-a)) τ)=.ok (.int (.ofNat a)) (HV D (a+min 1 (D.length-a)) (fs++fW false ((D.drop a).take 1)) S0 (st+1+1+min 1 (D.length-a)) τ):=rfl;have g8:∀(i:Int)(x:av),plain (.int i) x=x:=λ_ _=>rfl;have g9:oZ (.ofNat k) (-.ofNat 1)=false:=rfl;generalize cF 67 (-2)=I at *;generalize S0++[.int (.ofNat a)]=S1 at *;generalize min 1 (D.length-a)=r at *;generalize fs++fW false ((D.drop a).take 1)=qy at *;generalize S0=S0 at *;clear hl hD ha hf dQ hn ht;unfold Ii;walk_at "evk"
theorem Pc(r:Nat):min 1 (r+1)=1:=Nat.min_eq_left (Nat.succ_pos r)
theorem Pd:∀m r:Nat,min 1 r+min m (r-min 1 r)=min (m+1) r
 |m,0=>by rw[Nat.min_zero,Nat.zero_sub,Nat.min_zero,Nat.min_zero]
 |m,r+1=>by rw[Pc,Nat.add_sub_cancel,Nat.add_comm];exact(Nat.succ_min_succ ..).symm
theorem Pe(a L:Nat)(h:a<=L):a+min 1 (L-a)<=L:=Nat.le_trans (Nat.add_le_add_left (Nat.min_le_right _ _) a) (Nat.le_of_eq (Nat.add_sub_cancel' h))
theorem Pf(f a L:Nat)(h:f+(L-a)<500):f+min 1 (L-a)+(L-(a+min 1 (L-a)))<500:=by rw[Nat.sub_add_eq,Nat.add_assoc,Nat.add_sub_cancel' (Nat.min_le_right _ _)];exact h
theorem LD(st m x:Nat)(h:x<=1):st+1+1+x+3*m<=st+3*(m+1):=by exact Jl [x,st,m] 1 (.c 1 J0 (.k 1) .z) (.a (.a (.p (.p J1 1) 1) J0) (.m 3 J2)) (.a J1 (.m 3 (.p J2 1))) Jt h
theorem Pg(st m r:Nat)(h:st+3*(m+1)<9000):st+1+1+min 1 r+3*m<9000:=Nat.lt_of_le_of_lt (LD _ _ _ (Nat.min_le_left _ _)) h
theorem Ph(st m r j4:Nat)(h:j4<=st+1+1+min 1 r+3*m):j4<=st+3*(m+1):=Nat.le_trans h (LD _ _ _ (Nat.min_le_left _ _))
theorem Aj{it:LV}{k:Nat}(hl:D.length<400)(hD:∀x∈D,x<256)(dQ:∀o∈τ,aZ (len τ+4) o=true):∀m a fs st i x8,a<=D.length->fs.all flat=true->len fs+(D.length-a)<500->st+3*m<9000->
  ∃j4 y8,j4<=st+3*m/\(run af (deep af (d+5)) (n+m+70)).forr 8 i (i+m) Ii [.ref 1,it,.str [40],.str [],.bool false,.int (.ofNat k),.ag [cF 67 (-2)],.int (.ofNat k),x8] (HV D a fs S0 st τ)=
  .nx [.ref 1,it,.str [40],.str [],.bool false,.int (.ofNat k),.ag [cF 67 (-2)],.int (.ofNat k),y8] (HV D (a+min m (D.length-a)) (fs++fW false ((D.drop a).take m)) S0 j4 τ)
 |0,a,fs,st,i,x8,_,_,_,_=>⟨st,x8,Nat.le_add_right _ _,by
  rw[show n+0+70=(n+69)+1 from rfl,jG,show Nat.blt i (i+0)=false from bS (Nat.le_refl _),List.take_zero,show fW false []=[] from rfl,List.append_nil,Nat.zero_min];rfl⟩
 |m+1,a,fs,st,i,x8,ha,hf,hn,ht=>by
  have h1:=Hw (n:=n+m+40) (d:=d) (it:=it) (k:=k) (x8:=.int (.ofNat i)) (a:=a) (st:=st) (fs:=fs) (by walk_at "om") hD ha hf dQ (by exact Jl [D.length,_,_] 1 (.c 1 (.p J0 1) (.k 400) (.c 1 (.p (.a J1 J2) 1) (.k 500) .z)) (.p (.a J1 J0) 1) (.k 1000) Jt hl hn) (by exact Jl [D.length,st,m] 1 (.c 1 (.p J0 1) (.k 400) (.c 1 (.p (.a J1 (.m 3 (.p J2 1))) 1) (.k 9000) .z)) (.p (.a J1 J0) 1) (.k 9990) Jt hl ht)
  have hlen:len (fs++fW false ((D.drop a).take 1))=len fs+min 1 (D.length-a):=by
   rw[len_eq,len_eq,List.length_append];unfold fW;rw[List.length_map,List.length_take,List.length_drop]
  obtain⟨j4,y8,Nk,h2⟩:=Aj (it:=it) (k:=k) hl hD dQ m (a+min 1 (D.length-a)) (fs++fW false ((D.drop a).take 1)) (st+1+1+min 1 (D.length-a)) (i+1) (.int (.ofNat i)) (Pe _ _ ha) (by
   rw[List.all_append,hf,Ai];rfl) (by rw[hlen];exact Pf _ _ _ hn) (Pg _ _ _ ht)
  refine⟨j4,y8,Ph _ _ _ _ Nk,?_⟩;rw[show n+(m+1)+70=(n+m+70)+1 from rfl,jG,a6 (show i<i+(m+1) from Nat.lt_add_of_pos_right (Nat.succ_pos m)),dr];show turn ((run af (deep af (d+5)) (n+m+40+30)).ss Ii [.ref 1,it,.str [40],.str [],.bool false,.int (.ofNat k),.ag [cF 67 (-2)],.int (.ofNat k),.int (.ofNat i)] (HV D a fs S0 st τ)) _=_;rw[h1,bY,show i+(m+1)=i+1+m from Nat.add_right_comm i m 1];show(run af (deep af (d+5)) (n+m+70)).forr 8 (i+1) (i+1+m) Ii _ _=_;rw[h2,List.append_assoc]
  have e1:a+min 1 (D.length-a)+min m (D.length-(a+min 1 (D.length-a)))=a+min (m+1) (D.length-a):=by rw[Nat.sub_add_eq,Nat.add_assoc,Pd]
  have e2:fW false ((D.drop a).take 1)++fW false ((D.drop (a+min 1 (D.length-a))).take m)=fW false ((D.drop a).take (m+1)):=by
   unfold fW;rw[←List.map_append]
   congr 1
   by_cases q:a<D.length
   ·rw[show min 1 (D.length-a)=1 from Nat.min_eq_left (Nat.sub_pos_of_lt q),List.drop_eq_getElem_cons q,List.take_succ_cons,List.take_succ_cons];rfl
   ·rw[List.drop_of_length_le (Nat.le_of_not_lt q),List.drop_of_length_le (Nat.le_trans (Nat.le_of_not_lt q) (Nat.le_add_right _ _))];simp
  rw[e1,e2]
theorem Pj{k:Nat}(hk:k<300)(hl:D.length<400)(hD:∀x∈D,x<256)(ha:a<=D.length)(hf:fs.all flat=true)(dQ:∀o∈τ,aZ (len τ+4) o=true)(hn:len fs+(D.length-a)<500)(ht:st<2000):
  ∃j4,ah af (deep af (d+6)) 42 [.ref 1,wi (.ofNat k)] (HV D a fs S0 st τ)=.ok .none (HV D (a+min k (D.length-a)) (fs++fW false ((D.drop a).take k)) S0 j4 τ):=by
 rw[aq (aU:=[.ref 1,wi (.ofNat k),.au,.au,.au,.au,.au,.au,.au]) rfl rfl rfl];obtain⟨j4,y8,_,hw⟩:=Aj (it:=wi (.ofNat k)) (k:=k) (n:=2926-k) (d:=d) (τ:=τ) hl hD dQ k a fs st 0 .au ha hf hn (by exact Jl [k,st] 1 (.c 3 (.p J0 1) (.k 300) (.c 1 (.p J1 1) (.k 2000) .z)) (.p (.a J1 (.m 3 J0)) 1) (.k 9000) Jt hk ht);rw[show 2926-k+k+70=2996 by exact congrArg (·+70) (Nat.sub_add_cancel (Jl [k] 1 (.c 1 (.p J0 1) (.k 300) .z) J0 (.k 2926) Jt hk)),Nat.zero_add] at hw;refine⟨j4,?_⟩;have g1:∀σ,cv σ (wi (.ofNat k))=.ok (wi (.ofNat k)) σ:=λ_=>rfl;have g2:∀σ,itemsOf (wi (.ofNat k)) σ=some [.str [40],.str [],.bool false,.int (.ofNat k),.ag [cF 67 (-2)]]:=λ_=>rfl;have g3:Nat.beq (len [Tg.nm 2,.nm 3,.nm 4,.nm 5,.nm 6]) (len [LV.str [40],.str [],.bool false,.int (.ofNat k),.ag [cF 67 (-2)]])=true:=rfl;have g4:=@rZ af (deep af (d+5));have g5:b6 (.ofNat k)=true:=dC (by walk_at "om");have g6:small k=true:=aN (by walk_at "om");have g7:kl (.ofNat k)=k:=rfl;have g8:Mine.band true true=true:=rfl;have g9:oZ (.ofNat k) (-.ofNat 1)=false:=rfl;have Th:oZ (.ofNat k) (-.ofNat 2)=false:=rfl;have hb:P5.body=(.cons (.dc [.nm 2,.nm 3,.nm 4,.nm 5,.nm 6] (.var 1)) (.cons (.asg 7 (.ite (.cmp (.var 5) .eq (.a7 2 (.int (-1)))) (.bi .len (.cons (.attr 5 0 (.var 0)) .nil)) (.ite (.cmp (.var 5) .eq (.a7 3 (.int (-2)))) (.int 1) (.var 5)))) (.cons (.forr 8 (.var 7) Ii) .nil))):=rfl;rw[hb];generalize cF 67 (-2)=I at *;clear hk hl hD ha hf dQ hn ht hb;walk_at "evk"
theorem Pk{k:Nat}(hk:k<300)(hl:D.length<400)(hD:∀x∈D,x<256)(ha:a<=D.length)(hf:fs.all flat=true)(dQ:∀o∈τ,aZ (len τ+4) o=true)(hn:len fs+(D.length-a)<500)(ht:st<1900):
  ∃j4,ah af (deep af (d+7)) 45 [.ref 1,wi (.ofNat k)] (HV D a fs S0 st τ)=.ok .none (HV D (a+min k (D.length-a)) (fs++fW false ((D.drop a).take k)) S0 j4 τ):=by
 rw[aq (aU:=[.ref 1,wi (.ofNat k),.au]) rfl rfl rfl];have h1:=sq (d:=d+5) (D:=D) (a:=a) (st:=st) (fs:=fs) (ss:=S0) (τ:=τ) (by walk_at "om");obtain⟨j4,h2⟩:=Pj (d:=d) (st:=st+1) hk hl hD ha hf dQ hn (by exact Jl [st] 1 (.c 1 (.p J0 1) (.k 1900) .z) (.p (.p J0 1) 1) (.k 2000) Jt ht);refine⟨j4,?_⟩;have g1:∀σ,cv σ (wi (.ofNat k))=.ok (wi (.ofNat k)) σ:=λ_=>rfl;have g2:∀σ,bH (wi (.ofNat k)) (.int (.ofNat 0)) σ=some (.str [40]):=λ_=>rfl;have c1:∀σ,ao .eq (.str [40]) (.str [40]) σ=some true:=λ_=>rfl;generalize wi (.ofNat k)=I at *;clear hk hl hD ha hf dQ hn ht;unfold E9 E8;walk_at "evk"
end
set_option compiler.extract_closed false in
set_option compiler.extract_closed false in
noncomputable def Ru(j:Nat):Nat:=match j with|0=>97|1=>67|_=>40
noncomputable def MA(j:Nat):LV:=match j with|0=>.none|1=>.none|_=>.ag [cF 67 (-2)]
noncomputable def MC(j:Nat)(k:Int):LV:=.tup [.str [Ru j],.str [],.bool false,.int k,MA j]
noncomputable def sr(j:Nat)(xs:List Nat):List LV:=match j with|0=>[.str xs]|_=>fW false xs
section
variable{D:List Nat}{a st d n m c:Nat}{fs ss vs:List LV}{v lv:LV}{τ σ:LH}{s:Bool}{k:Int}
theorem gF(k m:Nat):eD (.ofNat k) m=min k m:=if_neg (by intro h;have:(k:Int)=-2:=h;walk_at "om")
theorem fA(xs:List Nat)(a k:Nat):(xs.drop a).take (min k (xs.length-a))=(xs.drop a).take k:=by
 rw[←List.length_drop];by_cases q:k<=(xs.drop a).length
 ·rw[Nat.min_eq_left q]
 ·rw[Nat.min_eq_right (by exact Jl [_,k] 1 (.c 1 (.p J0 1) J1 .z) J0 J1 Jt (Jn q)),List.take_of_length_le (Nat.le_refl _),List.take_of_length_le (by exact Jl [_,k] 1 (.c 1 (.p J0 1) J1 .z) J0 J1 Jt (Jn q))]
theorem Ti{j k:Nat}(hj:j<3)(hk:k<300)(hl:D.length<100)(hD:∀x∈D,x<256)(ha:a<=D.length)(hf:fs.all flat=true)(dQ:∀o∈τ,aZ (len τ+4) o=true)(hn:len fs<100)(ht:st<1000):
  ∃a' j4 Tj,ah af (deep af (d+7)) 45 [.ref 1,MC j (.ofNat k)] (HV D a fs S0 st τ)=.ok .none (HV D a' (fs++sr j ((D.drop a).take k)) S0 j4 Tj):=by
 rcases j with _|_|_|j
 ·have h:=Pa (d:=d+4) (st:=st) (k:=.ofNat k) (Int.natCast_nonneg k) (show D.length<900 by walk_at "om") hD ha hf (ss:=S0) rfl dQ (by walk_at "om") (by walk_at "om");rw[gF,fA,bb] at h;exact⟨_,_,_,h⟩
 ·have h:=Hv (d:=d+3) (c:=67) (s:=false) (st:=st) (k:=.ofNat k) (.inr ⟨rfl,rfl⟩) (.inr (Int.natCast_nonneg k)) (show D.length<900 by walk_at "om") hD ha hf (ss:=S0) rfl dQ (by exact Jl [D.length,_] 1 (.c 1 (.p J0 1) (.k 100) (.c 1 (.p J1 1) (.k 100) .z)) (.p (.a J1 J0) 1) (.k 1000) Jt hl hn) (by exact Jl [D.length,st] 1 (.c 1 (.p J0 1) (.k 100) (.c 1 (.p J1 1) (.k 1000) .z)) (.p (.a J1 J0) 1) (.k 9999) Jt hl ht);rw[gF,fA] at h;exact⟨_,_,_,h⟩
 ·obtain⟨j4,h⟩:=Pk (d:=d) hk (show D.length<400 by walk_at "om") hD ha hf dQ (by exact Jl [D.length,_,_,a] 1 (.c 1 (.p J0 1) (.k 100) (.c 1 (.p J1 1) (.k 100) (.c 1 (.a J2 J3) J0 .z))) (.p (.a J1 J2) 1) (.k 500) Jt hl hn (Jf (Nat.sub_add_cancel ha))) (show st<1900 by walk_at "om");exact⟨_,_,_,h⟩
 ·exact Jx [j] (.c 1 (.p (.p (.p (.p J0 1) 1) 1) 1) (.k 3) .z) Jt hj
theorem uw:∀vs:List LV,qI (vs++[v])=some (v,vs)
 |[]=>rfl
 |a::vs=>by
  have ih:=uw vs
  cases vs with
  |nil=>rfl
  |cons b vs=>
   show cO (qI (b::vs++[v])) (λp=>some (p.1,a::p.2)) none=_;rw[ih];rfl
theorem Hx(h:len (vs++[lv])<1000):jZ .pop (.ref 2) [] (HV D a (vs++[lv]) ss st τ)=.ok lv (HV D a vs ss st τ):=by
 show bN (small (len (vs++[lv]))) (oN (qI (vs++[lv])) λp=>.ok p.1 (aW (HV D a (vs++[lv]) ss st τ) (.list p.2) 2))=_;rw[aN (by walk_at "om"),uw];rfl
theorem EJ(i:Int):e6 .max [.int i,.int (.ofNat 0)] σ=.ok (.int (.ofNat i.toNat)) σ:=by
 show Out.ok (LV.int (cB (kj i (.ofNat 0)) (.ofNat 0) i)) σ=_
 cases i with
 |ofNat k=>rfl
 |negSucc k=>rfl
noncomputable def ux(L C:LV):LV:=.tup [.str [47],.str [],.bool false,.int (-2),.ag [L,C]]
theorem Pl{m2:Int}(hm:m2=-2){L inn:LV}{cl a1 st1 a2 Hy:Nat}{i:Int}{out:List LV}{iK Hz:LH}(hl:D.length<100)(hD:D≠[])(hv:len (vs++[lv])<100)(Uc:∀σ,cv σ L=.ok L σ)(Tn:∀σ,cv σ inn=.ok inn σ)
  (hL:ah af (deep af (d+7)) 45 [.ref 1,L] (HV D 0 [] S0 1 [])=.ok .none (HV D a1 (vs++[lv]) S0 st1 iK))
  (hN:ah af (deep af (d+7)) 5 [lv,.ref 0] (HV D a1 vs S0 st1 iK)=.ok (.int i) (HV D a1 vs S0 st1 iK))
  (hC:ah af (deep af (d+7)) 45 [.ref 1,.tup [.str [cl],.str [],.bool false,.int (.ofNat i.toNat),inn]] (HV D a1 vs S0 st1 iK)=.ok .none (HV D a2 (vs++out) S0 Hy Hz)):
  ah af (deep af (d+8)) 43 [.ref 1,ux L (.tup [.str [cl],.str [],.bool false,.int m2,inn]),.int (.ofNat 0)] (HV D 0 [] S0 0 [])=.ok (.bool true) (HV D a2 (vs++out) S0 Hy Hz):=by
 rw[aq (aU:=[.ref 1,ux L (.tup [.str [cl],.str [],.bool false,.int m2,inn]),.int (.ofNat 0),.au,.au,.au,.au,.au,.au,.au,.au,.au]) rfl rfl rfl];have HA:0<D.length:=List.length_pos_iff.mpr hD;have Tf:=Dg (d:=d+6) (D:=D) (a:=0) (st:=0) (fs:=[]) (ss:=S0) (τ:=[]) (by walk_at "om") (Nat.zero_le _);have Rt:=sq (d:=d+6) (D:=D) (a:=0) (st:=0) (fs:=[]) (ss:=S0) (τ:=[]) (by walk_at "om")
 have b1:Nat.beq (D.length-0) 0=false:=by cases h:Nat.beq (D.length-0) 0 with
  |false=>rfl
  |true=>have:=Nat.eq_of_beq_eq_true h;exact Jx [D.length,_] (.c 1 (.p (.k 0) 1) J0 (.c 1 J1 (.k 0) (.c 1 J0 (.p J1 0) .z))) Jt HA (Jf this) (Jg (Nat.sub_add_cancel (Nat.le_of_lt HA)))
 have b2:Nat.beq (len (vs++[lv])) 0=false:=by
  rw[len_eq,List.length_append];rfl
 have g1:∀σ,cv σ (ux L (.tup [.str [cl],.str [],.bool false,.int m2,inn]))=.ok (ux L (.tup [.str [cl],.str [],.bool false,.int m2,inn])) σ:=λ_=>rfl;have g2:∀σ,bH (ux L (.tup [.str [cl],.str [],.bool false,.int m2,inn])) (.int (.ofNat 4)) σ=some (.ag [L,.tup [.str [cl],.str [],.bool false,.int m2,inn]]):=λ_=>rfl;have g3:∀x y:LV,Nat.beq (len [Tg.nm 3,.nm 4]) (len [x,y])=true:=λ_ _=>rfl;have g4:∀x1 x2 x3 x4 x5:LV,Nat.beq (len [Tg.nm 6,.nm 7,.nm 8,.nm 9,.nm 10]) (len [x1,x2,x3,x4,x5])=true:=λ_ _ _ _ _=>rfl;have g5:=@jn D a1 st1 (vs++[lv]) S0 iK;have g6:=so (D:=D) (a:=a1) (st:=st1) (ss:=S0) (τ:=iK) (fs:=vs++[lv]) (aN (by walk_at "om"));have g7:j0 .pop (.ref 2) (HV D a1 (vs++[lv]) S0 st1 iK)=true:=rfl;have g8:=Hx (D:=D) (a:=a1) (st:=st1) (ss:=S0) (τ:=iK) (vs:=vs) (lv:=lv) (by walk_at "om");have g9:=@oJ D a1 st1 vs S0 iK;have Th:=λσ=>EJ (σ:=σ) i;have Ud:∀x1 x2 x3 x4 x5:LV,Mine.band (Nat.blt 0 (len [x1,x2,x3,x4,x5])) (small (len [x1,x2,x3,x4,x5]))=true:=λ_ _ _ _ _=>rfl
 have i1:kj m2 (.ofNat 0)=true:=by rw[hm];rfl
 have i2:oZ m2 (-.ofNat 2)=true:=by rw[hm];rfl
 have i3:Dr (.ofNat 0) m2=false:=by rw[hm];rfl
 have i4:hZ false=true:=rfl;clear hl hD hv HA hm;unfold P7 P6;walk_at "evk"
end
set_option compiler.extract_closed false in
set_option compiler.extract_closed false in
section
variable{D:List Nat}{a st d n m c:Nat}{fs ss vs I:List LV}{v lv L C':LV}{τ σ ax:LH}{T:List Nat}
theorem LG(hv:∀σ,cv σ (ux L C')=.ok (ux L C') σ)(Ue:ah af (deep af (d+8)) 43 [.ref 1,ux L C',.int (.ofNat 0)] (HV D 0 [] S0 0 [])=.ok (.bool true) ax):
  ah af (deep af (d+9)) 46 [.ref 1,.ag [ux L C']] (HV D 0 [] S0 0 [])=.ok .none ax:=by
 rw[aq (aU:=[.ref 1,.ag [ux L C'],.au,.au]) rfl rfl rfl];have h1:e6 .len [.ref 2] (HV D 0 [] S0 0 [])=.ok (.int (.ofNat 0)) (HV D 0 [] S0 0 []):=rfl;have h3:=@jn D 0 0 [] S0 [];have g2:∀σ,bH (ux L C') (.int (.ofNat 0)) σ=some (.str [47]):=λ_=>rfl;have g3:∀σ,ao .ne (.str [47]) (.str [47]) σ=some false:=λ_=>rfl;have g4:=@ot af (deep af (d+8));have g5:=@Ah;have i4:hZ true=false:=rfl;generalize hI:ux L C'=X at *;clear hI;unfold L7 L6;walk_at "evk"
theorem LI:(oN (bf af.init 5) λf=>oN (af.dg.get f) λlf=>oN (places lf (.ref (len HL)::[.ag (ae D),.ref 0])) λaU=>oB ((run af (deep af (d+1)) (n+1)).call f aU (app HL [.inst 5 []])) (jx (len HL)))=.ok (.ref 1) (HV D 0 [] S0 0 []):=Lw
theorem Pm(hl:D.length<40)(hD:∀x∈D,x<256)(hp:(oB (ah af (deep af (d+1)) 29 [.str T] (HV D 0 [] S0 0 [])) λv ax=>freeze (len (HV D 0 [] S0 0 [])) v ax)=.ok (.ag I) (HV D 0 [] S0 0 []))
  (h4:ah af (deep af (d+1)) 46 [.ref 1,.ag I] (HV D 0 [] S0 0 [])=.ok .none ax) (h5:bj 5 2 (.ref 1) ax=some (.ref 2)):ah af (deep af (d+2)) 47 [.str T,.str D,.ref 0] HL=.ok (.ref 2) ax:=by
 rw[aq (aU:=[.str T,.str D,.ref 0,.au]) rfl rfl rfl];have h1:=qq (P:=af) (C:=deep af (d+1)) (xs:=D) (ρ:=[.str T,.str D,.ref 0,.au]) (σ:=HL) (n:=2954-D.length) um (by walk_at "om") hD rfl;rw[show 2954-D.length+D.length+42=2996 by exact congrArg (·+42) (Nat.sub_add_cancel (Jl [D.length] 1 (.c 1 (.p J0 1) (.k 40) .z) J0 (.k 2954) Jt hl))] at h1;have h2:=λn=>LI (D:=D) (d:=d) (n:=n);have z5:JG.body=(.cons (.asg 3 (.new 5 (.cons (.ag (.comp (.bin .band (.bi .ord (.cons (.var 0) .nil)) (.int 255)) (.var 1))) (.cons (.var 2) .nil)))) (.cons (.expr (.call 46 (.cons (.var 3) (.cons (.ag (.call 29 (.cons (.var 0) .nil))) .nil)))) (.cons (.ret (.attr 5 2 (.var 3))) .nil))):=rfl
 have a1:(run af (deep af (d+1)) 2997).es (.cons (.ag (.comp (.bin .band (.bi .ord (.cons (.var 0) .nil)) (.int 255)) (.var 1))) (.cons (.var 2) .nil)) [.str T,.str D,.ref 0,.au] HL=.ok [.ag (ae D),.ref 0] HL:=by
  rw[cw,h1,aw];rfl
 show ba ((run af (deep af (d+1)) 3000).ss JG.body _ HL)=_;rw[z5,bZ,t6,zZ,a1,aw];have a2:=h2 2996;rw[a2,b8,cP]
 have a3:(run af (deep af (d+1)) 2999).ss (.cons (.expr (.call 46 (.cons (.var 3) (.cons (.ag (.call 29 (.cons (.var 0) .nil))) .nil)))) (.cons (.ret (.attr 5 2 (.var 3))) .nil)) [.str T,.str D,.ref 0,.ref 1] (HV D 0 [] S0 0 [])=.ret (.ref 2) ax:=by
  clear h1 h2 z5 a1 a2 hl hD;generalize HV D 0 [] S0 0 []=H at *;refine iG (zq (oz (cS (jW rfl zl) (cS (oG (cS (jW rfl lz) fu) hp) fu)) h4) (λ_=>rfl) rfl) (zp ?_);walk_at "evk"
 exact congrArg ba a3
theorem Pn(hl:D.length<40)(hD:∀x∈D,x<256)(h1:ah af (deep af (d+2)) 47 [.str T,.str D,.ref 0] HL=.ok (.ref 2) ax):ah af (deep af (d+3)) 71 [.int (.ofNat 1),.str T,.ag (ae D),.ref 0] HL=.ok (.ref 2) ax:=by
 rw[aq (aU:=[.int (.ofNat 1),.str T,.ag (ae D),.ref 0]) rfl rfl rfl];have h2:=gR (d:=d+1) (σ:=HL) hD (by walk_at "om") um;have h3:Nat.beq 1 0=false:=rfl
 have a1:(run af (deep af (d+2)) 2998).ss (.cons (.aV (.cmp (.var 0) .eq (.int 0)) (.cons (.ret (.ag (.comp (.bi .ord (.cons (.var 0) .nil)) (.call 68 (.cons (.var 1) (.cons (.var 2) (.cons (.var 3) .nil))))))) .nil) .nil) (.cons (.ret (.call 47 (.cons (.var 1) (.cons (.call 70 (.cons (.var 2) .nil)) (.cons (.var 3) .nil))))) .nil)) [.int (.ofNat 1),.str T,.ag (ae D),.ref 0] HL=.ret (.ref 2) ax:=by
  clear hl hD;walk_at "evk"
 exact congrArg ba (show(run af (deep af (d+2)) 3000).ss M9.body _ HL=.ret _ _ by
  show(run af (deep af (d+2)) 3000).ss (.cons (.mX _ _) .nil) _ HL=_
  rw[bZ,lL a1,c9])
theorem vW(hv:vs.all flat=true):freeze 0 (.ref 2) (HV D a vs ss st τ)=.ok (.ag vs) []:=by
 show oN (cO (eR (fz (HV D a vs ss st τ) 0 63) vs) (λq=>some (LV.ag q)) none) (λv'=>Out.ok v' [])=_;rw[da vs hv];rfl
end
noncomputable def b4:List Nat:=[48,49,50,57,45,32,0,1,3,200,255,90]
noncomputable def EK:List (List Nat):=b4.map λx=>[x]
noncomputable def EL:List (List Nat):=b4.flatMap λx=>b4.map λy=>[x,y]
noncomputable def fB:List (List Nat):=EK++EL
def Po(x:Nat):Bool:=ia x [0,9,10,11,12,13,32]
def cY(c:Nat)(row:List Nat):List Nat:=cB (Nat.beq c 65) (row.reverse.dropWhile Po).reverse (cB (Nat.beq c 90) (row.takeWhile λx=>hZ (Nat.beq x 0)) row)
def Ak(t:List Nat):Nat:=(t.takeWhile sG).foldl (λa c=>10*a+(c-48)) 0
def Di(t:List Nat):Int:=(λu:List Nat=>cB (Nat.beq (u.headD 0) 45) (Int.neg (.ofNat (Ak u.tail))) (.ofNat (Ak u))) (t.dropWhile λx=>Nat.beq x 32)
noncomputable def su:bB:=Ly 1 L4
noncomputable def Al:bB:=match Qa with
 |.cons (.aV _ (.cons _ q) _) _=>q
 |_=>.nil
section
variable{D:List Nat}{a r st d n m c:Nat}{fs ss vs:List LV}{v lv dv kv:LV}{τ σ:LH}{s:Bool}{k:Int}
theorem Dj:fB.map (λrow=>(run af (deep af (d+2)) 2999).ss su [.ref 1,cF 65 (.ofNat n),.ref 4] (HV D r [] S0 2 [.list (ae row)]))=
  fB.map λrow=>.nx [.ref 1,cF 65 (.ofNat n),.ref 4] (HV D r [.str (cY 65 row)] S0 2 [.list (ae (cY 65 row))]):=by
 kernel_rfl
theorem Dk:fB.map (λrow=>(run af (deep af (d+2)) 2999).ss su [.ref 1,cF 90 (.ofNat n),.ref 4] (HV D r [] S0 2 [.list (ae row)]))=
  fB.map λrow=>.nx [.ref 1,cF 90 (.ofNat n),cB (ia 0 row) (.ag (ae (cY 90 row))) (.ref 4)] (HV D r [.str (cY 90 row)] S0 2 [.list (ae row)]):=by
 kernel_rfl
theorem HC:[97,65,90].map (λc=>fB.map λrow=>(run af (deep af (d+2)) 2997).ss Al [dv,.str [c],kv,.ag (ae row),.au,.au] [])=
  [97,65,90].map λc=>fB.map λrow=>.ret (.tup [.ag [.str (cY c row)],.int (.ofNat (len row))]) []:=by
 kernel_rfl
theorem LJ:[97,65,90].map (λc=>fB.map λrow=>ah af (deep af (d+4)) 5 [.str (cY c row),.ref 0] (HV D r [] S0 st τ))=
  [97,65,90].map λc=>fB.map λrow=>.ok (.int (Di (cY c row))) (HV D r [] S0 st τ):=by
 kernel_rfl
theorem HD:[97,65,90].map (λc=>fB.map λrow=>ah af (deep af (d+2)) 75 [.str (cY c row)] [])=
  [97,65,90].map λc=>fB.map λrow=>.ok (.int (Di (cY c row))) []:=by
 kernel_rfl
theorem Dl:([97,65,90].all λc=>fB.all λrow=>Nat.blt (Di (cY c row)).toNat 300)=true:=by
 kernel_rfl
end
set_option compiler.extract_closed false in
set_option compiler.extract_closed false in
noncomputable def qv:LV->Bool
 |.int _|.str _=>true
 |_=>false
theorem gT:∀vs:List LV,vs.all qv=true->vs.all flat=true
 |[],_=>rfl
 |v::vs,h=>by
  rw[List.all_cons,Bool.and_eq_true] at h⊢;refine⟨?_,gT vs h.2⟩;have:=h.1
  cases v<;>first|rfl|cases this
noncomputable def qw(D:List Nat)(c k:Nat)(vs:List LV)(lv:LV)(r many:Nat):Prop:=
 vs.all qv=true/\len vs<10/\flat lv=true/\r<=D.length/\many<300/\
 (∀d,∃st1 iK i,st1<900/\(∀o∈iK,aZ (len iK+4) o=true)/\ah af (deep af (d+7)) 45 [.ref 1,cF c (.ofNat k)] (HV D 0 [] S0 1 [])=.ok .none (HV D r (vs++[lv]) S0 st1 iK)/\
  ah af (deep af (d+7)) 5 [lv,.ref 0] (HV D r vs S0 st1 iK)=.ok (.int i) (HV D r vs S0 st1 iK)/\i.toNat=many)/\
 (∀d,ah af (deep af (d+3)) 76 [.ag (ae D),.str [c],.int (.ofNat k)] []=.ok (.tup [.ag (vs++[lv]),.int (.ofNat r)]) [])/\
 ((∃i,lv=.int i/\i.toNat=many)∨(∃t i,lv=.str t/\(∀d,ah af (deep af (d+2)) 75 [.str t] []=.ok (.int i) [])/\i.toNat=many))
section
variable{D:List Nat}{a r st d n m c k:Nat}{fs ss vs:List LV}{v lv dv kv:LV}{τ σ:LH}{s:Bool}
theorem dT{α β:Type}{f g:α->β}{l:List α}(h:l.map f=l.map g){x:α}(hx:x∈l):f x=g x:=List.map_inj_left.mp h x hx
theorem oM(hD:∀x∈D,x∈b4)(h0:D≠[])(hk:k=1∨k=2):D.take k∈fB:=by
 unfold fB EK EL
 rcases D with _|⟨x,_|⟨y,R⟩⟩
 ·exact absurd rfl h0
 ·refine List.mem_append_left _ (List.mem_map.mpr ⟨x,hD x (by simp),?_⟩)
  rcases hk with rfl|rfl<;>rfl
 ·rcases hk with rfl|rfl
  ·exact List.mem_append_left _ (List.mem_map.mpr ⟨x,hD x (by simp),rfl⟩)
  ·exact List.mem_append_right _ (List.mem_flatMap.mpr ⟨x,hD x (by simp),List.mem_map.mpr ⟨y,hD y (by simp),rfl⟩⟩)
theorem Am:∀x∈b4,x<256:=by decide
theorem Pp(hc:c∈[97,65,90])(hk:k=1∨k=2)(hl:D.length<100)(hD:∀x∈D,x∈b4)(h0:D≠[]):
  ∃iK,(∀o∈iK,aZ (len iK+4) o=true)/\ah af (deep af (d+6)) 38 [.ref 1,cF c (.ofNat k)] (HV D 0 [] S0 2 [])=.ok .none (HV D (D.take k).length [.str (cY c (D.take k))] S0 2 iK):=by
 have eh:∀x∈D,x<256:=λx h=>Am x (hD x h);by_cases q:c=97
 ·subst q;have h:=LC (d:=d+4) (st:=2) (k:=.ofNat k) (a:=0) (fs:=[]) (ss:=S0) (τ:=[]) (Int.natCast_nonneg k) (show D.length<900 by walk_at "om") eh (Nat.zero_le _) rfl rfl (λo h=>by cases h) (by decide);rw[gF,fA,List.drop_zero,Nat.zero_add] at h;refine⟨_,?_,h⟩;intro o ho
  rcases List.mem_singleton.mp ho with rfl
  exact bD _ (aI _)
 ·rw[aq (d:=d+5) (aU:=[.ref 1,cF c (.ofNat k),.au]) rfl rfl rfl];have h1:=Dg (d:=d+4) (D:=D) (a:=0) (st:=2) (fs:=[]) (ss:=S0) (τ:=[]) (by walk_at "om") (Nat.zero_le _);have h2:=λσ=>Af (d:=d+4) (c:=c) (m:=D.length-0) (σ:=σ) (k:=.ofNat k) (.inr (Int.natCast_nonneg k));rw[gF] at h2;have h3:=Hs (d:=d+4) (D:=D) (a:=0) (st:=2) (fs:=[]) (ss:=S0) (τ:=[]) (m:=min k (D.length-0)) (by walk_at "om");rw[fA,List.drop_zero,Nat.zero_add] at h3;have hm:=oM hD h0 hk;generalize D.take k=row at *;have hb:L5.body=.cons (.asg 2 (.call 36 (.cons (.var 0) (.cons (.call 35 (.cons (.var 1) (.cons (.call 32 (.cons (.var 0) .nil)) .nil))) .nil)))) su:=rfl;have h4:(run af (deep af (d+5)) 2999).s (.asg 2 (.call 36 (.cons (.var 0) (.cons (.call 35 (.cons (.var 1) (.cons (.call 32 (.cons (.var 0) .nil)) .nil))) .nil)))) [.ref 1,cF c (.ofNat k),.au] (HV D 0 [] S0 2 [])=
    .nx [.ref 1,cF c (.ofNat k),.ref 4] (HV D row.length [] S0 2 [.list (ae row)]):=by
   have g1:∀σ,cv σ (cF c (.ofNat k))=.ok (cF c (.ofNat k)) σ:=λ_=>rfl;have g2:len (HV D 0 [] S0 2 [])=4:=rfl;have g3:app [] [LO.list (ae row)]=[LO.list (ae row)]:=rfl;rw[g3] at h3;clear hl hD h0 eh hb hk hm;walk_at "evk"
  rw[hb,bZ,h4,cP];simp only[List.mem_cons,List.not_mem_nil,or_false] at hc
  rcases hc with rfl|rfl|rfl
  ·exact absurd rfl q
  ·have h5:=dT (Dj (d:=d+3) (D:=D) (r:=row.length) (n:=k)) hm;refine⟨_,?_,by rw[h5,qc]⟩;intro o ho
   rcases List.mem_singleton.mp ho with rfl
   exact bD _ (aI _)
  ·have h5:=dT (Dk (d:=d+3) (D:=D) (r:=row.length) (n:=k)) hm;refine⟨_,?_,by rw[h5,qc]⟩;intro o ho
   rcases List.mem_singleton.mp ho with rfl
   exact bD _ (aI _)
theorem Pq(hc:c∈[97,65,90])(hk:k=1∨k=2)(hl:D.length<100)(hD:∀x∈D,x∈b4)(h0:D≠[]):
  ∃iK,(∀o∈iK,aZ (len iK+4) o=true)/\ah af (deep af (d+7)) 45 [.ref 1,cF c (.ofNat k)] (HV D 0 [] S0 1 [])=.ok .none (HV D (D.take k).length [.str (cY c (D.take k))] S0 2 iK):=by
 obtain⟨iK,ht,h2⟩:=Pp (d:=d) hc hk hl hD h0;refine⟨iK,ht,?_⟩;rw[aq (aU:=[.ref 1,cF c (.ofNat k),.au]) rfl rfl rfl];have h1:=sq (d:=d+5) (D:=D) (a:=0) (st:=1) (fs:=[]) (ss:=S0) (τ:=[]) (by exact Jl [] 1 .z (.p (.k 1) 1) (.k 10000) Jt);have g1:∀σ,cv σ (cF c (.ofNat k))=.ok (cF c (.ofNat k)) σ:=λ_=>rfl;have g2:∀σ,bH (cF c (.ofNat k)) (.int (.ofNat 0)) σ=some (.str [c]):=λ_=>rfl
 have c1:∀σ,ao .eq (.str [c]) (.str [40]) σ=some false:=λσ=>by
  simp only[List.mem_cons,List.not_mem_nil,or_false] at hc
  rcases hc with rfl|rfl|rfl<;>rfl
 have c2:∀σ,ao .isin (.str [c]) (.str [97,65,90]) σ=some true:=λσ=>by
  simp only[List.mem_cons,List.not_mem_nil,or_false] at hc
  rcases hc with rfl|rfl|rfl<;>rfl
 generalize D.take k=row at *;clear hc hk hl hD h0 ht;unfold E9 E8;walk_at "evk"
theorem Pr(hc:c∈[97,65,90])(hk:k=1∨k=2)(hl:D.length<100)(hD:∀x∈D,x∈b4)(h0:D≠[]):
  ah af (deep af (d+3)) 76 [.ag (ae D),.str [c],.int (.ofNat k)] []=.ok (.tup [.ag [.str (cY c (D.take k))],.int (.ofNat (D.take k).length)]) []:=by
 rw[aq (aU:=[.ag (ae D),.str [c],.int (.ofNat k),.au,.au,.au]) rfl rfl rfl];have hm:=oM hD h0 hk;have h5:=dT (dT (HC (d:=d) (dv:=.ag (ae D)) (kv:=.int (.ofNat k))) hc) hm
 have h6:∀σ,bA (.ag (ae D)) .none (.int (.ofNat k)) σ=.ok (.ref (len σ)) (app σ [.list (ae (D.take k))]):=λσ=>by
  show cT (ae D) _ _ σ=_;rw[eC (l:=0) (h:=if k<D.length then k else D.length) (by walk_at "om") rfl (by rw[←cC];rfl),List.drop_zero,Nat.sub_zero]
  split
  ·rfl
  ·rw[List.take_of_length_le (Nat.le_refl _),List.take_of_length_le (by walk_at "om")]
 generalize hr:D.take k=row at *
 have h7:(run af (deep af (d+2)) 2997).s (.asg 3 (.ag (.slice (.var 0) .none (.var 2)))) [.ag (ae D),.str [c],.int (.ofNat k),.au,.au,.au] []=.nx [.ag (ae D),.str [c],.int (.ofNat k),.ag (ae row),.au,.au] []:=by
  have g:=aO (σ:=[]) (vs:=ae row) (λo h=>by cases h) (aI _);clear h5 hm hc hk hl hD h0 hr;walk_at "evk"
 have c2:ao .isin (.str [c]) (.str [97,65,90]) []=some true:=by
  simp only[List.mem_cons,List.not_mem_nil,or_false] at hc
  rcases hc with rfl|rfl|rfl<;>rfl
 have hb:∃q,Nc.body=.cons (.aV (.cmp (.var 1) .isin (.str [97,65,90])) (.cons (.asg 3 (.ag (.slice (.var 0) .none (.var 2)))) Al) .nil) q:=⟨_,rfl⟩;obtain⟨q,hb⟩:=hb
 have h8:(run af (deep af (d+2)) 2998).t (.cmp (.var 1) .isin (.str [97,65,90])) [.ag (ae D),.str [c],.int (.ofNat k),.au,.au,.au] []=.ok true []:=by
  rw[t5,iF,eu,fv,aP,lz,aw,tY,aw,c2,aP]
 rw[hb,bZ,t7,h8,b8,dr,bZ,h7,cP,h5,c9,ft,len_eq]
theorem An(hc:c∈[97,65,90])(hk:k=1∨k=2)(hl:D.length<100)(hD:∀x∈D,x∈b4)(h0:D≠[]):∃vs lv r many,qw D c k vs lv r many:=by
 have hm:=oM hD h0 hk;refine⟨[],.str (cY c (D.take k)),(D.take k).length,(Di (cY c (D.take k))).toNat,rfl,show 0<10 by decide,rfl,?_,?_,?_,?_,?_⟩
 ·rw[List.length_take];walk_at "om"
 ·have:=Dl;rw[List.all_eq_true] at this;have:=this c hc;rw[List.all_eq_true] at this;exact Nat.le_of_ble_eq_true (this _ hm)
 ·intro d;obtain⟨iK,ht,h⟩:=Pq (d:=d) hc hk hl hD h0;exact⟨2,iK,_,by decide,ht,h,dT (dT (LJ (d:=d+3) (D:=D) (r:=(D.take k).length) (st:=2) (τ:=iK)) hc) hm,rfl⟩
 ·intro d;exact Pr hc hk hl hD h0
 ·exact .inr ⟨_,_,rfl,λd=>dT (dT (HD (d:=d)) hc) hm,rfl⟩
end
set_option compiler.extract_closed false in
set_option compiler.extract_closed false in
noncomputable def Ij:Ex:=(.ite (.and (.cmp (.var 2) .eq (.str [99])) (.cmp (.var 0) .gt (.int 127))) (.bin .sub (.var 0) (.int 256)) (.var 0))
noncomputable def Rv(s:Bool):LV->LV
 |.int (.ofNat x)=>.int (sg s x)
 |v=>v
section
variable{D:List Nat}{a r st d n m c k:Nat}{fs ss vs:List LV}{v lv dv kv:LV}{τ σ:LH}{s:Bool}
theorem LK{P:dR}{C:Nat->List LV->LH->Out LV}{x:Nat}{ρ:List LV}(hc:LS c s):(run P C (m+30)).e Ij (.int (.ofNat x)::dv::.str [c]::ρ) σ=.ok (.int (sg s x)) σ:=by
 have c1:∀σ,ay .sub (.int (.ofNat x)) (.int (.ofNat 256)) σ=.ok (.int ((x:Int)-256)) σ:=λ_=>rfl
 rcases hc with⟨rfl,rfl⟩|⟨rfl,rfl⟩
 ·have g1:∀σ,ao .eq (.str [99]) (.str [99]) σ=some true:=λ_=>rfl;by_cases q:127<x
  ·have e:sg true x=(x:Int)-256:=if_pos ⟨rfl,q⟩;have g2:Nat.blt 127 x=true:=a6 q;rw[←e] at c1;clear e q;unfold Ij;walk_at "evk"
  ·have e:sg true x=.ofNat x:=if_neg λh=>q h.2;have g2:Nat.blt 127 x=false:=bS (by walk_at "om");rw[e];clear e q c1;unfold Ij;walk_at "evk"
 ·have g1:∀σ,ao .eq (.str [67]) (.str [99]) σ=some false:=λ_=>rfl;have e:sg false x=.ofNat x:=rfl;rw[e];clear e c1;unfold Ij;walk_at "evk"
theorem LL(a b:Nat):e6 .min [.int (.ofNat a),.int (.ofNat b)] σ=.ok (.int (.ofNat (min a b))) σ:=by
 show Out.ok (LV.int (cB (kj (.ofNat b) (.ofNat a)) (.ofNat b) (.ofNat a))) σ=_;rw[ow];by_cases q:b<a
 ·rw[a6 q,show min a b=b by walk_at "om"];rfl
 ·rw[bS (by walk_at "om"),show min a b=a by walk_at "om"];rfl
theorem slice_0{k:Nat}(hl:D.length<900):bA (.ag (ae D)) .none (.int (.ofNat k)) σ=.ok (.ref (len σ)) (app σ [.list (ae (D.take k))]):=by
 show cT (ae D) _ _ σ=_;rw[eC (l:=0) (h:=if k<D.length then k else D.length) (by walk_at "om") rfl (by rw[←cC];rfl),List.drop_zero,Nat.sub_zero]
 split
 ·rfl
 ·rw[List.take_of_length_le (Nat.le_refl _),List.take_of_length_le (by walk_at "om")]
theorem rO:HB []:=λo h=>by cases h
theorem Pu(hc:LS c s)(hl:D.length<100):
  ah af (deep af (d+3)) 76 [.ag (ae D),.str [c],.int (.ofNat k)] []=.ok (.tup [.ag (fW s (D.take k)),.int (.ofNat (min k D.length))]) []:=by
 rw[aq (aU:=[.ag (ae D),.str [c],.int (.ofNat k),.au,.au,.au]) rfl rfl rfl]
 have c2:ao .isin (.str [c]) (.str [97,65,90]) []=some false:=by
  rcases hc with⟨rfl,rfl⟩|⟨rfl,rfl⟩<;>rfl
 have hx:∀n,(run af (deep af (d+2)) (n+9)).e (.ag (.slice (.var 0) .none (.var 5))) [.ag (ae D),.str [c],.int (.ofNat k),.au,.au,.int (.ofNat (min k D.length))] []=.ok (.ag (ae (D.take k))) []:=λn=>by
  have h6:=λσ=>slice_0 (D:=D) (k:=min k D.length) (σ:=σ) (by walk_at "om");rw[show D.take (min k D.length)=D.take k by have:=fA D 0 k;rwa [List.drop_zero,Nat.sub_zero] at this] at h6;have g:=aO (σ:=[]) (vs:=ae (D.take k)) rO (aI _);generalize min k D.length=q at *;generalize D.take k=row at *;clear hc hl c2;walk_at "evk"
 have vX:(ae (D.take k)).length=(D.take k).length:=by simp[ae]
 have Ik:(D.take k).length<=D.length:=by rw[List.length_take];walk_at "om"
 have uy:=lI (P:=af) (C:=deep af (d+2)) (elt:=Ij) (it:=.ag (.slice (.var 0) .none (.var 5))) (vs:=ae (D.take k)) (v:=.ag (ae (D.take k))) (f:=Rv s) (ρ:=[.ag (ae D),.str [c],.int (.ofNat k),.au,.au,.int (.ofNat (min k D.length))]) (σ:=[]) (n:=2952-(D.take k).length)
  (λ_ _=>rfl) rO (by exact Jl [D.length,_,_] 1 (.c 1 (.p J0 1) (.k 100) (.c 1 J1 J2 (.c 1 J2 J0 .z))) (.p J1 1) (.k 2500) Jt hl (Jf vX) Ik) (λv hv=>by obtain⟨x,_,rfl⟩:=List.mem_map.mp hv;rfl)
  (by rw[show 2952-(D.take k).length+(ae (D.take k)).length+40=2983+9 by exact Nat.le_antisymm (Jl [_,_,_] 1 (.c 1 J0 J1 (.c 1 (.a J2 J1) (.k 2952) .z)) (.p (.a J2 J0) 40) (.p (.k 2983) 9) Jt (Jf vX) (Jf (Nat.sub_add_cancel (Jl [D.length,_] 1 (.c 1 (.p J0 1) (.k 100) (.c 1 J1 J0 .z)) J1 (.k 2952) Jt hl Ik)))) (Jl [_,_,_] 1 (.c 1 J0 J1 (.c 1 (.k 2952) (.a J2 J0) .z)) (.p (.k 2983) 9) (.p (.a J2 J1) 40) Jt (Jg vX) (Jg (Nat.sub_add_cancel (Jl [D.length,_] 1 (.c 1 (.p J0 1) (.k 100) (.c 1 J1 J0 .z)) J1 (.k 2952) Jt hl Ik))))];exact hx 2983)
  (λm ax v hv=>by obtain⟨x,_,rfl⟩:=List.mem_map.mp hv;exact LK hc)
 rw[show 2952-(D.take k).length+(ae (D.take k)).length+42=2994 by exact Nat.le_antisymm (Jl [_,_,_] 1 (.c 1 J0 J1 (.c 1 (.a J2 J1) (.k 2952) .z)) (.p (.a J2 J0) 42) (.k 2994) Jt (Jf vX) (Jf (Nat.sub_add_cancel (Jl [D.length,_] 1 (.c 1 (.p J0 1) (.k 100) (.c 1 J1 J0 .z)) J1 (.k 2952) Jt hl Ik)))) (Jl [_,_,_] 1 (.c 1 J0 J1 (.c 1 (.k 2952) (.a J2 J0) .z)) (.k 2994) (.p (.a J2 J1) 42) Jt (Jg vX) (Jg (Nat.sub_add_cancel (Jl [D.length,_] 1 (.c 1 (.p J0 1) (.k 100) (.c 1 J1 J0 .z)) J1 (.k 2952) Jt hl Ik))))] at uy
 have e3:(ae (D.take k)).map (Rv s)=fW s (D.take k):=by
  unfold ae fW;rw[List.map_map];rfl
 rw[e3] at uy;have hm:=λσ=>LL (σ:=σ) k D.length
 have hlen:e6 .len [.ag (ae D)] []=.ok (.int (.ofNat D.length)) []:=by rw[oy,az,aN (by walk_at "om"),dW]
 have hb:∃A,Nc.body=.cons (.aV (.cmp (.var 1) .isin (.str [97,65,90])) A .nil) (.cons (.asg 5 (.bi .min (.cons (.var 2) (.cons (.bi .len (.cons (.var 0) .nil)) .nil)))) (.cons (.ret (.tup (.cons (.ag (.comp Ij (.ag (.slice (.var 0) .none (.var 5))))) (.cons (.var 5) .nil)))) .nil)):=⟨_,rfl⟩;obtain⟨A,hb⟩:=hb
 have h8:(run af (deep af (d+2)) 2998).t (.cmp (.var 1) .isin (.str [97,65,90])) [.ag (ae D),.str [c],.int (.ofNat k),.au,.au,.au] []=.ok false []:=by
  rw[t5,iF,eu,fv,aP,lz,aw,tY,aw,c2,aP]
 have h9:(run af (deep af (d+2)) 2998).s (.asg 5 (.bi .min (.cons (.var 2) (.cons (.bi .len (.cons (.var 0) .nil)) .nil)))) [.ag (ae D),.str [c],.int (.ofNat k),.au,.au,.au] []=.nx [.ag (ae D),.str [c],.int (.ofNat k),.au,.au,.int (.ofNat (min k D.length))] []:=by
  have h1:=az D;have Ej:small D.length=true:=aN (by walk_at "om");generalize min k D.length=q at *;clear uy hx hb h8 hlen e3 Ik vX hl hc c2;walk_at "evk"
 rw[hb,bZ,t7,h8,b8,dO,t8,cP,bZ,h9,cP,bZ,mK,Eu,cw,uy,aw];generalize min k D.length=q;rfl
theorem uz{row:List Nat}(h:row≠[]):fW s row.dropLast++[.int (sg s (row.getLast h))]=fW s row:=by
 conv=>rhs;rw[←List.dropLast_concat_getLast h]
 unfold fW;rw[List.map_append];rfl
theorem Dm(xs:List Nat):len (fW s xs)=xs.length:=by rw[len_eq];unfold fW;rw[List.length_map]
theorem lP(s:Bool)(xs:List Nat):(fW s xs).all qv=true:=by
 unfold fW;rw[List.all_map];exact List.all_eq_true.mpr λ_ _=>rfl
theorem uA(hc:LS c s)(hk:0<k/\k<9)(hl:D.length<100)(hD:∀x∈D,x<256)(h0:D≠[]):∃vs lv r many,qw D c k vs lv r many:=by
 have hr:D.take k≠[]:=by
  intro e;have e':=congrArg List.length e;rw[List.length_take,List.length_nil] at e';have:=List.length_pos_iff.mpr h0;walk_at "om"
 have hx:(D.take k).getLast hr<256:=hD _ (List.mem_of_mem_take (List.getLast_mem hr))
 have hlen:(D.take k).length<=k:=by rw[List.length_take];walk_at "om"
 have hs:((sg s ((D.take k).getLast hr))).toNat<300:=by
  unfold sg
  split<;>walk_at "om"
 refine⟨fW s (D.take k).dropLast,.int (sg s ((D.take k).getLast hr)),min k D.length,(sg s ((D.take k).getLast hr)).toNat,lP _ _,?_,rfl,Nat.min_le_right _ _,hs,?_,?_,.inl ⟨_,rfl,rfl⟩⟩
 ·rw[Dm,List.length_dropLast];exact Jl [k,_,_] 1 (.c 1 (.p J0 1) (.k 9) (.c 1 J1 J0 (.c 1 J2 J1 .z))) (.p J2 1) (.k 10) Jt hk.2 hlen (Nat.sub_le _ _)
 ·intro d;have h:=Hv (d:=d+3) (c:=c) (s:=s) (st:=1) (k:=.ofNat k) (a:=0) (fs:=[]) (ss:=S0) (τ:=[]) hc (.inr (Int.natCast_nonneg k)) (show D.length<900 by walk_at "om") hD (Nat.zero_le _) rfl rfl (λo h=>by cases h) (show 0+D.length<1000 by exact Jl [D.length] 1 (.c 1 (.p J0 1) (.k 100) .z) (.p (.a (.k 0) J0) 1) (.k 1000) Jt hl) (by exact Jl [D.length] 1 (.c 1 (.p J0 1) (.k 100) .z) (.p (.a (.k 1) J0) 1) (.k 9999) Jt hl);rw[gF,fA,List.drop_zero,Nat.zero_add,Nat.sub_zero,List.nil_append,←uz hr] at h;exact⟨_,[],_,show 1+1+min k D.length<900 by exact Jl [k,_] 1 (.c 1 (.p J0 1) (.k 9) (.c 1 J1 J0 .z)) (.p (.a (.p (.k 1) 1) J1) 1) (.k 900) Jt hk.2 (Nat.min_le_left _ _),(λo h=>by cases h),h,rfl,rfl⟩
 ·intro d;rw[uz hr];exact Pu hc hl
end
set_option compiler.extract_closed false in
set_option compiler.extract_closed false in
noncomputable def oV(j:Nat):List Nat:=match j with|0=>[97]|1=>[67]|_=>[40,67,41]
noncomputable def jX(c k j:Nat):List Nat:=c::(48+k)::47::oV j
def fC:List (Nat×Nat×Nat):=[99,67,97,65,90].flatMap λc=>(cB (ia c [99,67]) [1,2,3] [1,2]).flatMap λk=>[0,1,2].map λj=>(c,k,j)
section
variable{D:List Nat}{a r st d n m c k j many:Nat}{fs ss vs:List LV}{v lv dv kv:LV}{τ σ:LH}{s:Bool}
theorem vY:fC.map (λt=>oB (ah af (deep af (d+24)) 29 [.str (jX t.1 t.2.1 t.2.2)] (HV D 0 [] S0 0 [])) λv ax=>freeze (len (HV D 0 [] S0 0 [])) v ax)=
  fC.map λt=>.ok (.ag [ux (cF t.1 (.ofNat t.2.1)) (MC t.2.2 (-2))]) (HV D 0 [] S0 0 []):=by
 kernel_rfl
theorem Ao(ht:(c,k,j)∈fC):(oB (ah af (deep af (d+24)) 29 [.str (jX c k j)] (HV D 0 [] S0 0 [])) λv ax=>freeze (len (HV D 0 [] S0 0 [])) v ax)=.ok (.ag [ux (cF c (.ofNat k)) (MC j (-2))]) (HV D 0 [] S0 0 []):=by
 have h:=dT (vY (d:=d) (D:=D)) ht;dsimp only at h;exact h
theorem HE(j:Nat)(σ:LH):cv σ (MA j)=.ok (MA j) σ:=by rcases j with _|_|j<;>rfl
theorem Pw(ht:(c,k,j)∈fC)(hj:j<3)(hl:D.length<40)(hD:∀x∈D,x<256)(h0:D≠[])(h:qw D c k vs lv r many):
  ∃a2 Hy Hz,ah af (deep af (d+31)) 71 [.int (.ofNat 1),.str (jX c k j),.ag (ae D),.ref 0] HL=.ok (.ref 2) (HV D a2 (vs++sr j ((D.drop r).take many)) S0 Hy Hz):=by
 obtain⟨f1,f2,f3,f4,f5,f6,_,_⟩:=h;obtain⟨st1,iK,i,g1,g2,g3,g4,g6⟩:=f6 (d+20);rw[←g6] at f5⊢;obtain⟨a2,Hy,Hz,g5⟩:=Ti (d:=d+20) (j:=j) (k:=i.toNat) (D:=D) (a:=r) (fs:=vs) (st:=st1) (τ:=iK) hj f5 (Nat.lt_trans hl (by decide)) hD f4 (gT vs f1) g2 (Nat.lt_trans f2 (by decide)) (Nat.lt_trans g1 (by decide))
 exact⟨a2,Hy,Hz,Pn hl hD (Pm (d:=d+28) hl hD (Ao (d:=d+5) ht) (LG (d:=d+20) (L:=cF c (.ofNat k)) (C':=MC j (-2)) (λ_=>rfl)
  (Pl (d:=d+20) (m2:=-2) rfl (L:=cF c (.ofNat k)) (inn:=MA j) (cl:=Ru j) (a1:=r) (st1:=st1) (vs:=vs) (lv:=lv) (i:=i) (out:=sr j ((D.drop r).take i.toNat)) (Nat.lt_trans hl (by decide)) h0
   (by rw[len_eq,List.length_append];rw[len_eq] at f2;exact Nat.lt_of_le_of_lt (Nat.succ_le_of_lt f2) (by decide)) (λ_=>rfl) (HE j) g3 g4 g5)) rfl)⟩
theorem Px{P:dR}{C:Nat->List LV->LH->Out LV}{ρ:List LV}{b:Bi}{as:dH}:(run P C (n+1)).t (.bi b as) ρ σ=oB ((run P C n).e (.bi b as) ρ σ) λv σ=>oN (truth v) λb=>.ok b σ:=rfl
theorem qx:∀vs:List LV,bf (vs++[v]) vs.length=some v
 |[]=>rfl
 |a::vs=>qx vs
theorem Ap(h:len (vs++[lv])<1000):bH (.ag (vs++[lv])) (.int (-.ofNat 1)) σ=some lv:=by
 show cO (idx (-.ofNat 1) (len (vs++[lv]))) (λj=>bf (vs++[lv]) j) none=_;show cO (cB (Nat.blt 0 (len (vs++[lv]))) (some (Nat.sub (len (vs++[lv])) 1)) none) (λj=>bf (vs++[lv]) j) none=_
 have e:len (vs++[lv])=vs.length+1:=by rw[len_eq,List.length_append];rfl
 rw[e,a6 (Nat.succ_pos _)];exact qx vs
theorem Aq(h:len (vs++[lv])<1000):bA (.ag (vs++[lv])) .none (.int (-.ofNat 1)) σ=.ok (.ref (len σ)) (app σ [.list vs]):=by
 show bN (small (len (vs++[lv]))) (oN (some 0) λl=>oN (some (Nat.sub (len (vs++[lv])) 1)) λh=>alloc σ (.list (cut (vs++[lv]) l h)))=_
 have e:len (vs++[lv])=vs.length+1:=by rw[len_eq,List.length_append];rfl
 rw[aN (by walk_at "om"),dW,aP,aP,lN,e,List.drop_zero];show alloc σ (.list ((vs++[lv]).take vs.length))=_;rw[List.take_left];rfl
theorem vZ(hl:D.length<900)(hr:r<=D.length):bA (.ag (ae D)) (.int (.ofNat r)) .none σ=.ok (.ref (len σ)) (app σ [.list (ae (D.drop r))]):=by
 show cT (ae D) _ _ σ=_;rw[eC (l:=if r<D.length then r else D.length) (h:=D.length) (by walk_at "om") (by rw[←cC];rfl) rfl]
 congr 4
 by_cases q:r<D.length
 ·rw[if_pos q,List.take_of_length_le (by rw[List.length_drop];exact Nat.le_refl _)]
 ·rw[if_neg q,show r=D.length by exact Nat.le_antisymm (Jl [r,D.length] 1 (.c 1 J0 J1 .z) J0 J1 Jt hr) (Jl [D.length,r] 1 (.c 1 J0 J1 .z) J0 J1 Jt (Jz q)),Nat.sub_self];simp
theorem oO{xs ys:List LV}(h:len xs+len ys<1000):ay .add (.ag xs) (.ag ys) σ=.ok (.ref (len σ)) (app σ [.list (xs++ys)]):=by
 show bN (small (Nat.add (len xs) (len ys))) (alloc σ (.list (app xs ys)))=_;rw[aN (show Nat.add (len xs) (len ys)<_ by show len xs+len ys<_;walk_at "om"),bb];rfl
theorem v3{v:LV}(h:flat v=true):cv σ v=.ok v σ:=by cases v<;>first|rfl|cases h
noncomputable def HF:St:=.dc [.nm 4,.nm 5] (.ag (.call 76 (.cons (.var 0) (.cons (.var 1) (.cons (.var 2) .nil)))))
noncomputable def HG:St:=.aV (.cmp (.var 0) .eq (.ag (.list .nil))) (.cons (.ret (.ite (.cmp (.var 4) .eq (.ag (.list .nil))) (.list .nil) (.str [100,105,101]))) .nil) .nil
noncomputable def HH:St:=.asg 6 (.sub (.var 4) (.neg (.int 1)))
noncomputable def Py:Ex:=.ite (.bi .isStr (.cons (.var 6) .nil)) (.call 75 (.cons (.var 6) .nil)) (.var 6)
noncomputable def HI:St:=.asg 6 (.bi .max (.cons Py (.cons (.int 0) .nil)))
theorem Pz{A V:List LV}{t:List Nat}{u w x:LV}{K r:Int}(e:ah P C 76 [.ag A,.str t,.int K] []=.ok (.tup [.ag V,.int r]) [])(z:freeze (len ([]:LH)) (.tup [.ag V,.int r]) []=.ok (.tup [.ag V,.int r]) []):
  (run P C (n+20)).s HF [.ag A,.str t,.int K,X,u,v,w,x] []=.nx [.ag A,.str t,.int K,X,.ag V,.int r,w,x] []:=by
 have s3:Nat.beq (len [Tg.nm 4,.nm 5]) (len [LV.ag V,.int r])=true:=rfl;unfold HF;walk_at "evk"
 all_goals rfl
theorem PA{A:List LV}{ρ:List LV}(z:∀σ,ao .eq (.ag A) (.ag []) σ=some false):(run P C (n+20)).s HG (.ag A::ρ) []=.nx (.ag A::ρ) []:=by
 have Ug:=aO (σ:=[]) (vs:=[]) rO rfl;have s1:small (len ([]:List LV))=true:=rfl;unfold HG;walk_at "evk"
theorem PB{V:List LV}{A B K J u w:LV}(z:∀σ,bH (.ag V) (.int (-.ofNat 1)) σ=some lv)(g:∀σ,cv σ lv=.ok lv σ):(run P C (n+20)).s HH [A,B,K,J,.ag V,u,w,v] []=.nx [A,B,K,J,.ag V,u,lv,v] []:=by
 have s4:b6 (Int.ofNat 1)=true:=rfl;unfold HH;walk_at "evk"
theorem LM{A B K J u w:LV}{x:Int}(g:∀σ,cv σ lv=.ok lv σ)(c:Bool)(h:∀σ,e6 .isStr [lv] σ=.ok (.bool c) σ)(h2:c=true->ah P C 75 [lv] []=.ok (.int x) [])(h3:c=false->lv=.int x):
  (run P C (n+20)).s HI [A,B,K,J,u,w,lv,v] []=.nx [A,B,K,J,u,w,.int (.ofNat x.toNat),v] []:=by
 have To:=λσ=>EJ (σ:=σ) x;have tb:=@Px
 have e:(run P C (n+17)).e Py [A,B,K,J,u,w,lv,v] []=.ok (.int x) []:=by
  unfold Py
  cases c with
  |true=>
   replace h2:=h2 rfl;clear h3;walk_at "evk"
  |false=>
   clear h2;cases h3 rfl;walk_at "evk"
 clear h h2 h3 g tb;exact t9 (OK (cS e (cS jc fu)) (To _)) rfl
noncomputable def Ar:Ex:=.ag (.slice (.var 4) .none (.neg (.int 1)))
noncomputable def sv:Ex:=.ag (.slice (.var 7) .none (.var 6))
theorem PC{V W:List LV}{A B K J:LV}(z:∀σ:LH,bA (.ag V) .none (.int (-.ofNat 1)) σ=.ok (.ref (len σ)) (app σ [.list W]))(f:freeze (len ([]:LH)) (.ref (len ([]:LH))) (app [] [.list W])=.ok (.ag W) []):
  (run P C (n+20)).e Ar (A::B::K::J::.ag V::ρ) []=.ok (.ag W) []:=by
 have s4:b6 (Int.ofNat 1)=true:=rfl;unfold Ar;walk_at "evk"
theorem PD{V W:List LV}{A B K J u w:LV}{x:Int}(z:∀σ:LH,bA (.ag V) .none (.int x) σ=.ok (.ref (len σ)) (app σ [.list W]))(f:freeze (len ([]:LH)) (.ref (len ([]:LH))) (app [] [.list W])=.ok (.ag W) []):
  (run P C (n+20)).e sv [A,B,K,J,u,w,.int x,.ag V] []=.ok (.ag W) []:=by
 unfold sv;walk_at "evk"
theorem PE{V W:List LV}{B K J u w:LV}{r:Int}(z:∀σ:LH,bA (.ag V) (.int r) .none σ=.ok (.ref (len σ)) (app σ [.list W]))(f:freeze (len ([]:LH)) (.ref (len ([]:LH))) (app [] [.list W])=.ok (.ag W) []):
  (run P C (n+20)).s (.asg 7 (.ag (.slice (.var 0) (.var 5) .none))) [.ag V,B,K,J,u,.int r,w,v] []=.nx [.ag V,B,K,J,u,.int r,w,.ag W] []:=by
 walk_at "evk"
theorem sx{s:St}{q:bB}{fq:List LV}{Y:av}{σ aG:LH}(h1:(run P C n).s s ρ σ=.nx fq aG)(h2:(run P C n).ss q fq aG=Y):(run P C (n+1)).ss (.cons s q) ρ σ=Y:=iG h1 (zp h2)
theorem Rw{a:Ex}{q:bB}{σ aG:LH}(h:(run P C n).e a ρ σ=.ok v aG):(run P C (n+2)).ss (.cons (.ret a) q) ρ σ=.ret v aG:=iG (Li h) c9
theorem LN{a d:Ex}{x y:LV}{σ aG:LH}{R:Out LV}(h1:(run P C n).e a ρ σ=.ok x aG)(h2:(run P C n).e d ρ aG=.ok y aG)(h3:ay .add x y aG=R):(run P C (n+1)).e (.bin .add a d) ρ σ=R:=Lk h1 h2 h3
theorem LP{A B K:LV}{t:List Nat}{b:Bool}(z:∀σ,ao .eq (.str t) (.str [97]) σ=some b):(run P C (n+20)).t (.cmp (.var 3) .eq (.str [97])) (A::B::K::.str t::ρ) []=.ok b []:=by
 walk_at "evk"
theorem PF{w:LV}{xs:List Nat}(h:∀m,(run P C (m+20)).e sv ρ []=.ok w [])(z:ah P C 70 [w] []=.ok (.str xs) []):(run P C (n+40)).e (.ag (.list (.cons (.call 70 (.cons sv .nil)) .nil))) ρ []=.ok (.ag [.str xs]) []:=by
 have z1:=aO (σ:=[]) (vs:=[.str xs]) rO rfl;have z2:small (len [LV.str xs])=true:=rfl;walk_at "evk";exact h _
 all_goals exact fu
theorem PG(hj:j<3)(hl:D.length<40)(hD:∀x∈D,x<256)(h0:D≠[])(h:qw D c k vs lv r many):
  ah af (deep af (d+4)) 77 [.ag (ae D),.str [c],.int (.ofNat k),.str (oV j)] []=.ok (.ref (len ([]:LH))) (app [] [.list (vs++sr j ((D.drop r).take many))]):=by
 obtain⟨f1,f2,f3,f4,f5,_,f7,f8⟩:=h;have f1:=gT vs f1;rw[aq (aU:=[.ag (ae D),.str [c],.int (.ofNat k),.str (oV j),.au,.au,.au,.au]) rfl rfl rfl]
 have hle:len (vs++[lv])<1000:=by rw[len_eq,List.length_append];rw[len_eq] at f2;show vs.length+1<1000;exact Jl [vs.length] 1 (.c 1 (.p J0 1) (.k 10) .z) (.p (.p J0 1) 1) (.k 1000) Jt f2
 have eh:((D.drop r).take many).length<40:=by rw[List.length_take,List.length_drop];exact Jl [D.length,_,r,_] 1 (.c 1 (.p J0 1) (.k 40) (.c 1 (.a J1 J2) J0 (.c 1 J3 J1 .z))) (.p J3 1) (.k 40) Jt hl (Jf (Nat.sub_add_cancel f4)) (Nat.min_le_right _ _)
 have z2:∀σ,ao .eq (.ag (ae D)) (.ag []) σ=some false:=λσ=>by
  cases D with
  |nil=>exact absurd rfl h0
  |cons x R=>rfl
 have PH:=λσ=>v3 (v:=lv) (σ:=σ) f3
 have a4:∃x,(∀n:Nat,(run af (deep af (d+3)) (n+20)).s HI [.ag (ae D),.str [c],.int (.ofNat k),.str (oV j),.ag (vs++[lv]),.int (.ofNat r),lv,.au] []=.nx [.ag (ae D),.str [c],.int (.ofNat k),.str (oV j),.ag (vs++[lv]),.int (.ofNat r),.int (.ofNat (Int.toNat x)),.au] [])/\x.toNat=many:=by
  rcases f8 with⟨x,rfl,hx⟩|⟨t,x,rfl,ht,hx⟩
  ·exact⟨x,λn=>LM PH false (λ_=>rfl) (λh=>by cases h) (λ_=>rfl),hx⟩
  ·exact⟨x,λn=>LM PH true (λ_=>rfl) (λ_=>ht (d+1)) (λh=>by cases h),hx⟩
 obtain⟨x,a4,hx⟩:=a4;rw[hx] at a4
 have Rx:∀σ,ao .eq (.str (oV j)) (.str [97]) σ=some (Nat.beq j 0):=λσ=>by
  rcases j with _|_|_|j
  ·rfl
  ·rfl
  ·rfl
  ·exact Jx [j] (.c 1 (.p (.p (.p (.p J0 1) 1) 1) 1) (.k 3) .z) Jt hj
 have e3:∀(n:Nat)(u:LV),(run af (deep af (d+3)) (n+20)).e Ar [.ag (ae D),.str [c],.int (.ofNat k),.str (oV j),.ag (vs++[lv]),.int (.ofNat r),.int (.ofNat many),u] []=.ok (.ag vs) []:=λn u=>PC (λσ=>Aq hle) (aO rO f1);have e4:∀n,(run af (deep af (d+3)) (n+20)).e sv [.ag (ae D),.str [c],.int (.ofNat k),.str (oV j),.ag (vs++[lv]),.int (.ofNat r),.int (.ofNat many),.ag (ae (D.drop r))] []=.ok (.ag (ae ((D.drop r).take many))) []:=λn=>
  PD (λσ=>slice_0 (by rw[List.length_drop];exact Jl [D.length,_,r] 1 (.c 1 (.p J0 1) (.k 40) (.c 1 (.a J1 J2) J0 .z)) (.p J1 1) (.k 900) Jt hl (Jf (Nat.sub_add_cancel f4)))) (aO rO (aI _))
 refine(?_:ba ((run af (deep af (d+3)) 3000).ss (.cons HF (.cons HG (.cons HH (.cons HI (.cons (.asg 7 (.ag (.slice (.var 0) (.var 5) .none))) (.cons (.aV (.cmp (.var 3) .eq (.str [97])) (.cons (.ret (.bin .add Ar (.ag (.list (.cons (.call 70 (.cons sv .nil)) .nil))))) .nil) .nil) (.cons (.ret (.bin .add Ar sv)) .nil))))))) _ _)=_);refine Lh (sx (Pz (f7 d) (iH (σ:=[]) (τ:=[]) rO rfl)) (sx (PA z2) (sx (PB (λσ=>Ap hle) PH) (sx (a4 2976) (sx (PE (λσ=>vZ (by walk_at "om") f4) (aO rO (aI _))) (?_:(run af (deep af (d+3)) 2995).ss _ _ _=.ret (.ref (len ([]:LH))) (app [] [.list (vs++sr j ((D.drop r).take many))]))))))) rfl
 rcases Nat.eq_zero_or_pos j with q|q
 ·subst q;have Tp:=gR (d:=d+2) (xs:=(D.drop r).take many) (σ:=[]) (λx h=>hD x (List.mem_of_mem_drop (List.mem_of_mem_take h))) (by walk_at "om") rO;exact iG (zt (LP Rx) (Rw (LN (e3 2970 _) (PF e4 Tp) (oO (by show len vs+1<_;exact Jl [_] 1 (.c 1 (.p J0 1) (.k 10) .z) (.p (.p J0 1) 1) (.k 1000) Jt f2))))) c9
 ·rw[show sr j ((D.drop r).take many)=ae ((D.drop r).take many) by rcases j with _|j<;>first|exact Jx [] (.c 1 (.p (.k 0) 1) (.k 0) .z) Jt q|rfl]
  have Tq:Nat.beq j 0=false:=by rcases j with _|j<;>first|exact Jx [] (.c 1 (.p (.k 0) 1) (.k 0) .z) Jt q|rfl
  exact sx (zt (LP λσ=>(Rx σ).trans (congrArg some Tq)) (Ez rfl)) (Rw (LN (e3 2971 _) (e4 2971) (oO (by rw[az];exact Jl [_,_] 1 (.c 1 (.p J0 1) (.k 10) (.c 1 (.p J1 1) (.k 40) .z)) (.p (.a J0 J1) 1) (.k 1000) Jt f2 eh))))
end
noncomputable def hS(j:Nat):List LV:=match j with|0=>[.str [52],.str [],.str [50,55],.str [57,49,49]]|_=>[.str [52],.str [49],.str [55],.str [57]]
noncomputable def uB(j b e:Nat):List LV:=((hS j++hS j).drop b).take e
noncomputable def As(j:Nat):List (List LV):=[]::[0,1,2,3].flatMap λb=>[1,2,3,4].map λe=>uB j b e
noncomputable def Ry:bB:=Ly 9 Qb
def Rz(L X Y Z:LV)(c k j:Nat)(vs:List LV):Bool:=vT ((run af (deep af 148) 2991).ss Ry [L,.str [c],.int (.ofNat k),.str (oV j),.str (jX c k j),X,Y,Z,.ag vs] [])
noncomputable def v8(c k:Nat):Prop:=∀L X Y Z:LV,dX 3 (λj=>(As j).all (Rz L X Y Z c k j))=true
theorem Au:v8 99 1:=by intro L X Y Z;kernel_rfl
theorem Av:v8 99 2:=by intro L X Y Z;kernel_rfl
theorem Aw:v8 99 3:=by intro L X Y Z;kernel_rfl
theorem Ax:v8 67 1:=by intro L X Y Z;kernel_rfl
theorem Ay:v8 67 2:=by intro L X Y Z;kernel_rfl
theorem Az:v8 67 3:=by intro L X Y Z;kernel_rfl
theorem AA:v8 97 1:=by intro L X Y Z;kernel_rfl
theorem AB:v8 97 2:=by intro L X Y Z;kernel_rfl
theorem AD:v8 65 1:=by intro L X Y Z;kernel_rfl
theorem AE:v8 65 2:=by intro L X Y Z;kernel_rfl
theorem AF:v8 90 1:=by intro L X Y Z;kernel_rfl
theorem AG:v8 90 2:=by intro L X Y Z;kernel_rfl
noncomputable def LQ:List (Nat×Nat):=[(99,1),(99,2),(99,3),(67,1),(67,2),(67,3),(97,1),(97,2),(65,1),(65,2),(90,1),(90,2)]
theorem Ts{c k:Nat}(h:(c,k)∈LQ):v8 c k:=by
 unfold LQ at h;simp only[List.mem_cons,List.not_mem_nil,or_false,Prod.mk.injEq] at h
 rcases h with⟨rfl,rfl⟩|⟨rfl,rfl⟩|⟨rfl,rfl⟩|⟨rfl,rfl⟩|⟨rfl,rfl⟩|⟨rfl,rfl⟩|⟨rfl,rfl⟩|⟨rfl,rfl⟩|⟨rfl,rfl⟩|⟨rfl,rfl⟩|⟨rfl,rfl⟩|⟨rfl,rfl⟩
 ·exact Au
 ·exact Av
 ·exact Aw
 ·exact Ax
 ·exact Ay
 ·exact Az
 ·exact AA
 ·exact AB
 ·exact AD
 ·exact AE
 ·exact AF
 ·exact AG
theorem AH(j:Nat){b e:Nat}(hb:b<4)(he:e<5):uB j b e∈As j:=by
 unfold As
 rcases Nat.eq_zero_or_pos e with rfl|q
 ·exact List.mem_cons.mpr (.inl (List.take_zero))
 ·refine List.mem_cons.mpr (.inr (List.mem_flatMap.mpr ⟨b,?_,List.mem_map.mpr ⟨e,?_,rfl⟩⟩))
  ·match b,hb with|0,_|1,_|2,_|3,_=>decide
  ·match e,q,he with|1,_,_|2,_,_|3,_,_|4,_,_=>decide
theorem HJ{L X Y Z:LV}{c k j b e:Nat}(h:(c,k)∈LQ)(hj:j<3)(hb:b<4)(he:e<5):Rz L X Y Z c k j (uB j b e)=true:=
 List.all_eq_true.mp (a9 (Ts h L X Y Z) j hj) _ (AH j hb he)
noncomputable def PI:Ex:=.cmp (.ag (.call 71 (.cons (.int 1) (.cons (.var 4) (.cons (.var 5) (.cons (.new 6 .nil) .nil)))))) .ne (.ag (.call 77 (.cons (.var 5) (.cons (.var 1) (.cons (.var 2) (.cons (.var 3) .nil))))))
section
variable{D:List Nat}{a r st d n m c k j many:Nat}{fs ss vs:List LV}{v lv dv kv L:LV}{τ σ:LH}{s:Bool}
theorem AI:∀v:LV,qv v=true->eqv v v=some true
 |.int i,_=>by
  show some (oZ i i)=_
  cases i with
  |ofNat a=>exact congrArg some (Nat.beq_refl a)
  |negSucc a=>exact congrArg some (Nat.beq_refl a)
 |.str s,_=>congrArg some (lO s)
 |.au,h|.none,h|.bool _,h|.tup _,h|.ag _,h|.ref _,h=>by cases h
theorem mR:∀vs:List LV,vs.all qv=true->wz vs vs=some true
 |[],_=>rfl
 |v::vs,h=>by
  rw[List.all_cons,Bool.and_eq_true] at h;show cO (eqv v v) (λt=>cO (wz vs vs) (λr=>some (cB t r false)) none) none=_;rw[AI v h.1,mR vs h.2];rfl
theorem lQ:∀vs:List LV,o6 vs vs=true
 |[]=>rfl
 |v::vs=>lQ vs
theorem HK(h:vs.all qv=true):ao .ne (.ag vs) (.ag vs) σ=some false:=by
 show jv (cB (o6 vs vs) (wz vs vs) (some false))=_;rw[lQ,mR vs h];rfl
theorem AJ{xs:List Nat}(hj:j<3)(h:vs.all qv=true):(vs++sr j xs).all qv=true:=by
 rw[List.all_append,h]
 rcases j with _|_|_|j
 ·rfl
 ·exact lP _ _
 ·exact lP _ _
 ·exact Jx [j] (.c 1 (.p (.p (.p (.p J0 1) 1) 1) 1) (.k 3) .z) Jt hj
theorem AK:fC.map (λt=>(run af (deep af 148) 2993).t PI [L,.str [t.1],.int (.ofNat t.2.1),.str (oV t.2.2),.str (jX t.1 t.2.1 t.2.2),.ag (ae []),.au,.au,.au] [])=
  fC.map λt=>.ok false []:=by kernel_rfl
theorem PJ{t A:List Nat}{X Y Z w H':LV}{H:LH}{W:List LV}(h:ah af (deep af 148) 71 [.int (.ofNat 1),.str t,.ag (ae A),.ref 0] HL=.ok (.ref 2) H)(z:freeze (len ([]:LH)) (.ref 2) H=.ok (.ag W) []):
  (run af (deep af 148) 2992).e (.ag (.call 71 (.cons (.int 1) (.cons (.var 4) (.cons (.var 5) (.cons (.new 6 .nil) .nil)))))) [L,X,Y,Z,.str t,.ag (ae A),v,w,H'] []=.ok (.ag W) []:=by
 have e:=Lx (d:=147) (n:=2984) (ρ:=[L,X,Y,Z,.str t,.ag (ae A),v,w,H']);refine EA (oz ?_ h) z;rw[cw,jc,aw,cw,iF,eu,eu,eu,eu,fv,aP,lz,aw,cw,iF,eu,eu,eu,eu,eu,fv,aP,eW,aw,cw,e];rfl
theorem PK{A B E:List Nat}{W:List LV}{K:Int}{ρ:List LV}{H:LH}{w:LV}(h:ah af (deep af 148) 77 [.ag (ae A),.str B,.int K,.str E] []=.ok w H)(z:freeze (len ([]:LH)) w H=.ok (.ag W) []):
  (run af (deep af 148) 2992).e (.ag (.call 77 (.cons (.var 5) (.cons (.var 1) (.cons (.var 2) (.cons (.var 3) .nil)))))) (L::.str B::.int K::.str E::v::.ag (ae A)::ρ) []=.ok (.ag W) []:=
 EA (oz rfl h) z
theorem HM(ht:(c,k,j)∈fC)(hj:j<3)(hl:D.length<40)(hD:∀x∈D,x∈b4):(run af (deep af 148) 2993).t PI [L,.str [c],.int (.ofNat k),.str (oV j),.str (jX c k j),.ag (ae D),.au,.au,.au] []=.ok false []:=by
 by_cases h0:D=[]
 ·subst h0;have h:=dT (AK (L:=L)) ht;dsimp only at h;exact h
 ·have eh:∀x∈D,x<256:=λx h=>Am x (hD x h)
  have hL:∃vs lv r many,qw D c k vs lv r many:=by
   have Tt:(c=99/\0<k/\k<9)∨(c=67/\0<k/\k<9)∨(c∈[97,65,90]/\(k=1∨k=2)):=by
    have:∀t∈fC,(t.1=99/\0<t.2.1/\t.2.1<9)∨(t.1=67/\0<t.2.1/\t.2.1<9)∨(t.1∈[97,65,90]/\(t.2.1=1∨t.2.1=2)):=by decide
    exact this _ ht
   rcases Tt with⟨rfl,h⟩|⟨rfl,h⟩|⟨h,h'⟩
   ·exact uA (s:=true) (.inl ⟨rfl,rfl⟩) h (by walk_at "om") eh h0
   ·exact uA (s:=false) (.inr ⟨rfl,rfl⟩) h (by walk_at "om") eh h0
   ·exact An h h' (by walk_at "om") hD h0
  obtain⟨vs,lv,r,many,h⟩:=hL;obtain⟨a2,Hy,Hz,h1⟩:=Pw (d:=117) ht hj hl eh h0 h;have he:=AJ (xs:=(D.drop r).take many) hj h.1;have hf:=gT _ he;exact G0 (PJ h1 (vW hf)) (PK (PG (d:=144) hj hl eh h0 h) (aO rO hf)) (HK he) rfl
end
set_option compiler.extract_closed false in
set_option compiler.extract_closed false in
noncomputable def mS(c:Int):Nat:=b4.getD (Int.fmod c (.ofNat 12)).toNat 0
noncomputable def lR(l:List Int):List Nat:=((l.drop 3).take 12).map mS
noncomputable def Il(p:Nat):Nat:=[99,67,97,65,90].getD p 0
noncomputable def sy:Ex:=.ag (.list (.cons (.int 48) (.cons (.int 49) (.cons (.int 50) (.cons (.int 57) (.cons (.int 45) (.cons (.int 32) (.cons (.int 0) (.cons (.int 1) (.cons (.int 3) (.cons (.int 200) (.cons (.int 255) (.cons (.int 90) .nil)))))))))))))
noncomputable def Im:Ex:=.sub sy (.bin .mod (.var 0) (.int 12))
noncomputable def PL:Ex:=.bin .add (.bin .add (.bin .add (.var 1) (.bi .str (.cons (.var 2) .nil))) (.str [47])) (.var 3)
noncomputable def AL:Ex:=.ag (.ite (.cmp (.var 3) .eq (.str [97])) (.list (.cons (.str [52]) (.cons (.str []) (.cons (.str [50,55]) (.cons (.str [57,49,49]) .nil))))) (.list (.cons (.str [52]) (.cons (.str [49]) (.cons (.str [55]) (.cons (.str [57]) .nil))))))
section
variable{P:dR}{C:Nat->List LV->LH->Out LV}{D:List Nat}{a r st d n m c k j p b e many:Nat}{fs ss vs V ρ:List LV}{v lv dv kv L X Y Z:LV}{τ σ:LH}{s:Bool}{l:List Int}
theorem LR(hb:HB σ):(run P C (n+20)).e sy ρ σ=.ok (.ag (ae b4)) σ:=by
 have h:(run P C (n+18)).es (.cons (.int 48) (.cons (.int 49) (.cons (.int 50) (.cons (.int 57) (.cons (.int 45) (.cons (.int 32) (.cons (.int 0) (.cons (.int 1) (.cons (.int 3) (.cons (.int 200) (.cons (.int 255) (.cons (.int 90) .nil)))))))))))) ρ σ=.ok (ae b4) σ:=rfl;unfold sy;rw[jV,zj,h,aw];exact aO hb (aI _)
theorem v9(c:Int):mS c∈b4:=by
 have h:=(du c (k:=12) (by decide)).2;unfold mS;generalize (Int.fmod c (.ofNat 12)).toNat=q at *
 have:∀q<12,b4.getD q 0∈b4:=by decide
 exact this q h
theorem LU{c:Int}(hb:HB σ):(run P C (n+30)).e Im (.int c::ρ) σ=.ok (.int (.ofNat (mS c))) σ:=by
 have h1:=LR (P:=P) (C:=C) (n:=n+9) (ρ:=.int c::ρ) hb;have h2:=(du c (k:=12) (by decide)).2;have h3:=b9 (σ:=σ) (c:=c) (k:=12) rfl;unfold Im;rw[tZ,h1,aw,Et,iF,fv,aP,ly,aw,jc,aw];rw[show(12:Int)=.ofNat 12 from rfl,h3,aw];unfold mS;generalize (Int.fmod c (.ofNat 12)).toNat=q at *;have:∀q,q<12->bH (.ag (ae b4)) (.int (.ofNat q)) σ=some (.int (.ofNat (b4.getD q 0)))
  |0,_|1,_|2,_|3,_|4,_|5,_|6,_|7,_|8,_|9,_|10,_|11,_=>rfl
  |_+12,h=>by exact Jx [_] (.c 1 (.p (.p J0 12) 1) (.k 12) .z) Jt h
 rw[this q h2];rfl
theorem HN(hl:l.length<100):(run P C 2994).e (.ag (.comp Im (.slice (.var 0) (.int 3) (.int 15)))) (.ag (aC l)::ρ) []=.ok (.ag (ae (lR l))) []:=by
 have hlen:(aC ((l.drop 3).take 12)).length<=12:=by simp[aC];walk_at "om"
 have h:=qs (P:=P) (C:=C) (elt:=Im) (it:=.slice (.var 0) (.int 3) (.int 15)) (vs:=aC ((l.drop 3).take 12)) (f:=Rl λc=>.int (.ofNat (mS c))) (ρ:=.ag (aC l)::ρ) (n:=2952-(aC ((l.drop 3).take 12)).length)
  (by
   rw[show 2952-(aC ((l.drop 3).take 12)).length+(aC ((l.drop 3).take 12)).length+40=2991+1 by exact Nat.le_antisymm (Jl [_,_] 1 (.c 1 (.a J0 J1) (.k 2952) .z) (.p (.a J0 J1) 40) (.p (.k 2991) 1) Jt (Jf (Nat.sub_add_cancel (Jl [_] 1 (.c 1 J0 (.k 12) .z) J0 (.k 2952) Jt hlen)))) (Jl [_,_] 1 (.c 1 (.k 2952) (.a J0 J1) .z) (.p (.k 2991) 1) (.p (.a J0 J1) 40) Jt (Jg (Nat.sub_add_cancel (Jl [_] 1 (.c 1 J0 (.k 12) .z) J0 (.k 2952) Jt hlen)))),oo,iF,fv,aP,eW,aw,jc,aw,jc,aw]
   exact uq (l:=l) (a:=3) (b:=15) (lo:=.int 3) (σ:=[]) (by walk_at "om") (by rw[←cC];rfl) (by walk_at "om"))
  (mP _) (by walk_at "om")
  (λx hx=>by obtain⟨c,_,rfl⟩:=List.mem_map.mp hx;rfl)
  (λm ax x hb hx=>by obtain⟨c,_,rfl⟩:=List.mem_map.mp hx;exact LU hb)
 rw[show 2952-(aC ((l.drop 3).take 12)).length+(aC ((l.drop 3).take 12)).length+42=2994 by exact congrArg (·+42) (Nat.sub_add_cancel (Jl [_] 1 (.c 1 J0 (.k 12) .z) J0 (.k 2952) Jt hlen))] at h;rw[h]
 congr 2
 unfold aC lR ae;rw[List.map_map,List.map_map];rfl
theorem wa:∀x∈lR l,x∈b4:=λx h=>by
 obtain⟨c,_,rfl⟩:=List.mem_map.mp h;exact v9 c
theorem wb:(lR l).length<40:=by unfold lR;simp;exact Jl [_] 1 (.c 1 J0 (.k 12) .z) (.p J0 1) (.k 40) Jt (Nat.min_le_left _ _)
theorem PM:fC.map (λt=>(run af C 2995).e PL [L,.str [t.1],.int (.ofNat t.2.1),.str (oV t.2.2),.au,.au,.au,.au,.au] [])=fC.map λt=>.ok (.str (jX t.1 t.2.1 t.2.2)) []:=by
 kernel_rfl
theorem HO:[0,1,2].map (λj=>(run af C 2991).e AL [L,X,Y,.str (oV j),Z,lv,v,.au,.au] [])=[0,1,2].map λj=>.ok (.ag (hS j)) []:=by
 kernel_rfl
theorem sC(hV:V.length=8)(hb:b<4)(he:e<5):bA (.ref (len ([]:LH))) (.int (.ofNat b)) (.int (.ofNat (Nat.add b e))) (app [] [.list V])=.ok (.ref 1) [.list V,.list ((V.drop b).take e)]:=by
 show bN (small (len V)) (oN (some (clamp (.ofNat b) (len V))) λl=>oN (some (clamp (.ofNat (b+e)) (len V))) λh=>alloc [.list V] (.list (cut V l h)))=_
 have hl:len V=8:=by rw[len_eq,hV]
 rw[hl,cC,cC,if_pos (by walk_at "om"),if_pos (by exact Jl [b,e] 1 (.c 1 (.p J0 1) (.k 4) (.c 1 (.p J1 1) (.k 5) .z)) (.p (.a J0 J1) 1) (.k 8) Jt hb he),aP,aP,lN,show b+e-b=e by exact Nat.le_antisymm (Jl [_,b,e] 1 (.c 1 (.a J0 J1) (.a J1 J2) .z) J0 J2 Jt (Jf (Nat.sub_add_cancel (Jl [b,e] 1 .z J0 (.a J0 J1) Jt)))) (Jl [b,e,_] 1 (.c 1 (.a J0 J1) (.a J2 J0) .z) J1 J2 Jt (Jg (Nat.sub_add_cancel (Jl [b,e] 1 .z J0 (.a J0 J1) Jt))))];rfl
theorem Dn(hv:vs.all flat=true):freeze (len ([]:LH)) (.ref 1) [.list V,.list vs]=.ok (.ag vs) []:=by
 show oN (cO (eR (fz [.list V,.list vs] 0 63) vs) (λq=>some (LV.ag q)) none) (λv'=>Out.ok v' [])=_;rw[da vs hv];rfl
noncomputable def HP:St:=.asg 1 (.ag (.sub (.str [99,67,97,65,90]) (.bin .mod (.call 69 (.cons (.var 0) (.cons (.int 0) .nil))) (.int 5))))
noncomputable def HQ:St:=.asg 2 (.bin .add (.int 1) (.bin .mod (.call 69 (.cons (.var 0) (.cons (.int 1) .nil))) (.ite (.cmp (.var 1) .isin (.str [99,67])) (.int 3) (.int 2))))
noncomputable def HR:St:=.asg 3 (.ag (.sub (.ag (.list (.cons (.str [97]) (.cons (.str [67]) (.cons (.str [40,67,41]) .nil))))) (.bin .mod (.call 69 (.cons (.var 0) (.cons (.int 2) .nil))) (.int 3))))
noncomputable def HS:St:=.asg 6 (.bin .mod (.call 69 (.cons (.var 0) (.cons (.int 3) .nil))) (.int 4))
noncomputable def HT:St:=.asg 8 (.ag (.slice (.bin .add (.var 7) (.var 7)) (.var 6) (.bin .add (.var 6) (.bin .mod (.bin .fdiv (.call 69 (.cons (.var 0) (.cons (.int 3) .nil))) (.int 4)) (.int 5)))))
section
variable{A S W:List LV}{x1 x2 x3 x4 x5 x6 x7 u:LV}{z y:Int}{t:List Nat}{q:Nat}
theorem PN(c:∀σ,ah P C 69 [.ag A,.int (.ofNat 0)] σ=.ok (.int z) σ)(m:∀σ,ay .mod (.int z) (.int (.ofNat 5)) σ=.ok (.int y) σ)(h:∀σ,bH (.str [99,67,97,65,90]) (.int y) σ=some (.str t)):
  (run P C (n+20)).s HP (.ag A::u::ρ) []=.nx (.ag A::.str t::ρ) []:=by
 have f:freeze (len ([]:LH)) (.str t) []=.ok (.str t) []:=eO (σ:=[]) (τ:=[]) rO rfl;unfold HP;walk_at "evk"
theorem PO(b:Bool)(hi:∀σ,ao .isin (.str t) (.str [99,67]) σ=some b)(c:∀σ,ah P C 69 [.ag A,.int (.ofNat 1)] σ=.ok (.int z) σ)(m:∀σ,ay .mod (.int z) (.int (.ofNat (cB b 3 2))) σ=.ok (.int (.ofNat q)) σ):
  (run P C (n+20)).s HQ (.ag A::.str t::u::ρ) []=.nx (.ag A::.str t::.int (.ofNat (1+q))::ρ) []:=by
 have e1:Nat.add 1 q=1+q:=rfl;unfold HQ
 cases b with
 |true=>
  replace m:∀σ,ay .mod (.int z) (.int (.ofNat 3)) σ=.ok (.int (.ofNat q)) σ:=m;walk_at "evk"
 |false=>
  replace m:∀σ,ay .mod (.int z) (.int (.ofNat 2)) σ=.ok (.int (.ofNat q)) σ:=m;walk_at "evk"
theorem PQ(c:∀σ,ah P C 69 [.ag A,.int (.ofNat 2)] σ=.ok (.int z) σ)(m:∀σ,ay .mod (.int z) (.int (.ofNat 3)) σ=.ok (.int y) σ)(h:∀σ,bH (.ag [.str [97],.str [67],.str [40,67,41]]) (.int y) σ=some (.str t)):
  (run P C (n+20)).s HR (.ag A::x1::x2::u::ρ) []=.nx (.ag A::x1::x2::.str t::ρ) []:=by
 have f:freeze (len ([]:LH)) (.str t) []=.ok (.str t) []:=eO (σ:=[]) (τ:=[]) rO rfl;have f3:=aO (σ:=[]) (vs:=[.str [97],.str [67],.str [40,67,41]]) rO rfl;have s3:small (len [LV.str [97],.str [67],.str [40,67,41]])=true:=rfl;unfold HR;walk_at "evk"
theorem PR(c:∀σ,ah P C 69 [.ag A,.int (.ofNat 3)] σ=.ok (.int z) σ)(m:∀σ,ay .mod (.int z) (.int (.ofNat 4)) σ=.ok (.int y) σ):
  (run P C (n+20)).s HS (.ag A::x1::x2::x3::x4::x5::u::ρ) []=.nx (.ag A::x1::x2::x3::x4::x5::.int y::ρ) []:=by
 unfold HS;walk_at "evk"
theorem PS{b e:Nat}(c:∀σ,ah P C 69 [.ag A,.int (.ofNat 3)] σ=.ok (.int z) σ)(m5:∀σ,ay .fdiv (.int z) (.int (.ofNat 4)) σ=.ok (.int y) σ)(m4:∀σ,ay .mod (.int y) (.int (.ofNat 5)) σ=.ok (.int (.ofNat e)) σ)
  (g1:∀σ:LH,ay .add (.ag S) (.ag S) σ=.ok (.ref (len σ)) (app σ [.list V])) (g2:bA (.ref (len ([]:LH))) (.int (.ofNat b)) (.int (.ofNat (Nat.add b e))) (app [] [.list V])=.ok (.ref 1) [.list V,.list W])
  (g3:freeze (len ([]:LH)) (.ref 1) [.list V,.list W]=.ok (.ag W) []):
  (run P C (n+20)).s HT [.ag A,x1,x2,x3,x4,x5,.int (.ofNat b),.ag S,u] []=.nx [.ag A,x1,x2,x3,x4,x5,.int (.ofNat b),.ag S,.ag W] []:=by
 unfold HT;walk_at "evk"
end
theorem EM{p:Nat}(h:p<5)(σ:LH):bH (.str [99,67,97,65,90]) (.int (.ofNat p)) σ=some (.str [Il p])/\ao .isin (.str [Il p]) (.str [99,67]) σ=some (Nat.blt p 2):=
 match p,h with
 |0,_|1,_|2,_|3,_|4,_=>⟨rfl,rfl⟩
theorem LW{j:Nat}(h:j<3)(σ:LH):bH (.ag [.str [97],.str [67],.str [40,67,41]]) (.int (.ofNat j)) σ=some (.str (oV j)):=
 match j,h with
 |0,_|1,_|2,_=>rfl
theorem HW:dX 5 (λp=>dX (cB (Nat.blt p 2) 3 2) λq=>dX 3 λj=>decide ((Il p,1+q,j)∈fC/\(Il p,1+q)∈LQ))=true:=by kernel_rfl
theorem HX{p q j:Nat}(hp:p<5)(hq:q<cB (Nat.blt p 2) 3 2)(hj:j<3):(Il p,1+q,j)∈fC/\(Il p,1+q)∈LQ:=
 of_decide_eq_true (a9 (a9 (a9 HW p hp) q hq) j hj)
theorem PT(h:(c,k,j)∈fC):(run af C 2996).s (.asg 4 PL) [L,.str [c],.int (.ofNat k),.str (oV j),.au,.au,.au,.au,.au] []=.nx [L,.str [c],.int (.ofNat k),.str (oV j),.str (jX c k j),.au,.au,.au,.au] []:=by
 have h:=dT (PM (C:=C) (L:=L)) h;dsimp only at h;exact t9 h rfl
theorem PU(h:l.length<100):(run P C 2995).s (.asg 5 (.ag (.comp Im (.slice (.var 0) (.int 3) (.int 15))))) [.ag (aC l),X,Y,Z,v,.au,.au,.au,.au] []=.nx [.ag (aC l),X,Y,Z,v,.ag (ae (lR l)),.au,.au,.au] []:=
 t9 (HN h) rfl
theorem PV(h:j<3):(run af C 2992).s (.asg 7 AL) [L,X,Y,.str (oV j),Z,lv,v,.au,.au] []=.nx [L,X,Y,.str (oV j),Z,lv,v,.ag (hS j),.au] []:=
 t9 (dT HO (x:=j) (by match j,h with|0,_|1,_|2,_=>decide)) rfl
theorem HY(j b e:Nat):(uB j b e).all flat=true:=by
 have:(hS j++hS j).all flat=true:=by rcases j with _|j<;>rfl
 rw[List.all_eq_true] at this⊢;exact λx hx=>this x (List.mem_of_mem_drop (List.mem_of_mem_take hx))
theorem HZ(hl:l.length<=63){p q j b e:Nat}(hp:p<5)(hq:q<cB (Nat.blt p 2) 3 2)(hj:j<3)(hb:b<4)(he:e<5){z0 z1 z2 z3 y:Int}
  (c0:∀σ,ah af (deep af 148) 69 [.ag (aC l),.int (.ofNat 0)] σ=.ok (.int z0) σ) (c1:∀σ,ah af (deep af 148) 69 [.ag (aC l),.int (.ofNat 1)] σ=.ok (.int z1) σ)
  (c2:∀σ,ah af (deep af 148) 69 [.ag (aC l),.int (.ofNat 2)] σ=.ok (.int z2) σ) (c3:∀σ,ah af (deep af 148) 69 [.ag (aC l),.int (.ofNat 3)] σ=.ok (.int z3) σ)
  (m0:∀σ,ay .mod (.int z0) (.int (.ofNat 5)) σ=.ok (.int (.ofNat p)) σ) (m1:∀σ,ay .mod (.int z1) (.int (.ofNat (cB (Nat.blt p 2) 3 2))) σ=.ok (.int (.ofNat q)) σ)
  (m2:∀σ,ay .mod (.int z2) (.int (.ofNat 3)) σ=.ok (.int (.ofNat j)) σ) (m3:∀σ,ay .mod (.int z3) (.int (.ofNat 4)) σ=.ok (.int (.ofNat b)) σ)
  (m5:∀σ,ay .fdiv (.int z3) (.int (.ofNat 4)) σ=.ok (.int y) σ) (m4:∀σ,ay .mod (.int y) (.int (.ofNat 5)) σ=.ok (.int (.ofNat e)) σ):
  ∃σ,ba ((run af (deep af 148) 3000).ss (.cons HP (.cons HQ (.cons HR (.cons (.asg 4 PL) (.cons (.asg 5 (.ag (.comp Im (.slice (.var 0) (.int 3) (.int 15))))) (.cons (.aV PI (.cons (.ret (.bool false)) .nil) .nil) (.cons HS (.cons (.asg 7 AL) (.cons HT Ry))))))))) [.ag (aC l),.au,.au,.au,.au,.au,.au,.au,.au] [])=.ok (.bool true) σ:=by
 have ht:=HX hp hq hj;obtain⟨σ,h9⟩:=ur (HJ (L:=.ag (aC l)) (X:=.ag (ae (lR l))) (Y:=.int (.ofNat b)) (Z:=.ag (hS j)) ht.2 hj hb he)
 have RA:len (hS j)=4/\(hS j++hS j).length=8:=by rcases j with _|j<;>exact⟨rfl,rfl⟩
 exact⟨σ,Lh (sx (PN c0 m0 λσ=>(EM hp σ).1) (sx (PO _ (λσ=>(EM hp σ).2) c1 m1) (sx (PQ c2 m2 (LW hj)) (sx (PT ht.1) (sx (PU (by walk_at "om"))
  (sx (zt (HM ht.1 hj wb wa) (Ez rfl)) (sx (PR c3 m3)
  (sx (PV hj)
  (sx (PS c3 m5 m4 (λσ=>oO (by exact Jl [_] 1 (.c 2 J0 (.k 4) .z) (.p (.a J0 J0) 1) (.k 1000) Jt (Jf RA.1))) (sC RA.2 hb he) (Dn (HY j b e))) h9))))))))) rfl⟩
theorem H0(hl:l.length<=63):∃σ,ah af (deep af 149) 79 [.ag (aC l)] []=.ok (.bool true) σ:=by
 rw[aq (d:=148) (aU:=[.ag (aC l),.au,.au,.au,.au,.au,.au,.au,.au]) rfl rfl rfl]
 have hk:∀b:Bool,Nat.blt 0 (cB b 3 2)=true:=λb=>by cases b<;>rfl
 exact HZ hl (fS _ 5 rfl) (fS _ _ (hk _)) (fS _ 3 rfl) (fS _ 4 rfl) (fS _ 5 rfl)
  (λσ=>dG (d:=147) (by walk_at "om") (by walk_at "om")) (λσ=>dG (d:=147) (by walk_at "om") (by exact Jl [] 1 .z (.p (.k 1) 1) (.k 1000) Jt)) (λσ=>dG (d:=147) (by walk_at "om") (by exact Jl [] 1 .z (.p (.k 2) 1) (.k 1000) Jt)) (λσ=>dG (d:=147) (by walk_at "om") (by exact Jl [] 1 .z (.p (.k 3) 1) (.k 1000) Jt))
  (λσ=>b9 rfl) (λσ=>b9 (hk _)) (λσ=>b9 rfl) (λσ=>b9 rfl) (λσ=>by rw[fL];rfl) (λσ=>b9 rfl)
end
theorem wc(l:List Int)(hl:l.length<=63):∃σ,ah af (deep af 150) 83 [.ag (l.map .int)] []=.ok (.bool true) σ:=
 Aa (λ_ h=>H0 h) (λ_ h=>Hn h) (λ_ h=>Ho h) (λ_ h=>Hp h) l hl
end MineP
end

theorem PySem.Challenge.cw_qd0154_02_holds : PySem.Challenge.rw_qd0154_02.Holds := by
 exact Mine.qb Mine.K4 MineP.wc
