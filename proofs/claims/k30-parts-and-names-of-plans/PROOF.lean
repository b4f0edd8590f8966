import PyProof.Rows.All
import Wide.All
import OpenK.AllK
import Wide.FinOn
import HandS.ForMost
import HandS.Exc
import HandS.IsInst
import HandS.Walk
import HandS.Star
import HandS.CallSlots
import HandS.Lambda
import KE.KDflt
import KE.KDictKeyed
import HandS.ExcOwn
import HandS.ExcCtx
import HandS.HotCalls
import HandS.RaiseFrom
import HandS.SuiteRaise
import HandS.WordsExc
import HandS.Property
import HandS.Wide
import HandS.TupAny
import HandS.TupMul
import HandS.WordsDict
import HandS.Zip
import HandS.Rev
import KE.GoesMore
import KE.GoesZip
import KE.GoesEnum
import HandS.Small
import HandS.StrMore
import HandS.Comp
import HandS.Iter
import KE.SortData
import KE.KDictSum
import PyProof.CollectStr
import HandS.More
import KE.KExcSuper
import HandS.ExcInit
import HandS.ExcIs
import HandS.TryMany
import KE.KTryMore
import HandS.ExcField
import HandS.Style
import HandS.SetKeys
import HandS.TupSets
import KE.KOpsOwn
import HandS.FStr
import HandS.Defaults
import HandS.MakeKw
import HandS.NoneIn
import HandS.EndTab
import KE.KNestM
import HandS.SetFor
import HandS.SetTxt0
import HandS.Strs
import KE.DataMinMax
import PyProof.ListStr
import HandS.Codes
import HandS.HeadNt
import HandS.HeadHook4
import HandS.HeadWalk
import HandS.HeadEnd
import HandS.Head2
import HandS.MethStar
import PyProof.SliceStr2
import HandS.New0
import PyProof.Rows.SetFrom
import HandS.Deep
import KE.KDictPairs
import PyProof.StrBlock2
import HandS.ExcInitHot
import HandS.Text
import HandS.ClsMeth
import HandS.Conv
import HandS.DictComp
import HandS.MakeKwOnly
import HandS.OwnEq
import PyProof.NeKinds
import HandS.GenOver
import HandS.Base
import HandS.GenBody
import PyProof.GenComp
import PyProof.ForAny
import HandS.GenList
import HandS.GenCall
import HandS.SortKw
import PyProof.WalkInts
import PyProof.StrWalks
import PySem.Challenge.RW_waysagree_k30_parts_and_names_of_plans
abbrev dD:=@List.map_cons
abbrev dE:=@Nat.le_refl
abbrev d3:=@PySem.W.mg_of
abbrev eC:=@List.size_toArray
abbrev eY:=@Option.some.inj
abbrev fO:=@Nat.ne_of_lt
abbrev gb:=@Option.map_eq_some_iff
abbrev gG:=@PySem.boot_len
abbrev hy:=@List.getElem?_eq_getElem
abbrev hA:=@PyProof.Rows.boot_isinstance
abbrev iA:=@Ne.symm
abbrev iB:=@List.mem_cons
abbrev iC:=@List.length_eq_zero_iff
abbrev iD:=@Nat.zero_le
abbrev i5:=@List.filterMap_cons
abbrev jy:=@Bool.false_ne_true
abbrev jz:=@Nat.lt_irrefl
abbrev jA:=@Nat.lt_of_lt_of_le
abbrev jB:=@PySem.W.mg_none_of
abbrev j1:=@List.length_cons
abbrev j2:=@Nat.le_of_lt
abbrev lC:=@List.getElem?_set_self
abbrev lD:=@Nat.lt_trans
abbrev lE:=@PyProof.Rows.boot_int
abbrev mJ:=@List.mem_of_getElem?
abbrev mK:=@List.mem_append
abbrev mL:=@Nat.lt_succ_self
abbrev mM:=@List.mem_append_right
abbrev nL:=@List.getElem?_set_ne
abbrev nM:=@Nat.ne_of_gt
abbrev nN:=@Nat.lt_of_le_of_lt
abbrev nO:=@List.length_nil
abbrev nP:=@PySem.mem_of_lookup
abbrev pk:=@List.mem_singleton
abbrev qL:=@List.nodup_cons
abbrev qM:=@List.mem_cons_of_mem
abbrev qN:=@List.length_eq_one_iff
abbrev s7:=@List.getElem?_append_left
abbrev s8:=@List.map_map
abbrev s9:=@List.getElem_mem
abbrev ta:=@Option.map_some
abbrev td:=@PyProof.Rows.boot_list
abbrev tf:=@PyProof.Rows.boot_tuple
abbrev vx:=@List.map_nil
abbrev vy:=@Nat.zero_add
abbrev vz:=@List.mem_cons_self
abbrev vA:=@PySem.W.callWith_K
abbrev vB:=@List.getElem?_append_right
abbrev vC:=@Nat.sub_self
abbrev vD:=@List.of_mem_zip
abbrev vE:=@Nat.le_trans
abbrev vF:=@Array.mem_of_getElem?
abbrev vG:=@List.drop_eq_getElem_cons
abbrev vH:=@Int.natAbs_natCast
abbrev vI:=@List.foldl_cons
abbrev vJ:=@PyProof.Rows.boot_abs
abbrev y3:=@List.drop_length
abbrev y4:=@List.getElem_cons_drop
abbrev y5:=@List.map_congr_left
abbrev y6:=@List.length_map
abbrev y7:=@Nat.add_le_add_left
abbrev y8:=@List.append_nil
abbrev y9:=@List.zip_cons_cons
abbrev y_:=@Bool.false_eq_true
abbrev y':=@Int.neg_ediv_of_dvd
abbrev za:=@List.all_eq_true
abbrev zb:=@Array.getElem?_setIfInBounds
abbrev zf:=@Array.getElem?_push
abbrev zg:=@List.mem_append_left
abbrev zh:=@List.filterMap_map
abbrev zi:=@PyProof.Rows.boot_str
abbrev zj:=@PySem.F.excBase_ValueError
abbrev zk:=@PySem.F.store_ValueError
abbrev Dd:=@List.getElem?_cons_succ
abbrev De:=@List.getElem?_cons_zero
abbrev Df:=@List.length_pos_iff
abbrev Dg:=@Int.emod_lt_of_pos
abbrev Dh:=@List.set_getElem_self
abbrev Di:=@List.reverse_cons
abbrev Dj:=@List.getElem?_eq_none_iff
abbrev Dk:=@Nat.eq_zero_or_pos
abbrev Dl:=@Array.getElem?_eq_getElem
abbrev Dm:=@Rat.divInt_eq_divInt_iff
abbrev Dq:=@List.filter_cons_of_neg
abbrev Dr:=@List.filter_cons_of_pos
abbrev Ds:=@List.foldl_append
abbrev Dt:=@PyProof.Rows.boot_bool
abbrev Du:=@PySem.F.slot_list_append
abbrev Dw:=@PySem.F.type_list_append
abbrev JA:=@List.take_succ_eq_append_getElem
noncomputable section
set_option Elab.async false
set_option linter.all false
set_option maxRecDepth 100000
set_option maxHeartbeats 4000000
namespace Z
open PySem PySem.Spec L2
def JB(K:PySem.W.Frag)(D:Addr):Bool :=
 decide (PySem.W.findIn K (.ref D) "__getattribute__"=some (some (.builtin "BaseException.__getattribute__")))&&(decide (PySem.W.findIn K (.ref D) "__getattr__"=some none)&&(decide (PySem.W.subIn K (.ref D) (.type "BaseException")=some true)&&(PySem.W.hasDictIn K D &&
 (decide (PySem.W.findIn K (.ref D) "__class__"=some (some (.builtin "object.__class__")))&&decide (PySem.W.mroIn K D (.type "object")=some true)))))
def ti(K:PySem.W.Frag)(C Cb mN ab:Addr)(bm:List Value)(R nw it:String)(nx:Value)(fs:List Str):Bool :=
 PySem.W.keepIn K (.ref C)&&(PySem.W.excInitIn K C bm nw&&(PySem.W.excOver K C bm&&((PySem.W.clsIn K C).isSome&&(decide (PySem.W.findIn K (.ref C) "__setattr__"=some (some (.builtin "object.__setattr__")))&&(PySem.W.hasDictIn K C &&
 (decide (PySem.W.findIn K (.ref C) "__init__"=some (some (.ref mN)))&&(decide (PySem.W.typeIn K (.ref mN)=some (.type "function"))&&(decide (PySem.W.subIn K (.ref C) (.type "BaseException")=some true)&&(decide (PySem.W.subIn K (.ref C) (.type R)=some true) &&
 (decide (PySem.W.typeIn K (.ref C)=some (.type "type"))&&(decide (PySem.W.mroIn K C (.ref C)=some true)&&(decide (PySem.W.ks_superIn K C C "__init__"=some (some nx))&&(decide (PySem.W.mroIn K C (.ref Cb)=some true) &&
 (decide (PySem.W.ks_superIn K C Cb "__init__"=some (some (.builtin it)))&&(decide ((K.lookup ab).map (·.cls)=some (.type "function"))&&(PySem.W.fnIn K ab&&(JB K C&&fs.all λf=>decide (PySem.W.findIn K (.ref C) f=some none))))))))))))))))))
end Z
namespace ZK
open PySem PySem.W PySem.Calls PyProof.Rows He He5
abbrev zl:Type:=Option (Str×Str×Arguments×FuncBody×Scope×Addr×Addr×Value)
structure dQ where
 at_:Frag->Addr
 cls:Frag->Addr
 name:PySem.Str
 qual:PySem.Str
 params:Arguments
 body:List Stmt
 scope:Scope
def qO(K:Frag)(a:Addr):zl:=match K.lookup a with
 |some ⟨_,_,.func fd,_⟩=>some (fd.name,fd.qualname,fd.params,fd.body,fd.scope,fd.globals,fd.builtins,fd.defaults)
 |_=>none
def dQ.val(d:dQ):zl:=some (d.name,d.qual,d.params,.stmts d.body,d.scope,mainGlobals,builtinsNs,.none)
def JC(K:Frag)(cc D:Addr):Bool:=match K.lookup cc with
 |some ⟨_,_,.cell (some (.ref E)),_⟩=>decide (E=D)
 |_=>false
def JD(K:Frag)(bU:Addr)(file:Str):Bool:=match K.lookup bU with
 |some ⟨_,_,.fields vs,_⟩=>(match(vs[2]?:Option Value)with
  |some (Value.str f _)=>(file==f)
  |_=>false)
 |_=>false
def Dx(K:Frag)(D:Addr)(l:List (Str×Addr)):Bool:=match l with
 |[(x,cc)]=>decide (x=("__class__":Str))&&JC K cc D
 |_=>false
def Dy(K:Frag)(qual file:Str)(v:Value):Bool:=match v with
 | .ref bU=>codeIn K (.ref bU) qual&&JD K bU file
 |_=>false
def dQ.ok(K:Frag)(file:Str)(d:dQ):Bool:=(match K.lookup (d.at_ K)with
 |some ⟨_,_,.func fd,_⟩=>Dx K (d.cls K) fd.closure&&Dy K d.qual file fd.code
 |_=>false)&&((clsIn K (d.cls K)).isSome&&decide ((K.lookup (d.at_ K)).map (·.cls)=some (.type "function")))
def zm(g:Addr->Option Obj)(a:Addr):List Addr:=match g a with
 |some o=>refsD o
 |none=>[]
def JE(names:List Str)(ms ps:List (Str×Str))(g:Addr->Option Obj):List Addr :=
 let tj:=frG g [mainGlobals];let v:=names.map (ga tj);let l2:=mainGlobals::cStatics::(v++v.flatMap (zm g))
 let JF:=frG g l2;let m:=ms.map λp=>ma JF (ga tj p.1) p.2;let r:=m.flatMap (zm g);let q:=ps.flatMap λp=>(zm g (ma JF (ga tj p.1) p.2)).flatMap (zm g)
 l2++(m++(r++q))
abbrev qP:Type:=(Addr->Option Obj)->List Addr
def gY(n:qP)(g:Addr->Option Obj):Frag:=frT g (n g)
end ZK
noncomputable section
namespace ZK
open PySem PySem.Spec PySem.W PySem.Calls PyProof.Rows L2 He He5
def zp(fn:List DefA)(K:Frag):=(fn.all λd=>d.ok K,fn.map λd=>fnA K (d.at_ K))
def Dz(fn:List DefA)(fs:List dQ)(K:Frag):=(zp fn K,fs.map λd=>qO K (d.at_ K))
def DA(dh:List Defn)(ex:Frag->Bool)(g:Addr->Option Obj)(K:Frag):Bool:=ex K&&tabsB g dh K
end ZK
end
namespace ZK
structure lF where
 p:Prop
 d:Decidable p
def vK:List lF->Bool
 |[]=>true
 |x::l=>@decide x.p x.d&&vK l
def zq:List (List lF)->Bool
 |[]=>true
 |x::l=>vK x&&zq l
end ZK
namespace Z
@[reducible] def bw(p:Prop)[d:Decidable p]:ZK.lF:=⟨p,d⟩
open PySem PySem.Spec L2 PyProof.Rows
def JG:Value->Option Str
 | .str x _=>some x
 |_=>none
def DB(K:PySem.W.Frag)(a:Addr)(ss:List Str):Bool:=match K.lookup a with
 |some ⟨c,_,.seq its _,_⟩=>decide (c=.type "tuple")&&(decide (its.size<=sizeLine)&&decide (its.toList.map JG=ss.map some))
 |_=>false
end Z
set_option exponentiation.threshold 2000
namespace K30
open PySem PySem.Spec L2 Z PyProof.Rows
def top(i:Nat):Stmt:=PySem.Challenge.pw_waysagree_k30_parts_and_names_of_plans.main.body.getD i (.Pass ⟨0,0,0,0⟩)
abbrev s_0:Stmt:=inClass (top 15) 11
abbrev s_1:Stmt:=top 30
abbrev vL:Stmt:=top 40
abbrev vM:Stmt:=top 42
abbrev vN:Stmt:=top 43
abbrev vO:Stmt:=top 31
abbrev vP:Stmt:=top 32
abbrev vQ:Stmt:=top 38
abbrev vR:Stmt:=top 34
abbrev vS:Stmt:=top 35
abbrev vT:Stmt:=top 36
abbrev vU:Stmt:=top 39
abbrev vV:Stmt:=top 13
abbrev vW:Stmt:=top 10
abbrev mO:Stmt:=inClass (top 15) 0
abbrev vX:Stmt:=top 37
abbrev vY:Stmt:=top 41
abbrev vZ:Stmt:=top 33
abbrev v5:Stmt:=top 23
abbrev v7:Stmt:=top 25
abbrev v8:Stmt:=top 24
abbrev v9:Stmt:=top 26
abbrev i6:Stmt:=top 27
abbrev nQ:Stmt:=top 28
abbrev v':Stmt:=top 44
abbrev nR:Stmt:=inClass (top 3) 0
abbrev kG:Stmt:=inClass (top 2) 0
abbrev nS:Stmt:=inClass (top 5) 0
abbrev DC(K:PySem.W.Frag):Addr:=He.ga K "_law_bag"
abbrev DE(K:PySem.W.Frag):Addr:=He.ga K "_law_inner"
abbrev DF(K:PySem.W.Frag):Addr:=He.ga K "_law_listed"
abbrev DG(K:PySem.W.Frag):Addr:=He.ga K "_law_goes"
abbrev DH(K:PySem.W.Frag):Addr:=He.ga K "_law_pick"
abbrev DI(K:PySem.W.Frag):Addr:=He.ga K "_law_of"
abbrev DJ(K:PySem.W.Frag):Addr:=He.ga K "_law_name"
abbrev DK(K:PySem.W.Frag):Addr:=He.ga K "_law_gcd"
abbrev DL(K:PySem.W.Frag):Addr:=He.ga K "_law_frac"
abbrev DM(K:PySem.W.Frag):Addr:=He.ga K "_law_small_frac"
abbrev DN(K:PySem.W.Frag):Addr:=He.ga K "_law_plan"
abbrev DP(K:PySem.W.Frag):Addr:=He.ga K "common_divisor"
abbrev DQ(K:PySem.W.Frag):Addr:=He.ga K "is_whole"
abbrev DR(K:PySem.W.Frag):Addr:=He.ga K "_law_ratio"
abbrev DS(K:PySem.W.Frag):Addr:=He.ga K "_law_plan_made"
abbrev DT(K:PySem.W.Frag):Addr:=He.ga K "_law_same"
abbrev DU(K:PySem.W.Frag):Addr:=He.ga K "is_name"
abbrev DV(K:PySem.W.Frag):Addr:=He.ga K "has_form"
abbrev DW(K:PySem.W.Frag):Addr:=He.ga K "inside"
abbrev DX(K:PySem.W.Frag):Addr:=He.ga K "check_plan"
abbrev DY(K:PySem.W.Frag):Addr:=He.ga K "parts"
abbrev DZ(K:PySem.W.Frag):Addr:=He.ga K "names_in"
abbrev zr(K:PySem.W.Frag):Addr:=He.ga K "law"
abbrev gi(K:PySem.W.Frag):Addr:=He.ga K "Ratio"
abbrev wa(K:PySem.W.Frag):Addr:=He.ga K "InvalidRatio"
abbrev wc(K:PySem.W.Frag):Addr:=He.ga K "InvalidPlan"
abbrev tn(K:PySem.W.Frag):Addr:=He.ga K "WayError"
abbrev zt(K:PySem.W.Frag):Addr:=He.ma K (He.ga K "Ratio") "__eq__"
abbrev zu(K:PySem.W.Frag):Addr:=He.ma K (He.ga K "Ratio") "__init__"
abbrev JH(K:PySem.W.Frag):Addr:=He.ga K "WORDS"
abbrev D0(K:PySem.W.Frag):Addr:=He.ma K (He.ga K "InvalidRatio") "__init__"
abbrev tp(K:PySem.W.Frag):Addr:=He.ma K (He.ga K "WayError") "__init__"
abbrev D1(K:PySem.W.Frag):Addr:=He.ma K (He.ga K "InvalidPlan") "__init__"
abbrev JI:He5.DefA:=⟨zt,"__eq__","Ratio.__eq__",defArgs s_0,defBody s_0,defScope s_0,[],[]⟩
abbrev JK:He5.DefA:=⟨DC,"_law_bag","_law_bag",defArgs s_1,defBody s_1,defScope s_1,[],[]⟩
abbrev JL:He5.DefA:=⟨DE,"_law_inner","_law_inner",defArgs vL,defBody vL,defScope vL,[],[]⟩
abbrev JM:He5.DefA:=⟨DF,"_law_listed","_law_listed",defArgs vM,defBody vM,defScope vM,[],[]⟩
abbrev JN:He5.DefA:=⟨DG,"_law_goes","_law_goes",defArgs vN,defBody vN,defScope vN,[],[]⟩
abbrev JO:He5.DefA:=⟨DH,"_law_pick","_law_pick",defArgs vO,defBody vO,defScope vO,[],[]⟩
abbrev JP:He5.DefA:=⟨DI,"_law_of","_law_of",defArgs vP,defBody vP,defScope vP,[],[]⟩
abbrev JQ:He5.DefA:=⟨DJ,"_law_name","_law_name",defArgs vQ,defBody vQ,defScope vQ,[],[]⟩
abbrev JR:He5.DefA:=⟨DK,"_law_gcd","_law_gcd",defArgs vR,defBody vR,defScope vR,[],[]⟩
abbrev JS:He5.DefA:=⟨DL,"_law_frac","_law_frac",defArgs vS,defBody vS,defScope vS,[],[]⟩
abbrev JT:He5.DefA:=⟨DM,"_law_small_frac","_law_small_frac",defArgs vT,defBody vT,defScope vT,[],[]⟩
abbrev JU:He5.DefA:=⟨DN,"_law_plan","_law_plan",defArgs vU,defBody vU,defScope vU,[],[]⟩
abbrev JV:He5.DefA:=⟨DP,"common_divisor","common_divisor",defArgs vV,defBody vV,defScope vV,[],[]⟩
abbrev JW:He5.DefA:=⟨DQ,"is_whole","is_whole",defArgs vW,defBody vW,defScope vW,[],[]⟩
abbrev JX:He5.DefA:=⟨zu,"__init__","Ratio.__init__",defArgs mO,defBody mO,defScope mO,[.int 1],[]⟩
abbrev JY:He5.DefA:=⟨DR,"_law_ratio","_law_ratio",defArgs vX,defBody vX,defScope vX,[],[]⟩
abbrev JZ:He5.DefA:=⟨DS,"_law_plan_made","_law_plan_made",defArgs vY,defBody vY,defScope vY,[],[]⟩
abbrev J0:He5.DefA:=⟨DT,"_law_same","_law_same",defArgs vZ,defBody vZ,defScope vZ,[],[]⟩
abbrev J1:He5.DefA:=⟨DU,"is_name","is_name",defArgs v5,defBody v5,defScope v5,[],[]⟩
abbrev J2:He5.DefA:=⟨DV,"has_form","has_form",defArgs v7,defBody v7,defScope v7,[],[]⟩
abbrev J3:He5.DefA:=⟨DW,"inside","inside",defArgs v8,defBody v8,defScope v8,[],[]⟩
abbrev J4:He5.DefA:=⟨DX,"check_plan","check_plan",defArgs v9,defBody v9,defScope v9,[],[]⟩
abbrev J5:He5.DefA:=⟨DY,"parts","parts",defArgs i6,defBody i6,defScope i6,[],[]⟩
abbrev J6:He5.DefA:=⟨DZ,"names_in","names_in",defArgs nQ,defBody nQ,defScope nQ,[],[]⟩
abbrev J7:He5.DefA:=⟨zr,"law","law",defArgs v',defBody v',defScope v',[],[]⟩
abbrev D2:ZK.dQ:=⟨D0,wa,"__init__","InvalidRatio.__init__",defArgs nR,defBody nR,defScope nR⟩
abbrev D3:ZK.dQ:=⟨tp,tn,"__init__","WayError.__init__",defArgs kG,defBody kG,defScope kG⟩
abbrev D4:ZK.dQ:=⟨D1,wc,"__init__","InvalidPlan.__init__",defArgs nS,defBody nS,defScope nS⟩
abbrev qQ:List He5.DefA:=[JI,JK,JL,JM,JN,JO,JP,JQ,JR,JS,JT,JU,JV,JW,JX,JY,JZ,J0,J1,J2,J3,J4,J5,J6,J7]
abbrev i7:List ZK.dQ:=[D2,D3,D4]
abbrev zv:List He.Defn:=[]
def J8(K:PySem.W.Frag):List ZK.lF:=[bw (PySem.W.nsIn K mainGlobals "Ratio"=some (some (.ref (gi K)))),bw (PySem.W.plainGet K (gi K) Str.empty=true),bw (PySem.W.hasDictIn K (gi K)=true),bw (PySem.W.plainOver K (gi K)=true),bw (PySem.W.findIn K (.ref (gi K)) "__setattr__"=some (some (.builtin "object.__setattr__"))),bw (PySem.W.makesIn K (gi K)=true),bw (PySem.W.keepIn K (.ref (gi K))=true),bw (PySem.W.findIn K (.ref (gi K)) "__init__"=some (some (.ref (zu K)))),bw (PySem.W.findIn K (.ref (gi K)) "own_bottom"=some none),bw (PySem.W.findIn K (.ref (gi K)) "own_top"=some none),bw (PySem.W.findIn K (.ref (gi K)) "__eq__"=some (some (.ref (zt K)))),bw (PySem.W.findIn K (.ref (gi K)) "__class__"=some (some (.builtin "object.__class__"))),bw (PySem.W.mroIn K (gi K) (.type "object")=some true),bw (PySem.W.findIn K (.ref (gi K)) "__ne__"=some (some (.builtin "object.__ne__"))),bw (PySem.W.notFirst K (gi K) (.ref (gi K))=true),bw (PySem.W.kitOne K (.ref (gi K)) (.ref (gi K))=some true),bw (((PySem.W.clsIn K (gi K)).isSome&&PySem.W.typeIn K (.ref (gi K))==some (.type "type"))=true),bw (PySem.W.isFn K (.ref (zt K))=true),bw (PySem.W.nsIn K mainGlobals "_law_bag"=some (some (.ref (DC K)))),bw (PySem.W.nsIn K mainGlobals "_law_inner"=some (some (.ref (DE K))))]
def J9(K:PySem.W.Frag):List ZK.lF:=[bw (PySem.W.nsIn K mainGlobals "_law_listed"=some (some (.ref (DF K)))),bw (PySem.W.nsIn K mainGlobals "_law_goes"=some (some (.ref (DG K)))),bw (PySem.W.nsIn K mainGlobals "_law_pick"=some (some (.ref (DH K)))),bw (PySem.W.nsIn K mainGlobals "_law_of"=some (some (.ref (DI K)))),bw (PySem.W.nsIn K mainGlobals "_law_name"=some (some (.ref (DJ K)))),bw (PySem.W.nsIn K mainGlobals "_law_gcd"=some (some (.ref (DK K)))),bw (PySem.W.nsIn K mainGlobals "_law_frac"=some (some (.ref (DL K)))),bw (PySem.W.nsIn K mainGlobals "_law_small_frac"=some (some (.ref (DM K)))),bw (PySem.W.nsIn K mainGlobals "_law_plan"=some (some (.ref (DN K)))),bw (PySem.W.nsIn K mainGlobals "common_divisor"=some (some (.ref (DP K)))),bw (PySem.W.nsIn K mainGlobals "is_whole"=some (some (.ref (DQ K)))),bw (PySem.W.isFn K (.ref (zu K))=true),bw (PySem.W.nsIn K mainGlobals "_law_ratio"=some (some (.ref (DR K)))),bw (PySem.W.nsIn K mainGlobals "_law_plan_made"=some (some (.ref (DS K)))),bw (PySem.W.nsIn K mainGlobals "_law_same"=some (some (.ref (DT K)))),bw (PySem.W.nsIn K mainGlobals "is_name"=some (some (.ref (DU K)))),bw (PySem.W.nsIn K mainGlobals "has_form"=some (some (.ref (DV K)))),bw (PySem.W.nsIn K mainGlobals "inside"=some (some (.ref (DW K)))),bw (PySem.W.nsIn K mainGlobals "check_plan"=some (some (.ref (DX K)))),bw (PySem.W.nsIn K mainGlobals "parts"=some (some (.ref (DY K))))]
def J_(K:PySem.W.Frag):List ZK.lF:=[bw (PySem.W.nsIn K mainGlobals "names_in"=some (some (.ref (DZ K)))),bw (PySem.W.nsIn K mainGlobals "law"=some (some (.ref (zr K)))),bw (PySem.W.nsIn K mainGlobals "InvalidRatio"=some (some (.ref (wa K)))),bw (PySem.W.nsIn K mainGlobals "InvalidPlan"=some (some (.ref (wc K)))),bw (PySem.W.nsIn K mainGlobals "WayError"=some (some (.ref (tn K)))),bw (PySem.W.findIn K (.ref (wa K)) "__init__"=some (some (.ref (D0 K)))),bw (ZK.dQ.ok K PySem.Challenge.pw_waysagree_k30_parts_and_names_of_plans.main.file D2=true),bw (PySem.W.findIn K (.ref (tn K)) "__init__"=some (some (.ref (tp K)))),bw (ZK.dQ.ok K PySem.Challenge.pw_waysagree_k30_parts_and_names_of_plans.main.file D3=true),bw (PySem.W.findIn K (.ref (wc K)) "__init__"=some (some (.ref (D1 K)))),bw (ZK.dQ.ok K PySem.Challenge.pw_waysagree_k30_parts_and_names_of_plans.main.file D4=true),bw (ti K (wa K) (tn K) (D0 K) (tp K) [.type "ValueError",.type "Exception",.type "BaseException",.type "object"] "ValueError" "ValueError.__new__" "ValueError.__init__" (.ref (tp K)) ["tag","value"]=true),bw (ti K (wc K) (tn K) (D1 K) (tp K) [.type "ValueError",.type "Exception",.type "BaseException",.type "object"] "ValueError" "ValueError.__new__" "ValueError.__init__" (.ref (tp K)) ["tag","path"]=true),bw (PySem.W.nsIn K mainGlobals "super"=some none),bw (PySem.W.nsIn K cStatics "thirdparty.any"=some none),bw ((He.Fa.str "LETTERS" "abcdefghijklmnopqrstuvwxyz").ok K=true),bw ((He.Fa.int "MOST_DEPTH" 8).ok K=true),bw ((He.Fa.int "MOST_INSIDE" 6).ok K=true),bw ((He.Fa.int "MOST_NAME" 8).ok K=true),bw ((He.Fa.int "MOST_PARTS" 40).ok K=true)]
def J'(K:PySem.W.Frag):List ZK.lF:=[bw (PySem.W.nsIn K mainGlobals "WORDS"=some (some (.ref (JH K)))),bw (DB K (JH K) ["stay","none"]=true),bw (PySem.W.nsIn K mainGlobals "abs"=some none),bw (PySem.W.nsIn K mainGlobals "all"=some none),bw (PySem.W.nsIn K mainGlobals "bool"=some none),bw (PySem.W.nsIn K mainGlobals "enumerate"=some none),bw (PySem.W.nsIn K mainGlobals "int"=some none),bw (PySem.W.nsIn K mainGlobals "isinstance"=some none),bw (PySem.W.nsIn K mainGlobals "len"=some none),bw (PySem.W.nsIn K mainGlobals "list"=some none),bw (PySem.W.nsIn K mainGlobals "range"=some none),bw (PySem.W.nsIn K mainGlobals "str"=some none),bw (PySem.W.nsIn K mainGlobals "tuple"=some none),bw (PySem.W.nsIn K mainGlobals "zip"=some none)]
def zx(K:PySem.W.Frag):Bool:=ZK.zq [J8 K,J9 K,J_ K,J' K]
abbrev qR:PySem.W.OpenRow:=PySem.W.OpenLaw.row PySem.Challenge.rw_waysagree_k30_parts_and_names_of_plans
abbrev tq:Program:=PySem.W.view qR.prog [44]
def zy:List PySem.Str:=(["_wall","__name__","WayError","InvalidRatio","InvalidText","InvalidPlan","LETTERS","DIGITS","MOST_DIGITS","is_whole","is_digits","is_signed","common_divisor","Ratio","ratio_of","MOST_NAME","MOST_DEPTH","MOST_INSIDE","MOST_PARTS","WORDS","is_name","inside","has_form","check_plan","parts","names_in","_law_bag","_law_pick","_law_of","_law_same"]:List PySem.Str)++(["_law_gcd","_law_frac","_law_small_frac","_law_ratio","_law_name","_law_plan","_law_inner","_law_plan_made","_law_listed","_law_goes"]:List PySem.Str)
def wd:ZK.qP:=ZK.JE ((["_law_bag","_law_inner","_law_listed","_law_goes","_law_pick","_law_of","_law_name","_law_gcd","_law_frac","_law_small_frac","_law_plan","common_divisor","is_whole","_law_ratio","_law_plan_made","_law_same","is_name","has_form","inside","check_plan","parts","names_in","law","Ratio","InvalidRatio","WayError","InvalidPlan","WORDS"]:List Str)) (([("Ratio","__eq__"),("Ratio","__init__"),("InvalidRatio","__init__"),("WayError","__init__"),("InvalidPlan","__init__")]:List (Str×Str))) (([]:List (Str×Str)))
abbrev D5(w:World)(os:PySem.OsState):Option PySem.W.SharedT:=HandSHeadRun.endF (HandSHeadRun.stepQ (HandSHeadRun.denQ HandSHeadRun.tabQ) qR.prog w) 40000 qR.prog w os
end K30
set_option Elab.async false
set_option linter.all false
set_option maxRecDepth 100000
set_option maxHeartbeats 4000000
set_option exponentiation.threshold 2000
namespace K30
open PySem PySem.Spec L2 Z PyProof.Rows
set_option maxHeartbeats 0 in
theorem RF(w:World)(os:PySem.OsState):(D5 w os).map (λs=>(HandSHeadRun.looksF qR.prog (PySem.W.boot_heap w.params) s.abs,HandSHeadRun.seenQ tq zy (PySem.importedModules qR.prog.main.body) (λs=>PySem.W.xlAt tq [] s&&PySem.W.recOk qR.toRowW.records s) s.abs,ZK.zp (qQ.take 12) (ZK.gY wd (HandSHeadRun.getT s))))=some (true,PySem.W.openGood tq zy,(true,(qQ.take 12).map He5.DefA.val)):=by
 kernel_rfl
set_option maxHeartbeats 0 in
theorem RG(w:World)(os:PySem.OsState):(D5 w os).map (λs=>ZK.Dz (qQ.drop 12) i7 (ZK.gY wd (HandSHeadRun.getT s)))=some ((true,(qQ.drop 12).map He5.DefA.val),i7.map ZK.dQ.val):=by
 kernel_rfl
set_option maxHeartbeats 0 in
theorem RH(w:World)(os:PySem.OsState):(D5 w os).map (λs=>ZK.DA zv zx (HandSHeadRun.getT s) (ZK.gY wd (HandSHeadRun.getT s)))=some true:=by
 kernel_rfl
end K30
set_option Elab.async false
set_option linter.all false
set_option maxRecDepth 100000
set_option maxHeartbeats 4000000
namespace Z
open PySem PySem.Spec L2
structure tu where
 id:Nat
 params:Arguments
 body:Expr
 scope:Scope
 qual:Str
 dvs:List V
 names:List Str
inductive D where
 |non
 |bl (b:Bool)
 |int (i:Int)
 |str (s:Str)
 |ty (n:String)
 |cls (c:Str)
 |tup (xs:List D)
 |lst (xs:List D)
 |bF (xs:List D)
 |dct (ks vs:List D)
 |dw (w:World) (ks vs:List D)
 |ins (c:Str) (ns:List Str) (vs:List D)
 |ptr (n:Nat)
 |bI (xs:List Int)
 |exc (c:Str) (ns:List Str) (vs:List D)
 |lam (T:tu) (cQ:List (Str×Addr))
 |gZ (T:tu) (mP:List D)
inductive dx where
 |lst (xs:List D)
 |dct (lk:Bool) (ks vs:List D)
 |dw (w:World) (ks vs:List D)
 |ins (c:Str) (ns:List Str) (vs:List D)
 |tab (P:Addr) (q:Str)
 |dead
abbrev Store:=List dx
inductive Out (α:Type) where
 |ok (a:α) (S:Store)
 |ex (e:D) (S:Store)
 |bad
def Out.bind{α β:Type}(o:Out α)(k:α->Store->Out β):Out β:=match o with
 | .ok a S=>k a S
 | .ex e S=>.ex e S
 | .bad=>.bad
abbrev aJ:=List (Option D)
abbrev aQ:=aJ->Store->Out D
abbrev c1:=aJ->Store->Out (List D)
abbrev b9:=aJ->Store->Out Bool
inductive SO where
 |nx (sl:aJ) (S:Store)
 |bk (sl:aJ) (S:Store)
 |ct (sl:aJ) (S:Store)
 |rt (d:D) (S:Store)
 |ex (e:D) (sl:aJ) (S:Store)
 |bad
abbrev SX:=aJ->Store->SO
mutual
def kI:D->Bool
 | .tup xs=>j3 xs
 | .bF xs=>j3 xs
 | .lst xs=>j3 xs
 | .dct ks vs=>j3 ks&&j3 vs
 | .dw _ ks vs=>j3 ks&&j3 vs
 | .ins _ _ vs=>j3 vs
 | .exc _ _ vs=>j3 vs
 | .gZ _ _=>false
 | .non=>true
 | .bl _=>true
 | .int _=>true
 | .str _=>true
 | .ty _=>true
 | .cls _=>true
 | .bI _=>true
 | .ptr _=>true
 | .lam _ _=>true
def j3:List D->Bool
 |[]=>true
 |d::ds=>kI d&&j3 ds
end
mutual
def lG:D->Option NestedKey
 | .non=>some .none
 | .bl b=>some (.num (if b=true then 1 else 0))
 | .int i=>some (.num i)
 | .str x=>some (.text x)
 | .tup ds=>(tv ds).map .tup
 | .bF ds=>(tv ds).map .tup
 | .ty _=>none
 | .cls _=>none
 | .lst _=>none
 | .dct _ _=>none
 | .dw _ _ _=>none
 | .ins _ _ _=>none
 | .ptr _=>none
 | .bI _=>none
 | .exc _ _ _=>none
 | .lam _ _=>none
 | .gZ _ _=>none
def tv:List D->Option (List NestedKey)
 |[]=>some []
 |d::ds=>match lG d,tv ds with
  |some n,some ns=>some (n::ns)
  |_,_=>none
end
def RJ:NestedKey->Bool
 | .text _=>true
 |_=>false
def RK:NestedKey->Bool
 | .tup _=>true
 |_=>false
def kJ(a:Addr)(p:List DictEntry×Obj):HO:=.ext λh=>∃dF:Nat,h.get? a=some p.2/\p.2.ExactDict/\p.2.data=.dict p.1.toArray dF
def zA(w:World)(ks:List D)(es:List DictEntry)(bA we:List V):Prop:=∃ns:List NestedKey,tv ks=some ns/\ns.Nodup/\(∀n∈ns,n.depth<=8)/\((∀n∈ns,RJ n=true)\/∀n∈ns,RK n=true)/\es.map (·.hash)=ns.map (·.hash w)/\Vals bA (es.map (·.key))/\Vals we (es.map (·.val))/\es.length<=sizeLine
section
variable(K:PySem.W.Frag)(mg:Str->Option Value)(ae:List Addr)(H:Hp)
def RL(a:Addr)(vs:List V):Prop:=∃(o:Obj) (its:Array Value) (n:Nat),K.lookup a=some o/\o.cls=.type "list"/\o.dict=none/\o.data=.seq its n/\its.size<=sizeLine/\Vals vs its.toList
def zB(a:Addr)(vs:List V):Prop:=∃(o:Obj) (its:Array Value) (n:Nat),K.lookup a=some o/\o.cls=.type "tuple"/\o.data=.seq its n/\its.size<=sizeLine/\Vals vs its.toList
def tx(a:Addr)(vs:List V):Prop:=(a∉ae/\Rd H a (.lst vs))\/RL K a vs
def LstAt(a:Addr)(vs:List V):Prop:=a∉ae/\H a=some (.lst vs)
def TupAt(a:Addr)(vs:List V):Prop:=(a∉ae/\H a=some (.tup vs))\/zB K a vs
def tA(a:Addr)(vs:List V):Prop:=a∉ae/\∃o:Obj,o.dict=none/\H a=some (.frz o (.tup vs))
def zC(a:Addr)(ks vs:List V):Prop:=a∉ae/\∃kvs:List (Key×V),Rd H a (.dK kvs)/\ks=kvs.map (λp=>kV p.1)/\vs=kvs.map (·.2)
def zD(w:World)(ds:List D)(a:Addr)(bA we:List V):Prop:=a∉ae/\(a==sysModules)=false/\∃es:List DictEntry×Obj,H a=some (kJ a es)/\zA w ds es.1 bA we
def RM(a:Addr)(o:Obj):HO:=.ext λh=>h.get? a=some o
def RN(a C d:Addr):HO:=.ext λh=>∃(jC:Obj) (vs:Array Value),h.get? a=some jC/\Zc (.ref C) (some d) jC/\jC.data=.fields vs
def zE(dvs:List V)(fP:Value):Prop:=(dvs=[]/\fP=.none)\/(dvs≠[]/\∃t,fP=.ref t/\t∉ae/\H t=some (.tup dvs))
def pl(f:Addr)(T:tu)(cQ:List (Str×Addr)):Prop:=f∉ae/\(∃lH,cQ=L2.cloFrom lH T.scope.names [])/\∃(pm doc fP wg:Value) (bx:Addr),H f=some (RM f (PySem.W.kdv_obj "<lambda>" T.qual T.params (.expr T.body) T.scope cQ fP doc pm bx wg))/\bx∉ae/\H bx=some (LamX.CodeO bx T.qual)/\zE ae H T.dvs fP
def jD(cQ:List (Str×Addr)):List Str->List V->Prop
 |[],vs=>vs=[]
 |n::ns,vs=>∃v r c o u,vs=v::r/\cQ.lookup n=some c/\c∉ae/\H c=some (.frz o (.own 0))/\o.data=.cell (some u)/\RelV v u/\(∀m∈ns,cQ.lookup m≠some c)/\jD cQ ns r
mutual
def Rep:D->V->Prop
 | .non,v=>v=.non
 | .bl b,v=>v=.bl b
 | .int i,v=>v=.int i
 | .str s,v=>v=.str s
 | .ty n,v=>v=.ty n
 | .cls c,v=>∃C,mg c=some (.ref C)/\v=.ref C
 | .tup ds,v=>∃a vs,v=.ref a/\TupAt K ae H a vs/\ak ds vs
 | .bF ds,v=>∃a vs,v=.ref a/\tA ae H a vs/\ak ds vs
 | .lst ds,v=>∃a vs,v=.ref a/\LstAt ae H a vs/\ak ds vs
 | .dct ks ds,v=>∃a bA vs,v=.ref a/\zC ae H a bA vs/\ak ks bA/\ak ds vs
 | .dw w ks ds,v=>∃a bA vs,v=.ref a/\zD ae H w ks a bA vs/\ak ks bA/\ak ds vs
 | .ins c ns ds,v=>∃a C bh fs,v=.ref a/\a∉ae/\mg c=some (.ref C)/\H a=some (.ins C bh fs)/\fs.map (·.1)=ns/\ak ds (fs.map (·.2))
 | .ptr n,v=>∃a,v=.ref a/\ae[n]?=some a
 | .bI xs,v=>∃a,v=.ref a/\tx K ae H a (xs.map V.int)
 | .exc c ns ds,v=>∃a C d fs,v=.ref a/\a∉ae/\d∉ae/\mg c=some (.ref C)/\H a=some (RN a C d)/\H d=some (.xd fs)/\fs.map (·.1)=ns/\ak ds (fs.map (·.2))
 | .lam T cQ,v=>∃f,v=.ref f/\pl ae H f T cQ
 | .gZ T mP,v=>∃f cQ vs,v=.ref f/\pl ae H f T cQ/\jD ae H cQ T.names vs/\ak mP vs
def ak:List D->List V->Prop
 |[],vs=>vs=[]
 |d::ds,vs=>∃v r,vs=v::r/\Rep d v/\ak ds r
end
def hB(a:Addr):dx->Prop
 | .lst ds=>∃vs,H a=some (.lst vs)/\ak K mg ae H ds vs
 | .dct lk ks ds=>∃kvs:List (Key×V),(if lk=true then Rd H a (.dK kvs)else H a=some (.dK kvs))/\ak K mg ae H ks (kvs.map (λp=>kV p.1))/\ak K mg ae H ds (kvs.map (·.2))
 | .dw w ks ds=>(a==sysModules)=false/\∃es bA vs,H a=some (kJ a es)/\zA w ks es.1 bA vs/\ak K mg ae H ks bA/\ak K mg ae H ds vs
 | .ins c ns ds=>∃C bh fs,mg c=some (.ref C)/\H a=some (.ins C bh fs)/\fs.map (·.1)=ns/\ak K mg ae H ds (fs.map (·.2))
 | .tab P q=>a=P/\∃ps:Array Value,H a=some (.tbl ps)/\TriplesOk ps.toList/\∀(pos:Pos) (pq:Value),codeAmong pos ps.toList=some pq->∃c,pq=.ref c/\c∉ae/\H c=some (LamX.CodeO c q)
 | .dead=>True
structure aD(S:Store):Prop where
 len:ae.length=S.length
 nd:ae.Nodup
 tr:∀a∈ae,H a≠none
 ob:∀(n:Nat) a m,ae[n]?=some a->S[n]?=some m->hB K mg ae H a m
structure bM(σ:St)(sl:aJ):Prop where
 len:σ.length=sl.length
 at_:∀(i:Nat) d,sl[i]?=some (some d)->∃v,σ[i]?=some (some v)/\Rep K mg ae H d v
def h3(e:D)(C:Value)(dd:Option Addr):Prop:=∃c ns ds zF tD fs,e=.ins c ns ds/\mg c=some (.ref zF)/\C=.ref zF/\dd=some tD/\tD∉ae/\H tD=some (.xd fs)/\fs.map (·.1)=ns/\ak K mg ae H ds (fs.map (·.2))
end
structure Ext(ae:List Addr)(H:Hp)(ag:List Addr)(H':Hp):Prop where
 pre:∃t,ag=ae++t
 new:∀a∈ag,a∉ae->H a=none
 keep:∀a o,a∉ae->H a=some o->H' a=some o\/((∃kvs,o=.dK kvs)/\∃od,H' a=some (.frz od o))
section
variable{K:PySem.W.Frag}{mg:Str->Option Value}{ae ag Ka:List Addr}{H H' Kb:Hp}
theorem Ext.refl:Ext ae H ae H:=⟨⟨[],by simp⟩,λa h n=>absurd h n,λ_ _ _ h=>.inl h⟩
theorem Ext.kept(x:Ext ae H ag H'){a:Addr}{o:HO}(n:a∉ae)(h:H a=some o)(nd:∀kvs,o≠.dK kvs):H' a=some o:=by
 rcases x.keep a o n h with h|⟨⟨kvs,e⟩,_⟩
 .exact h
 grind
theorem Ext.nin(x:Ext ae H ag H'){a:Addr}{o:HO}(n:a∉ae)(h:H a=some o):a∉ag:=λq=>by
 have:=x.new a q n;grind
theorem Ext.trans(x:Ext ae H ag H')(y:Ext ag H' Ka Kb):Ext ae H Ka Kb:=by
 obtain⟨t,e⟩:=x.pre;obtain⟨t',cE⟩:=y.pre;refine⟨⟨t++t',by grind⟩,λa h n=>?_,λa o n h=>?_⟩;rotate_left
 .rcases x.keep a o n h with h1|⟨hk,od,h1⟩
  .exact y.keep a o (x.nin n h) h1
  .exact .inr ⟨hk,od,y.kept (x.nin n h) h1 (by intros;nofun)⟩
 by_cases q:a∈ag
 .exact x.new a q n
 .have z:=y.new a h q
  cases e:H a with
  |none=>rfl
  |some o =>
   rcases x.keep a o n e with this|⟨_,_,this⟩<;>(grind)
theorem Ext.get(x:Ext ae H ag H'){n:Nat}{a:Addr}(h:ae[n]?=some a):ag[n]?=some a:=by
 obtain⟨t,e⟩:=x.pre;grind
theorem Rd.ext(x:Ext ae H ag H'){a:Addr}{u:HO}(n:a∉ae)(r:Rd H a u):a∉ag/\Rd H' a u:=by
 rcases r with r|⟨o,r⟩
 .rcases x.keep _ _ n r with q|⟨_,od,q⟩
  .exact⟨x.nin n r,.inl q⟩
  .exact⟨x.nin n r,.inr ⟨od,q⟩⟩
 .exact⟨x.nin n r,.inr ⟨o,x.kept n r (by intros;nofun)⟩⟩
structure Kp(ae:List Addr)(H:Hp)(ag:List Addr)(H':Hp):Prop where
 rd:∀a u,(∀o qS,u≠HO.frz o qS)->(∀y,u≠HO.own y)->a∉ae->Rd H a u->a∉ag/\Rd H' a u
 lst:∀a vs,a∉ae->H a=some (.lst vs)->H' a=some (.lst vs)
 tup:∀a vs,a∉ae->H a=some (.tup vs)->H' a=some (.tup vs)
 ins:∀a C bh fs,a∉ae->H a=some (.ins C bh fs)->H' a=some (.ins C bh fs)
 get:∀(n:Nat) a,ae[n]?=some a->ag[n]?=some a
 ext:∀a bY,a∉ae->H a=some (.ext bY)->a∉ag/\H' a=some (.ext bY)
 xd:∀a fs,a∉ae->H a=some (.xd fs)->a∉ag/\H' a=some (.xd fs)
 frz:∀a o vs,a∉ae->H a=some (.frz o (.tup vs))->a∉ag/\H' a=some (.frz o (.tup vs))
theorem Ext.kp(x:Ext ae H ag H'):Kp ae H ag H':=⟨λa u _ _ n r=>Rd.ext x n r,λa vs n h=>x.kept n h (by intros;nofun),λa vs n h=>x.kept n h (by intros;nofun),λa C bh fs n h=>x.kept n h (by intros;nofun),λn a h=>x.get h,λa bY n h=>⟨x.nin n h,x.kept n h (by intros;nofun)⟩,λa fs n h=>⟨x.nin n h,x.kept n h (by intros;nofun)⟩,λa o vs n h=>⟨x.nin n h,x.kept n h (by intros;nofun)⟩⟩
theorem tA.kp(x:Kp ae H ag H'){a:Addr}{vs:List V}(h:tA ae H a vs):tA ag H' a vs:=by
 obtain⟨n,o,d,e⟩:=h;obtain⟨iE,cE⟩:=x.frz a o vs n e;exact⟨iE,o,d,cE⟩
theorem tx.kp(x:Kp ae H ag H'){a:Addr}{vs:List V}(h:tx K ae H a vs):tx K ag H' a vs:=by
 rcases h with⟨n,r⟩|h
 .exact .inl (x.rd _ _ (by intros;nofun) (by intros;nofun) n r)
 .exact .inr h
theorem LstAt.kp(x:Kp ae H ag H'){a:Addr}{vs:List V}(h:LstAt ae H a vs):LstAt ag H' a vs:=⟨(x.rd _ _ (by intros;nofun) (by intros;nofun) h.1 (.inl h.2)).1,x.lst _ _ h.1 h.2⟩
theorem TupAt.kp(x:Kp ae H ag H'){a:Addr}{vs:List V}(h:TupAt K ae H a vs):TupAt K ag H' a vs:=by
 rcases h with⟨n,r⟩|h
 .exact .inl ⟨(x.rd _ _ (by intros;nofun) (by intros;nofun) n (.inl r)).1,x.tup _ _ n r⟩
 .exact .inr h
theorem zC.kp(x:Kp ae H ag H'){a:Addr}{ks vs:List V}(h:zC ae H a ks vs):zC ag H' a ks vs:=by
 obtain⟨n,kvs,r,ao,e2⟩:=h;obtain⟨iE,bN⟩:=x.rd _ _ (by intros;nofun) (by intros;nofun) n r;exact⟨iE,kvs,bN,ao,e2⟩
theorem zD.kp(x:Kp ae H ag H'){w:World}{ds:List D}{a:Addr}{ks vs:List V}(h:zD ae H w ds a ks vs):zD ag H' w ds a ks vs:=by
 obtain⟨n,hs,es,r,e⟩:=h;obtain⟨iE,bN⟩:=x.ext _ _ n r;exact⟨iE,hs,es,bN,e⟩
theorem zE.kp(x:Kp ae H ag H'){dvs:List V}{fP:Value}(h:zE ae H dvs fP):zE ag H' dvs fP:=by
 rcases h with h|⟨n,t,e,nt,ht⟩
 .exact .inl h
 .exact .inr ⟨n,t,e,(x.rd _ _ (by intros;nofun) (by intros;nofun) nt (.inl ht)).1,x.tup _ _ nt ht⟩
theorem pl.kp(x:Kp ae H ag H'){f:Addr}{T:tu}{cQ:List (Str×Addr)}(h:pl ae H f T cQ):pl ag H' f T cQ:=by
 obtain⟨n,D6,pm,doc,fP,wg,bx,h1,wh,h2,aH⟩:=h;obtain⟨iE,i9⟩:=x.ext _ _ n h1;obtain⟨RO,nT⟩:=x.ext _ _ wh h2;exact⟨iE,D6,pm,doc,fP,wg,bx,i9,RO,nT,aH.kp x⟩
def zG(ae:List Addr)(H:Hp)(ag:List Addr)(H':Hp):Prop:=∀a o u,a∉ae->H a=some (.frz o u)->a∉ag/\H' a=some (.frz o u)
theorem Ext.Kc(x:Ext ae H ag H'):zG ae H ag H':=λa o u n h=>⟨x.nin n h,x.kept n h (by intros;nofun)⟩
theorem jD.kp(x:zG ae H ag H'){cQ:List (Str×Addr)}:∀{ns:List Str} {vs:List V},jD ae H cQ ns vs->jD ag H' cQ ns vs
 |[],_,h=>h
 |n::ns,_,⟨v,r,c,o,u,e,h1,n1,h2,aH,bQ,hd,cn⟩=>by
  obtain⟨D7,nT⟩:=x _ _ _ n1 h2;exact⟨v,r,c,o,u,e,h1,D7,nT,aH,bQ,hd,jD.kp x cn⟩
mutual
theorem Rep.kp(x:Kp ae H ag H'):∀(d:D) (v:V),(zG ae H ag H'\/kI d=true)->Rep K mg ae H d v->Rep K mg ag H' d v
 | .non,v,hf,h=>by rw[Rep]at h ⊢;exact h
 | .bl b,v,hf,h=>by rw[Rep]at h ⊢;exact h
 | .int i,v,hf,h=>by rw[Rep]at h ⊢;exact h
 | .str s,v,hf,h=>by rw[Rep]at h ⊢;exact h
 | .ty n,v,hf,h=>by rw[Rep]at h ⊢;exact h
 | .cls c,v,hf,h=>by rw[Rep]at h ⊢;exact h
 | .tup ds,v,hf,h=>by
  rw[Rep]at h ⊢;obtain⟨a,vs,e,t,r⟩:=h;exact⟨a,vs,e,t.kp x,ak.kp x ds vs (hf.imp id λq=>by rw[kI]at q;exact q) r⟩
 | .bF ds,v,hf,h=>by
  rw[Rep]at h ⊢;obtain⟨a,vs,e,t,r⟩:=h;exact⟨a,vs,e,t.kp x,ak.kp x ds vs (hf.imp id λq=>by rw[kI]at q;exact q) r⟩
 | .lst ds,v,hf,h=>by
  rw[Rep]at h ⊢;obtain⟨a,vs,e,t,r⟩:=h;exact⟨a,vs,e,t.kp x,ak.kp x ds vs (hf.imp id λq=>by rw[kI]at q;exact q) r⟩
 | .dct ks ds,v,hf,h=>by
  rw[Rep]at h ⊢;obtain⟨a,bA,vs,e,t,r1,aE⟩:=h;exact⟨a,bA,vs,e,t.kp x,ak.kp x ks bA (hf.imp id λq=>by rw[kI,Bool.and_eq_true]at q;exact q.1) r1,ak.kp x ds vs (hf.imp id λq=>by rw[kI,Bool.and_eq_true]at q;exact q.2) aE⟩
 | .dw w ks ds,v,hf,h=>by
  rw[Rep]at h ⊢;obtain⟨a,bA,vs,e,t,r1,aE⟩:=h;exact⟨a,bA,vs,e,t.kp x,ak.kp x ks bA (hf.imp id λq=>by rw[kI,Bool.and_eq_true]at q;exact q.1) r1,ak.kp x ds vs (hf.imp id λq=>by rw[kI,Bool.and_eq_true]at q;exact q.2) aE⟩
 | .ins c ns ds,v,hf,h=>by
  rw[Rep]at h ⊢;obtain⟨a,C,bh,fs,e,n,hm,ha,hn,r⟩:=h;exact⟨a,C,bh,fs,e,(x.rd a _ (by intros;nofun) (by intros;nofun) n (.inl ha)).1,hm,x.ins a C bh fs n ha,hn,ak.kp x ds _ (hf.imp id λq=>by rw[kI]at q;exact q) r⟩
 | .ptr n,v,hf,h=>by
  rw[Rep]at h ⊢;obtain⟨a,e,q⟩:=h;exact⟨a,e,x.get n a q⟩
 | .bI xs,v,hf,h=>by
  rw[Rep]at h ⊢;obtain⟨a,e,q⟩:=h;exact⟨a,e,q.kp x⟩
 | .exc c ns ds,v,hf,h=>by
  rw[Rep]at h ⊢;obtain⟨a,C,d,fs,e,n,nd,hm,ha,hd,hn,r⟩:=h;obtain⟨iE,wi⟩:=x.ext _ _ n ha;obtain⟨tE,jE⟩:=x.xd _ _ nd hd;exact⟨a,C,d,fs,e,iE,tE,hm,wi,jE,hn,ak.kp x ds _ (hf.imp id λq=>by rw[kI]at q;exact q) r⟩
 | .lam T cQ,v,hf,h=>by
  rw[Rep]at h ⊢;obtain⟨f,e,h⟩:=h;exact⟨f,e,h.kp x⟩
 | .gZ T mP,v,hf,h=>by
  rw[Rep]at h ⊢;obtain⟨f,cQ,vs,e,h1,h2,r⟩:=h;rcases hf with hf|hf
  .exact⟨f,cQ,vs,e,h1.kp x,h2.kp hf,ak.kp x mP vs (.inl hf) r⟩
  .rw[kI]at hf;cases hf
theorem ak.kp(x:Kp ae H ag H'):∀(ds:List D) (vs:List V),(zG ae H ag H'\/j3 ds=true)->ak K mg ae H ds vs->ak K mg ag H' ds vs
 |[],vs,_,h=>by rw[ak]at h ⊢;exact h
 |d::ds,vs,hf,h=>by
  rw[ak]at h ⊢;obtain⟨v,r,e,h1,h2⟩:=h;exact⟨v,r,e,Rep.kp x d v (hf.imp id λq=>by rw[j3,Bool.and_eq_true]at q;exact q.1) h1,ak.kp x ds r (hf.imp id λq=>by rw[j3,Bool.and_eq_true]at q;exact q.2) h2⟩
end
theorem Rep.ext(x:Ext ae H ag H'){d:D}{v:V}(h:Rep K mg ae H d v):Rep K mg ag H' d v:=Rep.kp x.kp d v (.inl x.Kc) h
theorem ak.ext(x:Ext ae H ag H'){ds:List D}{vs:List V}(h:ak K mg ae H ds vs):ak K mg ag H' ds vs:=ak.kp x.kp ds vs (.inl x.Kc) h
theorem bM.ext(x:Ext ae H ag H'){σ:St}{sl:aJ}(h:bM K mg ae H σ sl):bM K mg ag H' σ sl:=⟨h.len,λi d e=>by
 obtain⟨v,ao,r⟩:=h.at_ i d e;exact⟨v,ao,r.ext x⟩⟩
theorem tx.dc{a:Addr}{vs:List V}(h:tx K ae H a vs):SqL K H a vs:=by
 rcases h with⟨_,r⟩|h
 .exact .inl r
 .exact .inr h
theorem LstAt.dc{a:Addr}{vs:List V}(h:LstAt ae H a vs):SqL K H a vs:=.inl (.inl h.2)
theorem tA.dc{a:Addr}{vs:List V}(h:tA ae H a vs):SqT K H a vs:=by
 obtain⟨_,o,_,e⟩:=h;exact .inl (.inr ⟨o,e⟩)
theorem TupAt.dc{a:Addr}{vs:List V}(h:TupAt K ae H a vs):SqT K H a vs:=by
 rcases h with⟨_,r⟩|h
 .exact .inl (.inl r)
 .exact .inr h
theorem ak.len:∀{ds:List D} {vs:List V},ak K mg ae H ds vs->ds.length=vs.length
 |[],_,h=>by rw[ak]at h;subst h;rfl
 |d::ds,_,h=>by
  rw[ak]at h;obtain⟨v,r,e,_,h2⟩:=h;subst e;simp[ak.len h2]
theorem ak.get:∀{ds:List D} {vs:List V} {i:Nat} {d:D},ak K mg ae H ds vs->ds[i]?=some d->∃v,vs[i]?=some v/\Rep K mg ae H d v
 |[],_,_,_,_,e=>by simp at e
 |x::ds,_,0,d,h,e=>by
  rw[ak]at h;grind
 |x::ds,_,i+1,d,h,e=>by
  rw[ak]at h;obtain⟨v,r,cE,_,h2⟩:=h;subst cE;obtain⟨w,ao,q⟩:=ak.get (i:=i) h2 (by simpa using e);grind
theorem ak.get':∀{ds:List D} {vs:List V} {i:Nat} {v:V},ak K mg ae H ds vs->vs[i]?=some v->∃d,ds[i]?=some d/\Rep K mg ae H d v:=λ{ds vs i v} h e=>by
 have hl:=h.len;have hi:=(List.getElem?_eq_some_iff.mp e).1;have hd:ds[i]?=some (ds[i]'(by omega)):=by simp
 obtain⟨w,ao,q⟩:=h.get hd;simp_all
theorem ak.nil:ak K mg ae H [] []:=by rw[ak]
theorem ak.cons{d:D}{v:V}{ds:List D}{vs:List V}(h:Rep K mg ae H d v)(r:ak K mg ae H ds vs):ak K mg ae H (d::ds) (v::vs):=by
 rw[ak];grind
theorem ak.append:∀{ds es:List D} {vs ws:List V},ak K mg ae H ds vs->ak K mg ae H es ws->ak K mg ae H (ds++es) (vs++ws)
 |[],_,_,_,h,q=>by rw[ak]at h;grind
 |d::ds,_,_,_,h,q=>by
  rw[ak]at h;obtain⟨v,r,e,h1,h2⟩:=h;subst e;exact ak.cons h1 (ak.append h2 q)
theorem ak.set{d:D}{v:V}(h:Rep K mg ae H d v):∀{ds:List D} {vs:List V} (i:Nat),ak K mg ae H ds vs->ak K mg ae H (ds.set i d) (vs.set i v)
 |[],_,_,q=>by rw[ak]at q;subst q;rfl
 |x::ds,_,0,q=>by
  rw[ak]at q;obtain⟨w,r,e,_,h2⟩:=q;subst e;exact ak.cons h h2
 |x::ds,_,i+1,q=>by
  rw[ak]at q;obtain⟨w,r,e,h1,h2⟩:=q;subst e;exact ak.cons h1 (ak.set h i h2)
theorem ak.take:∀{ds:List D} {vs:List V} (n:Nat),ak K mg ae H ds vs->ak K mg ae H (ds.take n) (vs.take n)
 |_,_,0,_=>by rfl
 |[],_,n+1,q=>by rw[ak]at q;subst q;rfl
 |x::ds,_,n+1,q=>by
  rw[ak]at q;obtain⟨w,r,e,h1,h2⟩:=q;subst e;exact ak.cons h1 (ak.take n h2)
theorem ak.drop:∀{ds:List D} {vs:List V} (n:Nat),ak K mg ae H ds vs->ak K mg ae H (ds.drop n) (vs.drop n)
 |_,_,0,q=>by simpa using q
 |[],_,n+1,q=>by rw[ak]at q;subst q;rfl
 |x::ds,_,n+1,q=>by
  rw[ak]at q;obtain⟨w,r,e,h1,h2⟩:=q;subst e;simpa using ak.drop n h2
end
section
variable(K:PySem.W.Frag)(mg:Str->Option Value)
def aM(W:Value->Option Addr->Hp->Prop)(ae:List Addr)(H:Hp)(Q:V->Hp->Prop):Out D->Prop
 | .ok d ah=>∀v ag H',Ext ae H ag H'->aD K mg ag H' ah->Rep K mg ag H' d v->Q v H'
 | .ex e ah=>∀C dd ag H',Ext ae H ag H'->aD K mg ag H' ah->h3 K mg ag H' e C dd->W C dd H'
 | .bad=>False
def dY(W:Value->Option Addr->Hp->Prop)(ae:List Addr)(H:Hp)(Q:List V->Hp->Prop):Out (List D)->Prop
 | .ok ds ah=>∀vs ag H',Ext ae H ag H'->aD K mg ag H' ah->ak K mg ag H' ds vs->Q vs H'
 | .ex e ah=>∀C dd ag H',Ext ae H ag H'->aD K mg ag H' ah->h3 K mg ag H' e C dd->W C dd H'
 | .bad=>False
def ep(W:Value->Option Addr->Hp->Prop)(ae:List Addr)(H:Hp)(Q:Bool->Hp->Prop):Out Bool->Prop
 | .ok b ah=>∀ag H',Ext ae H ag H'->aD K mg ag H' ah->Q b H'
 | .ex e ah=>∀C dd ag H',Ext ae H ag H'->aD K mg ag H' ah->h3 K mg ag H' e C dd->W C dd H'
 | .bad=>False
def bj(W:WX)(ae:List Addr)(H:Hp)(dR:Ends):SO->Prop
 | .nx sl ah=>∀bg ag H',Ext ae H ag H'->aD K mg ag H' ah->bM K mg ag H' bg sl->dR.nx bg H'
 | .bk sl ah=>∀bg ag H',Ext ae H ag H'->aD K mg ag H' ah->bM K mg ag H' bg sl->dR.bk bg H'
 | .ct sl ah=>∀bg ag H',Ext ae H ag H'->aD K mg ag H' ah->bM K mg ag H' bg sl->dR.ct bg H'
 | .rt d ah=>∀v ag H',Ext ae H ag H'->aD K mg ag H' ah->Rep K mg ag H' d v->dR.rt v H'
 | .ex e sl ah=>∀C dd bg ag H',Ext ae H ag H'->aD K mg ag H' ah->bM K mg ag H' bg sl->h3 K mg ag H' e C dd->W C dd bg H'
 | .bad=>False
def eN(W:WX)(f:aQ):TE:=λσ H Q=>∃ae S sl,aD K mg ae H S/\bM K mg ae H σ sl/\aM K mg (λC d H'=>W C d σ H') ae H Q (f sl S)
def qT(W:WX)(f:c1):TA:=λσ H Q=>∃ae S sl,aD K mg ae H S/\bM K mg ae H σ sl/\dY K mg (λC d H'=>W C d σ H') ae H Q (f sl S)
def pw(W:WX)(f:b9):TT:=λσ H Q=>∃ae S sl,aD K mg ae H S/\bM K mg ae H σ sl/\ep K mg (λC d H'=>W C d σ H') ae H Q (f sl S)
def D8(W:WX)(f:SX):TS:=λdR σ H=>∃ae S sl,aD K mg ae H S/\bM K mg ae H σ sl/\bj K mg W ae H dR (f sl S)
end
def E(X:Cx)(W:WX)(e:Expr)(f:aQ):Prop:=PE X e (eN X.K X.mg W f)
def gj(X:Cx)(W:WX)(es:List Expr)(f:c1):Prop:=PA X es (qT X.K X.mg W f)
def h4(X:Cx)(W:WX)(e:Expr)(f:b9):Prop:=PT X e (pw X.K X.mg W f)
def ES(X:Cx)(W:WX)(st:Stmt)(f:SX):Prop:=PS X st (D8 X.K X.mg W f)
def fx(X:Cx)(W:WX)(st:List Stmt)(f:SX):Prop:=PSs X st (D8 X.K X.mg W f)
section
variable{X:Cx}
theorem PE.imp{e:Expr}{t t':TE}(h:PE X e t)(k:∀σ H Q,t' σ H Q->t σ H Q):PE X e t':=⟨λpins s σ H Q I q=>h.run pins s σ H Q I (k σ H Q q)⟩
theorem PA.imp{e:List Expr}{t t':TA}(h:PA X e t)(k:∀σ H Q,t' σ H Q->t σ H Q):PA X e t':=⟨λpos pins s σ H Q I q=>h.run pos pins s σ H Q I (k σ H Q q)⟩
theorem PT.imp{e:Expr}{t t':TT}(h:PT X e t)(k:∀σ H Q,t' σ H Q->t σ H Q):PT X e t':=⟨λpins s σ H Q I q=>h.run pins s σ H Q I (k σ H Q q)⟩
theorem PS.imp{e:Stmt}{t t':TS}(h:PS X e t)(k:∀D σ H,t' D σ H->t D σ H):PS X e t':=⟨λpins s σ H D I q=>h.run pins s σ H D I (k D σ H q)⟩
theorem PSs.imp{e:List Stmt}{t t':TS}(h:PSs X e t)(k:∀D σ H,t' D σ H->t D σ H):PSs X e t':=⟨λpins s σ H D I q=>h.run pins s σ H D I (k D σ H q)⟩
end
section
variable{K:PySem.W.Frag}{mg:Str->Option Value}{ae ag:List Addr}{H H':Hp}
variable{W:Value->Option Addr->Hp->Prop}
theorem aM.from{Q:V->Hp->Prop}{o:Out D}(x:Ext ae H ag H')(h:aM K mg W ae H Q o):aM K mg W ag H' Q o:=by
 cases o with
 |ok d S=>exact λv aL aG y w r=>h v aL aG (x.trans y) w r
 |ex e S=>exact λC dd aL aG y w r=>h C dd aL aG (x.trans y) w r
 |bad=>exact h
theorem dY.from{Q:List V->Hp->Prop}{o:Out (List D)}(x:Ext ae H ag H')(h:dY K mg W ae H Q o):dY K mg W ag H' Q o:=by
 cases o with
 |ok d S=>exact λv aL aG y w r=>h v aL aG (x.trans y) w r
 |ex e S=>exact λC dd aL aG y w r=>h C dd aL aG (x.trans y) w r
 |bad=>exact h
theorem ep.from{Q:Bool->Hp->Prop}{o:Out Bool}(x:Ext ae H ag H')(h:ep K mg W ae H Q o):ep K mg W ag H' Q o:=by
 cases o with
 |ok d S=>exact λaL aG y w=>h aL aG (x.trans y) w
 |ex e S=>exact λC dd aL aG y w r=>h C dd aL aG (x.trans y) w r
 |bad=>exact h
theorem bj.from{Kd:WX}{dR:Ends}{o:SO}(x:Ext ae H ag H')(h:bj K mg Kd ae H dR o):bj K mg Kd ag H' dR o:=by
 cases o with
 |nx sl S=>exact λσ aL aG y w r=>h σ aL aG (x.trans y) w r
 |bk sl S=>exact λσ aL aG y w r=>h σ aL aG (x.trans y) w r
 |ct sl S=>exact λσ aL aG y w r=>h σ aL aG (x.trans y) w r
 |rt d S=>exact λv aL aG y w r=>h v aL aG (x.trans y) w r
 |ex e sl S=>exact λC dd σ aL aG y w r1 aE=>h C dd σ aL aG (x.trans y) w r1 aE
 |bad=>exact h
theorem aM.eD{Q:V->Hp->Prop}{o:Out D}{k:D->Store->Out D}(h:aM K mg W ae H Q (o.bind k)) :
  aM K mg W ae H (λv H1=>∃aA S1 d,Ext ae H aA H1/\aD K mg aA H1 S1/\Rep K mg aA H1 d v/\o=.ok d S1/\aM K mg W aA H1 Q (k d S1)) o:=by
 cases o with
 |ok d S=>exact λv aL aG y w r=>⟨aL,S,d,y,w,r,rfl,aM.from y h⟩
 |ex e S=>exact h
 |bad=>exact h
theorem aM.nU{Q:List V->Hp->Prop}{o:Out D}{k:D->Store->Out (List D)}(h:dY K mg W ae H Q (o.bind k)) :
  aM K mg W ae H (λv H1=>∃aA S1 d,Ext ae H aA H1/\aD K mg aA H1 S1/\Rep K mg aA H1 d v/\o=.ok d S1/\dY K mg W aA H1 Q (k d S1)) o:=by
 cases o with
 |ok d S=>exact λv aL aG y w r=>⟨aL,S,d,y,w,r,rfl,dY.from y h⟩
 |ex e S=>exact h
 |bad=>exact h
theorem aM.bindB{Q:Bool->Hp->Prop}{o:Out D}{k:D->Store->Out Bool}(h:ep K mg W ae H Q (o.bind k)) :
  aM K mg W ae H (λv H1=>∃aA S1 d,Ext ae H aA H1/\aD K mg aA H1 S1/\Rep K mg aA H1 d v/\o=.ok d S1/\ep K mg W aA H1 Q (k d S1)) o:=by
 cases o with
 |ok d S=>exact λv aL aG y w r=>⟨aL,S,d,y,w,r,rfl,ep.from y h⟩
 |ex e S=>exact h
 |bad=>exact h
theorem dY.eD{Q:V->Hp->Prop}{o:Out (List D)}{k:List D->Store->Out D}(h:aM K mg W ae H Q (o.bind k)) :
  dY K mg W ae H (λv H1=>∃aA S1 d,Ext ae H aA H1/\aD K mg aA H1 S1/\ak K mg aA H1 d v/\o=.ok d S1/\aM K mg W aA H1 Q (k d S1)) o:=by
 cases o with
 |ok d S=>exact λv aL aG y w r=>⟨aL,S,d,y,w,r,rfl,aM.from y h⟩
 |ex e S=>exact h
 |bad=>exact h
theorem dY.nU{Q:List V->Hp->Prop}{o:Out (List D)}{k:List D->Store->Out (List D)}(h:dY K mg W ae H Q (o.bind k)) :
  dY K mg W ae H (λv H1=>∃aA S1 d,Ext ae H aA H1/\aD K mg aA H1 S1/\ak K mg aA H1 d v/\o=.ok d S1/\dY K mg W aA H1 Q (k d S1)) o:=by
 cases o with
 |ok d S=>exact λv aL aG y w r=>⟨aL,S,d,y,w,r,rfl,dY.from y h⟩
 |ex e S=>exact h
 |bad=>exact h
theorem ep.eD{Q:V->Hp->Prop}{o:Out Bool}{k:Bool->Store->Out D}(h:aM K mg W ae H Q (o.bind k)) :
  ep K mg W ae H (λb H1=>∃aA S1,Ext ae H aA H1/\aD K mg aA H1 S1/\o=.ok b S1/\aM K mg W aA H1 Q (k b S1)) o:=by
 cases o with
 |ok d S=>exact λaL aG y w=>⟨aL,S,y,w,rfl,aM.from y h⟩
 |ex e S=>exact h
 |bad=>exact h
theorem ep.bindB{Q:Bool->Hp->Prop}{o:Out Bool}{k:Bool->Store->Out Bool}(h:ep K mg W ae H Q (o.bind k)) :
  ep K mg W ae H (λb H1=>∃aA S1,Ext ae H aA H1/\aD K mg aA H1 S1/\o=.ok b S1/\ep K mg W aA H1 Q (k b S1)) o:=by
 cases o with
 |ok d S=>exact λaL aG y w=>⟨aL,S,y,w,rfl,ep.from y h⟩
 |ex e S=>exact h
 |bad=>exact h
end
def ai(i:Nat):aQ:=λsl S=>match sl[i]? with
 |some (some d)=>.ok d S
 |_=>.bad
def au(d:D):aQ:=λ_ S=>.ok d S
abbrev bR:=D->D->Store->Out D
abbrev wj:=D->Store->Out D
abbrev aK:=List D->Store->Out D
def ay(bp:bR)(fa fb:aQ):aQ:=λsl S=>(fa sl S).bind λd S1=>(fb sl S1).bind λe S2=>bp d e S2
def wk(bp:wj)(fa:aQ):aQ:=λsl S=>(fa sl S).bind bp
def az(bp:aK)(fa:c1):aQ:=λsl S=>(fa sl S).bind bp
def aq:c1:=λ_ S=>.ok [] S
def aj(f:aQ)(g:c1):c1:=λsl S=>(f sl S).bind λd S1=>(g sl S1).bind λds S2=>.ok (d::ds) S2
def c7(f g:bR):bR:=λd e S=>match f d e S with
 | .bad=>g d e S
 |r=>r
def px(f g:aK):aK:=λd S=>match f d S with
 | .bad=>g d S
 |r=>r
def a5(f:aQ):b9:=λsl S=>(f sl S).bind λd S1=>match d with
 | .bl b=>.ok b S1
 |_=>.bad
def gH(f:b9):b9:=λsl S=>(f sl S).bind λb S1=>.ok (!b) S1
def lI(f g:b9):b9:=λsl S=>(f sl S).bind λb S1=>if b=true then g sl S1 else .ok false S1
def fQ(f g:b9):b9:=λsl S=>(f sl S).bind λb S1=>if b=true then .ok true S1 else g sl S1
def i_(f g:aQ):aQ:=λsl S=>(f sl S).bind λd S1=>match d with
 | .bl true=>g sl S1
 | .bl false=>.ok (.bl false) S1
 |_=>.bad
def zH(f:aQ):aQ:=λsl S=>(f sl S).bind λd S1=>match d with
 | .bl b=>.ok (.bl (!b)) S1
 |_=>.bad
def kK(c:b9)(f g:aQ):aQ:=λsl S=>(c sl S).bind λb S1=>if b=true then f sl S1 else g sl S1
def pz(s1 s2:bR)(fa fb fc:aQ):aQ:=λsl S=>(fa sl S).bind λd S1=>(fb sl S1).bind λe S2=>(s1 d e S2).bind λr aX=>match r with
 | .bl true=>(fc sl aX).bind λg bV=>s2 e g bV
 | .bl false=>.ok (.bl false) aX
 |_=>.bad
section
variable{X:Cx}{W:WX}
structure cg(X:Cx)(f:Value->Value->Sem Value)(bp:bR):Prop where
 go:∃r:R2,OpR X f r/\∀(Wp:Value->Option Addr->Hp->Prop) (ae:List Addr) (H:Hp) (S:Store) (d e:D) (x y:V) (Q:VK),aD X.K X.mg ae H S->Rep X.K X.mg ae H d x->Rep X.K X.mg ae H e y->aM X.K X.mg Wp ae H Q (bp d e S)->r x y H Q
structure Ke(X:Cx)(f:Value->Sem Value)(bp:wj):Prop where
 go:∃r:V->Hp->VK->Prop,UnR X f r/\∀(Wp:Value->Option Addr->Hp->Prop) (ae:List Addr) (H:Hp) (S:Store) (d:D) (x:V) (Q:VK),aD X.K X.mg ae H S->Rep X.K X.mg ae H d x->aM X.K X.mg Wp ae H Q (bp d S)->r x H Q
structure hC(X:Cx)(f:Value)(bp:aK):Prop where
 go:∃r:List V->Hp->VK->Prop,CallR X f r/\∀(Wp:Value->Option Addr->Hp->Prop) (ae:List Addr) (H:Hp) (S:Store) (ds:List D) (xs:List V) (Q:VK),aD X.K X.mg ae H S->ak X.K X.mg ae H ds xs->aM X.K X.mg Wp ae H Q (bp ds S)->r xs H Q
theorem cg.or{f:Value->Value->Sem Value}{s t:bR}(h:cg X f s)(h':cg X f t):cg X f (c7 s t):=by
 obtain⟨r,o,g⟩:=h.go;obtain⟨bN,eE,e8⟩:=h'.go;refine⟨_,o.or eE,λWp ae H S d e x y Q w aC aZ p=>?_⟩;unfold c7 at p;grind
theorem hC.or{f:Value}{s t:aK}(h:hC X f s)(h':hC X f t):hC X f (px s t):=by
 obtain⟨r,o,g⟩:=h.go;obtain⟨bN,eE,e8⟩:=h'.go;refine⟨_,CallR.or o eE,λWp ae H S d x Q w aC p=>?_⟩;unfold px at p;grind
theorem b5{K:PySem.W.Frag}{mg:Str->Option Value}{Wp:Value->Option Addr->Hp->Prop}{ae:List Addr}{H:Hp}{Q:VK}{d:D}{S:Store}{v:V}(h:aM K mg Wp ae H Q (.ok d S))(w:aD K mg ae H S)(r:Rep K mg ae H d v):Q v H :=
 h v ae H Ext.refl w r
theorem av{i:Nat}{x:Str}{pos:Pos}(eF:X.N[i]?=some x:=by rfl)(bB:Vis X.env.scope x:=by first|exact Or.inl rfl|exact Or.inr (Or.inl rfl)|exact Or.inr (Or.inr rfl))(hd:(x==("__debug__":Str))=false:=by decide)
  (iF:(x==("__classdict__":Str))=false:=by decide):E X W (.Name x pos) (ai i):=by
 refine PE.imp (pe_var eF bB hd iF) λσ H Q h=>?_;obtain⟨ae,S,sl,w,r,p⟩:=h;unfold ai at p;cases q:sl[i]? with
 |none=>rw[q]at p;exact p.elim
 |some o =>
  cases o with
  |none=>rw[q]at p;exact p.elim
  |some d =>
   rw[q]at p;obtain⟨v,e,aO⟩:=r.at_ i d q;exact⟨v,e,b5 p w aO⟩
theorem aN{i:Int}{j pos}:E X W (.Constant (.int i) j pos) (au (.int i)):=PE.imp pe_int λσ H Q ⟨ae,S,sl,w,r,p⟩=>b5 (d:=.int i) p w (by rw[Rep])
theorem nV{b:Bool}{j pos}:E X W (.Constant (.bool b) j pos) (au (.bl b)):=PE.imp pe_bl λσ H Q ⟨ae,S,sl,w,r,p⟩=>b5 (d:=.bl b) p w (by rw[Rep])
theorem zI{j pos}:E X W (.Constant .none j pos) (au .non):=PE.imp pe_non λσ H Q ⟨ae,S,sl,w,r,p⟩=>b5 (d:=.non) p w (by rw[Rep])
theorem d4{x:Str}{j pos}:E X W (.Constant (.str x) j pos) (au (.str x)):=PE.imp pe_str λσ H Q ⟨ae,S,sl,w,r,p⟩=>b5 (d:=.str x) p w (by rw[Rep])
theorem D9{x:Str}{v:V}{u:Value}{pos:Pos}{d:D}(hg:Gl X x)(hm:X.mg x=some u)(aO:RelV v u)(rd:∀ae H,Rep X.K X.mg ae H d v)(hd:(x==("__debug__":Str))=false:=by decide):E X W (.Name x pos) (au d) :=
 PE.imp (pe_glob hg hm aO hd) λσ H Q ⟨ae,S,sl,w,r,p⟩=>b5 (d:=d) p w (rd ae H)
theorem h5{x:Str}{n:String}{pos:Pos}(hg:Gl X x)(hm:X.mg x=none)(bB:bootBuiltins x=some (.type n))(hn:x≠"__name__":=by decide)(hd:(x==("__debug__":Str))=false:=by decide):E X W (.Name x pos) (au (.ty n)) :=
 PE.imp (pe_bltn (v:=.ty n) hg hm bB rfl hn hd) λσ H Q ⟨ae,S,sl,w,r,p⟩=>b5 (d:=.ty n) p w (by rw[Rep])
theorem Kf{x:Str}{C:Addr}{pos:Pos}(hg:Gl X x)(hm:X.mg x=some (.ref C))(hd:(x==("__debug__":Str))=false:=by decide):E X W (.Name x pos) (au (.cls x)) :=
 PE.imp (pe_glob (v:=.ref C) hg hm rfl hd) λσ H Q ⟨ae,S,sl,w,r,p⟩=>b5 (d:=.cls x) p w (by rw[Rep];grind)
theorem aM.mono{K:PySem.W.Frag}{mg:Str->Option Value}{Wp:Value->Option Addr->Hp->Prop}{ae:List Addr}{H:Hp}{Q fR:VK}{o:Out D}(h:aM K mg Wp ae H Q o)(k:∀v H',Q v H'->fR v H'):aM K mg Wp ae H fR o:=by
 cases o with
 |ok d S=>exact λv ag H' x w r=>k _ _ (h v ag H' x w r)
 |ex e S=>exact h
 |bad=>exact h
theorem dY.mono{K:PySem.W.Frag}{mg:Str->Option Value}{Wp:Value->Option Addr->Hp->Prop}{ae:List Addr}{H:Hp}{Q fR:List V->Hp->Prop}{o:Out (List D)}(h:dY K mg Wp ae H Q o)(k:∀v H',Q v H'->fR v H'):dY K mg Wp ae H fR o:=by
 cases o with
 |ok d S=>exact λv ag H' x w r=>k _ _ (h v ag H' x w r)
 |ex e S=>exact h
 |bad=>exact h
theorem ep.mono{K:PySem.W.Frag}{mg:Str->Option Value}{Wp:Value->Option Addr->Hp->Prop}{ae:List Addr}{H:Hp}{Q fR:Bool->Hp->Prop}{o:Out Bool}(h:ep K mg Wp ae H Q o)(k:∀v H',Q v H'->fR v H'):ep K mg Wp ae H fR o:=by
 cases o with
 |ok d S=>exact λag H' x w=>k _ _ (h ag H' x w)
 |ex e S=>exact h
 |bad=>exact h
variable{a b c:Expr}{fa fb fc:aQ}{pos:Pos}
theorem D_{f:aQ}{g:aJ->D->Store->Out D}{K:PySem.W.Frag}{mg:Str->Option Value}{σ:L2.St}{H:Hp}{Q:VK}{k:V->Hp->Prop}(h:eN K mg W (λsl S=>(f sl S).bind (g sl)) σ H Q)
  (hk:∀ae S sl H1 d v,aD K mg ae H1 S->bM K mg ae H1 σ sl->Rep K mg ae H1 d v->aM K mg (λC d H'=>W C d σ H') ae H1 Q (g sl d S)->k v H1):eN K mg W f σ H k:=by
 obtain⟨ae,S,sl,w,r,p⟩:=h;exact⟨ae,S,sl,w,r,aM.mono (aM.eD p) λv H1 ⟨aA,S1,d,x1,aF,r1,_,p1⟩=>hk aA S1 sl H1 d v aF (r.ext x1) r1 p1⟩
theorem zJ{g:bR}{K:PySem.W.Frag}{mg:Str->Option Value}{σ:L2.St}{H:Hp}{Q:VK}{k:V->V->Hp->Prop}(h:eN K mg W (ay g fa fb) σ H Q)
  (hk:∀ae S aG d e x y,aD K mg ae aG S->Rep K mg ae aG d x->Rep K mg ae aG e y->aM K mg (λC d H'=>W C d σ H') ae aG Q (g d e S)->k x y aG):eN K mg W fa σ H λx H1=>eN K mg W fb σ H1 λy aG=>k x y aG:=by
 obtain⟨ae,S,sl,w,r,p⟩:=h;refine⟨ae,S,sl,w,r,aM.mono (aM.eD p) λv H1 ⟨aA,S1,d,x1,aF,r1,_,p1⟩=>?_⟩;refine⟨aA,S1,sl,aF,r.ext x1,aM.mono (aM.eD p1) λy aG ⟨aL,S2,e,x2,cz,aE,_,p2⟩=>?_⟩;exact hk aL S2 aG d e v y cz (r1.ext x2) aE p2
theorem bZ{op:Operator}{bp:bR}(aS:cg X (binaryOp op) bp)(ha:E X W a fa)(hb:E X W b fb):E X W (.BinOp a op b pos) (ay bp fa fb):=by
 obtain⟨r,o,g⟩:=aS.go;exact PE.imp (pe_op o ha hb) λσ H Q h=>zJ h λae S aG d e x y w aC aZ p=>g _ ae aG S d e x y Q w aC aZ p
theorem j4{op:CmpOp}{bp:bR}(aS:cg X (compareOp op) bp)(ha:E X W a fa)(hb:E X W b fb)(hm:behindInMarks op b=false:=by first|exact nomark _|rfl):E X W (.Compare a [op] [b] pos) (ay bp fa fb):=by
 obtain⟨r,o,g⟩:=aS.go;exact PE.imp (pe_cmpR o ha hb hm) λσ H Q h=>zJ h λae S aG d e x y w aC aZ p=>g _ ae aG S d e x y Q w aC aZ p
theorem Kg{op:UnaryOp}{bp:wj}(aS:Ke X (unaryOp op) bp)(ha:E X W a fa):E X W (.UnaryOp op a pos) (wk bp fa):=by
 obtain⟨r,o,g⟩:=aS.go;exact PE.imp (pe_un o ha) λσ H Q h=>D_ (g:=λ_=>bp) h λae S sl H1 d v w _ aO p=>g _ ae H1 S d v Q w aO p
theorem c9{op:CmpOp}{bp:bR}(aS:cg X (compareOp op) bp)(ha:E X W a fa)(hb:E X W b fb)(hm:behindInMarks op b=false:=by first|exact nomark _|rfl):h4 X W (.Compare a [op] [b] pos) (a5 (ay bp fa fb)):=by
 obtain⟨r,o,g⟩:=aS.go;refine PT.imp (pt_cmpR o ha hb hm) λσ H Q h=>?_;obtain⟨ae,S,sl,w,rs,p⟩:=h;have cw:=aM.bindB p;refine zJ (Q:=λx H'=>∃k,x=.bl k/\Q k H') ⟨ae,S,sl,w,rs,aM.mono cw λv H1 ⟨aA,S1,d,x1,aF,r1,_,p1⟩=>?_⟩ λae S aG d e x y w aC aZ p=>g _ ae aG S d e x y _ w aC aZ p;cases d with
 |bl k =>
  rw[Rep]at r1;exact⟨k,r1,p1 aA H1 Ext.refl aF⟩
 |_=>exact p1.elim
theorem kL(ha:E X W a fa)(he:∀whole,isTrue a X.env whole=(do let v <-whole;standAt a.pos;holding [v] (truthy v)):=by intro _;rfl):h4 X W a (a5 fa):=by
 refine PT.imp (pt_val ha he) λσ H Q h=>?_;obtain⟨ae,S,sl,w,rs,p⟩:=h;refine⟨ae,S,sl,w,rs,aM.mono (aM.bindB p) λv H1 ⟨aA,S1,d,x1,aF,r1,_,p1⟩=>?_⟩;cases d with
 |bl k =>
  rw[Rep]at r1;exact⟨k,r1,p1 aA H1 Ext.refl aF⟩
 |_=>exact p1.elim
def gk(X:Cx)(W:WX)(e:Expr)(f:b9):Prop:=PW X e (pw X.K X.mg W f)
theorem gk.eb{e:Expr}{f:b9}(h:gk X W e f):h4 X W e f:=PW.pt h
theorem PW.imp{e:Expr}{t t':TT}(h:PW X e t)(k:∀σ H Q,t' σ H Q->t σ H Q):PW X e t':=⟨λRP pins s σ H Q I q=>h.run RP pins s σ H Q I (k σ H Q q)⟩
variable{ga zK:b9}{rest:List Expr}
theorem D'(ha:h4 X W a ga):gk X W (.BoolOp .And [a] pos) ga:=pw_and1 ha
theorem mQ(ha:h4 X W a ga):gk X W (.BoolOp .Or [a] pos) ga:=pw_or1 ha
theorem Ea(ha:h4 X W a ga)(hb:gk X W (.BoolOp .And (b::rest) pos) zK):gk X W (.BoolOp .And (a::b::rest) pos) (lI ga zK):=by
 refine PW.imp (pw_and ha hb) λσ H Q h=>?_;obtain⟨ae,S,sl,w,rs,p⟩:=h;refine⟨ae,S,sl,w,rs,ep.mono (ep.bindB p) λk H1 ⟨aA,S1,x1,aF,_,p1⟩=>?_⟩;cases k with
 |true=>exact⟨aA,S1,sl,aF,rs.ext x1,p1⟩
 |false=>exact p1 aA H1 Ext.refl aF
theorem j5(ha:h4 X W a ga)(hb:gk X W (.BoolOp .Or (b::rest) pos) zK):gk X W (.BoolOp .Or (a::b::rest) pos) (fQ ga zK):=by
 refine PW.imp (pw_or ha hb) λσ H Q h=>?_;obtain⟨ae,S,sl,w,rs,p⟩:=h;refine⟨ae,S,sl,w,rs,ep.mono (ep.bindB p) λk H1 ⟨aA,S1,x1,aF,_,p1⟩=>?_⟩;cases k with
 |false=>exact⟨aA,S1,sl,aF,rs.ext x1,p1⟩
 |true=>exact p1 aA H1 Ext.refl aF
theorem kM(ha:h4 X W a ga):h4 X W (.UnaryOp .Not a pos) (gH ga):=by
 refine PT.imp (pt_not ha) λσ H Q h=>?_;obtain⟨ae,S,sl,w,rs,p⟩:=h;exact⟨ae,S,sl,w,rs,ep.mono (ep.bindB p) λk H1 ⟨aA,S1,x1,aF,_,p1⟩=>p1 aA H1 Ext.refl aF⟩
theorem qU{op:BoolOp}(ha:E X W a fa):E X W (.BoolOp op [a] pos) fa:=pe_one ha
def RQ(g:aQ):aJ->D->Store->Out D:=λsl d S1=>match d with
 | .bl true=>g sl S1
 | .bl false=>.ok (.bl false) S1
 |_=>.bad
def RR:aJ->D->Store->Out D:=λsl d S1=>match d with
 | .bl b=>.ok (.bl (!b)) S1
 |_=>.bad
theorem nW(ha:E X W a fa)(hb:E X W (.BoolOp .And (b::rest) pos) fb):E X W (.BoolOp .And (a::b::rest) pos) (i_ fa fb):=by
 refine PE.imp (pe_and ha hb) λσ H Q h=>D_ (g:=RQ fb) h λae S sl H1 d v w r1 aO p=>?_;cases d with
 |bl k =>
  rw[Rep]at aO;refine⟨k,aO,?_⟩;cases k with
  |true=>rw[if_pos rfl];exact⟨ae,S,sl,w,r1,p⟩
  |false=>rw[if_neg jy];exact b5 p w (by rw[Rep])
 |_=>exact p.elim
theorem RU(ha:E X W a fa):E X W (.UnaryOp .Not a pos) (zH fa):=by
 refine PE.imp (pe_not ha) λσ H Q h=>D_ (g:=RR) h λae S sl H1 d v w r1 aO p=>?_;cases d with
 |bl k =>
  rw[Rep]at aO;exact⟨k,aO,b5 p w (by rw[Rep])⟩
 |_=>exact p.elim
theorem qV(hc:h4 X W c ga)(ha:E X W a fa)(hb:E X W b fb):E X W (.IfExp c a b pos) (kK ga fa fb):=by
 refine PE.imp (pe_ifExp hc ha hb) λσ H Q h=>?_;obtain⟨ae,S,sl,w,rs,p⟩:=h;refine⟨ae,S,sl,w,rs,ep.mono (ep.eD p) λk H1 ⟨aA,S1,x1,aF,_,p1⟩=>?_⟩;cases k with
 |true=>exact⟨aA,S1,sl,aF,rs.ext x1,p1⟩
 |false=>exact⟨aA,S1,sl,aF,rs.ext x1,p1⟩
theorem Kh{s1 s2:bR}{f g:Value->Value->Sem Value}(h1:cg X f s1)(h2:cg X g s2):∃r bN:R2,OpR X f r/\OpR X g bN/\∀{σ:L2.St} {H:Hp} {Q:VK},eN X.K X.mg W (pz s1 s2 fa fb fc) σ H Q->tChain r bN (eN X.K X.mg W fa) (eN X.K X.mg W fb) (eN X.K X.mg W fc) σ H Q:=by
 obtain⟨r,o,g1⟩:=h1.go;obtain⟨bN,eE,g2⟩:=h2.go;refine⟨r,bN,o,eE,λ{σ H Q} h=>?_⟩;obtain⟨ae,S,sl,w,rs,p⟩:=h;refine⟨ae,S,sl,w,rs,aM.mono (aM.eD p) λv H1 ⟨aA,S1,d,x1,aF,r1,_,p1⟩=>?_⟩;refine⟨aA,S1,sl,aF,rs.ext x1,aM.mono (aM.eD p1) λy aG ⟨aL,S2,e,x2,cz,aE,_,p2⟩=>?_⟩;refine g1 _ aL aG S2 d e v y _ cz (r1.ext x2) aE (aM.mono (aM.eD p2) λz cF ⟨e9,aX,k,cq,eO,cA,_,bG⟩=>?_);cases k with
 |bl k =>
  rw[Rep]at cA;refine⟨k,cA,?_⟩;cases k with
  |true =>
   rw[if_pos rfl];refine⟨e9,aX,sl,eO,(rs.ext (x1.trans (x2.trans cq))),aM.mono (aM.eD bG) λu dJ ⟨iG,bV,m,cR,jF,dS,_,b3⟩=>?_⟩;exact g2 _ iG dJ bV e m y u Q jF (aE.ext (cq.trans cR)) dS b3
  |false =>
   rw[if_neg jy];exact b5 bG eO (by rw[Rep])
 |_=>exact bG.elim
theorem RV{op qW:CmpOp}{s1 s2:bR}(h1:cg X (compareOp op) s1)(h2:cg X (compareOp qW) s2)(ha:E X W a fa)(hb:E X W b fb)(hc:E X W c fc)(hm:lastMarks [op,qW] [b,c]=false:=by rfl):E X W (.Compare a [op,qW] [b,c] pos) (pz s1 s2 fa fb fc):=by
 obtain⟨r,bN,o,eE,k⟩:=Kh (W:=W) (fa:=fa) (fb:=fb) (fc:=fc) h1 h2;exact PE.imp (pe_chain o eE ha hb hc hm) λσ H Q h=>k h
theorem RW{op qW:CmpOp}{s1 s2:bR}(h1:cg X (compareOp op) s1)(h2:cg X (compareOp qW) s2)(ha:E X W a fa)(hb:E X W b fb)(hc:E X W c fc)(hm:lastMarks [op,qW] [b,c]=false:=by rfl):h4 X W (.Compare a [op,qW] [b,c] pos) (a5 (pz s1 s2 fa fb fc)):=by
 obtain⟨r,bN,o,eE,k⟩:=Kh (W:=W) (fa:=fa) (fb:=fb) (fc:=fc) h1 h2;refine PT.imp (pt_chain o eE ha hb hc hm) λσ H Q h=>?_;obtain⟨ae,S,sl,w,rs,p⟩:=h;refine k (Q:=λx H'=>∃k,x=.bl k/\Q k H') ⟨ae,S,sl,w,rs,aM.mono (aM.bindB p) λv H1 ⟨aA,S1,d,x1,aF,r1,_,p1⟩=>?_⟩;cases d with
 |bl k =>
  rw[Rep]at r1;exact⟨k,r1,p1 aA H1 Ext.refl aF⟩
 |_=>exact p1.elim
theorem aB:gj X W [] aq:=PA.imp pa_nil λσ H Q ⟨ae,S,sl,w,rs,p⟩=>p [] ae H Ext.refl w ak.nil
theorem Ki{f:aQ}{g:c1}{K:PySem.W.Frag}{mg:Str->Option Value}{σ:L2.St}{H:Hp}{Q:List V->Hp->Prop}(h:qT K mg W (aj f g) σ H Q):eN K mg W f σ H λx H1=>qT K mg W g σ H1 λxs aG=>Q (x::xs) aG:=by
 obtain⟨ae,S,sl,w,r,p⟩:=h;refine⟨ae,S,sl,w,r,aM.mono (aM.nU p) λv H1 ⟨aA,S1,d,x1,aF,r1,_,p1⟩=>?_⟩;refine⟨aA,S1,sl,aF,r.ext x1,dY.mono (dY.nU p1) λy aG ⟨aL,S2,e,x2,cz,aE,_,p2⟩=>?_⟩;exact p2 (v::y) aL aG Ext.refl cz (ak.cons (r1.ext x2) aE)
theorem aw{e:Expr}{es:List Expr}{f:aQ}{g:c1}(ha:E X W e f)(hr:gj X W es g)(hs:starEach (e::es) X.env=(false,eval e X.env)::starEach es X.env:=by rfl):gj X W (e::es) (aj f g) :=
 PA.imp (pa_cons ha hr hs) λσ H Q h=>Ki h
theorem qX{f:c1}{bp:aK}{K:PySem.W.Frag}{mg:Str->Option Value}{σ:L2.St}{H:Hp}{Q:VK}{k:List V->Hp->Prop}(h:eN K mg W (az bp f) σ H Q)
  (hk:∀ae S H1 ds vs,aD K mg ae H1 S->ak K mg ae H1 ds vs->aM K mg (λC d H'=>W C d σ H') ae H1 Q (bp ds S)->k vs H1):qT K mg W f σ H k:=by
 obtain⟨ae,S,sl,w,r,p⟩:=h;exact⟨ae,S,sl,w,r,dY.mono (dY.eD p) λv H1 ⟨aA,S1,d,x1,aF,r1,_,p1⟩=>hk aA S1 H1 d v aF r1 p1⟩
end
section
variable{K:PySem.W.Frag}{mg:Str->Option Value}{ae:List Addr}{H:Hp}{S:Store}
theorem Ext.g0{p:Addr}{o:HO}(hp:H p=none):Ext ae H ae (upd H p o):=⟨⟨[],by simp⟩,λa h n=>absurd h n,λa u n h=>.inl (by rw[upd_ne (ne_of_none h hp)];exact h)⟩
theorem aD.nin(w:aD K mg ae H S){p:Addr}(hp:H p=none):p∉ae:=λq=>w.tr p q hp
theorem hB.ext{ag:List Addr}{H':Hp}(x:Ext ae H ag H'){a:Addr}{m:dx}(e:H' a=H a)(h:hB K mg ae H a m):hB K mg ag H' a m:=by
 cases m with
 |lst ds =>
  obtain⟨vs,h1,h2⟩:=h;exact⟨vs,e.trans h1,h2.ext x⟩
 |dct lk ks ds =>
  obtain⟨kvs,h1,h2,aH⟩:=h;refine⟨kvs,?_,h2.ext x,aH.ext x⟩;cases lk with
  |true =>
   rw[if_pos rfl]at h1 ⊢;rcases h1 with h1|⟨o,h1⟩
   .exact .inl (e.trans h1)
   .exact .inr ⟨o,e.trans h1⟩
  |false =>
   grind
 |dw w ks ds =>
  obtain⟨hs,es,bA,vs,h1,h2,aH,bQ⟩:=h;exact⟨hs,es,bA,vs,e.trans h1,h2,aH.ext x,bQ.ext x⟩
 |ins c ns ds =>
  obtain⟨C,bh,fs,h0,h1,h2,aH⟩:=h;exact⟨C,bh,fs,h0,e.trans h1,h2,aH.ext x⟩
 |tab P q =>
  obtain⟨dG,ps,h1,h2,aH⟩:=h;refine⟨dG,ps,e.trans h1,h2,λpos pq hc=>?_⟩;obtain⟨c,ao,n,e2⟩:=aH pos pq hc;exact⟨c,ao,x.nin n e2,x.kept n e2 (by intros;nofun)⟩
 |dead=>exact trivial
theorem aD.g0(w:aD K mg ae H S){p:Addr}{o:HO}(hp:H p=none):aD K mg ae (upd H p o) S:=by
 have ne:∀a∈ae,a≠p:=λa ha q=>w.nin hp (q▸ha);refine⟨w.len,w.nd,λa ha=>by rw[upd_ne (ne a ha)];exact w.tr a ha,λn a m ao e2=>?_⟩;have ha:a∈ae:=mJ ao;exact hB.ext (Ext.g0 hp) (upd_ne (ne a ha)) (w.ob n a m ao e2)
theorem Ext.hand{p:Addr}{o:HO}(hp:H p=none):Ext ae H (ae++[p]) (upd H p o):=by
 refine⟨⟨[p],rfl⟩,λa h n=>?_,λa u n h=>.inl (by rw[upd_ne (ne_of_none h hp)];exact h)⟩;grind
theorem aD.hand(w:aD K mg ae H S){p:Addr}{o:HO}{m:dx}(hp:H p=none)(hm:hB K mg (ae++[p]) (upd H p o) p m):aD K mg (ae++[p]) (upd H p o) (S++[m]):=by
 have ne:∀a∈ae,a≠p:=λa ha q=>w.nin hp (q▸ha);refine⟨by simp[w.len],?_,λa ha=>?_,λn a gI ao e2=>?_⟩
 .refine List.nodup_append.mpr ⟨w.nd,by simp,λa ha b hb=>?_⟩
  grind
 .rcases mK.mp ha with ha|ha
  .rw[upd_ne (ne a ha)];exact w.tr a ha
  .rw[pk.mp ha,upd_same];simp
 .by_cases hn:n<ae.length
  .rw[s7 hn]at ao
   rw[s7 (by rw[<-w.len];exact hn)]at e2;exact hB.ext (Ext.hand hp) (upd_ne (ne a (mJ ao))) (w.ob n a gI ao e2)
  .have hl:=w.len
   grind
theorem wm{Wp:Value->Option Addr->Hp->Prop}{Q:VK}{ds:List D}{vs:List V}{p:Addr}(h:aM K mg Wp ae H Q (.ok (.tup ds) S))(w:aD K mg ae H S)(r:ak K mg ae H ds vs)(hp:H p=none):Q (.ref p) (upd H p (.tup vs)):=by
 refine h (.ref p) ae _ (Ext.g0 hp) (w.g0 hp) ?_;rw[Rep];exact⟨p,vs,rfl,.inl ⟨w.nin hp,upd_same⟩,r.ext (Ext.g0 hp)⟩
theorem qY{Wp:Value->Option Addr->Hp->Prop}{Q:VK}{ds:List D}{vs:List V}{p:Addr}(h:aM K mg Wp ae H Q (.ok (.lst ds) S))(w:aD K mg ae H S)(r:ak K mg ae H ds vs)(hp:H p=none):Q (.ref p) (upd H p (.lst vs)):=by
 refine h (.ref p) ae _ (Ext.g0 hp) (w.g0 hp) ?_;rw[Rep];exact⟨p,vs,rfl,⟨w.nin hp,upd_same⟩,r.ext (Ext.g0 hp)⟩
theorem Eb{Wp:Value->Option Addr->Hp->Prop}{Q:VK}{ds:List D}{vs:List V}{p:Addr}(h:aM K mg Wp ae H Q (.ok (.ptr S.length) (S++[.lst ds])))(w:aD K mg ae H S)(r:ak K mg ae H ds vs)(hp:H p=none):Q (.ref p) (upd H p (.lst vs)):=by
 refine h (.ref p) (ae++[p]) _ (Ext.hand hp) (w.hand hp ⟨vs,upd_same,r.ext (Ext.hand hp)⟩) ?_;rw[Rep];exact⟨p,rfl,by rw[<-w.len];simp⟩
end
def jar:aK:=λds S=>if ds.length<=1000000 then .ok (.tup ds) S else .bad
def eG:aK:=λds S=>if ds.length<=1000000 then .ok (.lst ds) S else .bad
def lJ:aK:=λds S=>if ds.length<=1000000 then .ok (.ptr S.length) (S++[.lst ds])else .bad
theorem h6{n:Nat}(h:n<=1000000):n<=sizeLine:=by rw[sizeLine_eq];omega
section
variable{X:Cx}{W:WX}{es:List Expr}{f:c1}{pos:Pos}
theorem dU{x1}(h:gj X W es f):E X W (.Tuple es x1 pos) (az jar f):=by
 refine PE.imp (pe_tup h) λσ H Q q=>qX q λae S H1 ds vs w r p=>?_;unfold jar at p;split at p
 .rename_i hl
  exact⟨by rw[<-r.len];exact h6 hl,λa ha=>wm p w r ha⟩
 .exact p.elim
theorem h7(h:gj X W es f):E X W (.List es pos) (az eG f):=by
 refine PE.imp (pe_lst h) λσ H Q q=>qX q λae S H1 ds vs w r p=>?_;unfold eG at p;split at p
 .rename_i hl
  exact⟨by rw[<-r.len];exact h6 hl,λa ha=>qY p w r ha⟩
 .exact p.elim
theorem wo(h:gj X W es f):E X W (.List es pos) (az lJ f):=by
 refine PE.imp (pe_lst h) λσ H Q q=>qX q λae S H1 ds vs w r p=>?_;unfold lJ at p;split at p
 .rename_i hl
  exact⟨by rw[<-r.len];exact h6 hl,λa ha=>Eb p w r ha⟩
 .exact p.elim
theorem cJ{x:Str}{id:String}{bp:aK}{p:Pos}{e:Expr}{es:List Expr}(hc:hC X (.builtin id) bp)(hg:Gl X x)(hm:X.mg x=none)(bB:bootBuiltins x=some (.builtin id))(ha:gj X W (e::es) f)(hn:x≠"__name__":=by decide)(hD:(x==("__debug__":Str))=false:=by decide)
  (he:starEach (e::es) X.env=(false,eval e X.env)::starEach es X.env:=by rfl) (d8:(backTo pos (starEach es X.env)).any (·.1)=false:=by rfl):E X W (.Call (.Name x p) (e::es) [] pos) (az bp f):=by
 obtain⟨r,c,g⟩:=hc.go;exact PE.imp (pe_callB c hg hm bB ha hn hD he d8) λσ H Q q=>qX q λae S H1 ds vs w kO p=>g _ ae H1 S ds vs Q w kO p
theorem j6{x:Str}{T:String}{bp:aK}{p:Pos}{e:Expr}{es:List Expr}(hc:hC X (.type T) bp)(hg:Gl X x)(hm:X.mg x=none)(bB:bootBuiltins x=some (.type T))(ha:gj X W (e::es) f)(hn:x≠"__name__":=by decide)(hD:(x==("__debug__":Str))=false:=by decide)
  (he:starEach (e::es) X.env=(false,eval e X.env)::starEach es X.env:=by rfl) (d8:(backTo pos (starEach es X.env)).any (·.1)=false:=by rfl):E X W (.Call (.Name x p) (e::es) [] pos) (az bp f):=by
 obtain⟨r,c,g⟩:=hc.go;exact PE.imp (pe_callTy c hg hm bB ha hn hD he d8) λσ H Q q=>qX q λae S H1 ds vs w kO p=>g _ ae H1 S ds vs Q w kO p
end
def Out.toS{α:Type}(o:Out α)(sl:aJ)(k:α->Store->SO):SO:=match o with
 | .ok a S=>k a S
 | .ex e S=>.ex e sl S
 | .bad=>.bad
def cW:SX:=λsl S=>.nx sl S
def SO.then(o:SO)(g:SX):SO:=match o with
 | .nx sl S=>g sl S
 |r=>r
def a'(f g:SX):SX:=λsl S=>(f sl S).then g
def jG(f:aQ):SX:=λsl S=>(f sl S).toS sl λ_ ah=>.nx sl ah
def b0(f:aQ):SX:=λsl S=>(f sl S).toS sl λd ah=>.rt d ah
def cK(c:b9)(f g:SX):SX:=λsl S=>(c sl S).toS sl λb ah=>if b=true then f sl ah else g sl ah
abbrev cX:=D->aJ->Store->SO
def aV(i:Nat):cX:=λd sl S=>.nx (sl.set i (some d)) S
abbrev gJ:=List D->aJ->Store->SO
def e':gJ:=λds sl S=>match ds with
 |[]=>.nx sl S
 |_=>.bad
def cL(g:cX)(gs:gJ):gJ:=λds sl S=>match ds with
 |d::r=>(g d sl S).then (gs r)
 |[]=>.bad
def cB(S:Store):D->Option (List D)
 | .lst ds=>some ds
 | .ptr n=>match S[n]? with
  |some (.lst ds)=>some ds
  |_=>none
 |_=>none
def fy(gs:gJ):cX:=λd sl S=>match d with
 | .tup ds=>gs ds sl S
 | .bF ds=>gs ds sl S
 |_=>.bad
def b_(f:aQ)(g:cX):SX:=λsl S=>(f sl S).toS sl λd ah=>g d sl ah
def lK(i j:Nat)(f:c1):SX:=λsl S=>(f sl S).toS sl λds ah=>match ds with
 |[d,e]=>.nx ((sl.set i (some d)).set j (some e)) ah
 |_=>.bad
def qZ(c:b9)(body:SX):Nat->SX
 |0,_,_=>.bad
 |n+1,sl,S=>(c sl S).toS sl λb ah=>if b=true then(match body sl ah with
  | .nx aT S2=>qZ c body n aT S2
  | .ct aT S2=>qZ c body n aT S2
  | .bk aT S2=>.nx aT S2
  |r=>r)else .nx sl ah
def Ec:Nat:=1000000
def tF(c:b9)(body:SX):SX:=qZ c body Ec
def jH(G:Store->Prop)(g:cX)(body:SX):List D->SX
 |[],sl,S=>open Classical in if G S then .nx sl S else .bad
 |x::xs,sl,S=>open Classical in if G S then(match g x sl S with
  | .nx a7 S1=>(match body a7 S1 with
   | .nx aT S2=>jH G g body xs aT S2
   | .ct aT S2=>jH G g body xs aT S2
   | .bk aT S2=>.nx aT S2
   |r=>r)
  |_=>.bad)else .bad
abbrev fS:=aJ->Store->Out (List D×(Store->Prop))
def q0(it:fS)(g:cX)(body:SX):SX:=λsl S=>(it sl S).toS sl λp ah=>jH p.2 g body p.1 sl ah
section
variable{K:PySem.W.Frag}{mg:Str->Option Value}{ae:List Addr}{H:Hp}{S:Store}
theorem bM.set{σ:L2.St}{sl:aJ}(r:bM K mg ae H σ sl){d:D}{v:V}(h:Rep K mg ae H d v)(i:Nat):bM K mg ae H (σ.set i (some v)) (sl.set i (some d)):=by
 refine⟨by simp[r.len],λj e q=>?_⟩;by_cases bH:j=i
 .subst bH
  by_cases hl:j<sl.length
  .rw[lC hl]at q
   cases q;exact⟨v,lC (by rw[r.len];exact hl),h⟩
  grind
 .rw[nL (iA bH)]at q ⊢
  exact r.at_ j e q
theorem bj.seq{W:WX}{dR:Ends}{o:SO}{g:SX}(h:bj K mg W ae H dR (o.then g)):bj K mg W ae H { dR with nx:=λσ H'=>D8 K mg W g dR σ H' } o:=by
 cases o with
 |nx sl S=>exact λσ aL aG y w r=>⟨aL,S,sl,w,r,bj.from y h⟩
 |bk sl S=>exact h
 |ct sl S=>exact h
 |rt d S=>exact h
 |ex e sl S=>exact h
 |bad=>exact h
theorem bj.tG{W:WX}{dR:Ends}{σ:L2.St}{sl:aJ}{o:Out D}{k:D->Store->SO}(rs:bM K mg ae H σ sl)(h:bj K mg W ae H dR (o.toS sl k)) :
  aM K mg (λC d H'=>W C d σ H') ae H (λv H1=>∃aA S1 d,aD K mg aA H1 S1/\bM K mg aA H1 σ sl/\Rep K mg aA H1 d v/\bj K mg W aA H1 dR (k d S1)) o:=by
 cases o with
 |ok d S=>exact λv aL aG y w r=>⟨aL,S,d,w,rs.ext y,r,bj.from y h⟩
 |ex e S=>exact λC dd aL aG y w r=>h C dd σ aL aG y w (rs.ext y) r
 |bad=>exact h
theorem bj.RX{W:WX}{dR:Ends}{σ:L2.St}{sl:aJ}{o:Out (List D)}{k:List D->Store->SO}(rs:bM K mg ae H σ sl)(h:bj K mg W ae H dR (o.toS sl k)) :
  dY K mg (λC d H'=>W C d σ H') ae H (λv H1=>∃aA S1 d,aD K mg aA H1 S1/\bM K mg aA H1 σ sl/\ak K mg aA H1 d v/\bj K mg W aA H1 dR (k d S1)) o:=by
 cases o with
 |ok d S=>exact λv aL aG y w r=>⟨aL,S,d,w,rs.ext y,r,bj.from y h⟩
 |ex e S=>exact λC dd aL aG y w r=>h C dd σ aL aG y w (rs.ext y) r
 |bad=>exact h
theorem bj.Kj{W:WX}{dR:Ends}{σ:L2.St}{sl:aJ}{o:Out Bool}{k:Bool->Store->SO}(rs:bM K mg ae H σ sl)(h:bj K mg W ae H dR (o.toS sl k)) :
  ep K mg (λC d H'=>W C d σ H') ae H (λb H1=>∃aA S1,aD K mg aA H1 S1/\bM K mg aA H1 σ sl/\bj K mg W aA H1 dR (k b S1)) o:=by
 cases o with
 |ok d S=>exact λaL aG y w=>⟨aL,S,w,rs.ext y,bj.from y h⟩
 |ex e S=>exact λC dd aL aG y w r=>h C dd σ aL aG y w (rs.ext y) r
 |bad=>exact h
theorem zL{W:WX}{dR:Ends}{σ:L2.St}{sl:aJ}(h:bj K mg W ae H dR (.nx sl S))(w:aD K mg ae H S)(r:bM K mg ae H σ sl):dR.nx σ H:=h σ ae H Ext.refl w r
end
section
variable{X:Cx}{W:WX}{st:Stmt}{rest:List Stmt}{f g:SX}{e:Expr}{fe:aQ}{pos:Pos}
theorem eH:fx X W [] cW:=PSs.imp pss_nil λD σ H ⟨ae,S,sl,w,rs,p⟩=>zL p w rs
theorem bJ(h:ES X W st f):fx X W [st] f:=pss_one h
theorem bE(h:ES X W st f)(hr:fx X W rest g):fx X W (st::rest) (a' f g) :=
 PSs.imp (pss_cons h hr) λD σ H ⟨ae,S,sl,w,rs,p⟩=>⟨ae,S,sl,w,rs,bj.seq p⟩
theorem tH(he:E X W e fe)(hs:swapsWith e none pos.line X.env=pure false:=by rfl):ES X W (.Expr e pos) (jG fe) :=
 PS.imp (ps_expr he hs) λD σ H ⟨ae,S,sl,w,rs,p⟩=>⟨ae,S,sl,w,rs,aM.mono (bj.tG rs p) λv H1 ⟨aA,S1,d,aF,r1,_,p1⟩=>zL p1 aF r1⟩
theorem cM(he:E X W e fe):ES X W (.Return (some e) pos) (b0 fe) :=
 PS.imp (ps_ret he) λD σ H ⟨ae,S,sl,w,rs,p⟩=>⟨ae,S,sl,w,rs,aM.mono (bj.tG rs p) λv H1 ⟨aA,S1,d,aF,r1,aO,p1⟩=>p1 v aA H1 Ext.refl aF aO⟩
theorem er{c:Expr}{ga:b9}{a b:List Stmt}(hc:h4 X W c ga)(ha:fx X W a f)(hb:fx X W b g):ES X W (.If c a b pos) (cK ga f g):=by
 refine PS.imp (ps_if hc ha hb) λD σ H ⟨ae,S,sl,w,rs,p⟩=>⟨ae,S,sl,w,rs,ep.mono (bj.Kj rs p) λk H1 ⟨aA,S1,aF,r1,p1⟩=>?_⟩
 cases k with
 |true=>exact⟨aA,S1,sl,aF,r1,p1⟩
 |false=>exact⟨aA,S1,sl,aF,r1,p1⟩
def RY(K:PySem.W.Frag)(mg:Str->Option Value)(W:WX)(g:cX):TG:=λv σ H Q=>∃ae S sl d,aD K mg ae H S/\bM K mg ae H σ sl/\Rep K mg ae H d v/\bj K mg W ae H ⟨Q,λ_ _=>False,λ_ _=>False,λ_ _=>False⟩ (g d sl S)
def R0(K:PySem.W.Frag)(mg:Str->Option Value)(W:WX)(g:gJ):TGs:=λv σ H Q=>∃ae S sl d,aD K mg ae H S/\bM K mg ae H σ sl/\ak K mg ae H d v/\bj K mg W ae H ⟨Q,λ_ _=>False,λ_ _=>False,λ_ _=>False⟩ (g d sl S)
def q1(X:Cx)(W:WX)(tg:Expr)(g:cX):Prop:=PG X tg (RY X.K X.mg W g)
def zM(X:Cx)(W:WX)(tg:List Expr)(g:gJ):Prop:=PGs X tg (R0 X.K X.mg W g)
theorem PG.imp{tg:Expr}{t t':TG}(h:PG X tg t)(k:∀v σ H Q,t' v σ H Q->t v σ H Q):PG X tg t':=⟨λpins s σ H v u Q I r q=>h.run pins s σ H v u Q I r (k v σ H Q q)⟩
theorem PGs.imp{tg:List Expr}{t t':TGs}(h:PGs X tg t)(k:∀v σ H Q,t' v σ H Q->t v σ H Q):PGs X tg t':=⟨λpins s σ H v u Q I r q=>h.run pins s σ H v u Q I r (k v σ H Q q)⟩
theorem j7{i:Nat}{x:Str}(eF:X.N.Nodup)(hi:X.N[i]?=some x:=by rfl)(hx:Loc X.env.scope x:=by first|exact Or.inl rfl|exact Or.inr rfl)(hf:X.fn x=true\/X.env.scope.names.lookup x=some .local:=by first|exact .inl rfl|exact .inr rfl):q1 X W (.Name x pos) (aV i) :=
 PG.imp (pg_name eF hi hx hf) λv σ H Q ⟨ae,S,sl,d,w,rs,aO,p⟩=>p _ ae H Ext.refl w (rs.set aO i)
theorem wq:zM X W [] e':=PGs.imp pgs_nil λv σ H Q ⟨ae,S,sl,ds,w,rs,aO,p⟩=>by
 cases ds with
 |nil =>
  rw[ak]at aO;exact⟨aO,p _ ae H Ext.refl w rs⟩
 |cons d r=>exact p.elim
theorem mR{t:Expr}{ts:List Expr}{g:cX}{gs:gJ}(h:q1 X W t g)(hr:zM X W ts gs)(hs:(assignEach (t::ts) X.env).map (·.2)=assign t X.env::(assignEach ts X.env).map (·.2):=by rfl):zM X W (t::ts) (cL g gs) :=
 PGs.imp (pgs_cons h hr hs) λv σ H Q ⟨ae,S,sl,ds,w,rs,aO,p⟩=>by
  cases ds with
  |nil=>exact p.elim
  |cons d r =>
   rw[ak]at aO;obtain⟨v1,Ed,e,h1,h2⟩:=aO;subst e;refine⟨v1,Ed,rfl,ae,S,sl,d,w,rs,h1,?_⟩;have p:bj X.K X.mg W ae H ⟨Q,λ_ _=>False,λ_ _=>False,λ_ _=>False⟩ ((g d sl S).then (gs r)):=p;cases q:g d sl S with
   |nx a7 S1 =>
    rw[q]at p;exact λh8 aA H1 x1 aF r1=>⟨aA,S1,a7,r,aF,r1,h2.ext x1,bj.from x1 p⟩
   |bk a7 S1=>rw[q]at p;exact p
   |ct a7 S1=>rw[q]at p;exact p
   |rt nX S1=>rw[q]at p;exact p
   |ex ao a7 S1=>rw[q]at p;exact p
   |bad=>rw[q]at p;exact p
theorem wt{es:List Expr}{k:Nat}{gs:gJ}{n:Nat}(hc:X.calm=true)(h:zM X W es gs)(hl:∀ds sl S,gs ds sl S≠.bad->ds.length=n)(hn:(assignEach es X.env).length=n:=by rfl)(h9:(assignEach es X.env).findIdx? (·.1)=none:=by rfl):q1 X W (.Tuple es k pos) (fy gs) :=
 PG.imp (pg_tup hc h hn h9) λv σ H Q ⟨ae,S,sl,d,w,rs,aO,p⟩=>by
  cases d with
  |tup ds =>
   rw[Rep]at aO;obtain⟨a,vs,e,t,r⟩:=aO;have p:bj X.K X.mg W ae H ⟨Q,λ_ _=>False,λ_ _=>False,λ_ _=>False⟩ (gs ds sl S):=p;exact⟨a,vs,e,t.dc,by rw[<-r.len];exact hl ds sl S (λq=>by rw[q]at p;exact p),ae,S,sl,ds,w,rs,r,p⟩
  |bF ds =>
   rw[Rep]at aO;obtain⟨a,vs,e,t,r⟩:=aO;have p:bj X.K X.mg W ae H ⟨Q,λ_ _=>False,λ_ _=>False,λ_ _=>False⟩ (gs ds sl S):=p;exact⟨a,vs,e,t.dc,by rw[<-r.len];exact hl ds sl S (λq=>by rw[q]at p;exact p),ae,S,sl,ds,w,rs,r,p⟩
  |_=>exact p.elim
theorem nY(ds:List D)(sl:aJ)(S:Store)(h:e' ds sl S≠.bad):ds.length=0:=by
 cases ds with
 |nil=>rfl
 |cons _ _=>exact absurd rfl h
theorem R1{g:cX}{gs:gJ}{n:Nat}(hr:∀ds sl S,gs ds sl S≠.bad->ds.length=n)(hg:∀d sl S,(∃b7 ah,g d sl S=.nx b7 ah)\/g d sl S=.bad)(ds:List D)(sl:aJ)(S:Store)(h:cL g gs ds sl S≠.bad):ds.length=n+1:=by
 cases ds with
 |nil=>exact absurd rfl h
 |cons d r =>
  rcases hg d sl S with⟨b7,ah,e⟩|e
  .have:cL g gs (d::r) sl S=gs r b7 ah:=by show(g d sl S).then (gs r)=_;rw[e];rfl
   grind
  .exact absurd (show cL g gs (d::r) sl S=.bad by show(g d sl S).then (gs r)=_;rw[e];rfl) h
theorem fg(i:Nat)(d:D)(sl:aJ)(S:Store):(∃b7 ah,aV i d sl S=.nx b7 ah)\/aV i d sl S=.bad:=.inl ⟨_,_,rfl⟩
theorem pA{tg:Expr}{g:cX}(he:E X W e fe)(hg:q1 X W tg g)(hb:∀d sl S,(∃b7 ah,g d sl S=.nx b7 ah)\/g d sl S=.bad)(hs:swapsWithSole [tg] e pos.line X.env=pure false:=by rfl)(hw:swappedStores [tg] e X.env=pure none:=by rfl)
  (h1:(assignEach [tg] X.env).map (·.2)=[assign tg X.env]:=by rfl):ES X W (.Assign [tg] e pos) (b_ fe g) :=
 PS.imp (ps_asg he hg hs hw h1) λD σ H ⟨ae,S,sl,w,rs,p⟩=>⟨ae,S,sl,w,rs,aM.mono (bj.tG rs p) λv H1 ⟨aA,S1,d,aF,r1,aO,p1⟩=>⟨aA,S1,sl,d,aF,r1,aO,by
  rcases hb d sl S1 with⟨b7,ah,q⟩|q
  .rw[q]at p1 ⊢;exact p1
  .rw[q]at p1;exact p1.elim⟩⟩
theorem fU{i:Nat}{x:Str}{pos':Pos}(eF:X.N.Nodup)(he:E X W e fe)(hi:X.N[i]?=some x:=by rfl)(hx:Loc X.env.scope x:=by first|exact Or.inl rfl|exact Or.inr rfl)(hs:swapsWith e (some (.Name x pos')) pos.line X.env=pure false:=by rfl)
  (hf:X.fn x=true\/X.env.scope.names.lookup x=some .local:=by first|exact .inl rfl|exact .inr rfl):ES X W (.Assign [.Name x pos'] e pos) (b_ fe (aV i)) :=
 PS.imp (ps_set eF hi hx he hs hf) λD σ H ⟨ae,S,sl,w,rs,p⟩=>⟨ae,S,sl,w,rs,aM.mono (bj.tG rs p) λv H1 ⟨aA,S1,d,aF,r1,aO,p1⟩=>p1 _ aA H1 Ext.refl aF (r1.set aO i)⟩
theorem tI{i j:Nat}{x y:Str}{a b:Expr}{fa:c1}{Ee py pt:Pos}{kt ck Ef}(hc:X.calm=true)(eF:X.N.Nodup)(ha:gj X W [a,b] fa)(hi:X.N[i]?=some x:=by rfl)(bH:X.N[j]?=some y:=by rfl)(R3:i≠j:=by decide)
  (hx:X.env.scope.names.lookup x=some .local:=by rfl) (aW:X.env.scope.names.lookup y=some .local:=by rfl)
  (hw:swappedStores [.Tuple [.Name x Ee,.Name y py] kt pt] (.Tuple [a,b] ck Ef) X.env=pure (some [x,y]):=by rfl)
  (hs:swapsWithSole [.Tuple [.Name x Ee,.Name y py] kt pt] (.Tuple [a,b] ck Ef) pos.line X.env=pure false:=by rfl) :
  ES X W (.Assign [.Tuple [.Name x Ee,.Name y py] kt pt] (.Tuple [a,b] ck Ef) pos) (lK i j fa) :=
 PS.imp (ps_par hc eF hi bH R3 hx aW ha hw hs) λD σ H ⟨ae,S,sl,w,rs,p⟩=>⟨ae,S,sl,w,rs,dY.mono (bj.RX rs p) λvs H1 ⟨aA,S1,ds,aF,r1,aO,p1⟩=>by
  match ds,aO,p1 with
  |[d,e],aO,p1 =>
   rw[ak]at aO;obtain⟨v,r,ao,h1,h2⟩:=aO;rw[ak]at h2;obtain⟨u,aE,e2,aH,bQ⟩:=h2;rw[ak]at bQ;subst bQ e2 ao;exact⟨v,u,rfl,p1 _ aA H1 Ext.refl aF ((r1.set h1 i).set aH j)⟩
  |[],_,p1=>exact p1.elim
  |[_],_,p1=>exact p1.elim
  |_::_::_::_,_,p1=>exact p1.elim⟩
theorem Eg{c:Expr}{ga:b9}{body:List Stmt}(hp:PassesOwn (model X.prog X.w) X.A X.env X.xe)(hc:h4 X W c ga)(hb:fx X W body f):ES X W (.While c body [] pos) (tF ga f):=by
 refine PS.imp (ps_while hp hc hb) λD σ H ⟨ae,S,sl,w,rs,p⟩=>?_;refine⟨λm σ H=>∃ae S sl,aD X.K X.mg ae H S/\bM X.K X.mg ae H σ sl/\bj X.K X.mg W ae H D (qZ ga f m sl S),⟨Ec,ae,S,sl,w,rs,p⟩,?_⟩;rintro m σ H ⟨ae,S,sl,w,rs,p⟩;cases m with
 |zero=>exact p.elim
 |succ m =>
  refine⟨ae,S,sl,w,rs,ep.mono (bj.Kj rs p) λk H1 ⟨aA,S1,aF,r1,p1⟩=>?_⟩;cases k with
  |false=>exact zL p1 aF r1
  |true =>
   rw[if_pos rfl]at p1 ⊢;refine⟨λbg H'=>∃ae S sl,aD X.K X.mg ae H' S/\bM X.K X.mg ae H' bg sl/\bj X.K X.mg W ae H' D (qZ ga f m sl S),λbg H' n=>⟨m,mL m,n⟩,aA,S1,sl,aF,r1,?_⟩;cases q:f sl S1 with
   |nx aT S2=>rw[q]at p1;exact λσ aL aG y w r=>⟨aL,S2,aT,w,r,bj.from y p1⟩
   |ct aT S2=>rw[q]at p1;exact λσ aL aG y w r=>⟨aL,S2,aT,w,r,bj.from y p1⟩
   |bk aT S2=>rw[q]at p1;exact p1
   |rt d S2=>rw[q]at p1;exact p1
   |ex e aT S2=>rw[q]at p1;exact p1
   |bad=>rw[q]at p1;exact p1
end
structure tJ(K:PySem.W.Frag)(mg:Str->Option Value)(J:It)(ds:List D)(G:Store->Prop)(ρ0:List Addr)(H0:Hp):Prop where
 go:∀(i:Nat) ae H S,i<ds.length->Ext ρ0 H0 ae H->aD K mg ae H S->G S->J.go i H
 stop:∀ae H S,Ext ρ0 H0 ae H->aD K mg ae H S->G S->J.stop ds.length H
 yld:∀(i:Nat) ae H S x H',i<ds.length->Ext ρ0 H0 ae H->aD K mg ae H S->G S->J.yld i H x H'->∃d,ds[i]?=some d/\Ext ae H ae H'/\aD K mg ae H' S/\Rep K mg ae H' d x
def eP(K:PySem.W.Frag)(mg:Str->Option Value)(W:Value->Option Addr->Hp->Prop)(ae:List Addr)(H:Hp)(R:It->Hp->Prop):Out (List D×(Store->Prop))->Prop
 | .ok p ah=>∀ag H' J,Ext ae H ag H'->aD K mg ag H' ah->tJ K mg J p.1 p.2 ag H'->R J H'
 | .ex e ah=>∀C dd ag H',Ext ae H ag H'->aD K mg ag H' ah->h3 K mg ag H' e C dd->W C dd H'
 | .bad=>False
def wu(K:PySem.W.Frag)(mg:Str->Option Value)(W:WX)(it:fS):TI:=λσ H R=>∃ae S sl,aD K mg ae H S/\bM K mg ae H σ sl/\eP K mg (λC d H'=>W C d σ H') ae H R (it sl S)
def q2(X:Cx)(W:WX)(tg it:Expr)(f:fS):Prop:=PI X tg it (wu X.K X.mg W f)
theorem PI.imp{X:Cx}{tg e:Expr}{t t':TI}(h:PI X tg e t)(k:∀σ H R,t' σ H R->t σ H R):PI X tg e t':=⟨λpins s σ H R I q=>h.run pins s σ H R I (k σ H R q)⟩
section
variable{X:Cx}{W:WX}{f:SX}{pos:Pos}
theorem Kk{tg iter:Expr}{body:List Stmt}{it:fS}{g:cX}(hp:PassesOwn (model X.prog X.w) X.A X.env X.xe)(hc:X.calm=true)(hi:q2 X W tg iter it)(hg:q1 X W tg g)(hb:fx X W body f)
  (hs:∀x,foldedSetIterable iter X.env x=pure x:=by intro _;rfl):ES X W (.For tg iter body [] pos) (q0 it g f):=by
 refine PS.imp (ps_for hp hc hi hg hb hs) λD σ H ⟨ae,S,sl,w,rs,p⟩=>?_;have p:bj X.K X.mg W ae H D ((it sl S).toS sl λp ah=>jH p.2 g f p.1 sl ah):=p;refine⟨ae,S,sl,w,rs,?_⟩;cases q:it sl S with
 |bad=>rw[q]at p;exact p
 |ex e S1=>rw[q]at p;exact λC dd aL aG y w r=>p C dd σ aL aG y w (rs.ext y) r
 |ok pr S1 =>
  rw[q]at p;intro aA H1 J x1 aF q3;obtain⟨ds,G⟩:=pr;have p1:bj X.K X.mg W aA H1 D (jH G g f ds sl S1):=bj.from x1 p;refine⟨λi m bg H'=>i+m=ds.length/\∃ag ah b7,Ext aA H1 ag H'/\aD X.K X.mg ag H' ah/\bM X.K X.mg ag H' bg b7/\bj X.K X.mg W ag H' D (jH G g f (ds.drop i) b7 ah),
   ⟨ds.length,by simp,aA,S1,sl,Ext.refl,aF,rs.ext x1,by grind⟩,?_⟩
  rintro i m h_ aG ⟨hm,aL,S2,aT,x2,cz,aE,p2⟩;cases m with
  |zero =>
   have hi:i=ds.length:=by omega
   subst hi;rw[y3]at p2;have p2:bj X.K X.mg W aL aG D (open Classical in if G S2 then .nx aT S2 else .bad):=p2;by_cases a8:G S2
   .rw[if_pos a8]at p2
    exact .inl ⟨q3.stop aL aG S2 x2 cz a8,zL p2 cz aE⟩
   .rw[if_neg a8]at p2;exact p2.elim
  |succ m =>
   have cC:i<ds.length:=by omega
   have hd:ds.drop i=ds[i]::ds.drop (i+1):=(y4 cC).symm;rw[hd]at p2;have p2:bj X.K X.mg W aL aG D (open Classical in if G S2 then(match g ds[i] aT S2 with
    | .nx a7 S1=>(match f a7 S1 with
     | .nx aT S2=>jH G g f (ds.drop (i+1)) aT S2
     | .ct aT S2=>jH G g f (ds.drop (i+1)) aT S2
     | .bk aT S2=>.nx aT S2
     |r=>r)
    |_=>.bad)else .bad):=p2
   by_cases a8:G S2
   .rw[if_pos a8]at p2
    refine .inr ⟨q3.go i aL aG S2 cC x2 cz a8,λbg H'=>∃ag ah b7,Ext aA H1 ag H'/\aD X.K X.mg ag H' ah/\bM X.K X.mg ag H' bg b7/\bj X.K X.mg W ag H' D (jH G g f (ds.drop (i+1)) b7 ah),λbg H' n=>⟨m,mL m,by omega,n⟩,?_⟩;intro x cF y;obtain⟨d,e,cq,eO,cA⟩:=q3.yld i aL aG S2 x cF cC x2 cz a8 y;have ed:d=ds[i]:=by rw[hy cC]at e;exact(eY e).symm
    subst ed;refine⟨aL,S2,aT,ds[i],eO,aE.ext cq,cA,?_⟩;cases bq:g ds[i] aT S2 with
    |nx jI bV =>
     rw[bq]at p2;intro aes iG dJ cR jF dS;refine⟨iG,bV,jI,jF,dS,?_⟩;have b3:=bj.from (cq.trans cR) p2;have xx:=x2.trans (cq.trans cR);cases bK:f jI bV with
     |nx gK cY=>simp only[bK]at b3;exact λq4 j8 mS tK i' iH=>⟨j8,cY,gK,xx.trans tK,i',iH,bj.from tK b3⟩
     |ct gK cY=>simp only[bK]at b3;exact λq4 j8 mS tK i' iH=>⟨j8,cY,gK,xx.trans tK,i',iH,bj.from tK b3⟩
     |bk gK cY=>simp only[bK]at b3;exact b3
     |rt aet cY=>simp only[bK]at b3;exact b3
     |ex e5 gK cY=>simp only[bK]at b3;exact b3
     |bad=>simp only[bK]at b3;exact b3
    |bk jI bV=>rw[bq]at p2;exact p2.elim
    |ct jI bV=>rw[bq]at p2;exact p2.elim
    |rt Eh bV=>rw[bq]at p2;exact p2.elim
    |ex fz jI bV=>rw[bq]at p2;exact p2.elim
    |bad=>rw[bq]at p2;exact p2.elim
   .rw[if_neg a8]at p2;exact p2.elim
end
open PySem PySem.Spec L2 PyProof.Rows
inductive Chain (B:Heap) (H:Hp):Value->Prop
 |nil:Chain B H .none
 |cons {b:Addr} {o:Obj} {vs:Array Value} {c:Value} (h:B.get? b=some o) (n:H b=none) (hd:o.data=.fields vs) (hc:vs[2]?=some c) (r:Chain B H c):Chain B H (.ref b)
def ja(B:Heap)(H:Hp)(cls:Value)(d:Option Addr):Obj->Prop:=λo=>o.cls=cls/\o.dict=d/\∀vs,o.data=.fields vs->∃c,vs[2]?=some c/\Chain B H c
theorem R4{B:Heap}{H:Hp}:PXN.Steady1 (λo=>∀vs,o.data=.fields vs->∃c,vs[2]?=some c/\Chain B H c):=λo v h=>by
 obtain⟨c,d,zN,sl⟩:=o;cases zN with
 |fields R5 =>
  intro vs e;have e2:R5.setIfInBounds 1 v=vs:=Data.fields.inj e;grind
 |_ =>
  intro vs e
  first
  |exact Data.noConfusion e
  |cases e
section
variable{B:Heap}{H:Hp}{cls:Value}{d:Option Addr}{o:Obj}
theorem ja.steady:PXN.Steady1 (ja B H cls d):=λo v h=>⟨PXN.steady_cls o v h.1,PXN.steady_dict o v h.2.1,R4 o v h.2.2⟩
theorem ja.R6(h:L2N.Zn cls d o):ja B H cls d o:=⟨h.1,h.2.1,λvs e=>⟨.none,h.2.2 vs e,.nil⟩⟩
end
def XE(X:Cx)(W:WX)(u:Value)(s':Shared):Prop :=
 ∃(a:Addr) (B:Heap) (dM:Shared) (pins:List (Addr×Obj)) (σ:L2.St) (H:Hp) (cls:Value) (d:Option Addr),
  u=.ref a/\Inv X pins σ H dM/\(∀b o,dM.heap.get? b=some o->b∉frs X.stack->B.get? b=some o)/\dM.heap.UpToSlots s'.heap /\
   Sky B X.stack a (ja B H cls d) X.env.locals s'.heap/\H a=none/\s'.os=dM.os/\AllBare s'.gens/\W cls d σ H
def Takes(X:Cx)(W:WX):Prop:=∀u s',XE X W u s'->X.xe u s'
def CX(P:Program)(w:World)(outer:List Env)(H:Hp)(s:Shared)(E:XK)(u:Value)(s':Shared):Prop :=
 ∃(a:Addr) (B:Heap) (H':Hp) (cls:Value) (d:Option Addr),u=.ref a/\HandSPX.FlyingZ B outer a (ja B H' cls d) s'.heap/\HOk P w H' B/\UB (frs outer) H H' s.heap B s'.heap/\H' a=none/\s'.os=s.os/\AllBare s'.gens/\E cls d H'
section
variable{X:Cx}{pins:List (Addr×Obj)}{σ:L2.St}{H:Hp}{dM s s':Shared}{B:Heap}{W:WX}{E:XK}
theorem XE.of_call(I:Inv X pins σ H s)(jb:∀cls d H',E cls d H'->W cls d σ H'){u:Value}(c:Z.CX X.prog X.w X.stack H s E u s'):Z.XE X W u s':=by
 obtain⟨a,B,H',cls,d,rfl,fl,hok,ub,na,os,ia,wx⟩:=c;obtain⟨G,g1,g2⟩:=restrict s'.heap λb=>(B.get? b).isSome||decide (b∈frs X.stack)
 have st:B.StaysIn s'.heap:=fl.1;have Kl:∀b o,B.get? b=some o->G.get? b=some o:=λb o e=>by
  rw[g1 b (by simp[e])];exact st b o e
 have aeu:∀b,b∈frs X.stack->G.get? b=s'.heap.get? b:=λb hb=>g1 b (by simp[hb]);have Km:∀b o,G.get? b=some o->s'.heap.get? b=some o/\((B.get? b).isSome=true\/b∈frs X.stack):=λb o e=>by
  grind
 refine⟨a,B,{ s with heap:=G,gens:=s'.gens,drawn:=s'.drawn,toks:=s'.toks },pins,σ,H',cls,d,rfl,?_,λb o e hb=>?_,Heap.UpToSlots.of_keeps λb o e=>(Km b o e).1,.inr (.inl fl),na,os,ia,jb _ _ _ wx⟩
 .refine I.call (ch:=[]) ⟨λb o e n hb _=>Kl b o (ub.keep b o e n hb),λb o e n hb _=>?_,λb o e n _=>ub.free b o e n,λb o e _=>?_,ub.tups,ub.frzs,ub.tbls⟩ (hok.kept Kl) ia (λ_ z=>nomatch z)
  .obtain⟨sl,q⟩:=ub.slot b o e hb
   grind
  .by_cases hb:b∈frs X.stack
   .obtain⟨sl,q⟩:=ub.slot b o e hb
    grind
   .obtain⟨eE,q⟩:=ub.there b o e hb
    grind
 .obtain⟨cE,h⟩:=Km b o e
  rcases h with h|h
  .obtain⟨eE,q⟩:=Option.isSome_iff_exists.mp h
   grind
  grind
theorem XE.new{a:Addr}{jC:Obj}{vs:Array Value}{cls:Value}{d:Option Addr}(I:Inv X pins σ H dM)(k:∀b o,dM.heap.get? b=some o->s'.heap.get? b=some o)(hE:dM.heap.get? a=none)(he:s'.heap.get? a=some jC)
  (hz:ja (PySem.W.hideAll dM.heap (frs X.stack)) H cls d jC) (hd:jC.data=.fields vs) (h1:vs[1]?=some .none) (na:H a=none) (os:s'.os=dM.os) (ia:AllBare s'.gens) (w:W cls d σ H):Z.XE X W (.ref a) s':=by
 refine⟨a,PySem.W.hideAll dM.heap (frs X.stack),dM,pins,σ,H,cls,d,rfl,I,λb o e hb=>PySem.W.hideAll_get _ e hb,Heap.UpToSlots.of_keeps k,
  .inl ⟨λb o e=>k b o (PySem.W.of_hideAll _ e),?_,?_,jC,vs,he,hz,hd,h1⟩,na,os,ia,w⟩
 .cases q:(PySem.W.hideAll dM.heap (frs X.stack)).get? a with
  |none=>rfl
  |some o =>
   have z:=PySem.W.of_hideAll _ q;grind
 .exact Heap.FunFrames.of_keeps (λb o e _=>⟨o,k b o e,rfl⟩) (funFrames_none I.stack λb hb=>PySem.W.hideAll_none _ hb)
theorem XE.leave(hs:X.stack=X.env::X.outer)(hf:X.env.frame=some X.env.locals)(hex:X.ex=[]){E₁:Value->Shared->Prop}(jb:∀cls d σ H,W cls d σ H->E cls d H){u:Value}(x:Z.XE X W u s') :
  wpAny (model X.prog X.w) X.A (leaving X.env u) (λ_ hG=>Z.CX X.prog X.w X.outer X.H_0 X.s_0 E u hG) E₁ s':=by
 obtain⟨a,B,dM,pins,σ,H,cls,d,rfl,I,nb,up,q5,na,os,ia,w⟩:=x;have fV:X.A.frames=some (X.env::X.outer):=by rw[I.ok.frames,hs]
 have R7:∀b o,X.s_0.heap.get? b=some o->b∉X.fs->b∉frs X.stack:=λb o e hb hm=>by
  rcases iB.mp (I.stkSub b hm)with z|z
  .have h1:=Heap.lt_size e
   have h2:=I.ok.above;grind
  .exact hb z
 have zO:∀b,b∉X.ex:=λb hb=>by grind
 have R8:=I.inGround nb;have fin:∀h',HandSPX.FlyingZ B X.outer a (ja B H cls d) h'->s'.heap.UpToSlots h'->Z.CX X.prog X.w X.outer X.H_0 X.s_0 E (.ref a) { s' with heap:=h' }:=λh' fl Ei=>by
  refine⟨a,B,H,cls,d,rfl,fl,R8,⟨λb o e n hb=>nb b o (I.base.keep b o e n hb (zO b)) (R7 b o e hb),λb o e hb=>?_,λb o e n=>I.base.free b o e n (zO b),λb o e hb=>?_,I.base.tups,I.base.frzs,I.base.tbls⟩,
   na,os.trans I.os,ia,jb _ _ _ _ w⟩
  .obtain⟨_,aev,e₀,Kn⟩:=I.ok.funs.mem hb
   rw[e]at e₀;cases e₀;obtain⟨sl,ao⟩:=I.base.slot b o e (I.ok.frf b hb) hb (zO b);obtain⟨aT,e2⟩:=up b _ ao Kn;obtain⟨tL,bu⟩:=Ei b _ e2 Kn;grind
  .obtain⟨eE,ao⟩:=I.base.there b o e (zO b)
   grind
 rw[hs]at q5;rcases q5 with⟨dr,hn,hl,jC,vs,he,hz,hd,h1⟩|fl|hd
 .exact PXN.leaving_firstZ ja.steady fV hl hf he dr hn hd h1 hz fin
 .exact PXN.leaves_onZ ja.steady fV hf fl fin
 .exact HandSPX.leaves_heldZ hf hd fin
theorem takes_of(hs:X.stack=X.env::X.outer)(hf:X.env.frame=some X.env.locals)(hex:X.ex=[]){E₁:Value->Shared->Prop}
  (hx:X.xe=λe s'=>wpAny (model X.prog X.w) X.A (leaving X.env e) (λ_ hG=>Z.CX X.prog X.w X.outer X.H_0 X.s_0 E e hG) E₁ s'):Takes X (λcls d _ H=>E cls d H):=λu s' x=>by
 rw[hx];exact XE.leave (W:=λcls d _ H=>E cls d H) (E:=E) hs hf hex (λ_ _ _ _ h=>h) x
theorem wy(tk:Takes X W)(σ:L2.St):PassesAt (Z.CX X.prog X.w) X σ (WE W σ):=λ_ _ _ e s' I c=>tk e s' (XE.of_call I (λ_ _ _ h=>h) c)
end
theorem R9{X:Cx}{W:WX}{e:Expr}{t:L2.St->Hp->XK->Prop}{pos:Pos}(hc:X.calm=true)(tk:Takes X W)(he:L2N.PMk X e t):PS X (.Raise (some e) none pos) (λ_ σ H=>t σ H λcls d H'=>W cls d σ H'):=by
 refine⟨λpins s σ H D I h=>?_⟩;show wpAny _ _ (do standAt pos;raiseStmt X.env (some (do let v <-eval e X.env;standAt pos;pure v)) none) _ _ _;refine wpAny_bind (wpAny_standAt (raise_made (I.ok.hd hc) (wpAny_bind (wpAny_mono (he pins s σ H _ I h) (λu s1 aI=>wpAny_bind (wpAny_standAt (wpAny_pure ?_))) λ_ _ x=>x))));obtain⟨a,jC,vs,dM,H',cls,d,rfl,J,k,hE,ha,hz,hd,h1,na,os,ia,r,q⟩:=aI;obtain⟨r1,aE⟩:=r (model X.prog X.w) s1.heap (J.kIn.keeps k);exact⟨a,jC,vs,cls,rfl,ha,hz.1,hd,h1,r1,aE,tk _ _ (XE.new J k hE ha (ja.R6 hz) hd h1 na os ia q)⟩
theorem R_{X:Cx}{W:WX}{E:XK}(tk:Takes X W)(jb:∀cls d σ H,E cls d H->W cls d σ H):∀(pins:List (Addr×Obj)) (σ:L2.St) (H:Hp) (s:Shared) (e:Value) (s':Shared),Inv X pins σ H s->Z.CX X.prog X.w X.stack H s E e s'->X.xe e s' :=
 λ_ σ _ _ e s' I c=>tk e s' (XE.of_call I (λcls d H' h=>jb cls d σ H' h) c)
mutual
def cG(g:Nat->Option D):D->Option D
 | .tup xs=>(eQ g xs).map .tup
 | .bF xs=>(eQ g xs).map .bF
 | .lst xs=>(eQ g xs).map .lst
 | .dct ks vs=>match eQ g ks,eQ g vs with
  |some a,some b=>some (.dct a b)
  |_,_=>none
 | .dw w ks vs=>match eQ g ks,eQ g vs with
  |some a,some b=>some (.dw w a b)
  |_,_=>none
 | .ins c ns vs=>(eQ g vs).map (.ins c ns)
 | .ptr n=>g n
 | .non=>some .non
 | .bl b=>some (.bl b)
 | .int i=>some (.int i)
 | .str s=>some (.str s)
 | .ty n=>some (.ty n)
 | .cls c=>some (.cls c)
 | .bI xs=>some (.bI xs)
 | .exc c ns vs=>(eQ g vs).map (.exc c ns)
 | .lam T cQ=>some (.lam T cQ)
 | .gZ T mP=>(eQ g mP).map (.gZ T)
def eQ(g:Nat->Option D):List D->Option (List D)
 |[]=>some []
 |d::ds=>match cG g d,eQ g ds with
  |some a,some b=>some (a::b)
  |_,_=>none
end
def dy(S:Store)(k:Nat):Nat->Nat->Option D
 |0,n=>if n<k then some (.ptr n)else none
 |f+1,n=>if n<k then some (.ptr n)else match S[n]? with
  |some (.lst ds)=>(eQ (dy S k f) ds).map .lst
  |some (.dct false ks vs)=>match eQ (dy S k f) ks,eQ (dy S k f) vs with
   |some a,some b=>some (.dct a b)
   |_,_=>none
  |some (.dw w ks vs)=>match eQ (dy S k f) ks,eQ (dy S k f) vs with
   |some a,some b=>some (.dw w a b)
   |_,_=>none
  |some (.ins c ns vs)=>(eQ (dy S k f) vs).map (.ins c ns)
  |_=>none
mutual
def a6(k:Nat):D->Bool
 | .tup xs=>a9 k xs
 | .bF xs=>a9 k xs
 | .lst xs=>a9 k xs
 | .dct ks vs=>a9 k ks&&a9 k vs
 | .dw _ ks vs=>a9 k ks&&a9 k vs
 | .ins _ _ vs=>a9 k vs
 | .ptr n=>decide (n<k)
 | .non=>true
 | .bl _=>true
 | .int _=>true
 | .str _=>true
 | .ty _=>true
 | .cls _=>true
 | .bI _=>true
 | .exc _ _ vs=>a9 k vs
 | .lam _ _=>true
 | .gZ _ vs=>a9 k vs
def a9(k:Nat):List D->Bool
 |[]=>true
 |d::ds=>a6 k d&&a9 k ds
end
def hH(k:Nat):dx->Bool
 | .lst xs=>a9 k xs
 | .dct _ ks vs=>a9 k ks&&a9 k vs
 | .dw _ ks vs=>a9 k ks&&a9 k vs
 | .ins _ _ vs=>a9 k vs
 | .tab _ _=>true
 | .dead=>true
def kP(S ah:Store):Prop:=∀(i:Nat) (m:dx),i<S.length->ah[i]?=some m->S[i]?=some m\/hH S.length m=true
def fin(S:Store):Out D->Out D
 | .ok d ah=>open Classical in if kP S ah then(match cG (dy ah S.length 6) d with
  |some d'=>.ok d' (ah.take S.length)
  |none=>.bad)else .bad
 | .ex d ah=>open Classical in if kP S ah then(match cG (dy ah S.length 6) d with
  |some d'=>.ex d' (ah.take S.length)
  |none=>.bad)else .bad
 | .bad=>.bad
section
variable{K:PySem.W.Frag}{mg:Str->Option Value}{ae ag:List Addr}{H:Hp}{S ah:Store}
theorem pl.sub(hs:∀a,a∉ag->a∉ae){f:Addr}{T:tu}{cQ:List (Str×Addr)}(h:pl ag H f T cQ):pl ae H f T cQ:=by
 obtain⟨n,D6,pm,doc,fP,wg,bx,h1,wh,h2,aH⟩:=h;refine⟨hs _ n,D6,pm,doc,fP,wg,bx,h1,hs _ wh,h2,?_⟩;rcases aH with h|⟨n,t,e,nt,ht⟩
 .exact .inl h
 .exact .inr ⟨n,t,e,hs _ nt,ht⟩
theorem jD.sub(hs:∀a,a∉ag->a∉ae){cQ:List (Str×Addr)}:∀{ns:List Str} {vs:List V},jD ag H cQ ns vs->jD ae H cQ ns vs
 |[],_,h=>h
 |n::ns,_,⟨v,r,c,o,u,e,h1,n1,h2,aH,bQ,hd,cn⟩=>⟨v,r,c,o,u,e,h1,hs _ n1,h2,aH,bQ,hd,jD.sub hs cn⟩
mutual
theorem R'{g:Nat->Option D}:∀(d:D) {n:NestedKey},lG d=some n->cG g d=some d
 | .non,_,_=>rfl
 | .bl _,_,_=>rfl
 | .int _,_,_=>rfl
 | .str _,_,_=>rfl
 | .tup ds,n,h=>by
  rw[lG]at h;obtain⟨ns,h1,_⟩:=gb.mp h;rw[cG,zP ds h1];rfl
 | .bF ds,n,h=>by
  rw[lG]at h;obtain⟨ns,h1,_⟩:=gb.mp h;rw[cG,zP ds h1];rfl
 | .ty _,_,h=>by rfl
 | .cls _,_,h=>by rfl
 | .lst _,_,h=>by rw[lG]at h;cases h
 | .dct _ _,_,h=>by rw[lG]at h;cases h
 | .dw _ _ _,_,h=>by rw[lG]at h;cases h
 | .ins _ _ _,_,h=>by rw[lG]at h;cases h
 | .ptr _,_,h=>by rw[lG]at h;cases h
 | .bI _,_,h=>by rfl
 | .exc _ _ _,_,h=>by rw[lG]at h;cases h
 | .lam _ _,_,h=>by rfl
 | .gZ _ _,_,h=>by rw[lG]at h;cases h
theorem zP{g:Nat->Option D}:∀(ds:List D) {ns:List NestedKey},tv ds=some ns->eQ g ds=some ds
 |[],_,_=>rfl
 |d::ds,ns,h=>by
  rw[tv]at h;split at h
  .rename_i a b ea eb
   rw[eQ,R' d ea,zP ds eb]
  .cases h
end
theorem zA.frz{w:World}{ks:List D}{es:List DictEntry}{bA we:List V}(h:zA w ks es bA we){g:Nat->Option D}:eQ g ks=some ks:=by
 obtain⟨ns,e,_⟩:=h;exact zP ks e
mutual
theorem Ko{g:Nat->Option D}(hg:∀(n:Nat) d' a,g n=some d'->ag[n]?=some a->Rep K mg ae H d' (.ref a))(hs:∀a,a∉ag->a∉ae):∀(d d':D) (v:V),cG g d=some d'->Rep K mg ag H d v->Rep K mg ae H d' v
 | .non,d',v,e,h=>by cases e;rw[Rep]at h ⊢;exact h
 | .bl b,d',v,e,h=>by cases e;rw[Rep]at h ⊢;exact h
 | .int b,d',v,e,h=>by cases e;rw[Rep]at h ⊢;exact h
 | .str b,d',v,e,h=>by cases e;rw[Rep]at h ⊢;exact h
 | .ty b,d',v,e,h=>by cases e;rw[Rep]at h ⊢;exact h
 | .cls b,d',v,e,h=>by cases e;rw[Rep]at h ⊢;exact h
 | .tup xs,d',v,e,h=>by
  rw[cG]at e;obtain⟨ys,ao,e2⟩:=gb.mp e;subst e2;rw[Rep]at h ⊢;obtain⟨a,vs,bu,t,r⟩:=h;refine⟨a,vs,bu,?_,g4 hg hs xs ys vs ao r⟩;rcases t with⟨n,t⟩|t
  .exact .inl ⟨hs a n,t⟩
  .exact .inr t
 | .bF xs,d',v,e,h=>by
  rw[cG]at e;obtain⟨ys,ao,e2⟩:=gb.mp e;subst e2;rw[Rep]at h ⊢;obtain⟨a,vs,bu,t,r⟩:=h;exact⟨a,vs,bu,⟨hs a t.1,t.2⟩,g4 hg hs xs ys vs ao r⟩
 | .lst xs,d',v,e,h=>by
  rw[cG]at e;obtain⟨ys,ao,e2⟩:=gb.mp e;subst e2;rw[Rep]at h ⊢;obtain⟨a,vs,bu,t,r⟩:=h;exact⟨a,vs,bu,⟨hs a t.1,t.2⟩,g4 hg hs xs ys vs ao r⟩
 | .bI xs,d',v,e,h=>by
  cases e;rw[Rep]at h ⊢;obtain⟨a,bu,t⟩:=h;refine⟨a,bu,?_⟩;rcases t with⟨n,t⟩|t
  .exact .inl ⟨hs a n,t⟩
  .exact .inr t
 | .dct ks ds,d',v,e,h=>by
  rw[cG]at e;split at e
  .rename_i a b ea eb
   cases e;rw[Rep]at h ⊢;obtain⟨p,bA,vs,bu,⟨n,t⟩,r1,aE⟩:=h;exact⟨p,bA,vs,bu,⟨hs p n,t⟩,g4 hg hs ks a bA ea r1,g4 hg hs ds b vs eb aE⟩
  .cases e
 | .dw w ks ds,d',v,e,h=>by
  rw[cG]at e;split at e
  .rename_i a b ea eb
   cases e;rw[Rep]at h ⊢;obtain⟨p,bA,vs,bu,⟨n,Ej,es,t,q6⟩,r1,aE⟩:=h;have ek:a=ks:=by
    have:=q6.frz (g:=g);rw[this]at ea;exact(eY ea).symm
   subst ek;exact⟨p,bA,vs,bu,⟨hs p n,Ej,es,t,q6⟩,g4 hg hs a a bA ea r1,g4 hg hs ds b vs eb aE⟩
  .cases e
 | .ins c ns ds,d',v,e,h=>by
  rw[cG]at e;obtain⟨ys,ao,e2⟩:=gb.mp e;subst e2;rw[Rep]at h ⊢;obtain⟨a,C,bh,fs,bu,n,hm,ha,hn,r⟩:=h;exact⟨a,C,bh,fs,bu,hs a n,hm,ha,hn,g4 hg hs ds ys _ ao r⟩
 | .ptr n,d',v,e,h=>by
  rw[cG]at e;rw[Rep]at h;grind
 | .exc c ns ds,d',v,e,h=>by
  rw[cG]at e;obtain⟨ys,ao,e2⟩:=gb.mp e;subst e2;rw[Rep]at h ⊢;obtain⟨a,C,bh,fs,bu,n,nd,hm,ha,hd,hn,r⟩:=h;exact⟨a,C,bh,fs,bu,hs a n,hs bh nd,hm,ha,hd,hn,g4 hg hs ds ys _ ao r⟩
 | .lam T cQ,d',v,e,h=>by
  cases e;rw[Rep]at h ⊢;obtain⟨f,e,h⟩:=h;exact⟨f,e,h.sub hs⟩
 | .gZ T mP,d',v,e,h=>by
  rw[cG]at e;obtain⟨ys,ao,e2⟩:=gb.mp e;subst e2;rw[Rep]at h ⊢;obtain⟨f,cQ,vs,bu,h1,h2,r⟩:=h;exact⟨f,cQ,vs,bu,h1.sub hs,h2.sub hs,g4 hg hs mP ys _ ao r⟩
theorem g4{g:Nat->Option D}(hg:∀(n:Nat) d' a,g n=some d'->ag[n]?=some a->Rep K mg ae H d' (.ref a))(hs:∀a,a∉ag->a∉ae):∀(ds lL:List D) (vs:List V),eQ g ds=some lL->ak K mg ag H ds vs->ak K mg ae H lL vs
 |[],lL,vs,e,h=>by
  rw[eQ]at e;cases e;rw[ak]at h ⊢;exact h
 |d::ds,lL,vs,e,h=>by
  rw[eQ]at e;split at e
  .rename_i a b ea eb
   cases e;rw[ak]at h ⊢;obtain⟨v,r,bu,h1,h2⟩:=h;exact⟨v,r,bu,Ko hg hs d a v ea h1,g4 hg hs ds b r eb h2⟩
  .cases e
end
mutual
theorem Kq{k:Nat}{g:Nat->Option D}(hg:∀n,n<k->g n=some (.ptr n)):∀d:D,a6 k d=true->cG g d=some d
 | .non,_=>rfl
 | .bl _,_=>rfl
 | .int _,_=>rfl
 | .str _,_=>rfl
 | .ty _,_=>rfl
 | .cls _,_=>rfl
 | .bI _,_=>rfl
 | .tup xs,h=>by rw[a6]at h;rw[cG,j9 hg xs h];rfl
 | .lst xs,h=>by rw[a6]at h;rw[cG,j9 hg xs h];rfl
 | .bF xs,h=>by rw[a6]at h;rw[cG,j9 hg xs h];rfl
 | .dct ks vs,h=>by
  rw[a6,Bool.and_eq_true]at h;rw[cG,j9 hg ks h.1,j9 hg vs h.2]
 | .dw w ks vs,h=>by
  rw[a6,Bool.and_eq_true]at h;rw[cG,j9 hg ks h.1,j9 hg vs h.2]
 | .ins c ns vs,h=>by rw[a6]at h;rw[cG,j9 hg vs h];rfl
 | .ptr n,h=>by rw[a6]at h;rw[cG];grind
 | .exc c ns vs,h=>by rw[a6]at h;rw[cG,j9 hg vs h];rfl
 | .lam _ _,_=>rfl
 | .gZ T vs,h=>by rw[a6]at h;rw[cG,j9 hg vs h];rfl
theorem j9{k:Nat}{g:Nat->Option D}(hg:∀n,n<k->g n=some (.ptr n)):∀ds:List D,a9 k ds=true->eQ g ds=some ds
 |[],_=>rfl
 |d::ds,h=>by
  rw[a9,Bool.and_eq_true]at h;rw[eQ,Kq hg d h.1,j9 hg ds h.2]
end
theorem Ek{k f n:Nat}(h:n<k):dy S k f n=some (.ptr n):=by
 cases f with
 |zero=>rw[dy,if_pos h]
 |succ f=>rw[dy,if_pos h]
mutual
theorem Rep.gm:∀(d:D) (v:V),Rep K mg ae H d v->a6 ae.length d=true
 | .non,_,_=>rfl
 | .bl _,_,_=>rfl
 | .int _,_,_=>rfl
 | .str _,_,_=>rfl
 | .ty _,_,_=>rfl
 | .cls _,_,_=>rfl
 | .bI _,_,_=>rfl
 | .tup xs,v,h=>by
  rw[Rep]at h;obtain⟨a,vs,_,_,r⟩:=h;rw[a6];exact ak.gm xs vs r
 | .lst xs,v,h=>by
  rw[Rep]at h;obtain⟨a,vs,_,_,r⟩:=h;rw[a6];exact ak.gm xs vs r
 | .bF xs,v,h=>by
  rw[Rep]at h;obtain⟨a,vs,_,_,r⟩:=h;rw[a6];exact ak.gm xs vs r
 | .dct ks ds,v,h=>by
  rw[Rep]at h;obtain⟨a,bA,vs,_,_,r1,aE⟩:=h;rw[a6,ak.gm ks bA r1,ak.gm ds vs aE];rfl
 | .dw w ks ds,v,h=>by
  rw[Rep]at h;obtain⟨a,bA,vs,_,_,r1,aE⟩:=h;rw[a6,ak.gm ks bA r1,ak.gm ds vs aE];rfl
 | .ins c ns ds,v,h=>by
  rw[Rep]at h;obtain⟨a,C,bh,fs,_,_,_,_,_,r⟩:=h;rw[a6];exact ak.gm ds _ r
 | .ptr n,v,h=>by
  rw[Rep]at h;obtain⟨a,_,q⟩:=h;rw[a6];grind
 | .exc c ns ds,v,h=>by
  rw[Rep]at h;obtain⟨a,C,bh,fs,_,_,_,_,_,_,_,r⟩:=h;rw[a6];exact ak.gm ds _ r
 | .lam _ _,_,_=>rfl
 | .gZ T ds,v,h=>by
  rw[Rep]at h;obtain⟨f,cQ,vs,_,_,_,r⟩:=h;rw[a6];exact ak.gm ds vs r
theorem ak.gm:∀(ds:List D) (vs:List V),ak K mg ae H ds vs->a9 ae.length ds=true
 |[],_,_=>rfl
 |d::ds,vs,h=>by
  rw[ak]at h;obtain⟨v,r,_,h1,h2⟩:=h;rw[a9,Rep.gm d v h1,ak.gm ds r h2];rfl
end
theorem hB.gm{a:Addr}{m:dx}(h:hB K mg ae H a m):hH ae.length m=true:=by
 cases m with
 |lst ds =>
  obtain⟨vs,_,r⟩:=h;exact ak.gm ds vs r
 |dct lk ks ds =>
  obtain⟨kvs,_,r1,aE⟩:=h;show(a9 _ ks&&a9 _ ds)=true;rw[ak.gm ks _ r1,ak.gm ds _ aE];rfl
 |dw w ks ds =>
  obtain⟨_,es,bA,vs,_,_,r1,aE⟩:=h;show(a9 _ ks&&a9 _ ds)=true;rw[ak.gm ks _ r1,ak.gm ds _ aE];rfl
 |ins c ns ds =>
  obtain⟨C,bh,fs,_,_,_,r⟩:=h;exact ak.gm ds _ r
 |tab P q=>rfl
 |dead=>rfl
structure Back(K:PySem.W.Frag)(mg:Str->Option Value)(ae ag:List Addr)(H:Hp)(ah:Store):Prop where
 pre:∃t,ag=ae++t
 w:aD K mg ag H ah
theorem Back.sub(b:Back K mg ae ag H ah):∀a,a∉ag->a∉ae:=λa h q=>by
 obtain⟨t,e⟩:=b.pre;grind
theorem Back.out(b:Back K mg ae ag H ah){n:Nat}{a:Addr}(h:ag[n]?=some a)(hn:¬n<ae.length):a∉ae:=λq=>by
 obtain⟨t,e⟩:=b.pre;have nd:=b.w.nd;grind
theorem Back.Kr(b:Back K mg ae ag H ah){n:Nat}{a:Addr}(h:ag[n]?=some a)(hn:n<ae.length):ae[n]?=some a:=by
 obtain⟨t,e⟩:=b.pre;grind
theorem Back.frz(b:Back K mg ae ag H ah):∀(f n:Nat) (d':D) (a:Addr),dy ah ae.length f n=some d'->ag[n]?=some a->Rep K mg ae H d' (.ref a):=by
 intro f
 induction f with
 |zero =>
  intro n d' a e h;rw[dy]at e;split at e
  .rename_i hn
   cases e;rw[Rep];exact⟨a,rfl,b.Kr h hn⟩
  .cases e
 |succ f ih =>
  intro n d' a e h;rw[dy]at e;split at e
  .rename_i hn
   cases e;rw[Rep];exact⟨a,rfl,b.Kr h hn⟩
  .rename_i hn
   have zQ:=b.out h hn;split at e
   .rename_i ds em
    obtain⟨vs,h1,r⟩:=b.w.ob n a _ h em;obtain⟨ys,ao,e2⟩:=gb.mp e;subst e2;rw[Rep];exact⟨a,vs,rfl,⟨zQ,h1⟩,g4 (λn d' a=>ih n d' a) b.sub ds ys vs ao r⟩
   .rename_i ks ds em
    obtain⟨kvs,h1,r1,aE⟩:=b.w.ob n a _ h em;rw[if_neg jy]at h1;split at e
    .rename_i x y ex di
     cases e;rw[Rep];exact⟨a,_,_,rfl,⟨zQ,kvs,.inl h1,rfl,rfl⟩,g4 (λn d' a=>ih n d' a) b.sub ks x _ ex r1,g4 (λn d' a=>ih n d' a) b.sub ds y _ di aE⟩
    .cases e
   .rename_i w ks ds em
    obtain⟨Ej,es,bA,vs,h1,q6,r1,aE⟩:=b.w.ob n a _ h em;split at e
    .rename_i x y ex di
     cases e;rw[Rep];have ek:x=ks:=by
      have:=q6.frz (g:=dy ah ae.length f);rw[this]at ex;exact(eY ex).symm
     subst ek;exact⟨a,_,_,rfl,⟨zQ,Ej,es,h1,q6⟩,g4 (λn d' a=>ih n d' a) b.sub x x _ ex r1,g4 (λn d' a=>ih n d' a) b.sub ds y _ di aE⟩
    .cases e
   .rename_i c ns ds em
    obtain⟨C,bh,fs,hm,h1,lM,r⟩:=b.w.ob n a _ h em;obtain⟨ys,ao,e2⟩:=gb.mp e;subst e2;rw[Rep];exact⟨a,C,bh,fs,rfl,zQ,hm,h1,lM,g4 (λn d' a=>ih n d' a) b.sub ds ys _ ao r⟩
   .cases e
theorem Back.tM(b:Back K mg ae ag H ah){ds:List D}{vs:List V}(aI:a9 ae.length ds=true)(r:ak K mg ag H ds vs):ak K mg ae H ds vs :=
 g4 (g:=dy ah ae.length 0) (λn d' a=>b.frz 0 n d' a) b.sub ds ds vs (j9 (λn hn=>Ek hn) ds aI) r
theorem Back.Ks{zR:Hp}(b:Back K mg ae ag H ah)(dN:aD K mg ae zR S)(c:kP S ah):aD K mg ae H (ah.take S.length):=by
 obtain⟨t,e⟩:=id b.pre;have hl:ae.length<=ah.length:=by
  have:=b.w.len;rw[e,List.length_append]at this;omega
 refine⟨?_,dN.nd,λa ha=>b.w.tr a (by grind),λn a m ao e2=>?_⟩
 .rw[List.length_take,dN.len];have:=dN.len;omega
 .have hn:n<S.length:=by rw[<-dN.len];exact(List.getElem?_eq_some_iff.mp ao).1
  rw[List.getElem?_take_of_lt hn]at e2;have bu:ag[n]?=some a:=by rw[e,s7 (List.getElem?_eq_some_iff.mp ao).1];exact ao
  have aI:hH ae.length m=true:=by
   rcases c n m hn e2 with q|q
   .exact(dN.ob n a m ao q).gm
   .rw[dN.len];exact q
  have q:=b.w.ob n a m bu e2;cases m with
  |lst ds =>
   obtain⟨vs,h1,r⟩:=q;exact⟨vs,h1,b.tM aI r⟩
  |dct lk ks ds =>
   obtain⟨kvs,h1,r1,aE⟩:=q;have aI:(a9 ae.length ks&&a9 ae.length ds)=true:=aI;rw[Bool.and_eq_true]at aI;exact⟨kvs,h1,b.tM aI.1 r1,b.tM aI.2 aE⟩
  |dw w ks ds =>
   obtain⟨hs,es,bA,vs,h1,q6,r1,aE⟩:=q;have aI:(a9 ae.length ks&&a9 ae.length ds)=true:=aI;rw[Bool.and_eq_true]at aI;exact⟨hs,es,bA,vs,h1,q6,b.tM aI.1 r1,b.tM aI.2 aE⟩
  |ins c ns ds =>
   obtain⟨C,bh,fs,h0,h1,h2,r⟩:=q;exact⟨C,bh,fs,h0,h1,h2,b.tM aI r⟩
  |tab P gn =>
   obtain⟨dG,ps,h1,h2,aH⟩:=q;refine⟨dG,ps,h1,h2,λpos pq hc=>?_⟩;grind
  |dead=>exact trivial
theorem Ext.back{zR:Hp}(x:Ext ae zR ag H):Ext ae zR ae H:=⟨⟨[],by simp⟩,λa h n=>absurd h n,x.keep⟩
theorem zS{W:Value->Option Addr->Hp->Prop}{Q:VK}{o:Out D}(dN:aD K mg ae H S)(h:aM K mg W ae H Q (fin S o)):aM K mg W ae H Q o:=by
 cases o with
 |bad=>exact h
 |ok d S1 =>
  have h:aM K mg W ae H Q (open Classical in if kP S S1 then(match cG (dy S1 S.length 6) d with
   |some d'=>.ok d' (S1.take S.length)
   |none=>.bad)else .bad):=h
  intro v aA H1 x aF r;by_cases c:kP S S1
  .rw[if_pos c]at h
   have b:Back K mg ae aA H1 S1:=⟨x.pre,aF⟩
   cases q:cG (dy S1 S.length 6) d with
   |none=>rw[q]at h;exact h.elim
   |some d' =>
    rw[q]at h;have hl:dy S1 S.length 6=dy S1 ae.length 6:=by rw[dN.len]
    rw[hl]at q;exact h v ae H1 x.back (b.Ks dN c) (Ko (λn d' a=>b.frz 6 n d' a) b.sub d d' v q r)
  .rw[if_neg c]at h;exact h.elim
 |ex d S1 =>
  have h:aM K mg W ae H Q (open Classical in if kP S S1 then(match cG (dy S1 S.length 6) d with
   |some d'=>.ex d' (S1.take S.length)
   |none=>.bad)else .bad):=h
  intro C dd aA H1 x aF r;by_cases c:kP S S1
  .rw[if_pos c]at h
   have b:Back K mg ae aA H1 S1:=⟨x.pre,aF⟩
   cases q:cG (dy S1 S.length 6) d with
   |none=>rw[q]at h;exact h.elim
   |some d' =>
    rw[q]at h;have hl:dy S1 S.length 6=dy S1 ae.length 6:=by rw[dN.len]
    rw[hl]at q;refine h C dd ae H1 x.back (b.Ks dN c) ?_;obtain⟨bx,ns,ds,zF,tD,fs,e,hm,d5,Sb,Sd,hx,hn,cS⟩:=r;subst e;rw[cG]at q;obtain⟨ys,ao,e2⟩:=gb.mp q;exact⟨bx,ns,ys,zF,tD,fs,e2.symm,hm,d5,Sb,b.sub tD Sd,hx,hn,g4 (λn d' a=>b.frz 6 n d' a) b.sub ds ys _ ao cS⟩
  .rw[if_neg c]at h;exact h.elim
end
def hI(K:PySem.W.Frag)(mg:Str->Option Value)(n:Nat)(g:aK):Sp:=λvs H Q E=>∃ae S ds,ds.length=n/\aD K mg ae H S/\ak K mg ae H ds vs/\aM K mg E ae H Q (g ds S)
def SO.out:SO->Out D
 | .nx _ S=>.ok .non S
 | .rt d S=>.ok d S
 | .ex e _ S=>.ex e S
 |_=>.bad
def cN(N:Nat)(body:SX):aK:=λds S=>fin S (body (ds.map some++List.replicate (N - ds.length) none) S).out
section
variable{K:PySem.W.Frag}{mg:Str->Option Value}
theorem El{ae:List Addr}{H:Hp}{N:List Str}{ds:List D}{vs:List V}(r:ak K mg ae H ds vs):bM K mg ae H (L2.start N vs) (ds.map some++List.replicate (N.length - ds.length) none):=by
 have hl:=r.len;refine⟨by unfold L2.start;simp[hl],λi d e=>?_⟩;have hi:i<ds.length:=by
  by_cases hi:i<ds.length
  .exact hi
  .grind
 rw[s7 (by grind),List.getElem?_map]at e;cases q:ds[i]? with
 |none=>grind
 |some d' =>
  rw[q]at e;cases e;obtain⟨v,ao,aO⟩:=r.get q;refine⟨v,?_,aO⟩;unfold L2.start;grind
end
section
variable{W:WX}{n:Nat}{f C:Addr}{e:Expr}
def tN(S:Store):D->Option Str
 | .ins c _ _=>some c
 | .ptr n=>match S[n]? with
  |some (.ins c _ _)=>some c
  |_=>none
 |_=>none
def jc(S:Store):D->Option (Str×List Str×List D)
 | .ins c ns vs=>some (c,ns,vs)
 | .ptr n=>match S[n]? with
  |some (.ins c ns vs)=>some (c,ns,vs)
  |_=>none
 |_=>none
theorem pB{K:PySem.W.Frag}{mg:Str->Option Value}{ae:List Addr}{H:Hp}{S:Store}{d:D}{v:V}{c:Str}{ns:List Str}{vs:List D}(w:aD K mg ae H S)(r:Rep K mg ae H d v)(h:jc S d=some (c,ns,vs)) :
  ∃a C bh fs,v=.ref a/\mg c=some (.ref C)/\H a=some (.ins C bh fs)/\fs.map (·.1)=ns/\ak K mg ae H vs (fs.map (·.2)):=by
 cases d with
 |ins bx jJ dt =>
  unfold jc at h;cases h;rw[Rep]at r;grind
 |ptr n =>
  unfold jc at h;rw[Rep]at r;obtain⟨a,e,q⟩:=r;simp only at h;split at h
  .rename_i bx jJ dt em
   cases h;obtain⟨C,bh,fs,hm,ha,hn,cS⟩:=w.ob n a _ q em;grind
  .cases h
 |_=>unfold jc at h;cases h
def j_(f:Str):List Str->List D->Option D
 |n::ns,v::vs=>if f=n then some v else j_ f ns vs
 |_,_=>none
theorem Kt{K:PySem.W.Frag}{mg:Str->Option Value}{ae:List Addr}{H:Hp}{f:Str}{d:D}:∀{fs:List (Str×V)} {ns:List Str} {vs:List D},fs.map (·.1)=ns->ak K mg ae H vs (fs.map (·.2))->j_ f ns vs=some d->∃v,fs.lookup f=some v/\Rep K mg ae H d v
 |[],_,_,e,_,h=>by simp at e;subst e;simp[j_]at h
 |(n,v)::fs,_,[],e,r,h=>by simp only[dD]at e;subst e;simp[j_]at h
 |(n,v)::fs,_,mU::vs,e,r,h=>by
  simp only[dD]at e r;subst e;rw[ak]at r;obtain⟨lN,bN,cE,r1,aE⟩:=r;cases cE;unfold j_ at h;by_cases q:f=n
  .grind
  .rw[if_neg q]at h
   obtain⟨u,h1,h2⟩:=Kt rfl aE h;grind
theorem Se:∀{f:Str} {fs:List (Str×V)} {ns:List Str},fs.map (·.1)=ns->f∉ns->fs.lookup f=none
 |f,[],_,e,h=>rfl
 |f,(n,v)::fs,_,e,h=>by
  grind
end
section
variable{K:PySem.W.Frag}{mg:Str->Option Value}{ae:List Addr}{H:Hp}{S:Store}
theorem fh{i:Int}{v:V}(h:Rep K mg ae H (.int i) v):v=.int i:=by rw[Rep]at h;exact h
theorem jd{i:Bool}{v:V}(h:Rep K mg ae H (.bl i) v):v=.bl i:=by rw[Rep]at h;exact h
theorem eI{i:Str}{v:V}(h:Rep K mg ae H (.str i) v):v=.str i:=by rw[Rep]at h;exact h
theorem lO{v:V}(h:Rep K mg ae H .non v):v=.non:=by rw[Rep]at h;exact h
theorem Em{n:String}{v:V}(h:Rep K mg ae H (.ty n) v):v=.ty n:=by rw[Rep]at h;exact h
theorem g5{i:Int}:Rep K mg ae H (.int i) (.int i):=by rw[Rep]
theorem eR{i:Bool}:Rep K mg ae H (.bl i) (.bl i):=by rw[Rep]
theorem pC{i:Str}:Rep K mg ae H (.str i) (.str i):=by rw[Rep]
theorem Ku:Rep K mg ae H .non .non:=by rw[Rep]
theorem eZ{d:D}{v:V}{ds:List D}(w:aD K mg ae H S)(r:Rep K mg ae H d v)(h:cB S d=some ds):∃a vs,v=.ref a/\H a=some (.lst vs)/\ak K mg ae H ds vs:=by
 cases d with
 |lst xs =>
  unfold cB at h;cases h;rw[Rep]at r;obtain⟨a,vs,e,t,r⟩:=r;exact⟨a,vs,e,t.2,r⟩
 |ptr n =>
  unfold cB at h;simp only at h;rw[Rep]at r;obtain⟨a,e,q⟩:=r;split at h
  .rename_i xs em
   cases h;obtain⟨vs,h1,h2⟩:=w.ob n a _ q em;grind
  .cases h
 |_=>unfold cB at h;cases h
def cH(S:Store):D->Option (List D)
 | .tup ds=>some ds
 | .bF ds=>some ds
 | .bI xs=>some (xs.map .int)
 |d=>cB S d
theorem En:∀xs:List Int,ak K mg ae H (xs.map .int) (xs.map V.int)
 |[]=>ak.nil
 |x::xs=>ak.cons g5 (En xs)
theorem tO{d:D}{v:V}{ds:List D}(w:aD K mg ae H S)(r:Rep K mg ae H d v)(h:cH S d=some ds):∃a vs,v=.ref a/\(SqL K H a vs\/SqT K H a vs)/\ak K mg ae H ds vs:=by
 cases d with
 |tup xs =>
  unfold cH at h;cases h;rw[Rep]at r;obtain⟨a,vs,e,t,r⟩:=r;exact⟨a,vs,e,.inr t.dc,r⟩
 |bI xs =>
  unfold cH at h;cases h;rw[Rep]at r;obtain⟨a,e,t⟩:=r;exact⟨a,_,e,.inl t.dc,En xs⟩
 |lst xs =>
  obtain⟨a,vs,e,h1,h2⟩:=eZ w r (show cB S (.lst xs)=some ds from h);exact⟨a,vs,e,.inl (.inl (.inl h1)),h2⟩
 |ptr n =>
  obtain⟨a,vs,e,h1,h2⟩:=eZ w r (show cB S (.ptr n)=some ds from h);exact⟨a,vs,e,.inl (.inl (.inl h1)),h2⟩
 |bF xs =>
  unfold cH at h;cases h;rw[Rep]at r;obtain⟨a,vs,e,t,r⟩:=r;exact⟨a,vs,e,.inr t.dc,r⟩
 |_=>unfold cH cB at h;cases h
end
def pD(g:Int->Int->D):bR:=λd e S=>match d,e with
 | .int i,.int j=>.ok (g i j) S
 |_,_=>.bad
def nZ(C:Int->Int->Bool)(g:Int->Int->D):bR:=λd e S=>match d,e with
 | .int i,.int j=>if C i j=true then .ok (g i j) S else .bad
 |_,_=>.bad
section
variable{X:Cx}
theorem tP{f:Value->Value->Sem Value}{gd:Int->Int->D}{g:Int->Int->V}(o:OpR X f (rI0 g))(hg:∀i j ae H,Rep X.K X.mg ae H (gd i j) (g i j)):cg X f (pD gd):=by
 refine⟨_,o,λWp ae H S d e x y Q w aC aZ p=>?_⟩;unfold pD at p;split at p
 .exact⟨_,_,fh aC,fh aZ,b5 p w (hg _ _ ae H)⟩
 .exact p.elim
theorem zT{f:Value->Value->Sem Value}{C:Int->Int->Prop}{Cb:Int->Int->Bool}{gd:Int->Int->D}{g:Int->Int->V}(o:OpR X f (rI C g))(d5:∀i j,Cb i j=true->C i j)(hg:∀i j ae H,Rep X.K X.mg ae H (gd i j) (g i j)):cg X f (nZ Cb gd):=by
 refine⟨_,o,λWp ae H S d e x y Q w aC aZ p=>?_⟩;unfold nZ at p;split at p
 .split at p
  .rename_i hc
   exact⟨_,_,fh aC,fh aZ,d5 _ _ hc,b5 p w (hg _ _ ae H)⟩
  .exact p.elim
 .exact p.elim
def Eo:bR:=pD λi j=>.int (i+j)
def kQ:bR:=pD λi j=>.int (i - j)
def Kv(i j:Int):Bool:=decide (i.natAbs.log2+j.natAbs.log2<1000000)
def Ep:bR:=nZ Kv λi j=>.int (i * j)
def Kw(_ j:Int):Bool:=decide (0<j/\j.natAbs.log2<9000)
def hJ:bR:=nZ Kw λi j=>.int (i / j)
def hL:bR:=nZ (λ_ j=>decide (0<j)) λi j=>.int (i % j)
def zU:bR:=nZ (λi j=>decide (0<=j/\j<=1000/\i.natAbs<2 ^ 60)) λi j=>.int (i ^ j.toNat)
theorem Kx:cg X (binaryOp .Add) Eo:=tP op_add λ_ _ _ _=>g5
theorem n0:cg X (binaryOp .Sub) kQ:=tP op_sub λ_ _ _ _=>g5
theorem Sf:cg X (binaryOp .Mult) Ep:=zT op_mulW (λi j h=>of_decide_eq_true (p:=i.natAbs.log2+j.natAbs.log2<1000000) h) λ_ _ _ _=>g5
theorem mV:cg X (binaryOp .FloorDiv) hJ:=zT op_fdivW (λi j h=>of_decide_eq_true (p:=0<j/\j.natAbs.log2<9000) h) λ_ _ _ _=>g5
theorem n3:cg X (binaryOp .Mod) hL:=zT op_mod (λi j h=>of_decide_eq_true h) λ_ _ _ _=>g5
theorem Sh:cg X (binaryOp .Pow) zU:=zT op_pow (λi j h=>by
 have h:=of_decide_eq_true h;have h1:(2:Nat) ^ 60<2 ^ 64:=by decide
 exact⟨h.1,by omega,by omega⟩) λ_ _ _ _=>g5
def ltI:bR:=pD λi j=>.bl (decide (i<j))
def pE:bR:=pD λi j=>.bl (decide (i<=j))
def mW:bR:=pD λi j=>.bl (decide (j<i))
def wz:bR:=pD λi j=>.bl (decide (j<=i))
theorem Si:cg X (compareOp .Lt) ltI:=tP op_lt λ_ _ _ _=>eR
theorem zV:cg X (compareOp .LtE) pE:=tP op_le λ_ _ _ _=>eR
theorem q7:cg X (compareOp .Gt) mW:=tP op_gt λ_ _ _ _=>eR
theorem Ky:cg X (compareOp .GtE) wz:=tP op_ge λ_ _ _ _=>eR
def zW:wj:=λd S=>match d with
 | .int i=>.ok (.int (-i)) S
 |_=>.bad
theorem Kz:Ke X (unaryOp .USub) zW:=by
 refine⟨_,un_neg,λWp ae H S d x Q w aC p=>?_⟩;cases d with
 |int i=>exact⟨i,fh aC,b5 p w g5⟩
 |_=>exact p.elim
def tQ:bR:=λd e S=>match d,e with
 | .str i,.str j=>if i.length+j.length<=1000000 then .ok (.str (i++j)) S else .bad
 |_,_=>.bad
theorem KA:cg X (binaryOp .Add) tQ:=by
 refine⟨_,op_add_str,λWp ae H S d e x y Q w aC aZ p=>?_⟩;unfold tQ at p;split at p
 .split at p
  .rename_i hl
   exact⟨_,_,eI aC,eI aZ,h6 hl,b5 p w pC⟩
  .exact p.elim
 .exact p.elim
def Er:bR:=λd e S=>match d,e with
 | .str i,.str j=>.ok (.bl (decide (i.cps.toList<j.cps.toList))) S
 |_,_=>.bad
theorem Sj:cg X (compareOp .Lt) Er:=by
 refine⟨_,op_lt_str,λWp ae H S d e x y Q w aC aZ p=>?_⟩;unfold Er at p;split at p
 .exact⟨_,_,eI aC,eI aZ,b5 p w eR⟩
 .exact p.elim
def pF(neg:Bool):bR:=λd e S=>match d,e with
 | .str i,.str j=>(match i.cps.toList with
  |[c]=>.ok (.bl (if neg=true then !decide (c∈j.cps.toList)else decide (c∈j.cps.toList))) S
  |_=>.bad)
 |_,_=>.bad
theorem KC{i:Str}{c:Nat}(h:i.cps.toList=[c]):i=⟨#[c]⟩:=by
 obtain⟨a⟩:=i;have:a = #[c]:=by
  have:=congrArg List.toArray h;simpa using this
 rw[this]
theorem Sl:cg X (compareOp .In) (pF false):=by
 refine⟨_,op_in_sign,λWp ae H S d e x y Q w aC aZ p=>?_⟩;unfold pF at p;split at p
 .split at p
  .rename_i c hc
   have hs:=KC hc;refine⟨c,_,?_,eI aZ,b5 p w eR⟩;rw[eI aC,hs]
  .exact p.elim
 .exact p.elim
theorem Sn:cg X (compareOp .NotIn) (pF true):=by
 refine⟨_,op_notIn_sign,λWp ae H S d e x y Q w aC aZ p=>?_⟩;unfold pF at p;split at p
 .split at p
  .rename_i c hc
   have hs:=KC hc;refine⟨c,_,?_,eI aZ,b5 p w eR⟩;rw[eI aC,hs]
  .exact p.elim
 .exact p.elim
mutual
def fW:D->Option PyData
 | .non=>some .none
 | .bl b=>some (.bool b)
 | .int i=>some (.int i)
 | .str s=>some (.str s)
 | .lst xs=>(iI xs).map .list
 | .tup xs=>(iI xs).map .tuple
 | .bF xs=>(iI xs).map .tuple
 |_=>none
def iI:List D->Option (List PyData)
 |[]=>some []
 |d::ds=>match fW d,iI ds with
  |some a,some b=>some (a::b)
  |_,_=>none
end
def toP(S:Store):D->Option PyData
 | .ptr n=>match S[n]? with
  |some (.lst ds)=>(iI ds).map .list
  |_=>none
 |d=>fW d
def bC(neg:Bool):bR:=λd e S=>match toP S d,toP S e with
 |some a,some b=>if SeqAt.shaped a=true/\SeqAt.shaped b=true then .ok (.bl (if neg=true then !PyData.eqv a b else PyData.eqv a b)) S else .bad
 |_,_=>.bad
mutual
theorem KD{K:PySem.W.Frag}{mg:Str->Option Value}{ae:List Addr}{H:Hp}:∀(d:D) (v:V) (p:PyData),Rep K mg ae H d v->fW d=some p->Dp K H v p
 | .non,v,p,r,h=>by rw[fW]at h;cases h;rw[lO r];exact .non
 | .bl b,v,p,r,h=>by rw[fW]at h;cases h;rw[jd r];exact .bl b
 | .int b,v,p,r,h=>by rw[fW]at h;cases h;rw[fh r];exact .int b
 | .str b,v,p,r,h=>by rw[fW]at h;cases h;rw[eI r];exact .str b
 | .lst xs,v,p,r,h=>by
  rw[fW]at h;obtain⟨ys,ao,e2⟩:=gb.mp h;subst e2;rw[Rep]at r;obtain⟨a,vs,e,t,r⟩:=r;subst e;exact .lst t.dc (wA xs vs ys r ao)
 | .tup xs,v,p,r,h=>by
  rw[fW]at h;obtain⟨ys,ao,e2⟩:=gb.mp h;subst e2;rw[Rep]at r;obtain⟨a,vs,e,t,r⟩:=r;subst e;exact .tup t.dc (wA xs vs ys r ao)
 | .bF xs,v,p,r,h=>by
  rw[fW]at h;obtain⟨ys,ao,e2⟩:=gb.mp h;subst e2;rw[Rep]at r;obtain⟨a,vs,e,t,r⟩:=r;subst e;exact .tup t.dc (wA xs vs ys r ao)
 | .ty _,v,p,r,h=>by rw[fW]at h;all_goals grind
 | .cls _,v,p,r,h=>by rw[fW]at h;all_goals grind
 | .dct _ _,v,p,r,h=>by rw[fW]at h;all_goals grind
 | .dw _ _ _,v,p,r,h=>by rw[fW]at h;all_goals grind
 | .ins _ _ _,v,p,r,h=>by rw[fW]at h;all_goals grind
 | .ptr _,v,p,r,h=>by rw[fW]at h;all_goals grind
 | .bI _,v,p,r,h=>by rw[fW]at h;all_goals grind
 | .exc _ _ _,v,p,r,h=>by rw[fW]at h;all_goals grind
 | .lam _ _,v,p,r,h=>by rw[fW]at h;all_goals grind
 | .gZ _ _,v,p,r,h=>by rw[fW]at h;all_goals grind
theorem wA{K:PySem.W.Frag}{mg:Str->Option Value}{ae:List Addr}{H:Hp}:∀(ds:List D) (vs:List V) (ps:List PyData),ak K mg ae H ds vs->iI ds=some ps->DpAll K H vs ps
 |[],vs,ps,r,h=>by rw[iI]at h;cases h;rw[ak]at r;subst r;exact .nil
 |d::ds,vs,ps,r,h=>by
  rw[iI]at h;split at h
  .rename_i a b ea eb
   cases h;rw[ak]at r;obtain⟨v,bN,e,h1,h2⟩:=r;subst e;exact .cons (KD d v a h1 ea) (wA ds bN b h2 eb)
  .cases h
end
theorem zX{K:PySem.W.Frag}{mg:Str->Option Value}{ae:List Addr}{H:Hp}{S:Store}{d:D}{v:V}{p:PyData}(w:aD K mg ae H S)(r:Rep K mg ae H d v)(h:toP S d=some p):Dp K H v p:=by
 cases d with
 |ptr n =>
  unfold toP at h;simp only at h;split at h
  .rename_i ds em
   obtain⟨ys,ao,e2⟩:=gb.mp h;subst e2;rw[Rep]at r;obtain⟨a,e,q⟩:=r;subst e;obtain⟨vs,h1,h2⟩:=w.ob n a _ q em;exact .lst (.inl (.inl h1)) (wA ds vs ys h2 ao)
  .cases h
 |_=>exact KD _ v p r h
theorem gp(aI:X.A.units+64<cLine):cg X (compareOp .Eq) (bC false):=by
 refine⟨_,op_eqD aI,λWp ae H S d e x y Q w aC aZ p=>?_⟩;unfold bC at p;split at p
 .rename_i a b ea eb
  split at p
  .rename_i hs
   exact⟨a,b,zX w aC ea,zX w aZ eb,hs.1,hs.2,b5 p w eR⟩
  .exact p.elim
 .exact p.elim
theorem q8(aI:X.A.units+64<cLine):cg X (compareOp .NotEq) (bC true):=by
 refine⟨_,op_neD aI,λWp ae H S d e x y Q w aC aZ p=>?_⟩;unfold bC at p;split at p
 .rename_i a b ea eb
  split at p
  .rename_i hs
   exact⟨a,b,zX w aC ea,zX w aZ eb,hs.1,hs.2,b5 p w eR⟩
  .exact p.elim
 .exact p.elim
def n4:D->Bool
 | .non=>true
 |_=>false
def q9(neg:Bool):bR:=λd e S=>match e with
 | .non=>.ok (.bl (if neg=true then !n4 d else n4 d)) S
 |_=>.bad
theorem Sq{K:PySem.W.Frag}{mg:Str->Option Value}{ae:List Addr}{H:Hp}{d:D}{x:V}(r:Rep K mg ae H d x):decide (x=V.non)=n4 d:=by
 cases d with
 |non=>rw[lO r];rfl
 |bl b=>rw[jd r];rfl
 |int b=>rw[fh r];rfl
 |str b=>rw[eI r];rfl
 |ty b=>rw[Em r];rfl
 |cls c=>rw[Rep]at r;obtain⟨C,_,e⟩:=r;rw[e];rfl
 |tup xs=>rw[Rep]at r;obtain⟨a,vs,e,_⟩:=r;rw[e];rfl
 |lst xs=>rw[Rep]at r;obtain⟨a,vs,e,_⟩:=r;rw[e];rfl
 |bF xs=>rw[Rep]at r;obtain⟨a,vs,e,_⟩:=r;rw[e];rfl
 |dct ks vs=>rw[Rep]at r;obtain⟨a,_,_,e,_⟩:=r;rw[e];rfl
 |dw w ks vs=>rw[Rep]at r;obtain⟨a,_,_,e,_⟩:=r;rw[e];rfl
 |ins c ns vs=>rw[Rep]at r;obtain⟨a,_,_,_,e,_⟩:=r;rw[e];rfl
 |ptr n=>rw[Rep]at r;obtain⟨a,e,_⟩:=r;rw[e];rfl
 |bI xs=>rw[Rep]at r;obtain⟨a,e,_⟩:=r;rw[e];rfl
 |exc c ns vs=>rw[Rep]at r;obtain⟨a,_,_,_,e,_⟩:=r;rw[e];rfl
 |lam T c=>rw[Rep]at r;obtain⟨a,e,_⟩:=r;rw[e];rfl
 |gZ T c=>rw[Rep]at r;obtain⟨a,_,_,e,_⟩:=r;rw[e];rfl
theorem zY:cg X (compareOp .Is) (q9 false):=by
 refine⟨_,op_isN,λWp ae H S d e x y Q w aC aZ p=>?_⟩;unfold q9 at p;split at p
 .refine⟨lO aZ,?_⟩
  rw[Sq aC];exact b5 p w eR
 .exact p.elim
def n5:bR:=λd e S=>match cB S d,cB S e with
 |some a,some b=>if a.length+b.length<=1000000 then .ok (.lst (a++b)) S else .bad
 |_,_=>.bad
theorem KG:cg X (binaryOp .Add) n5:=by
 refine⟨_,op_cat,λWp ae H S d e x y Q w aC aZ p=>?_⟩;unfold n5 at p;split at p
 .rename_i a b ea eb
  split at p
  .rename_i hl
   obtain⟨l,vs,ao,h1,r1⟩:=eZ w aC ea;obtain⟨l2,n6,e2,h2,aE⟩:=eZ w aZ eb;exact⟨l,l2,vs,n6,ao,e2,h1,h2,by rw[<-r1.len,<-aE.len];exact h6 hl,λq hq=>qY p w (r1.append aE) hq⟩
  .exact p.elim
 .exact p.elim
def wB:bR:=λd e S=>match d,e with
 | .tup a,.tup b=>if a≠[]/\b≠[]/\a.length+b.length<=1000000 then .ok (.tup (a++b)) S else .bad
 |_,_=>.bad
theorem Sr:cg X (binaryOp .Add) wB:=by
 refine⟨_,op_catT,λWp ae H S d e x y Q w aC aZ p=>?_⟩;unfold wB at p;split at p
 .rename_i a b
  split at p
  .rename_i hl
   rw[Rep]at aC aZ;obtain⟨l,vs,ao,h1,r1⟩:=aC;obtain⟨l2,n6,e2,h2,aE⟩:=aZ;have n1:vs≠[]:=λq=>hl.1 (iC.mp (by rw[r1.len,q];rfl));have n2:n6≠[]:=λq=>hl.2.1 (iC.mp (by rw[aE.len,q];rfl));exact⟨l,l2,vs,n6,ao,e2,h1.dc,h2.dc,n1,by rw[<-r1.len,<-aE.len];exact h6 hl.2.2,λq=>absurd q n2,λ_ q hq=>wm p w (r1.append aE) hq⟩
  .exact p.elim
 .exact p.elim
def zZ(k:Nat)(xs:List D):List D:=(List.replicate k xs).flatten
theorem ak.rep{K:PySem.W.Frag}{mg:Str->Option Value}{ae:List Addr}{H:Hp}{ds:List D}{vs:List V}(r:ak K mg ae H ds vs):∀k:Nat,ak K mg ae H (zZ k ds) (List.replicate k vs).flatten
 |0=>ak.nil
 |k+1=>by
  show ak K mg ae H (List.replicate (k+1) ds).flatten _;rw[List.replicate_succ,List.replicate_succ,List.flatten_cons,List.flatten_cons];exact r.append (ak.rep r k)
def wC:bR:=λd e S=>match cB S d,e with
 |some a,.int k=>if k<1000000/\a.length * k.toNat<=1000000 /\ -1000000<=k then .ok (.lst (zZ k.toNat a)) S else .bad
 |_,_=>.bad
theorem Ss:cg X (binaryOp .Mult) wC:=by
 refine⟨_,op_rep,λWp ae H S d e x y Q w aC aZ p=>?_⟩;unfold wC at p;split at p
 .rename_i a k ea
  split at p
  .rename_i hl
   obtain⟨l,vs,ao,h1,r1⟩:=eZ w aC ea;exact⟨l,k,vs,ao,fh aZ,h1,by omega,by omega,by rw[<-r1.len];exact h6 hl.2.1,λq hq=>qY p w (r1.rep k.toNat) hq⟩
  .exact p.elim
 .exact p.elim
def jK:D->Bool
 | .non=>true
 | .bl _=>true
 | .int _=>true
 | .str _=>true
 |_=>false
def q_:D->D->Bool
 | .non,.non=>true
 | .bl a,.bl b=>a==b
 | .bl a,.int j=>(if a then 1 else 0)==j
 | .int i,.bl b=>i==(if b then 1 else 0)
 | .int i,.int j=>i==j
 | .str x,.str y=>x==y
 |_,_=>false
end
section
variable{X:Cx}
def inD(x:D)(xs:List D):Bool:=xs.any λy=>q_ y x
theorem Es{K:PySem.W.Frag}{mg:Str->Option Value}{ae:List Addr}{H:Hp}{d:D}{v:V}(f:jK d=true)(r:Rep K mg ae H d v):flatV v=true:=by
 cases d with
 |non=>rw[lO r];rfl
 |bl b=>rw[jd r];rfl
 |int b=>rw[fh r];rfl
 |str b=>rw[eI r];rfl
 |_=>cases f
theorem Sv{K:PySem.W.Frag}{mg:Str->Option Value}{ae:List Addr}{H:Hp}{d e:D}{v u:V}(f:jK d=true)(g:jK e=true)(r:Rep K mg ae H d v)(q:Rep K mg ae H e u):eqV v u=q_ d e:=by
 cases d with
 |non=>rw[lO r];cases e with
  |non=>rw[lO q];rfl
  |bl b=>rw[jd q];rfl
  |int b=>rw[fh q];rfl
  |str b=>rw[eI q];rfl
  |_=>cases g
 |bl b=>rw[jd r];cases e with
  |non=>rw[lO q];rfl
  |bl b=>rw[jd q];rfl
  |int b=>rw[fh q];rfl
  |str b=>rw[eI q];rfl
  |_=>cases g
 |int b=>rw[fh r];cases e with
  |non=>rw[lO q];rfl
  |bl b=>rw[jd q];rfl
  |int b=>rw[fh q];rfl
  |str b=>rw[eI q];rfl
  |_=>cases g
 |str b=>rw[eI r];cases e with
  |non=>rw[lO q];rfl
  |bl b=>rw[jd q];rfl
  |int b=>rw[fh q];rfl
  |str b=>rw[eI q];rfl
  |_=>cases g
 |_=>cases f
theorem Et{K:PySem.W.Frag}{mg:Str->Option Value}{ae:List Addr}{H:Hp}{x:D}{v:V}(f:jK x=true)(r:Rep K mg ae H x v):∀{ds:List D} {vs:List V},ak K mg ae H ds vs->ds.all jK=true->vs.all flatV=true/\inV v vs=inD x ds
 |[],_,h,_=>by rw[ak]at h;subst h;exact⟨rfl,rfl⟩
 |d::ds,_,h,a=>by
  rw[ak]at h;obtain⟨u,bN,e,h1,h2⟩:=h;subst e;rw[List.all_cons,Bool.and_eq_true]at a;obtain⟨i1,i2⟩:=Et f r h2 a.2;refine⟨by rw[List.all_cons,Es a.1 h1,i1];rfl,?_⟩;show(eqV u v||inV v bN)=(q_ d x||inD x ds)
  rw[i2,Sv a.1 f h1 r]
def pG(neg:Bool):bR:=λd e S=>match cH S e with
 |some ds=>if jK d=true/\ds.all jK=true then .ok (.bl (if neg=true then !inD d ds else inD d ds)) S else .bad
 |none=>.bad
theorem Sw:cg X (compareOp .In) (pG false):=by
 refine⟨_,op_in_seq,λWp ae H S d e x y Q w aC aZ p=>?_⟩;unfold pG at p;split at p
 .rename_i ds ea
  split at p
  .rename_i hf
   obtain⟨a,vs,ao,h1,r1⟩:=tO w aZ ea;obtain⟨i1,i2⟩:=Et hf.1 aC r1 hf.2;refine⟨a,vs,ao,h1,Es hf.1 aC,i1,?_⟩;rw[i2];exact b5 p w eR
  .exact p.elim
 .exact p.elim
theorem Sx:cg X (compareOp .NotIn) (pG true):=by
 refine⟨_,op_notIn_seq,λWp ae H S d e x y Q w aC aZ p=>?_⟩;unfold pG at p;split at p
 .rename_i ds ea
  split at p
  .rename_i hf
   obtain⟨a,vs,ao,h1,r1⟩:=tO w aZ ea;obtain⟨i1,i2⟩:=Et hf.1 aC r1 hf.2;refine⟨a,vs,ao,h1,Es hf.1 aC,i1,?_⟩;rw[i2];exact b5 p w eR
  .exact p.elim
 .exact p.elim
def wD:aK:=λds S=>match ds with
 |[.str s]=>if s.length<=1000000 then .ok (.int s.length) S else .bad
 |[d]=>(match cH S d with
  |some xs=>.ok (.int xs.length) S
  |none=>.bad)
 |_=>.bad
theorem d_len:hC X (.builtin "len") wD:=by
 refine⟨_,call_len,λWp ae H S ds xs Q w r p=>?_⟩
 match ds,r,p with
 |[d],r,p =>
  rw[ak]at r;obtain⟨v,bN,e,h1,h2⟩:=r;rw[ak]at h2;subst h2 e;have go:∀ys,cH S d=some ys->aM X.K X.mg Wp ae H Q (.ok (.int ys.length) S)->∃x n,[v]=[x]/\LenV X.K x H n/\Q (.int n) H:=λys ea p=>by
   obtain⟨a,vs,ao,aH,r1⟩:=tO w h1 ea;subst ao;refine⟨_,vs.length,rfl,?_,by rw[<-r1.len];exact b5 p w g5⟩;rcases aH with aH|aH
   .exact .inl ⟨vs,aH,rfl⟩
   .exact .inr ⟨vs,aH,rfl⟩
  cases d with
  |str s =>
   unfold wD at p;simp only at p;split at p
   .rename_i hl
    exact⟨.str s,s.length,by rw[eI h1],⟨h6 hl,rfl⟩,b5 p w g5⟩
   .exact p.elim
  |tup xs=>exact go xs rfl p
  |bF xs=>exact go xs rfl p
  |lst xs=>exact go xs rfl p
  |bI xs=>exact go _ rfl p
  |ptr n =>
   have p:aM X.K X.mg Wp ae H Q (match cH S (.ptr n)with
    |some xs=>.ok (.int xs.length) S
    |none=>.bad):=p
   split at p
   .grind
   .exact p.elim
  |_=>exact p.elim
 |[],_,p=>exact p.elim
 |d::_::_,_,p=>cases d<;>exact p.elim
inductive j' where
 |non|bl|int|str|tup|lst|dct
 deriving DecidableEq
def j'.name:j'->String
 | .non=>"NoneType"
 | .bl=>"bool"
 | .int=>"int"
 | .str=>"str"
 | .tup=>"tuple"
 | .lst=>"list"
 | .dct=>"dict"
def hM(S:Store):D->Option j'
 | .non=>some .non
 | .bl _=>some .bl
 | .int _=>some .int
 | .str _=>some .str
 | .tup _=>some .tup
 | .bF _=>some .tup
 | .lst _=>some .lst
 | .bI _=>some .lst
 | .dct _ _=>some .dct
 | .ptr n=>match S[n]? with
  |some (.lst _)=>some .lst
  |some (.dct _ _ _)=>some .dct
  |_=>none
 |_=>none
def cj(k:j')(T:String):Option Bool :=
 if T="int" then some (k=.int\/k=.bl)else if T="bool" then some (k=.bl)else if T="str" then some (k=.str)else if T="list" then some (k=.lst)else if T="tuple" then some (k=.tup)else if T="dict" then some (k=.dct)else none
theorem KH{K:PySem.W.Frag}{k:j'}{T:String}{b:Bool}(h:cj k T=some b):PySem.W.kitOne K (.type k.name) (.type T)=some b:=by
 unfold cj at h;split at h
 .rename_i e;subst e;cases h;cases k<;>exact kit_ty (by rfl)
 split at h
 .rename_i e;subst e;cases h;cases k<;>exact kit_ty (by rfl)
 split at h
 .rename_i e;subst e;cases h;cases k<;>exact kit_ty (by rfl)
 split at h
 .rename_i e;subst e;cases h;cases k<;>exact kit_ty (by rfl)
 split at h
 .rename_i e;subst e;cases h;cases k<;>exact kit_ty (by rfl)
 split at h
 .rename_i e;subst e;cases h;cases k<;>exact kit_ty (by rfl)
 .cases h
theorem z1{K:PySem.W.Frag}{mg:Str->Option Value}{ae:List Addr}{H:Hp}{S:Store}{d:D}{v:V}{k:j'}(w:aD K mg ae H S)(r:Rep K mg ae H d v)(h:hM S d=some k):TyX K H v (.type k.name):=by
 cases d with
 |non=>cases h;rw[lO r];exact .base .non
 |bl b=>cases h;rw[jd r];exact .base (.bl b)
 |int b=>cases h;rw[fh r];exact .base (.int b)
 |str b=>cases h;rw[eI r];exact .base (.str b)
 |tup xs =>
  cases h;rw[Rep]at r;obtain⟨a,vs,e,t,_⟩:=r;subst e;rcases t with⟨_,t⟩|⟨o,its,n,hk,hc,_⟩
  .exact .base (.tup t)
  .exact .kTuple hk hc
 |bF xs =>
  cases h;rw[Rep]at r;obtain⟨a,vs,e,t,_⟩:=r;subst e;obtain⟨_,o,_,t⟩:=t;exact .fTuple t
 |lst xs =>
  cases h;rw[Rep]at r;obtain⟨a,vs,e,t,_⟩:=r;subst e;exact .base (.lst t.2)
 |bI xs =>
  cases h;rw[Rep]at r;obtain⟨a,e,t⟩:=r;subst e;rcases t with⟨_,t|⟨o,t⟩⟩|⟨o,its,n,hk,hc,_⟩
  .exact .base (.lst t)
  .exact .base (.frz t)
  .exact .kList hk hc
 |dct ks vs =>
  cases h;rw[Rep]at r;obtain⟨a,bA,vs,e,⟨_,kvs,t,_⟩,_⟩:=r;subst e;rcases t with t|⟨o,t⟩
  .exact .base (.dK t)
  .exact .fDict t
 |ptr n =>
  rw[Rep]at r;obtain⟨a,e,q⟩:=r;subst e;unfold hM at h;simp only at h;split at h
  .rename_i xs em
   cases h;obtain⟨vs,h1,_⟩:=w.ob n a _ q em;exact .base (.lst h1)
  .rename_i lk ks vs em
   cases h;obtain⟨kvs,h1,_⟩:=w.ob n a _ q em;cases lk with
   |true =>
    rw[if_pos rfl]at h1;rcases h1 with t|⟨o,t⟩
    .exact .base (.dK t)
    .exact .fDict t
   |false =>
    rw[if_neg jy]at h1;exact .base (.dK h1)
  .cases h
 |_=>unfold hM at h;cases h
def q':aK:=λds S=>match ds with
 |[d,.ty T]=>(match hM S d with
  |some k=>(match cj k T with
   |some b=>.ok (.bl b) S
   |none=>.bad)
  |none=>.bad)
 |_=>.bad
theorem Sy:hC X (.builtin "isinstance") q':=by
 refine⟨_,call_isi,λWp ae H S ds xs Q w r p=>?_⟩;unfold q' at p;split at p
 .rename_i d T
  split at p
  .rename_i k ek
   split at p
   .rename_i b eb
    rw[ak]at r;obtain⟨v,bN,e,h1,h2⟩:=r;rw[ak]at h2;obtain⟨u,aE,e2,aH,bQ⟩:=h2;rw[ak]at bQ;subst bQ e2 e;rw[Em aH];exact⟨v,.ty T,_,.type T,b,rfl,.ty T,z1 w h1 ek,KH eb,b5 p w eR⟩
   .exact p.elim
  .exact p.elim
 .exact p.elim
def mX:List D->Option (List String)
 |[]=>some []
 | .ty T::r=>(mX r).map (T :: ·)
 |_::_=>none
def lP(k:j'):List String->Option Bool
 |[]=>some false
 |T::r=>match cj k T,lP k r with
  |some b,some c=>some (b||c)
  |_,_=>none
def rg:aK:=λds S=>match ds with
 |[d,.tup ts]=>(match hM S d,mX ts with
  |some k,some jL=>(match lP k jL with
   |some b=>.ok (.bl b) S
   |none=>.bad)
  |_,_=>.bad)
 |_=>.bad
theorem Eu{K:PySem.W.Frag}{mg:Str->Option Value}{ae:List Addr}{H:Hp}:∀{ts:List D} {jL:List String} {vs:List V},mX ts=some jL->ak K mg ae H ts vs->Paired ClsV vs (jL.map Value.type)
 |[],_,_,e,r=>by cases e;rw[ak]at r;subst r;exact .nil
 | .ty T::ts,_,_,e,r=>by
  rw[mX]at e;obtain⟨ys,ao,e2⟩:=gb.mp e;subst e2;rw[ak]at r;obtain⟨v,bN,cE,h1,h2⟩:=r;subst cE;rw[Em h1];exact .cons (.ty T) (Eu ao h2)
 | .non::_,_,_,e,_=>by cases e
 | .bl _::_,_,_,e,_=>by cases e
 | .int _::_,_,_,e,_=>by cases e
 | .str _::_,_,_,e,_=>by cases e
 | .cls _::_,_,_,e,_=>by cases e
 | .tup _::_,_,_,e,_=>by cases e
 | .bF _::_,_,_,e,_=>by cases e
 | .lst _::_,_,_,e,_=>by cases e
 | .dct _ _::_,_,_,e,_=>by cases e
 | .dw _ _ _::_,_,_,e,_=>by cases e
 | .ins _ _ _::_,_,_,e,_=>by cases e
 | .ptr _::_,_,_,e,_=>by cases e
 | .bI _::_,_,_,e,_=>by cases e
 | .exc _ _ _::_,_,_,e,_=>by cases e
 | .lam _ _::_,_,_,e,_=>by cases e
 | .gZ _ _::_,_,_,e,_=>by cases e
theorem Ew{K:PySem.W.Frag}{k:j'}:∀{jL:List String} {b:Bool},lP k jL=some b->PySem.W.kitAny K (.type k.name) (jL.map Value.type)=some b
 |[],b,h=>by cases h;rfl
 |T::jL,b,h=>by
  rw[lP]at h;split at h
  .rename_i x y ex di
   cases h;refine kitAny_cons (KH ex) (λq=>?_) (λq=>by rw[q];rfl);rw[q,Bool.false_or];exact Ew di
  .cases h
theorem Sz:hC X (.builtin "isinstance") rg:=by
 refine⟨_,CallR.or call_isiT call_isiK,λWp ae H S ds xs Q w r p=>?_⟩;unfold rg at p;split at p
 .rename_i d ts
  split at p
  .rename_i k jL ek et
   split at p
   .rename_i b eb
    rw[ak]at r;obtain⟨v,bN,e,h1,h2⟩:=r;rw[ak]at h2;obtain⟨u,aE,e2,aH,bQ⟩:=h2;rw[ak]at bQ;subst bQ e2 e;rw[Rep]at aH;obtain⟨a,vs,bu,t,cS⟩:=aH;subst bu;rcases t with⟨_,t⟩|⟨o,its,n,hk,hc,hd,hz,bB⟩
    .exact .inl ⟨v,a,vs,_,_,b,rfl,t,Eu et cS,z1 w h1 ek,Ew eb,b5 p w eR⟩
    .refine .inr ⟨v,a,o.dict,jL.map Value.type,n,o.slots,_,b,rfl,?_,z1 w h1 ek,Ew eb,b5 p w eR⟩
     have fz:=ClsV.all (Eu et cS) bB;rw[hk,<-fz];obtain⟨c,dd,zN,sl⟩:=o;simp only at hc hd;subst hc hd;simp
   .exact p.elim
  .exact p.elim
 .exact p.elim
def tR:List D->Option (List Bool)
 |[]=>some []
 | .bl b::r=>(tR r).map (b :: ·)
 |_::_=>none
theorem KI:∀{ds:List D} {bs:List Bool},tR ds=some bs->ds=bs.map D.bl
 |[],_,e=>by cases e;rfl
 | .bl b::r,_,e=>by
  rw[tR]at e;obtain⟨ys,ao,e2⟩:=gb.mp e;subst e2;rw[KI ao];rfl
 | .non::_,_,e=>by cases e
 | .ty _::_,_,e=>by cases e
 | .int _::_,_,e=>by cases e
 | .str _::_,_,e=>by cases e
 | .cls _::_,_,e=>by cases e
 | .tup _::_,_,e=>by cases e
 | .bF _::_,_,e=>by cases e
 | .lst _::_,_,e=>by cases e
 | .dct _ _::_,_,e=>by cases e
 | .dw _ _ _::_,_,e=>by cases e
 | .ins _ _ _::_,_,e=>by cases e
 | .ptr _::_,_,e=>by cases e
 | .bI _::_,_,e=>by cases e
 | .exc _ _ _::_,_,e=>by cases e
 | .lam _ _::_,_,e=>by cases e
 | .gZ _ _::_,_,e=>by cases e
theorem KJ{K:PySem.W.Frag}{mg:Str->Option Value}{ae:List Addr}{H:Hp}:∀{bs:List Bool} {vs:List V},ak K mg ae H (bs.map D.bl) vs->vs=bs.map V.bl
 |[],_,r=>by rw[vx,ak]at r;exact r
 |b::bs,_,r=>by
  rw[dD,ak]at r;obtain⟨v,bN,e,h1,h2⟩:=r;rw[e,jd h1,KJ h2];rfl
def pH:aK:=λds S=>match ds with
 |[d]=>(match cB S d with
  |some xs=>(match tR xs with
   |some bs=>.ok (.bl (bs.all id)) S
   |none=>.bad)
  |none=>.bad)
 |_=>.bad
theorem KL(hc:X.calm=true):hC X (.builtin "all") pH:=by
 refine⟨_,cr_all hc,λWp ae H S ds xs Q w r p=>?_⟩;unfold pH at p;split at p
 .rename_i d
  split at p
  .rename_i ys di
   split at p
   .rename_i bs eb
    rw[ak]at r;obtain⟨v,bN,e,h1,h2⟩:=r;rw[ak]at h2;subst h2 e;obtain⟨a,vs,ao,aH,r1⟩:=eZ w h1 di;subst ao;rw[KI eb]at r1;rw[KJ r1]at aH;exact⟨a,bs,rfl,.inl (.inl aH),b5 p w eR⟩
   .exact p.elim
  .exact p.elim
 .exact p.elim
def mY:aK:=λds S=>match ds with
 |[d]=>(match cH S d with
  |some xs=>.ok (.lst xs) S
  |none=>.bad)
 |_=>.bad
def wF:aK:=λds S=>match ds with
 |[.tup xs]=>.ok (.tup xs) S
 |[.bF xs]=>.ok (.bF xs) S
 |[d]=>(match cB S d with
  |some xs=>.ok (.tup xs) S
  |none=>.bad)
 |_=>.bad
theorem kR{K:PySem.W.Frag}{mg:Str->Option Value}{ae:List Addr}{H:Hp}{d:D}{xs:List V}(r:ak K mg ae H [d] xs):∃v,xs=[v]/\Rep K mg ae H d v:=by
 rw[ak]at r;obtain⟨v,bN,e,h1,h2⟩:=r;rw[ak]at h2;grind
theorem SA{K:PySem.W.Frag}{mg:Str->Option Value}{ae:List Addr}{H:Hp}{d e:D}{xs:List V}(r:ak K mg ae H [d,e] xs):∃v u,xs=[v,u]/\Rep K mg ae H d v/\Rep K mg ae H e u:=by
 rw[ak]at r;obtain⟨v,bN,cE,h1,h2⟩:=r;obtain⟨u,e2,aH⟩:=kR h2;grind
theorem Ex:hC X (.type "list") mY:=by
 refine⟨_,call_list_of,λWp ae H S ds xs Q w r p=>?_⟩;unfold mY at p;split at p
 .split at p
  .rename_i ys di
   obtain⟨v,e,h1⟩:=kR r;obtain⟨a,vs,ao,aH,r1⟩:=tO w h1 di;exact⟨a,vs,by rw[e,ao],aH,λl hl=>qY p w r1 hl⟩
  .exact p.elim
 .exact p.elim
theorem KN:hC X (.type "tuple") wF:=by
 refine⟨_,call_tuple_of,λWp ae H S ds xs Q w r p=>?_⟩
 match ds,r,p with
 |[d],r,p =>
  obtain⟨v,e,h1⟩:=kR r;have go:∀ys,cB S d=some ys->aM X.K X.mg Wp ae H Q (.ok (.tup ys) S)->∃p ys,xs=[.ref p]/\((SqL X.K H p ys/\∀l,H l=none->Q (.ref l) (upd H l (.tup ys)))\/(SqT X.K H p ys/\Q (.ref p) H)):=λys di p=>by
   obtain⟨a,vs,ao,aH,r1⟩:=eZ w h1 di;exact⟨a,vs,by rw[e,ao],.inl ⟨.inl (.inl aH),λl hl=>wm p w r1 hl⟩⟩
  cases d with
  |tup ys =>
   have i9:=h1;rw[Rep]at h1;obtain⟨a,vs,ao,t,r1⟩:=h1;exact⟨a,vs,by rw[e,ao],.inr ⟨t.dc,by rw[<-ao];exact b5 p w i9⟩⟩
  |bF ys =>
   have i9:=h1;rw[Rep]at h1;obtain⟨a,vs,ao,t,r1⟩:=h1;exact⟨a,vs,by rw[e,ao],.inr ⟨t.dc,by rw[<-ao];exact b5 p w i9⟩⟩
  |lst ys=>exact go ys rfl p
  |ptr n =>
   have p:aM X.K X.mg Wp ae H Q (match cB S (.ptr n)with
    |some xs=>.ok (.tup xs) S
    |none=>.bad):=p
   split at p
   .grind
   .exact p.elim
  |_=>exact p.elim
 |[],_,p=>exact p.elim
 |d::_::_,_,p=>cases d<;>exact p.elim
def ib:aK:=λds S=>match ds with
 |[.int i]=>.ok (.int i) S
 |[.bl b]=>.ok (.int (if b=true then 1 else 0)) S
 |_=>.bad
theorem pI:hC X (.type "int") ib:=by
 refine⟨_,call_int1,λWp ae H S ds xs Q w r p=>?_⟩;unfold ib at p;split at p
 .obtain⟨v,e,h1⟩:=kR r
  rw[fh h1]at e;exact .inl ⟨_,e,b5 p w g5⟩
 .obtain⟨v,e,h1⟩:=kR r
  rw[jd h1]at e;exact .inr ⟨_,e,b5 p w g5⟩
 .exact p.elim
structure pJ(X:Cx)(bp:bR):Prop where
 go:∃r:R2,IxR X r/\∀(Wp:Value->Option Addr->Hp->Prop) (ae:List Addr) (H:Hp) (S:Store) (d e:D) (x y:V) (Q:VK),aD X.K X.mg ae H S->Rep X.K X.mg ae H d x->Rep X.K X.mg ae H e y->aM X.K X.mg Wp ae H Q (bp d e S)->r x y H Q
theorem pJ.or{s t:bR}(h:pJ X s)(h':pJ X t):pJ X (c7 s t):=by
 obtain⟨r,o,g⟩:=h.go;obtain⟨bN,eE,e8⟩:=h'.go;refine⟨_,o.or eE,λWp ae H S d e x y Q w aC aZ p=>?_⟩;unfold c7 at p;grind
variable{W:WX}{a b:Expr}{fa fb:aQ}{pos:Pos}
theorem SE{bp:bR}(aS:pJ X bp)(ha:E X W a fa)(hb:E X W b fb)(hs:PlainIx b:=by exact λ_ _=>rfl):E X W (.Subscript a b pos) (ay bp fa fb):=by
 obtain⟨r,o,g⟩:=aS.go;exact PE.imp (pe_ix o ha hb hs) λσ H Q h=>zJ h λae S aG d e x y w aC aZ p=>g _ ae aG S d e x y Q w aC aZ p
def n7:bR:=λd e S=>match e with
 | .int i=>(match d with
  | .str s=>if s.length<=1000000 then(match atI s.cps.toList i with
   |some c=>.ok (.str ⟨#[c]⟩) S
   |none=>.bad)else .bad
  |d=>(match cH S d with
   |some xs=>(match atI xs i with
    |some x=>.ok x S
    |none=>.bad)
   |none=>.bad))
 |_=>.bad
theorem SF{K:PySem.W.Frag}{mg:Str->Option Value}{ae:List Addr}{H:Hp}{ds:List D}{vs:List V}{i:Int}{d:D}(r:ak K mg ae H ds vs)(h:atI ds i=some d):∃v,atI vs i=some v/\Rep K mg ae H d v:=by
 unfold atI at h ⊢;rw[<-r.len];cases q:ixN ds.length i with
 |none=>grind
 |some j =>
  rw[q]at h;exact r.get h
theorem SG:pJ X n7:=by
 refine⟨_,ix_seq,λWp ae H S d e x y Q w aC aZ p=>?_⟩;unfold n7 at p;split at p
 .rename_i i
  have aW:=fh aZ;have go:∀xs,cH S d=some xs->aM X.K X.mg Wp ae H Q (match atI xs i with
    |some x=>.ok x S
    |none=>.bad)->rIx X.K x y H Q:=λxs ea p=>by
   split at p
   .rename_i z rh
    obtain⟨a,vs,ao,aH,r1⟩:=tO w aC ea;obtain⟨v,bQ,cn⟩:=SF r1 rh;rcases aH with aH|aH
    .exact .inl ⟨a,vs,i,v,ao,aW,aH,bQ,b5 p w cn⟩
    .exact .inr (.inl ⟨a,vs,i,v,ao,aW,aH,bQ,b5 p w cn⟩)
   .exact p.elim
  cases d with
  |str s =>
   simp only at p;split at p
   .rename_i hl
    split at p
    .rename_i c je
     exact .inr (.inr ⟨s,i,c,eI aC,aW,h6 hl,je,b5 p w pC⟩)
    .exact p.elim
   .exact p.elim
  |tup xs=>exact go xs rfl p
  |bF xs=>exact go xs rfl p
  |lst xs=>exact go xs rfl p
  |bI xs=>exact go _ rfl p
  |ptr n =>
   simp only at p;split at p
   .grind
   .exact p.elim
  |_=>exact p.elim
 .exact p.elim
end
end Z
namespace Za
open PySem PySem.Spec PyProof.Rows L2
inductive Src where
 |L (a:Addr)
 |T (a:Addr)
 |S (x:Str)
def Src.val:Src->V
 | .L a=>.ref a
 | .T a=>.ref a
 | .S x=>.str x
def Src.At(K:PySem.W.Frag)(H:Hp):Src->List V->Prop
 | .L a,vs=>SqL K H a vs
 | .T a,vs=>SqT K H a vs
 | .S x,vs=>vs=x.cps.toList.map λc=>V.str ⟨#[c]⟩
def Src.It(h:Heap)(it:Addr):Src->Nat->Prop
 | .L a,i=>h.IsListIter it a i
 | .T a,i=>h.IsTupleIter it a i
 | .S x,i=>∃t,h.IsStrIter it (strIterType x) x t i
def Src.adr:Src->Option Addr
 | .L a=>some a
 | .T a=>some a
 | .S _=>none
theorem Src.It.obj{h:Heap}{it:Addr}{i:Nat}:∀{s:Src},s.It h it i->∃o,h.get? it=some o/\∀v,o.data≠.cell v
 | .L a,st=>by obtain⟨o,e,_,d⟩:=st;grind
 | .T a,st=>by obtain⟨o,e,_,d⟩:=st;grind
 | .S x,st=>by obtain⟨t,o,e,_,d⟩:=st;grind
theorem Src.It.keep{h h':Heap}{it:Addr}{i:Nat}(k:∀o,h.get? it=some o->h'.get? it=some o):∀{s:Src},s.It h it i->s.It h' it i
 | .L a,st=>st.at k
 | .T a,st=>st.at k
 | .S x,st=>by obtain⟨t,o,e,r⟩:=st;exact⟨t,o,k o e,r⟩
theorem KO{vs:List V}{its:List Value}(r:Vals vs its){j:Nat}{v:Value}(e:its[j]?=some v):∃x,vs[j]?=some x/\RelV x v:=by
 have hl:=r.length;have bH:=(List.getElem?_eq_some_iff.mp e).1;have hx:vs[j]?=some (vs[j]'(by omega)):=by simp
 obtain⟨u,h1,h2⟩:=r.get hx;simp_all
section
variable{X:Cx}{pins:List (Addr×Obj)}{σ:L2.St}{H:Hp}{s:Shared}
theorem Ey(I:Inv X pins σ H s):∀{c:Src} {xs ys:List V},c.At X.K H xs->c.At X.K H ys->xs=ys
 | .L a,_,_,h,h'=>I.list_inj h h'
 | .T a,_,_,h,h'=>I.tuple_inj h h'
 | .S x,_,_,h,h'=>Eq.trans h (Eq.symm h')
theorem tS(I:Inv X pins σ H s){A:Around}(hh:A.handled=none){c:Src}{vs:List V}{i:Nat}{it:Addr}(ha:c.At X.K H vs)(hi:c.It s.heap it i)(hn:c.adr≠some it) :
  ∃(fp:List Addr) (P:Nat->Value->Prop) (St:Nat->Heap->Prop),Draws X.prog X.w A it fp vs.length P St/\St i s.heap/\(∀j v,P j v->∃x,vs[j]?=some x/\RelV x v)/\it∈fp/\(∀b∈fp,b=it\/c.adr=some b)/\∀j h,St j h->c.It h it j:=by
 cases c with
 |L a =>
  obtain⟨its,aO,p,_⟩:=I.list ha;have hl:its.toArray.size=vs.length:=by rw[eC];exact aO.length.symm
  refine⟨[it,a],_,_,hl▸Draws.list hh it a (λe=>hn (by rw[<-e];rfl)) its.toArray,⟨hi,p.isList⟩,λj v q=>?_,by simp,λb hb=>?_,λj h st=>st.1⟩
  .have q:its[j]?=some v:=by simpa using q
   exact KO aO q
  .rcases iB.mp hb with e|e
   .exact .inl e
   .exact .inr (by rw[pk.mp e];rfl)
 |T a =>
  obtain⟨its,aO,p,_⟩:=I.tuple ha;have hl:its.toArray.size=vs.length:=by rw[eC];exact aO.length.symm
  refine⟨[it,a],_,_,hl▸Draws.tuple hh it a (λe=>hn (by rw[<-e];rfl)) its.toArray,⟨hi,p⟩,λj v q=>?_,by simp,λb hb=>?_,λj h st=>st.1⟩
  .have q:its[j]?=some v:=by simpa using q
   exact KO aO q
  .rcases iB.mp hb with e|e
   .exact .inl e
   .exact .inr (by rw[pk.mp e];rfl)
 |S x =>
  obtain⟨t,hi⟩:=hi;have ha:vs=x.cps.toList.map λc=>V.str ⟨#[c]⟩:=ha;have hl:x.cps.size=vs.length:=by rw[ha];simp
  refine⟨[it],_,_,hl▸Draws.text hh it x t,hi,λj v q=>?_,by simp,λb hb=>.inl (by grind),λj h st=>⟨t,st⟩⟩;obtain⟨c,u,e,q⟩:=q;subst q;exact⟨.str ⟨#[c]⟩,by grind,u,rfl⟩
theorem Ez(I:Inv X pins σ H s){c:Src}{vs:List V}{u:Value}(ha:c.At X.K H vs)(r:RelV c.val u):∃(o:Obj) (B:Heap->Prop),Begins u o B/\B s.heap/\∀h it,h.get? it=some o->c.It h it 0:=by
 cases c with
 |L a =>
  obtain⟨its,aO,p,_⟩:=I.list ha;obtain rfl:u=Value.ref a:=r;exact⟨_,_,begins_list a its.toArray,p.isList,λh it e=>⟨_,e,rfl,rfl⟩⟩
 |T a =>
  obtain⟨its,aO,p,_⟩:=I.tuple ha;obtain rfl:u=Value.ref a:=r;exact⟨_,_,begins_tuple a its.toArray,p,λh it e=>⟨_,e,rfl,rfl⟩⟩
 |S x =>
  obtain⟨t,rfl⟩:=r;exact⟨_,_,begins_text x t,trivial,λh it e=>⟨t,_,e,rfl,rfl⟩⟩
theorem KP(I:Inv X pins σ H s):∀{c:Src} {vs:List V} {b:Addr},c.At X.K H vs->c.adr=some b->b<s.heap.objs.size
 | .L a,_,_,h,e=>by
  cases e;obtain⟨its,aO,p,_⟩:=I.list h;exact p.lt
 | .T a,_,_,h,e=>by
  cases e;obtain⟨its,aO,⟨o,q,_⟩,_⟩:=I.tuple h;exact Heap.lt_size q
end
def KQ(K:PySem.W.Frag)(c d:Src):L2.It :=
 ⟨λi H=>∃(xs ys:List V) (x y:V),c.At K H xs/\d.At K H ys/\xs[i]?=some x/\ys[i]?=some y,
  λi H v H'=>∃T x y,v=.ref T/\H T=none/\H'=upd H T (.tup [x,y])/\(∀xs,c.At K H xs->xs[i]?=some x)/\∀ys,d.At K H ys->ys[i]?=some y,
  λi H=>∃xs ys:List V,c.At K H xs/\d.At K H ys/\i<=xs.length/\i<=ys.length/\(i=xs.length\/i=ys.length)⟩
structure Apart(z TI TO i1 i2:Addr)(c d:Src):Prop where
 z2:TI≠z
 EA:TO≠z
 TITO:TI≠TO
 EB:TI≠i1
 EC:TI≠i2
 KR:TO≠i1
 KS:TO≠i2
 gL:z≠i1
 d9:z≠i2
 i12:i1≠i2
 n8:∀b,c.adr=some b->b≠z/\b≠TI/\b≠TO/\b≠i1/\b≠i2
 mU:∀b,d.adr=some b->b≠z/\b≠TI/\b≠TO/\b≠i1/\b≠i2
theorem SH{P:Program}{w:World}{K:PySem.W.Frag}{elts:List Expr}{kk:Nat}{mZ:Pos}{c d:Src}{z TI TO i1 i2:Addr}(D:Apart z TI TO i1 i2 c d) :
  Turn P w K (.Tuple elts kk mZ) (KQ K c d) [z,TI,TO,i1,i2] z (λi h=>IsZip h z TI TO .none/\IsTupOf2 h TI (.ref i1) (.ref i2)/\(∃x y,IsTupOf2 h TO x y)/\c.It h i1 i/\d.It h i2 i) where
 mem:=by simp
 obj:=λi h st b hb=>by
  obtain⟨hz,m3,⟨x,y,n9⟩,h1,h2⟩:=st;have cE:b=z\/b=TI\/b=TO\/b=i1\/b=i2:=by simpa using hb
  rcases cE with q|q|q|q|q
  .grind
  .grind
  .grind
  .rw[q];exact h1.obj
  .rw[q];exact h2.obj
 keep:=λi h h' st k=>by
  obtain⟨hz,m3,⟨x,y,n9⟩,h1,h2⟩:=st;exact⟨k z (by simp) _ hz,k TI (by simp) _ m3,⟨x,y,k TO (by simp) _ n9⟩,h1.keep λo q=>k i1 (by simp) o q,h2.keep λo q=>k i2 (by simp) o q⟩
 item:=by
  intro X dG hw hK hc i pins s σ H E I hf st hg;subst dG hw hK;obtain⟨hz,m3,⟨x0,SJ,n9⟩,h1,h2⟩:=st;obtain⟨xs,ys,x,y,z3,z4,hx,aW⟩:=hg;obtain⟨wG,ED,EF,ri,rj,g1,m1,b1,dz⟩:=tS (A:=X.A.in1) I (I.ok.hd hc) z3 h1 (λe=>(D.n8 _ e).2.2.2.1 rfl);obtain⟨EG,SM,SN,EH,EI,g2,m2,eu,ck⟩:=tS (A:=X.A.in1) I (I.ok.hd hc) z4 h2 (λe=>(D.mU _ e).2.2.2.2 rfl);have S:ZipSep2 z TI TO i1 i2 wG EG:=by
   refine⟨D.z2,D.EA,D.TITO,D.EB,m1,λh=>?_,λh=>?_,D.EC,m2,λh=>?_,λh=>?_,λh=>?_,λh=>?_⟩
   .rcases b1 _ h with e|e
    .exact D.gL e
    .exact(D.n8 _ e).1 rfl
   .rcases b1 _ h with e|e
    .exact D.KR e
    .exact(D.n8 _ e).2.2.1 rfl
   .rcases eu _ h with e|e
    .exact D.d9 e
    .exact(D.mU _ e).1 rfl
   .rcases eu _ h with e|e
    .exact D.KS e
    .exact(D.mU _ e).2.2.1 rfl
   .rcases eu _ h with e|e
    .exact D.i12 e
    .exact(D.mU _ e).2.2.2.1 rfl
   .rcases b1 _ h with e|e
    .exact D.i12 e.symm
    .exact(D.n8 _ e).2.2.2.2 rfl
  have SQ:z<s.heap.objs.size:=Heap.lt_size hz;refine wpAny_pyNext_zipD2_item S ri EH hz m3 n9 rj EI (List.getElem?_eq_some_iff.mp hx).1 (List.getElem?_eq_some_iff.mp aW).1 λu u2 h' tk p1 p2 SR SU SV SW d_ dj hk=>?_;obtain⟨pK,ex,b6⟩:=g1 i u p1;obtain⟨aew,di,SY⟩:=g2 i u2 p2;rw[hx]at ex;cases ex;rw[aW]at di;cases di;refine⟨_,rfl,wpAny_letOwnedTupleGo_zip (s:={ s with heap:=h',toks:=tk }) SR λpL S3 sb=>?_⟩;have EJ:pL.get? s.heap.objs.size=some { cls:=.type "tuple",data:=.seq #[u,u2] }:=(sb.2 _ (nM SQ)).trans d_;have new:ObjOk X.prog X.w (upd H s.heap.objs.size (.tup [x,y])) pL s.heap.objs.size (.tup [x,y]) :=
   ⟨by show 2<=sizeLine;decide,[u,u2],.cons b6 (.cons SY .nil),⟨_,EJ,rfl,_,rfl⟩⟩
  have I1:Inv X pins σ (upd H s.heap.objs.size (.tup [x,y])) { s with heap:=pL,toks:=tk } :=
   I.turnedNew (t':=tk) (ch:=[z,TI,TO,i1,i2]) (λc o hb q=>(sb.2 c (λgn=>hb (by simp[gn]))).trans (hk c o (λgn=>hb (by simp[gn])) (λgn=>hb (by simp[gn])) (λgn=>hb (by simp[gn])) (λgn=>hb (by simp[gn])) q)) hf (dE _) new
  refine⟨.ref s.heap.objs.size,_,I1,rfl,⟨_,x,y,rfl,I.hok.fresh (dE _),rfl,λl hl=>by rw[Ey I hl z3];exact hx,λl hl=>by rw[Ey I hl z4];exact aW⟩,⟨S3,?_,⟨u,u2,?_⟩,?_,?_⟩,λb pM=>?_⟩
  .exact(sb.2 _ D.z2).trans (hk _ _ D.z2 D.TITO D.EB D.EC m3)
  .exact(sb.2 _ D.EA).trans SU
  .exact(dz _ _ SV).keep λo q=>(sb.2 _ (iA D.gL)).trans q
  .exact(ck _ _ SW).keep λo q=>(sb.2 _ (iA D.d9)).trans q
  .have cC:b<s.heap.objs.size:=by
    have cE:b=z\/b=TI\/b=TO\/b=i1\/b=i2:=by simpa using pM
    rcases cE with q|q|q|q|q
    .grind
    .rw[q];exact Heap.lt_size m3
    .rw[q];exact Heap.lt_size n9
    .rw[q];obtain⟨_,ao,_⟩:=h1.obj;exact Heap.lt_size ao
    .rw[q];obtain⟨_,ao,_⟩:=h2.obj;exact Heap.lt_size ao
   rw[upd_ne (fO cC)];exact(hf b pM).1
 done:=by
  intro X dG hw hK hc i pins s σ H E I hf st hg;subst dG hw hK;obtain⟨hz,m3,⟨x0,SJ,n9⟩,h1,h2⟩:=st;obtain⟨xs,ys,z3,z4,c4,EK,ew⟩:=hg;obtain⟨wG,ED,EF,ri,rj,g1,m1,b1,dz⟩:=tS (A:=X.A.in1) I (I.ok.hd hc) z3 h1 (λe=>(D.n8 _ e).2.2.2.1 rfl);obtain⟨EG,SM,SN,EH,EI,g2,m2,eu,ck⟩:=tS (A:=X.A.in1) I (I.ok.hd hc) z4 h2 (λe=>(D.mU _ e).2.2.2.2 rfl);have S:ZipSep2 z TI TO i1 i2 wG EG:=by
   refine⟨D.z2,D.EA,D.TITO,D.EB,m1,λh=>?_,λh=>?_,D.EC,m2,λh=>?_,λh=>?_,λh=>?_,λh=>?_⟩
   .rcases b1 _ h with e|e
    .exact D.gL e
    .exact(D.n8 _ e).1 rfl
   .rcases b1 _ h with e|e
    .exact D.KR e
    .exact(D.n8 _ e).2.2.1 rfl
   .rcases eu _ h with e|e
    .exact D.d9 e
    .exact(D.mU _ e).1 rfl
   .rcases eu _ h with e|e
    .exact D.KS e
    .exact(D.mU _ e).2.2.1 rfl
   .rcases eu _ h with e|e
    .exact D.i12 e
    .exact(D.mU _ e).2.2.2.1 rfl
   .rcases b1 _ h with e|e
    .exact D.i12 e.symm
    .exact(D.n8 _ e).2.2.2.2 rfl
  exact wpAny_pyNext_zipD2_end S ri EH hz m3 n9 rj EI c4 EK ew λh' tk hk=>⟨rfl,I.turnedL (t':=tk) (ch:=[z,TI,TO,i1,i2]) (λc o hb q =>
   hk c o (λgn=>hb (by simp[gn])) (λgn=>hb (by simp[gn])) (λgn=>hb (by simp[gn])) (λgn=>hb (by simp[gn])) q) hf⟩
 self:=λA i s Q E st h=>wpAny_pyIter_zip st.1 h
def S4(K:PySem.W.Frag)(hN:TA):TI:=λσ H R=>hN σ H λvs H1=>∃(c d:Src) (xs ys:List V),vs=[c.val,d.val]/\c.At K H1 xs/\d.At K H1 ys/\R (KQ K c d) H1
theorem S5{X:Cx}{e e2:Expr}{hN:TA}{p pos mZ:Pos}{elts:List Expr}{kk:Nat}(hg:Gl X "zip")(hm:X.mg "zip"=none)(ha:PA X [e,e2] hN)
  (hs:starEach [e,e2] X.env=(false,eval e X.env)::starEach [e2] X.env:=by rfl) (d8:(backTo pos (starEach [e2] X.env)).any (·.1)=false:=by rfl) :
  PI X (.Tuple elts kk mZ) (.Call (.Name "zip" p) [e,e2] [] pos) (S4 X.K hN):=by
 refine⟨λpins s σ H R I h=>?_⟩;refine Call_ (ld_blt I hg hm PyProof.Rows.boot_zip (PyProof.Rows.callWith_type1 (thn (ha.run pos pins s σ H _ I h) λus s1 ⟨vs,H1,I1,r1,bq⟩=>?_) hs d8));obtain⟨c,d,xs,ys,ex,hc,hd,q⟩:=bq;subst ex;cases r1 with
 |cons r kO =>
  cases kO with
  |cons bN kO =>
   cases kO;obtain⟨S6,S7,EL,ER,dz⟩:=Ez I1 hc r;obtain⟨aex,aey,S8,z5,ck⟩:=Ez I1 hd bN;refine zip_begins2 EL S8 ER z5 λh' hz m3 n9 g1 g2 dj hk=>wpAny_pyIter_zip hz ?_;have I2:Inv X pins σ H1 { s1 with heap:=h' }:=I1.kept (t':=s1.toks) hk;have wH:∀(cc:Src) (zs:List V),cc.At X.K H1 zs->∀b,cc.adr=some b->b≠s1.heap.objs.size+4/\b≠s1.heap.objs.size+2/\b≠s1.heap.objs.size+3/\b≠s1.heap.objs.size/\b≠s1.heap.objs.size+1:=λcc zs hz b e=>by
    have:=KP I1 hz e;grind
   have EV:Apart (s1.heap.objs.size+4) (s1.heap.objs.size+2) (s1.heap.objs.size+3) s1.heap.objs.size (s1.heap.objs.size+1) c d:=by
    refine⟨?_,?_,?_,?_,?_,?_,?_,?_,?_,?_,wH c xs hc,wH d ys hd⟩<;>(simp)
   refine⟨s1.heap.objs.size+4,[s1.heap.objs.size+4,s1.heap.objs.size+2,s1.heap.objs.size+3,s1.heap.objs.size,s1.heap.objs.size+1],_,_,H1,rfl,I2,SH EV,⟨hz,m3,⟨_,_,n9⟩,dz _ _ g1,ck _ _ g2⟩,λb pM=>?_,q⟩;have cE:b=s1.heap.objs.size+4\/b=s1.heap.objs.size+2\/b=s1.heap.objs.size+3\/b=s1.heap.objs.size\/b=s1.heap.objs.size+1:=by simpa using pM
   have hle:s1.heap.objs.size<=b:=by
    rcases cE with z|z|z|z|z
    .grind
    .grind
    .grind
    .grind
    .grind
   exact I1.fpOk hle (I1.hok.fresh hle)
set_option maxHeartbeats 1000000 in
theorem S9{v:Value}{o:Obj}{B:Heap->Prop}(z6:Begins v o B) :
  Meets (Builtin.«enumerate.__new__» ⟨[.type "enumerate",v],[]⟩) (λ_ R s=>B s.heap /\
   R (.ok (.ret (.ref (s.heap.push o).objs.size))) { s with heap:=(s.heap.push o).push { cls:=.type "enumerate",data:=.fields #[.none,.bool false,.ref s.heap.objs.size,rawInt 0,.none,.none] } }) :=
 .of_wp λprog w A R s h=>by
  obtain⟨hp,g,d,tk,os⟩:=s;obtain⟨h1,h⟩:=h;have m4:=sub_enumerate;have bq:∀{S_:Around} {E:Value->Shared->Prop} {Q:Value->Shared->Prop},Q (.ref hp.objs.size) ⟨(hp.push o),g,d,tk,os⟩->wpAny (model prog w) S_ (pyIter v) Q E ⟨hp,g,d,tk,os⟩ :=
   λq=>z6.iter prog w _ _ ⟨hp,g,d,tk,os⟩ _ h1 q
  wp_walk
  refine wpAny_stack_any λst=>wpAny_pure ?_;split
  .rename_i c _ _ _ _ _
   cases(c==Value.type "enumerate")
   .wp_walk using bq
    exact⟨_,rfl,h⟩
   .wp_walk using bq
    exact⟨_,rfl,h⟩
  .wp_walk using bq
   exact⟨_,rfl,h⟩
theorem S'{prog:Program}{w:World}{A:Around}{E:Value->Shared->Prop}{s:Shared}{v:Value}{o:Obj}{B:Heap->Prop}{Q:Value->Shared->Prop}(z6:Begins v o B)(h1:B s.heap)
  (h:∀h',IsEnum h' (s.heap.objs.size+1) s.heap.objs.size 0 .none->h'.get? s.heap.objs.size=some o->h'.objs.size=s.heap.objs.size+2 ->
   (∀b o,s.heap.get? b=some o->h'.get? b=some o)->Q (.ref (s.heap.objs.size+1)) { s with heap:=h' }) :
  wpAny (model prog w) A (call (.type "enumerate") [v]) Q E s:=by
 refine callType_new F.called_enumerate (by decide) (F.typeCall_enumerate_1 _) (F.newCall_enumerate_1 _) (λobj=>F.args_object_init_2 obj _) F.entry_enumerate_new
  (S9 z6) ⟨h1,?_⟩
 have hz:(s.heap.push o).objs.size=s.heap.objs.size+1:=Heap.size_push ..;show _/\_;rw[hz];have he:IsEnum ((s.heap.push o).push { cls:=.type "enumerate",data:=.fields #[.none,.bool false,.ref s.heap.objs.size,rawInt 0,.none,.none] }) (s.heap.objs.size+1) s.heap.objs.size 0 .none:=by
  have:=Heap.get?_push_size (s.heap.push o) (o:={ cls:=.type "enumerate",data:=.fields #[.none,.bool false,.ref s.heap.objs.size,rawInt 0,.none,.none] }) rfl;rw[hz]at this;exact this
 exact⟨⟨_,he,rfl⟩,h _ he (Heap.get?_push_of_some _ (Heap.get?_push_size _ z6.free)) (by simp) λb o x=>Heap.get?_push_of_some _ (Heap.get?_push_of_some _ x)⟩
def KU(K:PySem.W.Frag)(c:Src):L2.It :=
 ⟨λi H=>∃(xs:List V) (x:V),c.At K H xs/\xs[i]?=some x,
  λi H v H'=>∃T x,v=.ref T/\H T=none/\H'=upd H T (.tup [.int (i:Nat),x])/\∀xs,c.At K H xs->xs[i]?=some x,
  λi H=>∃xs:List V,c.At K H xs/\i=xs.length⟩
theorem Ta{P:Program}{w:World}{K:PySem.W.Frag}{elts:List Expr}{kk:Nat}{mZ:Pos}{c:Src}{e it:Addr}(hE:e≠it)(EW:c.adr≠some e)(ka:c.adr≠some it) :
  Turn P w K (.Tuple elts kk mZ) (KU K c) [e,it] e (λi h=>(∃old,IsEnum h e it ((i:Nat):Int) old)/\c.It h it i) where
 mem:=by simp
 obj:=λi h st b hb=>by
  obtain⟨⟨old,he⟩,h1⟩:=st;have cE:b=e\/b=it:=by simpa using hb
  rcases cE with z|z
  .grind
  .rw[z];exact h1.obj
 keep:=λi h h' st k=>let ⟨⟨old,he⟩,hi⟩:=st;⟨⟨old,k e (by simp) _ he⟩,hi.keep λo q=>k it (by simp) o q⟩
 item:=by
  intro X dG hw hK hc i pins s σ H E I hf st hg;subst dG hw hK;obtain⟨⟨old,he⟩,hit⟩:=st;obtain⟨xs,x,hq,hx⟩:=hg;obtain⟨fp,ED,EF,ri,rj,g1,m1,b1,dz⟩:=tS (A:=X.A.in1) I (I.ok.hd hc) hq hit ka;have Tb:e<s.heap.objs.size:=Heap.lt_size he;have aez:it<s.heap.objs.size:=by obtain⟨_,q,_⟩:=hit.obj;exact Heap.lt_size q
  have Tc:e∉fp:=λh=>by
   grind
  refine wpAny_pyNext_enum_itemD ri he rj (List.getElem?_eq_some_iff.mp hx).1 hE Tc λu h' tk p aS Td d_ dj hk=>?_;obtain⟨pK,ex,b6⟩:=g1 i u p;rw[hx]at ex;cases ex;refine⟨_,rfl,wpAny_letOwnedTupleGo_enum (s:={ s with heap:=h',toks:=tk+1 }) aS λpL EX sb=>?_⟩;have EJ:pL.get? s.heap.objs.size=some { cls:=.type "tuple",data:=.seq #[.int i tk,u] }:=(sb.2 _ (nM Tb)).trans d_;have new:ObjOk X.prog X.w (upd H s.heap.objs.size (.tup [.int (i:Nat),x])) pL s.heap.objs.size (.tup [.int (i:Nat),x]) :=
   ⟨by show 2<=sizeLine;decide,[.int i tk,u],.cons ⟨_,rfl⟩ (.cons b6 .nil),⟨_,EJ,rfl,_,rfl⟩⟩
  have I1:Inv X pins σ (upd H s.heap.objs.size (.tup [.int (i:Nat),x])) { s with heap:=pL,toks:=tk+1 } :=
   I.turnedNew (ch:=[e,it]) (λb ob hb q=>(sb.2 b (λz=>hb (by simp[z]))).trans (hk b ob (λz=>hb (by simp[z])) (λz=>hb (by simp[z])) q)) hf (dE _) new
  refine⟨.ref s.heap.objs.size,_,I1,rfl,⟨_,x,rfl,I.hok.fresh (dE _),rfl,λys aW=>by rw[Ey I aW hq];exact hx⟩,⟨⟨u,?_⟩,(dz _ _ Td).keep λo q=>(sb.2 it (iA hE)).trans q⟩,λb hb=>?_⟩
  .grind
  .have wI:b<s.heap.objs.size:=by
    have cE:b=e\/b=it:=by simpa using hb
    rcases cE with z|z
    .grind
    .grind
   rw[upd_ne (fO wI)];exact(hf b hb).1
 done:=by
  intro X dG hw hK hc i pins s σ H E I hf st hg;subst dG hw hK;obtain⟨⟨old,he⟩,hit⟩:=st;obtain⟨xs,hq,hx⟩:=hg;obtain⟨fp,ED,EF,ri,rj,g1,m1,b1,dz⟩:=tS (A:=X.A.in1) I (I.ok.hd hc) hq hit ka;obtain⟨f0,f1,f2,f3,f4,n_⟩:=hf it (by simp);subst hx;exact wpAny_pyNext_enum_endD ri he rj λh' eb=>⟨rfl,I.turned (t':=s.toks) (λb o hb q=>eb b o hb q) f0 f1 f3 f4 n_⟩
 self:=λA i s Q E st h=>let ⟨⟨_,he⟩,_⟩:=st;wpAny_pyIter_enum he h
def Te(K:PySem.W.Frag)(hN:TA):TI:=λσ H R=>hN σ H λvs H1=>∃(c:Src) (xs:List V),vs=[c.val]/\c.At K H1 xs/\R (KU K c) H1
theorem Tf{X:Cx}{e:Expr}{hN:TA}{p pos mZ:Pos}{elts:List Expr}{kk:Nat}(hg:Gl X "enumerate")(hm:X.mg "enumerate"=none)(ha:PA X [e] hN)(hs:starEach [e] X.env=[(false,eval e X.env)]:=by rfl) :
  PI X (.Tuple elts kk mZ) (.Call (.Name "enumerate" p) [e] [] pos) (Te X.K hN):=by
 refine⟨λpins s σ H R I h=>?_⟩;refine Call_ (ld_blt I hg hm boot_enumerate (PyProof.Rows.callWith_type1 (thn (ha.run pos pins s σ H _ I h) λus s1 ⟨vs,H1,I1,r1,bq⟩=>?_) hs rfl));obtain⟨c,xs,ex,hc,q⟩:=bq;subst ex;cases r1 with
 |cons r kO =>
  cases kO;obtain⟨S6,S7,EL,ER,dz⟩:=Ez I1 hc r;refine S' EL ER λh' he g1 dj hk=>wpAny_pyIter_enum he ?_;have I2:Inv X pins σ H1 { s1 with heap:=h' }:=I1.kept (t':=s1.toks) hk;have wH:∀b,c.adr=some b->b<s1.heap.objs.size:=λb e=>KP I1 hc e;refine⟨s1.heap.objs.size+1,[s1.heap.objs.size+1,s1.heap.objs.size],_,_,H1,rfl,I2,Ta (Nat.succ_ne_self _) (λe=>absurd (nN (Nat.le_add_right _ _) (wH _ e)) (jz _)) (λe=>absurd (wH _ e) (jz _)),⟨⟨.none,he⟩,dz _ _ g1⟩,λb hb=>?_,q⟩;have cE:b=s1.heap.objs.size+1\/b=s1.heap.objs.size:=by simpa using hb
  have hle:s1.heap.objs.size<=b:=by
   rcases cE with z|z
   .grind
   .grind
  exact I1.fpOk hle (I1.hok.fresh hle)
end Za
namespace Z
open PySem PySem.Spec L2
section
variable{K:PySem.W.Frag}{mg:Str->Option Value}{ae:List Addr}{H:Hp}{S:Store}
theorem Ext.put{p:Addr}{o:HO}(hp:p∈ae):Ext ae H ae (upd H p o):=⟨⟨[],by simp⟩,λa h n=>absurd h n,λa u n h=>.inl (by rw[upd_ne (λq=>n (by grind))];exact h)⟩
theorem KW{α:Type}:∀{l:List α} {i j:Nat} {a:α},l.Nodup->l[i]?=some a->l[j]?=some a->i=j
 |[],_,_,_,_,h,_=>by simp at h
 |x::l,0,0,_,_,_,_=>rfl
 |x::l,0,j+1,a,hn,h1,h2=>by
  grind
 |x::l,i+1,0,a,hn,h1,h2=>by
  grind
 |x::l,i+1,j+1,a,hn,h1,h2=>by
  simp only[Dd]at h1 h2;rw[KW (qL.mp hn).2 h1 h2]
theorem aD.put(w:aD K mg ae H S){n:Nat}{p:Addr}{o:HO}{m:dx}(hn:ae[n]?=some p)(hm:hB K mg ae (upd H p o) p m):aD K mg ae (upd H p o) (S.set n m):=by
 have hp:p∈ae:=mJ hn;refine⟨by simp[w.len],w.nd,λa ha=>?_,λj a gI ao e2=>?_⟩
 .by_cases q:a=p
  .rw[q,upd_same];simp
  .rw[upd_ne q];exact w.tr a ha
 .by_cases q:j=n
  .grind
  .rw[nL (iA q)]at e2
   have EV:a≠p:=λe=>by
    subst e;exact q (KW w.nd ao hn)
   exact hB.ext (Ext.put hp) (upd_ne EV) (w.ob j a gI ao e2)
theorem EY{Wp:Value->Option Addr->Hp->Prop}{Q:VK}{d:D}{v:V}{n:Nat}{p:Addr}{o:HO}{m:dx}(h:aM K mg Wp ae H Q (.ok d (S.set n m)))(w:aD K mg ae H S)(hn:ae[n]?=some p)(hm:hB K mg ae (upd H p o) p m)(r:Rep K mg ae H d v):Q v (upd H p o) :=
 h v ae _ (Ext.put (mJ hn)) (w.put hn hm) (r.ext (Ext.put (mJ hn)))
theorem Ext.putL{p:Addr}{o:HO}{n:Nat}(hn:ae[n]?=some p):Ext ae H ae (upd H p o):=Ext.put (mJ hn)
theorem z7(w:aD K mg ae H S){n:Nat}{v:V}{xs:List D}(r:Rep K mg ae H (.ptr n) v)(e:S[n]?=some (.lst xs)):∃a vs,v=.ref a/\ae[n]?=some a/\H a=some (.lst vs)/\ak K mg ae H xs vs:=by
 rw[Rep]at r;obtain⟨a,ao,q⟩:=r;obtain⟨vs,h1,h2⟩:=w.ob n a _ q e;grind
theorem Tg(w:aD K mg ae H S){n:Nat}{v:V}{ks xs:List D}(r:Rep K mg ae H (.ptr n) v)(e:S[n]?=some (.dct false ks xs)):∃a kvs,v=.ref a/\ae[n]?=some a/\H a=some (.dK kvs)/\ak K mg ae H ks (kvs.map λp=>kV p.1)/\ak K mg ae H xs (kvs.map (·.2)):=by
 rw[Rep]at r;obtain⟨a,ao,q⟩:=r;obtain⟨kvs,h1,h2,aH⟩:=w.ob n a _ q e;grind
end
abbrev lQ:=D->aK
def fj(ty:Store->D->Bool)(bp:lQ)(fo:aQ)(fa:c1):aQ:=λsl S=>(fo sl S).bind λd S1=>if ty S1 d=true then(fa sl S1).bind λds S2=>bp d ds S2 else .bad
def EZ(_:Store):D->Bool
 | .str _=>true
 |_=>false
def hO(S:Store)(d:D):Bool:=(cB S d).isSome
section
variable{X:Cx}{W:WX}
structure tT(X:Cx)(id:String)(bp:lQ):Prop where
 go:∃r:V->List V->Hp->VK->Prop,MtR X id r/\∀(Wp:Value->Option Addr->Hp->Prop) (ae:List Addr) (H:Hp) (S:Store) (d:D) (ds:List D) (x:V) (xs:List V) (Q:VK),aD X.K X.mg ae H S->Rep X.K X.mg ae H d x->ak X.K X.mg ae H ds xs->aM X.K X.mg Wp ae H Q (bp d ds S)->r x xs H Q
theorem Ti{K:PySem.W.Frag}{mg:Str->Option Value}{ae:List Addr}{H:Hp}{S:Store}{d:D}{x:V}(_:aD K mg ae H S)(r:Rep K mg ae H d x)(h:EZ S d=true):tyV K "str" x H:=by
 cases d with
 |str s=>rw[eI r];exact rfl
 |_=>cases h
theorem rk{K:PySem.W.Frag}{mg:Str->Option Value}{ae:List Addr}{H:Hp}{S:Store}{d:D}{x:V}(w:aD K mg ae H S)(r:Rep K mg ae H d x)(h:hO S d=true):tyV K "list" x H:=by
 unfold hO at h;obtain⟨ds,e⟩:=Option.isSome_iff_exists.mp h;obtain⟨a,vs,ao,h1,_⟩:=eZ w r e;rw[ao];exact .inl ⟨rfl,vs,.inl (.inl h1)⟩
variable{o e:Expr}{es:List Expr}{fo:aQ}{fa:c1}{apos rl:Pos}{name:Str}{T id:String}{bp:lQ}{ty:Store->D->Bool}
theorem KY{σ:L2.St}{H:Hp}{Q:VK}{K:PySem.W.Frag}{mg:Str->Option Value}{m5:V->Hp->Prop}{k:V->List V->Hp->Prop}(h:eN K mg W (fj ty bp fo fa) σ H Q)
  (h0:∀ae H S d x,aD K mg ae H S->Rep K mg ae H d x->ty S d=true->m5 x H)
  (hk:∀ae S aG d ds x xs,aD K mg ae aG S->Rep K mg ae aG d x->ak K mg ae aG ds xs->aM K mg (λC d H'=>W C d σ H') ae aG Q (bp d ds S)->k x xs aG) :
  eN K mg W fo σ H λx H1=>m5 x H1/\qT K mg W fa σ H1 λxs aG=>k x xs aG:=by
 obtain⟨ae,S,sl,w,rs,p⟩:=h;refine⟨ae,S,sl,w,rs,aM.mono (aM.eD p) λx H1 ⟨aA,S1,d,x1,aF,r1,_,p1⟩=>?_⟩;split at p1
 .rename_i ht
  refine⟨h0 _ _ _ _ _ aF r1 ht,aA,S1,sl,aF,rs.ext x1,dY.mono (dY.eD p1) λxs aG ⟨aL,S2,ds,x2,cz,aE,_,p2⟩=>?_⟩;exact hk aL S2 aG d ds x xs cz (r1.ext x2) aE p2
 .exact p1.elim
theorem tU(hm:tT X id bp)(E1:∀ae H S d x,aD X.K X.mg ae H S->Rep X.K X.mg ae H d x->ty S d=true->tyV X.K T x H)(E2:PlainAttrs T)(slot:Slot T name id)(hi:typeOf (.builtin id)=pure (.type "method_descriptor"))(aS:E X W o fo)(ha:gj X W (e::es) fa)
  (E3:attributeBase o name X.env (eval o X.env)=eval o X.env:=by rfl)
  (Tj:((backTo rl (starEach (e::es) X.env)).all (λx => !x.1)&&(backToKw rl (keywordEach [] X.env)).all (λx=>x.1.isSome)
   && decide ((e::es).length+([]:List Keyword).length+(if([]:List Keyword).isEmpty then 0 else 1)<30))=true:=by rfl)
  (hline:(apos.endLine==rl.line)=true:=by rfl) (hs:starEach (e::es) X.env=(false,eval e X.env)::starEach es X.env:=by rfl) (E4:(backTo rl (starEach es X.env)).any (·.1)=false:=by rfl) :
  E X W (.Call (.Attribute o name apos) (e::es) [] rl) (fj ty bp fo fa):=by
 obtain⟨r,m,g⟩:=hm.go;exact PE.imp (pe_bm E2 slot hi m aS ha E3 Tj hline hs E4) λσ H Q h=>KY h E1 λae S aG d ds x xs w aC cS p=>g _ ae aG S d ds x xs Q w aC cS p
theorem KZ(hm:tT X id bp)(E1:∀ae H S d x,aD X.K X.mg ae H S->Rep X.K X.mg ae H d x->ty S d=true->tyV X.K T x H)(E2:PlainAttrs T)(slot:Slot T name id)(hi:typeOf (.builtin id)=pure (.type "method_descriptor"))(aS:E X W o fo)
  (E3:attributeBase o name X.env (eval o X.env)=eval o X.env:=by rfl) (hline:(apos.endLine==rl.line)=true:=by rfl):E X W (.Call (.Attribute o name apos) [] [] rl) (fj ty bp fo aq):=by
 obtain⟨r,m,g⟩:=hm.go;refine PE.imp (pe_bm0 E2 slot hi m aS E3 hline) λσ H Q h=>?_;obtain⟨ae,S,sl,w,rs,p⟩:=KY (k:=λx xs aG=>r x xs aG Q) h E1 λae S aG d ds x xs w aC cS p=>g _ ae aG S d ds x xs Q w aC cS p;refine⟨ae,S,sl,w,rs,aM.mono p λx H1 ⟨t,aL,S2,aT,cz,K0,p2⟩=>⟨t,p2 [] aL H1 Ext.refl cz ak.nil⟩⟩
def n':lQ:=λd ds S=>match d,ds with
 | .ptr n,[e]=>(match S[n]? with
  |some (.lst xs)=>if xs.length<1000000 then .ok .non (S.set n (.lst (xs++[e])))else .bad
  |_=>.bad)
 |_,_=>.bad
theorem E5:tT X "list.append" n':=by
 refine⟨_,mt_append,λWp ae H S d ds x xs Q w aC cS p=>?_⟩;unfold n' at p;split at p
 .rename_i n e
  split at p
  .rename_i ys di
   split at p
   .rename_i hl
    obtain⟨a,vs,ao,q,h1,r1⟩:=z7 w aC di;obtain⟨v,e2,aE⟩:=kR cS;refine⟨a,vs,v,ao,e2,h1,by rw[<-r1.len];have:=h6 (n:=ys.length+1) (by omega);omega,?_⟩;exact EY p w q ⟨_,upd_same,(r1.append (ak.cons aE ak.nil)).ext (Ext.putL q)⟩ Ku
   .exact p.elim
  .exact p.elim
 .exact p.elim
def pN:lQ:=λd ds S=>match d,ds with
 | .ptr n,[e]=>(match S[n]?,cB S e with
  |some (.lst xs),some ys=>if xs.length+ys.length<=1000000 then .ok .non (S.set n (.lst (xs++ys)))else .bad
  |_,_=>.bad)
 |_,_=>.bad
theorem K1:tT X "list.extend" pN:=by
 refine⟨_,mt_extend,λWp ae H S d ds x xs Q w aC cS p=>?_⟩;unfold pN at p;split at p
 .rename_i n e
  split at p
  .rename_i g6 ys ao e2
   split at p
   .rename_i hl
    obtain⟨a,vs,bu,q,h1,r1⟩:=z7 w aC ao;obtain⟨v,fz,aE⟩:=kR cS;obtain⟨b,us,e5,cn,iH⟩:=eZ w aE e2;refine⟨a,b,vs,us,bu,by rw[fz,e5],h1,cn,by rw[<-r1.len,<-iH.len];exact h6 hl,?_⟩;exact EY p w q ⟨_,upd_same,(r1.append iH).ext (Ext.putL q)⟩ Ku
   .exact p.elim
  .exact p.elim
 .exact p.elim
theorem ak.dropLast{K:PySem.W.Frag}{mg:Str->Option Value}{ae:List Addr}{H:Hp}{ds:List D}{vs:List V}(q:ak K mg ae H ds vs):ak K mg ae H ds.dropLast vs.dropLast:=by
 rw[List.dropLast_eq_take,List.dropLast_eq_take,<-q.len];exact q.take _
def oa:lQ:=λd ds S=>match d,ds with
 | .ptr n,[]=>(match S[n]? with
  |some (.lst xs)=>(match xs[xs.length - 1]? with
   |some y=>.ok y (S.set n (.lst xs.dropLast))
   |none=>.bad)
  |_=>.bad)
 |_,_=>.bad
theorem K2:tT X "list.pop" oa:=by
 refine⟨_,mt_pop,λWp ae H S d ds x xs Q w aC cS p=>?_⟩;unfold oa at p;split at p
 .rename_i n
  split at p
  .rename_i ys di
   split at p
   .rename_i y aW
    obtain⟨a,vs,ao,q,h1,r1⟩:=z7 w aC di;obtain⟨v,h2,aE⟩:=r1.get aW;rw[ak]at cS;refine⟨a,vs,v,ao,cS,h1,by rw[<-r1.len];exact h2,?_⟩;exact EY p w q ⟨_,upd_same,r1.dropLast.ext (Ext.putL q)⟩ aE
   .exact p.elim
  .exact p.elim
 .exact p.elim
def tV:List D->Option (List Str)
 |[]=>some []
 | .str s::r=>(tV r).map (s :: ·)
 |_::_=>none
theorem K3:∀{ds:List D} {bs:List Str},tV ds=some bs->ds=bs.map D.str
 |[],_,e=>by cases e;rfl
 |d::r,_,e=>by
  cases d with
  |str s =>
   rw[tV]at e;obtain⟨ys,ao,e2⟩:=gb.mp e;subst e2;rw[K3 ao];rfl
  |_=>cases e
theorem K4{K:PySem.W.Frag}{mg:Str->Option Value}{ae:List Addr}{H:Hp}:∀{bs:List Str} {vs:List V},ak K mg ae H (bs.map D.str) vs->vs=bs.map V.str
 |[],_,r=>by rw[vx,ak]at r;exact r
 |b::bs,_,r=>by
  rw[dD,ak]at r;obtain⟨v,bN,e,h1,h2⟩:=r;rw[e,eI h1,K4 h2];rfl
theorem K5{K:PySem.W.Frag}{mg:Str->Option Value}{ae:List Addr}{H:Hp}:∀(bs:List Str),ak K mg ae H (bs.map D.str) (bs.map V.str)
 |[]=>ak.nil
 |b::bs=>ak.cons pC (K5 bs)
def tW:lQ:=λd ds S=>match d,ds with
 | .str a,[e]=>(match cH S e with
  |some xs=>(match tV xs with
   |some ys=>if(ys.map (·.length)).sum+ys.length * a.length<=1000000 then .ok (.str (Txt.join a ys)) S else .bad
   |none=>.bad)
  |none=>.bad)
 |_,_=>.bad
theorem Tn:tT X "str.join" tW:=by
 refine⟨_,mt_join,λWp ae H S d ds x xs Q w aC cS p=>?_⟩;unfold tW at p;split at p
 .rename_i a e
  split at p
  .rename_i zs rh
   split at p
   .rename_i ys di
    split at p
    .rename_i hl
     obtain⟨v,e2,aE⟩:=kR cS;obtain⟨b,vs,bu,aH,cA⟩:=tO w aE rh;rw[K3 di]at cA;rw[K4 cA]at aH;exact⟨a,b,ys,eI aC,by rw[e2,bu],aH,by omega,b5 p w pC⟩
    .exact p.elim
   .exact p.elim
  .exact p.elim
 .exact p.elim
end
def kD:Key->D
 | .inl i=>.int i
 | .inr s=>.str s
def lR:D->Option Key
 | .int i=>some (.inl i)
 | .str s=>some (.inr s)
 |_=>none
@[simp] theorem tX(k:Key):lR (kD k)=some k:=by cases k<;>rfl
theorem To{d:D}{k:Key}(h:lR d=some k):d=kD k:=by
 cases d with
 |int i=>cases h;rfl
 |str i=>cases h;rfl
 |_=>cases h
def tY:List D->List D->Key->Option D
 |k::ks,v::vs,y=>if lR k=some y then some v else tY ks vs y
 |_,_,_=>none
def oc(ks:List D)(y:Key):Bool:=ks.any λk=>decide (lR k=some y)
def z8:List D->List D->Key->D->List D
 |k::ks,v::vs,y,d=>(if lR k=some y then d else v)::z8 ks vs y d
 |_,_,_,_=>[]
def E6(ks:List D)(y:Key):List D:=if oc ks y=true then ks else ks++[kD y]
def E7(ks vs:List D)(y:Key)(d:D):List D:=if oc ks y=true then z8 ks vs y d else vs++[d]
def asD(S:Store):D->Option (List D×List D)
 | .dct ks vs=>some (ks,vs)
 | .ptr n=>match S[n]? with
  |some (.dct _ ks vs)=>some (ks,vs)
  |_=>none
 |_=>none
section
variable{K:PySem.W.Frag}{mg:Str->Option Value}{ae:List Addr}{H:Hp}{S:Store}
theorem Tp{d:D}{k:Key}(r:Rep K mg ae H d (kV k)):d=kD k:=by
 cases d with
 |non=>rw[Rep]at r;cases k<;>cases r
 |bl b=>rw[Rep]at r;cases k<;>cases r
 |int i=>rw[Rep]at r;cases k<;>cases r;rfl
 |str i=>rw[Rep]at r;cases k<;>cases r;rfl
 |ty i=>rw[Rep]at r;cases k<;>cases r
 |cls c=>rw[Rep]at r;obtain⟨_,_,e⟩:=r;cases k<;>cases e
 |tup xs=>rw[Rep]at r;obtain⟨_,_,e,_⟩:=r;cases k<;>cases e
 |lst xs=>rw[Rep]at r;obtain⟨_,_,e,_⟩:=r;cases k<;>cases e
 |bF xs=>rw[Rep]at r;obtain⟨_,_,e,_⟩:=r;cases k<;>cases e
 |dct xs ys=>rw[Rep]at r;obtain⟨_,_,_,e,_⟩:=r;cases k<;>cases e
 |dw w xs ys=>rw[Rep]at r;obtain⟨_,_,_,e,_⟩:=r;cases k<;>cases e
 |ins c ns vs=>rw[Rep]at r;obtain⟨_,_,_,_,e,_⟩:=r;cases k<;>cases e
 |ptr n=>rw[Rep]at r;obtain⟨_,e,_⟩:=r;cases k<;>cases e
 |bI xs=>rw[Rep]at r;obtain⟨_,e,_⟩:=r;cases k<;>cases e
 |exc c ns vs=>rw[Rep]at r;obtain⟨_,_,_,_,e,_⟩:=r;cases k<;>cases e
 |lam T c=>rw[Rep]at r;obtain⟨_,e,_⟩:=r;cases k<;>cases e
 |gZ T c=>rw[Rep]at r;obtain⟨_,_,_,e,_⟩:=r;cases k<;>cases e
theorem K6(k:Key):Rep K mg ae H (kD k) (kV k):=by cases k<;>rw[kD,kV,Rep]
theorem z9{d:D}{k:Key}{v:V}(r:Rep K mg ae H d v)(h:lR d=some k):v=kV k:=by
 rw[To h]at r;cases k with
 |inl i=>exact fh r
 |inr i=>exact eI r
theorem wJ:∀{kvs:List (Key×V)} {ks:List D},ak K mg ae H ks (kvs.map λp=>kV p.1)->ks=kvs.map λp=>kD p.1
 |[],ks,r=>by
  cases ks with
  |nil=>rfl
  |cons d ks=>rw[ak]at r;grind
 |p::kvs,ks,r=>by
  cases ks with
  |nil=>rw[ak]at r;cases r
  |cons d ks =>
   rw[ak]at r;obtain⟨v,bN,e,h1,h2⟩:=r;rw[dD]at e;injection e with ao e2
   subst ao e2;rw[dD,Tp h1,wJ h2]
theorem K7:∀(kvs:List (Key×V)),ak K mg ae H (kvs.map λp=>kD p.1) (kvs.map λp=>kV p.1)
 |[]=>ak.nil
 |p::kvs=>ak.cons (K6 p.1) (K7 kvs)
theorem z_{d:D}{v:V}{p:List D×List D}(w:aD K mg ae H S)(r:Rep K mg ae H d v)(h:asD S d=some p):∃a kvs,v=.ref a/\Rd H a (.dK kvs)/\p.1=kvs.map (λp=>kD p.1)/\ak K mg ae H p.2 (kvs.map (·.2)):=by
 cases d with
 |dct ks vs =>
  unfold asD at h;cases h;rw[Rep]at r;obtain⟨a,bA,dt,e,⟨_,kvs,t,ao,e2⟩,r1,aE⟩:=r;subst ao e2;exact⟨a,kvs,e,t,wJ r1,aE⟩
 |ptr n =>
  unfold asD at h;simp only at h;rw[Rep]at r;obtain⟨a,e,q⟩:=r;split at h
  .rename_i lk ks vs em
   cases h;obtain⟨kvs,h1,r1,aE⟩:=w.ob n a _ q em;refine⟨a,kvs,e,?_,wJ r1,aE⟩;cases lk with
   |true=>grind
   |false=>rw[if_neg jy]at h1;exact .inl h1
  .cases h
 |_=>unfold asD at h;cases h
theorem z'{y:Key}:∀{kvs:List (Key×V)} {ds:List D},ak K mg ae H ds (kvs.map (·.2))->(∀d,tY (kvs.map λp=>kD p.1) ds y=some d->∃v,valV kvs y=some v/\Rep K mg ae H d v)/\(valV kvs y).isSome=oc (kvs.map λp=>kD p.1) y
 |[],ds,r=>⟨λd h=>by simp[tY]at h,by rfl⟩
 |p::kvs,ds,r=>by
  cases ds with
  |nil=>rw[ak]at r;cases r
  |cons d ds =>
   rw[ak]at r;obtain⟨v,bN,e,h1,h2⟩:=r;rw[dD]at e;injection e with ao e2
   subst ao e2;obtain⟨i1,i2⟩:=z' (y:=y) (kvs:=kvs) h2;by_cases q:p.1=y
   .refine⟨λd' h=>?_,?_⟩
    .rw[dD,tY,tX,q,if_pos rfl]at h
     cases h;exact⟨p.2,valV_pos q,h1⟩
    .rw[valV_pos q,dD,oc,List.any_cons,tX,q]
     simp
   .refine⟨λd' h=>?_,?_⟩
    .rw[dD,tY,tX,if_neg (λz=>q (eY z))]at h
     obtain⟨u,bu,cA⟩:=i1 d' h;exact⟨u,by rw[valV_neg q];exact bu,cA⟩
    .rw[valV_neg q,dD,oc,List.any_cons,tX,decide_eq_false (λz=>q (eY z)),Bool.false_or]
     exact i2
theorem Tq(y:Key)(kvs:List (Key×V)):(kvs.any λbA=>decide (bA.1=y))=oc (kvs.map λp=>kD p.1) y:=by
 induction kvs with
 |nil=>rfl
 |cons p kvs ih =>
  rw[List.any_cons,dD,oc,List.any_cons,tX];rw[show(kvs.any λbA=>decide (bA.1=y))=(List.map (λp:Key×V=>kD p.1) kvs).any (λk=>decide (lR k=some y))from ih];simp
theorem K8{y:Key}{d:D}{v:V}(h:Rep K mg ae H d v):∀{kvs:List (Key×V)} {ds:List D},ak K mg ae H ds (kvs.map (·.2))->ak K mg ae H (z8 (kvs.map λp=>kD p.1) ds y d) ((kvs.map λbA=>if bA.1=y then(bA.1,v)else bA).map (·.2))
 |[],ds,r=>by
  rfl
 |p::kvs,ds,r=>by
  cases ds with
  |nil=>rw[ak]at r;cases r
  |cons d' ds =>
   rw[ak]at r;obtain⟨lN,bN,e,h1,h2⟩:=r;rw[dD]at e;injection e with ao e2
   subst ao e2;rw[dD,dD,dD,z8,tX];refine ak.cons ?_ (K8 h h2);grind
theorem Tr{y:Key}{d:D}{v:V}(h:Rep K mg ae H d v){kvs:List (Key×V)}{ds:List D}(r:ak K mg ae H ds (kvs.map (·.2))) :
  E6 (kvs.map λp=>kD p.1) y=(putK kvs y v).map (λp=>kD p.1)/\ak K mg ae H (E7 (kvs.map λp=>kD p.1) ds y d) ((putK kvs y v).map (·.2)):=by
 unfold E6 E7 putK;rw[<-Tq y kvs];split
 .rename_i q
  refine⟨?_,K8 h r⟩;rw[s8];refine y5 λp _=>?_;grind
 .refine⟨by simp,?_⟩
  rw[List.map_append];exact r.append (ak.cons h ak.nil)
end
section
variable{X:Cx}
def Aa:bR:=λd e S=>match asD S d,lR e with
 |some p,some k=>(match tY p.1 p.2 k with
  |some v=>.ok v S
  |none=>.bad)
 |_,_=>.bad
theorem Ts(aI:X.A.units+1<cLine):IxR X (λx y H Q=>∃a v,x=.ref a/\DGet H a y (some v)/\Q v H):=by
 intro value slice pins s σ H x y v u Q I aC aZ h hs;obtain⟨a,z,rfl,g,q⟩:=h;obtain rfl:v=Value.ref a:=aC;exact PyProof.Rows.tail_any (dict_typeIs I g) PySem.F.slot_dict_getitem.lookup (d_getItem aI I g aZ λbT s' eJ E8=>⟨z,H,eJ,E8,q⟩) hs
theorem Tt(aI:X.A.units+1<cLine):pJ X Aa:=by
 refine⟨_,Ts aI,λWp ae H S d e x y Q w aC aZ p=>?_⟩;unfold Aa at p;split at p
 .rename_i pr k dF ek
  split at p
  .rename_i v ev
   obtain⟨a,kvs,ao,h1,e2,aE⟩:=z_ w aC dF;rw[e2]at ev;obtain⟨u,bu,cA⟩:=(z' aE).1 v ev;exact⟨a,u,ao,.inl ⟨kvs,k,h1,z9 aZ ek,bu.symm⟩,b5 p w cA⟩
  .exact p.elim
 .exact p.elim
def pO(neg:Bool):bR:=λe d S=>match asD S d,lR e with
 |some p,some k=>.ok (.bl (if neg=true then !oc p.1 k else oc p.1 k)) S
 |_,_=>.bad
theorem Tv(aI:X.A.units+1<cLine):OpR X (compareOp .In) (λy x H Q=>∃a o,x=.ref a/\DGet H a y o/\Q (.bl o.isSome) H):=by
 intro pins s σ H x y v u Q I aC aZ h;obtain⟨a,o,rfl,g,q⟩:=h;obtain rfl:u=Value.ref a:=aZ;exact d_in aI I g aC λs' eJ=>⟨.bl o.isSome,H,eJ,rfl,q⟩
theorem Tw(aI:X.A.units+1<cLine):OpR X (compareOp .NotIn) (λy x H Q=>∃a o,x=.ref a/\DGet H a y o/\Q (.bl (!o.isSome)) H):=by
 intro pins s σ H x y v u Q I aC aZ h;obtain⟨a,o,rfl,g,q⟩:=h;obtain rfl:u=Value.ref a:=aZ;exact d_notIn aI I g aC λs' eJ=>⟨.bl (!o.isSome),H,eJ,rfl,q⟩
theorem Tx(aI:X.A.units+1<cLine):cg X (compareOp .In) (pO false):=by
 refine⟨_,Tv aI,λWp ae H S d e x y Q w aC aZ p=>?_⟩;unfold pO at p;split at p
 .rename_i pr k dF ek
  obtain⟨a,kvs,ao,h1,e2,aE⟩:=z_ w aZ dF;refine⟨a,valV kvs k,ao,.inl ⟨kvs,k,h1,z9 aC ek,rfl⟩,?_⟩;rw[(z' (y:=k) aE).2,<-e2];exact b5 p w eR
 .exact p.elim
theorem Tz(aI:X.A.units+1<cLine):cg X (compareOp .NotIn) (pO true):=by
 refine⟨_,Tw aI,λWp ae H S d e x y Q w aC aZ p=>?_⟩;unfold pO at p;split at p
 .rename_i pr k dF ek
  obtain⟨a,kvs,ao,h1,e2,aE⟩:=z_ w aZ dF;refine⟨a,valV kvs k,ao,.inl ⟨kvs,k,h1,z9 aC ek,rfl⟩,?_⟩;rw[(z' (y:=k) aE).2,<-e2];exact b5 p w eR
 .exact p.elim
theorem TB:CallR X (.builtin "len") (λxs H Q=>∃a kvs,xs=[V.ref a]/\Rd H a (.dK kvs)/\Q (.int kvs.length) H):=by
 intro pins s σ H xs us Q I r h;obtain⟨a,kvs,rfl,ha,q⟩:=h;obtain⟨u,rfl,b6⟩:=vals1 r;cases b6;exact L2.d_len I ha λt s' eJ=>⟨.int kvs.length,H,eJ,⟨t,rfl⟩,q⟩
def E9:aK:=λds S=>match ds with
 |[d]=>(match asD S d with
  |some p=>.ok (.int p.1.length) S
  |none=>.bad)
 |_=>.bad
theorem TC:hC X (.builtin "len") E9:=by
 refine⟨_,TB,λWp ae H S ds xs Q w r p=>?_⟩;unfold E9 at p;split at p
 .split at p
  .rename_i pr dF
   obtain⟨v,e,h1⟩:=kR r;obtain⟨a,kvs,ao,h2,e2,aE⟩:=z_ w h1 dF;refine⟨a,kvs,by rw[e,ao],h2,?_⟩;rw[e2,y6]at p;exact b5 p w g5
  .exact p.elim
 .exact p.elim
def rm(o i v:D)(S:Store):Option Store:=match o with
 | .ptr n=>(match S[n]? with
  |some (.lst xs)=>(match i with
   | .int k=>(match ixN xs.length k with
    |some j=>some (S.set n (.lst (xs.set j v)))
    |none=>none)
   |_=>none)
  |some (.dct false ks vs)=>(match lR i with
   |some k=>if ks.length<1000000 then some (S.set n (.dct false (E6 ks k) (E7 ks vs k v)))else none
   |none=>none)
  |_=>none)
 |_=>none
def K9:V->V->V->Hp->(Hp->Prop)->Prop:=λo i v H Q=>rSetL o i v H Q\/rSetD o i v H Q
theorem TF(aI:X.A.units+1<cLine):PSet X K9:=by
 intro pins s σ H o i v g7 iv u Q I wK wL aO h;rcases h with h|h
 .exact set_list pins s σ H o i v g7 iv u Q I wK wL aO h
 .exact set_dict aI pins s σ H o i v g7 iv u Q I wK wL aO h
theorem TH{K:PySem.W.Frag}{mg:Str->Option Value}{ae:List Addr}{H:Hp}{S ah:Store}{o i v:D}{x y z:V}{Q:Hp->Prop}(w:aD K mg ae H S)(wK:Rep K mg ae H o x)(wL:Rep K mg ae H i y)(aO:Rep K mg ae H v z)(h:rm o i v S=some ah)
  (k:∀H',Ext ae H ae H'->aD K mg ae H' ah->Q H'):K9 x y z H Q:=by
 unfold rm at h;split at h
 .rename_i n
  split at h
  .rename_i xs ex
   split at h
   .rename_i m5
    split at h
    .rename_i j E_
     cases h;obtain⟨a,vs,ao,q,h1,r1⟩:=z7 w wK ex;refine .inl ⟨a,vs,m5,j,ao,fh wL,h1,by rw[<-r1.len];exact E_,k _ (Ext.putL q) (w.put q ⟨_,upd_same,(r1.set aO j).ext (Ext.putL q)⟩)⟩
    .cases h
   .cases h
  .rename_i ks vs ex
   split at h
   .rename_i m5 ek
    split at h
    .rename_i hl
     cases h;obtain⟨a,kvs,ao,q,h1,r1,aE⟩:=Tg w wK ex;have K_:=wJ r1;obtain⟨gL,d9⟩:=Tr (y:=m5) aO aE;rw[<-K_]at gL d9;refine .inr ⟨a,_,ao,.inl ⟨kvs,m5,h1,z9 wL ek,?_,rfl⟩,k _ (Ext.putL q) (w.put q ⟨putK kvs m5 z,by rw[if_neg jy];exact upd_same,?_,d9.ext (Ext.putL q)⟩)⟩
     .have e:ks.length=kvs.length:=by rw[K_,y6]
      rw[<-e];have:=h6 (n:=ks.length+1) (by omega);omega
     .rw[gL];exact K7 _
    .cases h
   .cases h
  .cases h
 .cases h
def jf(fo fi:aQ):cX:=λv sl S=>match fo sl S with
 | .ok o S1=>(match fi sl S1 with
  | .ok i S2=>(match rm o i v S2 with
   |some aX=>.nx sl aX
   |none=>.bad)
  |_=>.bad)
 |_=>.bad
theorem wM(fo fi:aQ)(d:D)(sl:aJ)(S:Store):(∃b7 ah,jf fo fi d sl S=.nx b7 ah)\/jf fo fi d sl S=.bad:=by
 unfold jf;grind
section
variable{W:WX}{o i e:Expr}{fo fi:aQ}{pos:Pos}
theorem wN(aI:X.A.units+1<cLine)(aS:E X W o fo)(hi:E X W i fi)
  (ha:∀v,assign (.Subscript o i pos) X.env v=(do
   let g7 <-holding [v] (eval o X.env);let iv <-holding [v,g7] (eval i X.env)
   standAt pos
   holding [v,g7,iv] (setItem g7 iv v)
   release [v,g7,iv] []):=by intro _;rfl):q1 X W (.Subscript o i pos) (jf fo fi):=by
 refine PG.imp (pg_sub aS hi (TF aI) ha) λv σ H Q ⟨ae,S,sl,d,w,rs,aO,p⟩=>?_;have p:bj X.K X.mg W ae H ⟨Q,λ_ _=>False,λ_ _=>False,λ_ _=>False⟩ (jf fo fi d sl S):=p;unfold jf at p;split at p
 .rename_i eE S1 wO
  split at p
  .rename_i aeA S2 wQ
   split at p
   .rename_i aX es
    refine⟨ae,S,sl,w,rs,?_⟩;rw[wO];intro x aA H1 x1 aF r1;refine⟨aA,S1,sl,aF,rs.ext x1,?_⟩;rw[wQ];intro y aL aG x2 cz aE;refine TH cz (r1.ext x2) aE (aO.ext (x1.trans x2)) es λH' xx ww=>?_;have rn:=(x1.trans x2).trans xx;exact p _ aL H' rn ww (rs.ext rn)
   .exact p.elim
  .exact p.elim
 .exact p.elim
theorem bj.E'{K:PySem.W.Frag}{mg:Str->Option Value}{ae:List Addr}{H:Hp}{W:WX}{dR:Ends}{σ:L2.St}{sl:aJ}{o:Out D}{k:D->Store->SO}(rs:bM K mg ae H σ sl)(h:bj K mg W ae H dR (o.toS sl k)) :
  aM K mg (λC d H'=>W C d σ H') ae H (λv H1=>∃aA S1 d,Ext ae H aA H1/\aD K mg aA H1 S1/\bM K mg aA H1 σ sl/\Rep K mg aA H1 d v/\bj K mg W aA H1 dR (k d S1)) o:=by
 cases o with
 |ok d S=>exact λv aL aG y w r=>⟨aL,S,d,y,w,rs.ext y,r,bj.from y h⟩
 |ex e S=>exact λC dd aL aG y w r=>h C dd σ aL aG y w (rs.ext y) r
 |bad=>exact h
end
end
def gq(xs:List D)(lo hi:Option Int):List D:=(xs.drop (HT.sIx xs.length 0 lo)).take (HT.sIx xs.length xs.length hi - HT.sIx xs.length 0 lo)
def oe(hand:Bool):D->Option Int->Option Int->Store->Out D:=λd lo hi S=>match d with
 | .str s=>if s.length<=1000000 then .ok (.str (cutS s lo hi)) S else .bad
 | .tup xs=>.ok (.tup (gq xs lo hi)) S
 | .bF _=>.bad
 |d=>(match cH S d with
  |some xs=>if hand=true then .ok (.ptr S.length) (S++[.lst (gq xs lo hi)])else .ok (.lst (gq xs lo hi)) S
  |none=>.bad)
abbrev og:=aJ->Store->Out (Option Int)
def hP:og:=λ_ S=>.ok none S
def hQ(f:aQ):og:=λsl S=>(f sl S).bind λd S1=>match d with
 | .int i=>.ok (some i) S1
 |_=>.bad
def iJ(hand:Bool)(fa:aQ)(fl ro:og):aQ:=λsl S=>(fa sl S).bind λd S1=>(fl sl S1).bind λl S2=>(ro sl S2).bind λu aX=>oe hand d l u aX
section
variable{K:PySem.W.Frag}{mg:Str->Option Value}{ae ag:List Addr}{H H':Hp}{W:Value->Option Addr->Hp->Prop}
def kS(K:PySem.W.Frag)(mg:Str->Option Value)(W:Value->Option Addr->Hp->Prop)(ae:List Addr)(H:Hp)(Q:Option Int->Hp->Prop):Out (Option Int)->Prop
 | .ok b ah=>∀ag H',Ext ae H ag H'->aD K mg ag H' ah->Q b H'
 | .ex e ah=>∀C dd ag H',Ext ae H ag H'->aD K mg ag H' ah->h3 K mg ag H' e C dd->W C dd H'
 | .bad=>False
theorem kS.mono{Q fR:Option Int->Hp->Prop}{o:Out (Option Int)}(h:kS K mg W ae H Q o)(k:∀v H',Q v H'->fR v H'):kS K mg W ae H fR o:=by
 cases o with
 |ok d S=>exact λag H' x w=>k _ _ (h ag H' x w)
 |ex e S=>exact h
 |bad=>exact h
theorem pP{S:Store}{d:D}{v:V}{ds:List D}(w:aD K mg ae H S)(r:Rep K mg ae H d v)(h:cH S d=some ds)(hn:∀ys,d≠.tup ys/\d≠.bF ys):∃a vs,v=.ref a/\SqL K H a vs/\ak K mg ae H ds vs:=by
 cases d with
 |tup xs=>grind
 |bF xs=>grind
 |bI xs =>
  unfold cH at h;cases h;rw[Rep]at r;obtain⟨a,e,t⟩:=r;exact⟨a,_,e,t.dc,En xs⟩
 |lst xs =>
  obtain⟨a,vs,e,h1,h2⟩:=eZ w r (show cB S (.lst xs)=some ds from h);exact⟨a,vs,e,.inl (.inl h1),h2⟩
 |ptr n =>
  obtain⟨a,vs,e,h1,h2⟩:=eZ w r (show cB S (.ptr n)=some ds from h);exact⟨a,vs,e,.inl (.inl h1),h2⟩
 |_=>unfold cH cB at h;cases h
theorem kS.eD{Q:V->Hp->Prop}{o:Out (Option Int)}{k:Option Int->Store->Out D}(h:aM K mg W ae H Q (o.bind k)) :
  kS K mg W ae H (λb H1=>∃aA S1,Ext ae H aA H1/\aD K mg aA H1 S1/\aM K mg W aA H1 Q (k b S1)) o:=by
 cases o with
 |ok d S=>exact λaL aG y w=>⟨aL,S,y,w,aM.from y h⟩
 |ex e S=>exact h
 |bad=>exact h
end
section
variable{X:Cx}{W:WX}
def EO(X:Cx)(W:WX)(e:Option Expr)(f:og):Prop:=PO X e λσ H Q=>∃ae S sl,aD X.K X.mg ae H S/\bM X.K X.mg ae H σ sl/\kS X.K X.mg (λC d H'=>W C d σ H') ae H Q (f sl S)
theorem PO.imp{e:Option Expr}{t t':TO}(h:PO X e t)(k:∀σ H Q,t' σ H Q->t σ H Q):PO X e t':=⟨λpins s σ H Q I q=>h.run pins s σ H Q I (k σ H Q q)⟩
theorem oh:EO X W none hP:=PO.imp po_none λσ H Q ⟨ae,S,sl,w,rs,p⟩=>p ae H Ext.refl w
theorem oi{e:Expr}{f:aQ}(he:E X W e f):EO X W (some e) (hQ f):=PO.imp (po_some he) λσ H Q ⟨ae,S,sl,w,rs,p⟩=>by
 refine⟨ae,S,sl,w,rs,?_⟩;have p:kS X.K X.mg (λC d H'=>W C d σ H') ae H Q ((f sl S).bind λd S1=>match d with
  | .int i=>.ok (some i) S1
  |_=>.bad):=p
 cases q:f sl S with
 |bad=>rw[q]at p;exact p
 |ex e S1=>rw[q]at p;exact p
 |ok d S1 =>
  rw[q]at p;intro v aA H1 x1 aF r1;cases d with
  |int i=>exact⟨i,fh r1,p aA H1 x1 aF⟩
  |_=>exact p.elim
theorem Fb{K:PySem.W.Frag}{mg:Str->Option Value}{ae:List Addr}{H:Hp}{xs:List D}{vs:List V}(lo hi:Option Int)(r:ak K mg ae H xs vs):ak K mg ae H (gq xs lo hi) (cutV vs lo hi):=by
 unfold gq cutV;rw[r.len];exact(r.drop _).take _
theorem TJ{xs:List D}{lo hi:Option Int}(h:HT.sIx xs.length 0 lo=0/\HT.sIx xs.length xs.length hi=xs.length):gq xs lo hi=xs:=by
 unfold gq;grind
theorem pQ{hand:Bool}{a:Expr}{lo hi:Option Expr}{fa:aQ}{fl ro:og}{p2 pos:Pos}(ha:E X W a fa)(hl:EO X W lo fl)(hh:EO X W hi ro):E X W (.Subscript a (.Slice lo hi none p2) pos) (iJ hand fa fl ro):=by
 refine PE.imp (pe_slice ((sl_list (X:=X)).or ((sl_tupA (X:=X)).or sl_str)) ha hl hh) λσ H Q ⟨ae,S,sl,w,rs,p⟩=>?_;refine⟨ae,S,sl,w,rs,aM.mono (aM.eD p) λx H1 ⟨aA,S1,d,x1,aF,r1,_,p1⟩=>?_⟩;refine⟨aA,S1,sl,aF,rs.ext x1,kS.mono (kS.eD p1) λl aG ⟨aL,S2,x2,cz,p2⟩=>?_⟩;refine⟨aL,S2,sl,cz,rs.ext (x1.trans x2),kS.mono (kS.eD p2) λu cF ⟨e9,aX,cq,eO,bG⟩=>?_⟩;have cA:=r1.ext (x2.trans cq);have go:∀xs,cH aX d=some xs->(∀ys,d≠.tup ys/\d≠.bF ys)->aM X.K X.mg (λC d H'=>W C d σ H') e9 cF Q (if hand=true then .ok (.ptr aX.length) (aX++[.lst (gq xs l u)])else .ok (.lst (gq xs l u)) aX)->rSlL X.K x l u cF Q:=λxs ex hn p=>by
  obtain⟨a,vs,ao,h1,dS⟩:=pP eO cA ex hn;refine⟨a,vs,ao,h1,λcw hp=>?_⟩;cases hand with
  |true=>rw[if_pos rfl]at p;exact Eb p eO (Fb l u dS) hp
  |false=>rw[if_neg jy]at p;exact qY p eO (Fb l u dS) hp
 cases d with
 |str s =>
  unfold oe at bG;simp only at bG;split at bG
  .rename_i hl
   exact .inr (.inr ⟨s,eI cA,h6 hl,b5 bG eO pC⟩)
  .exact bG.elim
 |tup xs =>
  have bG:aM X.K X.mg (λC d H'=>W C d σ H') e9 cF Q (.ok (.tup (gq xs l u)) aX):=bG;have TM:=cA;rw[Rep]at cA;obtain⟨a,vs,ao,t,dS⟩:=cA;refine .inr (.inl ⟨a,vs,ao,t.dc,λh=>?_,λh cw hp=>wm bG eO (Fb l u dS) hp⟩);rw[<-dS.len]at h;rw[TJ h]at bG;rw[<-ao];exact b5 bG eO TM
 |lst xs=>exact .inl (go xs rfl (by simp) bG)
 |bI xs=>exact .inl (go _ rfl (by simp) bG)
 |ptr n =>
  have bG:aM X.K X.mg (λC d H'=>W C d σ H') e9 cF Q (match cH aX (.ptr n)with
   |some xs=>if hand=true then .ok (.ptr aX.length) (aX++[.lst (gq xs l u)])else .ok (.lst (gq xs l u)) aX
   |none=>.bad):=bG
  split at bG
  .grind
  .exact bG.elim
 |_=>exact bG.elim
end
open PySem PySem.Spec L2 Za
section
variable{X:Cx}{tg e:Expr}
theorem Ab{t1 m6:TI}(h1:PI X tg e t1)(h2:PI X tg e m6):PI X tg e λσ H R=>t1 σ H R\/m6 σ H R:=⟨λpins s σ H R I h=>by
 rcases h with h|h
 .exact h1.run pins s σ H R I h
 .exact h2.run pins s σ H R I h⟩
theorem TN{pR:TE}(he:PE X e pR):PI X tg e λσ H R=>pR σ H λx H1=>∃d kvs,x=.ref d/\((H1 d=some (.dK kvs)/\∀o,R (Itk d o kvs) (upd H1 d (.frz o (.dK kvs))))\/∃o,H1 d=some (.frz o (.dK kvs))/\R (Itk d o kvs) H1):=by
 refine⟨λpins s σ H R I h=>?_⟩;refine thn (he.run pins s σ H _ I h) λu s1 ⟨x,H1,I1,aC,d,kvs,ex,q⟩=>?_;subst ex;obtain rfl:u=Value.ref d:=aC;have go:∀(aG:Hp) (o:Obj),Inv X pins σ aG s1->aG d=some (.frz o (.dK kvs))->R (Itk d o kvs) aG->wpAny (model X.prog X.w) X.A (pyIter (.ref d)) (PIE X pins σ tg R) X.xe s1:=λaG o I2 hd q=>by
  obtain⟨hs,oj,hx,es,dF,vs,rq,dj,bA,hm⟩:=I2.frzK hd;refine iter_keys hs oj hx rq (pi_one (tk:=s1.toks) I2 _ (turn_keys _ rq) ⟨_,Heap.get?_push_size _ rfl,rfl,?_⟩ q);grind
 rcases q with⟨hd,q⟩|⟨o,hd,q⟩
 .obtain⟨od,I2⟩:=I1.lock hd trivial
  exact go _ od I2 upd_same (q od)
 grind
end
def Fc(d:Addr)(p:List DictEntry×Obj)(bA:List V):It :=
 ⟨λi H=>H d=some (kJ d p)/\i<p.1.length,λi H x H'=>H'=H/\bA[i]?=some x,λi H=>H d=some (kJ d p)/\p.1.length<=i⟩
theorem La:∀{vs:List V} {us:List Value},Vals vs us->∀(i:Nat) (u:Value),us[i]?=some u->∃x,vs[i]?=some x/\RelV x u
 |_,_,.nil,i,u,h=>by simp at h
 |_,_,.cons (a:=v) h1 h2,i,u,h=>by
  cases i with
  |zero=>grind
  |succ i=>simp at h;simpa using La h2 i u h
section
variable{P:Program}{w:World}{K:PySem.W.Frag}{tg:Expr}{d:Addr}{p:List DictEntry×Obj}{dF:Nat}{bA:List V}
theorem TQ(it:Addr)(Lb:p.2.data=.dict p.1.toArray dF)(bB:Vals bA (p.1.map (·.key))):Turn P w K tg (Fc d p bA) [it] it (λi h=>h.IsKeyIter it d i p.1.length dF) where
 mem:=by simp
 obj:=λi h st b hb=>by
  have e:b=it:=by simpa using hb
  subst e;obtain⟨Fd,e,c,dd⟩:=st;grind
 keep:=λi h h' st k=>st.at λFd e=>k it (by simp) Fd e
 item:=by
  intro X dG hw hK hc i pins s σ H E I hf st hg;subst dG hw hK;obtain⟨hd,hi⟩:=hg;obtain⟨f0,f1,f2,f3,f4,n_⟩:=hf it (by simp);obtain⟨⟨TR,oj,hx,rq⟩,_,_⟩:=(show ObjOk X.prog X.w H s.heap d (kJ d p)from I.hok d _ hd)
  obtain⟨x,rr,lS⟩:=La bB i (p.1[i]'hi).key (by grind);refine next_key_item (en:=p.1[i]'hi) st oj Lb (by simp) (by simp[hi]) λh' pS sb=>?_;have I1:Inv X pins σ H { s with heap:=h' }:=I.turned (t':=s.toks) (λb ob hb e=>(sb.2 b hb).trans e) f0 f1 f3 f4 n_;obtain⟨Fd,e,c,dd⟩:=id pS;exact⟨_,rfl,go_of (s:={ s with heap:=h' }) e c dd (by decide) ⟨x,H,I1,lS,⟨rfl,rr⟩,pS,λb hb=>(hf b hb).1⟩⟩
 done:=by
  intro X dG hw hK hc i pins s σ H E I hf st hg;subst dG hw hK;obtain⟨hd,hi⟩:=hg;obtain⟨f0,f1,f2,f3,f4,n_⟩:=hf it (by simp);obtain⟨⟨TR,oj,hx,rq⟩,_,_⟩:=(show ObjOk X.prog X.w H s.heap d (kJ d p)from I.hok d _ hd)
  exact next_key_end (I.ok.hd hc) st oj Lb (by simp) hi λh' eb=>⟨rfl,I.turned (t':=s.toks) (λb ob hb e=>eb b ob hb e) f0 f1 f3 f4 n_⟩
 self:=λA i s Q E st h=>wpAny_pyIter_keyiter st h
end
section
variable{X:Cx}{tg e:Expr}
theorem TU{pR:TE}(he:PE X e pR):PI X tg e λσ H R=>pR σ H λx H1=>∃d p bA,x=.ref d/\(d==sysModules)=false/\H1 d=some (kJ d p)/\Vals bA (p.1.map (·.key))/\R (Fc d p bA) H1:=by
 refine⟨λpins s σ H R I h=>?_⟩;refine thn (he.run pins s σ H _ I h) λu s1 ⟨x,H1,I1,aC,d,p,bA,ex,hs,hd,bB,q⟩=>?_;subst ex;obtain rfl:u=Value.ref d:=aC;obtain⟨⟨dF,oj,hx,rq⟩,_,_⟩:=(show ObjOk X.prog X.w H1 s1.heap d (kJ d p)from I1.hok d _ hd)
 exact iter_keys hs oj hx rq (pi_one (tk:=s1.toks) I1 _ (TQ _ rq bB) ⟨_,Heap.get?_push_size _ rfl,rfl,rfl⟩ q)
end
theorem TV{a:Addr}{p:List DictEntry×Obj}(kvs:List (Key×V)):kJ a p≠.dK kvs:=λe=>by
 unfold kJ at e;cases e
theorem TX{K:PySem.W.Frag}{mg:Str->Option Value}{ae:List Addr}{H:Hp}{d:Addr}{p:List DictEntry×Obj}{bA:List V}{ks:List D}(n:d∉ae)(h:H d=some (kJ d p))(r:ak K mg ae H ks bA)(hl:p.1.length=bA.length):tJ K mg (Fc d p bA) ks (λ_=>True) ae H:=by
 have st:∀ag H',Ext ae H ag H'->H' d=some (kJ d p):=λag H' x=>x.kept n h λkvs=>TV kvs;have hlen:p.1.length=ks.length:=by rw[hl,r.len]
 refine⟨λi ag H' ah hi x w g=>⟨st ag H' x,by omega⟩,λag H' ah x w g=>⟨st ag H' x,by omega⟩,λi ag H' ah v aG hi x w g y=>?_⟩;obtain⟨rfl,e⟩:=y;obtain⟨d',cE,bN⟩:=(r.ext x).get' e;exact⟨d',cE,Ext.refl,w,bN⟩
def wR(s:Str):List D:=s.cps.toList.map λc=>D.str ⟨#[c]⟩
def dO(S:Store):D->Option (List D)
 | .str s=>some (wR s)
 |d=>cH S d
section
variable{K:PySem.W.Frag}{mg:Str->Option Value}{ae:List Addr}{H:Hp}{S:Store}
theorem Fe:∀(l:List Nat),ak K mg ae H (l.map λc=>D.str ⟨#[c]⟩) (l.map λc=>V.str ⟨#[c]⟩)
 |[]=>ak.nil
 |c::l=>ak.cons pC (Fe l)
theorem Ff{d:D}{v:V}{xs:List D}(w:aD K mg ae H S)(r:Rep K mg ae H d v)(h:dO S d=some xs) :
  ∃c:Src,c.val=v/\∀ag H' ah g6,Ext ae H ag H'->aD K mg ag H' ah->dO ah d=some g6->∃vs,c.At K H' vs/\ak K mg ag H' g6 vs:=by
 have lst:(∀ys,d≠.tup ys/\d≠.bF ys)->(∀s,d≠.str s)->cH S d=some xs->∃c:Src,c.val=v/\∀ag H' ah g6,Ext ae H ag H'->aD K mg ag H' ah->dO ah d=some g6->∃vs,c.At K H' vs/\ak K mg ag H' g6 vs:=λhn hs e=>by
  obtain⟨a,vs,ao,_,_⟩:=pP w r e hn;refine⟨.L a,ao.symm,λag H' ah g6 x bT cE=>?_⟩;have TY:cH ah d=some g6:=by
   cases d with
   |str s=>grind
   |_=>exact cE
  obtain⟨hR,dt,e2,h2,aE⟩:=pP bT (r.ext x) TY hn;rw[ao]at e2;cases e2;exact⟨dt,h2,aE⟩
 cases d with
 |str s =>
  refine⟨.S s,(eI r).symm,λag H' ah g6 x bT cE=>?_⟩;cases cE;exact⟨_,rfl,Fe _⟩
 |tup ys =>
  cases h;have bN:=r;rw[Rep]at r;obtain⟨a,vs,ao,t,r1⟩:=r;refine⟨.T a,ao.symm,λag H' ah g6 x bT cE=>?_⟩;cases cE;have aE:=bN.ext x;rw[Rep]at aE;obtain⟨hR,dt,e2,t',cA⟩:=aE;rw[ao]at e2;cases e2;exact⟨dt,t'.dc,cA⟩
 |bF ys =>
  cases h;have bN:=r;rw[Rep]at r;obtain⟨a,vs,ao,t,r1⟩:=r;refine⟨.T a,ao.symm,λag H' ah g6 x bT cE=>?_⟩;cases cE;have aE:=bN.ext x;rw[Rep]at aE;obtain⟨hR,dt,e2,t',cA⟩:=aE;rw[ao]at e2;cases e2;exact⟨dt,t'.dc,cA⟩
 |lst ys=>exact lst (by simp) (by intros;nofun) h
 |bI ys=>exact lst (by simp) (by intros;nofun) h
 |ptr n=>exact lst (by simp) (by intros;nofun) h
 |_=>cases h
theorem Ac{c:Src}{d:D}{xs:List D}(hq:∀ag H' ah,Ext ae H ag H'->aD K mg ag H' ah->dO ah d=some xs->∃vs,c.At K H' vs/\ak K mg ag H' xs vs){J:It}
  (T2:J=match c with
   | .L a=>Itl K a
   | .T a=>Itt K a
   | .S x=>Its x):tJ K mg J xs (λah=>dO ah d=some xs) ae H:=by
 subst T2;cases c with
 |L a =>
  refine⟨λi ag H' ah hi x w g=>?_,λag H' ah x w g=>?_,λi ag H' ah v aG hi x w g y=>?_⟩
  .obtain⟨vs,h1,r1⟩:=hq ag H' ah x w g
   exact⟨vs,vs[i]'(by rw[<-r1.len];exact hi),h1,by simp⟩
  .obtain⟨vs,h1,r1⟩:=hq ag H' ah x w g
   exact⟨vs,h1,by rw[r1.len];simp⟩
  .obtain⟨vs,h1,r1⟩:=hq ag H' ah x w g
   obtain⟨rfl,y⟩:=y;obtain⟨d',e,r⟩:=r1.get' (y vs h1);exact⟨d',e,Ext.refl,w,r⟩
 |T a =>
  refine⟨λi ag H' ah hi x w g=>?_,λag H' ah x w g=>?_,λi ag H' ah v aG hi x w g y=>?_⟩
  .obtain⟨vs,h1,r1⟩:=hq ag H' ah x w g
   exact⟨vs,vs[i]'(by rw[<-r1.len];exact hi),h1,by simp⟩
  .obtain⟨vs,h1,r1⟩:=hq ag H' ah x w g
   exact⟨vs,h1,by rw[r1.len];simp⟩
  .obtain⟨vs,h1,r1⟩:=hq ag H' ah x w g
   obtain⟨rfl,y⟩:=y;obtain⟨d',e,r⟩:=r1.get' (y vs h1);exact⟨d',e,Ext.refl,w,r⟩
 |S s =>
  refine⟨λi ag H' ah hi x w g=>?_,λag H' ah x w g=>?_,λi ag H' ah v aG hi x w g y=>?_⟩
  .obtain⟨vs,h1,r1⟩:=hq ag H' ah x w g
   have h1:vs=s.cps.toList.map λc=>V.str ⟨#[c]⟩:=h1;have:=r1.len;rw[h1,y6]at this;show i<s.cps.size;grind
  .obtain⟨vs,h1,r1⟩:=hq ag H' ah x w g
   have h1:vs=s.cps.toList.map λc=>V.str ⟨#[c]⟩:=h1;have:=r1.len;rw[h1,y6]at this;show s.cps.size<=xs.length;grind
  .obtain⟨vs,h1,r1⟩:=hq ag H' ah x w g
   have h1:vs=s.cps.toList.map λc=>V.str ⟨#[c]⟩:=h1;obtain⟨rfl,c,je,ev⟩:=y;obtain⟨d',e,r⟩:=r1.get' (i:=i) (v:=v) (by grind);exact⟨d',e,Ext.refl,w,r⟩
end
section
variable{X:Cx}{W:WX}{tg e e2:Expr}{f:aQ}{fa:c1}{p pos mZ:Pos}{elts:List Expr}{kk:Nat}
def ru:D->Store->Out (List D×(Store->Prop)):=λd S1=>match d with
 | .dct ks vs=>.ok (ks,λ_=>True) S1
 | .dw _ ks _=>.ok (ks,λ_=>True) S1
 |d=>(match dO S1 d with
  |some xs=>.ok (xs,λS2=>dO S2 d=some xs) S1
  |none=>.bad)
def hS(f:aQ):fS:=λsl S=>(f sl S).bind ru
theorem om{K:PySem.W.Frag}{mg:Str->Option Value}{ae:List Addr}{H:Hp}{S:Store}{Wp:Value->Option Addr->Hp->Prop}{R:It->Hp->Prop}{xs:List D}{G:Store->Prop}{J:It}(h:eP K mg Wp ae H R (.ok (xs,G) S))(w:aD K mg ae H S)(i:tJ K mg J xs G ae H):R J H:=h ae H J Ext.refl w i
theorem eP.from{K:PySem.W.Frag}{mg:Str->Option Value}{ae ag:List Addr}{H H':Hp}{Wp:Value->Option Addr->Hp->Prop}{R:It->Hp->Prop}{o:Out (List D×(Store->Prop))}(x:Ext ae H ag H')(h:eP K mg Wp ae H R o):eP K mg Wp ag H' R o:=by
 cases o with
 |ok p S=>exact λaL aG J y w i=>h aL aG J (x.trans y) w i
 |ex e S=>exact λC dd aL aG y w r=>h C dd aL aG (x.trans y) w r
 |bad=>exact h
theorem eP.eD{K:PySem.W.Frag}{mg:Str->Option Value}{ae:List Addr}{H:Hp}{Wp:Value->Option Addr->Hp->Prop}{R:It->Hp->Prop}{o:Out D}{k:D->Store->Out (List D×(Store->Prop))}(h:eP K mg Wp ae H R (o.bind k)) :
  aM K mg Wp ae H (λv H1=>∃aA S1 d,Ext ae H aA H1/\aD K mg aA H1 S1/\Rep K mg aA H1 d v/\o=.ok d S1/\eP K mg Wp aA H1 R (k d S1)) o:=by
 cases o with
 |ok d S=>exact λv aL aG y w r=>⟨aL,S,d,y,w,r,rfl,eP.from y h⟩
 |ex e S=>exact h
 |bad=>exact h
theorem eP.nU{K:PySem.W.Frag}{mg:Str->Option Value}{ae:List Addr}{H:Hp}{Wp:Value->Option Addr->Hp->Prop}{R:It->Hp->Prop}{o:Out (List D)}{k:List D->Store->Out (List D×(Store->Prop))}(h:eP K mg Wp ae H R (o.bind k)) :
  dY K mg Wp ae H (λv H1=>∃aA S1 d,Ext ae H aA H1/\aD K mg aA H1 S1/\ak K mg aA H1 d v/\eP K mg Wp aA H1 R (k d S1)) o:=by
 cases o with
 |ok d S=>exact λv aL aG y w r=>⟨aL,S,d,y,w,r,eP.from y h⟩
 |ex e S=>exact h
 |bad=>exact h
theorem Ext.lock{ae:List Addr}{H:Hp}{d:Addr}{o:Obj}{kvs:List (Key×V)}(n:d∉ae)(h:H d=some (.dK kvs)):Ext ae H ae (upd H d (.frz o (.dK kvs))):=by
 refine⟨⟨[],by simp⟩,λa h n=>absurd h n,λa u iE h'=>?_⟩;by_cases q:a=d
 .subst q
  rw[h]at h';cases h';exact .inr ⟨⟨kvs,rfl⟩,o,upd_same⟩
 .exact .inl (by rw[upd_ne q];exact h')
theorem aD.lock{K:PySem.W.Frag}{mg:Str->Option Value}{ae:List Addr}{H:Hp}{S:Store}{d:Addr}{o:Obj}{kvs:List (Key×V)}(w:aD K mg ae H S)(n:d∉ae)(h:H d=some (.dK kvs)):aD K mg ae (upd H d (.frz o (.dK kvs))) S:=by
 have ne:∀a∈ae,a≠d:=λa ha q=>n (q▸ha);refine⟨w.len,w.nd,λa ha=>by rw[upd_ne (ne a ha)];exact w.tr a ha,λiE a m ao e2=>?_⟩;have ha:a∈ae:=mJ ao;exact hB.ext (Ext.lock n h) (upd_ne (ne a ha)) (w.ob iE a m ao e2)
theorem Lc{K:PySem.W.Frag}{mg:Str->Option Value}{ae:List Addr}{H:Hp}{d:Addr}{o:Obj}{kvs:List (Key×V)}(n:d∉ae)(h:H d=some (.frz o (.dK kvs))):tJ K mg (Itk d o kvs) (kvs.map λp=>kD p.1) (λ_=>True) ae H:=by
 have st:∀ag H',Ext ae H ag H'->H' d=some (.frz o (.dK kvs)):=λag H' x=>x.kept n h (by intros;nofun);refine⟨λi ag H' ah hi x w g=>⟨st ag H' x,by grind⟩,λag H' ah x w g=>⟨st ag H' x,by simp⟩,λi ag H' ah v aG hi x w g y=>?_⟩;obtain⟨rfl,k,u,e,ev⟩:=y;refine⟨kD k,by grind,Ext.refl,w,?_⟩;rw[ev];exact K6 k
theorem rv(he:E X W e f):q2 X W tg e (hS f):=by
 refine PI.imp (Ab (Ab (pi_list (tg:=tg) he) (pi_tup he)) (Ab (pi_str he) (Ab (TN he) (TU he)))) λσ H R ⟨ae,S,sl,w,rs,p⟩=>?_;have cw:=eP.eD p;cases q:f sl S with
 |bad=>rw[q]at cw;exact cw.elim
 |ex e S1=>exact .inl (.inl ⟨ae,S,sl,w,rs,by rw[q]at cw ⊢;exact cw⟩)
 |ok d S1 =>
  have key:∀(g:V->Hp->Prop),(∀v aA H1,aD X.K X.mg aA H1 S1->Rep X.K X.mg aA H1 d v->eP X.K X.mg (λC d H'=>W C d σ H') aA H1 R (ru d S1)->g v H1)->eN X.K X.mg W f σ H g:=λg hg=>⟨ae,S,sl,w,rs,aM.mono cw λv H1 ⟨aA,aeB,d',x1,aF,r1,eq,p1⟩=>by
    grind⟩
  have none_:dO S1 d=none->((∀ks vs,d≠.dct ks vs)/\∀w ks vs,d≠.dw w ks vs)->∀(v:V) aA H1,eP X.K X.mg (λC d H'=>W C d σ H') aA H1 R (ru d S1)->False:=λex hn v aA H1 p1=>by
   cases d with
   |dct ks vs=>grind
   |dw w ks vs=>grind
   |_=>simp only[ru,ex]at p1;exact p1
  have lst:((∀ks vs,d≠.dct ks vs)/\∀w ks vs,d≠.dw w ks vs)->(∀ys,d≠.tup ys/\d≠.bF ys)->(∀s,d≠.str s)->iList X.K (eN X.K X.mg W f) σ H R:=λh1 h2 aH=>by
   refine key _ λv aA H1 aF r1 p1=>?_;cases ex:dO S1 d with
   |none=>exact(none_ ex h1 v aA H1 p1).elim
   |some xs =>
    have kW:cH S1 d=some xs:=by
     cases d with
     |str s=>grind
     |_=>exact ex
    obtain⟨a,vs,ao,g1,_⟩:=pP aF r1 kW h2;have p2:eP X.K X.mg (λC d H'=>W C d σ H') aA H1 R (.ok (xs,λS2=>dO S2 d=some xs) S1):=by
     cases d with
     |dct ks vs=>grind
     |dw w ks vs=>grind
     |_=>simp only[ru,ex]at p1;exact p1
    refine⟨a,ao,⟨vs,g1⟩,om p2 aF (Ac (c:=.L a) (λag H' ah pK bT e8=>?_) rfl)⟩;have T3:cH ah d=some xs:=by
     cases d with
     |str s=>grind
     |_=>exact e8
    obtain⟨hR,dt,e2,bK,aE⟩:=pP bT (r1.ext pK) T3 h2;rw[ao]at e2;cases e2;exact⟨dt,bK,aE⟩
  cases d with
  |dct ks vs =>
   refine .inr (.inr (.inl (key _ λv aA H1 aF r1 p1=>?_)));have Ad:=r1;rw[Rep]at r1;obtain⟨a,bA,dt,ao,⟨n,kvs,t,gL,d9⟩,aE,cA⟩:=r1;subst gL d9;have ek:=wJ aE;refine⟨a,kvs,ao,?_⟩;have p1:eP X.K X.mg (λC d H'=>W C d σ H') aA H1 R (.ok (ks,λ_=>True) S1):=p1;rcases t with t|⟨o,t⟩
   .refine .inl ⟨t,λo=>?_⟩
    refine eP.from (Ext.lock n t) p1 aA _ _ Ext.refl (aF.lock n t) ?_;rw[ek];exact Lc n upd_same
   .refine .inr ⟨o,t,om p1 aF ?_⟩
    rw[ek];exact Lc n t
  |dw bT ks vs =>
   refine .inr (.inr (.inr (key _ λv aA H1 aF r1 p1=>?_)));have p1:eP X.K X.mg (λC d H'=>W C d σ H') aA H1 R (.ok (ks,λ_=>True) S1):=p1;rw[Rep]at r1;obtain⟨a,bA,dt,ao,⟨n,hs,es,t,⟨ns,n1,n2,Ld,_,Le,Ae,tZ,Lf⟩⟩,aE,cA⟩:=r1;exact⟨a,es,bA,ao,hs,t,Ae,om p1 aF (TX n t aE (by have:=Ae.length;grind))⟩
  |str s =>
   refine .inr (.inl (key _ λv aA H1 aF r1 p1=>?_));refine⟨s,eI r1,?_⟩;exact om (show eP X.K X.mg (λC d H'=>W C d σ H') aA H1 R (.ok (wR s,λS2=>dO S2 (.str s)=some (wR s)) S1)from p1) aF (Ac (c:=.S s) (λag H' ah pK bT e8=>⟨_,rfl,Fe _⟩) rfl)
  |tup ys =>
   refine .inl (.inr (key _ λv aA H1 aF r1 p1=>?_));have Ad:=r1;rw[Rep]at r1;obtain⟨a,vs,ao,t,aE⟩:=r1;refine⟨a,ao,⟨vs,t.dc⟩,?_⟩;refine om (show eP X.K X.mg (λC d H'=>W C d σ H') aA H1 R (.ok (ys,λS2=>dO S2 (.tup ys)=some ys) S1)from p1) aF (Ac (c:=.T a) (λag H' ah pK bT e8=>?_) rfl);have cA:=Ad.ext pK;rw[Rep]at cA;obtain⟨hR,dt,e2,t',dS⟩:=cA;rw[ao]at e2;cases e2;exact⟨dt,t'.dc,dS⟩
  |bF ys =>
   refine .inl (.inr (key _ λv aA H1 aF r1 p1=>?_));have Ad:=r1;rw[Rep]at r1;obtain⟨a,vs,ao,t,aE⟩:=r1;refine⟨a,ao,⟨vs,t.dc⟩,?_⟩;refine om (show eP X.K X.mg (λC d H'=>W C d σ H') aA H1 R (.ok (ys,λS2=>dO S2 (.bF ys)=some ys) S1)from p1) aF (Ac (c:=.T a) (λag H' ah pK bT e8=>?_) rfl);have cA:=Ad.ext pK;rw[Rep]at cA;obtain⟨hR,dt,e2,t',dS⟩:=cA;rw[ao]at e2;cases e2;exact⟨dt,t'.dc,dS⟩
  |_=>simp_all
def kX(lo:Int)(n:Nat):List D:=(List.range n).map fun(i:Nat)=>D.int (lo+i)
def kb(fa:c1):fS:=λsl S=>(fa sl S).bind λds S1=>match ds with
 |[.int j]=>if -(2 ^ 62)<=j/\j<2 ^ 62 then .ok (kX 0 j.toNat,λ_=>True) S1 else .bad
 |_=>.bad
theorem T4{K:PySem.W.Frag}{mg:Str->Option Value}{ae:List Addr}{H:Hp}(lo:Int)(n:Nat):tJ K mg (Itr lo n) (kX lo n) (λ_=>True) ae H:=by
 refine⟨λi ag H' ah hi x w g=>by show i<n;simpa[kX]using hi,λag H' ah x w g=>by show n<=_;simp[kX],λi ag H' ah v aG hi x w g y=>?_⟩;obtain⟨rfl,ev⟩:=y;have hi:i<n:=by simpa[kX]using hi
 exact⟨.int (lo+i),by simp[kX,hi],Ext.refl,w,by rw[ev];exact g5⟩
theorem t2(ha:gj X W [e] fa)(hg:Gl X "range")(hm:X.mg "range"=none)(hs:starEach [e] X.env=[(false,eval e X.env)]:=by rfl):q2 X W tg (.Call (.Name "range" p) [e] [] pos) (kb fa):=by
 refine PI.imp (pi_range1 hg hm ha hs) λσ H R ⟨ae,S,sl,w,rs,p⟩=>⟨ae,S,sl,w,rs,dY.mono (eP.nU p) λvs H1 ⟨aA,S1,ds,x1,aF,r1,p1⟩=>?_⟩
 split at p1
 .rename_i j
  split at p1
  .rename_i bH
   obtain⟨v,ao,aE⟩:=kR r1;rw[fh aE]at ao;exact⟨j,ao,bH.1,bH.2,om p1 aF (T4 0 _)⟩
  .exact p1.elim
 .exact p1.elim
def rx(xs ys:List D):List D:=List.zipWith (λx y=>.tup [x,y]) xs ys
def wU(fa:c1):fS:=λsl S=>(fa sl S).bind λds S1=>match ds with
 |[d,e]=>(match dO S1 d,dO S1 e with
  |some xs,some ys=>.ok (rx xs ys,λS2=>dO S2 d=some xs/\dO S2 e=some ys) S1
  |_,_=>.bad)
 |_=>.bad
theorem T5(ha:gj X W [e,e2] fa)(hg:Gl X "zip")(hm:X.mg "zip"=none)
  (hs:starEach [e,e2] X.env=(false,eval e X.env)::starEach [e2] X.env:=by rfl) (d8:(backTo pos (starEach [e2] X.env)).any (·.1)=false:=by rfl):q2 X W (.Tuple elts kk mZ) (.Call (.Name "zip" p) [e,e2] [] pos) (wU fa):=by
 refine PI.imp (S5 hg hm ha hs d8) λσ H R ⟨ae,S,sl,w,rs,p⟩=>⟨ae,S,sl,w,rs,dY.mono (eP.nU p) λvs H1 ⟨aA,S1,ds,x1,aF,r1,p1⟩=>?_⟩
 split at p1
 .rename_i d d'
  split at p1
  .rename_i xs ys ex di
   obtain⟨v,u,ao,aE,cA⟩:=SA r1;obtain⟨c,je,hc⟩:=Ff aF aE ex;obtain⟨bx,aeC,ry⟩:=Ff aF cA di;obtain⟨us,h1,_⟩:=hc aA H1 S1 xs Ext.refl aF ex;obtain⟨T6,i9,_⟩:=ry aA H1 S1 ys Ext.refl aF di;refine⟨c,bx,us,T6,by grind,h1,i9,om p1 aF ?_⟩;refine⟨λi ag H' ah hi x w g=>?_,λag H' ah x w g=>?_,λi ag H' ah v aG hi x w g y=>?_⟩
   .obtain⟨vs,bq,t1⟩:=hc ag H' ah xs x w g.1
    obtain⟨dt,bK,m6⟩:=ry ag H' ah ys x w g.2;simp only[rx,List.length_zipWith]at hi;have l1:=t1.len;have l2:=m6.len;exact⟨vs,dt,vs[i]'(by omega),dt[i]'(by omega),bq,bK,by simp,by simp⟩
   .obtain⟨vs,bq,t1⟩:=hc ag H' ah xs x w g.1
    obtain⟨dt,bK,m6⟩:=ry ag H' ah ys x w g.2;have l1:=t1.len;have l2:=m6.len;refine⟨vs,dt,bq,bK,?_⟩;simp only[rx,List.length_zipWith];omega
   .obtain⟨vs,bq,t1⟩:=hc ag H' ah xs x w g.1
    obtain⟨dt,bK,m6⟩:=ry ag H' ah ys x w g.2;obtain⟨T,a,b,ev,d_,rfl,y1,Lg⟩:=y;obtain⟨nX,g1,dz⟩:=t1.get' (y1 vs bq);obtain⟨t4,g2,ck⟩:=m6.get' (Lg dt bK);refine⟨.tup [nX,t4],by simp[rx,List.getElem?_zipWith,g1,g2],Ext.g0 d_,w.g0 d_,?_⟩;rw[Rep];exact⟨T,_,ev,.inl ⟨w.nin d_,upd_same⟩,ak.cons (dz.ext (Ext.g0 d_)) (ak.cons (ck.ext (Ext.g0 d_)) ak.nil)⟩
  .exact p1.elim
 .exact p1.elim
def lT:Nat->List D->List D
 |_,[]=>[]
 |i,x::xs=>.tup [.int i,x]::lT (i+1) xs
theorem Fg:∀(i:Nat) (xs:List D),(lT i xs).length=xs.length
 |_,[]=>rfl
 |i,x::xs=>by rw[lT,j1,j1,Fg]
theorem Lh:∀(i:Nat) (xs:List D) (j:Nat),(lT i xs)[j]?=xs[j]?.map λx=>.tup [.int ((i+j:Nat):Int),x]
 |_,[],j=>by simp[lT]
 |i,x::xs,0=>by simp[lT]
 |i,x::xs,j+1=>by
  rw[lT,Dd,Dd,Lh];grind
def oo(fa:c1):fS:=λsl S=>(fa sl S).bind λds S1=>match ds with
 |[d]=>(match dO S1 d with
  |some xs=>.ok (lT 0 xs,λS2=>dO S2 d=some xs) S1
  |_=>.bad)
 |_=>.bad
theorem Li(ha:gj X W [e] fa)(hg:Gl X "enumerate")(hm:X.mg "enumerate"=none)(hs:starEach [e] X.env=[(false,eval e X.env)]:=by rfl):q2 X W (.Tuple elts kk mZ) (.Call (.Name "enumerate" p) [e] [] pos) (oo fa):=by
 refine PI.imp (Tf hg hm ha hs) λσ H R ⟨ae,S,sl,w,rs,p⟩=>⟨ae,S,sl,w,rs,dY.mono (eP.nU p) λvs H1 ⟨aA,S1,ds,x1,aF,r1,p1⟩=>?_⟩
 split at p1
 .rename_i d
  split at p1
  .rename_i xs ex
   obtain⟨v,ao,aE⟩:=kR r1;obtain⟨c,je,hc⟩:=Ff aF aE ex;obtain⟨us,h1,_⟩:=hc aA H1 S1 xs Ext.refl aF ex;refine⟨c,us,by rw[ao,je],h1,om p1 aF ?_⟩;refine⟨λi ag H' ah hi x w g=>?_,λag H' ah x w g=>?_,λi ag H' ah v aG hi x w g y=>?_⟩
   .obtain⟨vs,bq,t1⟩:=hc ag H' ah xs x w g
    rw[Fg]at hi;exact⟨vs,vs[i]'(by rw[<-t1.len];exact hi),bq,by simp⟩
   .obtain⟨vs,bq,t1⟩:=hc ag H' ah xs x w g
    exact⟨vs,bq,by rw[Fg,t1.len]⟩
   .obtain⟨vs,bq,t1⟩:=hc ag H' ah xs x w g
    obtain⟨T,a,ev,d_,rfl,y1⟩:=y;obtain⟨nX,g1,dz⟩:=t1.get' (y1 vs bq);refine⟨.tup [.int ((0+i:Nat):Int),nX],by rw[Lh,g1];rfl,Ext.g0 d_,w.g0 d_,?_⟩;rw[Rep];exact⟨T,_,ev,.inl ⟨w.nin d_,upd_same⟩,ak.cons (by rw[vy];exact g5) (ak.cons (dz.ext (Ext.g0 d_)) ak.nil)⟩
  .exact p1.elim
 .exact p1.elim
end
def cD(sl:aJ):List Nat->aJ
 |[]=>sl
 |v::vs=>(cD sl vs).set v none
theorem Lj(sl:aJ):∀vs,(cD sl vs).length=sl.length
 |[]=>rfl
 |v::vs=>by rw[cD,List.length_set,Lj]
theorem Af{σ:L2.St}{i:Nat}{x:Option V}:∀{vs:List Nat},i∈vs->wipe (σ.set i x) vs=wipe σ vs
 |v::vs,h=>by
  rw[wipe,wipe];by_cases hi:i=v
  .subst hi
   by_cases bB:i∈vs
   .rw[Af bB]
   .have:∀ws:List Nat,i∉ws->wipe (σ.set i x) ws=(wipe σ ws).set i x:=by
     intro ws
     induction ws with
     |nil=>intro _;rfl
     |cons w ws ih =>
      intro hn;rw[wipe,wipe,ih (λq=>hn (qM _ q))];exact List.set_comm _ _ (λq=>hn (by grind))
    simp_all
  .rw[Af (by grind)]
theorem Ag{σ:L2.St}:∀{vs us:List Nat},(∀v∈us,v∈vs)->wipe (wipe σ us) vs=wipe σ vs
 |vs,[],_=>rfl
 |vs,u::us,h=>by
  rw[show wipe σ (u::us)=(wipe σ us).set u none from rfl,Af (h u vz)];exact Ag λv bB=>h v (qM _ bB)
theorem bM.wipe{K:PySem.W.Frag}{mg:Str->Option Value}{ae:List Addr}{H:Hp}{σ:L2.St}{sl:aJ}(r:bM K mg ae H σ sl):∀vs:List Nat,bM K mg ae H (L2.wipe σ vs) (cD sl vs)
 |[]=>r
 |v::vs=>by
  have ih:=bM.wipe r vs;refine⟨by rw[wipe_length,Lj];exact r.len,λj d e=>?_⟩;rw[cD]at e;rw[L2.wipe];by_cases bH:v=j
  .grind
  .rw[nL bH]at e ⊢
   exact ih.at_ j d e
def Ah(K:PySem.W.Frag)(mg:Str->Option Value)(W:WX)(vs:List Nat)(g8:L2.St)(g:cX):TG:=λv σ H Q=>∃ae S sl d,aD K mg ae H S/\bM K mg ae H σ sl/\Rep K mg ae H d v/\L2.wipe σ vs=g8/\bj K mg W ae H ⟨λbg H'=>L2.wipe bg vs=g8->Q bg H',λ_ _=>False,λ_ _=>False,λ_ _=>False⟩ (g d sl S)
def T7(K:PySem.W.Frag)(mg:Str->Option Value)(W:WX)(vs:List Nat)(g8:L2.St)(g:gJ):TGs:=λv σ H Q=>∃ae S sl d,aD K mg ae H S/\bM K mg ae H σ sl/\ak K mg ae H d v/\L2.wipe σ vs=g8/\bj K mg W ae H ⟨λbg H'=>L2.wipe bg vs=g8->Q bg H',λ_ _=>False,λ_ _=>False,λ_ _=>False⟩ (g d sl S)
def m7(X:Cx)(W:WX)(vs:List Nat)(tg:Expr)(g:cX):Prop:=∀g8,PG X tg (Ah X.K X.mg W vs g8 g)
def Ai(X:Cx)(W:WX)(vs:List Nat)(tg:List Expr)(g:gJ):Prop:=∀g8,PGs X tg (T7 X.K X.mg W vs g8 g)
section
variable{X:Cx}{W:WX}{vs:List Nat}{pos:Pos}
theorem gM{i:Nat}{x:Str}(eF:X.N.Nodup)(hi:X.N[i]?=some x:=by rfl)(hx:Loc X.env.scope x:=by first|exact Or.inl rfl|exact Or.inr rfl)(hf:X.fn x=true\/X.env.scope.names.lookup x=some .local:=by first|exact .inl rfl|exact .inr rfl)(bB:i∈vs:=by decide):m7 X W vs (.Name x pos) (aV i):=λg8 =>
 PG.imp (pg_name eF hi hx hf) λv σ H Q ⟨ae,S,sl,d,w,rs,aO,m8,p⟩=>p _ ae H Ext.refl w (rs.set aO i) (by rw[Af bB];exact m8)
theorem Aj:Ai X W vs [] e':=λg8=>PGs.imp pgs_nil λv σ H Q ⟨ae,S,sl,ds,w,rs,aO,m8,p⟩=>by
 cases ds with
 |nil =>
  rw[ak]at aO;exact⟨aO,p _ ae H Ext.refl w rs m8⟩
 |cons d r=>exact p.elim
theorem pT{t:Expr}{ts:List Expr}{g:cX}{gs:gJ}(h:m7 X W vs t g)(hr:Ai X W vs ts gs)(hs:(assignEach (t::ts) X.env).map (·.2)=assign t X.env::(assignEach ts X.env).map (·.2):=by rfl):Ai X W vs (t::ts) (cL g gs):=λg8 =>
 PGs.imp (pgs_cons (h g8) (hr g8) hs) λv σ H Q ⟨ae,S,sl,ds,w,rs,aO,m8,p⟩=>by
  cases ds with
  |nil=>exact p.elim
  |cons d r =>
   rw[ak]at aO;obtain⟨v1,Ed,e,h1,h2⟩:=aO;subst e;refine⟨v1,Ed,rfl,ae,S,sl,d,w,rs,h1,m8,?_⟩;have p:bj X.K X.mg W ae H ⟨λbg H'=>L2.wipe bg vs=g8->Q bg H',λ_ _=>False,λ_ _=>False,λ_ _=>False⟩ ((g d sl S).then (gs r)):=p;cases q:g d sl S with
   |nx a7 S1 =>
    rw[q]at p;exact λh8 aA H1 x1 aF r1 ao=>⟨aA,S1,a7,r,aF,r1,h2.ext x1,ao,bj.from x1 p⟩
   |bk a7 S1=>rw[q]at p;exact p
   |ct a7 S1=>rw[q]at p;exact p
   |rt nX S1=>rw[q]at p;exact p
   |ex ao a7 S1=>rw[q]at p;exact p
   |bad=>rw[q]at p;exact p
theorem Ak{es:List Expr}{k:Nat}{gs:gJ}{n:Nat}(hc:X.calm=true)(h:Ai X W vs es gs)(hl:∀ds sl S,gs ds sl S≠.bad->ds.length=n)(hn:(assignEach es X.env).length=n:=by rfl)(h9:(assignEach es X.env).findIdx? (·.1)=none:=by rfl):m7 X W vs (.Tuple es k pos) (fy gs):=λg8 =>
 PG.imp (pg_tup hc (h g8) hn h9) λv σ H Q ⟨ae,S,sl,d,w,rs,aO,m8,p⟩=>by
  cases d with
  |tup ds =>
   rw[Rep]at aO;obtain⟨a,us,e,t,r⟩:=aO;have p:bj X.K X.mg W ae H ⟨λbg H'=>L2.wipe bg vs=g8->Q bg H',λ_ _=>False,λ_ _=>False,λ_ _=>False⟩ (gs ds sl S):=p;exact⟨a,us,e,t.dc,by rw[<-r.len];exact hl ds sl S (λq=>by rw[q]at p;exact p),ae,S,sl,ds,w,rs,r,m8,p⟩
  |bF ds =>
   rw[Rep]at aO;obtain⟨a,us,e,t,r⟩:=aO;have p:bj X.K X.mg W ae H ⟨λbg H'=>L2.wipe bg vs=g8->Q bg H',λ_ _=>False,λ_ _=>False,λ_ _=>False⟩ (gs ds sl S):=p;exact⟨a,us,e,t.dc,by rw[<-r.len];exact hl ds sl S (λq=>by rw[q]at p;exact p),ae,S,sl,ds,w,rs,r,m8,p⟩
  |_=>exact p.elim
def dA:b9:=λ_ S=>.ok true S
def rz(X:Cx)(W:WX)(ifs:List Expr)(f:b9):Prop:=PTs X ifs (pw X.K X.mg W f)
theorem PTs.imp{ifs:List Expr}{t t':TT}(h:PTs X ifs t)(k:∀σ H Q,t' σ H Q->t σ H Q):PTs X ifs t':=⟨λpins s σ H Q I q=>h.run pins s σ H Q I (k σ H Q q)⟩
theorem jM:rz X W [] dA:=PTs.imp pts_nil λσ H Q ⟨ae,S,sl,w,rs,p⟩=>p ae H Ext.refl w
theorem Lk{c:Expr}{f:b9}(h:h4 X W c f):rz X W [c] f:=pts_one h
end
def WF:WX:=λ_ _ _ _=>False
def g9(G:Store->Prop)(g:cX)(bt:b9)(fe:aQ)(n:Nat)(sl:aJ):List D->Store->Out Unit
 |[],S=>open Classical in if G S then .ok () S else .bad
 |x::xs,S=>open Classical in if G S then(match g x sl S with
  | .nx a7 S1=>(match bt a7 S1 with
   | .ok true S2=>(match fe a7 S2 with
    | .ok d aX=>(match aX[n]? with
     |some (.lst acc)=>if acc.length<1000000 then g9 G g bt fe n sl xs (aX.set n (.lst (acc++[d])))else .bad
     |_=>.bad)
    |_=>.bad)
   | .ok false S2=>g9 G g bt fe n sl xs S2
   |_=>.bad)
  |_=>.bad)else .bad
def cO(it:fS)(g:cX)(bt:b9)(fe:aQ)(own:List Nat):aQ:=λsl S=>(it sl S).bind λp S1=>(g9 p.2 g bt fe S1.length (cD sl own) p.1 (S1++[.lst []])).bind λ_ S2=>.ok (.ptr S1.length) S2
section
variable{X:Cx}{W:WX}{pos:Pos}
theorem T8{it:fS}{g:cX}{bt:b9}{fe:aQ}{own:List Nat}{K:PySem.W.Frag}{mg:Str->Option Value}{σ:L2.St}{H:Hp}{Q:VK}(h:eN K mg W (cO it g bt fe own) σ H Q) :
  tLc (wu K mg W it) (Ah K mg WF own (L2.wipe σ own) g) (pw K mg WF bt) (eN K mg WF fe) own σ H Q:=by
 obtain⟨ae,S,sl,w,rs,p⟩:=h;refine⟨ae,S,sl,w,rs,?_⟩;have p:aM K mg (λC d H'=>W C d σ H') ae H Q ((it sl S).bind λp S1=>(g9 p.2 g bt fe S1.length (cD sl own) p.1 (S1++[.lst []])).bind λ_ S2=>.ok (.ptr S1.length) S2):=p;cases q:it sl S with
 |bad=>rw[q]at p;exact p
 |ex e S1=>rw[q]at p;exact p
 |ok pr S1 =>
  rw[q]at p;obtain⟨xs,G⟩:=pr;intro aA H1 J x1 aF q3 D bL;have p1:aM K mg (λC d H'=>W C d σ H') aA H1 Q ((g9 G g bt fe S1.length (cD sl own) xs (S1++[.lst []])).bind λ_ S2=>.ok (.ptr S1.length) S2):=aM.from x1 p;have x2:Ext aA H1 (aA++[D]) (upd H1 D (.lst [])):=Ext.hand bL;have cz:aD K mg (aA++[D]) (upd H1 D (.lst [])) (S1++[.lst []]):=aF.hand bL ⟨[],upd_same,ak.nil⟩;have E8:bM K mg (aA++[D]) (upd H1 D (.lst [])) (L2.wipe σ own) (cD sl own):=((rs.ext x1).ext x2).wipe own;have wV:(aA++[D])[S1.length]?=some D:=by rw[<-aF.len];simp
  refine⟨λi m H'=>i+m=xs.length/\∃ag ah,Ext (aA++[D]) (upd H1 D (.lst [])) ag H'/\aD K mg ag H' ah/\aM K mg (λC d H'=>W C d σ H') ag H' Q ((g9 G g bt fe S1.length (cD sl own) (xs.drop i) ah).bind λ_ S2=>.ok (.ptr S1.length) S2),
   ⟨xs.length,by simp,aA++[D],_,Ext.refl,cz,aM.from x2 (by grind)⟩,?_⟩
  rintro i m cF ⟨hm,e9,aX,cq,eO,bG⟩;cases m with
  |zero =>
   have hi:i=xs.length:=by omega
   subst hi;rw[y3,g9]at bG;by_cases a8:G aX
   .rw[if_pos a8]at bG
    refine .inl ⟨q3.stop e9 cF aX (x2.trans cq) eO a8,?_⟩;exact b5 (d:=.ptr S1.length) bG eO (by rw[Rep];exact⟨D,rfl,cq.get wV⟩)
   .rw[if_neg a8]at bG;exact bG.elim
  |succ m =>
   have cC:i<xs.length:=by omega
   have hd:xs.drop i=xs[i]::xs.drop (i+1):=(y4 cC).symm;rw[hd,g9]at bG;by_cases a8:G aX
   .rw[if_pos a8]at bG
    refine .inr ⟨q3.go i e9 cF aX cC (x2.trans cq) eO a8,λH'=>∃ag ah,Ext (aA++[D]) (upd H1 D (.lst [])) ag H'/\aD K mg ag H' ah/\aM K mg (λC d H'=>W C d σ H') ag H' Q ((g9 G g bt fe S1.length (cD sl own) (xs.drop (i+1)) ah).bind λ_ S2=>.ok (.ptr S1.length) S2),λH' n=>⟨m,mL m,by omega,n⟩,?_⟩;intro v dJ y;obtain⟨d,e,cR,jF,dS⟩:=q3.yld i e9 cF aX v dJ cC (x2.trans cq) eO a8 y;have ed:d=xs[i]:=by rw[hy cC]at e;exact(eY e).symm
    subst ed;refine⟨e9,aX,cD sl own,xs[i],jF,(E8.ext (cq.trans cR)),dS,Ag (λ_ h=>h),?_⟩;cases bq:g xs[i] (cD sl own) aX with
    |nx gK cY =>
     rw[bq]at bG;simp only at bG;intro q4 j8 mS dZ i' iH e5;refine⟨e5,j8,cY,gK,i',iH,?_⟩;have Ln:=(cq.trans cR).trans dZ;have cx:=aM.from (cR.trans dZ) bG;cases bK:bt gK cY with
     |bad=>rw[bK]at cx;exact cx.elim
     |ex e jg=>rw[bK]at cx;exact cx.elim
     |ok b jg =>
      rw[bK]at cx;intro g_ e0 du kc;have de:=aM.from du cx;cases b with
      |false =>
       rw[if_neg jy];exact⟨g_,jg,Ln.trans du,kc,de⟩
      |true =>
       rw[if_pos rfl];refine⟨g_,jg,gK,kc,iH.ext du,?_⟩;simp only at de;cases gN:fe gK jg with
       |bad=>rw[gN]at de;exact de.elim
       |ex e fC=>rw[gN]at de;exact de.elim
       |ok Lp fC =>
        rw[gN]at de;intro T9 df bS d0 kY jN;have gu:=aM.from d0 de;simp only at gu;have Lq:=(Ln.trans du).trans d0;have Fh:=Lq.get wV;split at gu
        .rename_i acc ea
         split at gu
         .rename_i hl
          obtain⟨us,h1,ra⟩:=kY.ob S1.length D _ Fh ea;refine⟨us,h1,by rw[<-ra.len];have:=h6 (n:=acc.length+1) (by omega);omega,?_⟩;have hx:Ext df bS df (upd bS D (.lst (us++[T9]))):=Ext.putL Fh;exact⟨df,_,Lq.trans hx,kY.put (m:=.lst (acc++[Lp])) Fh ⟨_,upd_same,(ra.append (ak.cons jN ak.nil)).ext hx⟩,aM.from hx gu⟩
         .exact gu.elim
        .exact gu.elim
    |bk jI bV=>rw[bq]at bG;exact bG.elim
    |ct jI bV=>rw[bq]at bG;exact bG.elim
    |rt Eh bV=>rw[bq]at bG;exact bG.elim
    |ex fz jI bV=>rw[bq]at bG;exact bG.elim
    |bad=>rw[bq]at bG;exact bG.elim
   .rw[if_neg a8]at bG;exact bG.elim
variable{elt tg iter:Expr}{ifs:List Expr}{scope:Scope}{own:List (Str×Nat)}{it:fS}{g:cX}{bt:b9}{fe:aQ}
theorem T_{Am:TI}{g1 g2:TG}{tt:TT}{te:TE}{vs:List Nat}{σ:L2.St}{H:Hp}{Q:VK}(k:∀x H' fR,g1 x (L2.wipe σ vs) H' fR->g2 x (L2.wipe σ vs) H' fR)(kw:∀H R m9,(∀J H1,R J H1->m9 J H1)->Am σ H R->Am σ H m9)(h:tLc Am g1 tt te vs σ H Q):tLc Am g2 tt te vs σ H Q:=by
 refine kw H _ _ (λJ H1 h D bL=>?_) h;obtain⟨W,h0,hs⟩:=h D bL;refine⟨W,h0,λi m H' hw=>?_⟩;rcases hs i m H' hw with h|⟨hg,T',h1,h2⟩
 .exact .inl h
 .exact .inr ⟨hg,T',h1,λx aG y=>k _ _ _ (h2 x aG y)⟩
def Fi(K:PySem.W.Frag)(mg:Str->Option Value)(W:WX)(vs:List Nat)(g:cX):TG:=λv σ H Q=>Ah K mg W vs (L2.wipe σ vs) g v σ H Q
theorem m7.all{X:Cx}{W:WX}{vs:List Nat}{tg:Expr}{g:cX}(h:m7 X W vs tg g):PG X tg (Fi X.K X.mg W vs g):=⟨λpins s σ H v u Q I r q=>(h (L2.wipe σ vs)).run pins s σ H v u Q I r q⟩
theorem Ua{K:PySem.W.Frag}{mg:Str->Option Value}{it:fS}{σ:L2.St}(H:Hp)(R m9:It->Hp->Prop)(k:∀J H1,R J H1->m9 J H1)(h:wu K mg W it σ H R):wu K mg W it σ H m9:=by
 obtain⟨ae,S,sl,w,rs,p⟩:=h;refine⟨ae,S,sl,w,rs,?_⟩;cases q:it sl S with
 |bad=>rw[q]at p;exact p
 |ex e S1=>rw[q]at p;exact p
 |ok pr S1=>rw[q]at p;exact λag H' J x w i=>k _ _ (p ag H' J x w i)
theorem Lr{K:PySem.W.Frag}{mg:Str->Option Value}{vs:List Nat}{σ:L2.St}{H:Hp}{Q:VK}(h:eN K mg W (cO it g bt fe vs) σ H Q):tLc (wu K mg W it) (Fi K mg WF vs g) (pw K mg WF bt) (eN K mg WF fe) vs σ H Q:=by
 refine T_ (λx H' fR q=>?_) (λH R m9 k h=>Ua H R m9 k h) (T8 h);unfold Fi;rw[Ag (λ_ h=>h)];exact q
theorem oq(hc:X.calm=true)(eF:X.N.Nodup)(ok:BlkOk X.N X.env.scope scope own)(hi:q2 X W tg iter it)
  (hg:∀(s:Shared) (H:Hp) (C:Addr) (cl:List (Str×Addr)) (fp:List Addr),m7 (X.blk s H scope (compEnvC scope cl C X.env) fp) WF (own.map (·.2)) tg g) (ht:∀(s:Shared) (H:Hp) (C:Addr) (cl:List (Str×Addr)) (fp:List Addr),rz (X.blk s H scope (compEnvC scope cl C X.env) fp) WF ifs bt)
  (he:∀(s:Shared) (H:Hp) (C:Addr) (cl:List (Str×Addr)) (fp:List Addr),E (X.blk s H scope (compEnvC scope cl C X.env) fp) WF elt fe) (hs:∀x,foldedSetIterable iter X.env x=pure x:=by intro _;rfl) :
  E X W (.ListComp elt [⟨tg,iter,ifs,0⟩] scope pos) (cO it g bt fe (own.map (·.2))) :=
 PE.imp (pe_lc (tt:=pw X.K X.mg WF bt) (te:=eN X.K X.mg WF fe) hc eF hi ok (λs H C cl fp=>(hg s H C cl fp).all) ht he hs) λσ H Q h=>Lr h
def cP(f:aQ):aQ:=λsl S=>fin S (f sl S)
theorem lU{e:Expr}{f:aQ}(h:E X W e f):E X W e (cP f):=PE.imp h λσ H Q ⟨ae,S,sl,w,rs,p⟩=>⟨ae,S,sl,w,rs,zS w p⟩
end
def An(K:PySem.W.Frag)(mg:Str->Option Value)(g:aK):Sp:=λvs H Q E=>∃ae S ds,aD K mg ae H S/\ak K mg ae H ds vs/\aM K mg E ae H Q (g ds S)
abbrev bz(P:Program)(w:World)(K:PySem.W.Frag)(mg:Str->Option Value)(base:Heap)(k:Nat)(f:Addr)(g:aK):Prop:=FnR P w K mg base (Z.CX P w) k f (An K mg g)
def pU(N:Nat)(body:SX):aK:=λds S=>(body (ds.map some++List.replicate (N - ds.length) none) S).out
section
variable{P:Program}{w:World}{K:PySem.W.Frag}{mg:Str->Option Value}{base:Heap}
def dV(n:Nat)(g:aK):aK:=λds S=>if ds.length=n then g ds S else .bad
theorem pV{f:Addr}{fd:FuncData}{ps:List Str}{k n:Nat}{g:aK}(F:FnOk P w K mg base (Z.CX P w) k f fd ps (hI K mg n g))(hb:Binds K fd ps []):bz P w K mg base k f (dV n g) :=
 (F.raw hb .nil).imp λvs H Q E ⟨ae,S,ds,dN,r,p⟩=>by
  unfold dV at p;split at p
  .rename_i hl
   exact⟨ae,S,ds,hl,dN,by grind,p⟩
  .exact p.elim
end
theorem rA{X:Cx}:Takes X WF:=λu s' ⟨_,_,_,_,_,_,_,_,_,_,_,_,_,_,_,_,w⟩=>w.elim
section
variable{X:Cx}{W:WX}{k:Nat}{f C:Addr}{g:aK}{x m:Str}{p pos:Pos}{e o:Expr}{es:List Expr}{fa:c1}{fo fe:aQ}
theorem Ub{pins:List (Addr×Obj)}{σ:L2.St}{H:Hp}{s:Shared}{Q:VK}{us:List Value}{vs:List V}{sp:Sp}{E:XK}(F:FnR X.prog X.w X.K X.mg X.base (Z.CX X.prog X.w) k f sp)(hr:Room k X.A)(hx:PassesAt (Z.CX X.prog X.w) X σ E)(I:Inv X pins σ H s)(r:Vals vs us)(h:sp vs H Q E) :
  wpAny (model X.prog X.w) X.A (PySem.call (.ref f) us) (EP X pins σ Q) X.xe s:=by
 refine wpAny_call (codeAny_mono (F X.A X.stack s H us vs Q E hr I.env0 r h) λr s' hq=>?_);cases r with
 |error e=>exact hx pins H s e s' I hq
 |ok fl =>
  cases fl with
  |ret u=>exact I.after hq
  |next=>exact False.elim hq
  |brk=>exact False.elim hq
  |cont=>exact False.elim hq
theorem cu(tk:Takes X W)(F:bz X.prog X.w X.K X.mg X.base k f g)(hr:Room k X.A)(hm:X.mg x=some (.ref f))(hk:PySem.W.keepIn X.K (.ref f)=true)
  (ha:gj X W (e::es) fa) (hg:Gl X x:=by rfl) (hD:(x==("__debug__":Str))=false:=by decide) (he:starEach (e::es) X.env=(false,eval e X.env)::starEach es X.env:=by rfl) (d8:(backTo pos (starEach es X.env)).any (·.1)=false:=by rfl) :
  E X W (.Call (.Name x p) (e::es) [] pos) (az g fa):=by
 refine⟨λpins s σ H Q I h=>?_⟩;refine wpAny_Call_Name_kw (ld_glob I hg hm ?_ hD);have h':=qX (k:=λvs H1=>An X.K X.mg g vs H1 Q (WE W σ)) h λae S H1 ds vs w r p=>⟨ae,S,ds,w,r,p⟩
 refine vA (h₀:=X.base) I.ok.mod.kin hk (thn (ha.run pos pins s σ H _ I h') λus s1 ⟨vs,H1,I1,r,q⟩=>⟨I1.kIn,?_⟩) he d8;exact Ub F hr (wy tk σ) I1 r q
def pW(tab:List (Str×aK))(c:Str):Option aK:=tab.lookup c
def t5(c:Str)(g:aK):aK:=λds S1=>(g (.ptr S1.length::ds) (S1++[.ins c [] []])).bind λd S2=>match d with
 | .non=>.ok (.ptr S1.length) S2
 |_=>.bad
theorem Uc{c:Str}{pins:List (Addr×Obj)}{σ:L2.St}{ae:List Addr}{H:Hp}{S:Store}{ds:List D}{s:Shared}{Q:VK}{us:List Value}{vs:List V}{E:XK}(M:Mk X.K C f)(Ud:X.mg c=some (.ref C))(F:bz X.prog X.w X.K X.mg X.base k f g)(hr:Room (k+1) X.A)(hx:PassesAt (Z.CX X.prog X.w) X σ E)(I:Inv X pins σ H s)(r:Vals vs us)
  (dN:aD X.K X.mg ae H S) (cS:ak X.K X.mg ae H ds vs) (p:aM X.K X.mg E ae H Q (t5 c g ds S)) :
  wpAny (model X.prog X.w) X.A (PySem.call (.ref C) us) (EP X pins σ Q) X.xe s:=by
 have rr:H (s.heap.objs.size+1)=none:=I.hok.fresh (Nat.le_succ _);have Ls:H s.heap.objs.size=none:=I.hok.fresh (dE _);have hE:s.heap.objs.size≠s.heap.objs.size+1:=fO (mL _);have I2:=Inv.made (C:=C) I;have lS:(upd H s.heap.objs.size (.own (s.heap.objs.size+1))) (s.heap.objs.size+1)=none:=by rw[upd_ne hE.symm];exact rr
 have x1:Ext ae H ae (upd H s.heap.objs.size (.own (s.heap.objs.size+1))):=Ext.g0 Ls;have aF:aD X.K X.mg ae (upd H s.heap.objs.size (.own (s.heap.objs.size+1))) S:=dN.g0 Ls;have x2:=x1.trans (Ext.hand (o:=.ins C s.heap.objs.size []) lS);have cz:aD X.K X.mg (ae++[s.heap.objs.size+1]) (upd (upd H s.heap.objs.size (.own (s.heap.objs.size+1))) (s.heap.objs.size+1) (.ins C s.heap.objs.size [])) (S++[.ins c [] []]):=aF.hand lS ⟨C,s.heap.objs.size,[],Ud,upd_same,rfl,ak.nil⟩;have rp:Rep X.K X.mg (ae++[s.heap.objs.size+1]) (upd (upd H s.heap.objs.size (.own (s.heap.objs.size+1))) (s.heap.objs.size+1) (.ins C s.heap.objs.size [])) (.ptr S.length) (.ref (s.heap.objs.size+1)):=by
  rw[Rep];exact⟨_,rfl,by rw[<-dN.len];simp⟩
 have hq:An X.K X.mg g (.ref (s.heap.objs.size+1)::vs) (upd (upd H s.heap.objs.size (.own (s.heap.objs.size+1))) (s.heap.objs.size+1) (.ins C s.heap.objs.size [])) (λv aG=>v=.non/\Q (.ref (s.heap.objs.size+1)) aG) E:=by
  refine⟨_,_,.ptr S.length::ds,cz,ak.cons rp (cS.ext x2),?_⟩;have cw:=aM.eD (aM.from x2 p);refine aM.mono cw λv cF ⟨e9,aX,d,cq,eO,cA,_,bG⟩=>?_;cases d with
  |non=>exact⟨lO cA,b5 bG eO (rp.ext cq)⟩
  |_=>exact bG.elim
 refine wpAny_call (make_map (f:=f) I.kIn M.makes M.init (beq_iff_eq.mp M.fn) (codeAny_mono (F _ X.stack _ _ (Value.ref (s.heap.objs.size+1)::us) _ _ E (hr.make C us []) (I2.env0.make C us []) (show Vals (V.ref (s.heap.objs.size+1)::vs) (Value.ref (s.heap.objs.size+1)::us)from .cons rfl r) hq) λr s' wW=>?_));cases r with
 |error e=>exact hx pins _ _ e s' I2 wW
 |ok fl =>
  cases fl with
  |ret u =>
   obtain⟨v,H',g',aO,ev,gN⟩:=I2.after wW;subst ev;exact⟨aO,⟨V.ref (s.heap.objs.size+1),H',g',rfl,gN⟩⟩
  |next=>exact False.elim wW
  |brk=>exact False.elim wW
  |cont=>exact False.elim wW
theorem Ue(tk:Takes X W)(M:Mk X.K C f)(F:bz X.prog X.w X.K X.mg X.base k f g)(hr:Room (k+1) X.A)(hm:X.mg x=some (.ref C))(ha:gj X W (e::es) fa)(hg:Gl X x:=by rfl)
  (hD:(x==("__debug__":Str))=false:=by decide) (he:starEach (e::es) X.env=(false,eval e X.env)::starEach es X.env:=by rfl) (d8:(backTo pos (starEach es X.env)).any (·.1)=false:=by rfl) :
  E X W (.Call (.Name x p) (e::es) [] pos) (az (t5 x g) fa):=by
 refine⟨λpins s σ H Q I h=>?_⟩;refine wpAny_Call_Name_kw (ld_glob I hg hm ?_ hD);have h':=qX (k:=λvs H1=>∃ae S ds,aD X.K X.mg ae H1 S/\ak X.K X.mg ae H1 ds vs/\aM X.K X.mg (WE W σ) ae H1 Q (t5 x g ds S)) h λae S H1 ds vs w r p=>⟨ae,S,ds,w,r,p⟩
 refine vA (h₀:=X.base) I.ok.mod.kin M.kp (thn (ha.run pos pins s σ H _ I h') λus s1 ⟨vs,H1,I1,r,aA,S1,ds,aF,cS,q⟩=>⟨I1.kIn,?_⟩) he d8;exact Uc M hm F hr (wy tk σ) I1 r aF cS q
def jO(f:Str)(d:D):List Str->List D->List Str×List D
 |n::ns,v::vs=>if n=f then(n::ns,d::vs)else(n::(jO f d ns vs).1,v::(jO f d ns vs).2)
 |_,_=>([f],[d])
theorem Lv{K:PySem.W.Frag}{mg:Str->Option Value}{ae:List Addr}{H:Hp}{f:Str}{d:D}{v:V}(h:Rep K mg ae H d v):∀{fs:List (Str×V)} {ns:List Str} {ds:List D},fs.map (·.1)=ns->ak K mg ae H ds (fs.map (·.2)) ->
  (putF f v fs).map (·.1)=(jO f d ns ds).1/\ak K mg ae H (jO f d ns ds).2 ((putF f v fs).map (·.2))
 |[],_,ds,e,r=>by
  simp only[vx]at e r;subst e;exact⟨by rfl,by cases ds<;>exact ak.cons h ak.nil⟩
 |(n,u)::fs,_,[],e,r=>by simp only[dD]at r;rw[ak]at r;cases r
 |(n,u)::fs,_,d'::ds,e,r=>by
  simp only[dD]at e r;subst e;rw[ak]at r;obtain⟨qS,bN,cE,h1,h2⟩:=r;injection cE with ao e2
  subst ao e2;unfold putF jO;by_cases q:n=f
  .rw[if_pos q,if_pos q]
   exact⟨rfl,ak.cons h h2⟩
  .rw[if_neg q,if_neg q]
   obtain⟨i1,i2⟩:=Lv h (ns:=fs.map (·.1)) rfl h2;exact⟨by grind,ak.cons h1 i2⟩
def t6(cs:List Str)(f:Str)(o v:D)(S:Store):Option Store:=match o with
 | .ptr n=>(match S[n]? with
  |some (.ins c ns vs)=>if c∈cs/\ns.length<1000 then some (S.set n (.ins c (jO f v ns vs).1 (jO f v ns vs).2))else none
  |_=>none)
 |_=>none
def wX(cs:List Str)(f:Str)(fv fo:aQ):SX:=λsl S=>(fv sl S).toS sl λv S1=>(fo sl S1).toS sl λo S2=>match t6 cs f o v S2 with
 |some aX=>.nx sl aX
 |none=>.bad
theorem Lw{cs:List Str}{fl:Str}{pos':Pos}(hc:∀c∈cs,∀C,X.mg c=some (.ref C)->Cls X.K C/\NoAttr X.K C fl)(aS:E X W o fo)(bB:E X W e fe)(hs:swapsWith e (some (.Attribute o fl pos')) pos.line X.env=pure false:=by rfl) :
  ES X W (.Assign [.Attribute o fl pos'] e pos) (wX cs fl fe fo):=by
 refine PS.imp (ps_fld aS bB hs) λD σ H ⟨ae,S,sl,w,rs,p⟩=>?_;refine⟨ae,S,sl,w,rs,aM.mono (bj.E' rs p) λy H1 ⟨aA,S1,v,x1,aF,Ao,r1,p1⟩=>?_⟩;refine⟨aA,S1,sl,aF,Ao,aM.mono (bj.E' Ao p1) λx aG ⟨aL,S2,eE,x2,cz,K0,aE,p2⟩=>?_⟩;unfold t6 at p2;split at p2
 .rename_i aX bu
  split at bu
  .rename_i n
   split at bu
   .rename_i c ns vs en
    split at bu
    .rename_i wY
     cases bu;rw[Rep]at aE;obtain⟨a,ea,q⟩:=aE;obtain⟨C,bh,fs,hm,h1,hn,cS⟩:=cz.ob n a _ q en;obtain⟨dz,ck⟩:=hc c wY.1 C hm;have xp:Ext aL aG aL (upd aG a (.ins C bh (putF fl y fs))):=Ext.putL q;obtain⟨gL,d9⟩:=Lv (f:=fl) (r1.ext x2) hn cS;refine⟨a,C,bh,fs,ea,h1,dz,ck,by grind,?_⟩;exact p2 _ aL _ xp (cz.put (m:=.ins c (jO fl v ns vs).1 (jO fl v ns vs).2) q ⟨C,bh,_,hm,upd_same,gL,d9.ext xp⟩) (K0.ext xp)
    .cases bu
   .cases bu
  .cases bu
 .exact p2.elim
inductive pX where
 |fld
 |prop (g:aK)
 |con (d:D)
def rB(f:Str)(tab:List (Str×pX))(fo:aQ):aQ:=λsl S=>(fo sl S).bind λd S1=>match jc S1 d with
 |some (c,ns,vs)=>(match tab.lookup c with
  |some .fld=>(match j_ f ns vs with
   |some v=>.ok v S1
   |none=>.bad)
  |some (.prop g)=>(match g [d] S1 with
   | .ok v S2=>.ok v S2
   |_=>.bad)
  |some (.con v)=>if f∈ns then .bad else .ok v S1
  |none=>.bad)
 |none=>.bad
def Lx(X:Cx)(f:Str)(C:Addr):pX->Prop
 | .fld=>NoAttr X.K C f
 | .prop g=>∃(p a:Addr) (k:Nat),PropOf X.K C f p a/\bz X.prog X.w X.K X.mg X.base k a g/\Room (k+1) X.A
 | .con d=>∃(v:V) (u:Value),Con X.K C f v u/\∀ae H,Rep X.K X.mg ae H d v
structure Ap(X:Cx)(f:Str)(tab:List (Str×pX)):Prop where
 at_:∀c t,tab.lookup c=some t->∀C,X.mg c=some (.ref C)->Cls X.K C/\Lx X f C t
theorem Aq:Ap X m []:=⟨λc g h=>by cases h⟩
theorem Ar{c:Str}{C:Addr}{t:pX}{tab:List (Str×pX)}(hm:X.mg c=some (.ref C))(hc:Cls X.K C)(ha:Lx X m C t)(h:Ap X m tab):Ap X m ((c,t)::tab):=⟨λbx e8 h' d6 iK=>by
 rw[List.lookup_cons]at h';cases q:bx==c with
 |true =>
  grind
 |false =>
  rw[q]at h';exact h.at_ bx e8 h' d6 iK⟩
theorem Ug{pins:List (Addr×Obj)}{σ:L2.St}{H:Hp}{s:Shared}{Q:VK}{b:Bool}{Fj:Value->Shared->Prop}{fl:Str}{a bh cw:Addr}{fs:List (Str×V)}{sp:Sp}(I:Inv X pins σ H s)(ea:H a=some (.ins C bh fs))(c:Cls X.K C)(hp:PropOf X.K C fl cw f)
  (F:FnR X.prog X.w X.K X.mg X.base (Z.CX X.prog X.w) k f sp) (hr:Room (k+1) X.A) (h:sp [.ref a] H Q (λ_ _ _=>False)) :
  wpAny (model X.prog X.w) X.A (getAttr (.ref a) fl b) (EP X pins σ Q) Fj s:=by
 obtain⟨Uh,O,_,_,_,_⟩:=ins_get I.hok ea;obtain⟨od,J,_⟩:=O.look;obtain⟨rest,fD⟩:=hp.rec_;have I1:=I.tok (s.toks+1);have hc:(PySem.W.clsIn X.K C).isSome=true:=by
  obtain⟨cd,hc,_⟩:=PySem.W.any_some c.hd;rw[hc];rfl
 refine PySem.W.get_bind I.kIn J (PySem.W.plainGet_of (c.get fl)).1 (PySem.W.findObj_data hc hp.at_ hp.get hp.tak) (PySem.W.plainGet_of (c.get fl)).2 (wpAny_call (PySem.W.prop_get (s:={ s with toks:=s.toks+1 }) I.kIn fD ?_));refine codeAny_mono (F X.A.in1 X.stack { s with toks:=s.toks+1 } H [.ref a] [.ref a] Q (λ_ _ _=>False) hr.in1 I1.env0.in1 (.cons rfl .nil) h) λr s' hq=>?_;cases r with
 |error fF=>exact False.elim (R_ (X:=X.nox) (W:=WF) rA (λ_ _ _ _ z=>z) pins σ H { s with toks:=s.toks+1 } fF s' (I1.wish _) hq)
 |ok fl =>
  cases fl with
  |ret u =>
   obtain⟨v,H',g',aO,gN⟩:=I1.after hq;show wpAny _ _ (handedOut u) _ _ _;rw[PySem.W.handedOut_of (handed_of aO)];exact wpAny_pure ⟨v,H',g',aO,gN⟩
  |next=>exact False.elim hq
  |brk=>exact False.elim hq
  |cont=>exact False.elim hq
theorem Au{fl:Str}{tab:List (Str×pX)}(ht:Ap X fl tab)(aS:E X W o fo)(hb:attributeBase o fl X.env (eval o X.env)=eval o X.env:=by rfl):E X W (.Attribute o fl pos) (rB fl tab fo):=by
 refine⟨λpins s σ H Q I h=>?_⟩;obtain⟨ae,S,sl,w,rs,p⟩:=h;refine attr_of hb (thn (aS.run pins s σ H _ I ⟨ae,S,sl,w,rs,aM.eD p⟩) λu s1 ⟨x,H1,I1,aC,aA,S1,d,x1,aF,r1,_,p1⟩=>?_);split at p1
 .rename_i c ns vs Fl
  obtain⟨a,C,bh,fs,ex,hm,ea,hn,cS⟩:=pB aF r1 Fl;subst ex;obtain rfl:u=Value.ref a:=aC;split at p1
  .rename_i et
   obtain⟨hc,ha⟩:=ht.at_ c _ et C hm;split at p1
   .rename_i v ev
    obtain⟨lN,h1,h2⟩:=Kt hn cS ev;exact getattr_ok I1 ea hc ha h1 λu s2 I2 b6=>⟨lN,H1,I2,b6,b5 p1 aF h2⟩
   .exact p1.elim
  .rename_i g et
   obtain⟨hc,cw,hR,k,hp,F,hr⟩:=ht.at_ c _ et C hm;refine Ug I1 ea hc hp F hr ⟨aA,S1,[d],aF,ak.cons r1 ak.nil,?_⟩;split at p1
   .rename_i v S2 m_
    rw[m_];exact λlN aL aG x2 cz aE=>p1 lN aL aG x2 cz aE
   .exact p1.elim
  .rename_i v et
   obtain⟨hc,lN,qS,hk,hr⟩:=ht.at_ c _ et C hm;split at p1
   .exact p1.elim
   .rename_i wZ
    exact getcon_ok I1 ea hc hk (Se hn wZ) λs2 I2=>⟨lN,H1,I2,hk.rel,b5 p1 aF (hr aA H1)⟩
  .exact p1.elim
 .exact p1.elim
end
section
variable{X:Cx}
def cZ:bR:=c7 Eo (c7 tQ (c7 n5 wB))
theorem hj:cg X (binaryOp .Add) cZ:=Kx.or (KA.or (KG.or Sr))
def e1:bR:=c7 Ep wC
theorem pY:cg X (binaryOp .Mult) e1:=Sf.or Ss
def ot:bR:=c7 ltI Er
theorem Av:cg X (compareOp .Lt) ot:=Si.or Sj
def gO:bR:=c7 (pF false) (c7 (pO false) (pG false))
def ou:bR:=c7 (pF true) (c7 (pO true) (pG true))
theorem ov(aI:X.A.units+64<cLine):cg X (compareOp .In) gO:=Sl.or ((Tx (nN (y7 (by decide:1<=64) _) aI)).or Sw)
theorem Fm(aI:X.A.units+64<cLine):cg X (compareOp .NotIn) ou:=Sn.or ((Tz (nN (y7 (by decide:1<=64) _) aI)).or Sx)
def a4:bR:=c7 n7 Aa
theorem Ui(aI:X.A.units+64<cLine):pJ X a4:=SG.or (Tt (nN (y7 (by decide:1<=64) _) aI))
def cU:aK:=px wD E9
theorem gQ:hC X (.builtin "len") cU:=d_len.or TC
def ec:aK:=px q' rg
theorem iL:hC X (.builtin "isinstance") ec:=Sy.or Sz
theorem w0{A:Around}(aI:A.units+64<cLine):A.units+1<cLine:=nN (y7 (by decide:1<=64) _) aI
end
section
variable{X:Cx}{W:WX}{pos:Pos}{elt tg iter:Expr}{ifs:List Expr}{scope:Scope}{own:List (Str×Nat)}{it:fS}{g:cX}{bt:b9}{fe:aQ}
theorem w1{i:Nat}{y:Str}{py spos:Pos}(hc:X.calm=true)(eF:X.N.Nodup)(ok:BlkOk X.N X.env.scope scope own)
  (Fn:swapsWith (.ListComp elt [⟨tg,iter,ifs,0⟩] scope pos) (some (.Name y py)) spos.line X.env=pure true) (hi:q2 X W tg iter it)
  (hg:∀(s:Shared) (H:Hp) (C:Addr) (cl:List (Str×Addr)) (fp:List Addr),m7 (X.blk s H scope (compEnvC scope cl C X.env) fp) WF (own.map (·.2)) tg g) (ht:∀(s:Shared) (H:Hp) (C:Addr) (cl:List (Str×Addr)) (fp:List Addr),rz (X.blk s H scope (compEnvC scope cl C X.env) fp) WF ifs bt)
  (he:∀(s:Shared) (H:Hp) (C:Addr) (cl:List (Str×Addr)) (fp:List Addr),E (X.blk s H scope (compEnvC scope cl C X.env) fp) WF elt fe) (aW:X.N[i]?=some y:=by rfl) (Aw:X.env.scope.names.lookup y=some .local:=by rfl) (hs:∀x,foldedSetIterable iter X.env x=pure x:=by intro _;rfl) :
  ES X W (.Assign [.Name y py] (.ListComp elt [⟨tg,iter,ifs,0⟩] scope pos) spos) (b_ (cP (cO it g bt fe (own.map (·.2)))) (aV i)) :=
 PS.imp (ps_setLc (tt:=pw X.K X.mg WF bt) (te:=eN X.K X.mg WF fe) hc eF aW Aw Fn hi ok (λs H C cl fp=>(hg s H C cl fp).all) ht he hs) λD σ H ⟨ae,S,sl,w,rs,p⟩ =>
  Lr (Q:=λx H1=>gName i x σ H1 D.nx) ⟨ae,S,sl,w,rs,zS w (aM.mono (bj.tG (o:=cP (cO it g bt fe (own.map (·.2))) sl S) rs p) λv H1 ⟨aA,S1,d,aF,r1,aO,p1⟩=>p1 _ aA H1 Ext.refl aF (r1.set aO i))⟩
end
section
variable{X:Cx}{W:WX}{x:Str}{pos:Pos}
theorem Ax{i:Int}(h:∃t,X.mg x=some (.int i t))(hg:Gl X x:=by rfl)(hd:(x==("__debug__":Str))=false:=by decide):E X W (.Name x pos) (au (.int i)):=by
 obtain⟨t,h⟩:=h;exact D9 (v:=.int i) hg h ⟨t,rfl⟩ (λ_ _=>g5) hd
theorem Uj{i:Str}(h:∃t,X.mg x=some (.str i t))(hg:Gl X x:=by rfl)(hd:(x==("__debug__":Str))=false:=by decide):E X W (.Name x pos) (au (.str i)):=by
 obtain⟨t,h⟩:=h;exact D9 (v:=.str i) hg h ⟨t,rfl⟩ (λ_ _=>pC) hd
end
def Fo(g:cX):Prop:=∀d sl S,(∃b7 ah,g d sl S=.nx b7 ah)\/g d sl S=.bad
def Ay(g:gJ):Prop:=∀d sl S,(∃b7 ah,g d sl S=.nx b7 ah)\/g d sl S=.bad
theorem Fp:Ay e':=λd sl S=>by cases d with|nil=>exact .inl ⟨_,_,rfl⟩|cons _ _=>exact .inr rfl
theorem t7{g:cX}{gs:gJ}(h:Fo g)(hs:Ay gs):Ay (cL g gs):=λd sl S=>by
 cases d with
 |nil=>exact .inr rfl
 |cons x r =>
  show(∃b7 ah,(g x sl S).then (gs r)=_)\/(g x sl S).then (gs r)=_;rcases h x sl S with⟨b7,ah,e⟩|e
  .rw[e];exact hs r b7 ah
  .rw[e];exact .inr rfl
theorem Fq{gs:gJ}(hs:Ay gs):Fo (fy gs):=λd sl S=>by
 cases d with
 |tup xs=>exact hs xs sl S
 |bF xs=>exact hs xs sl S
 |_=>exact .inr rfl
theorem hT{g:cX}{gs:gJ}{n:Nat}(hg:Fo g)(hr:∀ds sl S,gs ds sl S≠.bad->ds.length=n):∀ds sl S,cL g gs ds sl S≠.bad->ds.length=n+1:=R1 hr hg
def t8(i:Nat)(op:Int->Int->Int)(fe:aQ):SX:=λsl S=>match sl[i]? with
 |some (some (.int a))=>(fe sl S).toS sl λe S1=>(match e with
  | .int b=>.nx (sl.set i (some (.int (op a b)))) S1
  |_=>.bad)
 |_=>.bad
section
variable{X:Cx}{W:WX}{x:Str}{pos pos':Pos}{e:Expr}{fe:aQ}
theorem Uk{i:Nat}{op:Operator}{g:Int->Int->Int}(eF:X.N.Nodup)(aS:PIp X op (ipI g))(he:E X W e fe)(hi:X.N[i]?=some x:=by rfl)(hx:Loc X.env.scope x:=by first|exact Or.inl rfl|exact Or.inr rfl)(hf:X.fn x=true\/X.env.scope.names.lookup x=some .local:=by first|exact .inl rfl|exact .inr rfl) :
  ES X W (.AugAssign (.Name x pos') op e pos) (t8 i g fe):=by
 refine PS.imp (ps_aug eF hi hx he aS hf) λD σ H ⟨ae,S,sl,w,rs,p⟩=>?_;unfold t8 at p;split at p
 .rename_i a ea
  obtain⟨v,ao,r1⟩:=rs.at_ i _ ea;refine⟨v,ao,ae,S,sl,w,rs,aM.mono (bj.E' rs p) λy H1 ⟨aA,S1,d,x1,aF,Ao,aE,p1⟩=>?_⟩;split at p1
  .rename_i b
   exact⟨a,b,fh (r1),fh aE,p1 _ aA H1 Ext.refl aF (Ao.set (g5 (i:=g a b)) i)⟩
  .exact p1.elim
 .exact p.elim
end
section
variable{X:Cx}{f:Str}
theorem Ly:∀c∈([]:List Str),∀C,X.mg c=some (.ref C)->Cls X.K C/\NoAttr X.K C f:=λc h=>by cases h
theorem Lz{c:Str}{C:Addr}{cs:List Str}(hm:X.mg c=some (.ref C))(hc:Cls X.K C)(hn:NoAttr X.K C f)(h:∀c∈cs,∀C,X.mg c=some (.ref C)->Cls X.K C/\NoAttr X.K C f):∀bx∈c::cs,∀C,X.mg bx=some (.ref C)->Cls X.K C/\NoAttr X.K C f:=λbx h' d6 iK=>by
 grind
end
theorem Az{P:Program}{w:World}{K:PySem.W.Frag}{mg:Str->Option Value}{base:Heap}{k:Nat}{f:Addr}:bz P w K mg base k f (λ_ _=>.bad):=λA outer s H us vs Q E hr dg r ⟨_,_,_,_,_,p⟩=>p.elim
theorem Ul{P:Program}{w:World}{outer:List Env}{H:Hp}{s:Shared}{e:Value}{s':Shared}(h:Z.CX P w outer H s (λ_ _ _=>False) e s'):False:=by
 obtain⟨_,_,_,_,_,_,_,_,_,_,_,_,z⟩:=h;exact z
theorem Um{K:PySem.W.Frag}{mg:Str->Option Value}{H:Hp}{a:Addr}{ns:List Int}{g:aK}(ef:SqL K H a (ns.map V.int))(h:∃S,g [.bI ns] []=.ok (.bl true) S):hI K mg 1 g [.ref a] H (λv _=>v=.bl true) λ_ _ _=>False:=by
 obtain⟨S,e⟩:=h;refine⟨[],[],[.bI ns],rfl,⟨rfl,List.nodup_nil,by simp,by simp⟩,ak.cons ?_ ak.nil,?_⟩
 .rw[Rep]
  refine⟨a,rfl,?_⟩;rcases ef with h|h
  .exact .inl ⟨by simp,h⟩
  .exact .inr h
 .rw[e]
  exact λv ag H' _ _ r=>jd r
def Fs(K:PySem.W.Frag):Sp:=λvs H Q _=>∃(a:Addr) (ns:List Int),vs=[.ref a]/\SqL K H a (ns.map V.int)/\ns.length<=63/\∀H',Q (.bl true) H'
theorem Uo{P:Program}{w:World}{K:PySem.W.Frag}{mg:Str->Option Value}{base:Heap}{k:Nat}{f:Addr}{fd:FuncData}{ps:List Str}{g:aK}(F:FnOk P w K mg base (Z.CX P w) k f fd ps (hI K mg 1 g))(h:∀ns:List Int,ns.length<=63->∃S,g [.bI ns] []=.ok (.bl true) S) :
  FnOk P w K mg base (Z.CX P w) k f fd ps (Fs K):=F.imp λvs H Q E ⟨a,ns,ev,ef,hl,q⟩=>by
 subst ev;obtain⟨ae,S,ds,h1,h2,aH,bQ⟩:=Um (mg:=mg) (H:=H) ef (h ns hl);obtain⟨ah,e⟩:=h ns hl;refine⟨[],[],[.bI ns],rfl,⟨rfl,List.nodup_nil,by simp,by simp⟩,ak.cons ?_ ak.nil,?_⟩
 .rw[Rep]
  refine⟨a,rfl,?_⟩;rcases ef with h|h
  .exact .inl ⟨by simp,h⟩
  .exact .inr h
 .rw[e]
  exact λv ag H' _ _ r=>by rw[jd r];exact q H'
@[simp] theorem kd{α β:Type}(a:α)(S:Store)(k:α->Store->Out β):(Out.ok a S).bind k=k a S:=(rfl)
@[simp] theorem aeD{α:Type}(a:α)(S:Store)(sl:aJ)(k:α->Store->SO):(Out.ok a S).toS sl k=k a S:=(rfl)
@[simp] theorem aeE(sl:aJ)(S:Store)(g:SX):(SO.nx sl S).then g=g sl S:=(rfl)
@[simp] theorem aeF(d:D)(S:Store)(g:SX):(SO.rt d S).then g=.rt d S:=(rfl)
@[simp] theorem aeG(d:D)(S:Store):(SO.rt d S).out=.ok d S:=(rfl)
@[simp] theorem aeH(i:Int):SeqAt.shaped (.int i)=true:=by rfl
theorem Uq{i:Str}(h:PyData.strOk i=true):SeqAt.shaped (.str i)=true:=by simp[SeqAt.shaped,PyData.canLay0,PyData.depth,h]
@[simp] theorem aeI(i:Bool):SeqAt.shaped (.bool i)=true:=by rfl
@[simp] theorem aeJ(i j:Int)(S:Store):bC false (.int i) (.int j) S=.ok (.bl (decide (i=j))) S:=by
 rfl
@[simp] theorem aeK(i j:Int)(S:Store):bC true (.int i) (.int j) S=.ok (.bl (!decide (i=j))) S:=by
 rfl
@[simp] theorem aeL(i j:Int)(S:Store):cZ (.int i) (.int j) S=.ok (.int (i+j)) S:=(rfl)
@[simp] theorem aeM(i j:Int)(S:Store):kQ (.int i) (.int j) S=.ok (.int (i - j)) S:=(rfl)
@[simp] theorem aeN(i j:Int)(S:Store):ot (.int i) (.int j) S=.ok (.bl (decide (i<j))) S:=(rfl)
@[simp] theorem aeO(i j:Int)(S:Store):pE (.int i) (.int j) S=.ok (.bl (decide (i<=j))) S:=(rfl)
@[simp] theorem aeP(i j:Int)(S:Store):mW (.int i) (.int j) S=.ok (.bl (decide (j<i))) S:=(rfl)
@[simp] theorem aeQ(i j:Int)(S:Store):wz (.int i) (.int j) S=.ok (.bl (decide (j<=i))) S:=(rfl)
theorem kZ{i j:Int}(h:0<j)(S:Store):hL (.int i) (.int j) S=.ok (.int (i % j)) S:=by simp[hL,nZ,h]
theorem rC{i j:Int}(h:0<j)(h2:j.natAbs.log2<9000)(S:Store):hJ (.int i) (.int j) S=.ok (.int (i / j)) S:=by simp[hJ,nZ,Kw,h,h2]
theorem Ur{i j:Int}(h:i.natAbs.log2+j.natAbs.log2<1000000)(S:Store):e1 (.int i) (.int j) S=.ok (.int (i * j)) S:=by
 simp[e1,c7,Ep,nZ,Kv,h]
theorem rD{S:Store}{n:Nat}{xs:List D}{i:Int}(h:S[n]?=some (.lst xs)):a4 (.ptr n) (.int i) S=match atI xs i with
  |some x=>.ok x S
  |none=>.bad:=by
 simp only[a4,c7,n7,cH,cB,h];cases e:atI xs i with
 |some x=>rfl
 |none=>simp[Aa,asD,h]
theorem Ft{S:Store}{xs:List D}{i:Int}:a4 (.lst xs) (.int i) S=match atI xs i with
  |some x=>.ok x S
  |none=>.bad:=by
 simp only[a4,c7,n7,cH,cB];cases e:atI xs i with
 |some x=>rfl
 |none=>rfl
theorem Us{S:Store}{xs:List D}{i:Int}:a4 (.tup xs) (.int i) S=match atI xs i with
  |some x=>.ok x S
  |none=>.bad:=by
 simp only[a4,c7,n7,cH];cases e:atI xs i with
 |some x=>rfl
 |none=>rfl
structure fX(S S1:Store):Prop where
 len:S1.length=S.length
 at_:∀(i:Nat) (m:dx),S1[i]?=some m->S[i]?=some m\/hH S.length m=true
theorem fX.refl(S:Store):fX S S:=⟨rfl,λi m h=>.inl h⟩
theorem fX.set{S:Store}{n:Nat}{m:dx}(h:hH S.length m=true):fX S (S.set n m):=⟨by simp,λi gI e=>by
 grind⟩
theorem fX.closed{S S1 T:Store}(h:fX S S1):kP S (S1++T):=λi m hi e=>by
 rw[s7 (by rw[h.len];exact hi)]at e;exact h.at_ i m e
theorem LA{k:Nat}{S:Store}{f:Nat}{d:D}(h:a6 k d=true):cG (dy S k f) d=some d:=Kq (λn hn=>Ek hn) d h
theorem Fu{k:Nat}{S:Store}{f:Nat}{ds:List D}(h:a9 k ds=true):eQ (dy S k f) ds=some ds:=j9 (λn hn=>Ek hn) ds h
theorem Ut{S1:Store}{acc:List D}(h:a9 S1.length acc=true):cG (dy (S1++[.lst acc]) S1.length 6) (.ptr S1.length)=some (.lst acc):=by
 rw[cG,dy,if_neg (jz _)];rw[vB (dE _)];simp only[vC,De];rw[Fu h];rfl
abbrev a0(l:List Nat):Str:=⟨l.toArray⟩
abbrev iM(c:Nat):D:=.str (a0 [c])
@[simp] theorem Fv(l:List Nat):(a0 l).length=l.length:=by rfl
theorem Fw(s:Str):a0 s.cps.toList=s:=by rfl
@[simp] theorem aeR(a b:List Nat):a0 a++a0 b=a0 (a++b):=by
 show(⟨a.toArray++b.toArray⟩:Str)=_;simp[a0]
@[simp] theorem LC(l:List Nat):wR (a0 l)=l.map iM:=by rfl
def k0(d:D)(k:Bool->Prop):Prop:=match d with
 | .bl b=>k b
 |_=>False
@[simp] theorem aeS{b:Bool}{k:Bool->Prop}:k0 (.bl b) k=k b:=(rfl)
def lV{α:Type}(o:Option α)(k:α->Prop):Prop:=match o with
 |some a=>k a
 |none=>False
@[simp] theorem LD{α:Type}{a:α}{k:α->Prop}:lV (some a) k=k a:=(rfl)
@[simp] theorem aeT{α:Type}{k:α->Prop}:lV none k=False:=(rfl)
@[irreducible] def We{α:Type}(o:Out α)(P:α->Store->Prop)(X:D->Store->Prop):Prop:=match o with
 | .ok a S=>P a S
 | .ex e S=>X e S
 | .bad=>False
structure jh where
 nx:aJ->Store->Prop
 bk:aJ->Store->Prop
 ct:aJ->Store->Prop
 rt:D->Store->Prop
 ex:D->aJ->Store->Prop
@[irreducible] def aR(o:SO)(Q:jh):Prop:=match o with
 | .nx sl S=>Q.nx sl S
 | .bk sl S=>Q.bk sl S
 | .ct sl S=>Q.ct sl S
 | .rt d S=>Q.rt d S
 | .ex e sl S=>Q.ex e sl S
 | .bad=>False
section
variable{α β:Type}{P:α->Store->Prop}{X:D->Store->Prop}{Q:jh}{S:Store}{sl:aJ}
@[simp] theorem cI{a:α}:We (.ok a S) P X=P a S:=by unfold We;rfl
@[simp] theorem Fx{e:D}:We (.ex e S:Out α) P X=X e S:=by unfold We;rfl
@[simp] theorem LI:We (.bad:Out α) P X=False:=by unfold We;rfl
theorem fq{o:Out α}{k:α->Store->Out β}{P:β->Store->Prop}:We (o.bind k) P X=We o (λa ah=>We (k a ah) P X) X:=by cases o<;>simp[Out.bind]
@[simp] theorem ji:aR (.nx sl S) Q=Q.nx sl S:=by unfold aR;rfl
@[simp] theorem LJ:aR (.bk sl S) Q=Q.bk sl S:=by unfold aR;rfl
@[simp] theorem AA:aR (.ct sl S) Q=Q.ct sl S:=by unfold aR;rfl
@[simp] theorem Fy{d:D}:aR (.rt d S) Q=Q.rt d S:=by unfold aR;rfl
@[simp] theorem Fz{e:D}:aR (.ex e sl S) Q=Q.ex e sl S:=by unfold aR;rfl
@[simp] theorem LK:aR .bad Q=False:=by unfold aR;rfl
theorem LL{o:SO}{g:SX}:aR (o.then g) Q=aR o { Q with nx:=λb7 ah=>aR (g b7 ah) Q }:=by cases o<;>simp[SO.then]
theorem ow{o:Out α}{k:α->Store->SO}:aR (o.toS sl k) Q=We o (λa ah=>aR (k a ah) Q) (λe ah=>Q.ex e sl ah):=by cases o<;>simp[Out.toS]
theorem We.mono{o:Out α}{w2:α->Store->Prop}{w3:D->Store->Prop}(h:We o P X)(hp:∀a S,P a S->w2 a S)(hx:∀e S,X e S->w3 e S):We o w2 w3:=by
 cases o with
 |ok a S=>simp_all
 |ex e S=>simp_all
 |bad=>simp_all
theorem We.post{o:Out α}{w2:α->Store->Prop}(h:We o P X)(hp:∀a S,P a S->w2 a S):We o w2 X:=h.mono hp λ_ _ q=>q
theorem aR.mono{o:SO}{fR:jh}(h:aR o Q)(h1:∀sl S,Q.nx sl S->fR.nx sl S)(h2:∀sl S,Q.bk sl S->fR.bk sl S)(aH:∀sl S,Q.ct sl S->fR.ct sl S)(bQ:∀d S,Q.rt d S->fR.rt d S)(cn:∀e sl S,Q.ex e sl S->fR.ex e sl S):aR o fR:=by
 cases o with
 |nx sl S=>simp_all
 |bk sl S=>simp_all
 |ct sl S=>simp_all
 |rt d S=>simp_all
 |ex e sl S=>simp_all
 |bad=>simp_all
theorem Uu{o:Out α}{a:α}(h:o=.ok a S)(p:P a S):We o P X:=by simp_all
theorem We.get{o:Out α}(h:We o P (λ_ _=>False)):∃a S,o=.ok a S/\P a S:=by
 cases o with
 |ok a S=>rw[cI]at h;grind
 |ex e S=>simp_all
 |bad=>simp_all
variable{f g:SX}{c:b9}{fe:aQ}{fa:c1}{tg:cX}
@[simp] theorem aeU:aR (cW sl S) Q=Q.nx sl S:=by unfold cW;simp
@[simp] theorem LN:aR (a' f g sl S) Q=aR (f sl S) { Q with nx:=λb7 ah=>aR (g b7 ah) Q }:=by unfold a';exact LL
@[simp] theorem aeV:aR (jG fe sl S) Q=We (fe sl S) (λ_ ah=>Q.nx sl ah) (λe ah=>Q.ex e sl ah):=by unfold jG;rw[ow];simp
@[simp] theorem FA:aR (b0 fe sl S) Q=We (fe sl S) (λd ah=>Q.rt d ah) (λe ah=>Q.ex e sl ah):=by unfold b0;rw[ow];simp
@[simp] theorem aeW:aR (cK c f g sl S) Q=We (c sl S) (λb ah=>aR (if b=true then f sl ah else g sl ah) Q) (λe ah=>Q.ex e sl ah):=by unfold cK;exact ow
@[simp] theorem t9:aR (b_ fe tg sl S) Q=We (fe sl S) (λd ah=>aR (tg d sl ah) Q) (λe ah=>Q.ex e sl ah):=by unfold b_;exact ow
theorem Uv{i j:Nat}:aR (lK i j fa sl S) Q=We (fa sl S) (λds ah=>aR (match ds with
 |[d,e]=>.nx ((sl.set i (some d)).set j (some e)) ah
 |_=>.bad) Q) (λe ah=>Q.ex e sl ah):=by unfold lK;exact ow
@[simp] theorem aeX{i j:Nat}{f1 f2:aQ}:aR (lK i j (aj f1 (aj f2 aq)) sl S) Q=We (f1 sl S) (λd S1=>We (f2 sl S1) (λe S2=>Q.nx ((sl.set i (some d)).set j (some e)) S2) (λe ah=>Q.ex e sl ah)) (λe ah=>Q.ex e sl ah):=by
 rw[Uv];simp only[aj,aq,fq,cI,ji]
theorem Uw{it:fS}:aR (q0 it tg f sl S) Q=We (it sl S) (λp ah=>aR (jH p.2 tg f p.1 sl ah) Q) (λe ah=>Q.ex e sl ah):=by unfold q0;exact ow
@[simp] theorem m'{i:Nat}{d:D}:aR (aV i d sl S) Q=Q.nx (sl.set i (some d)) S:=by unfold aV;simp
@[simp] theorem aeY{gs:gJ}{ds:List D}:aR (fy gs (.bF ds) sl S) Q=aR (gs ds sl S) Q:=by rfl
@[simp] theorem aeZ{gs:gJ}{ds:List D}:aR (fy gs (.tup ds) sl S) Q=aR (gs ds sl S) Q:=by rfl
@[simp] theorem ae0{gs:gJ}{d:D}{r:List D}:aR (cL tg gs (d::r) sl S) Q=aR (tg d sl S) { Q with nx:=λb7 ah=>aR (gs r b7 ah) Q }:=by unfold cL;exact LL
@[simp] theorem ae1:aR (e' [] sl S) Q=Q.nx sl S:=by unfold e';simp
theorem c5{f g:SX}{Q:jh}(M:aJ->Store->Prop)(h:aR (f sl S) { Q with nx:=M })(k:∀sl S,M sl S->aR (g sl S) Q):aR (a' f g sl S) Q:=by
 rw[LN];exact h.mono (λsl S h=>k sl S h) (λ_ _ h=>h) (λ_ _ h=>h) (λ_ _ h=>h) (λ_ _ _ h=>h)
variable{P:D->Store->Prop}{k1:Bool->Store->Prop}{PA:List D->Store->Prop}{f1 f2 f3:aQ}{eK c2:b9}{fs:c1}
@[simp] theorem t_{d:D}:We (au d sl S) P X=P d S:=by unfold au;simp
@[simp] theorem Ux{i:Nat}:We (ai i sl S) P X=∃d,sl[i]?=some (some d)/\P d S:=by
 unfold ai;cases e:sl[i]? with
 |none=>simp
 |some o=>cases o<;>simp
@[simp] theorem AB{bp:bR}:We (ay bp f1 f2 sl S) P X=We (f1 sl S) (λd S1=>We (f2 sl S1) (λe S2=>We (bp d e S2) P X) X) X:=by simp only[ay,fq]
@[simp] theorem ae2{bp:wj}:We (wk bp f1 sl S) P X=We (f1 sl S) (λd S1=>We (bp d S1) P X) X:=by simp only[wk,fq]
@[simp] theorem ox{bp:aK}:We (az bp fs sl S) P X=We (fs sl S) (λds S1=>We (bp ds S1) P X) X:=by simp only[az,fq]
@[simp] theorem ua:We (aq sl S) PA X=PA [] S:=by unfold aq;simp
@[simp] theorem ke:We (aj f1 fs sl S) PA X=We (f1 sl S) (λd S1=>We (fs sl S1) (λds S2=>PA (d::ds) S2) X) X:=by simp only[aj,fq,cI]
theorem Uy:We (a5 f1 sl S) k1 X=We (f1 sl S) (λd S1=>k0 d λb=>k1 b S1) X:=by
 simp only[a5,fq];congr 1;funext d S1;cases d<;>simp[k0]
@[simp] theorem ae3:We (a5 f1 sl S) k1 X=We (f1 sl S) (λd S1=>k0 d λb=>k1 b S1) X:=Uy
@[simp] theorem ae4:We (gH eK sl S) k1 X=We (eK sl S) (λb S1=>k1 (!b) S1) X:=by simp only[gH,fq,cI]
@[simp] theorem ae5:We (lI eK c2 sl S) k1 X=We (eK sl S) (λb S1=>if b=true then We (c2 sl S1) k1 X else k1 false S1) X:=by
 simp only[lI,fq];congr 1;funext b S1;cases b<;>simp
@[simp] theorem ae6:We (fQ eK c2 sl S) k1 X=We (eK sl S) (λb S1=>if b=true then k1 true S1 else We (c2 sl S1) k1 X) X:=by
 simp only[fQ,fq];congr 1;funext b S1;cases b<;>simp
@[simp] theorem ae7:We (i_ f1 f2 sl S) P X=We (f1 sl S) (λd S1=>k0 d λb=>if b=true then We (f2 sl S1) P X else P (.bl false) S1) X:=by
 simp only[i_,fq];congr 1;funext d S1;cases d with
 |bl b=>cases b<;>simp[k0]
 |_=>simp[k0]
@[simp] theorem ae8:We (zH f1 sl S) P X=We (f1 sl S) (λd S1=>k0 d λb=>P (.bl (!b)) S1) X:=by
 simp only[zH,fq];congr 1;funext d S1;cases d<;>simp[k0]
@[simp] theorem Uz:We (kK eK f1 f2 sl S) P X=We (eK sl S) (λb S1=>if b=true then We (f1 sl S1) P X else We (f2 sl S1) P X) X:=by
 simp only[kK,fq];grind
@[simp] theorem ae9{s1 s2:bR}:We (pz s1 s2 f1 f2 f3 sl S) P X=We (f1 sl S) (λd S1=>We (f2 sl S1) (λe S2=>We (s1 d e S2) (λr aX=>k0 r λb=>if b=true then We (f3 sl aX) (λg bV=>We (s2 e g bV) P X) X else P (.bl false) aX) X) X) X:=by
 simp only[pz,fq];congr 1;funext d S1;congr 1;funext e S2;congr 1;funext r aX;cases r with
 |bl b=>cases b<;>simp[fq,k0]
 |_=>simp[k0]
variable{PO:Option Int->Store->Prop}{fl ro:og}
@[simp] theorem FC:We (hP sl S) PO X=PO none S:=by unfold hP;simp
@[simp] theorem FD:We (hQ f1 sl S) PO X=We (f1 sl S) (λd S1=>∃i,d=.int i/\PO (some i) S1) X:=by
 simp only[hQ,fq];congr 1;funext d S1;cases d<;>simp
@[simp] theorem FE{h:Bool}:We (iJ h f1 fl ro sl S) P X=We (f1 sl S) (λd S1=>We (fl sl S1) (λl S2=>We (ro sl S2) (λu aX=>We (oe h d l u aX) P X) X) X) X:=by simp only[iJ,fq]
theorem LO{ty:Store->D->Bool}{bp:lQ}:We (fj ty bp f1 fs sl S) P X=We (f1 sl S) (λd S1=>if ty S1 d=true then We (fs sl S1) (λds S2=>We (bp d ds S2) P X) X else False) X:=by
 simp only[fj,fq];congr 1;funext d S1;cases h:ty S1 d<;>simp[fq]
@[simp] theorem UA{ty:Store->D->Bool}{bp:lQ}:We (fj ty bp f1 fs sl S) P X=We (f1 sl S) (λd S1=>ty S1 d=true/\We (fs sl S1) (λds S2=>We (bp d ds S2) P X) X) X:=by
 rw[LO];simp
def AF(m:Str)(d:D)(ns:List Str)(vs:List D)(S1:Store)(P:D->Store->Prop):pX->Prop
 | .fld=>lV (j_ m ns vs) λv=>P v S1
 | .prop g=>We (g [d] S1) P (λ_ _=>False)
 | .con v=>m∉ns/\P v S1
@[simp] theorem UC{m:Str}{d:D}{ns:List Str}{vs:List D}{S1:Store}:AF m d ns vs S1 P .fld=lV (j_ m ns vs) λv=>P v S1:=(rfl)
@[simp] theorem UD{m:Str}{d:D}{ns:List Str}{vs:List D}{S1:Store}{g:aK}:AF m d ns vs S1 P (.prop g)=We (g [d] S1) P (λ_ _=>False):=(rfl)
@[simp] theorem UE{m:Str}{d:D}{ns:List Str}{vs:List D}{S1:Store}{v:D}:AF m d ns vs S1 P (.con v)=(m∉ns/\P v S1):=(rfl)
@[simp] theorem afa{m:Str}{tab:List (Str×pX)}:We (rB m tab f1 sl S) P X=We (f1 sl S) (λd S1=>lV (jc S1 d) λp=>lV (tab.lookup p.1) λt=>AF m d p.2.1 p.2.2 S1 P t) X:=by
 unfold rB;rw[fq];congr 1;funext d S1;cases e:jc S1 d with
 |none=>simp
 |some p =>
  obtain⟨c,ns,vs⟩:=p;dsimp only;rw[LD];dsimp only;cases e2:tab.lookup c with
  |none=>simp
  |some t =>
   rw[LD];cases t with
   |fld =>
    dsimp only;rw[UC];cases j_ m ns vs<;>simp
   |prop g =>
    dsimp only;rw[UD];cases g [d] S1<;>simp
   |con v =>
    dsimp only;rw[UE];by_cases hm:m∈ns<;>simp[hm]
@[simp] theorem afb{cs:List Str}{m:Str}:aR (wX cs m f1 f2 sl S) Q=We (f1 sl S) (λv S1=>We (f2 sl S1) (λo S2=>∃aX,t6 cs m o v S2=some aX/\Q.nx sl aX) (λe ah=>Q.ex e sl ah)) (λe ah=>Q.ex e sl ah):=by
 simp only[wX,ow];congr 1;funext d S1;congr 1;funext o S2;cases t6 cs m o d S2<;>simp
@[simp] theorem LQ{n:Nat}{g:aK}{ds:List D}(h:ds.length=n):dV n g ds S=g ds S:=if_pos h
def eS(S:Store)(P:D->Store->Prop):D->Store->Prop:=λd ah=>kP S ah/\∃d',cG (dy ah S.length 6) d=some d'/\P d' (ah.take S.length)
theorem LR{o:Out D}:We (fin S o) P X=We o (eS S P) (eS S X):=by
 cases o with
 |bad=>simp[fin]
 |ok d ah =>
  simp only[fin,cI,eS];by_cases h:kP S ah
  .rw[if_pos h]
   cases e:cG (dy ah S.length 6) d<;>simp[h]
  simp_all
 |ex d ah =>
  simp only[fin,Fx,eS];by_cases h:kP S ah
  .rw[if_pos h]
   cases e:cG (dy ah S.length 6) d<;>simp[h]
  simp_all
def w4(S:Store)(P:D->Store->Prop)(X:D->Store->Prop):jh:=⟨λ_ ah=>eS S P .non ah,λ_ _=>False,λ_ _=>False,eS S P,λe _ ah=>eS S X e ah⟩
theorem LU{o:SO}{P X:D->Store->Prop}:We o.out P X=aR o ⟨λ_ ah=>P .non ah,λ_ _=>False,λ_ _=>False,P,λe _ ah=>X e ah⟩:=by cases o<;>simp[SO.out]
theorem FG{N:Nat}{body:SX}{ds:List D}:We (cN N body ds S) P X=aR (body (ds.map some++List.replicate (N - ds.length) none) S) (w4 S P X):=by
 unfold cN;rw[LR,LU];rfl
theorem UG{N:Nat}{body:SX}{ds:List D}:We (pU N body ds S) P X=aR (body (ds.map some++List.replicate (N - ds.length) none) S) ⟨λ_ ah=>P .non ah,λ_ _=>False,λ_ _=>False,P,λe _ ah=>X e ah⟩:=LU
@[simp] theorem afc:(w4 S P X).nx sl=eS S P .non:=(rfl)
@[simp] theorem LV:(w4 S P X).rt=eS S P:=(rfl)
@[simp] theorem afd{e:D}:(w4 S P X).ex e sl=eS S X e:=(rfl)
theorem uc{S1 T:Store}{d d':D}(h:fX S S1)(hd:cG (dy (S1++T) S.length 6) d=some d')(p:P d' S1):eS S P d (S1++T) :=
 ⟨h.closed,d',hd,by rw[<-h.len,List.take_left'];exact p;rfl⟩
theorem AG{S1:Store}{d:D}(h:fX S S1)(hd:a6 S.length d=true)(p:P d S1):eS S P d S1:=by
 have:=uc (P:=P) (T:=[]) h (d:=d) (d':=d) (LA hd) p;grind
theorem LW{S1 T:Store}{d:D}(h:fX S S1)(hd:a6 S.length d=true)(p:P d S1):eS S P d (S1++T):=uc h (LA hd) p
theorem eT{d:D}(hd:a6 S.length d=true)(p:P d S):eS S P d S:=AG (fX.refl S) hd p
theorem FH{S1:Store}{acc:List D}(h:fX S S1)(aI:a9 S.length acc=true)(p:P (.lst acc) S1):eS S P (.ptr S1.length) (S1++[.lst acc]):=by
 refine uc h ?_ p;rw[<-h.len]at aI ⊢;exact Ut aI
@[simp] theorem afe{b:Bool}:eS S P (.bl b) S=P (.bl b) S:=propext ⟨fun⟨_,d',h,p⟩=>by rw[cG]at h;grind,λp=>eT rfl p⟩
@[simp] theorem aff{i:Int}:eS S P (.int i) S=P (.int i) S:=propext ⟨fun⟨_,d',h,p⟩=>by rw[cG]at h;grind,λp=>eT rfl p⟩
@[simp] theorem AH{f:aQ}:We (cP f sl S) P X=We (f sl S) (eS S P) (eS S X):=LR
mutual
theorem LX{j k:Nat}(h:j<=k):∀d,a6 j d=true->a6 k d=true
 | .non,_=>by simp[a6]
 | .bl _,_=>by simp[a6]
 | .int _,_=>by simp[a6]
 | .str _,_=>by simp[a6]
 | .ty _,_=>by simp[a6]
 | .cls _,_=>by simp[a6]
 | .bI _,_=>by simp[a6]
 | .exc _ _ vs,q=>by simp only[a6]at q ⊢;exact fY h vs q
 | .lam _ _,_=>by simp[a6]
 | .gZ _ vs,q=>by simp only[a6]at q ⊢;exact fY h vs q
 | .tup xs,q=>by simp only[a6]at q ⊢;exact fY h xs q
 | .bF xs,q=>by simp only[a6]at q ⊢;exact fY h xs q
 | .lst xs,q=>by simp only[a6]at q ⊢;exact fY h xs q
 | .dct ks vs,q=>by
  simp only[a6,Bool.and_eq_true]at q ⊢;exact⟨fY h ks q.1,fY h vs q.2⟩
 | .dw _ ks vs,q=>by
  simp only[a6,Bool.and_eq_true]at q ⊢;exact⟨fY h ks q.1,fY h vs q.2⟩
 | .ins _ _ vs,q=>by simp only[a6]at q ⊢;exact fY h vs q
 | .ptr n,q=>by
  simp only[a6,decide_eq_true_eq]at q ⊢;omega
theorem fY{j k:Nat}(h:j<=k):∀ds,a9 j ds=true->a9 k ds=true
 |[],_=>by simp[a9]
 |d::ds,q=>by
  simp only[a9,Bool.and_eq_true]at q ⊢;exact⟨LX h d q.1,fY h ds q.2⟩
end
theorem jP{k:Nat}:∀{ds:List D},a9 k ds=true↔∀d∈ds,a6 k d=true
 |[]=>by simp[a9]
 |d::ds=>by simp[a9,Bool.and_eq_true,jP (ds:=ds)]
@[simp] theorem FI{k:Nat}{a b:List D}:a9 k (a++b)=(a9 k a&&a9 k b):=by
 induction a with
 |nil=>simp[a9]
 |cons d a ih=>simp[a9,ih,Bool.and_assoc]
theorem LY{k:Nat}{d:D}(h:a6 0 d=true):a6 k d=true:=LX (iD k) d h
theorem AI{k:Nat}{ds:List D}(h:a9 0 ds=true):a9 k ds=true:=fY (iD k) ds h
@[simp] theorem afg{k:Nat}:a6 k .non=true:=by simp[a6]
@[simp] theorem afh{k:Nat}{b:Bool}:a6 k (.bl b)=true:=by simp[a6]
@[simp] theorem afi{k:Nat}{b:Int}:a6 k (.int b)=true:=by simp[a6]
@[simp] theorem afj{k:Nat}{b:Str}:a6 k (.str b)=true:=by simp[a6]
@[simp] theorem FJ{k:Nat}{b:List D}:a6 k (.tup b)=a9 k b:=by simp[a6]
@[simp] theorem UH{k:Nat}{b:List D}:a6 k (.lst b)=a9 k b:=by simp[a6]
@[simp] theorem afk{k:Nat}{c:Str}{ns:List Str}{b:List D}:a6 k (.ins c ns b)=a9 k b:=by simp[a6]
@[simp] theorem afl{k:Nat}:a9 k []=true:=by simp[a9]
@[simp] theorem AJ{k:Nat}{d:D}{ds:List D}:a9 k (d::ds)=(a6 k d&&a9 k ds):=by simp[a9]
end
section
variable{X:D->Store->Prop}{Q:jh}{S:Store}{sl:aJ}{G:Store->Prop}{g:cX}{body:SX}
theorem LZ(I:List D->aJ->Store->Prop):∀(xs pre:List D) (sl:aJ) (S:Store),I pre sl S ->
  (∀p x post sl S,pre++xs=p++x::post->I p sl S->G S/\aR (g x sl S) ⟨λa7 S1=>aR (body a7 S1) ⟨λaT S2=>I (p++[x]) aT S2,Q.nx,λaT S2=>I (p++[x]) aT S2,Q.rt,Q.ex⟩,λ_ _=>False,λ_ _=>False,λ_ _=>False,λ_ _ _=>False⟩) ->
  (∀sl S,I (pre++xs) sl S->G S/\Q.nx sl S)->aR (jH G g body xs sl S) Q
 |[],pre,sl,S,h0,step,ew=>by
  rw[y8]at ew;obtain⟨h1,h2⟩:=ew sl S h0;simp only[jH,if_pos h1,ji];exact h2
 |x::xs,pre,sl,S,h0,step,ew=>by
  obtain⟨h1,h2⟩:=step pre x xs sl S rfl h0;simp only[jH,if_pos h1];cases e:g x sl S with
  |nx a7 S1 =>
   rw[e]at h2;simp only[ji]at h2;dsimp only;have hl:pre++x::xs=(pre++[x])++xs:=by simp
   have next:∀aT S2,I (pre++[x]) aT S2->aR (jH G g body xs aT S2) Q:=λaT S2 iN =>
    LZ I xs (pre++[x]) aT S2 iN (λp y post sl S he hp=>step p y post sl S (by grind) hp) (λsl S iN=>ew sl S (by grind))
   cases e2:body a7 S1 with
   |nx aT S2=>rw[e2,ji]at h2;grind
   |ct aT S2=>rw[e2,AA]at h2;grind
   |bk aT S2=>rw[e2,LJ]at h2;dsimp only;rw[ji];exact h2
   |rt d S2=>rw[e2,Fy]at h2;dsimp only;rw[Fy];exact h2
   |ex e aT S2=>rw[e2,Fz]at h2;dsimp only;rw[Fz];exact h2
   |bad=>rw[e2,LK]at h2;exact h2.elim
  |bk _ _=>simp_all
  |ct _ _=>simp_all
  |rt _ _=>simp_all
  |ex _ _ _=>simp_all
  |bad=>simp_all
theorem UI{it:fS}{xs:List D}{ah:Store}(hit:it sl S=.ok (xs,G) ah)(I:List D->aJ->Store->Prop)(h0:I [] sl ah)
  (step:∀p x post sl S,xs=p++x::post->I p sl S->G S/\aR (g x sl S) ⟨λa7 S1=>aR (body a7 S1) ⟨λaT S2=>I (p++[x]) aT S2,Q.nx,λaT S2=>I (p++[x]) aT S2,Q.rt,Q.ex⟩,λ_ _=>False,λ_ _=>False,λ_ _=>False,λ_ _ _=>False⟩)
  (ew:∀sl S,I xs sl S->G S/\Q.nx sl S):aR (q0 it g body sl S) Q:=by
 rw[Uw,hit,cI];exact LZ I xs [] sl ah h0 step ew
theorem FL{c:b9}(I:Nat->aJ->Store->Prop)(step:∀k sl S,I k sl S->We (c sl S) (λb S1=>if b=true then aR (body sl S1) ⟨λaT S2=>∃j,j<k/\I j aT S2,Q.nx,λaT S2=>∃j,j<k/\I j aT S2,Q.rt,Q.ex⟩else Q.nx sl S1) (λe S1=>Q.ex e sl S1)) :
  ∀(n k:Nat) (sl:aJ) (S:Store),I k sl S->k<n->aR (qZ c body n sl S) Q
 |0,_,_,_,_,h=>absurd h (Nat.not_lt_zero _)
 |n+1,k,sl,S,iN,h=>by
  have h2:=step k sl S iN;unfold qZ;rw[ow];refine h2.post λb S1 hb=>?_;cases b with
  |false=>simpa using hb
  |true =>
   simp only[if_true]at hb ⊢;cases e2:body sl S1 with
   |nx aT S2=>rw[e2,ji]at hb;obtain⟨j,bH,FN⟩:=hb;exact FL I step n j aT S2 FN (jA bH (Nat.le_of_lt_succ h))
   |ct aT S2=>rw[e2,AA]at hb;obtain⟨j,bH,FN⟩:=hb;exact FL I step n j aT S2 FN (jA bH (Nat.le_of_lt_succ h))
   |bk aT S2=>simp_all
   |rt d S2=>simp_all
   |ex e aT S2=>simp_all
   |bad=>simp_all
theorem FO{c:b9}(k:Nat)(I:Nat->aJ->Store->Prop)(h0:I k sl S)(hk:k<1000000)(step:∀k sl S,I k sl S->We (c sl S) (λb S1=>if b=true then aR (body sl S1) ⟨λaT S2=>∃j,j<k/\I j aT S2,Q.nx,λaT S2=>∃j,j<k/\I j aT S2,Q.rt,Q.ex⟩else Q.nx sl S1) (λe S1=>Q.ex e sl S1)):aR (tF c body sl S) Q :=
 FL I step Ec k sl S h0 hk
variable{bt:b9}{fe:aQ}{n:Nat}
theorem L0{FP:Unit->Store->Prop}{AK:aJ}(I:List D->List D->Store->Prop)(hn:∀p acc S,I p acc S->S.length=n/\acc.length<=p.length):∀(xs pre acc:List D) (S:Store),(pre++xs).length<=1000000->I pre acc S ->
  (∀p x post acc S,pre++xs=p++x::post->I p acc S->G (S++[.lst acc])/\aR (g x AK (S++[.lst acc])) ⟨λa7 S1=>We (bt a7 S1) (λb S2=>if b=true then We (fe a7 S2) (λd aX=>∃bV,aX=bV++[.lst acc]/\I (p++[x]) (acc++[d]) bV) (λ_ _=>False)else ∃bV,S2=bV++[.lst acc]/\I (p++[x]) acc bV) (λ_ _=>False),λ_ _=>False,λ_ _=>False,λ_ _=>False,λ_ _ _=>False⟩) ->
  (∀acc S,I (pre++xs) acc S->G (S++[.lst acc])/\FP () (S++[.lst acc]))->We (g9 G g bt fe n AK xs (S++[.lst acc])) FP X
 |[],pre,acc,S,hl,h0,step,ew=>by
  rw[y8]at ew;obtain⟨h1,h2⟩:=ew acc S h0;simp only[g9,if_pos h1,cI];exact h2
 |x::xs,pre,acc,S,hl,h0,step,ew=>by
  obtain⟨h1,h2⟩:=step pre x xs acc S rfl h0;simp only[g9,if_pos h1];have afm:pre++x::xs=(pre++[x])++xs:=by simp
  have next:∀acc S2,I (pre++[x]) acc S2->We (g9 G g bt fe n AK xs (S2++[.lst acc])) FP X:=λacc S2 iN =>
   L0 I hn xs (pre++[x]) acc S2 (by grind) iN (λp y post acc S he hp=>step p y post acc S (by grind) hp) (λacc S iN=>ew acc S (by grind))
  cases e:g x AK (S++[.lst acc])with
  |nx a7 S1 =>
   rw[e]at h2;simp only[ji]at h2;dsimp only;cases e2:bt a7 S1 with
   |ok b S2 =>
    rw[e2,cI]at h2;cases b with
    |false =>
     grind
    |true =>
     simp only[if_true]at h2;cases bu:fe a7 S2 with
     |ok d aX =>
      rw[bu,cI]at h2;obtain⟨bV,rfl,bQ⟩:=h2;obtain⟨w5,pZ⟩:=hn _ _ _ bQ;have hg:(bV++[dx.lst acc])[n]?=some (.lst acc):=by rw[vB (by omega),w5];simp
      have cC:acc.length<1000000:=by
       have:=(hn _ _ _ h0).2;simp only[List.length_append,j1]at hl;omega
      grind
     |ex _ _=>rw[bu,Fx]at h2;exact h2.elim
     |bad=>rw[bu,LI]at h2;exact h2.elim
   |ex _ _=>rw[e2,Fx]at h2;exact h2.elim
   |bad=>rw[e2,LI]at h2;exact h2.elim
  |bk _ _=>rw[e,LJ]at h2;exact h2.elim
  |ct _ _=>rw[e,AA]at h2;exact h2.elim
  |rt _ _=>rw[e,Fy]at h2;exact h2.elim
  |ex _ _ _=>rw[e,Fz]at h2;exact h2.elim
  |bad=>rw[e,LK]at h2;exact h2.elim
theorem L1{it:fS}{own:List Nat}{P:D->Store->Prop}{xs:List D}{ah:Store}(hit:it sl S=.ok (xs,G) ah)(hl:xs.length<=1000000)(I:List D->List D->Store->Prop)(hn:∀p acc S,I p acc S->S.length=ah.length/\acc.length<=p.length)(h0:I [] [] ah)
  (step:∀p x post acc S,xs=p++x::post->I p acc S->G (S++[.lst acc])/\aR (g x (cD sl own) (S++[.lst acc])) ⟨λa7 S1=>We (bt a7 S1) (λb S2=>if b=true then We (fe a7 S2) (λd aX=>∃bV,aX=bV++[.lst acc]/\I (p++[x]) (acc++[d]) bV) (λ_ _=>False)else ∃bV,S2=bV++[.lst acc]/\I (p++[x]) acc bV) (λ_ _=>False),λ_ _=>False,λ_ _=>False,λ_ _=>False,λ_ _ _=>False⟩)
  (ew:∀acc S,I xs acc S->G (S++[.lst acc])/\P (.ptr S.length) (S++[.lst acc])):We (cO it g bt fe own sl S) P X:=by
 unfold cO;rw[fq,hit,cI];show We ((g9 G g bt fe ah.length (cD sl own) xs (ah++[.lst []])).bind λ_ S2=>.ok (.ptr ah.length) S2) P X;rw[fq];refine L0 I hn xs [] [] ah hl h0 step λacc S iN=>?_;obtain⟨h1,h2⟩:=ew acc S iN;rw[(hn _ _ _ iN).1]at h2;simp_all
theorem UJ{it:fS}{own:List Nat}{P:D->Store->Prop}{xs:List D}(p:D->Bool)(bY:D->D)(hit:it sl S=.ok (xs,G) S)(hl:xs.length<=1000000)(a8:∀acc,G (S++[.lst acc]))
  (step:∀x∈xs,∀acc,aR (g x (cD sl own) (S++[.lst acc])) ⟨λa7 S1=>We (bt a7 S1) (λb S2=>b=p x/\if p x=true then We (fe a7 S2) (λd aX=>aX=S++[.lst acc]/\d=bY x) (λ_ _=>False)else S2=S++[.lst acc]) (λ_ _=>False),λ_ _=>False,λ_ _=>False,λ_ _=>False,λ_ _ _=>False⟩)
  (ew:P (.ptr S.length) (S++[.lst ((xs.filter p).map bY)])):We (cO it g bt fe own sl S) P X:=by
 refine L1 hit hl (λpre acc S1=>S1=S/\acc=(pre.filter p).map bY) (λpre acc S1 h=>⟨by rw[h.1],by grind⟩) ⟨rfl,rfl⟩ (λpre x post acc S1 he h=>?_) (λacc S1 h=>?_)
 .obtain⟨UK,rfl⟩:=h
  subst UK;refine⟨a8 _,(step x (by rw[he];simp) _).mono (λa7 S1 h=>h.post λb S2 h=>?_) (λ_ _ h=>h) (λ_ _ h=>h) (λ_ _ h=>h) (λ_ _ _ h=>h)⟩;obtain⟨rfl,h⟩:=h;split at h
  .rename_i hp
   rw[if_pos hp];exact h.post λd aX ⟨ao,e2⟩=>⟨_,ao,rfl,by grind⟩
  grind
 grind
theorem UL{it:fS}{own:List Nat}{P:D->Store->Prop}{xs:List D}(p:D->Bool)(bY:D->D)(hit:it sl S=.ok (xs,G) S)(hl:xs.length<=1000000)(a8:∀acc,G (S++[.lst acc]))
  (step:∀x∈xs,∀acc,aR (g x (cD sl own) (S++[.lst acc])) ⟨λa7 S1=>We (bt a7 S1) (λb S2=>b=p x/\if p x=true then We (fe a7 S2) (λd aX=>aX=S++[.lst acc]/\d=bY x) (λ_ _=>False)else S2=S++[.lst acc]) (λ_ _=>False),λ_ _=>False,λ_ _=>False,λ_ _=>False,λ_ _ _=>False⟩)
  (aI:∀x∈xs,p x=true->a6 S.length (bY x)=true)
  (ew:P (.lst ((xs.filter p).map bY)) S):We (cO it g bt fe own sl S) (eS S P) X:=by
 refine UJ p bY hit hl a8 step (FH (fX.refl S) ?_ ew);rw[jP];grind
end
section
variable{S:Store}{sl:aJ}
theorem ud{f:aQ}{d:D}{S1:Store}{xs:List D}(h:f sl S=.ok d S1)(hx:dO S1 d=some xs):hS f sl S=.ok (xs,λS2=>dO S2 d=some xs) S1:=by
 unfold hS;rw[h];show ru d S1=_;unfold ru;cases d<;>first|(simp[dO,cH,cB]at hx;done)|(simp only[hx])
theorem FQ{f:aQ}{j:Int}{S1:Store}(h:f sl S=.ok (.int j) S1)(h1:0<=j)(h2:j<2 ^ 62):kb (aj f aq) sl S=.ok (kX 0 j.toNat,λ_=>True) S1:=by
 simp only[kb,aj,aq,h,kd];grind
theorem UM{f1 f2:aQ}{d e:D}{S1 S2:Store}{xs ys:List D}(h1:f1 sl S=.ok d S1)(h2:f2 sl S1=.ok e S2)(hx:dO S2 d=some xs)(aW:dO S2 e=some ys) :
  wU (aj f1 (aj f2 aq)) sl S=.ok (rx xs ys,λS2=>dO S2 d=some xs/\dO S2 e=some ys) S2:=by
 simp only[wU,aj,aq,h1,h2,kd,hx,aW]
theorem UN{f1:aQ}{d:D}{S1:Store}{xs:List D}(h1:f1 sl S=.ok d S1)(hx:dO S1 d=some xs) :
  oo (aj f1 aq) sl S=.ok (lT 0 xs,λS2=>dO S2 d=some xs) S1:=by
 simp only[oo,aj,aq,h1,kd,hx]
theorem UO{i:Nat}{d:D}(h:sl[i]?=some (some d)):ai i sl S=.ok d S:=by simp only[ai,h]
@[simp] theorem afn(s:Str):dO S (.str s)=some (wR s):=(rfl)
@[simp] theorem lW(xs:List D):dO S (.lst xs)=some xs:=(rfl)
@[simp] theorem afo(xs:List D):cH S (.tup xs)=some xs:=(rfl)
@[simp] theorem w6(xs:List D):cB S (.lst xs)=some xs:=(rfl)
end
section
variable{S:Store}{P:D->Store->Prop}{X:D->Store->Prop}
@[simp] theorem FR{α:Type}(xs:List α)(k:Nat):atI xs (k:Int)=xs[k]?:=by
 unfold atI ixN;grind
@[simp] theorem afp{α:Type}(xs:List α):atI xs 0=xs[0]?:=FR xs 0
@[simp] theorem afq{α:Type}(xs:List α):atI xs 1=xs[1]?:=FR xs 1
@[simp] theorem afr{α:Type}(xs:List α):atI xs 2=xs[2]?:=FR xs 2
theorem L3{α:Type}{xs:List α}(h:xs≠[]):atI xs (-1)=some (xs.getLast h):=by
 have hp:=Df.mpr h;unfold atI ixN;rw[if_neg (by omega),if_pos (by omega)];simp only[Option.bind_some];rw[List.getLast_eq_getElem,List.getElem?_eq_some_iff];exact⟨by omega,by congr 1;omega⟩
theorem p3{f g:bR}{d e:D}{a:D}{ah:Store}(h:f d e S=.ok a ah):c7 f g d e S=.ok a ah:=by unfold c7;rw[h]
theorem e3{f g:bR}{d e:D}(h:f d e S=.bad):c7 f g d e S=g d e S:=by unfold c7;rw[h]
theorem L4{f g:aK}{d:List D}{a:D}{ah:Store}(h:f d S=.ok a ah):px f g d S=.ok a ah:=by unfold px;rw[h]
theorem AO{f g:aK}{d:List D}(h:f d S=.bad):px f g d S=g d S:=by unfold px;rw[h]
@[simp] theorem afs{xs:List D}{i:Int}:We (a4 (.lst xs) (.int i) S) P X=∃x,atI xs i=some x/\P x S:=by
 rw[Ft];cases atI xs i<;>simp
@[simp] theorem aft{xs:List D}{i:Int}:We (a4 (.tup xs) (.int i) S) P X=∃x,atI xs i=some x/\P x S:=by
 rw[Us];cases atI xs i<;>simp
@[simp] theorem afu{l:List Nat}{i:Int}:We (a4 (.str (a0 l)) (.int i) S) P X=(l.length<=1000000/\∃c,atI l i=some c/\P (iM c) S):=by
 by_cases h:l.length<=1000000
 .cases e:atI l i with
  |none =>
   have:a4 (.str (a0 l)) (.int i) S=.bad:=by
    unfold a4;rw[e3 (by simp only[n7];grind)];rfl
   rw[this];simp
  |some c =>
   have:a4 (.str (a0 l)) (.int i) S=.ok (iM c) S:=by
    unfold a4;exact p3 (by simp only[n7];simp_all)
   simp_all
 .have:a4 (.str (a0 l)) (.int i) S=.bad:=by
   unfold a4;rw[e3 (by simp only[n7];rw[if_neg (by simpa using h)])];rfl
  rw[this];simp[h]
@[simp] theorem afv{s:Int}:lR (.int s)=some (.inl s):=(rfl)
@[simp] theorem afw{l:List Nat}:We (cU [.str (a0 l)] S) P X=(l.length<=1000000/\P (.int l.length) S):=by
 by_cases h:l.length<=1000000
 .have:cU [.str (a0 l)] S=.ok (.int l.length) S:=by
   unfold cU;refine L4 ?_;simp[wD,h]
  simp_all
 .have:cU [.str (a0 l)] S=.bad:=by
   unfold cU;rw[AO (by simp[wD,h])];rfl
  rw[this];simp[h]
@[simp] theorem afx{xs:List D}:cU [.tup xs] S=.ok (.int xs.length) S:=by rfl
@[simp] theorem afy{xs:List D}:cU [.bF xs] S=.ok (.int xs.length) S:=by rfl
@[simp] theorem AQ{xs:List D}:cU [.lst xs] S=.ok (.int xs.length) S:=by rfl
@[simp] theorem afz{ks vs:List D}:cU [.dct ks vs] S=.ok (.int ks.length) S:=by rfl
@[simp] theorem afA{a b:List Nat}:We (cZ (.str (a0 a)) (.str (a0 b)) S) P X=(a.length+b.length<=1000000/\P (.str (a0 (a++b))) S):=by
 by_cases h:a.length+b.length<=1000000
 .have:cZ (.str (a0 a)) (.str (a0 b)) S=.ok (.str (a0 (a++b))) S:=by
   unfold cZ;rw[e3 (by rfl)];exact p3 (by simp[tQ,h])
  simp_all
 .have:cZ (.str (a0 a)) (.str (a0 b)) S=.bad:=by
   unfold cZ;rw[e3 (by rfl),e3 (by simp[tQ,h]),e3 (by rfl)];rfl
  rw[this];simp[h]
@[simp] theorem afB{a b:List D}:We (cZ (.lst a) (.lst b) S) P X=(a.length+b.length<=1000000/\P (.lst (a++b)) S):=by
 by_cases h:a.length+b.length<=1000000
 .have:cZ (.lst a) (.lst b) S=.ok (.lst (a++b)) S:=by
   unfold cZ;rw[e3 (by rfl),e3 (by rfl)];exact p3 (by simp[n5,cB,h])
  simp_all
 .have:cZ (.lst a) (.lst b) S=.bad:=by
   unfold cZ;rw[e3 (by rfl),e3 (by rfl),e3 (by simp[n5,cB,h])];rfl
  rw[this];simp[h]
theorem UP{neg:Bool}{c:Nat}{l:List Nat}:pF neg (iM c) (.str (a0 l)) S=.ok (.bl (if neg=true then !decide (c∈l)else decide (c∈l))) S:=by
 rfl
@[simp] theorem UQ{c:Nat}{l:List Nat}:gO (iM c) (.str (a0 l)) S=.ok (.bl (decide (c∈l))) S:=p3 (UP (neg:=false))
theorem L5{neg:Bool}{k e:D}{xs:List D}(h:cH S e=some xs):pF neg k e S=.bad:=by
 cases e<;>first|(simp[cH,cB]at h;done)|(cases k<;>rfl)
theorem L6{neg:Bool}{k e:D}{xs:List D}(h:cH S e=some xs):pO neg k e S=.bad:=by
 unfold pO;have:asD S e=none:=by
  cases e with
  |ptr n =>
   simp only[cH,cB]at h;split at h
   .rename_i ds e;simp[asD,e]
   .cases h
  |_=>first|rfl|(simp[cH,cB]at h;done)
 rw[this]
theorem L7{k e:D}{xs:List D}(h:cH S e=some xs)(hk:jK k=true)(hx:xs.all jK=true):ou k e S=.ok (.bl (!inD k xs)) S:=by
 unfold ou;rw[e3 (L5 h),e3 (L6 h)];unfold pG;grind
theorem L8{k e:D}{xs:List D}(h:cH S e=some xs)(hk:jK k=true)(hx:xs.all jK=true):gO k e S=.ok (.bl (inD k xs)) S:=by
 unfold gO;rw[e3 (L5 h),e3 (L6 h)];unfold pG;grind
@[simp] theorem afC{c:Nat}{l:List Nat}:inD (iM c) (l.map iM)=decide (c∈l):=by
 unfold inD
 induction l with
 |nil=>rfl
 |cons x l ih =>
  rw[dD,List.any_cons,ih];have:q_ (iM x) (iM c)=decide (x=c):=by
   show((a0 [x])==(a0 [c]))=_;by_cases h:x=c
   .subst h;simp
   .simp[h]
  grind
theorem sIx_nat(n d k:Nat):HT.sIx n d (some (k:Int))=min k n:=HT.sIx_nat n d k
@[simp] theorem afD(l:List Nat)(k:Nat):cutS (a0 l) (some (k:Int)) none=a0 (l.drop k):=by
 unfold cutS;congr 1;rw[HT.sIx_none,sIx_nat,Fv];grind
@[simp] theorem afE(l:List Nat)(k:Nat):cutS (a0 l) none (some (k:Int))=a0 (l.take k):=by
 unfold cutS;congr 1;rw[HT.sIx_none,sIx_nat,Fv];simp
@[simp] theorem UR(l:List D)(k:Nat):gq l (some (k:Int)) none=l.drop k:=by
 unfold gq;rw[HT.sIx_none,sIx_nat];rw[List.take_of_length_le (by simp)];simp
@[simp] theorem AU(l:List D)(k:Nat):gq l none (some (k:Int))=l.take k:=by
 unfold gq;rw[HT.sIx_none,sIx_nat,List.drop_zero,Nat.sub_zero];simp
@[simp] theorem afF(l:List D):gq l none (some 63)=l.take 63:=AU l 63
@[simp] theorem afG{h:Bool}{l:List Nat}{lo hi:Option Int}:We (oe h (.str (a0 l)) lo hi S) P X=(l.length<=1000000/\P (.str (cutS (a0 l) lo hi)) S):=by
 by_cases h:l.length<=1000000<;>simp[oe,h]
@[simp] theorem afH{h:Bool}{xs:List D}{lo hi:Option Int}:oe h (.tup xs) lo hi S=.ok (.tup (gq xs lo hi)) S:=(rfl)
@[simp] theorem FT{xs:List D}{lo hi:Option Int}:oe false (.lst xs) lo hi S=.ok (.lst (gq xs lo hi)) S:=(rfl)
@[simp] theorem afI{xs:List Int}{lo hi:Option Int}:oe false (.bI xs) lo hi S=.ok (.lst (gq (xs.map .int) lo hi)) S:=(rfl)
@[simp] theorem afJ{ds:List D}:We (jar ds S) P X=(ds.length<=1000000/\P (.tup ds) S):=by
 unfold jar;by_cases h:ds.length<=1000000<;>simp[h]
@[simp] theorem afK{ds:List D}:We (eG ds S) P X=(ds.length<=1000000/\P (.lst ds) S):=by
 unfold eG;by_cases h:ds.length<=1000000<;>simp[h]
@[simp] theorem afL{ds:List D}:We (lJ ds S) P X=(ds.length<=1000000/\P (.ptr S.length) (S++[.lst ds])):=by
 unfold lJ;by_cases h:ds.length<=1000000<;>simp[h]
@[simp] theorem UT{α:Type}{p:α->Bool}{xs:List α}:tR (xs.map λx=>.bl (p x))=some (xs.map p):=by
 induction xs with
 |nil=>rfl
 |cons x xs ih=>simp[tR,ih]
@[simp] theorem afM{α:Type}{p:α->Bool}{xs:List α}:pH [.lst (xs.map λx=>.bl (p x))] S=.ok (.bl (xs.all p)) S:=by
 simp only[pH,w6,UT];simp
theorem L_{α:Type}{xs:List α}:pH [.lst (xs.map λ_=>.bl true)] S=.ok (.bl true) S:=by
 simp
@[simp] theorem afN{xs:List D}:mY [.lst xs] S=.ok (.lst xs) S:=(rfl)
@[simp] theorem UU{xs:List D}:wF [.lst xs] S=.ok (.tup xs) S:=(rfl)
@[simp] theorem afO{i:Int}:ib [.int i] S=.ok (.int i) S:=(rfl)
@[simp] theorem UW{xs:List (List Nat)}:tV (xs.map λl=>.str (a0 l))=some (xs.map a0):=by
 induction xs with
 |nil=>rfl
 |cons x xs ih=>simp[tV,ih]
theorem UX:∀xs:List (List Nat),Txt.join (a0 []) (xs.map a0)=a0 xs.flatten:=λxs=>by
 unfold Txt.join;rw[StrLaws.glued_eq_join]
 induction xs with
 |nil=>rfl
 |cons a xs ih =>
  cases xs with
  |nil=>simp[Str.join]
  |cons b r =>
   simp only[dD,Str.join]at ih ⊢;simp_all
@[simp] theorem UY{xs:List (List Nat)}{d:D}(h:cH S d=some (xs.map λl=>.str (a0 l))):We (tW (.str (a0 [])) [d] S) P X=((xs.map List.length).sum<=1000000/\P (.str (a0 xs.flatten)) S):=by
 simp only[tW,h,UW];rw[UX];have e:(List.map (λx=>x.length) (List.map a0 xs)).sum+(List.map a0 xs).length * (a0 []).length=(xs.map List.length).sum:=by
  rw[Fv];simp only[nO,Nat.mul_zero,Nat.add_zero,s8];congr 1
 rw[e];by_cases h:(xs.map List.length).sum<=1000000<;>simp[h]
theorem L':∀l:List Nat,((l.map λc=>[c]).map List.length).sum=l.length
 |[]=>rfl
 |a::l=>by
  have:=L' l;grind
theorem Ma:∀l:List Nat,(l.map λc=>[c]).flatten=l
 |[]=>rfl
 |a::l=>by simp[Ma l]
theorem UZ{l:List Nat}{d:D}(h:cH S d=some (l.map iM)):We (tW (.str (a0 [])) [d] S) P X=(l.length<=1000000/\P (.str (a0 l)) S):=by
 have:=UY (P:=P) (X:=X) (S:=S) (xs:=l.map λc=>[c]) (d:=d) (by rw[h];simp);rw[this];rw[L',Ma]
theorem Mb{n:Nat}{xs:List D}{e:D}(h:S[n]?=some (.lst xs))(hl:xs.length<1000000):n' (.ptr n) [e] S=.ok .non (S.set n (.lst (xs++[e]))):=by
 simp only[n',h];grind
@[simp] theorem afP:cj .non "int"=some false:=by decide
@[simp] theorem afQ:cj .non "bool"=some false:=by decide
@[simp] theorem afR:cj .non "str"=some false:=by decide
@[simp] theorem afS:cj .non "list"=some false:=by decide
@[simp] theorem afT:cj .non "tuple"=some false:=by decide
@[simp] theorem afU:cj .non "dict"=some false:=by decide
@[simp] theorem afV:cj .bl "int"=some true:=by decide
@[simp] theorem afW:cj .bl "bool"=some true:=by decide
@[simp] theorem afX:cj .bl "str"=some false:=by decide
@[simp] theorem afY:cj .bl "list"=some false:=by decide
@[simp] theorem afZ:cj .bl "tuple"=some false:=by decide
@[simp] theorem af0:cj .bl "dict"=some false:=by decide
@[simp] theorem af1:cj .int "int"=some true:=by decide
@[simp] theorem af2:cj .int "bool"=some false:=by decide
@[simp] theorem af3:cj .int "str"=some false:=by decide
@[simp] theorem af4:cj .int "list"=some false:=by decide
@[simp] theorem af5:cj .int "tuple"=some false:=by decide
@[simp] theorem af6:cj .int "dict"=some false:=by decide
@[simp] theorem af7:cj .str "int"=some false:=by decide
@[simp] theorem af8:cj .str "bool"=some false:=by decide
@[simp] theorem af9:cj .str "str"=some true:=by decide
@[simp] theorem jmp:cj .str "list"=some false:=by decide
@[simp] theorem aga:cj .str "tuple"=some false:=by decide
@[simp] theorem agb:cj .str "dict"=some false:=by decide
@[simp] theorem agc:cj .tup "int"=some false:=by decide
@[simp] theorem agd:cj .tup "bool"=some false:=by decide
@[simp] theorem age:cj .tup "str"=some false:=by decide
@[simp] theorem agf:cj .tup "list"=some false:=by decide
@[simp] theorem agg:cj .tup "tuple"=some true:=by decide
@[simp] theorem agh:cj .tup "dict"=some false:=by decide
@[simp] theorem agi:cj .lst "int"=some false:=by decide
@[simp] theorem agj:cj .lst "bool"=some false:=by decide
@[simp] theorem agk:cj .lst "str"=some false:=by decide
@[simp] theorem agl:cj .lst "list"=some true:=by decide
@[simp] theorem agm:cj .lst "tuple"=some false:=by decide
@[simp] theorem agn:cj .lst "dict"=some false:=by decide
@[simp] theorem ago:cj .dct "int"=some false:=by decide
@[simp] theorem agp:cj .dct "bool"=some false:=by decide
@[simp] theorem agq:cj .dct "str"=some false:=by decide
@[simp] theorem agr:cj .dct "list"=some false:=by decide
@[simp] theorem ags:cj .dct "tuple"=some false:=by decide
@[simp] theorem agt:cj .dct "dict"=some true:=by decide
@[simp] theorem agu:hM S .non=some .non:=(rfl)
@[simp] theorem agv{b:Bool}:hM S (.bl b)=some .bl:=(rfl)
@[simp] theorem agw{b:Int}:hM S (.int b)=some .int:=(rfl)
@[simp] theorem agx{b:Str}:hM S (.str b)=some .str:=(rfl)
@[simp] theorem agy{b:List D}:hM S (.tup b)=some .tup:=(rfl)
@[simp] theorem agz{b:List D}:hM S (.bF b)=some .tup:=(rfl)
@[simp] theorem agA{b:List D}:hM S (.lst b)=some .lst:=(rfl)
@[simp] theorem agB{d:D}{T:String}:We (ec [d,.ty T] S) P X=lV (hM S d) λk=>lV (cj k T) λb=>P (.bl b) S:=by
 cases e:hM S d with
 |none =>
  have:ec [d,.ty T] S=.bad:=by
   unfold ec;rw[AO (by simp[q',e])];simp[rg]
  rw[this];simp
 |some k =>
  cases e2:cj k T with
  |none =>
   have:ec [d,.ty T] S=.bad:=by
    unfold ec;rw[AO (by simp[q',e,e2])];simp[rg]
   simp_all
  |some b =>
   have:ec [d,.ty T] S=.ok (.bl b) S:=by
    unfold ec;exact L4 (by simp[q',e,e2])
   simp_all
@[simp] theorem agC{d:D}{ts:List D}:We (ec [d,.tup ts] S) P X=lV (hM S d) λk=>lV (mX ts) λjL=>lV (lP k jL) λb=>P (.bl b) S:=by
 have dg:ec [d,.tup ts] S=rg [d,.tup ts] S:=by
  unfold ec;exact AO (by simp[q'])
 rw[dg];simp only[rg];cases e:hM S d with
 |none=>simp
 |some k =>
  cases ao:mX ts with
  |none=>simp
  |some jL =>
   dsimp only;cases e2:lP k jL<;>simp[e2]
@[simp] theorem agD:mX []=some []:=(rfl)
@[simp] theorem agE{T:String}{r:List D}:mX (.ty T::r)=(mX r).map (T :: ·):=(rfl)
@[simp] theorem agF{k:j'}:lP k []=some false:=(rfl)
@[simp] theorem agG{k:j'}{T:String}{r:List String}:lP k (T::r)=(cj k T).bind λb=>(lP k r).map λc=>b||c:=by
 simp only[lP];cases cj k T<;>cases lP k r<;>rfl
def oy(l:List Nat):Prop:=∀c∈l,c<1114112
theorem AV{l:List Nat}(h:oy l):SeqAt.shaped (.str (a0 l))=true:=Uq (by
 unfold PyData.strOk;simp;exact h)
theorem Md{a b:List Nat}(ha:oy a)(hb:oy b):bC false (.str (a0 a)) (.str (a0 b)) S=.ok (.bl (decide (a=b))) S:=by
 simp[bC,toP,fW,PyData.eqv,AV ha,AV hb];grind
theorem U0{a b:List Nat}(ha:oy a)(hb:oy b):bC true (.str (a0 a)) (.str (a0 b)) S=.ok (.bl (!decide (a=b))) S:=by
 simp[bC,toP,fW,PyData.eqv,AV ha,AV hb];grind
@[simp] theorem agH{a b:Bool}:bC false (.bl a) (.bl b) S=.ok (.bl (decide (a=b))) S:=by
 rfl
@[simp] theorem agI{a b:Bool}:bC true (.bl a) (.bl b) S=.ok (.bl (!decide (a=b))) S:=by
 rfl
@[simp] theorem agJ{d:D}{neg:Bool}:q9 neg d .non S=.ok (.bl (if neg=true then !n4 d else n4 d)) S:=(rfl)
@[simp] theorem agK:n4 .non=true:=(rfl)
@[simp] theorem agL{b:Bool}:n4 (.bl b)=false:=(rfl)
@[simp] theorem agM{b:Int}:n4 (.int b)=false:=(rfl)
@[simp] theorem agN{b:Str}:n4 (.str b)=false:=(rfl)
end
def uf:SX :=
 (b0 (az lJ (aj (az mY (aj (iJ false (ai 0) hP (hQ (au (.int 63)))) aq)) (aj (au (.int 0)) (aj (au (.int 0)) (aj (au (.int 5625)) aq))))))
def w7:aK:=dV 1 (pU 1 uf)
def fG:SX :=
 (a' (cK (lI (a5 (ay (bC false) (ay a4 (ai 0) (au (.int 2))) (au (.int 0)))) (a5 (ay ot (ay a4 (ai 0) (au (.int 1))) (az cU (aj (ay a4 (ai 0) (au (.int 0))) aq)))))
 (a' (b_ (ay a4 (ay a4 (ai 0) (au (.int 0))) (ay a4 (ai 0) (au (.int 1)))) (aV 2))
 (a' (b_ (ay cZ (ay a4 (ai 0) (au (.int 1))) (au (.int 1))) (jf (ai 0) (au (.int 1))))
 (cK (a5 (ay wz (ai 2) (ay zU (au (.int 10)) (au (.int 18)))))
 (b_ (ai 2) (jf (ai 0) (au (.int 2))))
 (b_ (ay hL (az ib (aj (ay cZ (ay cZ (ay e1 (ay a4 (ai 0) (au (.int 3))) (au (.int 48817))) (ay e1 (ay hL (az ib (aj (ai 2) aq)) (au (.int 2147483399))) (au (.int 9241)))) (au (.int 17))) aq)) (au (.int 2147483563))) (jf (ai 0) (au (.int 3)))))))
 cW)
 (a' (cK (a5 (ay mW (ay a4 (ai 0) (au (.int 2))) (au (.int 0))))
 (a' (b_ (ay hL (az ib (aj (ay a4 (ai 0) (au (.int 2))) aq)) (ai 1)) (aV 3))
 (a' (b_ (ay hJ (ay a4 (ai 0) (au (.int 2))) (ai 1)) (jf (ai 0) (au (.int 2))))
 (b0 (ai 3))))
 cW)
 (a' (b_ (ay a4 (ai 0) (au (.int 3))) (aV 4))
 (a' (b_ (ay hL (az ib (aj (ay cZ (ay cZ (ay e1 (ai 4) (ai 4)) (ay e1 (ai 4) (au (.int 31013)))) (au (.int 1402361))) aq)) (au (.int 2147483563))) (jf (ai 0) (au (.int 3))))
 (b0 (ay hL (az ib (aj (ay cZ (ay hJ (ay a4 (ai 0) (au (.int 3))) (au (.int 71))) (ay e1 (ay hL (az ib (aj (ay a4 (ai 0) (au (.int 3))) aq)) (au (.int 7907))) (au (.int 59)))) aq)) (ai 1)))))))
def gv:aK:=dV 2 (cN 5 fG)
def k2:SX :=
 (b0 (ay a4 (ai 1) (az gv (aj (ai 0) (aj (az cU (aj (ai 1) aq)) aq)))))
def iO:aK:=dV 2 (cN 2 k2)
def ie(again:aK):SX :=
 (a' (cK (a5 (az ec (aj (ai 1) (aj (az jar (aj (au (.ty "list")) (aj (au (.ty "tuple")) aq))) aq))))
 (a' (cK (fQ (a5 (ay (bC true) (az ec (aj (ai 0) (aj (au (.ty "list")) aq))) (az ec (aj (ai 1) (aj (au (.ty "list")) aq))))) (a5 (ay (bC true) (az ec (aj (ai 0) (aj (au (.ty "tuple")) aq))) (az ec (aj (ai 1) (aj (au (.ty "tuple")) aq))))))
 (b0 (au (.bl false)))
 cW)
 (b0 (i_ (ay (bC false) (az cU (aj (ai 0) aq)) (az cU (aj (ai 1) aq))) (az pH (aj (cP (cO (wU (aj (ai 0) (aj (ai 1) aq))) (fy (cL (aV 2) (cL (aV 3) e'))) dA (az again (aj (ai 2) (aj (ai 3) aq))) [2,3])) aq)))))
 cW)
 (a' (cK (fQ (a5 (ay (q9 false) (ai 1) (au .non))) (a5 (ay (q9 false) (ai 0) (au .non))))
 (b0 (i_ (ay (q9 false) (ai 1) (au .non)) (ay (q9 false) (ai 0) (au .non))))
 cW)
 (a' (cK (fQ (a5 (ay (bC true) (az ec (aj (ai 0) (aj (au (.ty "bool")) aq))) (az ec (aj (ai 1) (aj (au (.ty "bool")) aq))))) (a5 (ay (bC true) (az ec (aj (ai 0) (aj (au (.ty "int")) aq))) (az ec (aj (ai 1) (aj (au (.ty "int")) aq))))))
 (b0 (au (.bl false)))
 cW)
 (b0 (i_ (ay (bC false) (az ec (aj (ai 0) (aj (au (.ty "str")) aq))) (az ec (aj (ai 1) (aj (au (.ty "str")) aq)))) (ay (bC false) (ai 0) (ai 1)))))))
def nc:Nat->aK
 |0=>λ_ _=>.bad
 |k+1=>dV 2 (cN 4 (ie (nc k)))
def oz:aK:=nc 12
def ft(cs:List Int)(a g s:Int):dx:=.lst [.lst (cs.map .int),.int a,.int g,.int s]
theorem U1(cs:List Int)(a g b8:Int)(S:Store)(n:Nat)(many:Int)(ef:S[n]?=some (ft cs a g b8))(hb:0<g)(hm:0<many)(p4:many.natAbs.log2<9000) :
  (fG [some (.ptr n),some (.int many),none,none,none] S).out=.ok (.int (g % many)) (S.set n (ft cs a (g / many) b8)):=by
 unfold ft at ef ⊢;have hg:¬(g=0):=by omega
 have hn:n<S.length:=(List.getElem?_eq_some_iff.mp ef).1;simp[fG,a',cK,lI,a5,ay,ai,au,rD ef,atI,ixN,hg,cW,hb,b_,az,aj,aq,ib,kZ hm,rC hm p4,aV,jf,rm,ef,b0]
theorem Mf{xs:List D}{i:Int}(h0:0<=i)(h:i<xs.length):atI xs i=xs[i.toNat]?:=by
 simp[atI,ixN,h0,h]
theorem U2(cs:List Int)(a b8 c:Int)(S:Store)(n:Nat)(many:Int)(ef:S[n]?=some (ft cs a 0 b8))(ha:0<=a)(hl:a<cs.length)(hc:cs[a.toNat]?=some c)(ka:1000000000000000000<=c)(hm:0<many)(p4:many.natAbs.log2<9000) :
  (fG [some (.ptr n),some (.int many),none,none,none] S).out=.ok (.int (c % many)) (S.set n (ft cs (a+1) (c / many) b8)):=by
 unfold ft at ef ⊢;have hn:n<S.length:=(List.getElem?_eq_some_iff.mp ef).1;have U3:0<c:=by omega
 have FU:a4 (.lst (cs.map .int)) (.int a) S=.ok (.int c) S:=by rw[Ft,Mf ha (by grind)];simp[hc]
 have Mg:∀m gI:dx,(S.set n m).set n gI=S.set n gI:=λm gI=>by simp
 have ng:∀m:dx,(S.set n m)[n]?=some m:=λm=>lC hn;have FV:zU (.int 10) (.int 18)=λS=>.ok (.int 1000000000000000000) S:=by funext S;rfl
 simp[fG,a',cK,lI,a5,ay,ai,au,rD ef,atI,ixN,cW,b_,az,aj,aq,ib,kZ hm,rC hm p4,aV,jf,rm,ef,b0,AQ,hl,FU,rD (ng _),ng,FV,ka,U3]
theorem AW{i:Int}(h:i.natAbs<2 ^ 60):i.natAbs.log2<60:=by
 by_cases h0:i.natAbs=0
 .rw[h0];decide
 .exact(Nat.log2_lt h0).mpr h
theorem oA{i j:Int}(S:Store)(h:i.natAbs<2 ^ 60)(h2:j.natAbs<2 ^ 60):e1 (.int i) (.int j) S=.ok (.int (i * j)) S:=by
 have:=AW h;have:=AW h2;exact Ur (by omega) S
def iP(b8 c:Int):Int:=(b8 * 48817+c % 2147483399 * 9241+17) % 2147483563
def p5(b8:Int):Int:=(b8 * b8+b8 * 31013+1402361) % 2147483563
def AX(b8:Int):Int:=b8 / 71+b8 % 7907 * 59
theorem AY(b8:Int):0<=p5 b8/\p5 b8<2147483563:=⟨Int.emod_nonneg _ (by decide),Dg _ (by decide)⟩
theorem U4(b8 c:Int):0<=iP b8 c/\iP b8 c<2147483563:=⟨Int.emod_nonneg _ (by decide),Dg _ (by decide)⟩
theorem U5(cs:List Int)(a b8:Int)(S:Store)(n:Nat)(many:Int)(ef:S[n]?=some (ft cs a 0 b8))(ha:0<=a)(hl:¬a<cs.length)(h0:0<=b8)(h1:b8<2147483563)(hm:0<many)(p4:many.natAbs.log2<9000) :
  (fG [some (.ptr n),some (.int many),none,none,none] S).out=.ok (.int (AX (p5 b8) % many)) (S.set n (ft cs a 0 (p5 b8))):=by
 unfold ft at ef ⊢;have hn:n<S.length:=(List.getElem?_eq_some_iff.mp ef).1;have Mg:∀m gI:dx,(S.set n m).set n gI=S.set n gI:=λm gI=>by simp
 have ng:∀m:dx,(S.set n m)[n]?=some m:=λm=>lC hn;have bq:∀S,e1 (.int b8) (.int b8) S=.ok (.int (b8 * b8)) S:=λS=>oA S (by omega) (by omega);have bK:∀S,e1 (.int b8) (.int 31013) S=.ok (.int (b8 * 31013)) S:=λS=>oA S (by omega) (by decide);have z:∀x:Int,(x % 7907).natAbs<2 ^ 60:=λx=>by omega
 have gN:∀S x,e1 (.int (x % 7907)) (.int 59) S=.ok (.int (x % 7907 * 59)) S:=λS x=>oA S (z x) (by decide);have m1:∀S x,hL (.int x) (.int 2147483563) S=.ok (.int (x % 2147483563)) S:=λS x=>kZ (by decide) S;have m2:∀S x,hL (.int x) (.int 7907) S=.ok (.int (x % 7907)) S:=λS x=>kZ (by decide) S;have nX:∀S x,hJ (.int x) (.int 71) S=.ok (.int (x / 71)) S:=λS x=>rC (by decide) (by decide) S;simp[fG,a',cK,lI,a5,ay,ai,au,rD ef,atI,ixN,cW,b_,az,aj,aq,ib,kZ hm,aV,jf,rm,ef,b0,AQ,hl,rD (ng _),ng,bq,bK,gN,m1,m2,nX,AX,p5]
theorem U6(cs:List Int)(a b8 c:Int)(S:Store)(n:Nat)(many:Int)(ef:S[n]?=some (ft cs a 0 b8))(ha:0<=a)(hl:a<cs.length)(hc:cs[a.toNat]?=some c)(ka:¬1000000000000000000<=c)(h0:0<=b8)(h1:b8<2147483563)(hm:0<many)(p4:many.natAbs.log2<9000) :
  (fG [some (.ptr n),some (.int many),none,none,none] S).out=.ok (.int (AX (p5 (iP b8 c)) % many)) (S.set n (ft cs (a+1) 0 (p5 (iP b8 c)))):=by
 unfold ft at ef ⊢;have hn:n<S.length:=(List.getElem?_eq_some_iff.mp ef).1;have FU:a4 (.lst (cs.map .int)) (.int a) S=.ok (.int c) S:=by rw[Ft,Mf ha (by grind)];simp[hc]
 have Mg:∀m gI:dx,(S.set n m).set n gI=S.set n gI:=λm gI=>by simp
 have ng:∀m:dx,(S.set n m)[n]?=some m:=λm=>lC hn;have FV:zU (.int 10) (.int 18)=λS=>.ok (.int 1000000000000000000) S:=by funext S;rfl
 have e:=U4 b8 c;have z:∀x:Int,(x % 7907).natAbs<2 ^ 60:=λx=>by omega
 have d9:∀x:Int,(x % 2147483399).natAbs<2 ^ 60:=λx=>by omega
 have w8:(iP b8 c).natAbs<2 ^ 60:=by omega
 have jj:∀S,e1 (.int b8) (.int 48817) S=.ok (.int (b8 * 48817)) S:=λS=>oA S (by omega) (by decide);have U7:∀S x,e1 (.int (x % 2147483399)) (.int 9241) S=.ok (.int (x % 2147483399 * 9241)) S:=λS x=>oA S (d9 x) (by decide);have bq:∀S,e1 (.int (iP b8 c)) (.int (iP b8 c)) S=.ok (.int (iP b8 c * iP b8 c)) S:=λS=>oA S w8 w8;have bK:∀S,e1 (.int (iP b8 c)) (.int 31013) S=.ok (.int (iP b8 c * 31013)) S:=λS=>oA S w8 (by decide);have gN:∀S x,e1 (.int (x % 7907)) (.int 59) S=.ok (.int (x % 7907 * 59)) S:=λS x=>oA S (z x) (by decide);have m1:∀S x,hL (.int x) (.int 2147483563) S=.ok (.int (x % 2147483563)) S:=λS x=>kZ (by decide) S;have m2:∀S x,hL (.int x) (.int 7907) S=.ok (.int (x % 7907)) S:=λS x=>kZ (by decide) S;have AZ:∀S x,hL (.int x) (.int 2147483399) S=.ok (.int (x % 2147483399)) S:=λS x=>kZ (by decide) S;have nX:∀S x,hJ (.int x) (.int 71) S=.ok (.int (x / 71)) S:=λS x=>rC (by decide) (by decide) S;have fA:(b8 * 48817+c % 2147483399 * 9241+17) % 2147483563=iP b8 c:=rfl;have fB:(iP b8 c * iP b8 c+iP b8 c * 31013+1402361) % 2147483563=p5 (iP b8 c):=rfl;simp[fG,a',cK,lI,a5,ay,ai,au,rD ef,atI,ixN,cW,b_,az,aj,aq,ib,kZ hm,aV,jf,rm,ef,b0,AQ,hl,FU,rD (ng _),ng,FV,ka,jj,bq,bK,gN,U7,m1,m2,AZ,nX,fA,fB,AX]
theorem U8{S:Store}{n:Nat}{m:dx}(h:hH S.length m=true):kP S (S.set n m):=λi gI hi e=>by
 grind
theorem Mh(k:Nat):∀cs:List Int,a9 k (cs.map .int)=true
 |[]=>rfl
 |c::cs=>by rw[dD,a9,a6,Mh k cs];rfl
theorem A0(k:Nat)(cs:List Int)(a g s:Int):hH k (ft cs a g s)=true:=by
 simp[ft,hH,a9,a6,Mh]
theorem U9{S:Store}{n:Nat}{m:dx}{d:D}(h:hH S.length m=true)(hd:∀g,cG g d=some d):fin S (.ok d (S.set n m))=.ok d (S.set n m):=by
 simp only[fin,if_pos (U8 h),hd];rw[show(S.set n m).take S.length=S.set n m from List.take_of_length_le (by simp)]
structure U_(S:Store)(n:Nat)(cs:List Int)(a g s:Int):Prop where
 at_:S[n]?=some (ft cs a g s)
 ug:0<=a
 nh:0<=g
 s0:0<=s
 s1:s<2147483563
def fZ(S:Store)(n:Nat)(cs:List Int):Prop:=∃a g s,U_ S n cs a g s
def Drawn(n:Nat)(cs:List Int)(S ah:Store):Prop:=fZ ah n cs/\∃a g s,ah=S.set n (ft cs a g s)
section
variable{S ah w9 T:Store}{n:Nat}{cs:List Int}
theorem fZ.lt(h:fZ S n cs):n<S.length:=by
 obtain⟨a,g,s,h⟩:=h;exact(List.getElem?_eq_some_iff.mp h.at_).1
theorem fZ.app(h:fZ S n cs):fZ (S++T) n cs:=by
 obtain⟨a,g,s,h⟩:=h;exact⟨a,g,s,by rw[s7 (List.getElem?_eq_some_iff.mp h.at_).1];exact h.at_,h.ug,h.nh,h.s0,h.s1⟩
theorem fZ.U'(h:fZ (S++T) n cs)(hn:n<S.length):fZ S n cs:=by
 obtain⟨a,g,s,h⟩:=h;exact⟨a,g,s,by have:=h.at_;grind,h.ug,h.nh,h.s0,h.s1⟩
theorem Drawn.refl(h:fZ S n cs):Drawn n cs S S:=by
 refine⟨h,?_⟩;obtain⟨a,g,s,h⟩:=h;refine⟨a,g,s,?_⟩;have:=h.at_;rw[List.getElem?_eq_some_iff]at this;obtain⟨hn,e⟩:=this;rw[<-e,Dh]
theorem Drawn.trans(h:Drawn n cs S ah)(h':Drawn n cs ah w9):Drawn n cs S w9:=by
 obtain⟨_,a,g,s,e⟩:=h;obtain⟨b,hR,e8,s',cE⟩:=h';exact⟨b,hR,e8,s',by simp_all⟩
theorem Drawn.len(h:Drawn n cs S ah):ah.length=S.length:=by
 obtain⟨_,a,g,s,e⟩:=h;rw[e];simp
theorem Drawn.keep(h:Drawn n cs S ah):fX S ah:=by
 obtain⟨_,a,g,s,e⟩:=h;rw[e];exact fX.set (A0 _ _ _ _ _)
theorem Drawn.split(dr:fZ S n cs)(h:Drawn n cs (S++T) w9):∃ah,w9=ah++T/\Drawn n cs S ah:=by
 obtain⟨b,a,g,s,e⟩:=h;refine⟨S.set n (ft cs a g s),by rw[e,List.set_append_left _ _ dr.lt],?_,a,g,s,rfl⟩;rw[e,List.set_append_left _ _ dr.lt]at b;exact b.U' (by simpa using dr.lt)
end
def jk(n:Nat)(cs:List Int)(h:Store->Out D)(R:D->Prop):Prop:=∀S,fZ S n cs->We (h S) (λd ah=>Drawn n cs S ah/\R d) (λ_ _=>False)
section
variable{n:Nat}{cs:List Int}{h:Store->Out D}{R:D->Prop}{S T:Store}{P:D->Store->Prop}{X:D->Store->Prop}
theorem jk.gx(H:jk n cs h R)(dr:fZ S n cs)(k:∀d ah,R d->Drawn n cs S ah->P d ah):We (h S) P X:=(H S dr).mono (λd ah ⟨h1,h2⟩=>k d ah h2 h1) λ_ _ q=>q.elim
theorem jk.app(H:jk n cs h R)(dr:fZ S n cs)(k:∀d ah,R d->Drawn n cs S ah->P d (ah++T)):We (h (S++T)) P X:=(H (S++T) dr.app).mono (λd w9 ⟨h1,h2⟩=>by
 obtain⟨ah,e,aH⟩:=Drawn.split dr h1;grind) λ_ _ q=>q.elim
theorem jk.imp{m9:D->Prop}(H:jk n cs h R)(k:∀d,R d->m9 d):jk n cs h m9:=λS dr=>(H S dr).post λd ah ⟨h1,h2⟩=>⟨h1,k d h2⟩
theorem p6{S S1:Store}{d:D}(h:Drawn n cs S S1)(hd:a6 S.length d=true)(p:P d S1):eS S P d S1:=AG h.keep hd p
end
theorem Va{n:Nat}{cs:List Int}{many:Int}(hm:0<many)(A1:many.natAbs.log2<9000):jk n cs (gv [.ptr n,.int many]) (λd=>∃k:Nat,(k:Int)<many/\d=.int k):=λS dr=>by
 have FW:=dr;obtain⟨a,g,s,hb⟩:=dr;have hn:n<S.length:=(List.getElem?_eq_some_iff.mp hb.at_).1;have key:∀(x hR e8 s':Int),(fG [some (.ptr n),some (.int many),none,none,none] S).out=.ok (.int (x % many)) (S.set n (ft cs hR e8 s'))->0<=hR->0<=e8->0<=s'->s'<2147483563 ->
   We (gv [.ptr n,.int many] S) (λd ah=>Drawn n cs S ah/\∃k:Nat,(k:Int)<many/\d=.int k) (λ_ _=>False):=λx hR e8 s' e h1 h2 aH bQ=>by
  have hx:=Int.emod_nonneg x (show many≠0 by omega);refine Uu (a:=.int (x % many)) (S:=S.set n (ft cs hR e8 s')) ?_ ⟨⟨⟨hR,e8,s',lC hn,h1,h2,aH,bQ⟩,hR,e8,s',rfl⟩,(x % many).toNat,by rw[Int.toNat_of_nonneg hx];exact Dg _ hm,by grind⟩;show fin S (fG [some (.ptr n),some (.int many),none,none,none] S).out=_;rw[e];exact U9 (A0 _ _ _ _ _) λg=>by simp[cG]
 by_cases hg:0<g
 .exact key g a (g / many) s (U1 cs a g s S n many hb.at_ hg hm A1) hb.ug (Int.ediv_nonneg hb.nh (by omega)) hb.s0 hb.s1
 .have Vb:g=0:=by have:=hb.nh;omega
  have A2:=hb.at_;rw[Vb]at A2;by_cases hl:a<cs.length
  .have ha:=hb.ug
   obtain⟨c,hc⟩:∃c,cs[a.toNat]?=some c:=⟨cs[a.toNat]'(by omega),by simp⟩
   by_cases A3:1000000000000000000<=c
   .exact key c (a+1) (c / many) s (U2 cs a s c S n many A2 ha hl hc A3 hm A1) (by omega) (Int.ediv_nonneg (by omega) (by omega)) hb.s0 hb.s1
   .exact key _ (a+1) 0 _ (U6 cs a s c S n many A2 ha hl hc A3 hb.s0 hb.s1 hm A1) (by omega) (by omega) (AY _).1 (AY _).2
  .exact key _ a 0 _ (U5 cs a s S n many A2 hb.ug hl hb.s0 hb.s1 hm A1) hb.ug (by omega) (AY _).1 (AY _).2
theorem lX{n:Nat}{cs:List Int}{many:Int}(hm:0<many)(p4:many<1000000):jk n cs (gv [.ptr n,.int many]) (λd=>∃k:Nat,(k:Int)<many/\d=.int k) :=
 Va hm (by
  have:=AW (i:=many) (by omega);omega)
theorem fH{N n:Nat}{body:SX}{ds:List D}{S:Store}{P X:D->Store->Prop}(hl:ds.length=n)(h:aR (body (ds.map some++List.replicate (N - ds.length) none) S) (w4 S P X)):We (dV n (cN N body) ds S) P X:=by
 rw[LQ hl,FG];exact h
theorem Mi{N n:Nat}{body:SX}{ds:List D}{S:Store}{P X:D->Store->Prop}(hl:ds.length=n)(h:aR (body (ds.map some++List.replicate (N - ds.length) none) S) ⟨λ_ ah=>P .non ah,λ_ _=>False,λ_ _=>False,P,λe _ ah=>X e ah⟩):We (dV n (pU N body) ds S) P X:=by
 rw[LQ hl,UG];exact h
theorem Vc{P X:D->Store->Prop}(ns:List Int)(p:P (.ptr 0) [ft (ns.take 63) 0 0 5625]):We (w7 [.bI ns] []) P X:=by
 unfold w7;refine Mi rfl ?_;simp[uf,<-List.map_take];exact p
theorem Vd(ns:List Int):fZ [ft (ns.take 63) 0 0 5625] 0 (ns.take 63):=⟨0,0,5625,rfl,by decide,by decide,by decide,by decide⟩
theorem w_{n:Nat}{cs:List Int}{xs:List D}(hx:xs≠[])(hl:xs.length<1000000)(aI:a9 0 xs=true):jk n cs (iO [.ptr n,.lst xs]) (λd=>d∈xs):=λS dr=>by
 have h0:0<xs.length:=Df.mpr hx;unfold iO;refine fH rfl ?_;simp[k2];refine(lX (by omega) (by omega)).gx dr λd ah ⟨k,hk,e⟩ bL=>?_;subst e;have rE:k<xs.length:=by omega
 simp[rE];exact p6 bL (LY (jP.mp aI _ (s9 _))) ⟨bL,s9 _⟩
theorem Ve{n:Nat}{cs:List Int}{l:List Nat}(hx:l≠[])(hl:l.length<1000000):jk n cs (iO [.ptr n,.str (a0 l)]) (λd=>∃c∈l,d=iM c):=λS dr=>by
 have h0:0<l.length:=Df.mpr hx;unfold iO;refine fH rfl ?_;simp[k2];refine⟨by omega,?_⟩;refine(lX (by omega) (by omega)).gx dr λd ah ⟨k,hk,e⟩ bL=>?_;subst e;have rE:k<l.length:=by omega
 simp[rE];exact⟨by omega,p6 bL (by simp) ⟨bL,_,s9 _,rfl⟩⟩
theorem Vf{n:Nat}{cs:List Int}{S S0:Store}{sl:aJ}{it:fS}{G:Store->Prop}{g:cX}{fe:aQ}{own:List Nat}{P X:D->Store->Prop}{xs:List D}(dr:fZ S0 n cs)(hit:it sl S=.ok (xs,G) S0)(hl:xs.length<=1000000)(a8:∀ah T,Drawn n cs S0 ah->G (ah++T))(E:D->D->Prop)
  (step:∀x∈xs,∀ah acc,Drawn n cs S0 ah->aR (g x (cD sl own) (ah++[.lst acc])) ⟨λa7 S1=>We (fe a7 S1) (λd aX=>∃bV,aX=bV++[.lst acc]/\Drawn n cs ah bV/\E x d) (λ_ _=>False),λ_ _=>False,λ_ _=>False,λ_ _=>False,λ_ _ _=>False⟩)
  (ew:∀ys ah,ys.length=xs.length->(∀y∈ys,∃x∈xs,E x y)->Drawn n cs S0 ah->P (.ptr ah.length) (ah++[.lst ys])):We (cO it g dA fe own sl S) P X:=by
 refine L1 hit hl (λpre acc S1=>Drawn n cs S0 S1/\acc.length=pre.length/\∀y∈acc,∃x∈xs,E x y) (λp acc S1 h=>⟨h.1.len,by omega⟩) ⟨Drawn.refl dr,rfl,by simp⟩ (λp x post acc S1 he h=>⟨a8 _ _ h.1,?_⟩) λacc S1 h=>⟨a8 _ _ h.1,ew acc S1 h.2.1 h.2.2 h.1⟩
 have hx:x∈xs:=by rw[he];simp
 refine(step x hx S1 acc h.1).mono (λa7 S2 h2=>?_) (λ_ _ h=>h) (λ_ _ h=>h) (λ_ _ h=>h) (λ_ _ _ h=>h);simp only[dA,cI,if_true];refine h2.post λd aX ⟨bV,e,bL,hd⟩=>⟨bV,e,h.1.trans bL,by simp[h.2.1],λy aW=>?_⟩
 grind
theorem Mj{n:Nat}{cs:List Int}{S S0:Store}{sl:aJ}{it:fS}{G:Store->Prop}{g:cX}{fe:aQ}{own:List Nat}{P X:D->Store->Prop}{xs:List D}(w':Drawn n cs S S0)(hit:it sl S=.ok (xs,G) S0)(hl:xs.length<=1000000)(a8:∀ah T,Drawn n cs S0 ah->G (ah++T))(E:D->D->Prop)
  (step:∀x∈xs,∀ah acc,Drawn n cs S0 ah->aR (g x (cD sl own) (ah++[.lst acc])) ⟨λa7 S1=>We (fe a7 S1) (λd aX=>∃bV,aX=bV++[.lst acc]/\Drawn n cs ah bV/\E x d) (λ_ _=>False),λ_ _=>False,λ_ _=>False,λ_ _=>False,λ_ _ _=>False⟩)
  (aI:∀x d,E x d->a6 0 d=true) (ew:∀ys ah,ys.length=xs.length->(∀y∈ys,∃x∈xs,E x y)->Drawn n cs S0 ah->P (.lst ys) ah):We (cO it g dA fe own sl S) (eS S P) X:=by
 refine Vf w'.1 hit hl a8 E step λys ah h1 h2 aH=>FH (w'.trans aH).keep (AI ?_) (ew ys ah h1 h2 aH);rw[jP];grind
def abc:List Nat:=List.range' 97 26
@[simp] theorem jp1:(("abcdefghijklmnopqrstuvwxyz":Str))=a0 abc:=by rfl
@[simp] theorem Vg:(("":Str))=a0 []:=by rfl
theorem Ml{c:Nat}:c∈abc↔97<=c/\c<=122:=by
 unfold abc;grind
structure Vh(l:List Nat):Prop where
 asc:l.Pairwise (· < ·)
 low:∀c∈l,c∈abc
theorem A4{S:Store}{n:Nat}{xs:List D}(h:S[n]?=some (.lst xs)):hO S (.ptr n)=true:=by simp[hO,cB,h]
theorem p7{S:Store}{n:Nat}{a b:dx}(h:S.length=n):(S++[a]).set n b=S++[b]:=by
 simp_all
theorem FX{S:Store}{n:Nat}{a:dx}(h:S.length=n):(S++[a])[n]?=some a:=by
 grind
mutual
def plain:Nat->D->Prop
 |_,.non=>True
 |_,.bl _=>True
 |_,.int _=>True
 |_,.str s=>oy s.cps.toList
 |k+1,.tup xs=>ni k xs/\xs.length<=1000000
 |k+1,.bF xs=>ni k xs/\xs.length<=1000000
 |k+1,.lst xs=>ni k xs/\xs.length<=1000000
 |_,_=>False
def ni:Nat->List D->Prop
 |_,[]=>True
 |k,d::ds=>plain k d/\ni k ds
end
theorem rF{k:Nat}:∀{xs:List D},ni k xs↔∀x∈xs,plain k x
 |[]=>by simp[ni]
 |x::xs=>by simp[ni,rF (xs:=xs)]
@[simp] theorem Vi{k:Nat}:plain k .non:=by cases k<;>simp[plain]
@[simp] theorem Vj{k:Nat}{b:Bool}:plain k (.bl b):=by cases k<;>simp[plain]
@[simp] theorem FY{k:Nat}{b:Int}:plain k (.int b):=by cases k<;>simp[plain]
@[simp] theorem Mp{k:Nat}{l:List Nat}:plain k (.str (a0 l))=oy l:=by rfl
theorem cv{α:Type}{o:Out α}{a:α}{S:Store}(h:We o (λr ah=>r=a/\ah=S) (λ_ _=>False)):o=.ok a S:=by
 obtain⟨r,ah,e,h1,h2⟩:=h.get;grind
theorem xb(k:Nat)(d:D)(S:Store)(h:plain 0 d):nc (k+1) [d,d] S=.ok (.bl true) S:=by
 refine cv ?_;unfold nc;refine fH rfl ?_;cases d with
 |non=>simp[ie]
 |bl b=>simp[ie]
 |int i=>simp[ie]
 |str s =>
  rw[<-Fw s]at h ⊢;rw[Mp]at h;simp[ie,Md h h]
 |_=>simp[plain]at h
theorem Vk:∀(k:Nat) (d:D) (S:Store),plain k d->nc (k+1) [d,d] S=.ok (.bl true) S:=λk=>by
 induction k with
 |zero =>
  intro d S h;exact xb 0 d S h
 |succ k ih =>
  intro d S h;have seq:∀xs:List D,ni k xs->xs.length<=1000000->∀d,d=.tup xs\/d=.lst xs\/d=.bF xs->nc (k+1+1) [d,d] S=.ok (.bl true) S:=λxs hx hl d hd=>by
   refine cv ?_;rw[nc];refine fH rfl ?_;have hz:(rx xs xs)=xs.map λx=>.tup [x,x]:=by
    unfold rx;rw[List.zipWith_self]
   have key:∀{P X w3:D->Store->Prop} {sl:aJ} {d:D},P (.bl true) S->ai 0 sl S=.ok d S->ai 1 sl S=.ok d S->dO S d=some xs->(∀T,dO (S++T) d=some xs)->sl.length=4 ->
     We (cO (wU (aj (ai 0) (aj (ai 1) aq))) (fy (cL (aV 2) (cL (aV 3) e'))) dA (az (nc (k+1)) (aj (ai 2) (aj (ai 3) aq))) [2,3] sl S) (eS S λd' S1=>We (pH [d'] S1) P X) w3:=λ{P X w3 sl d} dG h1 h2 aH bQ cn=>by
    have hit:=UM h1 h2 aH aH;rw[hz]at hit;refine UL (xs:=xs.map λx=>.tup [x,x]) (λ_=>true) (λ_=>.bl true) hit (by grind) (λacc=>⟨bQ _,bQ _⟩) (λx FZ T=>?_) (λx hx _=>?_) ?_
    .obtain⟨y,aW,rfl⟩:=List.mem_map.mp FZ
     match sl,cn with
     |[a,b,c,e],_ =>
      simp[cD,dA];rw[ih y _ (rF.mp hx y aW)];simp
    .simp
    .rw[L_,cI]
     exact dG
   rcases hd with rfl|rfl|rfl
   .simp[ie]
    refine key (d:=.tup xs) ?_ ?_ ?_ ?_ ?_ ?_
    .simp
    .rfl
    .rfl
    .rfl
    .intro T;rfl
    .rfl
   .simp[ie]
    refine key (d:=.lst xs) ?_ ?_ ?_ ?_ ?_ ?_
    .simp
    .rfl
    .rfl
    .rfl
    .intro T;rfl
    .rfl
   .simp[ie]
    refine key (d:=.bF xs) ?_ ?_ ?_ ?_ ?_ ?_
    .simp
    .rfl
    .rfl
    .rfl
    .intro T;rfl
    .rfl
  cases d with
  |tup xs=>rw[plain]at h;grind
  |lst xs=>rw[plain]at h;grind
  |bF xs=>rw[plain]at h;grind
  |non=>exact xb _ _ S Vi
  |bl b=>exact xb _ _ S Vj
  |int i=>exact xb _ _ S FY
  |str s =>
   refine xb _ _ S ?_;rw[<-Fw s]at h ⊢;simp_all
  |_=>simp[plain]at h
end Z
namespace ZX
open PySem PySem.W PySem.Calls PyProof.Rows PySem.Spec
structure rG(prog:Program)(K:Frag)(f D:Addr)(qual:Str)(params:Arguments)(body:List Stmt)(scope:Scope):Prop where
 ex:∃(eg:Value) (od:Option Addr) (name:Str) (kV doc pm:Value) (an:Option Addr) (bU cc:Addr) (ct:Value) (gR:Array (Option Value)),
   K.lookup f=some ⟨eg,od,.func (ksFn name qual params body scope .none kV doc pm an (.ref bU) ct cc),gR⟩/\codeIn K (.ref bU) qual=true /\
   (∃oB oC oD vs file dh,K.lookup bU=some ⟨oB,oC,.fields vs,oD⟩/\vs[2]?=some (.str file dh)/\((prog.main.file:Str)==file)=true) /\
   (∃cl oE oF,K.lookup cc=some ⟨cl,oE,.cell (some (.ref D)),oF⟩)
 cls:∃lY,clsIn K D=some lY
 fn:(K.lookup f).map (·.cls)=some (.type "function")
structure rH(prog:Program)(K:Frag)(mg:Str->Option Value)(base:Heap):Prop where
 mod:L2.Mod K mg base
 ms:mg "super"=none
 top:(prog.main.scope.names.lookup ("super":Str)).isSome=false
 Mq:nsIn K cStatics "thirdparty.any"=some none
structure p8(scope:Scope)(bX:Str):Prop where
 ks:scope.names.lookup ("super":Str)=some .globalImplicit
 uh:scope.names.lookup ("__class__":Str)=some .free
 Vl:scope.names.lookup bX=some .local
 kind:scope.kind=.function
 co:scope.isCoroutine=false
 gen:scope.isGenerator=false
 cell:∀x∈scope.names,x.2≠.cell
section
variable{prog:Program}{w:World}{A:Around}{E:Value->Shared->Prop}{s:Shared}{K:Frag}{mg:Str->Option Value}{base:Heap}{L x C D f cc bU:Addr}{m:Str->Option Value}{rJ:Obj}{Vm:Option Obj}
theorem Mr{body:List Stmt}{q:Str}{scope:Scope}{p0 p1:Pos}{whole:Sem Value}{fd:FuncData}{ar:Arg}{vs:Array Value}{file:Str}{dh:Tok}{eg oB cl:Value}{od oC oE:Option Addr}{gR oD oF:Array (Option Value)}{lY:ClassData}{Q:Value->Shared->Prop}
  (M:rH prog K mg base) (S:p8 scope ar.arg) (bk:∀b o,base.get? b=some o->s.heap.get? b=some o) (hn:s.heap.Ns L m)
  (hf:K.lookup f=some ⟨eg,od,.func fd,gR⟩) (hp:(fd.params.posonlyargs++fd.params.args).head?=some ar) (bB:m ar.arg=some (.ref x)) (I:InstAt s.heap x rJ C Vm)
  (xc:K.lookup bU=some ⟨oB,oC,.fields vs,oD⟩) (xg:vs[2]?=some (.str file dh)) (oG:((prog.main.file:Str)==file)=true)
  (kf:K.lookup cc=some ⟨cl,oE,.cell (some (.ref D)),oF⟩) (bL:clsIn K D=some lY) (m4:mroIn K C (.ref D)=some true)
  (h:∀h',h'.get? s.heap.objs.size=some (ks_superObj D x C)->(∀b o,s.heap.get? b=some o->h'.get? b=some o)->Q (.ref s.heap.objs.size) { s with heap:=h' }) :
  _root_.PySem.wpAt (model prog w) A (.func body (ksEnv q scope L f (.ref bU) cc)) (attributeBase (.Call (.Name "super" p0) [] [] p1) "__init__" (ksEnv q scope L f (.ref bU) cc) whole) Q E s:=by
 have X:K.In s.heap:=M.mod.kin.keeps bk;obtain⟨hh,g,d,t,os⟩:=s;obtain⟨ui,fI,jl⟩:∃ui,hh.get? D=some ui/\ui.data=.cls lY:=by
  unfold clsIn at bL;split at bL
  .rename_i c d agO sl aS
   cases bL;exact⟨_,X _ _ aS,rfl⟩
  .cases bL
 obtain⟨agP,dH,Vn⟩:=M.mod.blt;refine ks_wpAt_super_base (env:=ksEnv q scope L f (.ref bU) cc) S.ks S.uh (by decide) rfl (X _ _ hf) rfl hp rfl (X _ _ xc) rfl xg oG M.top ?_;refine ks_loadName_global S.kind S.ks (loadGlobal_builtin (env:=ksEnv q scope L f (.ref bU) cc) (M.mod.glob.keeps bk) M.ms (dH.keeps bk) ((Vn _ (by decide +kernel)).trans PyProof.Rows.Boot.«super») ⟨rfl,?_⟩);refine wpAny_loadName_free S.kind S.uh rfl ⟨_,X _ _ kf,rfl⟩ ?_;refine wpAny_loadName_local S.kind S.Vl hn bB ?_;refine ks_wpAny_isType_cls fI jl ⟨rfl,?_⟩;refine ks_wpAny_call_super fI jl I.at_ I.cls (λc e=>?_) (looks_mroIn X m4) (λh' e k=>?_)
 .have:=I.no
  unfold notCls at this;grind
 grind
end
section
variable{prog:Program}{w:World}{A:Around}{E:Value->Shared->Prop}{s:Shared}{K:Frag}{mg:Str->Option Value}{base:Heap}{L x C D f:Addr}{m:Str->Option Value}{B i newId:String}{fJ:List Value}
structure oH(K:Frag)(C:Addr)(fJ:List Value)(newId:String):Prop where
 Vo:excInitIn K C fJ newId=true
 g7:excOver K C fJ=true
 cls:(clsIn K C).isSome=true
 sa:findIn K (.ref C) "__setattr__"=some (some (.builtin "object.__setattr__"))
abbrev exd(C t:Addr)(dd:Option Addr):Obj:=excObj C t dd .none
theorem A5{h:Heap}{t:Addr}{dd:Option Addr}{od:Obj}(hx:h.get? x=some (exd C t dd))(hd:∀d,dd=some d->h.get? d=some od):InstAt h x (exd C t dd) C (match dd with|none=>none|some _=>some od):=by
 refine⟨hx,rfl,rfl,?_⟩;cases dd with
 |none=>trivial
 |some d=>exact hd d rfl
theorem Vp{body:List Stmt}{q:Str}{scope:Scope}{p0 p1 p2 b3 cx:Pos}{fd:FuncData}{ar:Arg}{cc bU:Addr}{vs:Array Value}{file:Str}{dh:Tok}{eg oB cl:Value}{od oC oE:Option Addr}{gR oD oF:Array (Option Value)}{lY:ClassData}{Q:Flow->Shared->Prop}{e:Expr}{Rv:Value->Prop}{t:Addr}{iQ:Sem Bool}
  (KF:KxsFacts B i) (FB:ExcBaseFacts B newId i fJ) (M:rH prog K mg base) (S:p8 scope ar.arg) (T:oH K C fJ newId) (bk:∀b o,base.get? b=some o->s.heap.get? b=some o) (hn:s.heap.Ns L m)
  (hf:K.lookup f=some ⟨eg,od,.func fd,gR⟩) (hp:(fd.params.posonlyargs++fd.params.args).head?=some ar) (bB:m ar.arg=some (.ref x)) (hx:s.heap.get? x=some (exd C t none))
  (xc:K.lookup bU=some ⟨oB,oC,.fields vs,oD⟩) (xg:vs[2]?=some (.str file dh)) (oG:((prog.main.file:Str)==file)=true)
  (kf:K.lookup cc=some ⟨cl,oE,.cell (some (.ref D)),oF⟩) (bL:clsIn K D=some lY) (m4:mroIn K C (.ref D)=some true)
  (hm:ks_superIn K C D "__init__"=some (some (.builtin i))) (dr:subIn K (.ref C) (.type B)=some true)
  (he:∀(s1:Shared) (Q1:Value->Shared->Prop),s1.heap.Ns L m->(∀v tk,Rv v->Q1 v { s1 with toks:=tk })->wpAny (model prog w) A (eval e (ksEnv q scope L f (.ref bU) cc)) Q1 E s1)
  (h:∀h' t' tk,(∀b o,b≠x->s.heap.get? b=some o->h'.get? b=some o)->h'.get? x=some (exd C t' none)->Q .next { s with heap:=h',toks:=tk })
  (hs:swapsWith (.Call (.Attribute (.Call (.Name "super" p0) [] [] p1) "__init__" p2) [e] [] b3) none cx.line (ksEnv q scope L f (.ref bU) cc)=pure false)
  (nj:eval (.Call (.Attribute (.Call (.Name "super" p0) [] [] p1) "__init__" p2) [e] [] b3) (ksEnv q scope L f (.ref bU) cc)=(do
   let g7 <-attributeBase (.Call (.Name "super" p0) [] [] p1) "__init__" (ksEnv q scope L f (.ref bU) cc) (eval (.Call (.Name "super" p0) [] [] p1) (ksEnv q scope L f (.ref bU) cc))
   standAt p2.atName
   let (g,first) <-holding [g7] (getMethod g7 "__init__" iQ)
   callWith b3 g first (backTo b3 (starEach [e] (ksEnv q scope L f (.ref bU) cc))) []))
  (h9:starEach [e] (ksEnv q scope L f (.ref bU) cc)=[(false,eval e (ksEnv q scope L f (.ref bU) cc))]) :
  _root_.PySem.wpAt (model prog w) A (.func body (ksEnv q scope L f (.ref bU) cc)) (exec (.Expr (.Call (.Attribute (.Call (.Name "super" p0) [] [] p1) "__init__" p2) [e] [] b3) cx) (ksEnv q scope L f (.ref bU) cc)) Q E s:=by
 have X:K.In s.heap:=M.mod.kin.keeps bk;obtain⟨F0,rK⟩:=Option.isSome_iff_exists.mp T.cls;refine ks_wpAt_Expr_any ?_ (by unfold interactive;rw[show(ksEnv q scope L f (.ref bU) cc).scope.kind=.function from S.kind];rfl) hs;refine ks_wpAt_MethodCall ?_ nj;refine Mr M S bk hn hf hp bB (A5 (od:=default) hx (λd z=>by cases z)) xc xg oG kf bL m4 (λh1 F1 dz=>?_);have rr:=dz _ _ hx;have lZ:K.In h1:=X.keeps dz;have I1:InstAt h1 x (exd C t none) C none:=A5 (od:=default) rr (λd z=>by cases z);unfold ks_superIn at hm;rw[rK]at hm;obtain⟨hh,g,d,tk,os⟩:=s;refine kxs_getMethod KF F1 (looks_opaque lZ M.Mq) (l₀:=F0.mro) (λA Q E s k q=>wpAny_bind ((looks_clsIn lZ rK) A _ E s k (wpAny_pure q))) rfl lZ hm (I1.type.andThen (looks_subIn lZ dr)) (ks_ne lZ I1 rK) (by decide) ?_;have ck:∀b o,hh.get? b=some o->(h1.push (kxs_mw i x)).get? b=some o:=λb o e=>Heap.get?_push_of_some _ (dz b o e);have hw:(h1.push (kxs_mw i x)).get? h1.objs.size=some (kxs_mw i x):=Heap.get?_push_at rfl rfl;have pZ:(h1.push (kxs_mw i x)).Ns L m:=by
  obtain⟨l0,es,dF,fK,r⟩:=hn;exact⟨l0,es,dF,ck _ _ fK,r⟩
 refine kxs_callWith (i:=i) (x:=x) (by rw[h9];rfl) ?_;rw[h9];refine evalArgs_plain (spliced_cons (he _ _ pZ λv jQ aO=>?_));refine spliced_nil ⟨hw,?_⟩;have lS:=ck _ _ hx;obtain⟨nm,Vq,gy,bs,bm,Vr,sn,sub,ab,col,dd,m5,agQ,agR,oI,F2,d5,d_⟩:=excInit_of (X.keeps ck) T.Vo;refine wpAny_call (codeAny_of_tree ?_);show wpAny _ A.in1 (callAny (.ref _) ⟨[v],[]⟩) _ _ _;simp only[callAny];refine wpAny_bind (wpAny_load hw ?_);simp only[kxs_mw,show(Value.type "method-wrapper"==Value.type "method"||Value.type "method-wrapper"==Value.type "builtin_function_or_method"||Value.type "method-wrapper"==Value.type "method-wrapper")=true by decide,if_true];refine KFB.if_so (by decide) ?_;refine wpAny_bind (check_bound_init FB.toExcCallFacts d5 lS rfl ?_);refine wpAny_bind (wpAny_pure (wpAny_pure ?_));refine⟨plainId_quiet FB.init.plain _,codeAny_builtin FB.initEntry ?_⟩;refine exc_init_tree (cls:=.ref C) (t0:=t) (dv:=none) (c2:=.none) (c3:=.none) (b4:=.bool false) lS (by show 1<=sizeLine;rw[sizeLine_eq];omega) λh' k cE t'=>?_;exact h h' _ _ (λb o hb e=>k b o hb (ck b o e)) cE
theorem Vs{body:List Stmt}{q:Str}{scope:Scope}{p0 p1 p2 b3 cx:Pos}{fd:FuncData}{ar:Arg}{cc bU:Addr}{vs:Array Value}{file:Str}{dh:Tok}{eg oB cl:Value}{od oC oE:Option Addr}{gR oD oF:Array (Option Value)}{lY:ClassData}{Q:Flow->Shared->Prop}{e:Expr}{Rv:Value->Prop}{t:Addr}{iQ:Sem Bool}
  (M:rH prog K mg base) (S:p8 scope ar.arg) (T:oH K C fJ newId) (bk:∀b o,base.get? b=some o->s.heap.get? b=some o) (hn:s.heap.Ns L m)
  (hf:K.lookup f=some ⟨eg,od,.func fd,gR⟩) (hp:(fd.params.posonlyargs++fd.params.args).head?=some ar) (bB:m ar.arg=some (.ref x)) (hx:s.heap.get? x=some (exd C t none)) {f2:Addr} (A6:(K.lookup f2).map (·.cls)=some (.type "function")) (F3:fnIn K f2=true)
  (xc:K.lookup bU=some ⟨oB,oC,.fields vs,oD⟩) (xg:vs[2]?=some (.str file dh)) (oG:((prog.main.file:Str)==file)=true)
  (kf:K.lookup cc=some ⟨cl,oE,.cell (some (.ref D)),oF⟩) (bL:clsIn K D=some lY) (m4:mroIn K C (.ref D)=some true)
  (hm:ks_superIn K C D "__init__"=some (some (.ref f2)))
  (he:∀(s1:Shared) (Q1:Value->Shared->Prop),s1.heap.Ns L m->(∀v tk,Rv v->Q1 v { s1 with toks:=tk })->wpAny (model prog w) A (eval e (ksEnv q scope L f (.ref bU) cc)) Q1 E s1)
  (h:∀h' tk v,Rv v->(∀b o,s.heap.get? b=some o->h'.get? b=some o)->codeAny (model prog w) A (.call (.ref f2) ⟨[.ref x,v],[]⟩) (λr s'=>match r with|.ok (.ret _)=>Q .next s'|.ok _=>False|.error e=>E e s') { s with heap:=h',toks:=tk })
  (hs:swapsWith (.Call (.Attribute (.Call (.Name "super" p0) [] [] p1) "__init__" p2) [e] [] b3) none cx.line (ksEnv q scope L f (.ref bU) cc)=pure false)
  (nj:eval (.Call (.Attribute (.Call (.Name "super" p0) [] [] p1) "__init__" p2) [e] [] b3) (ksEnv q scope L f (.ref bU) cc)=(do
   let g7 <-attributeBase (.Call (.Name "super" p0) [] [] p1) "__init__" (ksEnv q scope L f (.ref bU) cc) (eval (.Call (.Name "super" p0) [] [] p1) (ksEnv q scope L f (.ref bU) cc))
   standAt p2.atName
   let (g,first) <-holding [g7] (getMethod g7 "__init__" iQ)
   callWith b3 g first (backTo b3 (starEach [e] (ksEnv q scope L f (.ref bU) cc))) []))
  (h9:starEach [e] (ksEnv q scope L f (.ref bU) cc)=[(false,eval e (ksEnv q scope L f (.ref bU) cc))]) :
  _root_.PySem.wpAt (model prog w) A (.func body (ksEnv q scope L f (.ref bU) cc)) (exec (.Expr (.Call (.Attribute (.Call (.Name "super" p0) [] [] p1) "__init__" p2) [e] [] b3) cx) (ksEnv q scope L f (.ref bU) cc)) Q E s:=by
 have X:K.In s.heap:=M.mod.kin.keeps bk;obtain⟨F0,rK⟩:=Option.isSome_iff_exists.mp T.cls;refine ks_wpAt_Expr_any ?_ (by unfold interactive;rw[show(ksEnv q scope L f (.ref bU) cc).scope.kind=.function from S.kind];rfl) hs;refine ks_wpAt_MethodCall ?_ nj;refine Mr M S bk hn hf hp bB (A5 (od:=default) hx (λd z=>by cases z)) xc xg oG kf bL m4 (λh1 F1 dz=>?_);have rr:=dz _ _ hx;have lZ:K.In h1:=X.keeps dz;have I1:InstAt h1 x (exd C t none) C none:=A5 (od:=default) rr (λd z=>by cases z);unfold ks_superIn at hm;rw[rK]at hm;obtain⟨hh,g,d,tk,os⟩:=s;obtain⟨of,Vt,Vu⟩:∃of,h1.get? f2=some of/\of.cls=.type "function":=by
  cases z:K.lookup f2 with
  |none=>simp_all
  |some of=>rw[z]at A6;exact⟨of,lZ _ _ z,eY A6⟩
 refine ks_wpAny_getMethod_super F1 (looks_opaque lZ M.Mq) (l₀:=F0.mro) (λA Q E s k q=>wpAny_bind ((looks_clsIn lZ rK) A _ E s k (wpAny_pure q))) rfl lZ hm Vt Vu (ks_ne lZ I1 rK) (by decide) ?_;have ck:∀b o,hh.get? b=some o->(h1.push (methodObj (.ref f2) (.ref x))).get? b=some o:=λb o e=>Heap.get?_push_of_some _ (dz b o e);have hw:(h1.push (methodObj (.ref f2) (.ref x))).get? h1.objs.size=some (methodObj (.ref f2) (.ref x)):=Heap.get?_push_at rfl rfl;have pZ:(h1.push (methodObj (.ref f2) (.ref x))).Ns L m:=by
  obtain⟨l0,es,dF,fK,r⟩:=hn;exact⟨l0,es,dF,ck _ _ fK,r⟩
 rw[h9];refine callWith_of (by rfl) (keeps_M (K:=K) (q:=h1.objs.size) (f:=f2) (self:=.ref x) F3) (evalArgs_plain (spliced_cons (he _ _ pZ λv jQ aO=>?_)));refine spliced_nil ⟨⟨hw,X.keeps ck⟩,?_⟩;refine wpAny_call (ks_codeAny_call_bound hw (codeAny_mono (h _ _ v aO ck) λr s' z=>?_));rcases r with x|(v|_|_|_)<;>first|exact z|exact z.elim
variable{t bh:Addr}{name:Str}{v:Value}{m0:Str->Option Value}{nl:List Str}
theorem Vv{Q:Unit->Shared->Prop}(l':StoreFacts B fJ "object.__setattr__" "object")(X:K.In s.heap)(T:oH K C fJ newId)(hx:s.heap.get? x=some (exd C t none))(ha:findIn K (.ref C) name=some none)(hh:hasDictIn K C=true)
  (h:∀h' jm bh,(∀b o,b≠x->s.heap.get? b=some o->h'.get? b=some o)->s.heap.objs.size<=bh->h'.get? x=some (exd C t (some bh))->h'.Ns1 bh (λy=>if y=name then some v else none)->Q () { s with heap:=h',toks:=jm }) :
  wpAny (model prog w) A (setAttr (.ref x) name v) Q E s:=by
 have ht:takerIn K C name=some none:=by unfold takerIn;rw[ha];rfl
 obtain⟨cd,hc,jE⟩:=any_some hh;have F4:=Heap.lt_size hx;have rL:s.heap.objs.size≠x:=nM F4;have Ms:x≠s.heap.objs.size:=rL.symm;refine set_plain (od:=none) X ⟨hx,rfl,rfl,trivial⟩ T.sa (osa_openX (od:=none) (s:={ s with toks:=s.toks+1 }) l' X ⟨hx,rfl,rfl,trivial⟩ T.g7 ht λb=>?_);refine wpAny_bind (wpAny_pure (wpAny_bind (instanceDict_exc (s:={ s with toks:=s.toks+1 }) hx (looks_clsIn X hc) jE ?_)));show wpAny _ _ (Builtin.ObjectAttr.storeInDict s.heap.objs.size (.str name s.toks) name v) _ _ _;refine PySem.HandSPX.store_in_new ?_ ?_
 .exact⟨dictOf [] 0,#[],0,(Heap.get?_update_ne _ _ _ _ rL).trans (Heap.get?_push_at rfl rfl),rfl,λe he=>absurd he (by simp),λ_=>rfl⟩
 .intro h' jm lM hs
  have Vw:(s.heap.push (dictOf [] 0)).get? x=some (exd C t none):=Heap.get?_push_of_some _ hx;refine h h' jm s.heap.objs.size (λb o hb aS=>?_) (dE _) ?_ lM
  .exact(hs.2 b (fO (Heap.lt_size aS))).trans ((Heap.get?_update_ne _ _ _ _ hb).trans (Heap.get?_push_of_some _ aS))
  .exact(hs.2 x rL.symm).trans (Heap.get?_update_self _ Vw rfl)
theorem Vx{Q:Unit->Shared->Prop}(l':StoreFacts B fJ "object.__setattr__" "object")(X:K.In s.heap)(T:oH K C fJ newId)(hx:s.heap.get? x=some (exd C t (some bh)))(ei:s.heap.Ns1 bh m0)(hw:Within m0 nl)(hz:nl.length<=1000)(ha:findIn K (.ref C) name=some none)(hh:hasDictIn K C=true)
  (h:∀h' jm,(∀b o,b≠bh->s.heap.get? b=some o->h'.get? b=some o)->h'.Ns1 bh (λy=>if y=name then some v else m0 y)->Q () { s with heap:=h',toks:=jm }) :
  wpAny (model prog w) A (setAttr (.ref x) name v) Q E s:=by
 have ht:takerIn K C name=some none:=by unfold takerIn;rw[ha];rfl
 obtain⟨cd,hc,jE⟩:=any_some hh;obtain⟨ui,agS,agT,Mu,agU,_⟩:=ei.count hw;refine set_plain (od:=some ui) X ⟨hx,rfl,rfl,Mu⟩ T.sa (osa_openX (od:=some ui) (s:={ s with toks:=s.toks+1 }) l' X ⟨hx,rfl,rfl,Mu⟩ T.g7 ht λb=>?_);refine wpAny_bind (wpAny_pure (wpAny_bind (wpAny_bind (wpAny_loadPart hx (wpAny_bind (Looks.here (s:={ s with toks:=s.toks+1 }) (looks_clsIn X hc) ?_))))));rw[jE];refine wpAny_pure (a:=some bh) ?_;refine PySem.OEX.store_in_old ei hw hz ?_;intro h' jm lM hs;exact h h' jm (λb o hb aS=>(hs.2 b hb).trans aS) lM
end
open L2 (V Vals RelV RelO)
def oJ(prog:Program)(w:World)(base:Heap)(k:Nat)(f C:Addr)(G:List V->Option (List (Str×V))):Prop :=
 ∀(A:Around) (s:Shared) (x t:Addr) (us:List Value) (vs:List V) (fs:List (Str×V)) (R:Result->Shared->Prop),A.depth+k<recursionLimit->(∀b o,base.get? b=some o->s.heap.get? b=some o)->base.get? x=none->s.heap.get? x=some (exd C t none)->Vals vs us->G vs=some fs ->
  (∀h' tk t' bh m,(∀b o,b≠x->s.heap.get? b=some o->h'.get? b=some o)->s.heap.objs.size<=bh->h'.get? x=some (exd C t' (some bh))->h'.Ns1 bh m->(∀g,RelO (fs.lookup g) (m g))->R (.ok (.ret .none)) { s with heap:=h',toks:=tk }) ->
  codeAny (model prog w) A (.call (.ref f) ⟨.ref x::us,[]⟩) R s
inductive xh (env:Env) (bX:Str):List Stmt->List (Str×Str)->Prop
 |nil:xh env bX [] []
 |cons {de gu k3 k4:Pos} {f p:Str} {r:List Stmt} {l:List (Str×Str)} (hs:swapsWith (.Name p k3) (some (.Attribute (.Name bX de) f gu)) k4.line env=pure false) (hk:env.kindOf p=some .local) (hd:(p==("__debug__":Str))=false) (t:xh env bX r l) :
   xh env bX (.Assign [.Attribute (.Name bX de) f gu] (.Name p k3) k4::r) ((f,p)::l)
section
variable{prog:Program}{w:World}{A:Around}{E:Value->Shared->Prop}{K:Frag}{base:Heap}{L x C f:Addr}{m:Str->Option Value}{B newId:String}{fJ:List Value}{bX:Str}
theorem Mv{env:Env}{Q:Flow->Shared->Prop}{vof:Str->V}(l':StoreFacts B fJ "object.__setattr__" "object")(KB:K.In base)(T:oH K C fJ newId)(hh:hasDictIn K C=true)(hk:env.scope.kind=.function)(fK:env.locals=L)(A7:env.kindOf bX=some .local)(uj:(bX==("__debug__":Str))=false)
  (bB:m bX=some (.ref x)):∀{sts:List Stmt} {l:List (Str×Str)} {s:Shared} {t bh:Addr} {fs:List (Str×V)} {m0:Str->Option Value},xh env bX sts l->(∀b o,base.get? b=some o->s.heap.get? b=some o/\b≠bh)->(∀fp∈l,findIn K (.ref C) fp.1=some none/\∃u,m fp.2=some u/\RelV (vof fp.2) u) ->
   s.heap.Ns L m->L≠bh->x≠bh->s.heap.get? x=some (exd C t (some bh))->s.heap.Ns1 bh m0->(∀g,RelO (fs.lookup g) (m0 g))->fs.length+l.length<=900 ->
   (∀h' tk gI,(∀b o,b≠bh->s.heap.get? b=some o->h'.get? b=some o)->h'.get? x=some (exd C t (some bh))->h'.Ns1 bh gI->(∀g,RelO ((l.foldl (λfs fp=>(fp.1,vof fp.2)::fs) fs).lookup g) (gI g))->Q .next { s with heap:=h',toks:=tk }) ->
   wpAny (model prog w) A (execs sts env) Q E s
 |_,_,s,t,bh,fs,m0,.nil,bk,_,hn,_,_,hx,ei,rel,_,h=>by
  refine wpAny_execs_nil ?_;exact h s.heap s.toks m0 (λ_ _ _ e=>e) hx ei rel
 |_,_,s,t,bh,fs,m0,.cons (f:=g) (p:=p) (l:=l) hs uk hd tl,bk,hl,hn,Mw,A8,hx,ei,rel,hlen,h=>by
  obtain⟨hf,u,aI,b6⟩:=hl (g,p) (vz ..);refine wpAny_execs_cons (plainObj_wpAny_Assign_Attribute (wpAny_Name (wpAny_loadName_local hk uk (by grind) aI ?_) hd) hs);refine wpAny_Name (wpAny_loadName_local hk A7 (by grind) bB ?_) uj;have X:K.In s.heap:=KB.keeps λb o e=>(bk b o e).1;have hw:=L2.within_of rel;refine Vx l' X T hx ei hw (by grind) hf hh λh' jm k lM=>?_;have Vy:∀y,RelO (((g,vof p)::fs).lookup y) (if y=g then some u else m0 y):=L2.relO_put b6 rel;refine Mv l' KB T hh hk fK A7 uj bB tl (λb o e=>⟨k b o (bk b o e).2 (bk b o e).1,(bk b o e).2⟩) (λfp hm=>hl fp (qM _ hm)) ?_ Mw A8 (k x _ A8 hx) lM Vy (by grind) (λh2 jQ m2 ck ao e2 bu=>h h2 jQ m2 (λb o hb e=>ck b o hb (k b o hb e)) ao e2 bu);obtain⟨l0,es,dF,Vz,r⟩:=hn;exact⟨l0,es,dF,k _ _ Mw Vz,r⟩
end
inductive kg (env:Env) (vof:Str->V):Expr->V->Prop
 |par {p:Str} {pos:Pos} (hk:env.kindOf p=some .local) (hd:(p==("__debug__":Str))=false):kg env vof (.Name p pos) (vof p)
 |txt {x:Str} {j:Nat} {pos:Pos}:kg env vof (.Constant (.str x) j pos) (.str x)
theorem kg.run{prog:Program}{w:World}{A:Around}{E:Value->Shared->Prop}{env:Env}{vof:Str->V}{e:Expr}{y:V}{L:Addr}{m:Str->Option Value}(r:kg env vof e y)(hk:env.scope.kind=.function)(fK:env.locals=L)(hm:∀p,env.kindOf p=some .local->∃u,m p=some u/\RelV (vof p) u){s1:Shared}{Q1:Value->Shared->Prop}(hn:s1.heap.Ns L m)
  (h:∀v tk,RelV y v->Q1 v { s1 with toks:=tk }):wpAny (model prog w) A (eval e env) Q1 E s1:=by
 cases r with
 |par uk hd =>
  obtain⟨u,aI,b6⟩:=hm _ uk;exact wpAny_Name (wpAny_loadName_local hk uk (by grind) aI (h u s1.toks b6)) hd
 |txt=>exact wpAny_Constant_str (h _ _ ⟨_,rfl⟩)
section
variable{prog:Program}{w:World}{K:Frag}{mg:Str->Option Value}{base:Heap}{C D f:Addr}{B i newId:String}{fJ:List Value}{bX g qual:Str}{params:Arguments}{scope:Scope}{dg ao:Expr}{p0 p1 p2 b3 cx de gu k4:Pos}{ps:List Str}{sts:List Stmt}{l:List (Str×Str)}
structure xj(params:Arguments)(scope:Scope)(bX:Str)(ps:List Str):Prop where
 head:(params.posonlyargs++params.args).head?.map (·.arg)=some bX
 loc:∀y∈bX::ps,scope.names.lookup y=some .local
 only:∀y∈scope.names,y.2=.local->y.1∈bX::ps
 nd:(bX::ps).Nodup
 bind:∀(fd:FuncData) (us:List Value),fd.params=params->fd.defaults=.none->us.length=(bX::ps).length->bindArgs fd ⟨us,[]⟩=pure ((bX::ps).zip us)
theorem VA:∀{ps:List Str} {us:List Value} {vs:List V} {p:Str},ps.Nodup->Vals vs us->us.length=ps.length->p∈ps->∃u v,(ps.zip us).lookup p=some u/\(ps.zip vs).lookup p=some v/\RelV v u:=by
 intro ps
 induction ps with
 |nil=>simp
 |cons n ps ih =>
  intro us vs p nd r hl hm;cases r with
  |nil=>cases hl
  | @cons v u vs us aO r =>
   by_cases e:p=n
   .simp_all
   .have cE:(p==n)=false:=by simpa using e
    obtain⟨qS,lN,h1,h2,aH⟩:=ih (qL.mp nd).2 r (Nat.succ.inj hl) ((iB.mp hm).resolve_left e);exact⟨qS,lN,by simpa[List.lookup,cE]using h1,by simpa[List.lookup,cE]using h2,aH⟩
theorem F5:∀{ps:List Str} {us:List Value},ps.Nodup->∀p,((ps.zip us).reverse).lookup p=(ps.zip us).lookup p:=by
 intro ps
 induction ps with
 |nil=>simp
 |cons n ps ih =>
  intro us nd p;cases us with
  |nil=>simp
  |cons u us =>
   have tE:=qL.mp nd;rw[y9,Di,List.lookup_append,ih tE.2];by_cases e:p=n
   .subst e
    have:(ps.zip us).lookup p=none:=by
     cases q:(ps.zip us).lookup p with
     |none=>rfl
     |some v=>exact absurd (vD (nP q)).1 tE.1
    grind
   grind
def dI(ps:List Str)(vs:List V)(p:Str):V:=((ps.zip vs).lookup p).getD .non
structure Mx(env:Env)(e:Expr)(p0 p1 p2 b3 cx:Pos):Prop where
 hs:swapsWith (.Call (.Attribute (.Call (.Name "super" p0) [] [] p1) "__init__" p2) [e] [] b3) none cx.line env=pure false
 h9:starEach [e] env=[(false,eval e env)]
 nj:∃iQ:Sem Bool,eval (.Call (.Attribute (.Call (.Name "super" p0) [] [] p1) "__init__" p2) [e] [] b3) env=(do
   let g7 <-attributeBase (.Call (.Name "super" p0) [] [] p1) "__init__" env (eval (.Call (.Name "super" p0) [] [] p1) env)
   standAt p2.atName
   let (g,first) <-holding [g7] (getMethod g7 "__init__" iQ)
   callWith b3 g first (backTo b3 (starEach [e] env)) [])
theorem My{ps:List Str}{us:List Value}{vs:List V}(nd:ps.Nodup)(r:Vals vs us)(hl:us.length=ps.length){p:Str}(hm:p∈ps):∃u,((ps.zip us).reverse).lookup p=some u/\RelV (dI ps vs p) u:=by
 obtain⟨u,v,h1,h2,aH⟩:=VA nd r hl hm;exact⟨u,by rw[F5 nd];exact h1,by unfold dI;grind⟩
theorem Mz(KF:KxsFacts B i)(FB:ExcBaseFacts B newId i fJ)(l':StoreFacts B fJ "object.__setattr__" "object")(M:rH prog K mg base)
  (xk:rG prog K f D qual params [.Expr (.Call (.Attribute (.Call (.Name "super" p0) [] [] p1) "__init__" p2) [dg] [] b3) cx,.Assign [.Attribute (.Name bX de) g gu] ao k4] scope)
  (S:p8 scope bX) (T:oH K C fJ newId) (hh:hasDictIn K C=true) (P:xj params scope bX ps) (m4:mroIn K C (.ref D)=some true) (hm:ks_superIn K C D "__init__"=some (some (.builtin i))) (dr:subIn K (.ref C) (.type B)=some true) (hg:findIn K (.ref C) g=some none)
  (uj:(bX==("__debug__":Str))=false) (d_:∀env:Env,Mx env dg p0 p1 p2 b3 cx) (hs:∀env:Env,swapsWith ao (some (.Attribute (.Name bX de) g gu)) k4.line env=pure false)
  {r0 r1:(Str->V)->V} (h0:∀(env:Env) (vof:Str->V),env.scope=scope->kg env vof dg (r0 vof)) (h1:∀(env:Env) (vof:Str->V),env.scope=scope->kg env vof ao (r1 vof)) (VB:∀v1 v2:Str->V,(∀p∈ps,v1 p=v2 p)->r1 v1=r1 v2) :
  oJ prog w base 1 f C (λvs=>if vs.length=ps.length then some [(g,r1 (dI ps vs))]else none):=by
 intro A s x t us vs fs R xl bk MA hx aO a8 h;dsimp only at a8;split at a8
 .rename_i hl
  cases a8;have xm:us.length=ps.length:=by rw[<-aO.length];exact hl
  obtain⟨eg,od,name,kV,doc,pm,an,bU,cc,ct,gR,lk,iF,⟨oB,oC,oD,VC,file,dh,A9,F6,oG⟩,⟨cl,oE,oF,F7⟩⟩:=xk.ex;obtain⟨lY,bL⟩:=xk.cls;have X:K.In s.heap:=M.mod.kin.keeps bk;have lim:s.heap.NoLimit:=M.mod.nolimit.keeps bk;obtain⟨ar,F8,VD⟩:=gb.mp P.head;refine ks_codeAny_call_defAt (binds:=(bX::ps).zip (.ref x::us)) (by omega) (X _ _ lk) rfl lim (codeRec_of X iF) rfl (BindsTo.of_eq (P.bind _ _ rfl rfl (by simp[xm]))) S.cell (λy aW=>P.loc y.1 (vD aW).1) (λh₀ ei kp=>?_) S.co S.gen S.kind;have rL:x≠s.heap.objs.size:=fO (Heap.lt_size hx);have hz:∀{p:Str},p∈bX::ps->∃u,(((bX::ps).zip (.ref x::us)).reverse).lookup p=some u/\RelV (dI (bX::ps) (.ref x::vs) p) u:=λ{p} hp=>My P.nd (.cons (show RelV (.ref x) (.ref x)from rfl) aO) (by simp[xm]) hp;have um:(((bX::ps).zip (Value.ref x::us)).reverse).lookup bX=some (.ref x):=by rw[F5 P.nd];simp[List.lookup]
  have F9:∀p∈ps,dI (bX::ps) (.ref x::vs) p=dI ps vs p:=λp hp=>by
   have:(p==bX)=false:=by
    have:=(qL.mp P.nd).1;simp only[beq_eq_false_iff_ne,ne_eq];intro e;exact this (e▸hp)
   unfold dI;simp[List.lookup,this]
  have k5:=kp _ _ hx;refine ks_wpAt_execs_cons ?_;show _root_.PySem.wpAt (model prog w) _ (.func _ (ksEnv qual scope s.heap.objs.size f (.ref bU) cc)) (exec _ (ksEnv qual scope s.heap.objs.size f (.ref bU) cc)) _ _ _;obtain⟨iQ,nj⟩:=(d_ (ksEnv qual scope s.heap.objs.size f (.ref bU) cc)).nj;have A_:∀p,(ksEnv qual scope s.heap.objs.size f (.ref bU) cc).kindOf p=some .local->∃u,(((bX::ps).zip (Value.ref x::us)).reverse).lookup p=some u/\RelV (dI (bX::ps) (.ref x::vs) p) u:=λp hp=>hz (P.only (p,.local) (nP hp) rfl);refine Vp (fd:=ksFn name qual params _ scope .none kV doc pm an (.ref bU) ct cc) (ar:=ar) (t:=t) KF FB M (by grind) T (λb o e=>kp b o (bk b o e)) ei lk F8 (by grind) k5 A9 F6 oG F7 bL m4 hm dr (Rv:=λv=>RelV (r0 (dI (bX::ps) (.ref x::vs))) v)
   (λs1 Q1 w5 hq=>(h0 (ksEnv qual scope s.heap.objs.size f (.ref bU) cc) _ rfl).run S.kind rfl A_ w5 hq) (λh' t' tk k FZ=>?_) (d_ _).hs nj (d_ _).h9
  have F_:s.heap.objs.size≠x:=rL.symm;have xq:h'.Ns s.heap.objs.size (λy=>((bX::ps).zip (Value.ref x::us)).reverse.lookup y):=by
   obtain⟨l0,es,dF,fK,r⟩:=ei;exact⟨l0,es,dF,k _ _ F_ fK,r⟩
  refine ks_wpAt_execs_cons (wpAt_of_wpAny (plainObj_wpAny_Assign_Attribute ((h1 (ksEnv qual scope s.heap.objs.size f (.ref bU) cc) _ rfl).run S.kind rfl A_ xq λv jQ MB=>?_) (hs _)));refine wpAny_Name (wpAny_loadName_local S.kind (P.loc bX (vz ..)) xq um ?_) uj;have VE:∀b o,base.get? b=some o->h'.get? b=some o:=λb o e=>k b o (λz=>by
   grind) (kp b o (bk b o e))
  refine Vv l' (M.mod.kin.keeps VE) T FZ hg hh λh2 F' bh ck A' lS pZ=>?_;refine wpAt_of_wpAny (wpAny_execs_nil ?_);refine h h2 F' t' bh _ (λb o hb e=>ck b o hb (k b o hb (kp b o e))) ?_ lS pZ ?_
  .obtain⟨l0,es,dF,fK,r⟩:=xq
   exact vE (j2 (Heap.lt_size fK)) A'
  .have ao:r1 (dI (bX::ps) (.ref x::vs))=r1 (dI ps vs):=VB _ _ F9
   rw[ao]at MB;exact L2.relO_put (fs:=[]) MB λg=>True.intro
 .cases a8
theorem MC{f2:Addr}{Ga:List V->Option (List (Str×V))}{k:Nat}(xr:oJ prog w base k f2 C Ga)(l':StoreFacts B fJ "object.__setattr__" "object")(M:rH prog K mg base)
  (xk:rG prog K f D qual params (.Expr (.Call (.Attribute (.Call (.Name "super" p0) [] [] p1) "__init__" p2) [dg] [] b3) cx::sts) scope)
  (S:p8 scope bX) (T:oH K C fJ newId) (hh:hasDictIn K C=true) (P:xj params scope bX ps) (m4:mroIn K C (.ref D)=some true) (hm:ks_superIn K C D "__init__"=some (some (.ref f2))) (A6:(K.lookup f2).map (·.cls)=some (.type "function")) (F3:fnIn K f2=true)
  (uj:(bX==("__debug__":Str))=false) (d_:∀env:Env,Mx env dg p0 p1 p2 b3 cx)
  {r0:(Str->V)->V} (h0:∀(env:Env) (vof:Str->V),env.scope=scope->kg env vof dg (r0 vof)) (VF:∀v1 v2:Str->V,(∀p∈ps,v1 p=v2 p)->r0 v1=r0 v2)
  (ha:∀env:Env,env.scope=scope->xh env bX sts l) (hl:∀fp∈l,findIn K (.ref C) fp.1=some none/\fp.2∈ps) (hlen:l.length<=100) (agV:∀vs fs,Ga vs=some fs->fs.length<=800) :
  oJ prog w base (k+1) f C (λvs=>if vs.length=ps.length then(Ga [r0 (dI ps vs)]).map (λfs=>l.foldl (λfs fp=>(fp.1,dI ps vs fp.2)::fs) fs)else none):=by
 intro A s x t us vs fs R xl bk MA hx aO a8 h;dsimp only at a8;split at a8
 .rename_i VG
  obtain⟨MD,VH,xt⟩:=gb.mp a8;have xm:us.length=ps.length:=by rw[<-aO.length];exact VG
  obtain⟨eg,od,name,kV,doc,pm,an,bU,cc,ct,gR,lk,iF,⟨oB,oC,oD,VC,file,dh,A9,F6,oG⟩,⟨cl,oE,oF,F7⟩⟩:=xk.ex;obtain⟨lY,bL⟩:=xk.cls;have X:K.In s.heap:=M.mod.kin.keeps bk;have lim:s.heap.NoLimit:=M.mod.nolimit.keeps bk;obtain⟨ar,F8,VD⟩:=gb.mp P.head;refine ks_codeAny_call_defAt (binds:=(bX::ps).zip (.ref x::us)) (by omega) (X _ _ lk) rfl lim (codeRec_of X iF) rfl (BindsTo.of_eq (P.bind _ _ rfl rfl (by simp[xm]))) S.cell (λy aW=>P.loc y.1 (vD aW).1) (λh₀ ei kp=>?_) S.co S.gen S.kind;have rL:x≠s.heap.objs.size:=fO (Heap.lt_size hx);have hz:∀{p:Str},p∈bX::ps->∃u,(((bX::ps).zip (.ref x::us)).reverse).lookup p=some u/\RelV (dI (bX::ps) (.ref x::vs) p) u:=λ{p} hp=>My P.nd (.cons (show RelV (.ref x) (.ref x)from rfl) aO) (by simp[xm]) hp;have um:(((bX::ps).zip (Value.ref x::us)).reverse).lookup bX=some (.ref x):=by rw[F5 P.nd];simp[List.lookup]
  have F9:∀p∈ps,dI (bX::ps) (.ref x::vs) p=dI ps vs p:=λp hp=>by
   have:(p==bX)=false:=by
    have:=(qL.mp P.nd).1;simp only[beq_eq_false_iff_ne,ne_eq];intro e;exact this (e▸hp)
   unfold dI;simp[List.lookup,this]
  have k5:=kp _ _ hx;refine ks_wpAt_execs_cons ?_;show _root_.PySem.wpAt (model prog w) _ (.func _ (ksEnv qual scope s.heap.objs.size f (.ref bU) cc)) (exec _ (ksEnv qual scope s.heap.objs.size f (.ref bU) cc)) _ _ _;obtain⟨iQ,nj⟩:=(d_ (ksEnv qual scope s.heap.objs.size f (.ref bU) cc)).nj;have A_:∀p,(ksEnv qual scope s.heap.objs.size f (.ref bU) cc).kindOf p=some .local->∃u,(((bX::ps).zip (Value.ref x::us)).reverse).lookup p=some u/\RelV (dI (bX::ps) (.ref x::vs) p) u:=λp hp=>hz (P.only (p,.local) (nP hp) rfl);refine Vs (fd:=ksFn name qual params _ scope .none kV doc pm an (.ref bU) ct cc) (ar:=ar) (t:=t) M (by grind) T (λb o e=>kp b o (bk b o e)) ei lk F8 (by grind) k5 A6 F3 A9 F6 oG F7 bL m4 hm (Rv:=λv=>RelV (r0 (dI (bX::ps) (.ref x::vs))) v)
   (λs1 Q1 w5 hq=>(h0 (ksEnv qual scope s.heap.objs.size f (.ref bU) cc) _ rfl).run S.kind rfl A_ w5 hq) (λh' tk v ME p9=>?_) (d_ _).hs nj (d_ _).h9
  have VI:r0 (dI (bX::ps) (.ref x::vs))=r0 (dI ps vs):=VF _ _ F9;rw[VI]at ME;have dd:(A.deeper (ksEnv qual scope s.heap.objs.size f (.ref bU) cc)).depth+k<recursionLimit:=by
   show A.depth+1+k<_;omega
  refine xr _ _ x t [v] [r0 (dI ps vs)] MD _ dd (λb o e=>p9 b o (kp b o (bk b o e))) MA (p9 _ _ k5) (.cons ME .nil) VH λh2 jQ t' bh m ck A' lS pZ rel=>?_;have sz:s.heap.objs.size<h'.objs.size:=by
   obtain⟨l0,es,dF,fK,r⟩:=ei;exact Heap.lt_size (p9 _ _ fK)
  have xu:s.heap.objs.size<bh:=jA sz A';have F_:s.heap.objs.size≠x:=rL.symm;have xq:h2.Ns s.heap.objs.size (λy=>((bX::ps).zip (Value.ref x::us)).reverse.lookup y):=by
   obtain⟨l0,es,dF,fK,r⟩:=ei;exact⟨l0,es,dF,ck _ _ F_ (p9 _ _ fK),r⟩
  have VJ:∀{b:Addr} {o:Obj},base.get? b=some o->b≠x:=λ{b o} e z=>by
   grind
  have A8:x≠bh:=fO (lD (Heap.lt_size hx) xu);refine wpAt_of_wpAny (Mv (env:=ksEnv qual scope s.heap.objs.size f (.ref bU) cc) (vof:=dI (bX::ps) (.ref x::vs)) (s:={ s with heap:=h2,toks:=jQ }) l' M.mod.kin T hh S.kind rfl (P.loc bX (vz ..)) uj um (ha _ rfl) (λb o e=>⟨ck b o (VJ e) (p9 b o (kp b o (bk b o e))),fO (lD (Heap.lt_size (bk b o e)) xu)⟩)
   (λfp hm=>⟨(hl fp hm).1,hz (qM _ (hl fp hm).2)⟩) xq (fO xu) A8 lS pZ rel (by grind) λaH F' AZ oI VL VM MF=>?_)
  have VN:∀(p_:List (Str×Str)) (fs:List (Str×V)),(∀fp∈p_,fp.2∈ps)->p_.foldl (λfs fp=>(fp.1,dI (bX::ps) (.ref x::vs) fp.2)::fs) fs=p_.foldl (λfs fp=>(fp.1,dI ps vs fp.2)::fs) fs:=by
   intro p_
   induction p_ with
   |nil=>simp
   |cons fp p_ ih =>
    grind
  rw[VN l MD (λfp hm=>(hl fp hm).2),xt]at MF;exact h aH F' t' bh AZ (λb o hb e=>oI b o (fO (lD (Heap.lt_size e) xu)) (ck b o hb (p9 b o (kp b o e)))) (j2 xu) VL VM MF
 .cases a8
end
end ZX
namespace Z
open PySem PySem.Spec L2
def kh(tag:Str)(cm:List Str)(vs:List V):List (Str×V):=(cm.zip vs).reverse++[(("tag":Str),V.str tag)]
structure rM(P:Program)(w:World)(K:PySem.W.Frag)(mg:Str->Option Value)(base:Heap)(c:Str)(C:Addr)(k:Nat)(tag:Str)(cm:List Str):Prop where
 hm:mg c=some (.ref C)
 keep:PySem.W.keepIn K (.ref C)=true
 ex:L2.Mod K mg base->∃(B newId MG:String) (fJ:List Value) (Ba:Addr),PySem.ExcBaseFacts B newId MG fJ/\PySem.W.excInitIn K C fJ newId=true/\PySem.W.findIn K (.ref C) "__init__"=some (some (.ref Ba))/\PySem.W.typeIn K (.ref Ba)=some (.type "function") /\
  ZX.oJ P w base k Ba C (λvs=>if vs.length=cm.length then some (kh tag cm vs)else none)
 exC:PySem.W.subIn K (.ref C) (.type "BaseException")=some true
 tyC:PySem.W.typeIn K (.ref C)=some (.type "type")
theorem Bb{K:PySem.W.Frag}{mg:Str->Option Value}{ae:List Addr}{H:Hp}:∀{ds:List D} {vs:List V},ak K mg ae H ds vs->ak K mg ae H ds.reverse vs.reverse
 |[],_,h=>by rw[ak]at h;subst h;rfl
 |d::ds,_,h=>by
  rw[ak]at h;obtain⟨v,r,e,h1,h2⟩:=h;subst e;rw[Di,Di];exact(Bb h2).append (ak.cons h1 ak.nil)
theorem MH:∀{a:List Str} {b:List V},b.length=a.length->(a.zip b).map (·.1)=a
 |[],[],_=>rfl
 |x::a,y::b,h=>by simp[MH (a:=a) (b:=b) (by simpa using h)]
theorem MI:∀{a:List Str} {b:List V},b.length=a.length->(a.zip b).map (·.2)=b
 |[],[],_=>rfl
 |x::a,y::b,h=>by simp[MI (a:=a) (b:=b) (by simpa using h)]
theorem VO{K:PySem.W.Frag}{mg:Str->Option Value}{ae:List Addr}{H:Hp}{tag:Str}{cm:List Str}{ds:List D}{vs:List V}(r:ak K mg ae H ds vs)(hl:ds.length=cm.length):vs.length=cm.length/\(kh tag cm vs).map (·.1)=cm.reverse++[("tag":Str)]/\ak K mg ae H (ds.reverse++[D.str tag]) ((kh tag cm vs).map (·.2)):=by
 have bB:vs.length=cm.length:=by rw[<-r.len];exact hl
 refine⟨bB,?_,?_⟩
 .unfold kh
  rw[List.map_append,List.map_reverse,MH bB];rfl
 .unfold kh
  rw[List.map_append,List.map_reverse,MI bB];exact(Bb r).append (ak.cons (by rw[Rep]) ak.nil)
section
variable{X:Cx}{pins:List (Addr×Obj)}{σ:L2.St}{H:Hp}{s:Shared}
theorem VP{c:Str}{C:Addr}{k:Nat}{tag:Str}{cm:List Str}{us:List Value}{vs:List V}{Q:Value->Shared->Prop}(M:rM X.prog X.w X.K X.mg X.base c C k tag cm)(hr:Room (k+1) X.A)(I:Inv X pins σ H s)(r:Vals vs us)(hl:vs.length=cm.length)(hz:cm.length<=100)
  (h:∀a d h' jm t' m,(∀b o,s.heap.get? b=some o->h'.get? b=some o)->s.heap.objs.size<=a->s.heap.objs.size<=d->a≠d->h'.get? a=some (ZX.exd C t' (some d))->h'.Ns1 d m->(∀g,RelO ((kh tag cm vs).lookup g) (m g))->Q (.ref a) { s with heap:=h',toks:=jm }) :
  wpAny (model X.prog X.w) X.A (call (.ref C) us) Q X.xe s:=by
 obtain⟨B,newId,MG,fJ,Ba,FB,q,VQ,VR,F⟩:=M.ex I.ok.mod;obtain⟨nm,Vq,gy,bs,bm,Vr,sn,sub,ab,col,dd,m5,dz,ck,oI,F2,d5,d_⟩:=PySem.W.excInit_of I.kIn q;obtain⟨hp,g,rN,tk,os⟩:=s;have VS:us.length=cm.length:=by rw[<-r.length];exact hl
 have kk:∀b o,hp.get? b=some o->((hp.push (PySem.W.kdv_tup us)).push (PySem.HandSPX.excO C hp.objs.size)).get? b=some o:=λb o e=>Heap.get?_push_of_some _ (Heap.get?_push_of_some _ e);have ng:((hp.push (PySem.W.kdv_tup us)).push (PySem.HandSPX.excO C hp.objs.size)).get? (hp.objs.size+1)=some (PySem.HandSPX.excO C hp.objs.size):=by heap_get
 have dj:hp.objs.size+1+1=((hp.push (PySem.W.kdv_tup us)).push (PySem.HandSPX.excO C hp.objs.size)).objs.size:=by rw[Heap.size_push,Heap.size_push]
 have VU:X.base.get? (hp.objs.size+1)=none:=by
  cases e:X.base.get? (hp.objs.size+1)with
  |none=>rfl
  |some o=>exact absurd (Heap.lt_size (I.bk _ _ e)) (Nat.not_lt.mpr (Nat.le_succ _))
 have dep:=(hr.make C us []).dp;refine wpAny_call (PySem.HandSPX.call_own FB d_ d5 (PySem.W.looks_findIn I.kIn VQ) (λself=>PySem.W.bind_fn I.kIn self VR) (by rw[VS,sizeLine_eq];omega) ?_);refine F _ _ (hp.objs.size+1) hp.objs.size us vs _ _ (by omega) (λb o e=>kk b o (I.bk b o e)) VU ng r (if_pos hl) λh' jm t' bh m p9 A' hx hn rel=>?_;refine⟨rfl,?_⟩;have VW:∀b o,hp.get? b=some o->h'.get? b=some o:=λb o e=>p9 b o (fO (lD (Heap.lt_size e) (mL _))) (kk b o e);grind
theorem VX{c:Str}{C:Addr}{k:Nat}{tag:Str}{cm:List Str}{us:List Value}{vs:List V}{Q:XK}(M:rM X.prog X.w X.K X.mg X.base c C k tag cm)(hr:Room (k+1) X.A)(I:Inv X pins σ H s)(r:Vals vs us)(hl:vs.length=cm.length)(hz:cm.length<=100)
  (h:∀d,H d=none->Q (.ref C) (some d) (upd H d (.xd (kh tag cm vs)))) :
  wpAny (model X.prog X.w) X.A (call (.ref C) us) (L2N.MkP X pins σ Q) X.xe s:=by
 refine VP M hr I r hl hz λa d h' jm t' m VW ha hd ne hx hn rel=>?_;have VY:H a=none:=I.hok.fresh ha;have VZ:H d=none:=I.hok.fresh hd;obtain⟨G,g1,g2⟩:=restrict h' λb=>decide (b≠a);have MJ:∀b,b≠a->G.get? b=h'.get? b:=λb hb=>g1 b (decide_eq_true hb);have ge:G.get? a=none:=g2 a (by simp);have V0:∀b o,s.heap.get? b=some o->G.get? b=some o:=λb o e=>by rw[MJ b (fO (jA (Heap.lt_size e) ha))];grind
 have a8:∀b o,G.get? b=some o->h'.get? b=some o:=λb o e=>by
  grind
 have J:Inv X pins σ (upd H d (.xd (kh tag cm vs))) { s with heap:=G,toks:=jm }:=I.laid (t':=jm) V0 hd ⟨m,hn.at λo y=>(MJ d (iA ne)).trans y,rel⟩;exact⟨a,_,_,{ s with heap:=G,toks:=jm },_,.ref C,some d,rfl,J,a8,ge,hx,⟨rfl,rfl,λvs e=>by cases e;rfl⟩,rfl,rfl,by rw[upd_ne ne];exact VY,rfl,J.bare,raises_own M.exC M.tyC,h d VZ⟩
end
def oK(c tag:Str)(cm:List Str):aK:=λds S=>if ds.length=cm.length then .ok (.exc c (cm.reverse++[("tag":Str)]) (ds.reverse++[D.str tag])) S else .bad
section
variable{X:Cx}{W:WX}{k:Nat}{C:Addr}{x tag:Str}{cm:List Str}{p pos:Pos}{e:Expr}{es:List Expr}{fa:c1}
def p'(f:aQ):SX:=λsl S=>match f sl S with
 | .ok (.exc c ns ds) ah=>.ex (.ins c ns ds) sl ah
 | .ok _ _=>.bad
 | .ex e ah=>.ex e sl ah
 | .bad=>.bad
theorem V1{K:PySem.W.Frag}{mg:Str->Option Value}{ae:List Addr}{H:Hp}{S:Store}{sl:aJ}{σ:L2.St}{ds:List D}{vs:List V}{dR:Ends}{d:Addr}(hm:mg x=some (.ref C))(w:aD K mg ae H S)(rs:bM K mg ae H σ sl)(r:ak K mg ae H ds vs)(hl:ds.length=cm.length)(hd:H d=none)
  (p:bj K mg W ae H dR (.ex (.ins x (cm.reverse++[("tag":Str)]) (ds.reverse++[D.str tag])) sl S)):W (.ref C) (some d) σ (upd H d (.xd (kh tag cm vs))):=by
 have x1:Ext ae H ae (upd H d (.xd (kh tag cm vs))):=Ext.g0 hd;obtain⟨_,ao,e2⟩:=VO (tag:=tag) r hl;exact p _ _ σ ae _ x1 (w.g0 hd) (rs.ext x1) ⟨x,_,_,C,d,_,rfl,hm,rfl,rfl,w.nin hd,upd_same,ao,e2.ext x1⟩
theorem Gb(tk:Takes X W)(hc:X.calm=true)(M:rM X.prog X.w X.K X.mg X.base x C k tag cm)(hr:Room (k+1) X.A)(hz:cm.length<=100)(ha:gj X W (e::es) fa){pr:Pos}(hg:Gl X x:=by rfl)
  (hD:(x==("__debug__":Str))=false:=by decide) (he:starEach (e::es) X.env=(false,eval e X.env)::starEach es X.env:=by rfl) (d8:(backTo pos (starEach es X.env)).any (·.1)=false:=by rfl) :
  ES X W (.Raise (some (.Call (.Name x p) (e::es) [] pos)) none pr) (p' (az (oK x tag cm) fa)):=by
 refine PS.imp (R9 hc tk (t:=λσ H Q=>qT X.K X.mg W fa σ H λvs H1=>vs.length=cm.length/\∀d,H1 d=none->Q (.ref C) (some d) (upd H1 d (.xd (kh tag cm vs)))) ?_) λdR σ H ⟨ae,S,sl,w,rs,p⟩=>?_
 .intro pins s σ H Q I h
  refine wpAny_Call_Name_kw (ld_glob I hg M.hm ?_ hD);refine vA (h₀:=X.base) I.ok.mod.kin M.keep (thn (ha.run pos pins s σ H _ I h) λus s1 ⟨vs,H1,I1,r,hl,q⟩=>⟨I1.kIn,?_⟩) he d8;exact VX M hr I1 r hl hz q
 .refine⟨ae,S,sl,w,rs,?_⟩
  unfold p' az at p;cases o:fa sl S with
  |ok ds S1 =>
   intro vs aA H1 x1 aF r1;have p:bj X.K X.mg W ae H dR (match oK x tag cm ds S1 with|.ok (.exc c ns ds) ah=>.ex (.ins c ns ds) sl ah|.ok _ _=>.bad|.ex e ah=>.ex e sl ah|.bad=>.bad):=by
    rw[o]at p;exact p
   unfold oK at p;by_cases hl:ds.length=cm.length
   .rw[if_pos hl]at p
    exact⟨by rw[<-r1.len];exact hl,λd hd=>V1 M.hm aF (rs.ext x1) r1 hl hd (bj.from x1 p)⟩
   .rw[if_neg hl]at p
    exact p.elim
  |ex e S1 =>
   have p:bj X.K X.mg W ae H dR (.ex e sl S1):=by rw[o]at p;exact p
   exact λC dd aA H1 x1 aF r1=>p C dd σ aA H1 x1 aF (rs.ext x1) r1
  |bad=>rw[o]at p;exact p.elim
end
open PySem PySem.Spec L2 PyProof.Rows
def V2(N:List Str)(sl:aJ)(n:Str):Option D:=((N.zip sl).lookup n).bind id
def MK(N:List Str)(sl:aJ):List Str->Option (List D)
 |[]=>some []
 |n::ns=>match V2 N sl n,MK N sl ns with
  |some d,some r=>some (d::r)
  |_,_=>none
def V3(oL:List Str)(lH:List (Str×Addr))(T:tu)(cQ:List (Str×Addr)):Prop:=cQ=cloFrom lH T.scope.names []/\T.names.Nodup/\∀n∈T.names,n∈oL/\T.scope.names.lookup n=some .free
noncomputable section
open Classical in
mutual
def conv(oL N:List Str)(lH:List (Str×Addr))(sl:aJ):D->Option D
 | .lam T cQ=>if V3 oL lH T cQ then(MK N sl T.names).map (.gZ T)else none
 | .lst xs=>(Bc oL N lH sl xs).map .lst
 | .tup xs=>(Bc oL N lH sl xs).map .tup
 | .bF xs=>(Bc oL N lH sl xs).map .bF
 |d=>some d
def Bc(oL N:List Str)(lH:List (Str×Addr))(sl:aJ):List D->Option (List D)
 |[]=>some []
 |d::ds=>match conv oL N lH sl d,Bc oL N lH sl ds with
  |some a,some b=>some (a::b)
  |_,_=>none
end
end
section
variable{X:Cx}
def mb:aK:=λds S=>match ds with
 |[.int i]=>.ok (.int (if i<0 then -i else i)) S
 |_=>.bad
theorem xv:hC X (.builtin "abs") mb:=by
 refine⟨_,call_abs,λWp ae H S ds xs Q w r p=>?_⟩;unfold mb at p;split at p
 .obtain⟨v,e,h1⟩:=kR r
  rw[fh h1]at e;exact⟨_,e,b5 p w g5⟩
 .exact p.elim
end
end Z
namespace PySem.W
open PySem PySem.Calls PyProof.Rows Builtin
section
variable{prog:Program}{w:World}{A:Around}{E:Value->Shared->Prop}{s:Shared}{K:Frag}{x C f:Addr}{rJ:Obj}{od:Option Obj}
theorem ML{op:CmpOp}{b tb:Value}{Q:Value->Shared->Prop}(aI:A.units<cLine)(X:K.In s.heap)(I:InstAt s.heap x rJ C od)(hb:Looks (model prog w) s.heap (typeOf b) tb)(hn:notFirst K C tb=true)
  (hs:findIn K (.ref C) (cmpInfo op).2.1=some (some (.ref f))) (hf:isFn K (.ref f)=true)
  (h:wpAny (model prog w) A (call (.ref f) [.ref x,b]) (CmpBack Q) E s):wpAny (model prog w) A (richCompare op (.ref x) b) Q E s:=by
 have one:wpAny (model prog w) A (tryCompare (.ref x) (cmpInfo op).2.1 b) (λr s'=>∃v,r=some v/\Q v s') E s:=by
  unfold tryCompare;refine wpAny_bind (ifBound_K X I hs hf (wpAny_mono h (λv s' bB=>?_) λ_ _ e=>e));cases v<;>first|exact bB.elim|exact wpAny_pure ⟨_,rfl,bB⟩
 unfold richCompare;simp only[oneThing_ref];refine wpAny_holding (wpAny_bind (wpAny_cRoomFor aI ?_));refine wpAny_bind (I.type.here (wpAny_bind (hb.here ?_)));split
 .rename_i q
  have e:subIn K tb (.ref C)=some false:=by
   rcases Bool.or_eq_true_iff.mp hn with e|e
   .grind
   .grind
  refine wpAny_bind ((looks_subIn X e).here ?_);simp only[y_,if_false];refine wpAny_bind (wpAny_mono one (λr s' z=>?_) λ_ _ e=>e);obtain⟨v,rfl,hq⟩:=z;exact wpAny_pure hq
 .refine wpAny_bind (wpAny_pure ?_)
  simp only[y_,if_false];refine wpAny_bind (wpAny_mono one (λr s' z=>?_) λ_ _ e=>e);obtain⟨v,rfl,hq⟩:=z;exact wpAny_pure hq
end
end PySem.W
namespace Z
open PySem PySem.Spec L2 PyProof.Rows
structure iR(X:Cx)(W:WX)(f:Value->Value->Sem Value)(bp:bR):Prop where
 go:∀(pins:List (Addr×Obj)) (s:Shared) (σ:L2.St) (ae:List Addr) (H:Hp) (S:Store) (d e:D) (x y:V) (v u:Value) (Q:VK),Inv X pins σ H s->RelV x v->RelV y u->aD X.K X.mg ae H S->Rep X.K X.mg ae H d x->Rep X.K X.mg ae H e y ->
  aM X.K X.mg (λC dd H'=>W C dd σ H') ae H Q (bp d e S)->wpAny (model X.prog X.w) X.A (f v u) (EP X pins σ Q) X.xe s
section
variable{X:Cx}{W:WX}{a b:Expr}{fa fb:aQ}{pos:Pos}
theorem cg.w{f:Value->Value->Sem Value}{bp:bR}(h:cg X f bp):iR X W f bp:=⟨λpins s σ ae H S d e x y v u Q I aO b6 w aC aZ p=>by
 obtain⟨r,o,g⟩:=h.go;exact o pins s σ H x y v u Q I aO b6 (g _ ae H S d e x y Q w aC aZ p)⟩
theorem iR.or{f:Value->Value->Sem Value}{s t:bR}(h:iR X W f s)(h':iR X W f t):iR X W f (c7 s t):=⟨λpins s0 σ ae H S d e x y v u Q I aO b6 w aC aZ p=>by
 unfold c7 at p;cases q:s d e S with
 |bad=>rw[q]at p;exact h'.go pins s0 σ ae H S d e x y v u Q I aO b6 w aC aZ p
 |ok a b=>rw[q]at p;exact h.go pins s0 σ ae H S d e x y v u Q I aO b6 w aC aZ (by grind)
 |ex a b=>rw[q]at p;exact h.go pins s0 σ ae H S d e x y v u Q I aO b6 w aC aZ (by grind)⟩
theorem jpg{f:Value->Value->Sem Value}{bp:bR}(aS:iR X W f bp)(ha:E X W a fa)(hb:E X W b fb){pins:List (Addr×Obj)}{s:Shared}{σ:L2.St}{H:Hp}{Q:VK}(I:Inv X pins σ H s)(h:eN X.K X.mg W (ay bp fa fb) σ H Q){R:Value->Shared->Prop}
  (k:∀v u s2,wpAny (model X.prog X.w) X.A (f v u) (EP X pins σ Q) X.xe s2->wpAny (model X.prog X.w) X.A (f v u) R X.xe s2) :
  wpAny (model X.prog X.w) X.A (eval a X.env) (λv s₁=>wpAny (model X.prog X.w) X.A (eval b X.env) (λu s₂=>wpAny (model X.prog X.w) X.A (f v u) R X.xe s₂) X.xe s₁) X.xe s:=by
 obtain⟨ae,S,sl,w,rs,p⟩:=h;refine thn (ha.run pins s σ H _ I ⟨ae,S,sl,w,rs,aM.eD p⟩) λv s1 ⟨x,H1,I1,r1,aA,S1,d,x1,aF,rd,_,p1⟩=>?_;refine thn (hb.run pins s1 σ H1 _ I1 ⟨aA,S1,sl,aF,rs.ext x1,aM.eD p1⟩) λu s2 ⟨y,aG,I2,aE,aL,S2,e,x2,cz,re,_,p2⟩=>?_;exact k v u s2 (aS.go pins s2 σ aL aG S2 d e x y v u Q I2 r1 aE cz (rd.ext x2) re p2)
theorem Be{op:CmpOp}{bp:bR}(aS:iR X W (compareOp op) bp)(ha:E X W a fa)(hb:E X W b fb)(hm:behindInMarks op b=false:=by first|exact nomark _|rfl):h4 X W (.Compare a [op] [b] pos) (a5 (ay bp fa fb)):=by
 refine⟨λpins s σ H Q I h=>?_⟩;obtain⟨ae,S,sl,w,rs,p⟩:=h;have cw:=aM.bindB p;refine wpAny_isTrue_Compare1 (jpg (Q:=λv H1=>∃k,v=.bl k/\Q k H1) aS ha hb I ⟨ae,S,sl,w,rs,aM.mono cw λv H1 ⟨aA,S1,d,x1,aF,r1,_,p1⟩=>?_⟩ λv u s2 z=>thn z λc s3 ⟨x,cF,g',cA,k,e,gN⟩=>?_) hm
 .cases d with
  |bl k =>
   rw[Rep]at r1;exact⟨k,r1,p1 aA H1 Ext.refl aF⟩
  |_=>exact p1.elim
 .subst e
  cases cA;exact wpAny_truthy_bool ⟨cF,g',gN⟩
theorem Bf{pins:List (Addr×Obj)}{s:Shared}{σ:L2.St}{H:Hp}{p C bh:Addr}{fs:List (Str×V)}(I:Inv X pins σ H s)(ea:H p=some (.ins C bh fs)):∃rJ od,PySem.W.InstAt s.heap p rJ C od:=by
 obtain⟨Uh,O,_,_,_,_⟩:=ins_get I.hok ea;obtain⟨od,J,_⟩:=O.look;grind
theorem V4(K:PySem.W.Frag)(k:j')(C:Addr):PySem.W.subIn K (.type k.name) (.ref C)=some false:=by
 cases k<;>first|rfl|kernel_rfl
structure oM(X:Cx)(m:Str)(j:Nat)(tab:List (Str×aK)):Prop where
 at_:∀c g,pW tab c=some g->∀C,X.mg c=some (.ref C)->∃(f:Addr) (k:Nat),Meth X.K C m f/\bz X.prog X.w X.K X.mg X.base k f g/\Room (k+j) X.A
theorem Ge{m:Str}{j:Nat}:oM X m j []:=⟨λc g h=>by cases h⟩
theorem Gf{m:Str}{j:Nat}{c:Str}{C f:Addr}{k:Nat}{g:aK}{tab:List (Str×aK)}(hm:X.mg c=some (.ref C))(qa:Meth X.K C m f)(F:bz X.prog X.w X.K X.mg X.base k f g)(hk:Room (k+j) X.A)(h:oM X m j tab):oM X m j ((c,g)::tab):=⟨λbx e8 h' d6 iK=>by
 unfold pW at h';rw[List.lookup_cons]at h';cases q:bx==c with
 |true =>
  grind
 |false =>
  rw[q]at h';exact h.at_ bx e8 h' d6 iK⟩
structure oN(X:Cx)(oth:List Str)(tab:List (Str×aK)):Prop where
 at_:∀c g,pW tab c=some g->∀C,X.mg c=some (.ref C)->(∀bx∈oth,∀d6,X.mg bx=some (.ref d6)->PySem.W.notFirst X.K C (.ref d6)=true)/\PySem.W.findIn X.K (.ref C) "__ne__"=some (some (.builtin "object.__ne__"))/\PySem.W.mroIn X.K C (.type "object")=some true
structure md(K:PySem.W.Frag)(C:Addr):Prop where
 cl:Cls K C
 ha:PySem.W.findIn K (.ref C) "__class__"=some (some (.builtin "object.__class__"))
 ob:PySem.W.mroIn K C (.type "object")=some true
theorem V5(K:PySem.W.Frag):PySem.W.specialIn K (.builtin "object.__class__") "__get__"=some (some (.builtin "getset_descriptor.__get__")):=by kernel_rfl
theorem V6(K:PySem.W.Frag):PySem.W.takesIn K (.builtin "object.__class__")=some true:=by kernel_rfl
theorem md.ty{K:PySem.W.Frag}{C a bh:Addr}{H:Hp}{fs:List (Str×V)}(t:md K C)(e:H a=some (.ins C bh fs)):TyX K H (.ref a) (.ref C):=.base (.ins e t.cl t.ha (V5 K) (V6 K) t.ob)
structure Bg(X:Cx)(tab:List (Str×List Str×List Str)):Prop where
 at_:∀D yes no,tab.lookup D=some (yes,no)->∀dW,X.mg D=some (.ref dW)->((PySem.W.clsIn X.K dW).isSome&&PySem.W.typeIn X.K (.ref dW)==some (.type "type"))=true /\
  (∀c∈yes,∀C,X.mg c=some (.ref C)->md X.K C/\PySem.W.kitOne X.K (.ref C) (.ref dW)=some true)/\(∀c∈no,∀C,X.mg c=some (.ref C)->md X.K C/\PySem.W.kitOne X.K (.ref C) (.ref dW)=some false)
def rO(tab:List (Str×List Str×List Str)):aK:=λds S=>match ds with
 |[d,.cls D]=>(match tab.lookup D with
  |some (yes,no)=>(match jc S d with
   |some (c,_,_)=>if c∈yes then .ok (.bl true) S else if c∈no then .ok (.bl false) S else .bad
   |none=>if(hM S d).isSome=true then .ok (.bl false) S else .bad)
  |none=>.bad)
 |_=>.bad
theorem V7{K:PySem.W.Frag}{dW:Addr}(h:((PySem.W.clsIn K dW).isSome&&PySem.W.typeIn K (.ref dW)==some (.type "type"))=true)(k:j'):PySem.W.kitOne K (.type k.name) (.ref dW)=some false:=by
 unfold PySem.W.kitOne;rw[if_neg (by simp)];unfold PySem.W.kitCls;dsimp only;rw[if_pos h];exact V4 K k dW
theorem MN{tab:List (Str×List Str×List Str)}(ht:Bg X tab):hC X (.builtin "isinstance") (rO tab):=by
 refine⟨_,call_isi,λWp ae H S ds xs Q w r p=>?_⟩;unfold rO at p;split at p
 .rename_i d D
  split at p
  .rename_i yes no di
   rw[ak]at r;obtain⟨v,bN,e,h1,h2⟩:=r;rw[ak]at h2;obtain⟨u,aE,e2,aH,bQ⟩:=h2;rw[ak]at bQ;subst bQ e2 e;rw[Rep]at aH;obtain⟨dW,bL,rP⟩:=aH;subst rP;obtain⟨a1,a2,a3⟩:=ht.at_ D yes no di dW bL;split at p
   .rename_i c ns vs Fl
    obtain⟨a,C,bh,fs,ex,hm,ea,hn,cS⟩:=pB w h1 Fl;subst ex;split at p
    .rename_i aW
     obtain⟨t,kk⟩:=a2 c aW C hm;exact⟨.ref a,.ref dW,_,.ref dW,true,rfl,.own dW,t.ty ea,kk,b5 p w eR⟩
    .split at p
     .rename_i aW
      obtain⟨t,kk⟩:=a3 c aW C hm;exact⟨.ref a,.ref dW,_,.ref dW,false,rfl,.own dW,t.ty ea,kk,b5 p w eR⟩
     .exact p.elim
   .split at p
    .rename_i hk
     obtain⟨kk,V8⟩:=Option.isSome_iff_exists.mp hk;exact⟨v,.ref dW,_,.ref dW,false,rfl,.own dW,z1 w h1 V8,V7 a1 kk,b5 p w eR⟩
    .exact p.elim
  .exact p.elim
 .exact p.elim
end
theorem Fun.d:True:=trivial
section
variable{P:Program}{w:World}{K:PySem.W.Frag}{mg:Str->Option Value}{base:Heap}
theorem V9{N ps:List Str}{qual:Str}{scope:Scope}{f:Addr}{A:Around}{outer:List Env}{s:Shared}{k:Nat}{st:List Stmt}{body:SX}{d7:Value}
  (hb:∀(H:Hp) (E:XK),fx (cxOf (Z.CX P w) P w K mg base N qual scope f d7 A outer s H E) (λc d _ H'=>E c d H') st body) {H:Hp} {vs:List V} {Q:VK} {E:XK} (h:hI K mg ps.length (cN N.length body) vs H Q E) :
  ∃t,PSs (cxOf (Z.CX P w) P w K mg base N qual scope f d7 A outer s H E) st t/\t { nx:=λ_ H'=>Q .non H',rt:=Q } (L2.start N vs) H:=by
 obtain⟨ae,S,ds,hl,dN,r,p⟩:=h;refine⟨_,hb H E,ae,S,_,dN,El r,?_⟩;have p:=zS dN p;cases q:body (ds.map some++List.replicate (N.length - ds.length) none) S with
 |nx sl ah=>rw[q]at p;exact λbg ag H' x aF r1=>p .non ag H' x aF (by rw[Rep])
 |rt d ah=>rw[q]at p;exact p
 |ex e sl ah=>rw[q]at p;exact λC dd bg ag H' x aF _ r1=>p C dd ag H' x aF r1
 |bk sl ah=>rw[q]at p;exact p.elim
 |ct sl ah=>rw[q]at p;exact p.elim
 |bad=>rw[q]at p;exact p.elim
theorem V_{N ps:List Str}{qual:Str}{scope:Scope}{f:Addr}{A:Around}{outer:List Env}{s:Shared}{k:Nat}{st:List Stmt}{body:SX}{d7:Value}
  (hb:∀(H:Hp) (E:XK),fx (cxOf (Z.CX P w) P w K mg base N qual scope f d7 A outer s H E) (λc d _ H'=>E c d H') st body) {H:Hp} {vs:List V} {Q:VK} {E:XK} (h:hI K mg ps.length (pU N.length body) vs H Q E) :
  ∃t,PSs (cxOf (Z.CX P w) P w K mg base N qual scope f d7 A outer s H E) st t/\t { nx:=λ_ H'=>Q .non H',rt:=Q } (L2.start N vs) H:=by
 obtain⟨ae,S,ds,hl,dN,r,p⟩:=h;refine⟨_,hb H E,ae,S,_,dN,El r,?_⟩;have p:aM K mg E ae H Q (body (ds.map some++List.replicate (N.length - ds.length) none) S).out:=p;cases q:body (ds.map some++List.replicate (N.length - ds.length) none) S with
 |nx sl ah=>rw[q]at p;exact λbg ag H' x aF r1=>p .non ag H' x aF (by rw[Rep])
 |rt d ah=>rw[q]at p;exact p
 |ex e sl ah=>rw[q]at p;exact λC dd bg ag H' x aF _ r1=>p C dd ag H' x aF r1
 |bk sl ah=>rw[q]at p;exact p.elim
 |ct sl ah=>rw[q]at p;exact p.elim
 |bad=>rw[q]at p;exact p.elim
theorem MO{n:Nat}{g:aK}(vs:List V)(H:Hp)(Q:VK)(E:XK)(h:hI K mg n g vs H Q E):vs.length=n:=by
 obtain⟨ae,S,ds,hl,_,r,_⟩:=h;rw[<-r.len,hl]
theorem qb{x qual:Str}{params:Arguments}{stb:List Stmt}{scope:Scope}{dvs:List V}{kws:List (Str×V)}{f:Addr}{fd:FuncData}{N ps:List Str}{k:Nat}{body:SX}(F:FunD K x qual params stb scope dvs kws f fd)(Sc:FnScope N ps scope)
  (hb:∀(A:Around) (outer:List Env) (s:Shared) (H:Hp) (E:XK),Room k (A.deeper (envOfC qual scope s.heap.objs.size f fd.code)) ->
   fx (cxOf (Z.CX P w) P w K mg base N qual scope f fd.code A outer s H E) (λc d _ H'=>E c d H') stb body) :
  FnOk P w K mg base (Z.CX P w) (k+1) f fd ps (hI K mg ps.length (cN N.length body)):=by
 obtain⟨eg,od,fP,kV,doc,pm,an,d7,ct,gR,rfl,lk,iF,_,_⟩:=F.ex;exact fn_of lk iF Sc MO λA outer s H vs Q E hr h=>V9 (ps:=ps) (k:=k) (λH E=>hb A outer s H E hr) h
theorem MP{x qual:Str}{params:Arguments}{stb:List Stmt}{scope:Scope}{dvs:List V}{kws:List (Str×V)}{f:Addr}{fd:FuncData}{N ps:List Str}{k:Nat}{body:SX}(F:FunD K x qual params stb scope dvs kws f fd)(Sc:FnScope N ps scope)
  (hb:∀(A:Around) (outer:List Env) (s:Shared) (H:Hp) (E:XK),Room k (A.deeper (envOfC qual scope s.heap.objs.size f fd.code)) ->
   fx (cxOf (Z.CX P w) P w K mg base N qual scope f fd.code A outer s H E) (λc d _ H'=>E c d H') stb body) :
  FnOk P w K mg base (Z.CX P w) (k+1) f fd ps (hI K mg ps.length (pU N.length body)):=by
 obtain⟨eg,od,fP,kV,doc,pm,an,d7,ct,gR,rfl,lk,iF,_,_⟩:=F.ex;exact fn_of lk iF Sc MO λA outer s H vs Q E hr h=>V_ (ps:=ps) (k:=k) (λH E=>hb A outer s H E hr) h
def Bh(n:Nat)(dX:List D)(g:aK):aK:=λds S=>if ds.length=n then g ds S else if ds.length+dX.length=n then g (ds++dX) S else .bad
theorem V'{f:Addr}{fd:FuncData}{ps:List Str}{k n:Nat}{g:aK}{dvs:List V}{dX:List D}(F:FnOk P w K mg base (Z.CX P w) k f fd ps (hI K mg n g))(h0:Binds K fd ps [])(h1:∃ds,Vals dvs ds/\Binds K fd ps ds)(rQ:∀ae H,ak K mg ae H dX dvs):bz P w K mg base k f (Bh n dX g):=by
 obtain⟨dfs,hd,hb⟩:=h1;intro A outer s H us vs Q E hr dg r ⟨ae,S,ds,dN,rd,p⟩;unfold Bh at p;split at p
 .rename_i hl
  exact(F.raw h0 .nil) A outer s H us vs Q E hr dg r ⟨ae,S,ds,hl,dN,by grind,p⟩
 .split at p
  .rename_i hl
   exact(F.raw hb hd) A outer s H us vs Q E hr dg r ⟨ae,S,ds++dX,by grind,dN,rd.append (rQ ae H),p⟩
  .exact p.elim
def jn{α:Type}(ix:List Nat)(xs:List α):List α:=ix.filterMap λi=>xs[i]?
theorem MQ{ae:List Addr}{H:Hp}{ds:List D}{vs:List V}(r:ak K mg ae H ds vs):∀ix:List Nat,ak K mg ae H (jn ix ds) (jn ix vs)
 |[]=>ak.nil
 |i::ix=>by
  have ih:=MQ r ix;unfold jn at ih ⊢;rw[i5,i5];cases e:ds[i]? with
  |some d =>
   obtain⟨v,e2,q⟩:=r.get e;rw[e2];exact ak.cons q ih
  |none =>
   have e2:vs[i]?=none:=by
    rw[Dj]at e ⊢;rw[<-r.len];exact e
   grind
theorem MR{vs:List V}{us:List Value}(r:Vals vs us):∀ix:List Nat,Vals (jn ix vs) (jn ix us)
 |[]=>.nil
 |i::ix=>by
  have ih:=MR r ix;unfold jn at ih ⊢;rw[i5,i5];cases e:vs[i]? with
  |some d =>
   obtain⟨v,e2,q⟩:=r.get e;rw[e2];exact .cons q ih
  |none =>
   have e2:us[i]?=none:=by
    rw[Dj]at e ⊢;rw[<-r.length];exact e
   grind
def MS(P:Program)(w:World)(K:PySem.W.Frag)(mg:Str->Option Value)(base:Heap)(CX:CXT)(k:Nat)(f:Addr)(n:Nat)(ks:List Str)(sp:Sp):Prop :=
 ∀(A:Around) (outer:List Env) (s:Shared) (H:Hp) (us ws:List Value) (vs zs:List V) (Q:VK) (E:XK),Room k A->Env0 P w K mg base A outer s H->Vals vs us->Vals zs ws->us.length=n->ws.length=ks.length->sp (vs++zs) H Q E ->
  codeAny (model P w) A (.call (.ref f) ⟨us,ks.zip ws⟩) (CR CX outer P w H s Q E) s
abbrev Bi(P:Program)(w:World)(K:PySem.W.Frag)(mg:Str->Option Value)(base:Heap)(k:Nat)(f:Addr)(n:Nat)(ks:List Str)(g:aK):Prop:=MS P w K mg base (Z.CX P w) k f n ks (An K mg g)
def Bj(n m N:Nat)(ix:List Nat)(dX:List D)(g:aK):aK:=λds S=>if ds.length=n+m/\(jn ix (ds++dX)).length=N then g (jn ix (ds++dX)) S else .bad
theorem Wa{f:Addr}{fd:FuncData}{ps ks:List Str}{k n N:Nat}{ix:List Nat}{g:aK}{dvs:List V}{dX:List D}{its:List Value}(F:FnOk P w K mg base (Z.CX P w) k f fd ps (hI K mg N g))
  (hb:KBn K fd ps n ks (λus ws=>jn ix (us++ws++its)) (λvs zs=>jn ix (vs++zs++dvs))) (rQ:∀ae H,ak K mg ae H dX dvs):Bi P w K mg base k f n ks (Bj n ks.length N ix dX g):=by
 intro A outer s H us ws vs zs Q E hr dg r k6 l1 l2 ⟨ae,S,ds,dN,rd,p⟩;unfold Bj at p;split at p
 .rename_i hl
  have KX:K.In s.heap:=dg.mod.kin.keeps λb o e=>(dg.bs b o e).1;exact F.run A outer s H ⟨us,ks.zip ws⟩ _ _ Q E hr dg (hb.to s us ws KX l1 l2) (hb.rel r k6) ⟨ae,S,_,hl.2,dN,MQ (rd.append (rQ ae H)) ix,p⟩
 .exact p.elim
theorem Wb{x qual:Str}{params:Arguments}{stb:List Stmt}{scope:Scope}{kws:List (Str×V)}{f:Addr}{fd:FuncData}{ps ks:List Str}{n:Nat}{ix:List Nat}(F:FunD K x qual params stb scope [] kws f fd)
  (h:∀(kV doc pm:Value) (an:Option Addr) (d7 ct:Value) (us ws:List Value),us.length=n->ws.length=ks.length->bindArgs (PySem.W.fnOf x qual params stb scope .none kV doc pm an d7 ct) ⟨us,ks.zip ws⟩=pure (ps.zip (jn ix (us++ws++[])))) :
  KBn K fd ps n ks (λus ws=>jn ix (us++ws++[])) (λvs zs=>jn ix (vs++zs++[])):=by
 obtain⟨eg,od,fP,kV,doc,pm,an,d7,ct,gR,rfl,lk,iF,bL,hK⟩:=F.ex;rcases bL with⟨_,rfl⟩|⟨e,_⟩
 .exact⟨λs us ws _ l1 l2=>.of_eq (h kV doc pm an d7 ct us ws l1 l2),λr k6=>MR ((r.append k6).append .nil) ix⟩
 grind
end
section
variable{X:Cx}{W:WX}
def Bk(X:Cx)(W:WX)(kws:List Keyword)(f:c1):Prop:=PK X kws (qT X.K X.mg W f)
theorem PK.imp{kws:List Keyword}{t t':TA}(h:PK X kws t)(k:∀σ H Q,t' σ H Q->t σ H Q):PK X kws t':=⟨λpos pins s σ H Q I q=>h.run pos pins s σ H Q I (k σ H Q q)⟩
theorem Wc:Bk X W [] aq:=PK.imp pk_nil λσ H Q ⟨ae,S,sl,w,rs,p⟩=>p [] ae H Ext.refl w ak.nil
theorem Wd{nm:Option Str}{e:Expr}{Wf:Pos}{kws:List Keyword}{f:aQ}{g:c1}(ha:E X W e f)(hr:Bk X W kws g):Bk X W (⟨nm,e,Wf⟩::kws) (aj f g) :=
 PK.imp (pk_cons ha hr) λσ H Q h=>Ki h
variable{k n:Nat}{f:Addr}{g:aK}{x m:Str}{p pos:Pos}{e:Expr}{es:List Expr}{fa fk:c1}{ks:List Str}{kws:List Keyword}
theorem Wg{pins:List (Addr×Obj)}{σ:L2.St}{H:Hp}{s:Shared}{Q:VK}{us ws:List Value}{vs zs:List V}{sp:Sp}{E:XK}(F:MS X.prog X.w X.K X.mg X.base (Z.CX X.prog X.w) k f n ks sp)(hr:Room k X.A)(hx:PassesAt (Z.CX X.prog X.w) X σ E)(I:Inv X pins σ H s)(r:Vals vs us)(k6:Vals zs ws)(l1:us.length=n)(l2:ws.length=ks.length)(h:sp (vs++zs) H Q E) :
  wpAny (model X.prog X.w) X.A (PySem.call (.ref f) us (ks.zip ws)) (EP X pins σ Q) X.xe s:=by
 refine wpAny_call (codeAny_mono (F X.A X.stack s H us ws vs zs Q E hr I.env0 r k6 l1 l2 h) λr s' hq=>?_);cases r with
 |error e=>exact hx pins H s e s' I hq
 |ok fl =>
  cases fl with
  |ret u=>exact I.after hq
  |next=>exact False.elim hq
  |brk=>exact False.elim hq
  |cont=>exact False.elim hq
def Bl(n m:Nat)(g:aK)(fa fk:c1):aQ:=λsl S=>(fa sl S).bind λds S1=>(fk sl S1).bind λes S2=>if ds.length=n/\es.length=m then g (ds++es) S2 else .bad
theorem Wh(tk:Takes X W)(F:Bi X.prog X.w X.K X.mg X.base k f 0 ks g)(hr:Room k X.A)(hm:X.mg x=some (.ref f))(hk:PySem.W.keepIn X.K (.ref f)=true)
  (Wi:Bk X W kws fk) (hg:Gl X x:=by rfl) (Wj:(backToKw pos (keywordEach kws X.env)).all (·.1.isSome)=true:=by rfl) (A7:(backToKw pos (keywordEach kws X.env)).filterMap (·.1)=ks:=by rfl) (hD:(x==("__debug__":Str))=false:=by decide)
  (d8:((backTo pos (starEach [] X.env)).any (·.1)||(backToKw pos (keywordEach kws X.env)).any (·.1.isNone))=false:=by rfl) :
  E X W (.Call (.Name x p) [] kws pos) (Bl 0 ks.length g aq fk):=by
 refine⟨λpins s σ H Q I h=>?_⟩;obtain⟨ae,S,sl,w,rs,q⟩:=h;refine wpAny_Call_Name_kw (ld_glob I hg hm ?_ hD);refine PySem.W.callWith_KW0 (h₀:=X.base) I.ok.mod.kin hk Wj ?_ d8;refine thn (Wi.run pos pins s σ H _ I ⟨ae,S,sl,w,rs,dY.eD q⟩) λws s2 ⟨zs,aG,I2,k6,aL,S2,agW,x2,cz,re,_,p2⟩=>⟨I2.kIn,?_⟩
 rw[A7];split at p2
 .rename_i hl
  exact Wg (us:=[]) (vs:=[]) F hr (wy tk σ) I2 .nil k6 rfl (by rw[<-k6.length,<-re.len,hl.2]) ⟨aL,S2,_,cz,re,p2⟩
 .exact p2.elim
end
end Z
namespace ZX
open PySem PySem.W PySem.Calls PyProof.Rows PySem.Spec
open L2 (V Vals RelV RelO)
theorem Wk:∀{ps:List Str} {vs:List V},ps.Nodup->vs.length=ps.length->ps.map (λf=>(f,dI ps vs f))=ps.zip vs:=by
 have core:∀(ps:List Str) (vs:List V),ps.Nodup->vs.length=ps.length->∀f v,(f,v)∈ps.zip vs->dI ps vs f=v:=by
  intro ps
  induction ps with
  |nil=>simp
  |cons p ps ih =>
   intro vs hn hl f v h;cases vs with
   |nil=>simp at hl
   |cons u vs =>
    rw[y9]at h;rcases iB.mp h with e|h
    .cases e
     simp[dI,List.lookup]
    .have hf:f∈ps:=(vD h).1
     have ne:f≠p:=λe=>(qL.mp hn).1 (e▸hf);have r:=ih vs (qL.mp hn).2 (by grind) f v h;unfold dI at r ⊢;rw[y9,List.lookup_cons,beq_eq_false_iff_ne.mpr ne];exact r
 intro ps vs hn hl;have:∀(l:List Str) (ws:List V),l.length=ws.length->(∀f v,(f,v)∈l.zip ws->dI ps vs f=v)->l.map (λf=>(f,dI ps vs f))=l.zip ws:=by
  intro l
  induction l with
  |nil=>simp
  |cons a l ih =>
   intro ws h1 h2;cases ws with
   |nil=>simp at h1
   |cons b ws =>
    rw[dD,y9,h2 a b (by simp),ih ws (by grind) λf v h=>h2 f v (by simp[h])]
 grind
theorem Wl{f:Str->V}:∀(l:List Str) (fs:List (Str×V)),(l.map λp=>(p,p)).foldl (λfs fp=>(fp.1,f fp.2)::fs) fs=(l.map λp=>(p,f p)).reverse++fs
 |[],fs=>rfl
 |a::l,fs=>by simp
theorem oJ.cast{prog:Program}{w:World}{base:Heap}{k:Nat}{f C:Addr}{G Gg:List V->Option (List (Str×V))}(h:oJ prog w base k f C G)(e:∀vs,Gg vs=G vs):oJ prog w base k f C Gg:=by
 have:Gg=G:=funext e;grind
def b2:List V->Option (List (Str×V)):=λvs=>if vs.length=1 then some [("tag",dI ["tag"] vs "tag")]else none
theorem MT{tag:Str}{cm:List Str}(hn:cm.Nodup)(vs:List V) :
  (if vs.length=cm.length then some (Z.kh tag cm vs)else none)=(if vs.length=cm.length then(b2 [.str tag]).map (λfs=>(cm.map λp=>(p,p)).foldl (λfs fp=>(fp.1,dI cm vs fp.2)::fs) fs)else none):=by
 by_cases h:vs.length=cm.length
 .rw[if_pos h,if_pos h]
  unfold b2 Z.kh;have ao:(if[V.str tag].length=1 then some [(("tag":Str),dI ["tag"] [V.str tag] "tag")]else none)=some [(("tag":Str),V.str tag)]:=by simp[dI,List.lookup]
  rw[ao,ta,Wl,Wk hn h]
 grind
end ZX
namespace Z
open PySem PySem.Spec L2 PyProof.Rows
section
variable{X:Cx}{W:WX}
theorem MU:Bg X []:=⟨λD y n h=>by cases h⟩
theorem MV{D:Str}{dW:Addr}{yes no:List Str}{tab:List (Str×List Str×List Str)}(hm:X.mg D=some (.ref dW))(h1:((PySem.W.clsIn X.K dW).isSome&&PySem.W.typeIn X.K (.ref dW)==some (.type "type"))=true)
  (h2:∀c∈yes,∀C,X.mg c=some (.ref C)->md X.K C/\PySem.W.kitOne X.K (.ref C) (.ref dW)=some true) (aH:∀c∈no,∀C,X.mg c=some (.ref C)->md X.K C/\PySem.W.kitOne X.K (.ref C) (.ref dW)=some false) (r:Bg X tab):Bg X ((D,yes,no)::tab):=⟨λxA y n h' d6 iK=>by
 rw[List.lookup_cons]at h';cases q:xA==D with
 |true =>
  grind
 |false =>
  rw[q]at h';exact r.at_ xA y n h' d6 iK⟩
theorem Bm{dW:Addr}{b:Bool}:∀c∈([]:List Str),∀C,X.mg c=some (.ref C)->md X.K C/\PySem.W.kitOne X.K (.ref C) (.ref dW)=some b:=λc h=>by cases h
theorem MX{dW C:Addr}{b:Bool}{c:Str}{l:List Str}(hm:X.mg c=some (.ref C))(t:md X.K C)(h:PySem.W.kitOne X.K (.ref C) (.ref dW)=some b)(r:∀c∈l,∀C,X.mg c=some (.ref C)->md X.K C/\PySem.W.kitOne X.K (.ref C) (.ref dW)=some b):∀bx∈c::l,∀C,X.mg bx=some (.ref C)->md X.K C/\PySem.W.kitOne X.K (.ref C) (.ref dW)=some b:=λbx h' d6 iK=>by
 grind
theorem Gh{oth:List Str}:oN X oth []:=⟨λc g h=>by cases h⟩
theorem Gi{oth:List Str}{c:Str}{C:Addr}{g:aK}{tab:List (Str×aK)}(hm:X.mg c=some (.ref C))(h1:∀bx∈oth,∀d6,X.mg bx=some (.ref d6)->PySem.W.notFirst X.K C (.ref d6)=true)(h2:PySem.W.findIn X.K (.ref C) "__ne__"=some (some (.builtin "object.__ne__")))(aH:PySem.W.mroIn X.K C (.type "object")=some true)(r:oN X oth tab):oN X oth ((c,g)::tab):=⟨λbx e8 h' d6 iK=>by
 unfold pW at h';rw[List.lookup_cons]at h';cases q:bx==c with
 |true =>
  grind
 |false =>
  rw[q]at h';exact r.at_ bx e8 h' d6 iK⟩
theorem Gj{C:Addr}:∀bx∈([]:List Str),∀d6,X.mg bx=some (.ref d6)->PySem.W.notFirst X.K C (.ref d6)=true:=λc h=>by cases h
theorem Gk{C D:Addr}{c:Str}{l:List Str}(hm:X.mg c=some (.ref D))(h:PySem.W.notFirst X.K C (.ref D)=true)(r:∀bx∈l,∀d6,X.mg bx=some (.ref d6)->PySem.W.notFirst X.K C (.ref d6)=true):∀bx∈c::l,∀d6,X.mg bx=some (.ref d6)->PySem.W.notFirst X.K C (.ref d6)=true:=λbx h' d6 iK=>by
 grind
end
open PySem PySem.Spec L2
section
theorem Wm{A:Around}(h:A.units+64<cLine):A.units<cLine:=by omega
end
open PySem PySem.Spec L2
theorem Wn{a b:Char}(h:a.toNat=b.toNat):a=b:=Char.ext (UInt32.toNat_inj.mp h)
@[simp] theorem Wo{a b:String}:Str.ofString a=Str.ofString b↔a=b:=by
 constructor
 .intro h
  rw[Str.ofString_eq_toList,Str.ofString_eq_toList]at h;have h2:a.toList.map Char.toNat=b.toList.map Char.toNat:=by
   have:=congrArg (λs:Str=>s.cps.toList) h;simpa using this
  have aH:a.toList=b.toList:=List.map_inj_right (λx y h=>Wn h) |>.mp h2
  exact String.toList_inj.mp aH
 grind
theorem Bn(a:String):oy (Str.ofString a).cps.toList:=by
 rw[Str.ofString_eq_toList];intro c hc;simp at hc;obtain⟨d,_,rfl⟩:=hc;have:=d.valid;have h2:d.toNat=d.val.toNat:=rfl;omega
theorem uo(a:String):Str.ofString a=a0 (Str.ofString a).cps.toList:=(Fw _).symm
@[simp] theorem Wq{neg:Bool}{a b:String}{S:Store}:bC neg (.str (Str.ofString a)) (.str (Str.ofString b)) S=.ok (.bl (if neg=true then !decide (a=b)else decide (a=b))) S:=by
 have e:(a0 (Str.ofString a).cps.toList=a0 (Str.ofString b).cps.toList)=(a=b):=by rw[<-uo,<-uo];simp
 have e2:((Str.ofString a).cps.toList=(Str.ofString b).cps.toList)=(a=b):=by rw[<-e];simp
 cases neg
 .rw[uo a,uo b,Md (Bn a) (Bn b)];grind
 .rw[uo a,uo b,U0 (Bn a) (Bn b)];grind
section
variable{sl:aJ}{S:Store}{P:D->Store->Prop}{X:D->Store->Prop}{Q:jh}{fa fk:c1}
@[simp] theorem Wr{n m:Nat}{g:aK}:We (Bl n m g fa fk sl S) P X=We (fa sl S) (λds S1=>We (fk sl S1) (λes S2=>(ds.length=n/\es.length=m)/\We (g (ds++es) S2) P X) X) X:=by
 unfold Bl;rw[fq];congr 1;funext ds S1;rw[fq];congr 1;funext es S2;by_cases h:ds.length=n/\es.length=m
 .grind
 .rw[if_neg h];simp_all
@[simp] theorem agX{tab:List (Str×List Str×List Str)}{c:Str}{ns:List Str}{vs:List D}{xA:Str}:rO tab [.ins c ns vs,.cls xA] S=match tab.lookup xA with
  |some (yes,no)=>if c∈yes then .ok (.bl true) S else if c∈no then .ok (.bl false) S else .bad
  |none=>.bad:=(rfl)
def Gm(d:D)(k:Str->List Str->List D->Prop):Prop:=match d with
 | .exc c ns ds=>k c ns ds
 |_=>False
@[simp] theorem agY{c:Str}{ns:List Str}{ds:List D}{k:Str->List Str->List D->Prop}:Gm (.exc c ns ds) k=k c ns ds:=(rfl)
@[simp] theorem agZ{f:aQ}:aR (p' f sl S) Q=We (f sl S) (λd ah=>Gm d λc ns ds=>Q.ex (.ins c ns ds) sl ah) (λe ah=>Q.ex e sl ah):=by
 unfold p';cases o:f sl S with
 |ok d S1=>cases d<;>simp[Gm]
 |ex e S1=>simp
 |bad=>simp
@[simp] theorem ag0{c tag:Str}{cm:List Str}{ds:List D}:We (oK c tag cm ds S) P X=(ds.length=cm.length/\P (.exc c (cm.reverse++[("tag":Str)]) (ds.reverse++[D.str tag])) S):=by
 unfold oK;by_cases h:ds.length=cm.length
 .simp[h]
 .simp[h]
@[simp] theorem ag1{i:Nat}{op:Int->Int->Int}{fe:aQ}{a:Int}(h:sl[i]?=some (some (.int a))):aR (t8 i op fe sl S) Q=We (fe sl S) (λe S1=>∃b,e=.int b/\Q.nx (sl.set i (some (.int (op a b)))) S1) (λe ah=>Q.ex e sl ah):=by
 unfold t8;rw[h];dsimp only;rw[ow];congr 1;funext e S1;cases e<;>simp
@[simp] theorem Ws{n:Nat}{dX ds:List D}{g:aK}(h:ds.length=n):Bh n dX g ds S=g ds S:=if_pos h
theorem Wt{n m N:Nat}{ix:List Nat}{dX ds:List D}{g:aK}(h:ds.length=n+m/\(jn ix (ds++dX)).length=N):Bj n m N ix dX g ds S=g (jn ix (ds++dX)) S:=if_pos h
end
def uq:SX :=
 (a' (lK 0 1 (aj (az mb (aj (ai 0) aq)) (aj (az mb (aj (ai 1) aq)) aq)))
 (a' (tF (a5 (ay mW (ai 1) (au (.int 0))))
 (lK 0 1 (aj (ai 1) (aj (ay hL (ai 0) (ai 1)) aq))))
 (b0 (ai 0))))
def xB:aK:=dV 2 (cN 2 uq)
def rR:SX :=
 (b0 (i_ (az ec (aj (ai 0) (aj (au (.ty "int")) aq))) (zH (az ec (aj (ai 0) (aj (au (.ty "bool")) aq))))))
def ur:aK:=dV 1 (cN 1 rR)
def qc:SX :=
 (a' (cK (gH (a5 (az ur (aj (ai 1) aq))))
 (p' (az (oK "InvalidRatio" "InvalidRatio" ["value"]) (aj (ai 1) aq)))
 cW)
 (a' (cK (fQ (gH (a5 (az ur (aj (ai 2) aq)))) (a5 (ay (bC false) (ai 2) (au (.int 0)))))
 (p' (az (oK "InvalidRatio" "InvalidRatio" ["value"]) (aj (ai 2) aq)))
 cW)
 (a' (b_ (az xB (aj (ai 1) (aj (ai 2) aq))) (aV 3))
 (a' (wX ["Ratio"] "own_top" (kK (a5 (ay mW (ai 2) (au (.int 0)))) (ay hJ (ai 1) (ai 3)) (ay hJ (wk zW (ai 1)) (ai 3))) (ai 0))
 (wX ["Ratio"] "own_bottom" (ay hJ (az mb (aj (ai 2) aq)) (ai 3)) (ai 0))))))
def xC:aK:=Bh 3 [(.int 1)] (cN 4 qc)
def uv:SX :=
 (a' (lK 2 3 (aj (az mb (aj (ai 0) aq)) (aj (az mb (aj (ai 1) aq)) aq)))
 (a' (tF (a5 (ay mW (ai 3) (au (.int 0))))
 (lK 2 3 (aj (ai 3) (aj (ay hL (az ib (aj (ai 2) aq)) (ai 3)) aq))))
 (b0 (ai 2))))
def xD:aK:=dV 2 (cN 4 uv)
def uw:SX :=
 (a' (b_ (az xD (aj (ai 0) (aj (ai 1) aq))) (aV 2))
 (b0 (kK (a5 (ay mW (ai 1) (au (.int 0)))) (az jar (aj (ay hJ (ai 0) (ai 2)) (aj (ay hJ (ai 1) (ai 2)) aq))) (az jar (aj (ay kQ (au (.int 0)) (ay hJ (ai 0) (ai 2))) (aj (ay kQ (au (.int 0)) (ay hJ (ai 1) (ai 2))) aq))))))
def ux:aK:=dV 2 (cN 3 uw)
def xE:SX :=
 (b0 (i_ (az (rO [("Ratio",["Ratio"],[])]) (aj (ai 1) (aj (au (.cls "Ratio")) aq))) (i_ (ay (bC false) (rB "own_top" [("Ratio",.fld)] (ai 0)) (rB "own_top" [("Ratio",.fld)] (ai 1))) (ay (bC false) (rB "own_bottom" [("Ratio",.fld)] (ai 0)) (rB "own_bottom" [("Ratio",.fld)] (ai 1))))))
def gS:aK:=dV 2 (cN 2 xE)
def uy:SX :=
 (b0 (cP (az (t5 "Ratio" xC) (aj (ay a4 (ai 0) (au (.int 0))) (aj (ay a4 (ai 0) (au (.int 1))) aq)))))
def uz:aK:=dV 1 (cN 1 uy)
def Bd(n:Nat)(x:Int):Prop:=x.natAbs<2 ^ n
theorem Bd.log{n:Nat}{x:Int}(h:Bd n x)(hn:0<n):x.natAbs.log2<n:=by
 by_cases h0:x.natAbs=0
 .simp_all
 .exact(Nat.log2_lt h0).mpr h
theorem Bd.mul{n m:Nat}{x y:Int}(h:Bd n x)(h2:Bd m y):Bd (n+m) (x * y):=by
 unfold Bd at *;rw[Int.natAbs_mul,Nat.pow_add];by_cases q:y.natAbs=0
 .rw[q,Nat.mul_zero];exact Nat.mul_pos (Nat.pow_pos (by decide)) (Nat.pow_pos (by decide))
 .exact Nat.mul_lt_mul_of_lt_of_le h (j2 h2) (Nat.pow_pos (by decide))
theorem Bd.of_le{n:Nat}{x y:Int}(h:Bd n x)(h2:y.natAbs<=x.natAbs):Bd n y:=nN h2 h
theorem Wu{a b k:Nat}(hb:0<b)(iS:b<=a)(h:a * b<2 ^ k):∃j,j<k/\b * (a % b)<2 ^ j:=by
 have hk:0<k:=by
  rcases Dk k with rfl|h'
  .have:0<a * b:=Nat.mul_pos (by omega) hb
   omega
  .exact h'
 refine⟨k - 1,by omega,?_⟩;have h1:2 * (a % b)<=a:=by
  have h2:=Nat.mod_lt a hb;have aH:a % b+b<=a:=by
   have:=Nat.div_add_mod a b;have cn:0<a / b:=Nat.div_pos iS hb;have k7:b * 1<=b * (a / b):=Nat.mul_le_mul_left b cn;omega
  omega
 have h2:2 * (b * (a % b))<=a * b:=by
  calc 2 * (b * (a % b))=(2 * (a % b)) * b:=by grind
  _<=a * b:=Nat.mul_le_mul_right b h1
 have aH:2 ^ k=2 * 2 ^ (k - 1):=by
  conv=>lhs;rw[show k=(k - 1)+1 by omega]
  rw[Nat.pow_succ,Nat.mul_comm]
 omega
def mh(g:Nat)(k:Nat)(a b:Int):Prop:=∃m n:Nat,a=m/\b=n/\Nat.gcd m n=g/\((n<=m/\m * n<2 ^ k)\/(1<=k/\m<n/\m * n<2 ^ (k - 1)))
theorem mh.step{g k:Nat}{a b:Int}(h:mh g k a b)(hb:0<b):∃j,j<k/\mh g j b (a % b):=by
 obtain⟨m,n,rfl,rfl,hg,h⟩:=h;have hn:0<n:=by omega
 have e:((m:Int) % (n:Int))=((m % n:Nat):Int):=by simp
 have uA:Nat.gcd n (m % n)=g:=by rw[<-hg,Nat.gcd_comm m n,Nat.gcd_rec n m,Nat.gcd_comm]
 rcases h with⟨h1,h2⟩|⟨h0,h1,h2⟩
 .obtain⟨j,bH,aH⟩:=Wu hn h1 h2
  exact⟨j,bH,n,m % n,rfl,e,uA,.inl ⟨j2 (Nat.mod_lt _ hn),aH⟩⟩
 .refine⟨k - 1,by omega,n,m % n,rfl,e,uA,.inl ⟨j2 (Nat.mod_lt _ hn),?_⟩⟩
  rw[Nat.mod_eq_of_lt h1,Nat.mul_comm];exact h2
theorem mh.start{n m:Nat}{p q:Int}(h:Bd n p)(h2:Bd m q):mh (Int.gcd p q) (n+m+1) (if p<0 then -p else p) (if q<0 then -q else q):=by
 have e:∀x:Int,(if x<0 then -x else x)=(x.natAbs:Int):=λx=>by omega
 refine⟨p.natAbs,q.natAbs,e p,e q,rfl,?_⟩;have aH:p.natAbs * q.natAbs<2 ^ (n+m):=by have:=h.mul h2;unfold Bd at this;rwa [Int.natAbs_mul]at this
 grind
theorem mh.last{g k:Nat}{a b:Int}(h:mh g k a b)(hb:¬0<b):a=g:=by
 obtain⟨m,n,rfl,rfl,hg,_⟩:=h;simp_all
theorem MY{p q:Int}{n m:Nat}(hp:Bd n p)(hq:Bd m q)(hl:n+m<900000)(S:Store):xB [.int p,.int q] S=.ok (.int (Int.gcd p q)) S:=by
 refine cv ?_;unfold xB;refine fH rfl ?_;simp[uq,mb];refine FO (n+m+1) (λk sl S1=>S1=S/\∃a b,sl=[some (.int a),some (.int b)]/\mh (Int.gcd p q) k a b) ⟨rfl,_,_,rfl,mh.start hp hq⟩ (by omega) ?_;rintro k sl S1 ⟨rfl,a,b,rfl,h⟩;by_cases hb:0<b
 .simp[hb,kZ hb]
  obtain⟨j,h1,h2⟩:=h.step hb;grind
 .simp[hb]
  exact h.last hb
theorem Wv{p q:Int}{n m:Nat}(hp:Bd n p)(hq:Bd m q)(hl:n+m<900000)(S:Store):xD [.int p,.int q] S=.ok (.int (Int.gcd p q)) S:=by
 refine cv ?_;unfold xD;refine fH rfl ?_;simp[uv,mb];refine FO (n+m+1) (λk sl S1=>S1=S/\∃a b,sl=[some (.int p),some (.int q),some (.int a),some (.int b)]/\mh (Int.gcd p q) k a b) ⟨rfl,_,_,rfl,mh.start hp hq⟩ (by omega) ?_;rintro k sl S1 ⟨rfl,a,b,rfl,h⟩;by_cases hb:0<b
 .simp[hb,kZ hb,ib]
  obtain⟨j,h1,h2⟩:=h.step hb;grind
 .simp[hb]
  exact h.last hb
def num(p q:Int):Int:=if 0<q then p / (Int.gcd p q:Int)else(-p) / (Int.gcd p q:Int)
def den(p q:Int):Int:=(q.natAbs:Int) / (Int.gcd p q:Int)
theorem Bo{p q:Int}(hq:q≠0):0<(Int.gcd p q:Int):=by
 simp_all
theorem den_pos{p q:Int}(hq:q≠0):0<den p q:=by
 unfold den;have h:=Bo (p:=p) hq;refine Int.ediv_pos_of_pos_of_dvd (by omega) (by omega) ?_;have:=Int.gcd_dvd_right p q;exact Int.dvd_natAbs.mpr this
theorem MZ{n:Nat}{p q:Int}(h:Bd n q)(hq:q≠0):Bd n (Int.gcd p q:Int):=by
 refine h.of_le ?_;have:=Nat.le_of_dvd (by omega) (Int.gcd_dvd_natAbs_right p q);omega
def Bp(p q:Int):D:=.tup [.int (num p q),.int (den p q)]
theorem Ww{p q:Int}{n m:Nat}(hp:Bd n p)(hq:Bd m q)(hl:n+m<8000)(hm:0<m)(h0:q≠0)(S:Store):ux [.int p,.int q] S=.ok (Bp p q) S:=by
 refine cv ?_;unfold ux;refine fH rfl ?_;have hg:=Bo (p:=p) h0;have Bq:=(MZ (p:=p) hq h0).log hm;have ao:∀i S,hJ (.int i) (.int (Int.gcd p q)) S=.ok (.int (i / (Int.gcd p q:Int))) S:=λi S=>rC hg (by omega) S;simp[uw,Wv hp hq (by omega)];by_cases jj:0<q
 .have ea:(q.natAbs:Int)=q:=by omega
  simp[jj,ao,Bp,num,den,ea];exact eT (by simp) ⟨rfl,rfl⟩
 .have ea:(q.natAbs:Int) = -q:=by omega
  simp[jj,ao,Bp,num,den,ea,y' (Int.gcd_dvd_left p q),y' (Int.gcd_dvd_right p q)];exact eT (by simp) ⟨rfl,rfl⟩
theorem Wx{S1:Store}{c:Str}{ns:List Str}{vs:List D}(h:a9 S1.length vs=true):cG (dy (S1++[.ins c ns vs]) S1.length 6) (.ptr S1.length)=some (.ins c ns vs):=by
 rw[cG,dy,if_neg (jz _)];rw[vB (dE _)];simp only[vC,De];rw[Fu h];rfl
theorem Wy{S S1:Store}{P:D->Store->Prop}{c:Str}{ns:List Str}{vs:List D}(h:fX S S1)(aI:a9 S.length vs=true)(p:P (.ins c ns vs) S1):eS S P (.ptr S1.length) (S1++[.ins c ns vs]):=by
 refine uc h ?_ p;rw[<-h.len]at aI ⊢;exact Wx aI
theorem Br{cs:List Str}{f c:Str}{n:Nat}{v:D}{S:Store}{ns:List Str}{vs:List D}(h:S[n]?=some (.ins c ns vs))(hc:c∈cs)(hn:ns.length<1000):t6 cs f (.ptr n) v S=some (S.set n (.ins c (jO f v ns vs).1 (jO f v ns vs).2)):=by
 simp only[t6,h];grind
theorem M0(i:Int)(S:Store):ur [.int i] S=.ok (.bl true) S:=by
 refine cv ?_;unfold ur;refine fH rfl ?_;simp[rR]
@[simp] theorem ag2(i:Int)(S:Store):zW (.int i) S=.ok (.int (-i)) S:=(rfl)
def jR(p q:Int):D:=.ins "Ratio" ["own_top","own_bottom"] [.int p,.int q]
@[simp] theorem M3{k:Nat}{p q:Int}:a6 k (jR p q)=true:=by simp[jR]
theorem Bs{v:D}:jO "own_top" v [] []=((["own_top"]:List Str),[v]):=by simp[jO]
theorem M4{v u:D}:jO "own_bottom" v ["own_top"] [u]=((["own_top","own_bottom"]:List Str),[u,v]):=by
 rfl
theorem Wz{p q:Int}{n m:Nat}(hp:Bd n p)(hq:Bd m q)(hl:n+m<8000)(hm:0<m)(h0:q≠0)(S:Store){P X:D->Store->Prop}(dG:P .non (S++[.ins "Ratio" ["own_top","own_bottom"] [.int (num p q),.int (den p q)]])) :
  We (cN 4 qc [.ptr S.length,.int p,.int q] (S++[.ins "Ratio" [] []])) P X:=by
 refine FG.mpr ?_;have hg:=Bo (p:=p) h0;have Bq:=(MZ (p:=p) hq h0).log hm;have ao:∀i S,hJ (.int i) (.int (Int.gcd p q)) S=.ok (.int (i / (Int.gcd p q:Int))) S:=λi S=>rC hg (by omega) S;have ea:(if q<0 then -q else q)=(q.natAbs:Int):=by split<;>omega
 have Gn:=fX.set (S:=S++[.ins "Ratio" [] []]) (n:=S.length) (m:=.ins "Ratio" ["own_top","own_bottom"] [.int (num p q),.int (den p q)]) (by simp[hH]);rw[p7 rfl]at Gn;by_cases jj:0<q
 .simp[qc,M0,h0,MY hp hq (by omega),jj,ao,mb,ea]
  refine⟨_,Br (c:="Ratio") (ns:=[]) (vs:=[]) (by simp) (by simp) (by simp),_,Br (c:="Ratio") (ns:=["own_top"]) (vs:=[.int (p / (Int.gcd p q:Int))]) (by simp[Bs]) (by simp) (by simp),?_⟩;rw[p7 rfl,p7 rfl];simp only[Bs,M4];have:num p q=p / (Int.gcd p q:Int):=by simp[num,jj]
  rw[<-this];exact AG Gn (by simp) dG
 .simp[qc,M0,h0,MY hp hq (by omega),jj,ao,mb,ea]
  refine⟨_,Br (c:="Ratio") (ns:=[]) (vs:=[]) (by simp) (by simp) (by simp),_,Br (c:="Ratio") (ns:=["own_top"]) (vs:=[.int ((-p) / (Int.gcd p q:Int))]) (by simp[Bs]) (by simp) (by simp),?_⟩;rw[p7 rfl,p7 rfl];simp only[Bs,M4];have:num p q=(-p) / (Int.gcd p q:Int):=by simp[num,jj]
  rw[<-this];exact AG Gn (by simp) dG
section
variable{S:Store}{P X:D->Store->Prop}{p q:Int}{n m:Nat}
theorem WB(hp:Bd n p)(hq:Bd m q)(hl:n+m<8000)(hm:0<m)(h0:q≠0)(h:P (jR (num p q) (den p q)) S):We (t5 "Ratio" xC [.int p,.int q] S) (eS S P) X:=by
 unfold t5;rw[fq];unfold xC;rw[Ws (by simp)];refine Wz hp hq hl hm h0 S ?_;simp;exact Wy (fX.refl S) (by simp) h
@[simp] theorem ag3:jc S (jR p q)=some (("Ratio":Str),(["own_top","own_bottom"]:List Str),([.int p,.int q]:List D)):=(rfl)
@[simp] theorem ag4{u v:D}:j_ "own_top" ["own_top","own_bottom"] [u,v]=some u:=by simp[j_]
@[simp] theorem ag5{u v:D}:j_ "own_bottom" ["own_top","own_bottom"] [u,v]=some v:=by
 rfl
@[simp] theorem ag6{t:List (Str×List Str×List Str)}:rO (("Ratio",["Ratio"],[])::t) [jR p q,.cls "Ratio"] S=.ok (.bl true) S:=by
 rfl
end
structure LT(n:Nat)(p q:Int):Prop where
 up:Bd n p
 dn:Bd n q
 pos:0<q
 one:Int.gcd p q=1
theorem LT.num{n:Nat}{p q:Int}(h:LT n p q):Z.num p q=p:=by simp[Z.num,h.pos,h.one]
theorem LT.den{n:Nat}{p q:Int}(h:LT n p q):Z.den p q=q:=by
 have:=h.pos;have e:(q.natAbs:Int)=q:=by omega
 simp[Z.den,h.one,e]
theorem WC{p q:Int}(hq:q≠0):Int.gcd (num p q) (den p q)=1:=by
 have hg:0<Int.gcd p q:=Int.gcd_pos_of_ne_zero_right p hq;have e:=Int.gcd_ediv_gcd_ediv_gcd hg;have h1:(Int.gcd p q:Int) ∣ p:=Int.gcd_dvd_left p q;have h2:(Int.gcd p q:Int) ∣ q:=Int.gcd_dvd_right p q;unfold num den;by_cases jj:0<q
 .grind
 .have ea:(q.natAbs:Int) = -q:=by omega
  rw[if_neg jj,ea,y' h1,y' h2,Int.gcd_neg,Int.neg_gcd];exact e
theorem LT.WD{n:Nat}{p q:Int}(h:LT n p q):0<n:=by
 rcases Dk n with rfl|h'
 .have:=h.dn;have:=h.pos;unfold Bd at *;omega
 .exact h'
section
variable{S:Store}{p q cw gn:Int}{n:Nat}
def qd(p q:Int):D:=.tup [.int p,.int q]
@[simp] theorem M5{k:Nat}{p q:Int}:a6 k (qd p q)=true:=by simp[qd]
theorem WG:Bp p q=qd (num p q) (den p q):=rfl
@[simp] theorem WH:gS [jR p q,jR cw gn] S=.ok (.bl (decide (p=cw/\q=gn))) S:=by
 refine cv ?_;unfold gS;refine fH rfl ?_;by_cases h:p=cw
 .simp[xE,h]
 .simp[xE,h]
theorem WK(h:LT n p q)(hl:n<=1000):uz [qd p q] S=.ok (jR p q) S:=by
 refine cv ?_;unfold uz;refine fH rfl ?_;have hn:=h.WD;have hq:=h.pos;simp[uy,qd];refine WB h.up h.dn (by omega) (by omega) (by omega) (eT (by simp) ⟨?_,rfl⟩);rw[h.num,h.den]
end
@[simp] theorem ag7{S:Store}{p q:Int}:a4 (qd p q) (.int 0) S=.ok (.int p) S:=rfl
@[simp] theorem ag8{S:Store}{p q:Int}:a4 (qd p q) (.int 1) S=.ok (.int q) S:=rfl
open PySem PySem.Spec L2
structure Gp(K:PySem.W.Frag)(C Cb mN ab:Addr)(bm:List Value)(R nw it:String)(nx:Value)(fs:List Str):Prop where
 uh:PySem.W.keepIn K (.ref C)=true
 xi:PySem.W.excInitIn K C bm nw=true
 xo:PySem.W.excOver K C bm=true
 ag9:(PySem.W.clsIn K C).isSome=true
 xs:PySem.W.findIn K (.ref C) "__setattr__"=some (some (.builtin "object.__setattr__"))
 aha:PySem.W.hasDictIn K C=true
 ahb:PySem.W.findIn K (.ref C) "__init__"=some (some (.ref mN))
 rn:PySem.W.typeIn K (.ref mN)=some (.type "function")
 ahc:PySem.W.subIn K (.ref C) (.type "BaseException")=some true
 ahd:PySem.W.subIn K (.ref C) (.type R)=some true
 ahe:PySem.W.typeIn K (.ref C)=some (.type "type")
 ahf:PySem.W.mroIn K C (.ref C)=some true
 ahg:PySem.W.ks_superIn K C C "__init__"=some (some nx)
 ahh:PySem.W.mroIn K C (.ref Cb)=some true
 ahi:PySem.W.ks_superIn K C Cb "__init__"=some (some (.builtin it))
 ahj:(K.lookup ab).map (·.cls)=some (.type "function")
 ahk:PySem.W.fnIn K ab=true
 xe:JB K C=true
 xa:(fs.all λf=>decide (PySem.W.findIn K (.ref C) f=some none))=true
theorem uB{K:PySem.W.Frag}{C Cb mN ab:Addr}{bm:List Value}{R nw it:String}{nx:Value}{fs:List Str}(h:ti K C Cb mN ab bm R nw it nx fs=true):Gp K C Cb mN ab bm R nw it nx fs:=by
 unfold ti at h;obtain⟨h1,h⟩:=Bool.and_eq_true_iff.mp h;obtain⟨h2,h⟩:=Bool.and_eq_true_iff.mp h;obtain⟨aH,h⟩:=Bool.and_eq_true_iff.mp h;obtain⟨bQ,h⟩:=Bool.and_eq_true_iff.mp h;obtain⟨cn,h⟩:=Bool.and_eq_true_iff.mp h;obtain⟨k7,h⟩:=Bool.and_eq_true_iff.mp h;obtain⟨jS,h⟩:=Bool.and_eq_true_iff.mp h;obtain⟨rS,h⟩:=Bool.and_eq_true_iff.mp h;obtain⟨xF,h⟩:=Bool.and_eq_true_iff.mp h;obtain⟨rT,h⟩:=Bool.and_eq_true_iff.mp h;obtain⟨WL,h⟩:=Bool.and_eq_true_iff.mp h;obtain⟨WM,h⟩:=Bool.and_eq_true_iff.mp h;obtain⟨WN,h⟩:=Bool.and_eq_true_iff.mp h;obtain⟨WO,h⟩:=Bool.and_eq_true_iff.mp h;obtain⟨WQ,h⟩:=Bool.and_eq_true_iff.mp h;obtain⟨WR,h⟩:=Bool.and_eq_true_iff.mp h;obtain⟨WT,h⟩:=Bool.and_eq_true_iff.mp h;obtain⟨A3,h⟩:=Bool.and_eq_true_iff.mp h;exact⟨h1,h2,aH,bQ,of_decide_eq_true cn,k7,of_decide_eq_true jS,of_decide_eq_true rS,of_decide_eq_true xF,of_decide_eq_true rT,of_decide_eq_true WL,of_decide_eq_true WM,of_decide_eq_true WN,of_decide_eq_true WO,of_decide_eq_true WQ,of_decide_eq_true WR,WT,A3,h⟩
theorem Gp.at_{K:PySem.W.Frag}{C Cb mN ab:Addr}{bm:List Value}{R nw it:String}{nx:Value}{fs:List Str}(h:Gp K C Cb mN ab bm R nw it nx fs){f:Str}(hf:fs.contains f=true):PySem.W.findIn K (.ref C) f=some none :=
 of_decide_eq_true (za.mp h.xa f (List.contains_iff_mem.mp hf))
section
variable{S:Store}
@[simp] theorem ahl:Str.ofString "/"=a0 [47]:=by rfl
@[simp] theorem ahm:Str.ofString ")"=a0 [41]:=by rfl
theorem M6:True:=trivial
theorem rV{d:D}(h:Z.plain 11 d):oz [d,d] S=.ok (.bl true) S:=Vk 11 d S h
end
end Z
namespace ZW
structure Al where
 inv:Nat->Nat
 I:Nat->Nat->Bool
 lt:Nat->Nat->Bool
structure Al.Ok(A:Al)(ok:Nat->Prop):Prop where
 WU:∀a,ok a->ok (A.inv a)
 WV:∀a,ok a->A.inv (A.inv a)=a
 WW:∀a,ok a->A.inv a≠a
 sym:∀a b,ok a->ok b->A.I a b=A.I b a
 ahn:∀a b,ok a->ok b->A.I (A.inv a) b=A.I a b
 aho:∀a,ok a->A.I a a=false
 asym:∀a b,A.lt a b=true->A.lt b a=false
 tri:∀a b,ok a->ok b->A.lt a b=false->A.lt b a=false->a=b
 trans:∀a b c,A.lt a b=true->A.lt b c=true->A.lt a c=true
variable{A:Al}{ok:Nat->Prop}
def put(A:Al):List Nat->Nat->List Nat
 |[],s=>[s]
 |c::w,s =>
  if c=A.inv s then w
  else if A.I c s=true then
   (if put A w s=s::w then(if A.lt c s=true then s::c::w else c::s::w)else c::put A w s)
  else s::c::w
def T(A:Al):List Nat->Nat->Prop
 |[],_=>True
 |c::w,s=>c≠A.inv s/\(A.I c s=true->A.lt c s=true/\T A w s)
def P(A:Al)(ok:Nat->Prop):List Nat->Prop
 |[]=>True
 |c::w=>ok c/\P A ok w/\T A w c
variable{A:Al}{ok:Nat->Prop}
def N(A:Al)(dN w:List Nat):List Nat:=w.foldl (put A) dN
@[simp] theorem ahp{dN:List Nat}:N A dN []=dN:=rfl
@[simp] theorem ahq{dN:List Nat}{s:Nat}{w:List Nat}:N A dN (s::w)=N A (put A dN s) w:=rfl
section
variable(h:A.Ok ok)
include h
theorem Sel.free:True:=trivial
end
end ZW
namespace Z
open PySem PySem.Spec L2
def uC(c:Nat):Bool:=decide (97<=c/\c<=122)
def Bt(c:Nat):Bool:=decide (65<=c/\c<=90)
def M7(c:Nat):Prop:=uC c=true\/Bt c=true
def low(c:Nat):Nat:=if Bt c=true then c+32 else c
def inv(c:Nat):Nat:=if uC c=true then c - 32 else c+32
theorem WU:True:=trivial
theorem WV:True:=trivial
theorem WW:True:=trivial
def WY(a b:Nat):Bool:=decide (low a<low b\/(low a=low b/\Bt a=false/\Bt b=true))
def WZ(ps:List (Nat×Nat))(a b:Nat):Bool:=decide (low a≠low b/\(min (low a) (low b),max (low a) (low b))∈ps)
def oO(ps:List (Nat×Nat)):ZW.Al:=⟨inv,WZ ps,WY⟩
section
variable{S:Store}{c:Nat}
@[simp] theorem ahr:EZ S (iM c)=true:=rfl
end
def W0(ps:List (Nat×Nat)):List D:=ps.map λp=>.str (a0 [p.1,p.2])
def W2(ls:List Nat)(ps:List (Nat×Nat)):D:=.ins "Threads" ["letters","pairs"] [.str (a0 ls),.tup (W0 ps)]
section
@[simp] theorem ahs{u v:D}:j_ "pairs" ["letters","pairs"] [u,v]=some v:=by
 rfl
end
section
variable{s:Nat}{ps:List (Nat×Nat)}{w:List Nat}
def putL(ps:List (Nat×Nat))(w:List Nat)(s:Nat):List Nat:=(ZW.put (oO ps) w.reverse s).reverse
end
section
variable{ps:List (Nat×Nat)}{w:List Nat}
def W3(ps:List (Nat×Nat))(w:List Nat):List Nat:=w.foldl (putL ps) []
end
section
variable{ls:List Nat}{ps:List (Nat×Nat)}
def W4(ls:List Nat)(aY:List (Nat×Nat)):Prop:=∀p∈aY,p.1<p.2/\p.1∈ls/\p.2∈ls
def W5(ps:List (Nat×Nat)):Prop:=ps.Pairwise λp q=>p.1<q.1\/(p.1=q.1/\p.2<q.2)
end
def up(c:Nat):Nat:=if uC c=true then c - 32 else c
end Z
namespace ZK
open PySem PySem.W PySem.Calls PyProof.Rows He He5
theorem dQ.sup{prog:Program}{K:Frag}{d:dQ}(e:qO K (d.at_ K)=d.val)(hn:d.name="__init__")(c:d.ok K prog.main.file=true):ZX.rG prog K (d.at_ K) (d.cls K) d.qual d.params d.body d.scope:=by
 obtain⟨eK,c2⟩:=ba c;obtain⟨c3,W6⟩:=ba c2;unfold qO at e;cases q:K.lookup (d.at_ K)with
 |none =>
  grind
 |some o =>
  obtain⟨eg,od,zN,gR⟩:=o;rw[q]at eK e;cases zN with
  |func fd =>
   obtain⟨n1,n2,Ld,W7,Le,Ae,tZ,Lf,M8,M9,M_,M',W8,Nb,W9⟩:=fd;have e2:(some (n1,n2,Ld,W7,Le,Ae,W9,Lf):zl)=some (d.name,d.qual,d.params,.stmts d.body,d.scope,mainGlobals,builtinsNs,.none):=e;simp only[Option.some.injEq,Prod.mk.injEq]at e2;obtain⟨h1,h2,aH,bQ,cn,k7,jS,rS⟩:=e2;subst h1 h2 aH bQ cn k7 jS rS;have W_:(Dx K (d.cls K) tZ&&Dy K d.qual prog.main.file W8)=true:=eK;obtain⟨dz,ck⟩:=ba W_;unfold Dx at dz;unfold Dy at ck;split at dz
   .rename_i x cc
    obtain⟨oI,mj⟩:=ba dz;have oI:=of_decide_eq_true oI;subst oI;split at ck
    .rename_i bU
     obtain⟨F2,jT⟩:=ba ck;unfold JC at mj;split at mj
     .rename_i n8 mU E sl0 hq
      have mj:=of_decide_eq_true mj;subst mj;unfold JD at jT;split at jT
      .rename_i aht ahu vs a7 W'
       split at jT
       .rename_i f dh bB
        obtain⟨lY,bL⟩:=Option.isSome_iff_exists.mp c3;have bK:K.lookup (d.at_ K)=some ⟨eg,od,.func (ksFn "__init__" d.qual d.params d.body d.scope .none M8 M9 M_ M' (.ref bU) Nb cc),gR⟩:=by rw[q,<-hn]
        have Xa:=of_decide_eq_true W6;exact⟨⟨eg,od,"__init__",M8,M9,M_,M',bU,cc,Nb,gR,bK,F2,⟨_,_,_,_,_,_,W',bB,jT⟩,⟨_,_,_,hq⟩⟩,⟨_,bL⟩,Xa⟩
       .cases jT
      .cases jT
     .cases mj
    .cases ck
   .cases dz
  |_=>cases eK
abbrev oP:Type:=((Bool×List He.FnW)×List zl)×Bool
def Nc(fn:List DefA)(fs:List dQ)(dh:List Defn)(ex:Frag->Bool)(g:Addr->Option Obj)(K:Frag):oP:=(((fn.all λd=>d.ok K,fn.map λd=>fnA K (d.at_ K)),fs.map λd=>qO K (d.at_ K)),ex K&&tabsB g dh K)
def obsZ(n:qP)(fn:List DefA)(fs:List dQ)(dh:List Defn)(ex:Frag->Bool)(g:Addr->Option Obj):oP:=Nc fn fs dh ex g (gY n g)
def uD(fn:List DefA)(fs:List dQ):oP:=(((true,fn.map DefA.val),fs.map dQ.val),true)
structure rW(fn:List DefA)(fs:List dQ)(dh:List Defn)(ex:Frag->Bool)(h:Heap)(K:Frag):Prop where
 ok:(fn.all λd=>d.ok K)=true
 at_:(fn.map λd=>fnA K (d.at_ K))=fn.map DefA.val
 sup:(fs.map λd=>qO K (d.at_ K))=fs.map dQ.val
 more:ex K=true
 hd:∀p∈dh,codeHdIn K (cT K p).1 (cT K p).2=true
 out:∀p∈dh,K.lookup (cT K p).2=none
 empty:∀p∈dh,h.get? (cT K p).2=some { cls:=.none,data:=.fields #[] }
theorem Xb{n:qP}{fn:List DefA}{fs:List dQ}{dh:List Defn}{ex:Frag->Bool}{h:Heap}(e:obsZ n fn fs dh ex h.get?=uD fn fs):rW fn fs dh ex h (gY n h.get?):=by
 have ao:(fn.all λd=>d.ok (gY n h.get?))=true:=congrArg (λz:oP=>z.1.1.1) e;have e2:(fn.map λd=>fnA (gY n h.get?) (d.at_ (gY n h.get?)))=fn.map DefA.val:=congrArg (λz:oP=>z.1.1.2) e;have bu:(fs.map λd=>qO (gY n h.get?) (d.at_ (gY n h.get?)))=fs.map dQ.val:=congrArg (λz:oP=>z.1.2) e;have fz:(ex (gY n h.get?)&&tabsB h.get? dh (gY n h.get?))=true:=congrArg (λz:oP=>z.2) e;obtain⟨h1,h2⟩:=ba fz;have key:∀p∈dh,codeHdIn (gY n h.get?) (cT (gY n h.get?) p).1 (cT (gY n h.get?) p).2=true/\∃o,h.get? (cT (gY n h.get?) p).2=some o/\emptyTab o=true:=λp hp=>by
  obtain⟨aH,bQ⟩:=ba (za.mp h2 p hp);grind
 exact⟨ao,e2,bu,h1,λp hp=>(key p hp).1,λp hp=>by
  obtain⟨_,o,q,z⟩:=key p hp;exact frT_none q z,λp hp=>by
  obtain⟨_,o,q,z⟩:=key p hp;rw[q,emptyTab_eq z]⟩
def Nf(n:qP)(fn:List DefA)(fs:List dQ)(dh:List Defn)(ex:Frag->Bool):Hook where
 α:=oP
 obs:=λs=>obsZ n fn fs dh ex s.heap.get?
 val:=λ_=>uD fn fs
 says:=λw h=>∃K:Frag,K.In h/\rW fn fs dh ex h K
 of:=λ_ _ e=>⟨_,frT_in,Xb e⟩
 keeps:=λ_ _ _ ⟨K,hK,c⟩ k=>⟨K,Frag.In.keeps hK k,⟨c.ok,c.at_,c.sup,c.more,c.hd,c.out,λp hp=>k _ _ (c.empty p hp)⟩⟩
theorem Xc{n:qP}{fn:List DefA}{fs:List dQ}{dh:List Defn}{ex:Frag->Bool}{g:Addr->Option Obj}{s:Shared}(h:∀a,g a=s.heap.get? a):obsZ n fn fs dh ex g=(Nf n fn fs dh ex).obs s:=by
 have e:g=s.heap.get?:=funext h;rw[e]<;>rfl
theorem rW.def_{fn:List DefA}{fs:List dQ}{dh:List Defn}{ex:Frag->Bool}{h:Heap}{K:Frag}(c:rW fn fs dh ex h K)(i:Nat){d:DefA}(hi:fn[i]?=some d:=by rfl):∃fd,L2.FunD K d.name d.qual d.params d.body d.scope (d.dvs K) (d.kws K) (d.at_ K) fd:=by
 have h1:=za.mp c.ok d (mJ hi);have h2:=congrArg (λl=>l[i]?) c.at_;simp only[List.getElem?_map,hi,ta]at h2;exact DefA.funD (eY h2) h1
theorem rW.Gq{fn:List DefA}{fs:List dQ}{dh:List Defn}{ex:Frag->Bool}{h:Heap}{K:Frag}(c:rW fn fs dh ex h K)(i:Nat){d:dQ}(hi:fs[i]?=some d:=by rfl):qO K (d.at_ K)=d.val:=by
 have h2:=congrArg (λl=>l[i]?) c.sup;grind
end ZK
namespace Z
open PySem PySem.Spec L2 PyProof.Rows
theorem Xd(z:Str):((Builtin.Str.strSliceIndices none none (-1) z.length).filterMap (z.cps[·]?))=z.cps.toList.reverse:=by
 have e:Builtin.Str.strSliceIndices none none (-1) z.length=sliceRange ((z.length:Int) - 1) (-1) (-1):=by
  unfold Builtin.Str.strSliceIndices;simp
 rw[e,PySem.W.krv_sliceRange,PySem.W.krv_range,List.filterMap_reverse];show((List.range z.cps.size).filterMap (z.cps[·]?)).reverse=_;have h:=PySem.W.krv_all (α:=Value);have go:∀{α:Type} (xs:Array α),(List.range xs.size).filterMap (xs[·]?)=xs.toList:=λxs=>PySem.W.krv_all xs;rw[go]
def Bu(hand:Bool):D->Store->Out D:=λd S=>match d with
 | .str s=>if s.length<=1000000 then .ok (.str ⟨s.cps.toList.reverse.toArray⟩) S else .bad
 | .tup _=>.bad
 | .bF _=>.bad
 |d=>(match cH S d with
  |some xs=>if hand=true then .ok (.ptr S.length) (S++[.lst xs.reverse])else .ok (.lst xs.reverse) S
  |none=>.bad)
def rX(hand:Bool)(fa:aQ):aQ:=λsl S=>(fa sl S).bind λd S1=>Bu hand d S1
section
variable{X:Cx}{W:WX}
theorem Ng{hand:Bool}{e:Expr}{fa:aQ}{k:Nat}{p1 p2 bG pos:Pos}(ha:E X W e fa):E X W (.Subscript e (.Slice none none (some (.UnaryOp .USub (.Constant (.int 1) k p1) p2)) bG) pos) (rX hand fa):=by
 refine⟨λpins s σ H Q I h=>?_⟩;obtain⟨ae,S,sl,w,rs,p⟩:=h;refine Subscript_ (thn (ha.run pins s σ H _ I ⟨ae,S,sl,w,rs,aM.eD p⟩) λv s1 ⟨x,H1,I1,r1,aA,S1,d,x1,aF,rd,_,iT⟩=>?_);have h9:PO X (some (.UnaryOp .USub (.Constant (.int 1) k p1) p2)) (tPart (tUn (rU λi=>.int (-i)) (tC (.int 1)))):=po_some (pe_un un_neg pe_int);refine wpAny_Slice (thn (po_none.run pins s1 σ H1 (λo aG=>o=none/\aG=H1) I1 ⟨rfl,rfl⟩) λml s2 ⟨l,aG,I2,iQ,el,e2⟩=>?_);subst el e2;refine thn (po_none.run pins s2 σ aG (λo cF=>o=none/\cF=aG) I2 ⟨rfl,rfl⟩) λnk s3 ⟨u,cF,g',pu,rP,bu⟩=>?_;subst rP bu;refine thn (h9.run pins s3 σ cF (λo dJ=>o=some (-1)/\dJ=cF) g' ⟨1,rfl,-1,rfl,rfl,rfl⟩) λvs s4 ⟨o,dJ,fL,ps,wO,fz⟩=>?_;subst wO fz;have ig:Inv X pins σ dJ { s4 with heap:=s4.heap.push { cls:=.type "slice",data:=.fields #[ml,nk,vs] } }:=fL.kept (t':=s4.toks) λb ob q=>Heap.get?_push_of_some _ q;have xG:∀xs,cH S1 d=some xs->(∀ys,d≠.tup ys/\d≠.bF ys)->aM X.K X.mg (λC d H'=>W C d σ H') aA dJ Q (if hand=true then .ok (.ptr S1.length) (S1++[.lst xs.reverse])else .ok (.lst xs.reverse) S1) ->
   wpAny (model X.prog X.w) X.A (subscriptTail e (.Slice none none (some (.UnaryOp .USub (.Constant (.int 1) k p1) p2)) bG) v (.ref s4.heap.objs.size)) (EP X pins σ Q) X.xe { s4 with heap:=s4.heap.push { cls:=.type "slice",data:=.fields #[ml,nk,vs] } }:=λxs ex hn p=>by
  obtain⟨a,us,ao,h1,dS⟩:=pP aF rd ex hn;subst ao;obtain rfl:v=Value.ref a:=r1;obtain⟨its,r,ht,hz⟩:=ig.list h1;have hlen:=r.length;refine tail_any (ops:=[.ref a,.ref s4.heap.objs.size]) ht.isList.typeIs (PySem.slot_list_getitem.lookup) ?_ (by rfl);refine wpAny_getItem_list_slice ht.isList (Heap.IsSliceOf.new _ ml nk vs) iQ pu ps (by decide) ?_ (by grind);rw[PySem.W.krv_pick];have hp:dJ (s4.heap.push { cls:=.type "slice",data:=.fields #[ml,nk,vs] }).objs.size=none:=ig.hok.fresh (dE _);refine⟨.ref _,_,ig.laid (t':=s4.toks) (o:=.lst us.reverse) (λb ob q=>Heap.get?_push_of_some _ q) (dE _) ?_,rfl,?_⟩
  .exact⟨by grind,_,0,r.reverse,Heap.get?_push_size _ rfl⟩
  .cases hand with
   |true=>rw[if_pos rfl]at p;exact Eb p aF (Bb dS) hp
   |false=>rw[if_neg jy]at p;exact qY p aF (Bb dS) hp
 show wpAny (model X.prog X.w) X.A (subscriptTail e (.Slice none none (some (.UnaryOp .USub (.Constant (.int 1) k p1) p2)) bG) v (.ref s4.heap.objs.size)) (EP X pins σ Q) X.xe { s4 with heap:=s4.heap.push { cls:=.type "slice",data:=.fields #[ml,nk,vs] } };cases d with
 |str z =>
  unfold Bu at iT;simp only at iT;split at iT
  .rename_i hl
   have ex:=eI rd;subst ex;obtain⟨t,rfl⟩:=r1;obtain⟨p_,rfl,el⟩:=IsPart.raw iQ;obtain⟨qS,rfl,rP⟩:=IsPart.raw pu;obtain⟨s',rfl,es⟩:=IsPart.raw ps;refine tail_any (ops:=[.str z t,.ref s4.heap.objs.size]) (typeIs_str _ _ _) (F.slot_str_getitem.lookup) ?_ (by rfl);cases p_ with
   |some _=>cases el
   |none =>
   cases qS with
   |some _=>cases rP
   |none =>
   cases s' with
   |none=>cases es
   |some q =>
   obtain⟨i,xH⟩:=q;obtain rfl:i = -1:=eY es;refine wpAny_getItem_str_slice (l:=none) (u:=none) (st:=some (-1,xH)) ⟨_,Heap.get?_push_size _ rfl,rfl,rfl⟩ rfl ?_;have hz:(⟨z.cps.toList.reverse.toArray⟩:Str).length<=sizeLine:=by
    have h1:=h6 hl;show z.cps.toList.reverse.toArray.size<=sizeLine;rw[eC,List.length_reverse,Array.length_toList];exact h1
   have hm:sliceMade z t none none (some (-1,xH))=.str ⟨z.cps.toList.reverse.toArray⟩:=by
    unfold sliceMade slicePicked;rw[if_neg (by simp)];congr 2;exact congrArg List.toArray (Xd z)
   rw[hm];exact⟨hz,.str _,dJ,ig.tok _,⟨_,rfl⟩,b5 iT aF pC⟩
  .exact iT.elim
 |tup xs=>exact iT.elim
 |bF xs=>exact iT.elim
 |lst xs=>exact xG xs rfl (by simp) iT
 |bI xs=>exact xG _ rfl (by simp) iT
 |ptr n =>
  have iT:aM X.K X.mg (λC d H'=>W C d σ H') aA dJ Q (match cH S1 (.ptr n)with
   |some xs=>if hand=true then .ok (.ptr S1.length) (S1++[.lst xs.reverse])else .ok (.lst xs.reverse) S1
   |none=>.bad):=iT
  split at iT
  .grind
  .exact iT.elim
 |_=>exact iT.elim
def Gr(S:Store)(d:D):Option (List D):=match d with
 | .tup xs=>some xs
 | .bF xs=>some xs
 |d=>cH S d
end
open PySem PySem.Spec L2
section
variable{S:Store}{P X:D->Store->Prop}
@[simp] theorem ahv{xs:List D}:We (Bu false (.lst xs) S) P X=P (.lst xs.reverse) S:=by
 have e:Bu false (.lst xs) S=.ok (.lst xs.reverse) S:=rfl;rw[e,cI]
end
end Z
namespace ZM
def bB:Int->Nat->Int×Nat
 |n,0=>(n,0)
 |n,e+1=>if n % 2=0 then bB (n / 2) e else(n,e+1)
def Low(p:Int×Nat):Prop:=p.2=0\/p.1 % 2=1
def tq(p:Int×Nat):Rat:=(p.1:Rat) * 2 ^ (-(p.2:Int))
def Xe(n:Int)(e:Nat)(t:Int):Int×Nat:=bB (n * 2 ^ (t - e).toNat) (e - t:Int).toNat
def Xf(p q:Int×Nat):Int×Nat:=bB (p.1 * 2 ^ (max p.2 q.2 - p.2)+q.1 * 2 ^ (max p.2 q.2 - q.2)) (max p.2 q.2)
abbrev qe:=Int×(Int×Nat)
def qe.ok(x:qe):Prop:=Low x.2
def Xg(x y:qe):qe:=(x.1+y.1,Xf x.2 (Xe y.2.1 y.2.2 x.1))
def Xh:qe:=(0,(0,0))
structure Xi(v B:Nat)(x:qe):Prop where
 t:x.1.natAbs<=B
 n:x.2.1.natAbs<=2 ^ ((v+1) * B) * 2 ^ x.2.2
 e:x.2.2<=B
abbrev xI:=List (Int×Int)
def val:xI->Int->Int
 |[],_=>0
 |(q,n)::r,p=>if q=p then n else val r p
def Xj(xs:xI):Prop:=xs.Pairwise (λa b=>a.1<b.1)/\∀a∈xs,a.2≠0
def Xk(f:Int->Int)(ks:List Int):xI:=(ks.filter λp=>decide (f p≠0)).map λp=>(p,f p)
def Xl(ks:List Int):List Int:=(ks.mergeSort λa b=>decide (a<=b)).eraseDups
abbrev qf:=Int×xI
def Xm(x:qf):Prop:=Xj x.2
def Xn(x y:qf)(p:Int):Int:=val x.2 p+val y.2 (p - x.1)
def Xo(x y:qf):List Int:=x.2.map (·.1)++y.2.map λa=>a.1+x.1
def Xp(x y:qf):qf:=(x.1+y.1,Xk (Xn x y) (Xl (Xo x y)))
def Xq:qf:=(0,[])
structure Xr(v c B:Nat)(x:qf):Prop where
 s:x.1.natAbs<=B
 p:∀a∈x.2,a.1.natAbs<=B/\a.2.natAbs<=B * 2 ^ v
 l:x.2.length<=c
inductive Bv:Nat->List Int->Prop
 |two (a:Int):Bv 2 [a]
 |three (a b c:Int):Bv 3 [a,b,c]
 |four (a b c d e f:Int):Bv 4 [a,b,c,d,e,f]
def Xt:List Int->List Int->List Int
 |[a],[x]=>[a+x]
 |[a,b,c],[x,y,z]=>[a+x,b+a * z+y,c+z]
 |[a,b,c,d,e,f],[x,y,z,u,v,w]=>[a+x,b+a * u+y,c+a * v+b * w+z,d+u,e+d * w+v,f+w]
 |xs,_=>xs
def Xu:Nat->List Int
 |2=>[0]
 |3=>[0,0,0]
 |_=>[0,0,0,0,0,0]
variable{x:List Int}
def Xv(B:Nat)(x:List Int):Prop:=∀a∈x,a.natAbs<=2 ^ B
end ZM
namespace Z
open PySem PySem.Spec L2 ZM
section
variable{ps:List (Nat×Nat)}{ls u v w:List Nat}
def Xw(ls:List Nat)(ps:List (Nat×Nat))(w:List Nat):Prop:=(∀c∈w,M7 c/\low c∈ls)/\W3 ps w=w
def Xx(ps:List (Nat×Nat))(u v:List Nat):List Nat:=v.foldl (putL ps) u
end
inductive fM where
 |xJ (ls:List Nat) (ps:List (Nat×Nat))
 |st (n:Nat)
 |uE
 |xK
 |bo (a b:fM)
inductive ey where
 |w (l:List Nat)
 |s (l:List Int)
 |l (x:qf)
 |d (x:qe)
 |p (a b:ey)
deriving DecidableEq
def fM.ok:fM->Prop
 | .xJ ls ps=>Vh ls/\1<=ls.length/\ls.length<=5/\W4 ls ps/\W5 ps
 | .st n=>2<=n/\n<=4
 | .uE=>True
 | .xK=>True
 | .bo a b=>a.ok/\b.ok
def fM.dep:fM->Nat
 | .bo a b=>1+max a.dep b.dep
 |_=>0
def xM:fM->ey->Prop
 | .xJ ls ps,.w l=>Xw ls ps l
 | .st n,.s l=>Bv n l
 | .uE,.l x=>Xm x
 | .xK,.d x=>qe.ok x
 | .bo A B,.p a b=>xM A a/\xM B b
 |_,_=>False
def Gu(v c n:Nat):ey->Prop
 | .w l=>l.length<=c
 | .s l=>Xv ((v+1) * n) l
 | .l x=>Xr v c n x
 | .d x=>Xi v n x
 | .p a b=>Gu v c n a/\Gu v c n b
def mul:fM->ey->ey->ey
 | .xJ _ ps,.w u,.w v=>.w (Xx ps u v)
 | .st _,.s u,.s v=>.s (Xt u v)
 | .uE,.l x,.l y=>.l (Xp x y)
 | .xK,.d x,.d y=>.d (Xg x y)
 | .bo A B,.p a b,.p c d=>.p (mul A a c) (mul B b d)
 |_,e,_=>e
def one:fM->ey
 | .xJ _ _=>.w []
 | .st n=>.s (Xu n)
 | .uE=>.l Xq
 | .xK=>.d Xh
 | .bo A B=>.p (one A) (one B)
def Xy(xs:List Int):D:=.tup (xs.map .int)
def Xz(a:Int×Int):D:=.tup [.int a.1,.int a.2]
def ey.D:ey->Z.D
 | .w u=>.str (a0 u)
 | .s u=>Xy u
 | .l x=>.tup [.int x.1,.bF (x.2.map Xz)]
 | .d x=>.tup [.int x.1,.int x.2.1,.int x.2.2]
 | .p a b=>.tup [a.D,b.D]
def fM.D:fM->Z.D
 | .xJ ls ps=>W2 ls ps
 | .st n=>.ins "Stairs" ["size"] [.int n]
 | .uE=>.ins "Lamps" [] []
 | .xK=>.ins "Doubler" [] []
 | .bo a b=>.ins "Both" ["one","other"] [a.D,b.D]
open PySem PySem.Spec L2 PyProof.Rows
section
variable{X:Cx}{W:WX}{e:Expr}{es:List Expr}{fe:aQ}{p:Pos}
def oQ(fe:aQ)(fr:c1):c1:=λsl S=>(fe sl S).bind λd S1=>match Gr S1 d with
 |some xs=>(fr sl S1).bind λds S2=>.ok (xs++ds) S2
 |none=>.bad
theorem XA{K:PySem.W.Frag}{mg:Str->Option Value}{ae:List Addr}{H:Hp}{S:Store}{d:D}{v:V}{xs:List D}(w:aD K mg ae H S)(r:Rep K mg ae H d v)(di:Gr S d=some xs):∃t us,v=.ref t/\(SqT K H t us\/SqL K H t us)/\ak K mg ae H xs us:=by
 cases d with
 |tup zs =>
  cases di;rw[Rep]at r;obtain⟨t,us,ao,tt,dS⟩:=r;exact⟨t,us,ao,.inl tt.dc,dS⟩
 |bF zs =>
  cases di;rw[Rep]at r;obtain⟨t,us,ao,tt,dS⟩:=r;exact⟨t,us,ao,.inl tt.dc,dS⟩
 |_ =>
  obtain⟨t,us,ao,h1,dS⟩:=pP w r di (by intros;exact⟨nofun,nofun⟩);exact⟨t,us,ao,.inr h1,dS⟩
theorem Nh{fr:c1}(he:E X W e fe)(hr:gj X W es fr)(hs:starEach (.Starred e p::es) X.env=(true,eval e X.env)::starEach es X.env:=by rfl):gj X W (.Starred e p::es) (oQ fe fr) :=
 PA.imp (StX.pa_star he hr hs) λσ H Q h=>by
  obtain⟨ae,S,sl,w,rs,p⟩:=h;refine⟨ae,S,sl,w,rs,aM.mono (aM.nU p) λv H1 ⟨aA,S1,d,x1,aF,r1,_,p1⟩=>?_⟩;split at p1
  .rename_i xs di
   obtain⟨t,us,ao,ht,dS⟩:=XA aF r1 di;refine⟨t,us,ao,ht,aA,S1,sl,aF,rs.ext x1,dY.mono (dY.nU p1) λys aG ⟨aL,S2,ds,x2,cz,aE,_,p2⟩=>?_⟩;exact p2 (us++ys) aL aG Ext.refl cz ((dS.ext x2).append aE)
  .exact p1.elim
end
open PySem PySem.Spec L2 PyProof.Rows
def JE(w:World)(S:Store):D->Option (List D×List D)
 | .dw bT ks vs=>open Classical in if bT=w then some (ks,vs)else none
 | .ptr n=>match S[n]? with
  |some (.dw bT ks vs)=>open Classical in if bT=w then some (ks,vs)else none
  |_=>none
 |_=>none
open PySem PySem.Spec L2 ZM
section
variable{S:Store}
theorem Bw{sl:aJ}{f:aQ}{k:Nat}(h:f sl S=.ok (.int k) S)(hk:k<2 ^ 60):kb (aj f aq) sl S=.ok (kX 0 k,λ_=>True) S:=by
 have h2:(2:Int) ^ 62=4611686018427387904:=by decide
 have aH:(2:Nat) ^ 60=1152921504606846976:=by decide
 have:=FQ h (by omega) (by omega);grind
end
section
def dv(xs:xI):List D:=xs.map λa=>.int a.2
end
open PySem PySem.Spec L2
mutual
def Gv:D->PyData
 | .non=>.none
 | .bl b=>.bool b
 | .int i=>.int i
 | .str s=>.str s
 | .lst xs=>.list (Bx xs)
 | .tup xs=>.tuple (Bx xs)
 | .bF xs=>.tuple (Bx xs)
 |_=>.none
def Bx:List D->List PyData
 |[]=>[]
 |d::ds=>Gv d::Bx ds
end
def eqv(d e:D):Bool:=PyData.eqv (Gv d) (Gv e)
mutual
def sm:D->D->Bool
 | .tup xs,.tup ys=>uF xs ys
 | .tup xs,.bF ys=>uF xs ys
 | .bF xs,.tup ys=>uF xs ys
 | .bF xs,.bF ys=>uF xs ys
 | .lst xs,.lst ys=>uF xs ys
 | .non,.non=>true
 | .bl a,.bl b=>decide (a=b)
 | .int a,.int b=>decide (a=b)
 | .str a,.str b=>decide (a=b)
 |_,_=>false
def uF:List D->List D->Bool
 |[],[]=>true
 |x::xs,y::ys=>sm x y&&uF xs ys
 |_,_=>false
end
section
variable{S:Store}{sl:aJ}
theorem XB{f:aQ}{acc:List D}(h:f sl S=.ok (.ptr S.length) (S++[.lst acc]))(aI:a9 S.length acc=true):cP f sl S=.ok (.lst acc) S:=by
 refine cv ?_;rw[AH,h,cI];exact FH (fX.refl S) aI (by simp)
end
section
theorem Ni{α:Type}{f:α->D}{Q:α->Prop}:∀{ys:List D},(∀y∈ys,∃c,y=f c/\Q c)->∃l:List α,ys=l.map f/\∀c∈l,Q c
 |[],_=>⟨[],rfl,by simp⟩
 |y::ys,h=>by
  obtain⟨t,e,ht⟩:=h y (by simp);obtain⟨ts,e2,h2⟩:=Ni (ys:=ys) λy aW=>h y (by simp[aW]);exact⟨t::ts,by grind,λt' ahw=>by
   grind⟩
end
theorem XC:∀(k:Nat) (d:D),plain k d->plain (k+1) d:=λk=>by
 induction k with
 |zero=>intro d h;cases d<;>first|(simp[plain]at h;done)|(simp[plain];done)|(simp[plain]at h ⊢;exact h)
 |succ k ih =>
  have XD:∀xs,ni k xs->ni (k+1) xs:=λxs h=>rF.mpr λx hx=>ih x (rF.mp h x hx);intro d h;cases d<;>first|(simp[plain]at h;done)|(simp[plain];done)|(rw[plain]at h ⊢;exact⟨XD _ h.1,h.2⟩)|(simp[plain]at h ⊢;exact h)
theorem XF{j k:Nat}(h:j<=k){d:D}(hd:plain j d):plain k d:=by
 induction k with
 |zero=>grind
 |succ k ih =>
  by_cases e:j=k+1
  .grind
  .exact XC _ _ (ih (by omega))
section
variable{S S1 S2:Store}{sl:aJ}{f f1 f2:aQ}{fs:c1}{d e r:D}{ds:List D}{Q:jh}
theorem bD{i:Nat}(h:sl[i]?=some (some d)):ai i sl S=.ok d S:=UO h
theorem c':aq sl S=.ok [] S:=rfl
theorem cy(h:f sl S=.ok d S1)(h2:fs sl S1=.ok ds S2):aj f fs sl S=.ok (d::ds) S2:=by simp only[aj,h,h2,kd]
theorem hU{bp:aK}(h:fs sl S=.ok ds S1)(h2:bp ds S1=.ok r S2):az bp fs sl S=.ok r S2:=by simp only[az,h,kd];exact h2
theorem gA{bp:bR}(h:f1 sl S=.ok d S)(h2:f2 sl S=.ok e S1)(aH:bp d e S1=.ok r S2):ay bp f1 f2 sl S=.ok r S2:=by simp only[ay,h,h2,kd];exact aH
theorem uG(h:fs sl S=.ok ds S)(hl:ds.length<=1000000):az eG fs sl S=.ok (.lst ds) S:=hU h (by unfold eG;grind)
theorem qg(h:fs sl S=.ok ds S)(hl:ds.length<=1000000):az jar fs sl S=.ok (.tup ds) S:=hU h (by unfold jar;grind)
theorem k8{i:Nat}(h:f sl S=.ok d S)(hq:Q.nx (sl.set i (some d)) S):aR (b_ f (aV i) sl S) Q:=by
 simp_all
theorem XG{xs:List D}{k:Nat}(h:∀x∈xs,plain k x)(hk:k<=10)(hl:xs.length<=1000):oz [.lst xs,.lst xs] S=.ok (.bl true) S:=by
 refine rV ?_;rw[plain];exact⟨rF.mpr λx hx=>XF hk (h x hx),by omega⟩
end
def rY:SX :=
 (b0 (az ux (aj (az iO (aj (ai 0) (aj (az eG (aj (au (.int 1)) (aj (au (.int 1)) (aj (au (.int 1)) (aj (au (.int 2)) (aj (ay kQ (au (.int 0)) (au (.int 1))) (aj (ay kQ (az gv (aj (ai 0) (aj (au (.int 9)) aq))) (au (.int 4))) aq))))))) aq))) (aj (az iO (aj (ai 0) (aj (az eG (aj (au (.int 1)) (aj (au (.int 1)) (aj (au (.int 1)) (aj (au (.int 2)) (aj (au (.int 3)) aq)))))) aq))) aq))))
def xN:aK:=dV 1 (cN 1 rY)
def Nj:SX :=
 (b0 (az ec (aj (ai 0) (aj (az jar (aj (au (.ty "list")) (aj (au (.ty "tuple")) aq))) aq))))
def By:aK:=dV 1 (cN 1 Nj)
end Z
noncomputable section
namespace ZK
open PySem PySem.Spec PySem.W PySem.Calls PyProof.Rows L2 He He5
theorem Bz{Nk:Type}{o:Option SharedT}{f:SharedT->Bool}{h:SharedT->Nk}{v:Nk}{n:qP}{BA BD:List DefA}{fs:List dQ}{dh:List Defn}{ex:Frag->Bool}
  (h1:o.map (λs=>(f s,h s,zp BA (gY n (HandSHeadRun.getT s))))=some (true,v,(true,BA.map DefA.val)))
  (h2:o.map (λs=>Dz BD fs (gY n (HandSHeadRun.getT s)))=some ((true,BD.map DefA.val),fs.map dQ.val))
  (aH:o.map (λs=>DA dh ex (HandSHeadRun.getT s) (gY n (HandSHeadRun.getT s)))=some true) :
  o.map (λs=>(f s,h s,obsZ n (BA++BD) fs dh ex (HandSHeadRun.getT s)))=some (true,v,uD (BA++BD) fs):=by
 cases o with
 |none=>simp at h1
 |some s =>
  simp only[ta,Option.some.injEq,Prod.mk.injEq,zp,Dz,DA]at h1 h2 aH;obtain⟨a1,a2,a3,ahx⟩:=h1;obtain⟨⟨b1,eu⟩,Nm⟩:=h2;simp only[ta,obsZ,Nc,uD,List.all_append,List.map_append];grind
end ZK
end
namespace Z
open PySem PySem.Spec L2
abbrev eL(K:PySem.W.Frag)(n q:Str)(s:Stmt)(a:Addr)(fd:FuncData):Prop:=FunD K n q (defArgs s) (defBody s) (defScope s) [] [] a fd
end Z
namespace ZK
def Gx(R:Prop):List lF->Prop
 |[]=>R
 |x::l=>x.p->Gx R l
def Nn(R:Prop):List (List lF)->Prop
 |[]=>R
 |x::l=>Gx (Nn R l) x
theorem Np{R:Prop}:∀{l:List lF},vK l=true->Gx R l->R
 |[],_,r=>r
 |x::l,h,r=>by
  have h:(@decide x.p x.d&&vK l)=true:=h;rw[Bool.and_eq_true]at h;exact Np h.2 (r (@of_decide_eq_true _ x.d h.1))
theorem Nq{R:Prop}:∀{l:List (List lF)},zq l=true->Nn R l->R
 |[],_,r=>r
 |x::l,h,r=>by
  have h:(vK x&&zq l)=true:=h;rw[Bool.and_eq_true]at h;exact Nq h.2 (Np h.1 r)
end ZK
namespace GQ
open PySem PySem.SeqAt
open AutoSeq1 (wpAny_loadPart')
open MeetsSeq MeetsSeq2 MeetsSeq3 SeqRoads2
section
variable{prog:Program}{w:World}{A:Around}{R:Result->Shared->Prop}
theorem XH(l b:Addr)(N:Nat)(I:Nat->Shared->Prop)(hl:ListI prog w A (λe s'=>R (.error e) s') l b N I)
  (fin:∀s,I N s->R (.ok (.ret (.bool false))) s) (k:Nat) :
  ∀i:Nat,N - i=k->i<=N->∀s,I i s ->
   wpAny (model prog w) A.in1 (Builtin.«list.__eq__.loop» ⟨[.ref l,.ref b,rawInt i,rawInt 3],[]⟩) (FinOf prog w A R) (λe s'=>R (.error e) s') s:=by
 induction k with
 |zero =>
  intro i hk hi s h;obtain⟨items,oR,n,n2,c4,dH,mn,mq,_⟩:=hl _ _ h;have oS:i=N:=by omega
  have ez:R (.ok (.ret (.bool false))) s:=fin s (oS▸h);obtain⟨hp,g,d,tk,os⟩:=s
  wp_walk using wpAny_loadPart' c4,wpAny_loadPart' dH
  have mr:items[((i:Nat):Int).toNat]?=none:=by simp;omega
  have mw:oR[((i:Nat):Int).toNat]?=none:=by simp;omega
  rw[mr,mw]
  wp_walk using wpAny_loadPart' c4,wpAny_loadPart' dH
  show R (.ok (.ret (.bool (items.size != oR.size)))) _;grind
 |succ k ih =>
  intro i hk hi s h;obtain⟨items,oR,n,n2,c4,dH,mn,mq,turn⟩:=hl _ _ h;have cC:i<items.size:=by omega
  have qh:i<oR.size:=by omega
  have ht:=turn cC qh;obtain⟨hp,g,d,tk,os⟩:=s
  wp_walk using wpAny_loadPart' c4,wpAny_loadPart' dH
  have mr:items[((i:Nat):Int).toNat]?=some items[i]:=by simp[cC]
  have mw:oR[((i:Nat):Int).toNat]?=some oR[i]:=by simp[qh]
  have hc:((i:Int)+1)=((i+1:Nat):Int):=by omega
  rw[mr,mw];refine wpAny_bind (wpAny_mono ht (λr s2 h2=>?_) λ_ _ x=>x);obtain⟨hr,h2⟩:=h2;subst hr;have fD:=ih (i+1) (by omega) (by omega) s2 h2;obtain⟨BE,g2,t4,jQ,os2⟩:=s2
  wp_walk
  rw[hc];exact⟨plainId_quiet plain_eq_loop _,codeAny_builtin entry_eq_loop (by
   rw[Around.under_plainId plain_eq_loop _];exact fD)⟩
theorem XI(l b:Addr)(N:Nat)(I:Nat->Shared->Prop)(hl:ListI prog w A (λe s'=>R (.error e) s') l b N I)
  (fin:∀s,I N s->R (.ok (.ret (.bool false))) s) {s:Shared} (h:I 0 s) :
  wpAny (model prog w) A.in1 (Builtin.«list.__ne__» ⟨[.ref l,.ref b],[]⟩) (FinOf prog w A R) (λe s'=>R (.error e) s') s:=by
 obtain⟨items,oR,n,n2,c4,dH,mn,mq,_⟩:=hl _ _ h;have fD:=XH (A:=A) (R:=R) l b N I hl fin _ 0 rfl (iD _) s h;obtain⟨hp,g,d,tk,os⟩:=s;have f3:=AutoSeq1.sub_list_list;have hE:¬(items.size != oR.size)=true:=by simp[mn,mq]
 wp_walk using wpAny_loadPart' c4,wpAny_loadPart' dH
 exact⟨plainId_quiet plain_eq_loop _,codeAny_builtin entry_eq_loop (by
  rw[Around.under_plainId plain_eq_loop _];exact fD)⟩
end
section
variable{prog:Program}{w:World}{A:Around}{E:Value->Shared->Prop}{s:Shared}
theorem XJ{l b:Addr}{N:Nat}{Q:Value->Shared->Prop}(aI:A.units<cLine)(I:Nat->Shared->Prop)(hl:ListI prog w A E l b N I)
  (fin:∀s,I N s->Q (.bool false) s) (h:I 0 s):wpAny (model prog w) A (richCompare .NotEq (.ref l) (.ref b)) Q E s:=by
 obtain⟨items,oR,n,n2,c4,dH,_,_,_⟩:=hl _ _ h;refine wpAny_richCompare_same_room (op:=.NotEq) ⟨_,c4,rfl⟩ ⟨_,dH,rfl⟩ F.slot_list_ne (call_here F.slot_list_ne ⟨_,c4,rfl⟩ F.entry_list_ne (F.args_list_ne_2 _ _) ?_) aI;exact XI (R:=wants (λv s'=>v≠.notImplemented/\Q v s') E) l b N I hl (λs' q=>⟨(λx=>nomatch x),fin s' q⟩) h
end
end GQ
namespace Z
open PySem PySem.Spec L2 PyProof.Rows
def eU:Nat->Around->Around
 |0,A=>A
 |i+1,A=>(eU i A).in1
theorem xO{k:Nat}:∀{i:Nat} {A:Around},Room (k+i) A->Room k (eU i A)
 |0,_,h=>h
 |i+1,A,h=>Room.in1 (xO (k:=k+1) (i:=i) (by grind))
section
variable{X:Cx}{W:WX}
theorem Nr{pins:List (Addr×Obj)}{σ:L2.St}{H:Hp}{s:Shared}(I:Inv X pins σ H s):∀i,Env0 X.prog X.w X.K X.mg X.base (eU i X.A) X.stack s H
 |0=>I.env0
 |i+1=>(Nr I i).in1
theorem Nt{i k:Nat}{f:Addr}{pins:List (Addr×Obj)}{σ:L2.St}{H:Hp}{s:Shared}{Q:VK}{us:List Value}{vs:List V}{sp:Sp}{E:XK}(F:FnR X.prog X.w X.K X.mg X.base (Z.CX X.prog X.w) k f sp)(hr:Room k (eU i X.A))(hx:PassesAt (Z.CX X.prog X.w) X σ E)(I:Inv X pins σ H s)(r:Vals vs us)(h:sp vs H Q E) :
  wpAny (model X.prog X.w) (eU i X.A) (PySem.call (.ref f) us) (EP X pins σ Q) X.xe s:=by
 refine wpAny_call (codeAny_mono (F (eU i X.A) X.stack s H us vs Q E hr (Nr I i) r h) λr s' hq=>?_);cases r with
 |error e=>exact hx pins H s e s' I hq
 |ok fl =>
  cases fl<;>first|exact False.elim hq|exact I.after hq
def uH(oth:List Str)(tab:List (Str×aK))(S:Store):Nat->D->D->Prop
 |0,_,_=>False
 |n+1,d,e=>match d,e with
  | .int i,.int j=>i=j
  | .bl i,.bl j=>i=j
  | .str i,.str j=>i=j
  | .non,.non=>True
  | .tup xs,.tup ys=>xs.length=ys.length/\∀(i:Nat) x y,xs[i]?=some x->ys[i]?=some y->uH oth tab S n x y
  | .bF xs,.bF ys=>xs.length=ys.length/\∀(i:Nat) x y,xs[i]?=some x->ys[i]?=some y->uH oth tab S n x y
  | .lst xs,.lst ys=>xs.length=ys.length/\∀(i:Nat) x y,xs[i]?=some x->ys[i]?=some y->uH oth tab S n x y
  | .ins c ns vs,.ins bx jJ dt=>bx∈oth/\∃g,pW tab c=some g/\g [.ins c ns vs,.ins bx jJ dt] S=.ok (.bl true) S
  |_,_=>False
def Gone(X:Cx)(pins:List (Addr×Obj))(σ:L2.St)(ae:List Addr)(H:Hp)(S:Store)(s':Shared):Prop:=∃ag H',Inv X pins σ H' s'/\Ext ae H ag H'/\aD X.K X.mg ag H' S
def Gy(X:Cx)(i:Nat)(P:Store->D->D->Prop):Prop :=
 ∀(pins:List (Addr×Obj)) (s:Shared) (σ:L2.St) (ae:List Addr) (H:Hp) (S:Store) (d e:D) (x y:V) (u v:Value),Inv X pins σ H s->RelV x u->RelV y v->aD X.K X.mg ae H S->Rep X.K X.mg ae H d x->Rep X.K X.mg ae H e y->P S d e ->
  wpAny (model X.prog X.w) (eU i X.A) (eqBool u v) (λr s'=>r=true/\Gone X pins σ ae H S s') X.xe s
theorem Gz{P:Store->D->D->Prop}{i:Nat}(h:Gy X (i+1) P){pins:List (Addr×Obj)}{s:Shared}{σ:L2.St}{ae:List Addr}{H:Hp}{S:Store}{xs ys:List D}{vs ws:List V}{its dB:List Value}
  (I:Inv X pins σ H s) (w:aD X.K X.mg ae H S) (aC:ak X.K X.mg ae H xs vs) (aZ:ak X.K X.mg ae H ys ws) (r:Vals vs its) (aE:Vals ws dB) (p:∀(i:Nat) x y,xs[i]?=some x->ys[i]?=some y->P S x y)
  (j:Nat) (h1:j<its.toArray.size) (h2:j<dB.toArray.size) :
  wpAny (model X.prog X.w) (eU i X.A).in1 (eqBool its.toArray[j] dB.toArray[j]) (λr s2=>r=true/\Gone X pins σ ae H S s2) X.xe s:=by
 have g1:its[j]?=some its.toArray[j]:=by
  have i9:j<its.length:=by simpa using h1
  rw[hy i9]<;>simp
 have g2:dB[j]?=some dB.toArray[j]:=by
  have nT:j<dB.length:=by simpa using h2
  rw[hy nT]<;>simp
 have dz:j<vs.length:=by rw[r.length];simpa using h1
 have ck:j<ws.length:=by rw[aE.length];simpa using h2
 obtain⟨u,aI,b6⟩:=r.get (hy dz);obtain⟨v,bB,aO⟩:=aE.get (hy ck);rw[g1]at aI;rw[g2]at bB;rw[eY aI,eY bB];obtain⟨x,hx,BF⟩:=aC.get' (hy dz);obtain⟨y,aW,BG⟩:=aZ.get' (hy ck);exact h pins s σ ae H S x y _ _ u v I b6 aO w BF BG (p j x y hx aW)
theorem Gone.trans{pins:List (Addr×Obj)}{σ:L2.St}{ae ag:List Addr}{H H':Hp}{S:Store}{s':Shared}(x:Ext ae H ag H')(g:Gone X pins σ ag H' S s'):Gone X pins σ ae H S s':=by
 obtain⟨aL,aG,I2,x2,cz⟩:=g;exact⟨aL,aG,I2,x.trans x2,cz⟩
theorem Nu{P:Store->D->D->Prop}{i:Nat}(h:Gy X (i+1) P){pins:List (Addr×Obj)}{σ:L2.St}{ae:List Addr}{H:Hp}{S:Store}{xs ys:List D}{d e:D}{a b:Addr}
  (rd:Rep X.K X.mg ae H d (.ref a)) (re:Rep X.K X.mg ae H e (.ref b)) (hd:cB S d=some xs) (he:cB S e=some ys) (hl:xs.length=ys.length) (p:∀(i:Nat) x y,xs[i]?=some x->ys[i]?=some y->P S x y) :
  GQ.ListI X.prog X.w (eU i X.A) X.xe a b xs.length (λ_ s'=>Gone X pins σ ae H S s'):=by
 intro j s' q;obtain⟨aA,H1,I1,x1,aF⟩:=q;obtain⟨hR,vs,ea,ha,aC⟩:=eZ aF (rd.ext x1) hd;obtain⟨b',ws,eb,hb,aZ⟩:=eZ aF (re.ext x1) he;cases ea;cases eb;obtain⟨z,its,k,r,ao⟩:=I1.hok a _ ha;obtain⟨d9,dB,ck,aE,e2⟩:=I1.hok b _ hb;refine⟨its.toArray,dB.toArray,k,ck,ao,e2,by rw[eC,<-r.length,aC.len],by rw[eC,<-aE.length,hl,aZ.len],λh1 h2=>?_⟩;exact wpAny_mono (Gz h I1 aF aC aZ r aE p j h1 h2) (λr s2 q=>⟨q.1,q.2.trans x1⟩) λ_ _ x=>x
theorem Nv{oth:List Str}{tab:List (Str×aK)}{N:Nat}(tk:Takes X W)(ez:Room N X.A)(h1:oM X "__eq__" N tab)(ht:oN X oth tab):∀n i,i+n<=N->Gy X i (λS d e=>uH oth tab S n d e)
 |0,i,_=>λpins s σ ae H S d e x y u v I b6 aO w rd re p=>p.elim
 |n+1,i,hi=>λpins s σ ae H S d e x y u v I b6 aO w rd re p=>by
  have aI:(eU i X.A).units<cLine:=(xO (k:=0) (ez.mono (by omega))).units0;have ih:=Nv tk ez h1 ht n (i+1) (by omega);unfold uH at p;have flat:∀{x y:V},RelV x u->RelV y v->flatV x=true->flatV y=true->eqV x y=true->wpAny (model X.prog X.w) (eU i X.A) (eqBool u v) (λr s'=>r=true/\Gone X pins σ ae H S s') X.xe s:=λaC aZ GA rZ e=>by
   have q:=eqAt_V (A:=eU i X.A) (s:=s) aC aZ GA rZ;rw[e]at q;exact q X.prog X.w X.xe _ ⟨rfl,ae,H,I,Ext.refl,w⟩
  have refs:∀{a b:Addr},u=.ref a->v=.ref b->(a≠b->wpAny (model X.prog X.w) (eU i X.A) (richCompare .Eq (.ref a) (.ref b)) (λr s'=>r=.bool true/\Gone X pins σ ae H S s') X.xe s)->wpAny (model X.prog X.w) (eU i X.A) (eqBool u v) (λr s'=>r=true/\Gone X pins σ ae H S s') X.xe s:=λ{a b} ea eb h=>by
   subst ea eb;by_cases iS:a=b
   .subst iS
    exact SeqAt.EqAt.same (A:=eU i X.A) (s:=s) (.ref a) X.prog X.w X.xe _ ⟨rfl,ae,H,I,Ext.refl,w⟩
   .exact GQ.eqBool_refG iS (wpAny_mono (h iS) (λr s' q=>⟨true,q.1,rfl,q.2⟩) λ_ _ x=>x)
  split at p
  .rename_i a b
   rw[Rep]at rd re;subst rd re p;exact flat b6 aO rfl rfl (by simp[eqV])
  .rename_i a b
   rw[Rep]at rd re;subst rd re p;exact flat b6 aO rfl rfl (by simp[eqV])
  .rename_i a b
   rw[Rep]at rd re;subst rd re p;exact flat b6 aO rfl rfl (by simp[eqV])
  .rw[Rep]at rd re
   subst rd re;exact flat b6 aO rfl rfl (by simp[eqV])
  .rename_i xs ys
   rw[Rep]at rd re;obtain⟨a,vs,ea,hN,aC⟩:=rd;obtain⟨b,ws,eb,tb,aZ⟩:=re;subst ea eb;refine refs b6 aO λiS=>?_;obtain⟨its,r,e,z⟩:=I.tuple hN.dc;obtain⟨dB,aE,e2,d9⟩:=I.tuple tb.dc;have dj:its.toArray.size=dB.toArray.size:=by rw[eC,eC,<-r.length,<-aE.length,<-aC.len,<-aZ.len];exact p.1
   refine GQ.rc_tupG dj aI (λ_ s'=>Gone X pins σ ae H S s') e e2 (λj h1 h2 s' q=>?_) (λs' q=>⟨rfl,q⟩) ⟨ae,H,I,Ext.refl,w⟩;obtain⟨aA,H1,I1,x1,aF⟩:=q;exact wpAny_mono (Gz ih I1 aF (aC.ext x1) (aZ.ext x1) r aE p.2 j h1 h2) (λr s2 q=>⟨q.1,q.2.trans x1⟩) λ_ _ x=>x
  .rename_i xs ys
   rw[Rep]at rd re;obtain⟨a,vs,ea,hN,aC⟩:=rd;obtain⟨b,ws,eb,tb,aZ⟩:=re;subst ea eb;refine refs b6 aO λiS=>?_;obtain⟨its,r,e,z⟩:=I.tuple hN.dc;obtain⟨dB,aE,e2,d9⟩:=I.tuple tb.dc;have dj:its.toArray.size=dB.toArray.size:=by rw[eC,eC,<-r.length,<-aE.length,<-aC.len,<-aZ.len];exact p.1
   refine GQ.rc_tupG dj aI (λ_ s'=>Gone X pins σ ae H S s') e e2 (λj h1 h2 s' q=>?_) (λs' q=>⟨rfl,q⟩) ⟨ae,H,I,Ext.refl,w⟩;obtain⟨aA,H1,I1,x1,aF⟩:=q;exact wpAny_mono (Gz ih I1 aF (aC.ext x1) (aZ.ext x1) r aE p.2 j h1 h2) (λr s2 q=>⟨q.1,q.2.trans x1⟩) λ_ _ x=>x
  .rename_i xs ys
   have XM:=rd;have XN:=re;rw[Rep]at rd re;obtain⟨a,vs,ea,hN,aC⟩:=rd;obtain⟨b,ws,eb,tb,aZ⟩:=re;subst ea eb;refine refs b6 aO λiS=>?_;exact GQ.rc_listG aI (λ_ s'=>Gone X pins σ ae H S s') (Nu ih XM XN (by rfl) (by rfl) p.1 p.2) (λs' q=>⟨rfl,q⟩) ⟨ae,H,I,Ext.refl,w⟩
  .rename_i c ns vs bx jJ dt
   obtain⟨aS,g,m_,hg⟩:=p;obtain⟨a,C,bh,fs,ex,hm,ea,hn,cS⟩:=pB w rd (by rfl:jc S (.ins c ns vs)=some (c,ns,vs));obtain⟨b,d6,GB,xP,kW,iK,eb,lM,xQ⟩:=pB w re (by rfl:jc S (.ins bx jJ dt)=some (bx,jJ,dt));obtain⟨f,k,qa,F,hk⟩:=h1.at_ c g m_ C hm;subst ex kW;refine refs b6 aO λiS=>?_;obtain⟨rJ,od,J⟩:=Bf I ea;obtain⟨ob,XO,GD⟩:=Bf I eb;obtain⟨i9,_⟩:=ht.at_ c g m_ C hm;have hr:Room k (eU i X.A):=xO (hk.mono (by omega));refine PySem.W.ML (op:=.Eq) aI I.kIn J GD.type (i9 bx aS d6 iK) qa.at_ qa.fn (wpAny_mono (Nt (us:=[.ref a,.ref b]) (vs:=[.ref a,.ref b]) (Q:=λz H'=>z=.bl true/\∃ag,Ext ae H ag H'/\aD X.K X.mg ag H' S) F hr (wy tk σ) I (.cons rfl (.cons rfl .nil)) ⟨ae,S,[_,_],w,ak.cons rd (ak.cons re ak.nil),by rw[hg];exact λv ag H' x bT bN=>⟨jd bN,ag,x,bT⟩⟩) (λlN s' ⟨z,H',eJ,k6,rh,ag,x,bT⟩=>?_) λ_ _ z=>z);subst rh;cases k6;exact⟨rfl,ag,H',eJ,x,bT⟩
  grind
def eqO(neg:Bool)(oth:List Str)(tab:List (Str×aK))(n:Nat):bR:=λd e S=>match cB S d,cB S e with
 |some xs,some ys=>(open Classical in if xs.length=ys.length then(if ∀(i:Nat) x y,xs[i]?=some x->ys[i]?=some y->uH oth tab S n x y then .ok (.bl (!neg)) S else .bad)else .ok (.bl neg) S)
 |_,_=>.bad
theorem XP{oth:List Str}{tab:List (Str×aK)}{n:Nat}{neg:Bool}(tk:Takes X W)(ez:Room (n+1) X.A)(h1:oM X "__eq__" (n+1) tab)(ht:oN X oth tab):iR X W (compareOp (if neg=true then .NotEq else .Eq)) (eqO neg oth tab n):=⟨λpins s σ ae H S d e x y v u Q I aO b6 w rd re p=>by
 have aI:X.A.units<cLine:=(ez.mono (iD _)).units0;have ih:=Nv tk ez h1 ht n 1 (by omega);unfold eqO at p;split at p
 .rename_i xs ys ed ee
  obtain⟨a,vs,ea,ha,aC⟩:=eZ w rd ed;obtain⟨b,ws,eb,hb,aZ⟩:=eZ w re ee;subst ea eb;obtain rfl:v=Value.ref a:=aO;obtain rfl:u=Value.ref b:=b6;split at p
  .rename_i hl
   split at p
   .rename_i hp
    have fin:∀s',Gone X pins σ ae H S s'->EP X pins σ Q (.bool (!neg)) s':=λs' g=>by
     obtain⟨ag,H',eJ,x,bT⟩:=g;exact⟨.bl (!neg),H',eJ,rfl,p _ ag H' x bT eR⟩
    have li:=Nu (i:=0) (pins:=pins) (σ:=σ) ih rd re ed ee hl hp;cases neg with
    |false=>exact GQ.rc_listG aI _ li fin ⟨ae,H,I,Ext.refl,w⟩
    |true=>exact GQ.XJ aI _ li fin ⟨ae,H,I,Ext.refl,w⟩
   .exact p.elim
  .rename_i hl
   obtain⟨z,its,k,r,ao⟩:=I.hok a _ ha;obtain⟨d9,dB,ck,aE,e2⟩:=I.hok b _ hb;have dj:(its.toArray.size != dB.toArray.size)=true:=by
    rw[eC,eC,<-r.length,<-aE.length,<-aC.len,<-aZ.len];exact bne_iff_ne.mpr hl
   have fin:EP X pins σ Q (.bool neg) s:=⟨.bl neg,H,I,rfl,p _ ae H Ext.refl w eR⟩
   have l1:s.heap.IsList a its.toArray:=⟨_,ao,rfl,_,rfl⟩
   have l2:s.heap.IsList b dB.toArray:=⟨_,e2,rfl,_,rfl⟩
   cases neg with
   |false=>exact SeqAt.RcAt.lists_lengths l1 l2 dj aI _ _ _ _ fin
   |true=>exact SeqAt.RcNeAt.lists_lengths l1 l2 dj aI _ _ _ _ fin
 .exact p.elim⟩
theorem Nw{oth:List Str}{tab:List (Str×aK)}{n:Nat}(tk:Takes X W)(ez:Room (n+1) X.A)(h1:oM X "__eq__" (n+1) tab)(ht:oN X oth tab):iR X W (compareOp .NotEq) (eqO true oth tab n):=XP (neg:=true) tk ez h1 ht
end
open PySem PySem.Spec L2
section
variable{X:Cx}
def uI:bR:=λd e S=>match d,e with
 | .tup a,.tup b=>if a.length+b.length<=1000000 then .ok (.tup (a++b)) S else .bad
 |_,_=>.bad
theorem XQ:cg X (binaryOp .Add) uI:=by
 refine⟨_,op_catA,λWp ae H S d e x y Q w aC aZ p=>?_⟩;unfold uI at p;split at p
 .rename_i a b
  split at p
  .rename_i hl
   have Nx:=aC;have Ny:=aZ;rw[Rep]at aC aZ;obtain⟨l,vs,ao,h1,r1⟩:=aC;obtain⟨l2,n6,e2,h2,aE⟩:=aZ;refine⟨l,l2,vs,n6,ao,e2,h1.dc,h2.dc,by rw[<-r1.len,<-aE.len];exact h6 hl,λq=>?_,λ_ q=>?_,λ_ _ q hq=>wm p w (r1.append aE) hq⟩
   .have ha:a=[]:=iC.mp (by rw[r1.len,q];rfl)
    subst ha;rw[e2]at Ny;exact b5 p w Ny
   .have hb:b=[]:=iC.mp (by rw[aE.len,q];rfl)
    subst hb;rw[y8]at p;rw[ao]at Nx;exact b5 p w Nx
  .exact p.elim
 .exact p.elim
def oT:bR:=c7 Eo (c7 tQ (c7 n5 uI))
theorem Nz:cg X (binaryOp .Add) oT:=Kx.or (KA.or (KG.or XQ))
end
section
variable{X:Cx}{W:WX}
def qi:bR:=λd e S=>match d,e with
 | .tup xs,.tup []=>.ok (.bl (decide (xs=[]))) S
 |_,_=>.bad
theorem XR(aI:X.A.units<cLine):iR X W (compareOp .Eq) qi:=⟨λpins s σ ae H S d e x y v u Q I aO b6 w rd re p=>by
 unfold qi at p;split at p
 .rename_i xs
  rw[Rep]at rd re;obtain⟨a,vs,ea,hN,aC⟩:=rd;obtain⟨b,ws,eb,tb,aZ⟩:=re;subst ea eb;obtain rfl:v=Value.ref a:=aO;obtain rfl:u=Value.ref b:=b6;obtain⟨its,r,e,z⟩:=I.tuple hN.dc;obtain⟨dB,aE,e2,d9⟩:=I.tuple tb.dc;have h2:dB.length=0:=by rw[<-aE.length,<-aZ.len];rfl
  have h1:its.length=xs.length:=by rw[<-r.length,<-aC.len]
  refine SeqAt.RcAt.tuples (e:=λ_=>true) e e2 aI (λj _ h=>?_) _ _ _ _ ?_
  .rw[eC]at h;omega
  .have:((List.range (min its.toArray.size dB.toArray.size)).all (λ_=>true)&&its.toArray.size==dB.toArray.size)=decide (xs=[]):=by
    rw[eC,eC,h1,h2];cases xs<;>simp
   rw[this];exact⟨.bl (decide (xs=[])),H,I,rfl,p _ ae H Ext.refl w eR⟩
 .exact p.elim⟩
end
end Z
namespace ZG
open PySem PySem.Spec GenW
open Sem (wp)
def BH:Frame->Frame
 | .ret _ h g l c p kp=>.ret (λ_=>.unsupported "") h g l c p kp
 | .gen _ _ l c p=>.ret (λ_=>.unsupported "") none false l c p []
def dead:GenState->GenState
 | .suspended _ l c p fs cl=>.suspended (λ_=>.unsupported "") l c p (fs.map BH) cl
 |x=>x
def jo:GenState->Bool
 | .suspended .. => true
 |_=>false
theorem XS(F:Frame):(BH F).where_=F.where_:=by cases F<;>rfl
theorem XT(x:GenState):(dead x).seen=x.seen:=by
 cases x with
 |suspended k l c p fs cl =>
  show(GenStatus.suspended,some ((c,p)::(fs.map BH).map Frame.where_))=(GenStatus.suspended,some ((c,p)::fs.map Frame.where_))
  rw[s8];congr 3;exact y5 λF _=>XS F
 |_=>rfl
theorem XU(x:GenState):(dead x).bare=x.bare:=by cases x<;>rfl
def my:List Frame->Bool
 |[]=>true
 | .gen .. :: _=>false
 |_::fs=>my fs
theorem NA:∀{fs:List Frame},my fs=true->splitAtGen fs=none
 |[],_=>rfl
 | .gen .. :: _,h=>by cases h
 | .ret .. :: fs,h=>by
  have:=NA (fs:=fs) h;rw[splitAtGen,this]
  .rfl
  .simp
theorem GF:∀{a b:List Frame},my a=true->my b=true->my (a++b)=true
 |[],_,_,h=>h
 | .gen .. :: _,_,h,_=>by cases h
 | .ret .. :: a,b,h,h2=>GF (a:=a) h h2
theorem GH:∀fs:List Frame,my (fs.map BH)=true
 |[]=>rfl
 | .gen .. :: fs=>GH fs
 | .ret .. :: fs=>GH fs
def GJ:GenState->Bool
 | .suspended _ _ _ _ fs _=>my fs
 |_=>true
def NB:End->Bool
 | .ret _=>true
 | .susp _ _ _ _ _ _ fs=>my fs
theorem BI{e:End}(h:NB e=true):GJ e.genState=true:=by cases e<;>first|rfl|exact h
abbrev GM:=Nat->Option GenState
def rest(G:GM)(s:Shared):Shared:={ s with gens:=s.gens.mapIdx λi x=>(G i).getD x }
structure aJ(G:GM)(s:Shared):Prop where
 at_:∀i x,G i=some x->jo x=true/\s.gens[i]?=some (dead x)
 kj:∀(i:Nat) (x:GenState),s.gens[i]?=some x->GJ x=true
section
variable{M:Model}{da:PySem.Ctx}{p:Pos}{G:GM}{s s':Shared}{g:Nat}{x:GenState}
theorem nq{i:Nat}:(rest G s).gens[i]?=(s.gens[i]?).map λx=>(G i).getD x:=by
 show(s.gens.mapIdx _)[i]?=_;rw[Array.getElem?_mapIdx]
theorem k9(h:G g=none):(rest G s).gens[g]?=s.gens[g]?:=by
 rw[nq,h];cases s.gens[g]?<;>rfl
theorem xR:(rest G s).gens.size=s.gens.size:=by
 show(s.gens.mapIdx _).size=_;simp
theorem GL{a b:Shared}(h1:a.heap=b.heap)(h2:∀i:Nat,a.gens[i]?=b.gens[i]?)(aH:a.drawn=b.drawn)(bQ:a.toks=b.toks)(cn:a.os=b.os):a=b:=by
 obtain⟨h,g,d,t,o⟩:=a;obtain⟨h',e8,d',t',eE⟩:=b;obtain rfl:h=h':=h1;obtain rfl:d=d':=aH;obtain rfl:t=t':=bQ;obtain rfl:o=eE:=cn;have:g=e8:=Array.ext_getElem? h2;rw[this]
theorem qj(h:G g=none):rest G (s.setGen g x)=(rest G s).setGen g x:=by
 refine GL rfl (λi=>?_) rfl rfl rfl;rw[nq];show((s.gens.setIfInBounds g x)[i]?).map _=((rest G s).gens.setIfInBounds g x)[i]?;rw[zb,zb,xR,nq];by_cases e:g=i
 .subst e
  rw[if_pos rfl,if_pos rfl];split
  .rw[h];rfl
  .rfl
 .rw[if_neg e,if_neg e]
theorem aJ.XW(h:aJ G s):G s.gens.size=none:=by
 cases q:G s.gens.size with
 |none=>rfl
 |some x =>
  have:=(h.at_ _ _ q).2;simp at this
theorem NC(h:aJ G s)(c:Code):rest G { s with gens:=s.gens.push (.fresh c) }={ rest G s with gens:=(rest G s).gens.push (.fresh c) }:=by
 refine GL rfl (λi=>?_) rfl rfl rfl;rw[nq];show((s.gens.push (.fresh c))[i]?).map _=((rest G s).gens.push (.fresh c))[i]?;rw[zf,zf,xR];by_cases e:i=s.gens.size
 .rw[if_pos e,if_pos e,e]
  rw[h.XW];rfl
 .rw[if_neg e,if_neg e,nq]
theorem aJ.push(h:aJ G s)(c:Code):aJ G { s with gens:=s.gens.push (.fresh c) } where
 at_:=λi x hx=>by
  obtain⟨a,b⟩:=h.at_ i x hx;refine⟨a,?_⟩;show(s.gens.push (.fresh c))[i]?=_;rw[zf,if_neg,b];intro e;rw[e]at b;simp at b
 kj:=λi x hx=>by
  have hx:(s.gens.push (.fresh c))[i]?=some x:=hx;rw[zf]at hx;split at hx
  .cases hx;rfl
  .exact h.kj i x hx
theorem aJ.set(h:aJ G s)(hg:G g=none)(hx:GJ x=true):aJ G (s.setGen g x) where
 at_:=λi y aW=>by
  obtain⟨a,b⟩:=h.at_ i y aW;refine⟨a,?_⟩;show(s.gens.setIfInBounds g x)[i]?=_;rw[zb,if_neg,b];intro e;subst e;rw[hg]at aW;cases aW
 kj:=λi y aW=>by
  have aW:(s.gens.setIfInBounds g x)[i]?=some y:=aW;rw[zb]at aW;split at aW
  .split at aW
   .cases aW;exact hx
   .cases aW
  .exact h.kj i y aW
theorem ND{fs:List Frame}{e:End}(h:Runs M da p (.unsupported "") fs s e s'):False:=by
 generalize ht:(Sem.unsupported "":Sem PySem.Fin)=t at h
 induction h with
 |segRet _ _ ih _=>exact ih ht
 |segGen _ _ ih _=>exact ih ht
 |segSuspOut _ _ ih=>exact ih ht
 |segSuspGen _ _ _ _ ih _=>exact ih ht
 |_=>cases ht
theorem aJ.free_of(h:aJ G s)(hs:s.gens[g]?=some x)(hx:∀y,jo y=true->dead y≠x):G g=none:=by
 cases q:G g with
 |none=>rfl
 |some y =>
  obtain⟨a,b⟩:=h.at_ g y q;rw[hs]at b;exact absurd (eY b).symm (hx y a)
theorem ql{y:GenState}(h:jo y=true):∃l c p fs cl,dead y=.suspended (λ_=>.unsupported "") l c p fs cl:=by
 cases y with
 |suspended k l c p fs cl=>exact⟨l,c,p,_,cl,rfl⟩
 |_=>cases h
theorem NF{st:GenState}(hg:s.gens[g]?=some st)(hs:aJ G s):∃pS,(rest G s).gens[g]?=some pS/\pS.seen=st.seen:=by
 cases q:G g with
 |none=>exact⟨st,by rw[k9 q];exact hg,rfl⟩
 |some y =>
  obtain⟨h1,h2⟩:=hs.at_ g y q;refine⟨y,by rw[nq,h2,q];rfl,?_⟩;rw[hg]at h2;rw[eY h2,XT]
theorem BJ{t:Sem PySem.Fin}{fs:List Frame}{e:End}(h:Runs M da p t fs s e s'):my fs=true->aJ G s->Runs M da p t fs (rest G s) e (rest G s')/\aJ G s'/\NB e=true:=by
 induction h with
 |done=>intro _ hs;exact⟨.done,hs,rfl⟩
 |raise=>intro _ hs;exact⟨.raise,hs,rfl⟩
 |again hq _ ih=>intro hn hs;obtain⟨a,b,c⟩:=ih hn hs;exact⟨.again hq a,b,c⟩
 |rule _ ih=>intro hn hs;obtain⟨a,b,c⟩:=ih hn hs;exact⟨.rule a,b,c⟩
 | «at» _ ih=>intro hn hs;obtain⟨a,b,c⟩:=ih hn hs;exact⟨.at a,b,c⟩
 |load aS _ ih=>intro hn hs;obtain⟨a,b,c⟩:=ih hn hs;exact⟨.load aS a,b,c⟩
 |update aS _ ih=>intro hn hs;obtain⟨a,b,c⟩:=ih hn ⟨hs.at_,hs.kj⟩;exact⟨.update aS a,b,c⟩
 |loadIfAlive _ ih=>intro hn hs;obtain⟨a,b,c⟩:=ih hn hs;exact⟨.loadIfAlive a,b,c⟩
 |point _ ih=>intro hn hs;obtain⟨a,b,c⟩:=ih hn hs;exact⟨.point a,b,c⟩
 |alloc _ ih=>intro hn hs;obtain⟨a,b,c⟩:=ih hn ⟨hs.at_,hs.kj⟩;exact⟨.alloc a,b,c⟩
 |fresh _ ih=>intro hn hs;obtain⟨a,b,c⟩:=ih hn ⟨hs.at_,hs.kj⟩;exact⟨.fresh a,b,c⟩
 |ask _ ih=>intro hn hs;obtain⟨a,b,c⟩:=ih hn hs;exact⟨.ask a,b,c⟩
 |choose h0 _ ih=>intro hn hs;obtain⟨a,b,c⟩:=ih hn ⟨hs.at_,hs.kj⟩;exact⟨.choose h0 a,b,c⟩
 |os _ ih=>intro hn hs;obtain⟨a,b,c⟩:=ih hn ⟨hs.at_,hs.kj⟩;exact⟨.os a,b,c⟩
 |handled _ ih=>intro hn hs;obtain⟨a,b,c⟩:=ih hn hs;exact⟨.handled a,b,c⟩
 |genState hg _ ih =>
  intro hn hs;obtain⟨a,b,c⟩:=ih hn hs;obtain⟨pS,ao,e2⟩:=NF hg hs;exact⟨.genState ao (by rw[e2];exact a),b,c⟩
 |stack _ ih=>intro hn hs;obtain⟨a,b,c⟩:=ih hn hs;exact⟨.stack a,b,c⟩
 |thread _ ih=>intro hn hs;obtain⟨a,b,c⟩:=ih hn hs;exact⟨.thread a,b,c⟩
 |newGen _ ih =>
  intro hn hs;obtain⟨a,b,c⟩:=ih hn (hs.push _);refine⟨.newGen ?_,b,c⟩;rw[xR,<-NC hs];exact a
 |call _ _ r2 r3=>intro hn hs;obtain⟨a,b,c⟩:=r2 rfl hs;obtain⟨a2,eu,c2⟩:=r3 hn b;exact⟨.call a a2,eu,c2⟩
 |callSusp _ ih=>intro hn hs;obtain⟨a,b,c⟩:=ih rfl hs;exact⟨.callSusp a,b,GF c rfl⟩
 |yield=>intro _ hs;exact⟨.yield,hs,rfl⟩
 | @resumeFresh XY p₀ g l k XZ c e₁ s₁ e₂ s₂ hg _ hq _ r2 r3 =>
  intro hn hs;have a8:G g=none:=hs.free_of hg λy aW=>by
   obtain⟨l,c,p,fs,cl,e⟩:=ql aW;rw[e];intro z;cases z
  obtain⟨a,b,c⟩:=r2 rfl (hs.set a8 rfl);obtain⟨a2,eu,c2⟩:=r3 hn (b.set a8 (BI c));rw[qj a8]at a a2;exact⟨.resumeFresh (by rw[k9 a8];exact hg) a hq a2,eu,c2⟩
 | @resumeSuspended XY p₀ g r l k XZ GN l₀ c₀ ahy fs cl e₁ s₁ e₂ s₂ hg hr hq _ r2 r3 =>
  intro hn hs;have a8:G g=none:=by
   cases q:G g with
   |none=>rfl
   |some y =>
    obtain⟨h1,h2⟩:=hs.at_ g y q;obtain⟨l,c,p,xP,X0,e⟩:=ql h1;rw[hg,e]at h2;cases h2;exact(ND hr).elim
  have hc:my fs=true:=hs.kj g _ hg;obtain⟨a,b,c⟩:=r2 hc (hs.set a8 rfl);obtain⟨a2,eu,c2⟩:=r3 hn (b.set a8 (BI c));rw[qj a8]at a a2;exact⟨.resumeSuspended (by rw[k9 a8];exact hg) a hq a2,eu,c2⟩
 |resumeJustStarted hg bB _ ih =>
  intro hn hs;have a8:=hs.free_of hg λy aW=>by
   obtain⟨l,c,p,fs,cl,e⟩:=ql aW;rw[e];intro z;cases z
  obtain⟨a,b,c⟩:=ih hn hs;exact⟨.resumeJustStarted (by rw[k9 a8];exact hg) bB a,b,c⟩
 |resumeThrowFresh hg _ ih =>
  intro hn hs;have a8:=hs.free_of hg λy aW=>by
   obtain⟨l,c,p,fs,cl,e⟩:=ql aW;rw[e];intro z;cases z
  obtain⟨a,b,c⟩:=ih hn (hs.set a8 rfl);rw[qj a8]at a;exact⟨.resumeThrowFresh (by rw[k9 a8];exact hg) a,b,c⟩
 |resumeRunning hg _ ih =>
  intro hn hs;have a8:=hs.free_of hg λy aW=>by
   obtain⟨l,c,p,fs,cl,e⟩:=ql aW;rw[e];intro z;cases z
  obtain⟨a,b,c⟩:=ih hn hs;exact⟨.resumeRunning (by rw[k9 a8];exact hg) a,b,c⟩
 |resumeFinished hg _ ih =>
  intro hn hs;have a8:=hs.free_of hg λy aW=>by
   obtain⟨l,c,p,fs,cl,e⟩:=ql aW;rw[e];intro z;cases z
  obtain⟨a,b,c⟩:=ih hn hs;exact⟨.resumeFinished (by rw[k9 a8];exact hg) a,b,c⟩
 |segRet _ _ r2 r3=>intro hn hs;obtain⟨a,b,c⟩:=r2 rfl hs;obtain⟨a2,eu,c2⟩:=r3 hn b;exact⟨.segRet a a2,eu,c2⟩
 |segGen _ _ _ _=>intro hn;cases hn
 |segSuspOut hq _ ih=>intro hn hs;obtain⟨a,b,c⟩:=ih rfl hs;exact⟨.segSuspOut hq a,b,GF c hn⟩
 |segSuspGen hq _ _ _ _ _=>intro hn;rw[NA hn]at hq;cases hq
end
section
variable{M:Model}{da:PySem.Ctx}{p:Pos}{G:GM}{s s':Shared}{g:Nat}{x:GenState}
theorem GO(h:aJ G s)(hs:s.gens[g]?=some x)(hx:jo x=false):G g=none:=h.free_of hs λy aW e=>by
 obtain⟨l,c,p,fs,cl,e2⟩:=ql aW;rw[e2]at e;subst e;cases hx
theorem X1{r:Resume}{res:GenResult}(h:Wakes M da p g r s res s')(hs:aJ G s):Wakes M da p g r (rest G s) res (rest G s')/\aJ G s':=by
 unfold Wakes at h;split at h
 .exact h.elim
 .rename_i c hg
  have a8:=GO hs hg rfl;have uA:(rest G s).gens[g]?=some (.fresh c):=by rw[k9 a8];exact hg
  unfold Wakes;rw[uA];split at h
  .obtain⟨e₁,s₁,hr,hq,jq,rfl⟩:=h
   obtain⟨a,b,cc⟩:=BJ hr rfl (hs.set a8 rfl);refine⟨⟨e₁,rest G s₁,?_,hq,jq,qj a8⟩,b.set a8 (BI cc)⟩;rw[<-qj a8];exact a
  .rename_i v bB
   obtain⟨h1,rfl⟩:=h;refine⟨?_,hs⟩;dsimp only;cases v with
   |none=>exact absurd rfl bB
   |_=>exact⟨h1,rfl⟩
  .obtain⟨h1,rfl⟩:=h
   exact⟨⟨h1,qj a8⟩,hs.set a8 rfl⟩
 .rename_i GN l₀ c₀ p₀ fs cl hg
  obtain⟨e₁,s₁,hr,hq,jq,rfl⟩:=h;have a8:G g=none:=by
   cases q:G g with
   |none=>rfl
   |some y =>
    obtain⟨h1,h2⟩:=hs.at_ g y q;obtain⟨l,c,p,xP,X0,e⟩:=ql h1;rw[hg,e]at h2;cases h2;exact(ND hr).elim
  have hc:my fs=true:=hs.kj g _ hg;obtain⟨a,b,cc⟩:=BJ hr hc (hs.set a8 rfl);have uA:(rest G s).gens[g]?=some (.suspended GN l₀ c₀ p₀ fs cl):=by rw[k9 a8];exact hg
  unfold Wakes;rw[uA];refine⟨⟨e₁,rest G s₁,?_,hq,jq,qj a8⟩,b.set a8 (BI cc)⟩;rw[<-qj a8];exact a
 .rename_i hg
  have a8:=GO hs hg rfl;obtain⟨h1,rfl⟩:=h;unfold Wakes;rw[show(rest G s').gens[g]?=some .running by rw[k9 a8];exact hg];exact⟨⟨h1,rfl⟩,hs⟩
 .rename_i hg
  have a8:=GO hs hg rfl;obtain⟨h1,rfl⟩:=h;unfold Wakes;rw[show(rest G s').gens[g]?=some .finished by rw[k9 a8];exact hg];exact⟨⟨h1,rfl⟩,hs⟩
theorem X2{r:Result}(h:Returns M da p s r s')(hs:aJ G s):Returns M da p (rest G s) r (rest G s')/\aJ G s' :=
 ⟨(BJ h rfl hs).1,(BJ h rfl hs).2.1⟩
end
theorem aJ.xS{G:GM}{s s':Shared}(h:aJ G s)(e:s'.gens=s.gens):aJ G s':=⟨λi x hx=>by rw[e];exact h.at_ i x hx,λi x hx=>h.kj i x (by rw[<-e];exact hx)⟩
abbrev NI{α:Type}(G:GM)(Q:α->Pos->Shared->Prop):α->Pos->Shared->Prop:=λa p s2=>∃s1,s2=rest G s1/\aJ G s1/\Q a p s1
theorem NK{α:Type}(M:Model)(da:PySem.Ctx)(G:GM)(t:Sem α):∀(Q:α->Pos->Shared->Prop) (E:Value->Pos->Shared->Prop) (p:Pos) (s:Shared),aJ G s->wp M da t Q E p s->wp M da t (NI G Q) (NI G E) p (rest G s):=by
 induction t with
 |pure a=>intro Q E p s hn h;exact⟨s,rfl,hn,h⟩
 |raise e=>intro Q E p s hn h;exact⟨s,rfl,hn,h⟩
 |unsupported _=>intro Q E p s _ h;exact h
 |finish _=>intro Q E p s _ h;exact h
 |rule _ k ih=>intro Q E p s hn h;exact ih () Q E p s hn h
 | «at» cw k ih=>intro Q E p s hn h;exact ih () Q E cw s hn h
 |load a _ k ih=>intro Q E p s hn h;obtain⟨o,aS,h⟩:=h;exact⟨o,aS,ih o Q E p s hn h⟩
 |update a _ f k ih=>intro Q E p s hn h;exact⟨h.1,ih () Q E p { s with heap:=s.heap.update a f } (hn.xS rfl) h.2⟩
 |loadIfAlive a k ih=>intro Q E p s hn h;exact ih _ Q E p s hn h
 |point _ k ih=>intro Q E p s hn h;exact ih () Q E p s hn h
 |register _ _=>intro Q E p s _ h;exact h
 |alloc o k ih=>intro Q E p s hn h;exact ih _ Q E p { s with heap:=s.heap.push o } (hn.xS rfl) h
 |fresh k ih=>intro Q E p s hn h;exact ih _ Q E p { s with toks:=s.toks+1 } (hn.xS rfl) h
 |ask k ih=>intro Q E p s hn h;exact ih _ Q E p s hn h
 |choose src m k ih=>intro Q E p s hn h;exact⟨h.1,ih _ Q E p { s with drawn:=s.drawn.bump src } (hn.xS rfl) h.2⟩
 |os q _ k ih=>intro Q E p s hn h;exact ih _ Q E p { s with os:=(Os.step s.os q).1 } (hn.xS rfl) h
 |call c hd _ _ k ih =>
  intro Q E p s hn h;obtain⟨r,s',hr,h⟩:=h;obtain⟨a,b⟩:=X2 hr hn;exact⟨r,rest G s',a,ih r Q E p s' b h⟩
 |handled own k ih=>intro Q E p s hn h;exact ih _ Q E p s hn h
 |genState g k ih =>
  intro Q E p s hn h;obtain⟨st,hs,h⟩:=h;obtain⟨pS,ao,e2⟩:=NF hs hn;refine⟨pS,ao,?_⟩;rw[e2];exact ih _ Q E p s hn h
 |newGen c k ih =>
  intro Q E p s hn h;have h2:=ih _ Q E p _ (hn.push c) h;rw[NC hn]at h2;show wp M da (k (rest G s).gens.size) _ _ p _;rw[xR];exact h2
 |resume g r _ k ih =>
  intro Q E p s hn h;obtain⟨res,s',hw,h⟩:=h;obtain⟨a,b⟩:=X1 hw hn;exact⟨res,rest G s',a,ih res Q E p s' b h⟩
 |yield _ _ _ _=>intro Q E p s _ h;exact h
 |stack k ih=>intro Q E p s hn h;exact ih _ Q E p s hn h
 |fork _ _=>intro Q E p s _ h;exact h
 |thread k ih=>intro Q E p s hn h;exact ih _ Q E p s hn h
 |await _ _ _ _ _=>intro Q E p s _ h;exact h
def gT(s:Shared):Shared:={ s with gens:=s.gens.map dead }
def hV(s:Shared):GM:=λi=>match s.gens[i]? with
 |some x=>if jo x=true then some x else none
 |none=>none
theorem X3{x:GenState}(h:jo x=false):dead x=x:=by cases x<;>first|rfl|cases h
theorem GP{s:Shared}{i:Nat}:(gT s).gens[i]?=(s.gens[i]?).map dead:=by
 show(s.gens.map dead)[i]?=_;rw[Array.getElem?_map]
theorem X4(s:Shared):aJ (hV s) (gT s) where
 at_:=λi x h=>by
  unfold hV at h;split at h
  .rename_i y aW
   split at h
   .rename_i hs
    cases h;exact⟨hs,by rw[GP,aW];rfl⟩
   .cases h
  .cases h
 kj:=λi x h=>by
  rw[GP]at h;cases q:s.gens[i]? with
  |none=>rw[q]at h;cases h
  |some y =>
   rw[q]at h;cases h;cases y with
   |suspended k l c p fs cl=>exact GH fs
   |_=>rfl
theorem X5(s:Shared):rest (hV s) (gT s)=s:=by
 refine GL rfl (λi=>?_) rfl rfl rfl;rw[nq,GP];cases q:s.gens[i]? with
 |none=>rfl
 |some y =>
  show some ((hV s i).getD (dead y))=some y;unfold hV;rw[q];dsimp only;cases h:jo y with
  |true=>rfl
  |false=>rw[if_neg (by simp)];exact congrArg some (X3 h)
structure GU(s s1 s2:Shared):Prop where
 eq:s2=ZG.rest (hV s) s1
 sl:aJ (hV s) s1
 heap:s2.heap=s1.heap
 os:s2.os=s1.os
 size:s2.gens.size=s1.gens.size
 kept:∀(i:Nat) (x:GenState),s.gens[i]?=some x->jo x=true->s2.gens[i]?=some x
 rest:∀(i:Nat),(∀x,s.gens[i]?=some x->jo x=false)->s2.gens[i]?=s1.gens[i]?
 bare:PyProof.Rows.AllBare s.gens->PyProof.Rows.AllBare s1.gens->PyProof.Rows.AllBare s2.gens
theorem NM{s s1:Shared}(hs:s.gens.size<=s1.gens.size)(hl:aJ (hV s) s1):GU s s1 (rest (hV s) s1) where
 eq:=rfl
 sl:=hl
 heap:=rfl
 os:=rfl
 size:=xR
 kept:=λi x hx hi=>by
  have:i<s1.gens.size:=by
   have:=(Array.getElem?_eq_some_iff.mp hx).1;omega
  rw[nq,Dl this];show some ((hV s i).getD _)=_;unfold hV;rw[hx];dsimp only;rw[if_pos hi];rfl
 rest:=λi h=>by
  refine k9 ?_;unfold hV;cases q:s.gens[i]? with
  |none=>rfl
  |some y =>
   dsimp only;rw[if_neg (by rw[h y q];simp)]
 bare:=λh h1 y aW=>by
  obtain⟨i,hi,e⟩:=Array.mem_iff_getElem.mp aW;have q:(ZG.rest (hV s) s1).gens[i]?=some y:=by rw[Dl hi,e]
  rw[nq]at q;cases bq:s1.gens[i]? with
  |none=>rw[bq]at q;cases q
  |some z =>
   rw[bq]at q;have q:(hV s i).getD z=y:=eY q;unfold hV at q;cases bK:s.gens[i]? with
   |none =>
    rw[bK]at q;exact q▸h1 z (vF bq)
   |some u =>
    rw[bK]at q;dsimp only at q;split at q
    .exact q▸h u (vF bK)
    .exact q▸h1 z (vF bq)
theorem uJ{s:Shared}(h:PyProof.Rows.AllBare s.gens):PyProof.Rows.AllBare (gT s).gens:=λy aW=>by
 obtain⟨x,hx,rfl⟩:=Array.mem_map.mp aW;rw[XU];exact h x hx
theorem uK{α:Type}{M:Model}{A:Around}{s:Shared}{t:Sem α}{Q:α->Shared->Prop}{E:Value->Shared->Prop}
  (h:wpAny M A t (λa s1=>∀s2,GU s s1 s2->Q a s2) (λe s1=>∀s2,GU s s1 s2->E e s2) (gT s)):wpAny M A t Q E s:=by
 intro da p hW;have h1:=wp_gsz M da s.gens.size t _ _ p (gT s) (by show s.gens.size<=(s.gens.map dead).size;simp) (h da p hW);have h2:=NK M da (hV s) t _ _ p (gT s) (X4 s) h1;rw[X5]at h2;refine Sem.wp_mono M da t ?_ ?_ p s h2
 .rintro a cw s2 ⟨s1,rfl,hl,hz,hq⟩
  exact hq _ (NM hz hl)
 .rintro a cw s2 ⟨s1,rfl,hl,hz,hq⟩
  exact hq _ (NM hz hl)
abbrev kl:=End->Shared->Prop
def b2(M:Model)(A:Around)(c:Code)(t:Sem PySem.Fin)(fs:List Frame)(s:Shared)(F:kl):Prop :=
 ∀(da:PySem.Ctx) (p:Pos),da.code=c->da.Woken A->∃e s',Runs M da p t fs s e s'/\F e s'
section
variable{M:Model}{A:Around}{F:kl}{c:Code}{fs:List Frame}{s:Shared}{env:Env}{K:Flow->Sem PySem.Fin}{J:Value->Sem PySem.Fin}{gd:Bool->Bool}{lv:List Value->List Value}
theorem nr{α:Type}{m:Sem α}{K:α->Sem PySem.Fin}{H:Value->Sem PySem.Fin}{gd lv}
  (h:wpAny M (A.over c fs) m (λa s'=>b2 M A c (K a) fs s' F) (λx s'=>b2 M A c (H x) fs s' F) s):b2 M A c (m.wrap K H gd lv) fs s F:=by
 rintro da p rfl hW;exact runs_wrap_of_wp K H gd lv m (h (da.over fs) p (hW.over fs)) (λa cw s' h'=>h' da cw rfl hW) (λx cw s' h'=>h' da cw rfl hW)
theorem GV{cw:Pos}{k:Unit->Sem PySem.Fin}(h:b2 M A c (k ()) fs s F):b2 M A c (.at cw k) fs s F :=
 nr (m:=standAt cw) (K:=k) (H:=.raise) (gd:=id) (lv:=id) (wpAny_standAt h)
theorem X6{l:List Value}{k:Unit->Sem PySem.Fin}(h:b2 M A c (k ()) fs s F):b2 M A c (.point l k) fs s F :=
 nr (m:=point) (K:=k) (H:=.raise) (gd:=id) (lv:=λ_=>l) (wpAny_point h)
theorem X7{bx:Code}{h g l}{k:Result->Sem PySem.Fin}(hc:∀p,b2 M A bx (M.den bx) (.ret k h g l c p []::fs) s F):b2 M A c (.call bx h g l k) fs s F:=by
 rintro da p rfl hW;obtain⟨e,s',hr,he⟩:=hc p (da.goto bx) p rfl (hW.goto bx);exact⟨e,s',runs_call_seg hr,he⟩
theorem GW{k h g l c₁ p₁ kp}(r:Result)(hk:b2 M A c₁ (k r) fs s F):b2 M A c (leafOf r) (.ret k h g l c₁ p₁ kp::fs) s F:=by
 rintro da p rfl hW;obtain⟨e,s',hr,he⟩:=hk (da.goto c₁) p₁ rfl (hW.goto c₁);exact⟨e,s',Runs.pop r hr,he⟩
theorem X8{bx:Code}(hq:bx.quiet=true)(hc:b2 M A bx (M.den bx) fs s F):b2 M A c (.pure (.again bx)) fs s F:=by
 rintro da p rfl hW;obtain⟨e,s',hr,he⟩:=hc (da.goto bx) p rfl (hW.goto bx);exact⟨e,s',Runs.head (c₁:=bx) (λ_ _ x=>.again hq x) hr,he⟩
theorem NP(r:Result)(h:F (.ret r) s):b2 M A c (leafOf r) [] s F:=by
 rintro da p rfl _;exact⟨.ret r,s,Runs.leaf r,h⟩
theorem X9{v g l}{k:Resume->Sem PySem.Fin}(xt:splitAtGen fs=none)(h:∀p,F (.susp v g l k c p fs) s):b2 M A c (.yield v g l k) fs s F:=by
 rintro da p rfl _;exact⟨_,s,Runs.yield' fs xt,h p⟩
theorem NQ{st:Stmt}{rest:List Stmt}
  (h:b2 M A c ((exec st env).wrap (λf=>match f with|.next=>(execs rest env).wrap K J gd lv|f=>K f) J gd lv) fs s F):b2 M A c ((execs (st::rest) env).wrap K J gd lv) fs s F:=by
 rw[execs_cons_wrap];exact h
theorem X_{e:Expr}{GX pos:Pos}(xt:splitAtGen fs=none)(oj:gd false=false)(X':fs.any Frame.guarded=false)
  (h:wpAny M (A.over c fs) (eval e env) (λv s'=>∀(g:Bool) (l:List Value) (k:Resume->Sem PySem.Fin) (p:Pos),(End.susp v g l k c p fs).quiet=true ->
    (∀x qm hG,(match x with|.ref _=>False|_=>b2 M A c (K .next) fs hG qm)->b2 M A c (k (.send x)) fs hG qm)->F (.susp v g l k c p fs) s')
   (λx s'=>b2 M A c (J x) fs s' F) s) (r4:env.scope.isCoroutine=false:=by rfl) (hi:interactive env=false:=by rfl) :
  b2 M A c ((exec (.Expr (.Yield (some e) GX) pos) env).wrap K J gd lv) fs s F:=by
 rw[exec_Expr env _ pos hi rfl];show b2 M A c (.at pos λ_=>((eval e env >>= λv=>(standAt GX >>= λ_=>yieldOut env v)) >>= λx =>
  dropValue (.Yield (some e) GX) pos x).wrap K J gd lv) fs s F
 have aW:∀v,yieldOut env v=yieldValue v:=λv=>by simp only[yieldOut,r4,y_,if_false]
 simp only[aW];refine GV ?_;rw[Sem.bind_eq_wrap',Sem.bind_eq_wrap',Sem.wrap_wrap,Sem.wrap_wrap];refine nr (wpAny_mono h (λv s' h'=>?_) λ_ _ x=>x);refine GV (X9 xt λp=>?_);refine h' _ _ _ p (by simp[End.quiet,oj,X']) λx qm hG hx=>?_;cases x<;>first|exact hx|exact hx.elim
end
section
variable{prog:Program}{w:World}{A:Around}{F:kl}{fs:List Frame}{s:Shared}{env:Env}
abbrev r5(env:Env)(e:Value):Sem PySem.Fin:=(do noteFrame e env;theTreesLotGoes e:Sem Unit).wrap (λ_=>.raise e) .raise id id
theorem Ya{body:List Stmt}
  (h:b2 (model prog w) A (.func body env) ((execs body env).wrap (λf=>.pure (.done (.ret (match f with|.ret v=>v|_=>.none))))
   (λe=>(leaving env e).wrap (λ_=>.raise e) .raise id id) id id) fs s F) :
  b2 (model prog w) A (.func body env) ((model prog w).den (.func body env)) fs s F:=by
 show b2 _ A _ (.point [] λ_=>((execs body env).onRaise (leaving env)) >>= _) fs s F;refine X6 ?_;rw[Sem.onRaise_eq_wrap,Sem.bind_eq_wrap',Sem.wrap_wrap];rw[Sem.wrap_congr (execs body env) _ _ (K':=λf=>.pure (.done (.ret (match f with|.ret v=>v|_=>.none))))
  (H':=λe=>(leaving env e).wrap (λ_=>.raise e) .raise id id) (λf=>by cases f<;>rfl)
  (λe=>by rw[Sem.bind_eq_wrap,Sem.wrap_wrap];rfl)]
 exact h
end
def GZ(M:Model)(A:Around)(gs:GenState)(s:Shared)(F:kl):Prop:=match gs with
 | .fresh c=>b2 M A c (M.den c) [] s F
 | .suspended k _ c _ fs _=>b2 M A c (k (.send .none)) fs s F
 |_=>False
theorem Yb{M:Model}{A:Around}{F:kl}{E:Value->Shared->Prop}{s:Shared}{g:Nat}{gs:GenState}{l:List Value}{α:Type}{k:GenResult->Sem α}{Q:α->Shared->Prop}(hg:s.gens[g]?=some gs)
  (iU:GZ M A gs (s.setGen g .running) F)
  (hF:∀e s₁,F e s₁->e.quiet=true/\wpAny M A (k e.result) Q E (s₁.setGen g e.genState)) :
  wpAny M A (.resume g (.send .none) l k) Q E s:=by
 intro da p hW;rw[Sem.wp_resume];cases gs with
 |fresh c =>
  obtain⟨e₁,s₁,hr,he⟩:=iU (da.wake c p) p rfl (hW.wake c p);obtain⟨h1,h2⟩:=hF e₁ s₁ he;exact⟨_,_,by unfold Wakes;rw[hg];exact⟨e₁,s₁,hr,h1,rfl,rfl⟩,h2 da p hW⟩
 |suspended GN l₀ c₀ p₀ ahz cl =>
  obtain⟨e₁,s₁,hr,he⟩:=iU (da.wake c₀ p) p₀ rfl (hW.wake c₀ p);obtain⟨h1,h2⟩:=hF e₁ s₁ he;exact⟨_,_,by unfold Wakes;rw[hg];exact⟨e₁,s₁,hr,h1,rfl,rfl⟩,h2 da p hW⟩
 |running=>exact iU.elim
 |finished=>exact iU.elim
open PySem PySem.Spec GenW PyProof.Rows
section
variable{P:Program}{w:World}{A:Around}{E:Value->Shared->Prop}{s:Shared}
theorem G0{a:Addr}{g:Nat}{gs:GenState}{F:kl}{Q:Option Value->Shared->Prop}(hh:A.handled=none)
  (hl:s.heap.NoLimit) (ik:A.depth<recursionLimit) (hg:s.heap.IsGen a g) (hX:s.gens[g]?=some gs)
  (iU:GZ (model P w) A.in1 gs (s.setGen g .running) F)
  (jr:∀v g₀ l k c p fs s₁,F (.susp v g₀ l k c p fs) s₁->(End.susp v g₀ l k c p fs).quiet=true/\Q (some v) (s₁.setGen g (End.susp v g₀ l k c p fs).genState))
  (ez:∀r s₁,F (.ret r) s₁->((r=.ok (.ret .none)\/r=.ok .next)/\∀h',(∀b o,s₁.heap.get? b=some o->h'.get? b=some o)->Q none { s₁.setGen g .finished with heap:=h' }) \/
   ∃e,r=.error e/\s₁.heap.IsGen a g/\L2.NotStop (model P w) e s₁.heap/\E e (s₁.setGen g .finished)) :
  wpAny (model P w) A (pyNext (.ref a)) Q E s:=by
 unfold pyNext;refine wpAny_bind (wpAny_attempt (wpAny_callSpecial?_slot (name:=Str.ofString "__next__") hg.typeIs slot_gen_next
  (wpAny_call_entry slot_gen_next hg.typeIs entry_gen_next ?_ (args_gen_next _))))
 show wpAny _ A.in1 (Builtin.Generator.genWake (.ref a) (.send .none)) _ _ s;unfold Builtin.Generator.genWake;refine wpAny_bind (wpAny_holding (wpAny_genNumber hg (wpAny_bind (wpAny_genState hX ?_))));cases gs with
 |running=>exact iU.elim
 |finished=>exact iU.elim
 |_ =>
  refine wpAny_bind (wpAny_roomToWake hl ik ?_);show wpAny _ A.in1 (.resume g (.send .none) [] _) _ _ s;refine Yb hX iU λx s₁ hx=>?_;cases x with
  |susp v g₀ l k c p fs =>
   obtain⟨h1,h2⟩:=jr v g₀ l k c p fs s₁ hx;exact⟨h1,wpAny_pure ⟨v,rfl,wpAny_pure h2⟩⟩
  |ret x =>
   refine⟨rfl,?_⟩;rcases ez x s₁ hx with⟨hr,hp⟩|⟨e,rfl,Yc,ei,hq⟩
   .have jq:End.result (.ret x)=.returned .none:=by
     rcases hr with hr|hr<;>rw[hr]<;>rfl
    first|rw[jq]|simp only[jq]
    show wpAny _ A.in1 (newExc (.type "StopIteration") [] >>= _) _ _ _;refine wpAny_bind ?_;simp only[newExc,newTuple];refine wpAny_bind (wpAny_newObj_type ?_ (by size_fits));refine wpAny_bind (m:=firstArgMember _ _) (wpAny_of_eq (a:=Value.none) (by first|rfl|(simp only[firstArgMember];rfl)) ?_);refine wpAny_newObj_type ?_ (by size_fits);simp only[raiseNew];refine wpAny_bind (wpAny_bind (wpAny_handled ?_))
    first|rw[show A.in1.handled=none from hh]|rw[hh]
    refine wpAny_throw ?_;refine wpAny_bind (wpAny_isInstance (T:="StopIteration") (b:=true) ⟨_,Heap.get?_push_size _ rfl,rfl⟩ isSubtype_stop ?_);exact wpAny_pure (hp _ λb o hb=>Heap.get?_push_of_some _ (Heap.get?_push_of_some _ hb))
   .obtain⟨o,nm,gy,aS,hc,hd,r6⟩:=Yc
    show wpAny _ A.in1 (Builtin.Generator.genLeft (.ref a) e) _ _ _;unfold Builtin.Generator.genLeft Builtin.Generator.madeByALambda;refine wpAny_bind (wpAny_bind (wpAny_load (o:=o) aS (wpAny_pure ?_)));refine wpAny_bind (ei _ _ _ _ rfl ?_);rw[Bool.and_false,if_neg jy];unfold Builtin.Generator.genEscaped
    first
     |refine wpAny_bind (ei _ _ _ _ rfl ?_)
     |refine wpAny_bind (wpAny_pure (wpAny_bind (ei _ _ _ _ rfl ?_)))
    rw[if_pos (show(!false)=true from rfl)]
    first
     |refine wpAny_throw ?_
     |refine wpAny_bind (wpAny_throw ?_)
    refine wpAny_bind (ei _ _ _ _ rfl ?_);rw[if_neg jy];exact wpAny_throw hq
end
open PySem PySem.Spec GenW PyProof.Rows L2
def oU(n:Nat)(h:Heap):Heap:={ h with objs:=h.objs.extract 0 n }
def Yd(n:Nat)(s:Shared):Shared:={ s with heap:=oU n s.heap }
theorem Ye{objs:Array Obj}{n b:Nat}:(objs.extract 0 n)[b]?=if b<n then objs[b]? else none:=by
 rw[Array.getElem?_extract];by_cases e:b<n
 .rw[if_pos e]
  by_cases e2:b<objs.size
  .rw[if_pos (by omega)]
   simp
  .rw[if_neg (by omega),Array.getElem?_eq_none (by omega)]
 .rw[if_neg e,if_neg (by omega)]
theorem NR{n:Nat}{h:Heap}{b:Addr}:(oU n h).get? b=if b<n then h.get? b else none:=by
 unfold Heap.get?;show(match(h.objs.extract 0 n)[b]? with|some ⟨_,_,.freed,_⟩=>none|o=>o)=_;rw[Ye];by_cases e:b<n
 .rw[if_pos e,if_pos e]
  rfl
 .rw[if_neg e,if_neg e]
theorem G1{n:Nat}{h:Heap}(hn:n<=h.objs.size):(oU n h).objs.size=n:=by
 show(h.objs.extract 0 n).size=n;rw[Array.size_extract];omega
theorem G2{n:Nat}{h:Heap}{b:Addr}{o:Obj}(e:(oU n h).get? b=some o):b<n/\h.get? b=some o:=by
 rw[NR]at e;split at e
 .rename_i hb
  exact⟨hb,e⟩
 .cases e
theorem uL{n:Nat}{h:Heap}{b:Addr}{o:Obj}(hb:b<n)(e:h.get? b=some o):(oU n h).get? b=some o:=by
 rw[NR,if_pos hb,e]
def mz(P:Program)(w:World)(K:PySem.W.Frag)(mg:Str->Option Value)(base:Heap)(N:List Str)(qual:Str)(scope:Scope)(f:Addr)(cd:Value)(A:Around)(outer:List Env)(n:Addr)(s:Shared)(H:Hp)(pn:List (Addr×Obj))(xe:Value->Shared->Prop):Cx where
 prog:=P
 w:=w
 K:=K
 mg:=mg
 base:=base
 A:=A.deeper (envOfC qual scope n f cd)
 N:=N
 s_0:=Yd n s
 H_0:=H
 env:=envOfC qual scope n f cd
 outer:=outer
 stack:=envOfC qual scope n f cd::outer
 ex:=[]
 calm:=true
 fn:=λ_=>true
 pn:=pn
 xe:=xe
section
variable{base:Heap}{n:Addr}{s:Shared}
theorem NS:∀{l:List Env},s.heap.FunFrames base l->(∀b∈frs l,b<n)->(oU n s.heap).FunFrames base l
 |[],_,_=>trivial
 |env::l,h,hb=>by
  obtain⟨h1,⟨L,o,hf,hn,aS,hd⟩,h2⟩:=h;have hm:L∈frs (env::l):=by simp[frs,hf]
  refine⟨h1,⟨L,o,hf,hn,uL (hb L hm) aS,hd⟩,NS h2 λb G3=>hb b ?_⟩;simp only[frs,i5]at G3 ⊢;cases env.frame with
  |none=>exact G3
  |some x=>exact qM _ G3
end
open Classical in
def nu(n:Addr)(own fs:List Addr)(H:Hp)(h:Heap):List (Addr×Obj):=(List.range h.objs.size).filterMap λb=>match h.get? b with
 |some o=>if n<b/\b∉own/\H b=none/\b∉fs/\(∀v,o.data≠.cell v)then some (b,o)else none
 |none=>none
theorem G4{n:Addr}{own fs:List Addr}{H:Hp}{h:Heap}{p:Addr×Obj}:p∈nu n own fs H h↔h.get? p.1=some p.2/\n<p.1/\p.1∉own/\H p.1=none/\p.1∉fs/\∀v,p.2.data≠.cell v:=by
 unfold nu;rw[List.mem_filterMap];constructor
 .rintro⟨b,hb,e⟩
  split at e
  .rename_i o aS
   split at e
   .rename_i q
    cases e;exact⟨aS,q⟩
   .cases e
  .cases e
 .rintro⟨h1,h2⟩
  refine⟨p.1,List.mem_range.mpr (Heap.lt_size h1),?_⟩;rw[h1];dsimp only;rw[if_pos h2]
open Classical in
def BK(n:Addr)(own:List Addr)(H:Hp)(h:Heap):List Addr:=n::own++(List.range h.objs.size).filter λb=>decide (n<=b/\H b=none/\∃o v,h.get? b=some o/\o.data=.cell v)
open Classical in
theorem xT{n b:Addr}{own:List Addr}{H:Hp}{h:Heap}:b∈BK n own H h↔b=n\/b∈own\/(n<=b/\H b=none/\∃o v,h.get? b=some o/\o.data=.cell v):=by
 unfold BK;rw[List.cons_append,List.mem_cons,List.mem_append,List.mem_filter];refine or_congr Iff.rfl (or_congr Iff.rfl ?_);rw[decide_eq_true_iff];exact⟨λh=>h.2,λh=>⟨List.mem_range.mpr (by obtain⟨_,_,o,v,e,_⟩:=h;exact Heap.lt_size e),h⟩⟩
structure oV(X:Cx)(pins:List (Addr×Obj))(n:Addr)(own:List Addr)(H:Hp):Prop where
 s0:∀b,n<=b->H b=none->b∈X.ex\/X.s_0.heap.objs.size<=b
 hn:H n=none
 NT:∀b∈own,H b=none
 loc:X.env.locals≠n/\X.env.locals∉own
 km:∀x c,X.env.cells.lookup x=some c->c<n
 fs:∀b∈frs X.stack,b<n
 pin:∀p∈X.pn++pins,p.1≠n/\p.1∉own
 own:∀b∈own,n<b
section
variable{X:Cx}{A:Around}{N:List Str}{qual:Str}{scope:Scope}{f:Addr}{cd:Value}{n:Addr}{own:List Addr}{s s1:Shared}{H H1:Hp}{pins:List (Addr×Obj)}{xe:Value->Shared->Prop}{σ e4:L2.St}
theorem NU(I:Inv X pins σ H s)(y:oV X pins n own H){ny:List (Addr×Obj)}(eV:Inv (mz X.prog X.w X.K X.mg X.base N qual scope f cd A X.stack n s H (nu n own (frs X.stack) H s.heap) xe) ny e4 H1 s1)(hk:∀b u,H b=some u->H1 b≠none):Inv X pins σ H1 s1:=by
 have BL:∀b:Addr,b∉(mz X.prog X.w X.K X.mg X.base N qual scope f cd A X.stack n s H (nu n own (frs X.stack) H s.heap) xe).ex:=λb h=>absurd (show b∈([]:List Addr)from h) (by simp);have above:∀b o,s.heap.get? b=some o->H b=none->b∉frs X.stack->b∉BK n own H s.heap->¬b<n->s1.heap.get? b=some o/\H1 b=none:=λb o e hn hf hc hb=>by
  have h1:¬b=n/\b∉own/\¬(n<=b/\H b=none/\∃o v,s.heap.get? b=some o/\o.data=.cell v):=by
   rw[xT]at hc;exact⟨λz=>hc (.inl z),λz=>hc (.inr (.inl z)),λz=>hc (.inr (.inr z))⟩
  have hm:(b,o)∈nu n own (frs X.stack) H s.heap:=G4.mpr ⟨e,Nat.lt_of_le_of_ne (Nat.le_of_not_lt hb) (λz=>h1.1 z.symm),h1.2.1,hn,hf,λv bB=>h1.2.2 ⟨Nat.le_of_not_lt hb,hn,o,v,e,bB⟩⟩;obtain⟨bq,bK,_⟩:=eV.pin (b,o) (zg _ hm);exact⟨bq,bK⟩
 refine I.call' (ch:=BK n own H s.heap) (eV.os.trans rfl) ⟨λb o e hn hf hc=>?_,λb o e hn hf hc=>?_,λb o e hn hc=>?_,λb o e hc=>?_,eV.base.tups,eV.base.frzs,eV.base.tbls⟩ eV.hok eV.bare λb hb=>?_
 .by_cases q:b<n
  .exact eV.base.keep b o (uL q e) hn hf (BL b)
  .exact(above b o e hn hf hc q).1
 .exact eV.base.slot b o (uL (y.fs b hf) e) hn hf (BL b)
 .by_cases q:b<n
  .exact eV.base.free b o (uL q e) hn (BL b)
  .exact(above b o e hn (λz=>q (y.fs b z)) hc q).2
 .by_cases q:b<n
  .exact eV.base.there b o (uL q e) (BL b)
  .cases hh:H b with
   |none=>exact⟨o,(above b o e hh (λz=>q (y.fs b z)) hc q).1⟩
   |some u =>
    cases bK:s1.heap.get? b with
    |some eE=>exact⟨eE,rfl⟩
    |none=>exact absurd (eV.hok.gone bK) (hk b u hh)
 .have NV:n<=b:=by
   rcases xT.mp hb with h|h|h
   .exact Nat.le_of_eq h.symm
   .exact j2 (y.own b h)
   .exact h.1
  have Yf:H b=none:=by
   rcases xT.mp hb with h|h|h
   .rw[h];exact y.hn
   .exact y.NT b h
   .exact h.2.1
  refine⟨y.s0 b NV Yf,λz=>?_,λx c hx z=>?_,λp hp z=>?_⟩
  .rcases xT.mp hb with h|h|h
   .exact y.loc.1 (z.symm.trans h)
   .exact y.loc.2 (z▸h)
   .obtain⟨_,_,o,v,e,bB⟩:=h
    obtain⟨m,⟨eE,es,dF,mA,jE,_⟩,_⟩:=I.loc;rw[<-z,e]at mA;cases mA;rw[bB]at jE;cases jE
  .exact absurd (jA (z▸y.km x c hx) NV) (jz _)
  .obtain⟨p1,p2⟩:=y.pin p hp
   rcases xT.mp hb with h|h|h
   .exact p1 (z.trans h)
   .exact p2 (z▸h)
   .obtain⟨_,_,o,v,e,bB⟩:=h
    obtain⟨bq,_,_,_,Yg⟩:=I.pin p hp;rw[z,e]at bq;cases bq;exact Yg v bB
theorem Yh(hn:H n=none):∀p∈nu n own (frs X.stack) H s.heap,s.heap.get? p.1=some p.2/\H p.1=none/\p.1≠n/\p.1∉frs X.stack/\∀v,p.2.data≠.cell v:=λp hp=>by
 obtain⟨h1,h2,aH,bQ,cn,k7⟩:=G4.mp hp;exact⟨h1,bQ,nM h2,cn,k7⟩
end
def k_(X:Cx)(W:WX)(u:Value)(s':Shared):Prop :=
 ∃(a:Addr) (B:Heap) (dM:Shared) (pins:List (Addr×Obj)) (σ:L2.St) (H:Hp) (cls:Value) (d:Option Addr),
  u=.ref a/\Inv X pins σ H dM/\(∀b o,dM.heap.get? b=some o->b∉frs X.stack->B.get? b=some o)/\dM.heap.UpToSlots s'.heap /\
   HandSPX.FlyingZ B X.outer a (Z.ja B H cls d) s'.heap/\H a=none/\s'.os=dM.os/\AllBare s'.gens/\W cls d σ H
section
variable{X:Cx}{W:WX}{s':Shared}
theorem Yi{h1 h2 aH:Heap}(a:h1.UpToSlots h2)(b:h2.UpToSlots aH):h1.UpToSlots aH:=λx o e hd=>by
 obtain⟨sl,ao⟩:=a x o e hd;obtain⟨aT,e2⟩:=b x _ ao hd;exact⟨aT,e2⟩
theorem Yj(hs:X.stack=X.env::X.outer)(hf:X.env.frame=some X.env.locals){E₁:Value->Shared->Prop}{u:Value}(x:Z.XE X W u s') :
  wpAny (model X.prog X.w) X.A (leaving X.env u) (λ_ hG=>k_ X W u hG) E₁ s':=by
 obtain⟨a,B,dM,pins,σ,H,cls,d,rfl,I,nb,up,q5,na,os,ia,w⟩:=x;have fV:X.A.frames=some (X.env::X.outer):=by rw[I.ok.frames,hs]
 have fin:∀h',HandSPX.FlyingZ B X.outer a (Z.ja B H cls d) h'->s'.heap.UpToSlots h'->k_ X W (.ref a) { s' with heap:=h' }:=λh' fl Ei =>
  ⟨a,B,dM,pins,σ,H,cls,d,rfl,I,nb,Yi up Ei,fl,na,os,ia,w⟩
 rw[hs]at q5;rcases q5 with⟨dr,hn,hl,jC,vs,he,hz,hd,h1⟩|fl|hd
 .exact PXN.leaving_firstZ Z.ja.steady fV hl hf he dr hn hd h1 hz fin
 .exact PXN.leaves_onZ Z.ja.steady fV hf fl fin
 .exact HandSPX.leaves_heldZ hf hd fin
end
section
variable{X:Cx}{A:Around}{N:List Str}{qual:Str}{scope:Scope}{f:Addr}{cd:Value}{n:Addr}{own:List Addr}{s s':Shared}{H:Hp}{pins:List (Addr×Obj)}{xe:Value->Shared->Prop}{σ:L2.St}{W k':WX}{u:Value}
def gone(n:Addr)(h:Heap):Heap:=h.update n λo=>{ o with data:=.freed }
theorem G5{h:Heap}{b:Addr}(hb:b≠n):(gone n h).get? b=h.get? b:=Heap.get?_update_other _ _ (iA hb)
theorem NW{h:Heap}:(gone n h).get? n=none:=by
 unfold gone Heap.get? Heap.update;dsimp only;rw[Array.getElem?_modify,if_pos rfl];cases h.objs[n]?<;>rfl
theorem Yk(I:Inv X pins σ H s)(y:oV X pins n own H)(x:k_ (mz X.prog X.w X.K X.mg X.base N qual scope f cd A X.stack n s H (nu n own (frs X.stack) H s.heap) xe) W u s')
  (jb:∀cls d e4 gB,W cls d e4 gB->(∀b u,H b=some u->gB b≠none)/\k' cls d σ gB):Z.XE X k' u s':=by
 obtain⟨a,B,dM,ny,e4,gB,cls,d,rfl,eV,nb,up,fl,na,os,ia,w⟩:=x;obtain⟨hk,Yl⟩:=jb _ _ _ _ w;have Ym:Inv X pins σ gB dM:=NU I y eV hk;have hn:gB n=none:=eV.free;have Yn:Inv X pins σ gB { dM with heap:=gone n dM.heap,toks:=dM.toks }:=Ym.turned (it:=n) (λb o hb e=>(G5 hb).trans e) hn (iA y.loc.1) (y.s0 n (dE _) y.hn) (λx c h=>fO (y.km x c h)) λp hp=>(y.pin p hp).1;refine⟨a,B,_,pins,σ,gB,cls,d,rfl,Yn,λb o e hb=>?_,λb o e hd=>?_,.inr (.inl fl),na,os,ia,Yl⟩
 .have uM:b≠n:=λz=>by
   subst z;have e:(gone b dM.heap).get? b=some o:=e;rw[NW]at e;cases e
  refine nb b o ((G5 uM).symm.trans e) λhm=>?_;have hm:b∈frs (envOfC qual scope n f cd::X.stack):=hm;have hm:b∈n::frs X.stack:=hm;rcases iB.mp hm with z|z
  .exact uM z
  .exact hb z
 .have uM:b≠n:=λz=>by
   subst z;have e:(gone b dM.heap).get? b=some o:=e;rw[NW]at e;cases e
  exact up b o ((G5 uM).symm.trans e) hd
end
inductive kn where
 |done
 |ex (e:Z.D)
def G6(X:Cx):Prop:=∀(e:Value) (G:GM) (s1:Shared),aJ G s1->(∀i x,G i=some x->x.bare=true)->X.xe e s1->X.xe e (rest G s1)
theorem NX{s:Shared}(h:AllBare s.gens):∀i x,hV s i=some x->x.bare=true:=λi x e=>by
 unfold hV at e;split at e
 .rename_i y aW
  split at e
  .cases e
   exact h _ (vF aW)
  .cases e
 .cases e
theorem hY{X:Cx}{pins:List (Addr×Obj)}{σ:L2.St}{H:Hp}{s s':Shared}(I:Inv X pins σ H s)(h:s'.heap=s.heap)(aS:s'.os=s.os)(hb:AllBare s'.gens):Inv X pins σ H s':=by
 obtain⟨h0,g,d,t,o⟩:=s';obtain rfl:h0=s.heap:=h;obtain rfl:o=s.os:=aS;exact⟨I.ok,I.os,hb,I.base,I.loc,I.cell,I.free,I.freeC,I.pin,I.hok,I.len⟩
def NY(fp:List Addr)(s s':Shared):Prop:=(∀b∈fp,∀o,s.heap.get? b=some o->s'.heap.get? b=some o)/\∀(j:Nat) (x:GenState),s.gens[j]?=some x->jo x=true->s'.gens[j]?=some x
def ho(fp:List Addr)(h:Heap):List (Addr×Obj):=fp.filterMap λb=>(h.get? b).map λo=>(b,o)
theorem uN{fp:List Addr}{h:Heap}{p:Addr×Obj}:p∈ho fp h↔p.1∈fp/\h.get? p.1=some p.2:=by
 unfold ho;rw[List.mem_filterMap];constructor
 .rintro⟨b,hb,e⟩
  cases q:h.get? b with
  |none=>rw[q]at e;cases e
  |some o=>rw[q]at e;cases e;exact⟨hb,q⟩
 .rintro⟨hb,e⟩
  exact⟨p.1,hb,by rw[e];rfl⟩
abbrev NZ:=Nat->List Addr->List Addr->Hp->Shared->Prop
abbrev ahA:=Z.aJ->Z.Store->Z.Out (List Z.D×kn×(Z.Store->Prop))
open PySem PySem.Spec GenW PyProof.Rows L2
theorem Yo{G:GM}{s:Shared}(h:AllBare s.gens)(a8:∀i x,G i=some x->x.bare=true):AllBare (rest G s).gens:=λy aW=>by
 obtain⟨i,hi,e⟩:=Array.mem_iff_getElem.mp aW;have q:(rest G s).gens[i]?=some y:=by rw[Dl hi,e]
 rw[nq]at q;cases bq:s.gens[i]? with
 |none=>rw[bq]at q;cases q
 |some z =>
  rw[bq]at q;have q:(G i).getD z=y:=eY q;cases bK:G i with
  |none=>rw[bK]at q;exact q▸h z (vF bq)
  |some u=>rw[bK]at q;exact q▸a8 i u bK
theorem N0{P:Program}{w:World}{outer:List Env}{H:Hp}{s:Shared}{E:XK}{e:Value}{G:GM}{s1:Shared}(a8:∀i x,G i=some x->x.bare=true)(h:Z.CX P w outer H s E e s1):Z.CX P w outer H s E e (rest G s1):=by
 obtain⟨a,B,H',cls,d,ao,fl,hok,ub,na,os,ia,w⟩:=h;exact⟨a,B,H',cls,d,ao,fl,hok,ub,na,os,Yo ia a8,w⟩
theorem Yp{X:Cx}{E:XK}(hx:X.xe=λe s'=>wpAny (model X.prog X.w) X.A (leaving X.env e) (λ_ hG=>Z.CX X.prog X.w X.outer X.H_0 X.s_0 E e hG) (λcE hG=>Z.CX X.prog X.w X.outer X.H_0 X.s_0 E cE hG) s'):G6 X:=λe G s1 hl a8 h=>by
 rw[hx]at h ⊢;intro da p hW;refine Sem.wp_mono _ _ _ ?_ ?_ p _ (NK _ _ G _ _ _ p s1 hl (h da p hW))
 .rintro a cw s2 ⟨s3,rfl,_,q⟩
  exact N0 a8 q
 .rintro a cw s2 ⟨s3,rfl,_,q⟩
  exact N0 a8 q
theorem G7{P:Program}{w:World}{K:PySem.W.Frag}{mg:Str->Option Value}{base:Heap}{N:List Str}{qual:Str}{scope:Scope}{f:Addr}{cd:Value}{A:Around}{outer:List Env}{s:Shared}{H:Hp}{E:XK}:G6 (cxOf (Z.CX P w) P w K mg base N qual scope f cd A outer s H E):=Yp (E:=E) rfl
section
variable(X:Cx)(N:List Str)(qual:Str)(scope:Scope)(f:Addr)(cd:Value)(n:Addr)(own:List Addr)(s:Shared)(H:Hp)(W:WX)
def la:Cx:=mz X.prog X.w X.K X.mg X.base N qual scope f cd X.A.in1 X.stack n s H (nu n own (frs X.stack) H s.heap) (λ_ _=>True)
def d1:Cx:=mz X.prog X.w X.K X.mg X.base N qual scope f cd X.A.in1 X.stack n s H (nu n own (frs X.stack) H s.heap)
 (λe s'=>wpAny (model X.prog X.w) (X.A.in1.deeper (envOfC qual scope n f cd)) (leaving (envOfC qual scope n f cd) e) (λ_ hG=>k_ (la X N qual scope f cd n own s H) W e hG) (λ_ _=>False) s')
end
section
variable{X:Cx}{N:List Str}{qual:Str}{scope:Scope}{f:Addr}{cd:Value}{n:Addr}{own:List Addr}{s s1:Shared}{H H1:Hp}{W:WX}{pins:List (Addr×Obj)}{σ:L2.St}
theorem BM:Inv (d1 X N qual scope f cd n own s H W) pins σ H1 s1↔Inv (la X N qual scope f cd n own s H) pins σ H1 s1:=by
 have e:d1 X N qual scope f cd n own s H W=(la X N qual scope f cd n own s H).wish (d1 X N qual scope f cd n own s H W).xe:=rfl;rw[e];exact⟨λI=>I.unwish,λI=>I.wish _⟩
theorem Yq:Z.Takes (d1 X N qual scope f cd n own s H W) W:=λu s' x=>by
 refine wpAny_mono (Yj (X:=d1 X N qual scope f cd n own s H W) (E₁:=λ_ _=>False) rfl rfl x) (λ_ hG q=>?_) λ_ _ z=>z;obtain⟨a,B,dM,pins,σ,gB,cls,d,e,I,r⟩:=q;exact⟨a,B,dM,pins,σ,gB,cls,d,e,BM.mp I,r⟩
theorem N1:PassesOwn (model (d1 X N qual scope f cd n own s H W).prog (d1 X N qual scope f cd n own s H W).w) (d1 X N qual scope f cd n own s H W).A (d1 X N qual scope f cd n own s H W).env (d1 X N qual scope f cd n own s H W).xe :=
 passes_of (X:=d1 X N qual scope f cd n own s H W) (K:=λe hG=>k_ (la X N qual scope f cd n own s H) W e hG) (E₁:=λ_ _=>False) rfl
theorem N2{e4:L2.St}{ny:List (Addr×Obj)}(I:Inv X pins σ H s)(y:oV X pins n own H)(eV:Inv (d1 X N qual scope f cd n own s H W) ny e4 H1 s1)(hk:∀b u,H b=some u->H1 b≠none):Inv X pins σ H1 s1:=NU I y (BM.mp eV) hk
theorem BO{K:PySem.W.Frag}{mg:Str->Option Value}{ae ag:List Addr}{ah:Z.Store}(x:Z.Ext ae H ag H1)(bT:Z.aD K mg ag H1 ah):∀b u,H b=some u->H1 b≠none:=λb u e=>by
 by_cases hb:b∈ae
 .obtain⟨t,ht⟩:=x.pre
  exact bT.tr b (by rw[ht];exact zg _ hb)
 .rcases x.keep b u hb e with z|⟨_,od,z⟩
  .rw[z];simp
  .rw[z];simp
end
structure r7 where
 pre:List Stmt
 tg:Expr
 iter:Expr
 As:List Stmt
 uO:Expr
 uP:Pos
 pos:Pos
 r9:List Stmt
 Yr:Pos
def r7.G8(h:r7):Stmt:=.Expr (.Yield (some h.uO) h.uP) h.pos
def r7.loop(h:r7):List Stmt:=h.As++h.G8::h.r9
def r7.body(h:r7):List Stmt:=h.pre++[.For h.tg h.iter h.loop [] h.Yr]
abbrev tj:Flow->Sem PySem.Fin:=λfl=>.pure (.done (.ret (match fl with|.ret v=>v|_=>.none)))
abbrev BP(env:Env):Value->Sem PySem.Fin:=λe=>(leaving env e).wrap (λ_=>.raise e) .raise id id
abbrev N3(env:Env):Flow->Sem PySem.Fin:=λfl=>match fl with|.next=>(execs [] env).wrap tj (BP env) id id|fl=>tj fl
abbrev N4(env:Env):Result->Sem PySem.Fin:=λr=>((match r with|.ok fl=>(.pure fl:Sem Flow)|.error e=>.raise e).onRaise (L2.cameBack env)).wrap (N3 env) (BP env) id id
abbrev i7(env:Env)(body:List Stmt)(p:Pos):List Frame:=[.ret (N4 env) none (id false) (id []) (.func body env) p []]
section
variable{s:Shared}{F:kl}
theorem N5{M:Model}{A:Around}{c:Code}{fs:List Frame}{env:Env}{K:Flow->Sem PySem.Fin}{J:Value->Sem PySem.Fin}{gd:Bool->Bool}{lv:List Value->List Value}{rest:List Stmt}:∀(As:List Stmt) {s:Shared},
  b2 M A c ((execs As env).wrap (λfl=>match fl with|.next=>(execs rest env).wrap K J gd lv|fl=>K fl) J gd lv) fs s F->b2 M A c ((execs (As++rest) env).wrap K J gd lv) fs s F:=by
 have e:∀As:List Stmt,(execs As env).wrap (λfl=>match fl with|.next=>(execs rest env).wrap K J gd lv|fl=>K fl) J gd lv=(execs (As++rest) env).wrap K J gd lv:=λAs=>by
  induction As with
  |nil=>rfl
  |cons a As ih =>
   rw[List.cons_append,execs_cons_wrap,execs_cons_wrap];refine Sem.wrap_congr _ _ _ (λfl=>?_) λ_=>rfl;cases fl with
   |next=>exact ih
   |_=>rfl
 intro As s h;rw[<-e];exact h
end
structure Old(X:Cx)(H0:Hp)(n a:Addr):Prop where
 s0:∀b,n<=b->H0 b=none->b∈X.ex\/X.s_0.heap.objs.size<=b
 loc:X.env.locals≠n/\X.env.locals≠a
 km:∀x c,X.env.cells.lookup x=some c->c<n
 fs:∀b∈frs X.stack,b<n
 uQ:∀b∈X.fs,b<n
 bs:X.base.objs.size<=n
 na:n<a
structure xU where
 N:List Str
 qual:Str
 scope:Scope
 f:Addr
 cd:Value
 n:Addr
 a:Addr
 g:Nat
 sh:r7
abbrev xU.ev(q:xU):Env:=envOfC q.qual q.scope q.n q.f q.cd
structure uR where
 xs:List Z.D
 ds:List Z.D
 fin:kn
 slA:Nat->Z.aJ
 ahB:Nat->Z.aJ
 slY:Nat->Z.aJ
 sl0:Z.aJ
 bP:Z.Store->Prop
 G:Z.Store->Prop
section
variable{X:Cx}{q:xU}{ρ0:List Addr}{H0:Hp}{ae:List Addr}{H:Hp}{pins:List (Addr×Obj)}{S:Z.Store}
theorem Ys(o:Old X H0 q.n q.a)(hx:Z.Ext ρ0 H0 ae H)(w:Z.aD X.K X.mg ae H S)(hn:H q.n=none){own:List Addr}(hp:∀p∈X.pn++pins,p.1∉q.a::q.n::own)(aS:∀b∈own,q.n<b/\H b=none/\b≠X.env.locals):oV X pins q.n own H where
 s0:=λb hb uM=>by
  refine o.s0 b hb ?_;cases z:H0 b with
  |none=>rfl
  |some u=>exact absurd uM (BO hx w b u z)
 hn:=hn
 NT:=λb hb=>(aS b hb).2.1
 loc:=⟨o.loc.1,λz=>(aS _ z).2.2 rfl⟩
 km:=o.km
 fs:=o.fs
 pin:=λp hm=>by
  have:=hp p hm;simp only[List.mem_cons,not_or]at this;exact⟨this.2.1,this.2.2⟩
 own:=λb hb=>(aS b hb).1
end
section
variable{X:Cx}{q:xU}{H0:Hp}{H:Hp}{s:Shared}
theorem N6{own:List Addr}(o:Old X H0 q.n q.a)(gU:s.heap.IsGen q.a q.g)(ha:H q.a=none)(Yt:q.a∉own):∃ob nm gy,(q.a,ob)∈nu q.n own (frs X.stack) H s.heap/\ob.cls=.type "generator"/\ob.data=.fields #[.int q.g 0,nm,gy]/\ob.slots = #[]:=by
 obtain⟨ob,nm,gy,aS,hc,hd,hs⟩:=gU;refine⟨ob,nm,gy,G4.mpr ⟨aS,o.na,Yt,ha,λz=>absurd (lD o.na (o.fs _ z)) (jz _),λv z=>?_⟩,hc,hd,hs⟩;have z:ob.data=.cell v:=z;rw[hd]at z;cases z
end
section
variable{X:Cx}{H:Hp}{s:Shared}{pins:List (Addr×Obj)}{σ:L2.St}{W:WX}
theorem Yu{X:Cx}{W:WX}{e:Value}{s s':Shared}(x:Z.XE X W e s)(h:s'.heap=s.heap)(aS:s'.os=s.os)(hb:AllBare s'.gens):Z.XE X W e s':=by
 obtain⟨a,B,dM,pins,σ,H,cls,d,ao,I,nb,up,q5,na,os,ia,w⟩:=x;exact⟨a,B,dM,pins,σ,H,cls,d,ao,I,nb,by rw[h];exact up,by rw[h];exact q5,na,aS.trans os,hb,w⟩
end
structure uS(X:Cx)(n a:Addr):Prop where
 s0:X.s_0.heap.objs.size<=n
 loc:X.env.locals<n
 km:∀x c,X.env.cells.lookup x=some c->c<n
 fs:∀b∈frs X.stack,b<n
 uQ:∀b∈X.fs,b<n
 bs:X.base.objs.size<=n
 na:n<a
theorem uS.old{X:Cx}{n a:Addr}(o:uS X n a){H0:Hp}:Old X H0 n a:=⟨λb hb _=>.inr (vE o.s0 hb),⟨fO o.loc,fO (lD o.loc o.na)⟩,o.km,o.fs,o.uQ,o.bs,o.na⟩
section
variable{X:Cx}{pins:List (Addr×Obj)}{σ:L2.St}{H:Hp}{s:Shared}
theorem Yv(I:Inv X pins σ H s){a:Addr}(ha:s.heap.objs.size<a):uS X s.heap.objs.size a where
 s0:=I.sz
 loc:=I.lt
 km:=λx c h=>by
  obtain⟨v,ob,aS,_⟩:=I.cell x c h;exact Heap.lt_size aS
 fs:=λb hb=>by
  rcases iB.mp (I.stkSub b hb)with z|z
  .rw[z];exact I.lt
  .exact Nat.lt_of_not_le λh=>I.nofs h z
 uQ:=λb hb=>Nat.lt_of_not_le λh=>I.nofs h hb
 bs:=vE I.ok.bsz I.sz
 na:=ha
end
open PySem PySem.Spec GenW PyProof.Rows L2
open Classical in
def qn(n:Addr)(H:Hp)(s:Shared):List Addr:=(List.range s.heap.objs.size).filter λb=>decide (n<=b/\H b=none)
open Classical in
theorem N7{n b:Addr}{H:Hp}{s:Shared}:b∈qn n H s↔b<s.heap.objs.size/\n<=b/\H b=none:=by
 unfold qn;rw[List.mem_filter,List.mem_range,decide_eq_true_iff]
section
theorem N8:∀(l:List (Str×NameKind)) (a:Addr) (acc:List (Str×Addr)),(l.all λy=>y.2 != .cell)=true->cellsFrom a l acc=acc
 |[],_,_,_=>rfl
 |(nm,c6)::l,a,acc,h=>by
  simp only[List.all_cons,Bool.and_eq_true]at h;rw[cellsFrom,if_neg]
  .exact N8 l a acc h.2
  .intro z
   have h1:=h.1;simp at h1 z;exact h1 z
theorem rA{Y:Cx}:Z.Takes Y Z.WF:=λu s' x=>by
 obtain⟨_,_,_,_,_,_,_,_,_,_,_,_,_,_,_,_,z⟩:=x;exact z.elim
end
abbrev nz(S:Z.Store):Prop:=∀m∈S,Z.hH S.length m=true
theorem Room.BQ{k:Nat}{A:Around}(r:Room k A):A.depth<recursionLimit:=by have:=r.dp;omega
end ZG
namespace GQ
open PySem PySem.SeqAt
open AutoSeq1 (wpAny_loadPart')
open MeetsSeq MeetsSeq2 MeetsSeq3 SeqRoads2
def r'(pr:Program)(w:World)(A:Around)(E:Value->Shared->Prop)(l b:Addr)(N:Nat)(I:Nat->Shared->Prop)(Z:Shared->Prop):Prop :=
 ∀i s,I i s->∃(xs ys:Array Value) (n n2:Nat),s.heap.get? l=some { cls:=.type "list",dict:=none,data:=.seq xs n }/\s.heap.get? b=some { cls:=.type "list",dict:=none,data:=.seq ys n2 }/\xs.size=N/\ys.size=N /\
  ∀(h1:i<xs.size) (h2:i<ys.size),wpAny (model pr w) A.in1 (eqBool xs[i] ys[i]) (λr s'=>(r=true/\I (i+1) s')\/(r=false/\Z s')) E s
def sd(l b:Addr)(N:Nat)(Z:Shared->Prop):Prop :=
 ∀s,Z s->∃(xs ys:Array Value) (n n2:Nat),s.heap.get? l=some { cls:=.type "list",dict:=none,data:=.seq xs n }/\s.heap.get? b=some { cls:=.type "list",dict:=none,data:=.seq ys n2 }/\xs.size=N/\ys.size=N
section
variable{prog:Program}{w:World}{A:Around}{R:Result->Shared->Prop}
theorem Yw(l b:Addr)(N:Nat)(I:Nat->Shared->Prop)(Z:Shared->Prop)(hl:r' prog w A (λe s'=>R (.error e) s') l b N I Z)(hz:sd l b N Z)
  (fin:∀s,I N s->R (.ok (.ret (.bool true))) s) (js:∀s,Z s->R (.ok (.ret (.bool false))) s) (k:Nat) :
  ∀i:Nat,N - i=k->i<=N->∀s,I i s ->
   wpAny (model prog w) A.in1 (Builtin.«list.__eq__.loop» ⟨[.ref l,.ref b,rawInt i,rawInt 2],[]⟩) (FinOf prog w A R) (λe s'=>R (.error e) s') s:=by
 induction k with
 |zero =>
  intro i hk hi s h;obtain⟨xs,ys,n,n2,c4,dH,mn,mq,_⟩:=hl _ _ h;have oS:i=N:=by omega
  have ez:R (.ok (.ret (.bool true))) s:=fin s (oS▸h);obtain⟨hp,g,d,tk,os⟩:=s
  wp_walk using wpAny_loadPart' c4,wpAny_loadPart' dH
  have mr:xs[((i:Nat):Int).toNat]?=none:=by simp;omega
  have mw:ys[((i:Nat):Int).toNat]?=none:=by simp;omega
  rw[mr,mw]
  wp_walk using wpAny_loadPart' c4,wpAny_loadPart' dH
  show R (.ok (.ret (.bool (xs.size==ys.size)))) _;grind
 |succ k ih =>
  intro i hk hi s h;obtain⟨xs,ys,n,n2,c4,dH,mn,mq,turn⟩:=hl _ _ h;have cC:i<xs.size:=by omega
  have qh:i<ys.size:=by omega
  have ht:=turn cC qh;obtain⟨hp,g,d,tk,os⟩:=s
  wp_walk using wpAny_loadPart' c4,wpAny_loadPart' dH
  have mr:xs[((i:Nat):Int).toNat]?=some xs[i]:=by simp[cC]
  have mw:ys[((i:Nat):Int).toNat]?=some ys[i]:=by simp[qh]
  have hc:((i:Int)+1)=((i+1:Nat):Int):=by omega
  rw[mr,mw];refine wpAny_bind (wpAny_mono ht (λr s2 h2=>?_) λ_ _ x=>x);rcases h2 with⟨hr,h2⟩|⟨hr,h2⟩
  .subst hr
   have fD:=ih (i+1) (by omega) (by omega) s2 h2;obtain⟨BE,g2,t4,jQ,os2⟩:=s2
   wp_walk
   rw[hc];exact⟨plainId_quiet plain_eq_loop _,codeAny_builtin entry_eq_loop (by
    rw[Around.under_plainId plain_eq_loop _];exact fD)⟩
  .subst hr
   obtain⟨g6,se,m,m2,G9,G_,xV,BR⟩:=hz _ h2;have ez:=js _ h2;obtain⟨BE,g2,t4,jQ,os2⟩:=s2;have G':i<g6.size:=by omega
   have Ha:i<se.size:=by omega
   have Hb:g6[((i:Nat):Int).toNat]?=some g6[i]:=by simp[G']
   have Hc:se[((i:Nat):Int).toNat]?=some se[i]:=by simp[Ha]
   wp_walk using wpAny_loadPart' G9,wpAny_loadPart' G_
   rw[Hb,Hc]
   wp_walk
   exact ez
theorem Yx(l b:Addr)(N:Nat)(I:Nat->Shared->Prop)(Z:Shared->Prop)(hl:r' prog w A (λe s'=>R (.error e) s') l b N I Z)(hz:sd l b N Z)
  (fin:∀s,I N s->R (.ok (.ret (.bool true))) s) (js:∀s,Z s->R (.ok (.ret (.bool false))) s) {s:Shared} (h:I 0 s) :
  wpAny (model prog w) A.in1 (Builtin.«list.__eq__» ⟨[.ref l,.ref b],[]⟩) (FinOf prog w A R) (λe s'=>R (.error e) s') s:=by
 obtain⟨xs,ys,n,n2,c4,dH,mn,mq,_⟩:=hl _ _ h;have fD:=Yw (A:=A) (R:=R) l b N I Z hl hz fin js _ 0 rfl (iD _) s h;obtain⟨hp,g,d,tk,os⟩:=s;have f3:=AutoSeq1.sub_list_list;have hE:¬(xs.size != ys.size)=true:=by simp[mn,mq]
 wp_walk using wpAny_loadPart' c4,wpAny_loadPart' dH
 exact⟨plainId_quiet plain_eq_loop _,codeAny_builtin entry_eq_loop (by
  rw[Around.under_plainId plain_eq_loop _];exact fD)⟩
theorem Yy(l b:Addr){xs ys:Array Value}{n n2:Nat}{s:Shared}(c4:s.heap.get? l=some { cls:=.type "list",dict:=none,data:=.seq xs n })(dH:s.heap.get? b=some { cls:=.type "list",dict:=none,data:=.seq ys n2 })(hs:xs.size≠ys.size)
  (fin:R (.ok (.ret (.bool false))) s) :
  wpAny (model prog w) A.in1 (Builtin.«list.__eq__» ⟨[.ref l,.ref b],[]⟩) (FinOf prog w A R) (λe s'=>R (.error e) s') s:=by
 obtain⟨hp,g,d,tk,os⟩:=s;have f3:=AutoSeq1.sub_list_list;have hE:(xs.size != ys.size)=true:=by simp[hs]
 wp_walk using wpAny_loadPart' c4,wpAny_loadPart' dH
 exact fin
theorem Yz(l b:Addr)(xs ys:Array Value)(n n2:Nat)(dd Hf:Option Addr)(sl aT:Array (Option Value))(dj:xs.size=ys.size)(I:Nat->Shared->Prop)(Z:Shared->Prop)
  (turn:∀i (h1:i<xs.size) (h2:i<ys.size) s,I i s->wpAny (model prog w) A.in1 (eqBool xs[i] ys[i]) (λr s'=>(r=true/\I (i+1) s')\/(r=false/\Z s')) (λe s'=>R (.error e) s') s)
  (fin:∀s,I xs.size s->R (.ok (.ret (.bool true))) s) (js:∀s,Z s->R (.ok (.ret (.bool false))) s) {s:Shared} (c4:s.heap.get? l=some { cls:=.type "tuple",dict:=dd,data:=.seq xs n,slots:=sl }) (dH:s.heap.get? b=some { cls:=.type "tuple",dict:=Hf,data:=.seq ys n2,slots:=aT }) (h:I 0 s) :
  wpAny (model prog w) A.in1 (Builtin.«tuple.__eq__» ⟨[.ref l,.ref b],[]⟩) (FinOf prog w A R) (λe s'=>R (.error e) s') s:=by
 have f2:=AutoSeq1.sub_tuple_tuple;have N9:(xs.toList.zip ys.toList).length=xs.size:=by simp[dj]
 have h0:=h;obtain⟨hp,g,d,tk,os⟩:=s
 wp_walk using wpAny_loadPart' c4,wpAny_loadPart' dH,wpAny_forIn_list _ (λrest b s'=>b.1=none/\∃i,rest=(xs.toList.zip ys.toList).drop i/\i<=xs.size/\I i s') _
 case turn =>
  rintro⟨y,x⟩ rest b s' ⟨wI,i,hz,hi,iN⟩;have cC:i<(xs.toList.zip ys.toList).length:=by
   rcases Nat.lt_or_ge i (xs.toList.zip ys.toList).length with h'|h'
   .exact h'
   .rw[List.drop_of_length_le h']at hz;cases hz
  have h1:i<xs.size:=N9▸cC;have h2:i<ys.size:=dj▸h1;rw[vG cC]at hz;injection hz with N_ YB
  have aW:y=xs[i]:=by have:=congrArg Prod.fst N_;simpa using this
  have hx:x=ys[i]:=by have:=congrArg Prod.snd N_;simpa using this
  subst aW hx;refine wpAny_bind (wpAny_mono (turn i h1 h2 s' iN) (λr s2 bK=>?_) λ_ _ x=>x);rcases bK with⟨hr,bK⟩|⟨hr,bK⟩
  .subst hr
   wp_walk
   exact⟨rfl,i+1,YB,h1,bK⟩
  .subst hr
   have ez:=js _ bK
   wp_walk
   exact ez
 case fin =>
  rintro⟨b1,eu⟩ s' ⟨wI,i,hz,hi,iN⟩;simp only at wI;subst wI;have sg:xs.size<=i:=by
   rcases Nat.lt_or_ge i (xs.toList.zip ys.toList).length with h'|h'
   .rw[vG h']at hz;cases hz
   .exact N9▸h'
  have oS:i=xs.size:=by omega
  have ez:R (.ok (.ret (.bool true))) s':=fin s' (oS▸iN)
  wp_walk
  simpa[Builtin.Tuple.tupleCompareSizes,dj]using ez
 case h =>
  exact⟨rfl,0,rfl,iD _,h0⟩
end
section
variable{prog:Program}{w:World}{A:Around}{E:Value->Shared->Prop}{s:Shared}
theorem N'{l b:Addr}{N:Nat}{Q:Value->Shared->Prop}(aI:A.units<cLine)(I:Nat->Shared->Prop)(Z:Shared->Prop)(hl:r' prog w A E l b N I Z)(hz:sd l b N Z)
  (fin:∀s,I N s->Q (.bool true) s) (js:∀s,Z s->Q (.bool false) s) (h:I 0 s):wpAny (model prog w) A (richCompare .Eq (.ref l) (.ref b)) Q E s:=by
 obtain⟨xs,ys,n,n2,c4,dH,_,_,_⟩:=hl _ _ h;refine wpAny_richCompare_same_room (op:=.Eq) ⟨_,c4,rfl⟩ ⟨_,dH,rfl⟩ F.slot_list_eq (call_here F.slot_list_eq ⟨_,c4,rfl⟩ F.entry_list_eq (F.args_list_eq_2 _ _) ?_) aI;exact Yx (R:=wants (λv s'=>v≠.notImplemented/\Q v s') E) l b N I Z hl hz (λs' q=>⟨(λx=>nomatch x),fin s' q⟩) (λs' q=>⟨(λx=>nomatch x),js s' q⟩) h
theorem YC{l b:Addr}{xs ys:Array Value}{n n2:Nat}{Q:Value->Shared->Prop}(aI:A.units<cLine)(c4:s.heap.get? l=some { cls:=.type "list",dict:=none,data:=.seq xs n })(dH:s.heap.get? b=some { cls:=.type "list",dict:=none,data:=.seq ys n2 })(hs:xs.size≠ys.size)
  (fin:Q (.bool false) s):wpAny (model prog w) A (richCompare .Eq (.ref l) (.ref b)) Q E s:=by
 refine wpAny_richCompare_same_room (op:=.Eq) ⟨_,c4,rfl⟩ ⟨_,dH,rfl⟩ F.slot_list_eq (call_here F.slot_list_eq ⟨_,c4,rfl⟩ F.entry_list_eq (F.args_list_eq_2 _ _) ?_) aI;exact Yy (R:=wants (λv s'=>v≠.notImplemented/\Q v s') E) l b c4 dH hs ⟨(λx=>nomatch x),fin⟩
theorem YD{l b:Addr}{xs ys:Array Value}{Q:Value->Shared->Prop}(dj:xs.size=ys.size)(aI:A.units<cLine)(I:Nat->Shared->Prop)(Z:Shared->Prop)
  (hl:s.heap.IsTuple l xs) (hb:s.heap.IsTuple b ys)
  (turn:∀i (h1:i<xs.size) (h2:i<ys.size) s,I i s->wpAny (model prog w) A.in1 (eqBool xs[i] ys[i]) (λr s'=>(r=true/\I (i+1) s')\/(r=false/\Z s')) E s)
  (fin:∀s,I xs.size s->Q (.bool true) s) (js:∀s,Z s->Q (.bool false) s) (h:I 0 s):wpAny (model prog w) A (richCompare .Eq (.ref l) (.ref b)) Q E s:=by
 obtain⟨⟨cls,dd,data,sl⟩,aS,hc,n,hd⟩:=id hl;obtain⟨⟨ahC,Hf,data2,aT⟩,Oa,ka,n2,hd2⟩:=id hb;simp only at hc hd ka hd2;subst hc hd ka hd2;refine wpAny_richCompare_same_room (op:=.Eq) ⟨_,aS,rfl⟩ ⟨_,Oa,rfl⟩ F.slot_tuple_eq (call_here F.slot_tuple_eq ⟨_,aS,rfl⟩ F.entry_tuple_eq (F.args_tuple_eq_2 _ _) ?_) aI;exact Yz (R:=wants (λv s'=>v≠.notImplemented/\Q v s') E) l b xs ys n n2 dd Hf sl aT dj I Z turn (λs' q=>⟨(λx=>nomatch x),fin s' q⟩) (λs' q=>⟨(λx=>nomatch x),js s' q⟩) aS Oa h
end
end GQ
namespace Z
open PySem PySem.Spec L2 PyProof.Rows
def si:D->Option (List D)
 | .tup xs=>some xs
 | .bF xs=>some xs
 |_=>none
def f5(f:D->D->Option Bool):List D->List D->Option Bool
 |x::xs,y::ys=>match f x y with
  |some true=>f5 f xs ys
  |r=>r
 |_,_=>some true
mutual
def BU:D->D->Bool
 | .int i,.int j=>decide (i≠j)
 | .str i,.str j => !(i==j)
 | .lst xs,.lst ys=>oW xs ys
 | .tup xs,.tup ys=>oW xs ys
 | .ins _ _ xs,.ins _ _ ys=>oW xs ys
 |_,_=>false
def oW:List D->List D->Bool
 |[],[]=>false
 |x::xs,y::ys=>BU x y||oW xs ys
 |_,_=>true
end
open Classical in
def ko(oth:List Str)(tab:List (Str×aK))(S:Store)(f:D->D->Option Bool)(d e:D):Option Bool:=match si d,si e with
 |some xs,some ys=>if xs.length=ys.length then f5 f xs ys else none
 |none,none=>(match d,e with
  | .int i,.int j=>some (decide (i=j))
  | .bl i,.bl j=>some (decide (i=j))
  | .str i,.str j=>some (i==j)
  | .non,.non=>some true
  | .lst xs,.lst ys=>if xs.length=ys.length then f5 f xs ys else some false
  | .ins c ns vs,.ins bx jJ dt=>if bx∈oth then(match pW tab c with
   |some g=>(match g [.ins c ns vs,.ins bx jJ dt] S with
    | .ok (.bl b) ah=>if ah=S/\(b=true\/oW vs dt=true)then some b else none
    |_=>none)
   |none=>none)else none
  |_,_=>none)
 |_,_=>none
def mB(oth:List Str)(tab:List (Str×aK))(S:Store):Nat->D->D->Option Bool
 |0=>λ_ _=>none
 |n+1=>ko oth tab S (mB oth tab S n)
section
variable{X:Cx}{W:WX}
def Hg(X:Cx)(i:Nat)(f:Store->D->D->Option Bool):Prop :=
 ∀(pins:List (Addr×Obj)) (s:Shared) (σ:L2.St) (ae:List Addr) (H:Hp) (S:Store) (d e:D) (x y:V) (u v:Value) (b:Bool),Inv X pins σ H s->RelV x u->RelV y v->aD X.K X.mg ae H S->Rep X.K X.mg ae H d x->Rep X.K X.mg ae H e y->f S d e=some b ->
  wpAny (model X.prog X.w) (eU i X.A) (eqBool u v) (λr s'=>r=b/\Gone X pins σ ae H S s') X.xe s
theorem YF{f:D->D->Option Bool}{b:Bool}{xs ys:List D}{j:Nat}(h1:j<xs.length)(h2:j<ys.length)(h:f5 f (xs.drop j) (ys.drop j)=some b):(f xs[j] ys[j]=some true/\f5 f (xs.drop (j+1)) (ys.drop (j+1))=some b)\/(f xs[j] ys[j]=some false/\b=false):=by
 rw[vG h1,vG h2,f5]at h;cases e:f xs[j] ys[j]with
 |none=>rw[e]at h;cases h
 |some r =>
  rw[e]at h;cases r with
  |true=>exact .inl ⟨rfl,h⟩
  |false=>exact .inr ⟨rfl,(eY h).symm⟩
theorem BV{f:D->D->Option Bool}{b:Bool}{xs ys:List D}{N:Nat}(h1:xs.length=N)(h:f5 f (xs.drop N) (ys.drop N)=some b):b=true:=by
 rw[List.drop_of_length_le (by omega),f5]at h
 .exact(eY h).symm
 .simp
theorem Ob{f:Store->D->D->Option Bool}{i:Nat}(h:Hg X (i+1) f){pins:List (Addr×Obj)}{s:Shared}{σ:L2.St}{ae:List Addr}{H:Hp}{S:Store}{xs ys:List D}{vs ws:List V}{its dB:List Value}{b:Bool}
  (I:Inv X pins σ H s) (w:aD X.K X.mg ae H S) (aC:ak X.K X.mg ae H xs vs) (aZ:ak X.K X.mg ae H ys ws) (r:Vals vs its) (aE:Vals ws dB)
  (j:Nat) (h1:j<its.toArray.size) (h2:j<dB.toArray.size) (p:f5 (f S) (xs.drop j) (ys.drop j)=some b) :
  wpAny (model X.prog X.w) (eU i X.A).in1 (eqBool its.toArray[j] dB.toArray[j]) (λr s2=>(r=true/\Gone X pins σ ae H S s2/\f5 (f S) (xs.drop (j+1)) (ys.drop (j+1))=some b)\/(r=false/\Gone X pins σ ae H S s2/\b=false)) X.xe s:=by
 have g1:its[j]?=some its.toArray[j]:=by
  have i9:j<its.length:=by simpa using h1
  rw[hy i9]<;>simp
 have g2:dB[j]?=some dB.toArray[j]:=by
  have nT:j<dB.length:=by simpa using h2
  rw[hy nT]<;>simp
 have dz:j<vs.length:=by rw[r.length];simpa using h1
 have ck:j<ws.length:=by rw[aE.length];simpa using h2
 have l1:j<xs.length:=by rw[aC.len];exact dz
 have l2:j<ys.length:=by rw[aZ.len];exact ck
 obtain⟨u,aI,b6⟩:=r.get (hy dz);obtain⟨v,bB,aO⟩:=aE.get (hy ck);rw[g1]at aI;rw[g2]at bB;rw[eY aI,eY bB];obtain⟨x,hx,BF⟩:=aC.get' (hy dz);obtain⟨y,aW,BG⟩:=aZ.get' (hy ck);have ex:xs[j]=x:=by rw[hy l1]at hx;exact eY hx
 have di:ys[j]=y:=by rw[hy l2]at aW;exact eY aW
 rcases YF l1 l2 p with⟨q,bK⟩|⟨q,bK⟩
 .rw[ex,di]at q
  exact wpAny_mono (h pins s σ ae H S x y _ _ u v true I b6 aO w BF BG q) (λr s2 z=>.inl ⟨z.1,z.2,bK⟩) λ_ _ x=>x
 .rw[ex,di]at q
  exact wpAny_mono (h pins s σ ae H S x y _ _ u v false I b6 aO w BF BG q) (λr s2 z=>.inr ⟨z.1,z.2,bK⟩) λ_ _ x=>x
theorem Oc{f:Store->D->D->Option Bool}{i:Nat}(h:Hg X (i+1) f){pins:List (Addr×Obj)}{σ:L2.St}{ae:List Addr}{H:Hp}{S:Store}{xs ys:List D}{d e:D}{a b:Addr}{r:Bool}
  (rd:Rep X.K X.mg ae H d (.ref a)) (re:Rep X.K X.mg ae H e (.ref b)) (hd:cB S d=some xs) (he:cB S e=some ys) (hl:xs.length=ys.length) :
  GQ.r' X.prog X.w (eU i X.A) X.xe a b xs.length (λj s'=>Gone X pins σ ae H S s'/\f5 (f S) (xs.drop j) (ys.drop j)=some r) (λs'=>Gone X pins σ ae H S s'/\r=false):=by
 intro j s' q;obtain⟨⟨aA,H1,I1,x1,aF⟩,p⟩:=q;obtain⟨hR,vs,ea,ha,aC⟩:=eZ aF (rd.ext x1) hd;obtain⟨b',ws,eb,hb,aZ⟩:=eZ aF (re.ext x1) he;cases ea;cases eb;obtain⟨z,its,k,r1,ao⟩:=I1.hok a _ ha;obtain⟨d9,dB,ck,aE,e2⟩:=I1.hok b _ hb;refine⟨its.toArray,dB.toArray,k,ck,ao,e2,by rw[eC,<-r1.length,aC.len],by rw[eC,<-aE.length,hl,aZ.len],λh1 h2=>?_⟩;exact wpAny_mono (Ob h I1 aF aC aZ r1 aE j h1 h2 p) (λr s2 q=>q.imp (λq=>⟨q.1,q.2.1.trans x1,q.2.2⟩) λq=>⟨q.1,q.2.1.trans x1,q.2.2⟩) λ_ _ x=>x
theorem Od{i:Nat}{pins:List (Addr×Obj)}{σ:L2.St}{ae:List Addr}{H:Hp}{S:Store}{xs ys:List D}{d e:D}{a b:Addr}{r:Bool}
  (rd:Rep X.K X.mg ae H d (.ref a)) (re:Rep X.K X.mg ae H e (.ref b)) (hd:cB S d=some xs) (he:cB S e=some ys) (hl:xs.length=ys.length) :
  GQ.sd a b xs.length (λs'=>Gone X pins σ ae H S s'/\r=false):=by
 intro s' q;obtain⟨⟨aA,H1,I1,x1,aF⟩,p⟩:=q;obtain⟨hR,vs,ea,ha,aC⟩:=eZ aF (rd.ext x1) hd;obtain⟨b',ws,eb,hb,aZ⟩:=eZ aF (re.ext x1) he;cases ea;cases eb;obtain⟨z,its,k,r1,ao⟩:=I1.hok a _ ha;obtain⟨d9,dB,ck,aE,e2⟩:=I1.hok b _ hb;exact⟨its.toArray,dB.toArray,k,ck,ao,e2,by rw[eC,<-r1.length,aC.len],by rw[eC,<-aE.length,hl,aZ.len]⟩
theorem BW{K:PySem.W.Frag}{mg:Str->Option Value}{ae:List Addr}{H:Hp}{d:D}{x:V}{xs:List D}(h:si d=some xs)(r:Rep K mg ae H d x):∃a vs,x=.ref a/\SqT K H a vs/\ak K mg ae H xs vs:=by
 cases d with
 |tup ys =>
  cases h;rw[Rep]at r;obtain⟨a,vs,e,t,cS⟩:=r;exact⟨a,vs,e,t.dc,cS⟩
 |bF ys =>
  cases h;rw[Rep]at r;obtain⟨a,vs,e,t,cS⟩:=r;exact⟨a,vs,e,t.dc,cS⟩
 |_=>cases h
theorem BX{K:PySem.W.Frag}{mg:Str->Option Value}{ae:List Addr}{H:Hp}{d:D}{ds:List D}{v:V}{vs:List V}(h:ak K mg ae H (d::ds) (v::vs)):Rep K mg ae H d v/\ak K mg ae H ds vs:=by
 rw[ak]at h;obtain⟨u,r,e,h1,h2⟩:=h;cases e;exact⟨h1,h2⟩
mutual
theorem YG{K:PySem.W.Frag}{mg:Str->Option Value}{ae:List Addr}{H:Hp}(bH:∀{a:Addr} {vs ws:List V},SqT K H a vs->SqT K H a ws->vs=ws):∀(d e:D) (x:V),BU d e=true->Rep K mg ae H d x->Rep K mg ae H e x->False
 |d,e,x,h,r,aE=>by
  unfold BU at h;split at h
  .rw[Rep]at r aE
   rw[r]at aE;cases aE;simp at h
  .rw[Rep]at r aE
   rw[r]at aE;cases aE;simp at h
  .rw[Rep]at r aE
   obtain⟨a,vs,ao,h1,cS⟩:=r;obtain⟨a2,n6,e2,h2,sj⟩:=aE;rw[ao]at e2;cases e2;obtain⟨_,h1⟩:=h1;obtain⟨_,h2⟩:=h2;rw[h1]at h2;cases h2;exact xW bH _ _ _ h cS sj
  .rw[Rep]at r aE
   obtain⟨a,vs,ao,h1,cS⟩:=r;obtain⟨a2,n6,e2,h2,sj⟩:=aE;rw[ao]at e2;cases e2;rw[bH h2.dc h1.dc]at sj;exact xW bH _ _ _ h cS sj
  .rw[Rep]at r aE
   obtain⟨a,C,bh,fs,ex,_,hm,ea,hn,cS⟩:=r;obtain⟨a2,d6,GB,xP,kW,_,iK,eb,lM,xQ⟩:=aE;rw[ex]at kW;cases kW;rw[ea]at eb;cases eb;exact xW bH _ _ _ h cS xQ
  .cases h
termination_by d=>sizeOf d
theorem xW{K:PySem.W.Frag}{mg:Str->Option Value}{ae:List Addr}{H:Hp}(bH:∀{a:Addr} {vs ws:List V},SqT K H a vs->SqT K H a ws->vs=ws):∀(xs ys:List D) (vs:List V),oW xs ys=true->ak K mg ae H xs vs->ak K mg ae H ys vs->False
 |[],[],vs,h,_,_=>by simp[oW]at h
 |[],y::ys,vs,_,r,aE=>by
  have ao:=r.len;have e2:=aE.len;simp only[nO,j1]at ao e2;omega
 |x::xs,[],vs,_,r,aE=>by
  have ao:=r.len;have e2:=aE.len;simp only[nO,j1]at ao e2;omega
 |x::xs,y::ys,vs,h,r,aE=>by
  rw[oW,Bool.or_eq_true]at h;cases vs with
  |nil=>have:=r.len;simp at this
  |cons v vs =>
   obtain⟨a,b⟩:=BX r;obtain⟨a2,eu⟩:=BX aE;rcases h with h|h
   .exact YG bH x y v h a a2
   .exact xW bH xs ys vs h b eu
termination_by xs=>sizeOf xs
end
theorem Hh{K:PySem.W.Frag}{mg:Str->Option Value}{ae:List Addr}{H:Hp}{f:D->D->Option Bool}(h:∀d e x b,Rep K mg ae H d x->Rep K mg ae H e x->f d e=some b->b=true):∀{xs ys:List D} {vs:List V} {b:Bool},ak K mg ae H xs vs->ak K mg ae H ys vs->f5 f xs ys=some b->b=true
 |[],ys,vs,b,_,_,p=>by
  rw[f5]at p
  .exact(eY p).symm
  .simp
 |x::xs,[],vs,b,_,_,p=>by
  rw[f5]at p
  .exact(eY p).symm
  .simp
 |x::xs,y::ys,vs,b,r,aE,p=>by
  cases vs with
  |nil=>have:=r.len;simp at this
  |cons v vs =>
   obtain⟨a,c⟩:=BX r;obtain⟨a2,c2⟩:=BX aE;rw[f5]at p;cases q:f x y with
   |none=>rw[q]at p;cases p
   |some t =>
    have:=h x y v t a a2 q;subst this;rw[q]at p;exact Hh h c c2 p
theorem Oe{K:PySem.W.Frag}{mg:Str->Option Value}{ae:List Addr}{H:Hp}{S:Store}(w:aD K mg ae H S)(bH:∀{a:Addr} {vs ws:List V},SqT K H a vs->SqT K H a ws->vs=ws){oth:List Str}{tab:List (Str×aK)}:∀n d e x b,Rep K mg ae H d x->Rep K mg ae H e x->mB oth tab S n d e=some b->b=true
 |0,d,e,x,b,_,_,p=>by cases p
 |n+1,d,e,x,b,rd,re,p=>by
  have ih:=Oe w bH (oth:=oth) (tab:=tab) n;show b=true;have p:ko oth tab S (mB oth tab S n) d e=some b:=p;unfold ko at p;split at p
  .rename_i xs ys ed ee
   split at p
   .obtain⟨a,vs,ea,t,cS⟩:=BW ed rd
    obtain⟨a2,n6,Og,m6,sj⟩:=BW ee re;rw[ea]at Og;cases Og;rw[bH m6 t]at sj;exact Hh ih cS sj p
   .cases p
  .split at p
   .rw[Rep]at rd re
    rw[rd]at re;cases re;simpa using p.symm
   .rw[Rep]at rd re
    rw[rd]at re;cases re;simpa using p.symm
   .rw[Rep]at rd re
    rw[rd]at re;cases re;simpa using p.symm
   .cases p
    rfl
   .rename_i xs ys _ _ _
    obtain⟨a,vs,ea,ha,aC⟩:=eZ w rd (show cB S (.lst xs)=some xs from rfl);obtain⟨b',ws,eb,hb,aZ⟩:=eZ w re (show cB S (.lst ys)=some ys from rfl);rw[ea]at eb;cases eb;rw[ha]at hb;cases hb;rw[if_pos (by rw[aC.len,aZ.len])]at p;exact Hh ih aC aZ p
   .rename_i c ns vs bx jJ dt _ _ _
    split at p
    .split at p
     .split at p
      .split at p
       .rename_i hq
        cases p;rcases hq.2 with h|aH
        .exact h
        .exfalso
         obtain⟨a,C,bh,fs,ex,hm,ea,hn,cS⟩:=pB w rd (by rfl:jc S (.ins c ns vs)=some (c,ns,vs));obtain⟨a2,d6,GB,xP,kW,iK,eb,lM,xQ⟩:=pB w re (by rfl:jc S (.ins bx jJ dt)=some (bx,jJ,dt));rw[ex]at kW;cases kW;rw[ea]at eb;cases eb;exact xW bH _ _ _ aH cS xQ
       .cases p
      .cases p
     .cases p
    .cases p
   .cases p
  .cases p
theorem Oh{oth:List Str}{tab:List (Str×aK)}{N:Nat}(tk:Takes X W)(ez:Room N X.A)(h1:oM X "__eq__" N tab)(ht:oN X oth tab):∀n i,i+n<=N->Hg X i (λS d e=>mB oth tab S n d e)
 |0,i,_=>λpins s σ ae H S d e x y u v b I b6 aO w rd re p=>by cases p
 |n+1,i,hi=>λpins s σ ae H S d e x y u v b I b6 aO w rd re p=>by
  have aI:(eU i X.A).units<cLine:=(xO (k:=0) (ez.mono (by omega))).units0;have ih:=Oh tk ez h1 ht n (i+1) (by omega);have flat:∀{x y:V} {b:Bool},RelV x u->RelV y v->flatV x=true->flatV y=true->eqV x y=b->wpAny (model X.prog X.w) (eU i X.A) (eqBool u v) (λr s'=>r=b/\Gone X pins σ ae H S s') X.xe s:=λaC aZ GA rZ e=>by
   have q:=eqAt_V (A:=eU i X.A) (s:=s) aC aZ GA rZ;rw[e]at q;exact q X.prog X.w X.xe _ ⟨rfl,ae,H,I,Ext.refl,w⟩
  have refs:∀{a b':Addr},x=.ref a->y=.ref b'->(a≠b'->wpAny (model X.prog X.w) (eU i X.A) (richCompare .Eq (.ref a) (.ref b')) (λr s'=>r=.bool b/\Gone X pins σ ae H S s') X.xe s)->wpAny (model X.prog X.w) (eU i X.A) (eqBool u v) (λr s'=>r=b/\Gone X pins σ ae H S s') X.xe s:=λ{a b'} ex di h=>by
   subst ex di;obtain rfl:u=Value.ref a:=b6;obtain rfl:v=Value.ref b':=aO;by_cases iS:a=b'
   .subst iS
    have hb:=Oe w (λh h'=>I.tuple_inj h h') (n+1) d e _ b rd re p;exact SeqAt.EqAt.same (A:=eU i X.A) (s:=s) (.ref a) X.prog X.w X.xe _ ⟨hb.symm,ae,H,I,Ext.refl,w⟩
   .exact GQ.eqBool_refG iS (wpAny_mono (h iS) (λr s' q=>⟨b,q.1,rfl,q.2⟩) λ_ _ x=>x)
  have p:ko oth tab S (mB oth tab S n) d e=some b:=p;unfold ko at p;split at p
  .rename_i xs ys ed ee
   split at p
   .rename_i hl
    obtain⟨a,vs,ea,hN,aC⟩:=BW ed rd;obtain⟨b',ws,eb,tb,aZ⟩:=BW ee re;refine refs ea eb λiS=>?_;obtain⟨its,r,ao,z⟩:=I.tuple hN;obtain⟨dB,aE,e2,d9⟩:=I.tuple tb;have dj:its.toArray.size=dB.toArray.size:=by rw[eC,eC,<-r.length,<-aE.length,<-aC.len,<-aZ.len];exact hl
    have F4:xs.length=its.toArray.size:=by rw[eC,<-r.length,aC.len]
    refine GQ.YD dj aI (λj s'=>Gone X pins σ ae H S s'/\f5 (mB oth tab S n) (xs.drop j) (ys.drop j)=some b) (λs'=>Gone X pins σ ae H S s'/\b=false) ao e2 (λj h1 h2 s' q=>?_) (λs' q=>⟨by rw[BV F4 q.2],q.1⟩) (λs' q=>⟨by rw[q.2],q.1⟩) ⟨⟨ae,H,I,Ext.refl,w⟩,by simpa using p⟩;obtain⟨⟨aA,H1,I1,x1,aF⟩,p1⟩:=q;exact wpAny_mono (Ob ih I1 aF (aC.ext x1) (aZ.ext x1) r aE j h1 h2 p1) (λr s2 q=>q.imp (λq=>⟨q.1,q.2.1.trans x1,q.2.2⟩) λq=>⟨q.1,q.2.1.trans x1,q.2.2⟩) λ_ _ x=>x
   .cases p
  .split at p
   .rw[Rep]at rd re
    subst rd re;cases p;exact flat b6 aO rfl rfl (by first|rfl|(simp only[eqV];exact beq_eq_decide))
   .rw[Rep]at rd re
    subst rd re;cases p;exact flat b6 aO rfl rfl (by first|rfl|(simp only[eqV];exact beq_eq_decide))
   .rw[Rep]at rd re
    subst rd re;cases p;exact flat b6 aO rfl rfl (by first|rfl|(simp only[eqV];exact beq_eq_decide))
   .rw[Rep]at rd re
    subst rd re;cases p;exact flat b6 aO rfl rfl (by first|rfl|(simp only[eqV];exact beq_eq_decide))
   .rename_i xs ys _ _ _
    obtain⟨a,vs,ea,ha,aC⟩:=eZ w rd (show cB S (.lst xs)=some xs from rfl);obtain⟨b',ws,eb,hb,aZ⟩:=eZ w re (show cB S (.lst ys)=some ys from rfl);refine refs ea eb λiS=>?_;subst ea eb;split at p
    .rename_i hl
     exact GQ.N' aI _ _ (Oc (r:=b) (i:=i) (pins:=pins) (σ:=σ) ih rd re (by rfl) (by rfl) hl) (Od (X:=X) (i:=i) rd re (by rfl) (by rfl) hl) (λs' q=>⟨by rw[BV rfl q.2],q.1⟩) (λs' q=>⟨by rw[q.2],q.1⟩) ⟨⟨ae,H,I,Ext.refl,w⟩,by simpa using p⟩
    .rename_i hl
     cases p;obtain⟨z,its,k,r,ao⟩:=I.hok a _ ha;obtain⟨d9,dB,ck,aE,e2⟩:=I.hok b' _ hb;exact GQ.YC aI ao e2 (by rw[eC,eC,<-r.length,<-aE.length,<-aC.len,<-aZ.len];exact hl) ⟨rfl,ae,H,I,Ext.refl,w⟩
   .rename_i c ns vs bx jJ dt _ _ _
    split at p
    .rename_i aS
     split at p
     .rename_i g m_
      split at p
      .rename_i eu ah hg
       split at p
       .rename_i hq
        cases p;obtain⟨ef,_⟩:=hq;subst ef;obtain⟨a,C,bh,fs,ex,hm,ea,hn,cS⟩:=pB w rd (by rfl:jc ah (.ins c ns vs)=some (c,ns,vs));obtain⟨b',d6,GB,xP,kW,iK,eb,lM,xQ⟩:=pB w re (by rfl:jc ah (.ins bx jJ dt)=some (bx,jJ,dt));obtain⟨f,k,qa,F,hk⟩:=h1.at_ c g m_ C hm;refine refs ex kW λiS=>?_;subst ex kW;obtain⟨rJ,od,J⟩:=Bf I ea;obtain⟨ob,XO,GD⟩:=Bf I eb;obtain⟨i9,_⟩:=ht.at_ c g m_ C hm;have hr:Room k (eU i X.A):=xO (hk.mono (by omega));refine PySem.W.ML (op:=.Eq) aI I.kIn J GD.type (i9 bx aS d6 iK) qa.at_ qa.fn (wpAny_mono (Nt (us:=[.ref a,.ref b']) (vs:=[.ref a,.ref b']) (Q:=λz H'=>z=.bl b/\∃ag,Ext ae H ag H'/\aD X.K X.mg ag H' ah) F hr (wy tk σ) I (.cons rfl (.cons rfl .nil)) ⟨ae,ah,[_,_],w,ak.cons rd (ak.cons re ak.nil),by rw[hg];exact λv ag H' x bT bN=>⟨jd bN,ag,x,bT⟩⟩) (λlN s' ⟨z,H',eJ,k6,rh,ag,x,bT⟩=>?_) λ_ _ z=>z);subst rh;cases k6;exact⟨rfl,ag,H',eJ,x,bT⟩
       .cases p
      .cases p
     .cases p
    .cases p
   .cases p
  .cases p
end
end Z
namespace GQ
open PySem PySem.SeqAt
open AutoSeq1 (wpAny_loadPart')
open MeetsSeq MeetsSeq2 MeetsSeq3 SeqRoads2
section
variable{prog:Program}{w:World}{A:Around}{R:Result->Shared->Prop}
theorem YH(l b:Addr)(N:Nat)(I:Nat->Shared->Prop)(Z:Shared->Prop)(hl:r' prog w A (λe s'=>R (.error e) s') l b N I Z)(hz:sd l b N Z)
  (fin:∀s,I N s->R (.ok (.ret (.bool false))) s) (js:∀s,Z s->R (.ok (.ret (.bool true))) s) (k:Nat) :
  ∀i:Nat,N - i=k->i<=N->∀s,I i s ->
   wpAny (model prog w) A.in1 (Builtin.«list.__eq__.loop» ⟨[.ref l,.ref b,rawInt i,rawInt 3],[]⟩) (FinOf prog w A R) (λe s'=>R (.error e) s') s:=by
 induction k with
 |zero =>
  intro i hk hi s h;obtain⟨xs,ys,n,n2,c4,dH,mn,mq,_⟩:=hl _ _ h;have oS:i=N:=by omega
  have ez:R (.ok (.ret (.bool false))) s:=fin s (oS▸h);obtain⟨hp,g,d,tk,os⟩:=s
  wp_walk using wpAny_loadPart' c4,wpAny_loadPart' dH
  have mr:xs[((i:Nat):Int).toNat]?=none:=by simp;omega
  have mw:ys[((i:Nat):Int).toNat]?=none:=by simp;omega
  rw[mr,mw]
  wp_walk using wpAny_loadPart' c4,wpAny_loadPart' dH
  show R (.ok (.ret (.bool (xs.size != ys.size)))) _;grind
 |succ k ih =>
  intro i hk hi s h;obtain⟨xs,ys,n,n2,c4,dH,mn,mq,turn⟩:=hl _ _ h;have cC:i<xs.size:=by omega
  have qh:i<ys.size:=by omega
  have ht:=turn cC qh;obtain⟨hp,g,d,tk,os⟩:=s
  wp_walk using wpAny_loadPart' c4,wpAny_loadPart' dH
  have mr:xs[((i:Nat):Int).toNat]?=some xs[i]:=by simp[cC]
  have mw:ys[((i:Nat):Int).toNat]?=some ys[i]:=by simp[qh]
  have hc:((i:Int)+1)=((i+1:Nat):Int):=by omega
  rw[mr,mw];refine wpAny_bind (wpAny_mono ht (λr s2 h2=>?_) λ_ _ x=>x);rcases h2 with⟨hr,h2⟩|⟨hr,h2⟩
  .subst hr
   have fD:=ih (i+1) (by omega) (by omega) s2 h2;obtain⟨BE,g2,t4,jQ,os2⟩:=s2
   wp_walk
   rw[hc];exact⟨plainId_quiet plain_eq_loop _,codeAny_builtin entry_eq_loop (by
    rw[Around.under_plainId plain_eq_loop _];exact fD)⟩
  .subst hr
   obtain⟨g6,se,m,m2,G9,G_,xV,BR⟩:=hz _ h2;have ez:=js _ h2;obtain⟨BE,g2,t4,jQ,os2⟩:=s2;have G':i<g6.size:=by omega
   have Ha:i<se.size:=by omega
   have Hb:g6[((i:Nat):Int).toNat]?=some g6[i]:=by simp[G']
   have Hc:se[((i:Nat):Int).toNat]?=some se[i]:=by simp[Ha]
   wp_walk using wpAny_loadPart' G9,wpAny_loadPart' G_
   rw[Hb,Hc]
   wp_walk
   exact ez
theorem YJ(l b:Addr)(N:Nat)(I:Nat->Shared->Prop)(Z:Shared->Prop)(hl:r' prog w A (λe s'=>R (.error e) s') l b N I Z)(hz:sd l b N Z)
  (fin:∀s,I N s->R (.ok (.ret (.bool false))) s) (js:∀s,Z s->R (.ok (.ret (.bool true))) s) {s:Shared} (h:I 0 s) :
  wpAny (model prog w) A.in1 (Builtin.«list.__ne__» ⟨[.ref l,.ref b],[]⟩) (FinOf prog w A R) (λe s'=>R (.error e) s') s:=by
 obtain⟨xs,ys,n,n2,c4,dH,mn,mq,_⟩:=hl _ _ h;have fD:=YH (A:=A) (R:=R) l b N I Z hl hz fin js _ 0 rfl (iD _) s h;obtain⟨hp,g,d,tk,os⟩:=s;have f3:=AutoSeq1.sub_list_list;have hE:¬(xs.size != ys.size)=true:=by simp[mn,mq]
 wp_walk using wpAny_loadPart' c4,wpAny_loadPart' dH
 exact⟨plainId_quiet plain_eq_loop _,codeAny_builtin entry_eq_loop (by
  rw[Around.under_plainId plain_eq_loop _];exact fD)⟩
end
section
variable{prog:Program}{w:World}{A:Around}{E:Value->Shared->Prop}{s:Shared}
theorem YK{l b:Addr}{N:Nat}{Q:Value->Shared->Prop}(aI:A.units<cLine)(I:Nat->Shared->Prop)(Z:Shared->Prop)(hl:r' prog w A E l b N I Z)(hz:sd l b N Z)
  (fin:∀s,I N s->Q (.bool false) s) (js:∀s,Z s->Q (.bool true) s) (h:I 0 s):wpAny (model prog w) A (richCompare .NotEq (.ref l) (.ref b)) Q E s:=by
 obtain⟨xs,ys,n,n2,c4,dH,_,_,_⟩:=hl _ _ h;refine wpAny_richCompare_same_room (op:=.NotEq) ⟨_,c4,rfl⟩ ⟨_,dH,rfl⟩ F.slot_list_ne (call_here F.slot_list_ne ⟨_,c4,rfl⟩ F.entry_list_ne (F.args_list_ne_2 _ _) ?_) aI;exact YJ (R:=wants (λv s'=>v≠.notImplemented/\Q v s') E) l b N I Z hl hz (λs' q=>⟨(λx=>nomatch x),fin s' q⟩) (λs' q=>⟨(λx=>nomatch x),js s' q⟩) h
end
end GQ
namespace Z
open PySem PySem.Spec L2 PyProof.Rows
def uT(neg:Bool)(oth:List Str)(tab:List (Str×aK))(n:Nat):bR:=λd e S=>match cB S d,cB S e with
 |some xs,some ys=>if xs.length=ys.length then(match f5 (mB oth tab S n) xs ys with
  |some b=>.ok (.bl (if neg=true then !b else b)) S
  |none=>.bad)else .ok (.bl neg) S
 |_,_=>.bad
section
variable{X:Cx}{W:WX}
theorem YL{oth:List Str}{tab:List (Str×aK)}{n:Nat}{neg:Bool}(tk:Takes X W)(ez:Room (n+1) X.A)(h1:oM X "__eq__" (n+1) tab)(ht:oN X oth tab):iR X W (compareOp (if neg=true then .NotEq else .Eq)) (uT neg oth tab n):=⟨λpins s σ ae H S d e x y u v Q I b6 aO w rd re p=>by
 have aI:X.A.units<cLine:=(ez.mono (iD _)).units0;have ih:=Oh tk ez h1 ht n 1 (by omega);unfold uT at p;split at p
 .rename_i xs ys ed ee
  obtain⟨a,vs,ea,ha,aC⟩:=eZ w rd ed;obtain⟨b,ws,eb,hb,aZ⟩:=eZ w re ee;subst ea eb;obtain rfl:v=Value.ref b:=aO;obtain rfl:u=Value.ref a:=b6;split at p
  .rename_i hl
   split at p
   .rename_i r hp
    have fin:∀s' bN,bN=r->Gone X pins σ ae H S s'->EP X pins σ Q (.bool (if neg=true then !bN else bN)) s':=λs' bN fF g=>by
     obtain⟨ag,H',eJ,x,bT⟩:=g;subst fF;exact⟨.bl (if neg=true then !bN else bN),H',eJ,rfl,p _ ag H' x bT eR⟩
    have li:=Oc (i:=0) (pins:=pins) (σ:=σ) (r:=r) (f:=λS d e=>mB oth tab S n d e) ih rd re ed ee hl;have Hi:=Od (X:=X) (i:=0) (pins:=pins) (σ:=σ) (r:=r) rd re ed ee hl;have h0:Gone X pins σ ae H S s/\f5 (mB oth tab S n) (xs.drop 0) (ys.drop 0)=some r:=⟨⟨ae,H,I,Ext.refl,w⟩,hp⟩
    cases neg with
    |false=>exact GQ.N' aI _ _ li Hi (λs' q=>fin s' true (BV rfl q.2).symm q.1) (λs' q=>fin s' false q.2.symm q.1) h0
    |true=>exact GQ.YK aI _ _ li Hi (λs' q=>fin s' true (BV rfl q.2).symm q.1) (λs' q=>fin s' false q.2.symm q.1) h0
   .exact p.elim
  .rename_i hl
   obtain⟨z,its,k,r,ao⟩:=I.hok a _ ha;obtain⟨d9,dB,ck,aE,e2⟩:=I.hok b _ hb;have dj:(its.toArray.size != dB.toArray.size)=true:=by
    rw[eC,eC,<-r.length,<-aE.length,<-aC.len,<-aZ.len];exact bne_iff_ne.mpr hl
   have fin:EP X pins σ Q (.bool neg) s:=⟨.bl neg,H,I,rfl,p _ ae H Ext.refl w eR⟩
   have l1:s.heap.IsList a its.toArray:=⟨_,ao,rfl,_,rfl⟩
   have l2:s.heap.IsList b dB.toArray:=⟨_,e2,rfl,_,rfl⟩
   cases neg with
   |false=>exact SeqAt.RcAt.lists_lengths l1 l2 dj aI _ _ _ _ fin
   |true=>exact SeqAt.RcNeAt.lists_lengths l1 l2 dj aI _ _ _ _ fin
 .exact p.elim⟩
theorem YM{oth:List Str}{tab:List (Str×aK)}{n:Nat}(tk:Takes X W)(ez:Room (n+1) X.A)(h1:oM X "__eq__" (n+1) tab)(ht:oN X oth tab):iR X W (compareOp .NotEq) (uT true oth tab n):=YL (neg:=true) tk ez h1 ht
end
theorem Oi:∀{ss:List Str} {us:List Value},us.map JG=ss.map some->Vals (ss.map V.str) us
 |[],[],_=>.nil
 |s::ss,u::us,h=>by
  simp only[dD,List.cons.injEq]at h;refine .cons ?_ (Oi h.2);cases u with
  |str x t =>
   have e:some x=some s:=h.1;cases e;exact⟨t,rfl⟩
  |_=>exact nomatch (show(none:Option Str)=some s from h.1)
 |[],_::_,h=>by simp at h
 |_::_,[],h=>by simp at h
theorem YN{K:PySem.W.Frag}{a:Addr}{ss:List Str}(h:DB K a ss=true):zB K a (ss.map V.str):=by
 unfold DB at h;split at h
 .rename_i c bh its n sl e
  rw[Bool.and_eq_true,Bool.and_eq_true,decide_eq_true_iff,decide_eq_true_iff,decide_eq_true_iff]at h;exact⟨_,its,n,e,h.1,rfl,h.2.1,Oi h.2.2⟩
 .cases h
section
variable{X:Cx}{W:WX}{x:Str}{pos:Pos}
theorem Oj{ss:List Str}{ds:List D}(h:∃a,X.mg x=some (.ref a)/\zB X.K a (ss.map V.str))(e:ds=ss.map D.str:=by rfl)(hg:Gl X x:=by rfl)(hd:(x==("__debug__":Str))=false:=by decide):E X W (.Name x pos) (au (.tup ds)):=by
 subst e;obtain⟨a,h,t⟩:=h;exact D9 (v:=.ref a) hg h rfl (λae H=>by rw[Rep];exact⟨a,_,rfl,.inr t,K5 ss⟩) hd
end
def qo(lo:Option Int)(k:Int)(n:Nat):List Nat:=sliceRange (sliceBounds lo none (some k) n).1 (sliceBounds lo none (some k) n).2.1 (sliceBounds lo none (some k) n).2.2
def oX(xs:List D)(lo:Option Int)(k:Int):List D:=(qo lo k xs.length).filterMap (xs[·]?)
def YP(d:D)(lo:Option Int)(k:Int)(S:Store):Out D:=match d with
 | .tup _=>.bad
 | .bF _=>.bad
 |d=>(match cH S d with
  |some xs=>.ok (.lst (oX xs lo k)) S
  |none=>.bad)
def xX(fa:aQ)(fl:og)(k:Int):aQ:=λsl S=>(fa sl S).bind λd S1=>(fl sl S1).bind λl S2=>YP d l k S2
theorem ak.pick{K:PySem.W.Frag}{mg:Str->Option Value}{ae:List Addr}{H:Hp}{xs:List D}{vs:List V}(r:ak K mg ae H xs vs):∀is:List Nat,ak K mg ae H (is.filterMap (xs[·]?)) (is.filterMap (vs[·]?))
 |[]=>ak.nil
 |i::is=>by
  rw[i5,i5];cases e:xs[i]? with
  |none =>
   have e2:vs[i]?=none:=by
    rw[Dj]at e ⊢;rw[<-r.len];exact e
   rw[e2];exact ak.pick r is
  |some d =>
   obtain⟨v,e2,aO⟩:=r.get e;rw[e2];exact ak.cons aO (ak.pick r is)
theorem BZ{vs:List V}{us:List Value}(r:Vals vs us):∀is:List Nat,Vals (is.filterMap (vs[·]?)) (is.filterMap (us[·]?))
 |[]=>.nil
 |i::is=>by
  rw[i5,i5];cases e:vs[i]? with
  |none =>
   rw[r.none_of e];exact BZ r is
  |some d =>
   obtain⟨u,e2,aO⟩:=r.get e;rw[e2];exact .cons aO (BZ r is)
section
variable{X:Cx}{W:WX}
theorem Ol{a:Expr}{lo:Option Expr}{fa:aQ}{fl:og}{k:Int}{kk:Nat}{p1 p2 pos:Pos}(ha:E X W a fa)(hl:EO X W lo fl)(hk:k≠0:=by decide):E X W (.Subscript a (.Slice lo none (some (.Constant (.int k) kk p1)) p2) pos) (xX fa fl k):=by
 refine⟨λpins s σ H Q I h=>?_⟩;obtain⟨ae,S,sl,w,rs,p⟩:=h;refine Subscript_ (thn (ha.run pins s σ H _ I ⟨ae,S,sl,w,rs,aM.eD p⟩) λv s1 ⟨x,H1,I1,r1,aA,S1,d,x1,aF,rd,_,iT⟩=>?_);have h9:PO X (some (.Constant (.int k) kk p1)) (tPart (tC (.int k))):=po_some pe_int;refine wpAny_Slice (thn (hl.run pins s1 σ H1 _ I1 ⟨aA,S1,sl,aF,rs.ext x1,kS.eD iT⟩) λml s2 ⟨l,aG,I2,iQ,aL,S2,x2,cz,cx⟩=>?_);refine thn (po_none.run pins s2 σ aG (λo cF=>o=none/\cF=aG) I2 ⟨rfl,rfl⟩) λnk s3 ⟨u,cF,g',pu,rP,bu⟩=>?_;subst rP bu;refine thn (h9.run pins s3 σ cF (λo dJ=>o=some k/\dJ=cF) g' ⟨k,rfl,rfl,rfl⟩) λvs s4 ⟨o,dJ,fL,ps,wO,fz⟩=>?_;subst wO fz;have ig:Inv X pins σ dJ { s4 with heap:=s4.heap.push { cls:=.type "slice",data:=.fields #[ml,nk,vs] } }:=fL.kept (t':=s4.toks) λb ob q=>Heap.get?_push_of_some _ q;have rd:=rd.ext x2;have xG:∀xs,cH S2 d=some xs->(∀ys,d≠.tup ys/\d≠.bF ys)->aM X.K X.mg (λC d H'=>W C d σ H') aL dJ Q (.ok (.lst (oX xs l k)) S2) ->
   wpAny (model X.prog X.w) X.A (subscriptTail a (.Slice lo none (some (.Constant (.int k) kk p1)) p2) v (.ref s4.heap.objs.size)) (EP X pins σ Q) X.xe { s4 with heap:=s4.heap.push { cls:=.type "slice",data:=.fields #[ml,nk,vs] } }:=λxs ex hn p=>by
  obtain⟨a,us,ao,h1,dS⟩:=pP cz rd ex hn;subst ao;obtain rfl:v=Value.ref a:=r1;obtain⟨its,r,ht,hz⟩:=ig.list h1;have hlen:=r.length;refine tail_any (ops:=[.ref a,.ref s4.heap.objs.size]) ht.isList.typeIs (PySem.slot_list_getitem.lookup) ?_ (by rfl);refine wpAny_getItem_list_slice ht.isList (Heap.IsSliceOf.new _ ml nk vs) iQ pu ps (by simpa using hk) ?_ (by grind);have hp:dJ (s4.heap.push { cls:=.type "slice",data:=.fields #[ml,nk,vs] }).objs.size=none:=ig.hok.fresh (dE _);have c4:xs.length=us.length:=dS.len;refine⟨.ref _,_,ig.laid (t':=s4.toks) (o:=.lst ((qo l k us.length).filterMap (us[·]?))) (λb ob q=>Heap.get?_push_of_some _ q) (dE _) ?_,rfl,?_⟩
  .have Om:=slicePick_size_le its.toArray l none (some k)
   have bu:slicePick its.toArray l none (some k)=((qo l k us.length).filterMap (its[·]?)).toArray:=by
    unfold slicePick qo;rw[hlen];simp
   rw[bu]at Om ⊢;have bQ:=(BZ r (qo l k us.length)).length;refine⟨?_,_,0,BZ r (qo l k us.length),Heap.get?_push_size _ rfl⟩;rw[bQ];rw[eC,eC]at Om;omega
  .exact qY p cz (by unfold oX;rw[c4];exact dS.pick _) hp
 cases d with
 |tup xs=>exact cx.elim
 |bF xs=>exact cx.elim
 |lst xs=>exact xG xs rfl (by simp) cx
 |bI xs=>exact xG _ rfl (by simp) cx
 |ptr n =>
  have cx:aM X.K X.mg (λC d H'=>W C d σ H') aL dJ Q (match cH S2 (.ptr n)with
   |some xs=>.ok (.lst (oX xs l k)) S2
   |none=>.bad):=cx
  split at cx
  .grind
  .exact cx.elim
 |_=>exact cx.elim
end
open PySem PySem.Spec PyProof.Rows L2
def xY(ae:List Addr)(H:Hp)(ag:List Addr)(H':Hp):Prop:=∀a o,a∉ae->H a=some (.frz o (.own 0))->a∉ag/\H' a=some (.frz o (.own 0))
section
variable{K:PySem.W.Frag}{mg:Str->Option Value}{ae ag:List Addr}{H H':Hp}
theorem jD.e6(x:xY ae H ag H'){cQ:List (Str×Addr)}:∀{ns:List Str} {vs:List V},jD ae H cQ ns vs->jD ag H' cQ ns vs
 |[],_,h=>h
 |n::ns,_,⟨v,r,c,o,u,e,h1,n1,h2,aH,bQ,hd,cn⟩=>by
  obtain⟨D7,nT⟩:=x _ _ n1 h2;exact⟨v,r,c,o,u,e,h1,D7,nT,aH,bQ,hd,jD.e6 x cn⟩
mutual
theorem Rep.e6(x:Kp ae H ag H'):∀(d:D) (v:V),xY ae H ag H'->Rep K mg ae H d v->Rep K mg ag H' d v
 | .non,v,hf,h=>by rw[Rep]at h ⊢;exact h
 | .bl b,v,hf,h=>by rw[Rep]at h ⊢;exact h
 | .int i,v,hf,h=>by rw[Rep]at h ⊢;exact h
 | .str s,v,hf,h=>by rw[Rep]at h ⊢;exact h
 | .ty n,v,hf,h=>by rw[Rep]at h ⊢;exact h
 | .cls c,v,hf,h=>by rw[Rep]at h ⊢;exact h
 | .tup ds,v,hf,h=>by
  rw[Rep]at h ⊢;obtain⟨a,vs,e,t,r⟩:=h;exact⟨a,vs,e,t.kp x,ak.e6 x ds vs hf r⟩
 | .bF ds,v,hf,h=>by
  rw[Rep]at h ⊢;obtain⟨a,vs,e,t,r⟩:=h;exact⟨a,vs,e,t.kp x,ak.e6 x ds vs hf r⟩
 | .lst ds,v,hf,h=>by
  rw[Rep]at h ⊢;obtain⟨a,vs,e,t,r⟩:=h;exact⟨a,vs,e,t.kp x,ak.e6 x ds vs hf r⟩
 | .dct ks ds,v,hf,h=>by
  rw[Rep]at h ⊢;obtain⟨a,bA,vs,e,t,r1,aE⟩:=h;exact⟨a,bA,vs,e,t.kp x,ak.e6 x ks bA hf r1,ak.e6 x ds vs hf aE⟩
 | .dw w ks ds,v,hf,h=>by
  rw[Rep]at h ⊢;obtain⟨a,bA,vs,e,t,r1,aE⟩:=h;exact⟨a,bA,vs,e,t.kp x,ak.e6 x ks bA hf r1,ak.e6 x ds vs hf aE⟩
 | .ins c ns ds,v,hf,h=>by
  rw[Rep]at h ⊢;obtain⟨a,C,bh,fs,e,n,hm,ha,hn,r⟩:=h;exact⟨a,C,bh,fs,e,(x.rd a _ (by intros;nofun) (by intros;nofun) n (.inl ha)).1,hm,x.ins a C bh fs n ha,hn,ak.e6 x ds _ hf r⟩
 | .ptr n,v,hf,h=>by
  rw[Rep]at h ⊢;obtain⟨a,e,q⟩:=h;exact⟨a,e,x.get n a q⟩
 | .bI xs,v,hf,h=>by
  rw[Rep]at h ⊢;obtain⟨a,e,q⟩:=h;exact⟨a,e,q.kp x⟩
 | .exc c ns ds,v,hf,h=>by
  rw[Rep]at h ⊢;obtain⟨a,C,d,fs,e,n,nd,hm,ha,hd,hn,r⟩:=h;obtain⟨iE,wi⟩:=x.ext _ _ n ha;obtain⟨tE,jE⟩:=x.xd _ _ nd hd;exact⟨a,C,d,fs,e,iE,tE,hm,wi,jE,hn,ak.e6 x ds _ hf r⟩
 | .lam T cQ,v,hf,h=>by
  rw[Rep]at h ⊢;obtain⟨f,e,h⟩:=h;exact⟨f,e,h.kp x⟩
 | .gZ T mP,v,hf,h=>by
  rw[Rep]at h ⊢;obtain⟨f,cQ,vs,e,h1,h2,r⟩:=h;exact⟨f,cQ,vs,e,h1.kp x,h2.e6 hf,ak.e6 x mP vs hf r⟩
theorem ak.e6(x:Kp ae H ag H'):∀(ds:List D) (vs:List V),xY ae H ag H'->ak K mg ae H ds vs->ak K mg ag H' ds vs
 |[],vs,_,h=>by rw[ak]at h ⊢;exact h
 |d::ds,vs,hf,h=>by
  rw[ak]at h ⊢;obtain⟨v,r,e,h1,h2⟩:=h;exact⟨v,r,e,Rep.e6 x d v hf h1,ak.e6 x ds r hf h2⟩
end
theorem hB.e6(x:Kp ae H ag H')(f:xY ae H ag H'){a:Addr}{m:dx}(e:H' a=H a)(h:hB K mg ae H a m):hB K mg ag H' a m:=by
 cases m with
 |lst ds =>
  obtain⟨vs,h1,h2⟩:=h;exact⟨vs,e.trans h1,ak.e6 x _ _ f h2⟩
 |dct lk ks ds =>
  obtain⟨kvs,h1,h2,aH⟩:=h;refine⟨kvs,?_,ak.e6 x _ _ f h2,ak.e6 x _ _ f aH⟩;cases lk with
  |true =>
   rw[if_pos rfl]at h1 ⊢;rcases h1 with h1|⟨o,h1⟩
   .exact .inl (e.trans h1)
   .exact .inr ⟨o,e.trans h1⟩
  |false =>
   grind
 |dw w ks ds =>
  obtain⟨hs,es,bA,vs,h1,h2,aH,bQ⟩:=h;exact⟨hs,es,bA,vs,e.trans h1,h2,ak.e6 x _ _ f aH,ak.e6 x _ _ f bQ⟩
 |ins c ns ds =>
  obtain⟨C,bh,fs,h0,h1,h2,aH⟩:=h;exact⟨C,bh,fs,h0,e.trans h1,h2,ak.e6 x _ _ f aH⟩
 |tab P q =>
  obtain⟨dG,ps,h1,h2,aH⟩:=h;refine⟨dG,ps,e.trans h1,h2,λpos pq hc=>?_⟩;obtain⟨c,ao,n,e2⟩:=aH pos pq hc;obtain⟨iE,YQ⟩:=x.ext _ _ n e2;exact⟨c,ao,iE,YQ⟩
 |dead=>exact trivial
end
end Z
namespace ZG
open PySem PySem.Spec GenW PyProof.Rows L2
theorem B1:∀(names:List (Str×NameKind)) (n:Nat) (acc:List (Str×Addr)) (p:Str×Addr),p∈cellsFrom n names acc->p∈acc\/(n<=p.2/\∃k,(p.1,k)∈names)
 |[],n,acc,p,h=>.inl h
 |(x,k)::r,n,acc,p,h=>by
  rw[cellsFrom]at h;split at h
  .rcases B1 r (n+1) _ p h with q|⟨q,Hj,hk⟩
   .rcases iB.mp q with q|q
    .subst q;exact .inr ⟨dE _,k,vz⟩
    .exact .inl q
   .exact .inr ⟨by omega,Hj,qM _ hk⟩
  .rcases B1 r n _ p h with q|⟨q,Hj,hk⟩
   .exact .inl q
   .exact .inr ⟨q,Hj,qM _ hk⟩
theorem Hk:∀(names:List (Str×NameKind)) (n:Nat) (acc:List (Str×Addr)),(acc.Pairwise λx y=>x.2≠y.2)->(∀p∈acc,p.2<n)->(cellsFrom n names acc).Pairwise λx y=>x.2≠y.2
 |[],n,acc,h,_=>h
 |(x,k)::r,n,acc,h,hl=>by
  rw[cellsFrom];split
  .exact Hk r (n+1) _ (List.pairwise_cons.mpr ⟨λp hp=>nM (hl p hp),h⟩) λp hp=>by
    rcases iB.mp hp with q|q
    .subst q;exact mL n
    .exact Nat.lt_succ_of_lt (hl p q)
  .exact Hk r n _ h hl
structure xZ(N:List Str)(scope:Scope):Prop where
 kind:scope.kind=.function
 wh:∀y∈scope.names,y.2≠.free
abbrev tN(scope:Scope)(n:Addr):List (Str×Addr):=cellsFrom (n+1) scope.names []
def e7(scope:Scope)(n:Addr):List Addr:=scope.names.filterMap λy=>(tN scope n).lookup y.1
theorem B2{scope:Scope}{n b:Addr}(h:b∈e7 scope n):∃x,(tN scope n).lookup x=some b:=by
 obtain⟨y,_,e⟩:=List.mem_filterMap.mp h;exact⟨y.1,e⟩
theorem Hl{scope:Scope}{n b:Addr}{x:Str}(h:(tN scope n).lookup x=some b):b∈e7 scope n:=by
 rcases B1 _ _ _ _ (nP h)with q|⟨_,k,hk⟩
 .cases q
 .exact List.mem_filterMap.mpr ⟨(x,k),hk,h⟩
theorem Oo{scope:Scope}{n b:Addr}{x:Str}(h:(tN scope n).lookup x=some b):n<b:=by
 rcases B1 _ _ _ _ (nP h)with q|⟨q,_⟩
 .cases q
 .exact q
theorem Hm{scope:Scope}{n b:Addr}(h:b∈e7 scope n):n<b:=by
 obtain⟨x,e⟩:=B2 h;exact Oo e
structure uU(N:List Str)(scope:Scope)(env:Env)(n:Addr)(σ:L2.St)(h:Heap):Prop where
 loc:∃m,h.Ns n m/\∀(i:Nat) (x:Str) (v:V),N[i]?=some x->σ[i]?=some (some v)->Vis scope x->∃u,RelV v u/\Look env h m x u
 cell:∀x c,(tN scope n).lookup x=some c->∃v,h.IsCell c v
 len:σ.length=N.length
section
variable{P:Program}{w:World}{K:PySem.W.Frag}{mg:Str->Option Value}{base:Heap}{N:List Str}{qual:Str}{scope:Scope}{f:Addr}{cd:Value}{A:Around}{outer:List Env}{n:Addr}{s s':Shared}{H H':Hp}{pn pins:List (Addr×Obj)}{xe:Value->Shared->Prop}{σ:L2.St}
theorem YR(S:xZ N scope)(hd:A.handled=none)(dg:Env0 P w K mg base A outer s H)(hn:n<=s.heap.objs.size)(fV:∀b∈frs outer,b<n)(hb:base.objs.size<=n)(x3:uU N scope (envOfC qual scope n f cd) n σ s.heap)(fK:H n=none)(d5:∀b∈e7 scope n,H b=none)
  (x4:∀p∈pn++pins,s.heap.get? p.1=some p.2/\H p.1=none/\p.1≠n/\p.1∉frs outer/\∀v,p.2.data≠.cell v) :
  Inv (mz P w K mg base N qual scope f cd A outer n s H pn xe) pins σ H s where
 ok:={
  mod:=dg.mod
  kind:=S.kind
  glob:=rfl
  blt:=rfl
  above:=by
   show(oU n s.heap).objs.size<=n;rw[G1 hn];exact dE _
  inj:=λx y c h1 h2=>name_of_addr (Hk _ _ _ .nil (λp hp=>by cases hp)) (nP h1) (nP h2)
  has:=λx h=>by
   have h:scope.names.lookup x=some .cell\/scope.names.lookup x=some .free:=h;rcases h with h|h
   .exact cell_has h
   .exact absurd rfl (S.wh _ (nP h))
  cab:=λx c _ h=>by
   show(oU n s.heap).objs.size<=c;rw[G1 hn];exact j2 (Oo h)
  hd:=λ_=>hd
  frames:=Around.frames_deeper dg.frames
  stk:=.inr ⟨rfl,rfl⟩
  exf:=λb h=>absurd (show b∈([]:List Addr)from h) (by simp)
  bs:=λb o e=>⟨uL (jA (Heap.lt_size e) hb) (dg.bs b o e).1,(dg.bs b o e).2⟩
  bsz:=by
   show base.objs.size<=(oU n s.heap).objs.size;rw[G1 hn];exact hb
  noex:=λb o _ h=>absurd (show b∈([]:List Addr)from h) (by simp)
  exfs:=λb h=>absurd (show b∈([]:List Addr)from h) (by simp)
  funs:=NS dg.funs fV
  frf:=dg.frf }
 os:=rfl
 bare:=dg.bare
 base:={
  keep:=λb o e _ _ _=>(G2 e).2
  slot:=λb o e _ _ _=>⟨o.slots,(G2 e).2⟩
  free:=λb o _ h _=>h
  there:=λb o e _=>⟨o,(G2 e).2⟩
  tups:=λb xs h=>h
  frzs:=λb o u h=>h
  tbls:=λb ps h=>⟨#[],by rw[Array.append_empty];exact h⟩ }
 loc:=x3.loc
 cell:=x3.cell
 free:=fK
 freeC:=λx c h=>d5 c (Hl h)
 pin:=x4
 hok:=dg.hok
 len:=x3.len
theorem YS(I:Inv (mz P w K mg base N qual scope f cd A outer n s H pn xe) pins σ H' s'):uU N scope (envOfC qual scope n f cd) n σ s'.heap/\H' n=none/\∀b∈e7 scope n,H' b=none :=
 ⟨⟨I.loc,I.cell,I.len⟩,I.free,λb hb=>by
  obtain⟨x,e⟩:=B2 hb;exact I.freeC x b e⟩
end
section
variable{X:Cx}{N:List Str}{qual:Str}{scope:Scope}{f:Addr}{cd:Value}{n:Addr}{own:List Addr}{s s1:Shared}{H H1:Hp}{W:WX}{pins:List (Addr×Obj)}{σ:L2.St}
theorem YT{e4:L2.St}{ny:List (Addr×Obj)}(S:xZ N scope)(hd:X.A.handled=none)(I:Inv X pins σ H s)(y:oV X pins n own H)(hn:n<=s.heap.objs.size)(hb:X.base.objs.size<=n)(x3:uU N scope (envOfC qual scope n f cd) n e4 s.heap)(fK:H n=none)(d5:∀b∈e7 scope n,H b=none)
  (x4:∀p∈ny,s.heap.get? p.1=some p.2/\H p.1=none/\p.1≠n/\p.1∉frs X.stack/\∀v,p.2.data≠.cell v):Inv (d1 X N qual scope f cd n own s H W) ny e4 H s:=by
 refine BM.mpr (YR S hd ?_ hn y.fs hb x3 fK d5 λp hp=>?_)
 .have dg:=I.env0
  exact⟨dg.frames,dg.mod,dg.bs,dg.bsz,dg.funs,dg.frf,dg.hok,dg.bare⟩
 .rcases mK.mp hp with z|z
  .exact Yh fK p z
  .exact x4 p z
theorem YV{e4:L2.St}{ny:List (Addr×Obj)}(eV:Inv (d1 X N qual scope f cd n own s H W) ny e4 H1 s1):uU N scope (envOfC qual scope n f cd) n e4 s1.heap/\H1 n=none/\∀b∈e7 scope n,H1 b=none:=YS (BM.mp eV)
end
def x5(X:Cx)(cl:List Addr)(H:Hp)(h:Heap):Prop:=∀b∈cl,(∃o v,h.get? b=some o/\o.data=.cell v)/\H b=none/\b≠X.env.locals/\(∀x c,X.env.cells.lookup x=some c->c≠b)/\(b∈X.ex\/X.s_0.heap.objs.size<=b)
def il(H:Hp)(h:Heap)(cl:List Addr):Hp:=λb=>if b∈cl then(h.get? b).map λo=>.frz o (.own 1)else H b
def jU(H:Hp)(cl:List Addr):Hp:=λb=>if b∈cl then none else H b
theorem Oq{H:Hp}{h:Heap}{cl:List Addr}{b:Addr}{o:Obj}(hb:b∈cl)(e:h.get? b=some o):il H h cl b=some (.frz o (.own 1)):=by
 unfold il;rw[if_pos hb,e];rfl
theorem iV{H:Hp}{h:Heap}{cl:List Addr}{b:Addr}(hb:b∉cl):il H h cl b=H b:=if_neg hb
theorem B3{H:Hp}{cl:List Addr}{b:Addr}(hb:b∈cl):jU H cl b=none:=if_pos hb
theorem jt{H:Hp}{cl:List Addr}{b:Addr}(hb:b∉cl):jU H cl b=H b:=if_neg hb
theorem YW{H:Hp}{cl:List Addr}{b:Addr}{u:HO}(e:jU H cl b=some u):b∉cl/\H b=some u:=by
 unfold jU at e;split at e
 .cases e
 .rename_i hb
  exact⟨hb,e⟩
section
variable{X:Cx}{pins:List (Addr×Obj)}{σ:L2.St}{cl:List Addr}{H bS:Hp}{s oY:Shared}{ae df:List Addr}{S fC:Z.Store}{K:PySem.W.Frag}{mg:Str->Option Value}
theorem Hn(aW:∀b∈cl,H b=none):Z.Ext ae H ae (il H s.heap cl):=⟨⟨[],by simp⟩,λa h n=>absurd h n,λa o n e=>by
 refine .inl ?_;rw[iV λhb=>?_]
 .exact e
 .rw[aW a hb]at e;cases e⟩
theorem YX{H':Hp}(w:Z.aD K mg ae H S)(x:Z.Ext ae H ae H')(e:∀a∈ae,H' a=H a):Z.aD K mg ae H' S :=
 ⟨w.len,w.nd,λa ha=>by rw[e a ha];exact w.tr a ha,λn a m ao e2=>Z.hB.ext x (e a (mJ ao)) (w.ob n a m ao e2)⟩
theorem Ot(w:Z.aD K mg ae H S)(aW:∀b∈cl,H b=none):Z.aD K mg ae (il H s.heap cl) S :=
 YX w (Hn aW) λa ha=>iV λhb=>w.tr a ha (aW a hb)
theorem Ou(I:Inv X pins σ H s)(y:x5 X cl H s.heap):Inv X pins σ (il H s.heap cl) s where
 ok:=I.ok
 os:=I.os
 bare:=I.bare
 base:={
  keep:=I.base.keep
  slot:=I.base.slot
  free:=λb o e n hx=>by
   rw[iV λhb=>?_]
   .exact I.base.free b o e n hx
   .rcases(y b hb).2.2.2.2 with z|z
    .exact hx z
    .exact absurd (jA (Heap.lt_size e) z) (jz _)
  there:=I.base.there
  tups:=λb xs e=>by
   have:=I.base.tups b xs e;rw[iV λhb=>by rw[(y b hb).2.1]at this;cases this];exact this
  frzs:=λb o u e=>by
   have:=I.base.frzs b o u e;rw[iV λhb=>by rw[(y b hb).2.1]at this;cases this];exact this
  tbls:=λb ps e=>by
   obtain⟨more,this⟩:=I.base.tbls b ps e;exact⟨more,by rw[iV λhb=>by rw[(y b hb).2.1]at this;cases this];exact this⟩ }
 loc:=I.loc
 cell:=I.cell
 free:=by rw[iV λhb=>(y _ hb).2.2.1 rfl];exact I.free
 freeC:=λx c e=>by rw[iV λhb=>(y _ hb).2.2.2.1 x c e rfl];exact I.freeC x c e
 pin:=λp hp=>by
  obtain⟨h1,h2,aH,bQ,cn⟩:=I.pin p hp;refine⟨h1,?_,aH,bQ,cn⟩;rw[iV λhb=>?_]
  .exact h2
  .obtain⟨⟨o,v,e,bB⟩,_⟩:=y _ hb
   rw[e]at h1;cases h1;exact cn v bB
 hok:=λa o e=>by
  by_cases hb:a∈cl
  .obtain⟨⟨ob,v,ao,bB⟩,_⟩:=y a hb
   rw[Oq hb ao]at e;cases e;exact⟨ao,ob,ao⟩
  .rw[iV hb]at e
   exact(I.hok a o e).stay (λ_ _ _ q=>q) (λb q=>by rw[iV λhb=>by rw[(y b hb).2.1]at q;cases q];exact q) λb xs q=>by rw[iV λhb=>by rw[(y b hb).2.1]at q;cases q];exact q
 len:=I.len
theorem Ov(y:x5 X cl H s.heap)(w:Z.aD K mg ae H S)(x:Z.Ext ae (il H s.heap cl) df bS):∀b∈cl,b∉df/\∃o,s.heap.get? b=some o/\bS b=some (.frz o (.own 1)):=λb hb=>by
 obtain⟨⟨o,v,e,_⟩,hn,_⟩:=y b hb;have Ow:b∉ae:=λz=>w.tr b z hn;have ao:il H s.heap cl b=some (.frz o (.own 1)):=Oq hb e;exact⟨x.nin Ow ao,o,e,x.kept Ow ao (by intros;nofun)⟩
theorem Ox(aW:∀b∈cl,H b=none)(x:Z.Ext ae (il H s.heap cl) df bS):Z.Ext ae H df (jU bS cl):=by
 refine⟨x.pre,λa h n=>?_,λa o n e=>?_⟩
 .by_cases hb:a∈cl
  .exact aW a hb
  .have:=x.new a h n
   rw[iV hb]at this;exact this
 .have hb:a∉cl:=λhb=>by rw[aW a hb]at e;cases e
  rw[jt hb];exact x.keep a o n (by rw[iV hb];exact e)
theorem Oy(t:∀b∈cl,b∉df/\∃o,bS b=some (.frz o (.own 1))):Z.Kp df bS df (jU bS cl):=by
 have ne:∀{a:Addr} {u:HO},bS a=some u->(∀o,u≠.frz o (.own 1))->jU bS cl a=some u:=λ{a u} e h=>by
  rw[jt λhb=>?_]
  .exact e
  .obtain⟨_,o,ao⟩:=t a hb
   rw[e]at ao;exact h o (eY ao)
 refine⟨λa u h1 h2 n r=>⟨n,?_⟩,λa vs n e=>ne e (by intros;nofun),λa vs n e=>ne e (by intros;nofun),λa C bh fs n e=>ne e (by intros;nofun),λn a e=>e,λa bY n e=>⟨n,ne e (by intros;nofun)⟩,λa fs n e=>⟨n,ne e (by intros;nofun)⟩,λa o vs n e=>⟨n,ne e (by intros;nofun)⟩⟩;rcases r with r|⟨o,r⟩
 .exact .inl (ne r λo=>h1 o _)
 .exact .inr ⟨o,ne r λeE z=>by cases z;exact h2 1 rfl⟩
theorem Oz(t:∀b∈cl,b∉df/\∃o,bS b=some (.frz o (.own 1))):Z.xY df bS df (jU bS cl):=λa o n e=>⟨n,by
 rw[jt λhb=>?_]
 .exact e
 .obtain⟨_,eE,ao⟩:=t a hb
  rw[e]at ao;cases ao⟩
theorem OA(w:Z.aD K mg df bS fC)(t:∀b∈cl,b∉df/\∃o,bS b=some (.frz o (.own 1))):Z.aD K mg df (jU bS cl) fC:=by
 have eq:∀a∈df,jU bS cl a=bS a:=λa ha=>jt λhb=>(t a hb).1 ha;exact⟨w.len,w.nd,λa ha=>by rw[eq a ha];exact w.tr a ha,λn a m ao e2=>Z.hB.e6 (Oy t) (Oz t) (eq a (mJ ao)) (w.ob n a m ao e2)⟩
theorem YZ{sl:Z.aJ}(r:Z.bM K mg df bS σ sl)(t:∀b∈cl,b∉df/\∃o,bS b=some (.frz o (.own 1))):Z.bM K mg df (jU bS cl) σ sl:=⟨r.len,λi d e=>by
 obtain⟨v,ao,h⟩:=r.at_ i d e;exact⟨v,ao,Z.Rep.e6 (Oy t) d v (Oz t) h⟩⟩
theorem OB{s:Shared}(Ho:Inv X pins σ H s){dP:L2.St}{OC:List (Addr×Obj)}(y:x5 X cl H s.heap)(I:Inv X OC dP bS oY)(t:∀b∈cl,∃o,bS b=some (.frz o (.own 1))):Inv X OC dP (jU bS cl) oY where
 ok:=I.ok
 os:=I.os
 bare:=I.bare
 base:={
  keep:=I.base.keep
  slot:=I.base.slot
  free:=λb o e n hx=>by
   by_cases hb:b∈cl
   .exact B3 hb
   .rw[jt hb];exact I.base.free b o e n hx
  there:=I.base.there
  tups:=λb xs e=>by
   rw[jt λhb=>?_]
   .exact I.base.tups b xs e
   .have:=Ho.base.tups b xs e
    rw[(y b hb).2.1]at this;cases this
  frzs:=λb o u e=>by
   rw[jt λhb=>?_]
   .exact I.base.frzs b o u e
   .have:=Ho.base.frzs b o u e
    rw[(y b hb).2.1]at this;cases this
  tbls:=λb ps e=>by
   rw[jt λhb=>?_]
   .exact I.base.tbls b ps e
   .obtain⟨_,this⟩:=Ho.base.tbls b ps e
    rw[(y b hb).2.1]at this;cases this }
 loc:=I.loc
 cell:=I.cell
 free:=by rw[jt λhb=>(y _ hb).2.2.1 rfl];exact I.free
 freeC:=λx c e=>by rw[jt λhb=>(y _ hb).2.2.2.1 x c e rfl];exact I.freeC x c e
 pin:=λp hp=>by
  obtain⟨h1,h2,aH,bQ,cn⟩:=I.pin p hp;refine⟨h1,?_,aH,bQ,cn⟩;by_cases hb:p.1∈cl
  .exact B3 hb
  .rw[jt hb];exact h2
 hok:=λa o e=>by
  obtain⟨hb,e⟩:=YW e;have ne:∀b,b∈cl->∀u,bS b=some u->(∀o,u≠.frz o (.own 1))->False:=λb hb u e h=>by
   obtain⟨o,ao⟩:=t b hb;rw[e]at ao;exact h o (eY ao)
  exact(I.hok a o e).stay (λ_ _ _ q=>q) (λb q=>by rw[jt λhb=>ne b hb _ q (by intros;nofun)];exact q) λb xs q=>by rw[jt λhb=>ne b hb _ q (by intros;nofun)];exact q
 len:=I.len
theorem OD(I:Inv X pins σ bS oY)(t:∀b∈cl,b∉df/\∃o,s.heap.get? b=some o/\bS b=some (.frz o (.own 1))):∀b∈cl,∀o,s.heap.get? b=some o->oY.heap.get? b=some o:=λb hb o e=>by
 obtain⟨_,eE,ao,e2⟩:=t b hb;rw[e]at ao;cases ao;exact(I.hok b _ e2).1
structure Hq(X:Cx)(pins:List (Addr×Obj))(σ:L2.St)(H:Hp)(N:List Str)(qual:Str)(scope:Scope)(f:Addr)(cd:Value)(body:List Stmt)(vs:List V)(n a:Addr)(g:Nat)(s':Shared):Prop where
 old:uS X n a
 oZ:a<s'.heap.objs.size
 inv:Inv X pins σ H s'
 gen:s'.heap.IsGen a g
 at_:s'.gens[g]?=some (.fresh (.func body (envOfC qual scope n f cd)))
 fr:uU N scope (envOfC qual scope n f cd) n (start N vs) s'.heap
 hn:H n=none
 ha:H a=none
 hc:∀b∈e7 scope n,H b=none
 pins:∀p∈X.pn++pins,p.1<n
end
section
variable{X:Cx}{pins:List (Addr×Obj)}{σ:L2.St}{H:Hp}{s:Shared}{f:Addr}{name qual:Str}{params:Arguments}{body:List Stmt}{scope:Scope}{fP kV doc pm d7 ct eg:Value}{an od:Option Addr}{gR:Array (Option Value)}{N ps:List Str}{us:List Value}{vs:List V}{args:Args}
theorem Y0(I:Inv X pins σ H s)(hd:X.A.handled=none)(nA:X.A.depth<recursionLimit)(lk:X.K.lookup f=some ⟨eg,od,.func (PySem.W.fnOf name qual params body scope fP kV doc pm an d7 ct),gR⟩)(iF:PySem.W.codeIn X.K d7 qual=true)
  (Sc:GScope N ps scope) (hb:BindsTo s (PySem.W.fnOf name qual params body scope fP kV doc pm an d7 ct) args (ps.zip us)) (r:Vals vs us) (hl:vs.length=ps.length) :
  codeAny (model X.prog X.w) X.A (.call (.ref f) args) (λr s'=>∃(a:Addr) (g:Nat),r=.ok (.ret (.ref a))/\Hq X pins σ H N qual scope f d7 body vs s.heap.objs.size a g s') s:=by
 have dg:=I.env0;have KX:X.K.In s.heap:=I.kIn;have lim:s.heap.NoLimit:=I.nolimit;have Y1:∀y∈ps.zip us,scope.names.lookup y.1=some .local\/(scope.names.lookup y.1=some .cell/\((cellsFrom (s.heap.objs.size+1) scope.names []).lookup y.1).isSome=true):=fun⟨nn,v⟩ aW=>by
  rcases Sc.par nn (vD aW).1 with q|q
  .exact .inl q
  .exact .inr ⟨q,PySem.W.cellsFrom_some _ _ _ (.inl q)⟩
 refine codeAny_call_generator nA (KX _ _ lk) rfl Sc.co Sc.gen rfl (PySem.W.codeRec_of KX iF) (hb _ _ _ _ ?_);refine wpAny_newFunctionEnv_cells Sc.kind Y1 λenv he s1 x=>?_;subst he;have Y2:s1.heap.NoLimit:=lim.keeps x.toInCall.keep;refine⟨Y2,?_⟩;obtain⟨h1,tk,OG,ahD⟩:=x.done;have os1:s1.os=s.os:=by rw[OG]
 have Y3:s1.gens=s.gens:=by rw[OG]
 have Y4:s.heap.objs.size<s1.heap.objs.size:=x.toInCall.ns.lt;have eV:=inv_startG (E:=λ_ _ _=>False) Sc hd dg hl r x;have I1:Inv X pins σ H s1:=I.call' (ch:=[]) os1 (Un.kept x.toInCall.keep) (I.hok.kept x.toInCall.keep) (by rw[Y3];exact I.bare) λb z=>by simp at z
 have main:∀(go:Obj) (nm gy:Value) (jQ:Nat),go.cls=.type "generator"->go.data=.fields #[.int s1.gens.size 0,nm,gy]->go.slots = #[]->(∀h:Heap,(h.push go).get? h.objs.size=some go) ->
   Hq X pins σ H N qual scope f d7 body vs s.heap.objs.size s1.heap.objs.size s1.gens.size { s1 with gens:=s1.gens.push (.fresh (.func body (envOfC qual scope s.heap.objs.size f d7))),toks:=jQ,heap:=s1.heap.push go }:=by
  intro go nm gy jQ Y5 Y6 hX OH;have kp:∀b o,s1.heap.get? b=some o->(s1.heap.push go).get? b=some o:=λb o e=>Heap.get?_push_of_some _ e;have uh:∀{c:Addr} {v:Option Value},s1.heap.IsCell c v->(s1.heap.push go).IsCell c v:=λ{c v} ⟨o,e,r⟩=>⟨o,kp _ _ e,r⟩
  refine⟨Yv I Y4,Heap.lt_size (OH s1.heap),?_,⟨go,nm,gy,OH _,Y5,Y6,hX⟩,Array.getElem?_push_size ..,⟨?_,?_,eV.len⟩,I.hok.fresh (dE _),I1.hok.fresh (dE _),λb hb=>I.hok.fresh (j2 (Hm hb)),λp hp=>?_⟩
  .exact I1.call' (ch:=[]) rfl (Un.kept kp) (I1.hok.kept kp) (AllBare.push I1.bare rfl) λb z=>by simp at z
  .obtain⟨m,⟨o,es,dF,aS,kO⟩,look⟩:=eV.loc
   refine⟨m,⟨o,es,dF,kp _ _ aS,kO⟩,λi y v hi bB aW=>?_⟩;obtain⟨u,b6,lk⟩:=look i y v hi bB aW;refine⟨u,b6,?_⟩;rcases lk with e|⟨k,c,hc,ic⟩
   .exact .inl e
   .exact .inr ⟨k,c,hc,uh ic⟩
  .intro y c hc
   obtain⟨v,ic⟩:=eV.cell y c hc;exact⟨v,uh ic⟩
  .exact Heap.lt_size (I.pin p hp).1
 exact⟨_,_,rfl,main _ _ _ _ rfl rfl rfl λh=>Heap.get?_push_size _ rfl⟩
end
structure Hr(X:Cx)(W:WX)(it:Addr)(ds:List Z.D)(fin:kn)(bP:Nat->Z.Store->Prop)(U:Nat->Z.Store->Z.Store)(jV:NZ)(cl:List Addr):Prop where
 obj:∀{i fp ae H s} {pins:List (Addr×Obj)} {σ:L2.St},jV i fp ae H s->Inv X pins σ H s->(∃g,s.heap.IsGen it g)/\(∀b∈fp,(∃o,s.heap.get? b=some o/\∀v,o.data≠.cell v)/\H b=none/\b≠X.env.locals/\b∉X.fs)/\x5 X cl H s.heap
 mem:∀{i fp ae H s},jV i fp ae H s->it∈fp
 keep:∀{i fp ae H s ag H' s'},jV (i+1) fp ae H s->Z.Ext ae H ag H'->(∀b∈fp,H' b=none)->NY fp s s'->(∀b∈cl,H' b=none)->(∀b∈cl,∀o,s.heap.get? b=some o->s'.heap.get? b=some o)->jV (i+1) fp ag H' s'
 item:∀{i fp ae H s} (pins:List (Addr×Obj)) (σ:L2.St) (S:Z.Store) (hi:i<ds.length),bP i S->jV i fp ae H s->Inv X pins σ H s->Z.aD X.K X.mg ae H S->(∀p∈X.pn++pins,p.1∉fp) ->
  wpAny (model X.prog X.w) X.A (pyNext (.ref it)) (λr s1=>∃u x ag H' x6,r=some u/\RelV x u/\Inv X pins σ H' s1/\Z.Ext ae H ag H'/\Z.aD X.K X.mg ag H' (U i S)/\Z.Rep X.K X.mg ag H' ds[i] x/\jV (i+1) x6 ag H' s1/\∀p∈X.pn++pins,p.1∉x6) X.xe s
 stop:fin=.done->∀{fp ae H s} (pins:List (Addr×Obj)) (σ:L2.St) (S:Z.Store),bP ds.length S->jV ds.length fp ae H s->Inv X pins σ H s->Z.aD X.K X.mg ae H S->(∀p∈X.pn++pins,p.1∉fp) ->
  wpAny (model X.prog X.w) X.A (pyNext (.ref it)) (λr s1=>r=none/\∃ag H',Inv X pins σ H' s1/\Z.Ext ae H ag H'/\Z.aD X.K X.mg ag H' (U ds.length S)) X.xe s
 exc:∀{e},fin=.ex e->∀{fp ae H s} (pins:List (Addr×Obj)) (σ:L2.St) (S:Z.Store),bP ds.length S->jV ds.length fp ae H s->Inv X pins σ H s->Z.aD X.K X.mg ae H S->(∀p∈X.pn++pins,p.1∉fp) ->
  (∀C dd ag H',Z.Ext ae H ag H'->Z.aD X.K X.mg ag H' S->Z.h3 X.K X.mg ag H' e C dd->W C dd σ H') ->
  wpAny (model X.prog X.w) X.A (pyNext (.ref it)) (λ_ _=>False) X.xe s
abbrev kq:=Z.aJ->Z.Store->Z.Out (List Z.D×kn×(Nat->Z.Store->Prop)×(Nat->Z.Store->Z.Store))
def Hs(X:Cx)(W:WX)(iter:Expr)(ge:kq):Prop :=
 ∀(pins:List (Addr×Obj)) (s:Shared) (σ:L2.St) (ae:List Addr) (H:Hp) (S:Z.Store) (sl:Z.aJ),Inv X pins σ H s->Z.aD X.K X.mg ae H S->Z.bM X.K X.mg ae H σ sl->match ge sl S with
 | .bad=>True
 | .ex e S1=>(∀C dd ag H',Z.Ext ae H ag H'->Z.aD X.K X.mg ag H' S1->Z.h3 X.K X.mg ag H' e C dd->W C dd σ H')->wpAny (model X.prog X.w) X.A (eval iter X.env) (λ_ _=>False) X.xe s
 | .ok p S1=>wpAny (model X.prog X.w) X.A (eval iter X.env) (λv s1=>∃it aA H1 fp jV cl,v=.ref it/\Inv X pins σ H1 s1/\Z.Ext ae H aA H1/\Z.aD X.K X.mg aA H1 S1/\Hr X W it p.1 p.2.1 p.2.2.1 p.2.2.2 jV cl/\jV 0 fp aA H1 s1/\∀q∈X.pn++pins,q.1∉fp) X.xe s
def kn.x7(fin:kn)(u:Z.Store->Z.Store):Z.SX:=match fin with
 | .done=>λsl S=>.nx sl (u S)
 | .ex e=>λsl S=>.ex e sl S
def kr(bP:Nat->Z.Store->Prop)(U:Nat->Z.Store->Z.Store)(fin:kn)(g:Z.cX)(body:Z.SX):Nat->List Z.D->Z.SX
 |i,[],sl,S=>open Classical in if bP i S then fin.x7 (U i) sl S else .bad
 |i,d::ds,sl,S=>open Classical in if bP i S then(match g d sl (U i S)with
  | .nx a7 S1=>(match body a7 S1 with
   | .nx aT S2=>kr bP U fin g body (i+1) ds aT S2
   | .ct aT S2=>kr bP U fin g body (i+1) ds aT S2
   | .bk aT S2=>.nx aT S2
   |r=>r)
  |_=>.bad)else .bad
def uV(ge:kq)(g:Z.cX)(body:Z.SX):Z.SX:=λsl S=>(ge sl S).toS sl λp ah=>kr p.2.2.1 p.2.2.2 p.2.1 g body 0 p.1 sl ah
section
variable{X:Cx}{W:WX}{f:Z.SX}{g:Z.cX}{ge:kq}{pos:Pos}
theorem Ht{tg iter:Expr}{body:List Stmt}(hp:PassesOwn (model X.prog X.w) X.A X.env X.xe)(hx:G6 X)(hi:Hs X W iter ge)(hg:Z.q1 X W tg g)(hb:Z.fx X W body f)
  (hs:∀x,foldedSetIterable iter X.env x=pure x:=by intro _;rfl):Z.ES X W (.For tg iter body [] pos) (uV ge g f):=by
 refine⟨λpins s σ H D I h=>?_⟩;obtain⟨ae,S,sl,w,rs,p⟩:=h;have p:Z.bj X.K X.mg W ae H D ((ge sl S).toS sl λp ah=>kr p.2.2.1 p.2.2.2 p.2.1 g f 0 p.1 sl ah):=p;have h0:=hi pins s σ ae H S sl I w rs;cases q:ge sl S with
 |bad=>rw[q]at p;exact p.elim
 |ex e S1 =>
  rw[q]at p h0;refine wpAny_For (thn (h0 λC dd ag H' y bT r=>p C dd σ ag H' y bT (rs.ext y) r) λ_ _ z=>z.elim) hs
 |ok pr S1 =>
  rw[q]at p h0;obtain⟨ds,fin,bP,U⟩:=pr;refine wpAny_For (thn h0 λv s1 ⟨it,aA,H1,wG,jV,cl,e,I1,x1,aF,T,t1,Y7⟩=>?_) hs;subst e;obtain⟨⟨ahE,gU⟩,_,_⟩:=T.obj t1 I1;refine wpAny_pyIter_gen gU ?_;have p1:Z.bj X.K X.mg W aA H1 D (kr bP U fin g f 0 ds sl S1):=Z.bj.from x1 p;refine codeAny_forLoop_any (λn s'=>∃i bg ag H' ah b7 fp,i+n=ds.length/\Inv X pins bg H' s'/\Z.aD X.K X.mg ag H' ah/\Z.bM X.K X.mg ag H' bg b7/\jV i fp ag H' s'/\(∀q∈X.pn++pins,q.1∉fp)/\Z.bj X.K X.mg W ag H' D (kr bP U fin g f i (ds.drop i) b7 ah)) ?_ ds.length ⟨0,σ,aA,H1,S1,sl,wG,by omega,I1,aF,rs.ext x1,t1,Y7,by simpa using p1⟩;rintro n s3 ⟨i,sk,e9,cF,aX,tL,ahF,hn,g',eO,cA,t3,Hu,bG⟩;cases n with
  |zero =>
   have hi:i=ds.length:=by omega
   subst hi;rw[y3]at bG;have bG:Z.bj X.K X.mg W e9 cF D (open Classical in if bP ds.length aX then fin.x7 (U ds.length) tL aX else .bad):=bG;have d2:bP ds.length aX:=by
    by_cases z:bP ds.length aX
    .exact z
    .rw[if_neg z]at bG
     exact bG.elim
   rw[if_pos d2]at bG;cases fin with
   |done =>
    refine wpAny_passesOwn hp (thn (T.stop rfl pins sk aX d2 t3 g' eO Hu) λr s4 ⟨hr,iG,dJ,fL,cR,jF⟩=>?_);subst hr;exact wpAny_execs_nil ⟨sk,dJ,fL,bG sk iG dJ cR jF (cA.ext cR)⟩
   |ex e =>
    exact wpAny_passesOwn hp (thn (T.exc rfl pins sk aX d2 t3 g' eO Hu λC dd ag H' y bT r=>bG C dd sk ag H' y bT (cA.ext y) r) λ_ _ z=>z.elim)
  |succ n =>
   have cC:i<ds.length:=by omega
   rw[(y4 cC).symm]at bG;have bG:Z.bj X.K X.mg W e9 cF D (open Classical in if bP i aX then(match g ds[i] tL (U i aX)with
     | .nx a7 S1=>(match f a7 S1 with
      | .nx aT S2=>kr bP U fin g f (i+1) (ds.drop (i+1)) aT S2
      | .ct aT S2=>kr bP U fin g f (i+1) (ds.drop (i+1)) aT S2
      | .bk aT S2=>.nx aT S2
      |r=>r)
     |_=>.bad)else .bad):=bG
   have d2:bP i aX:=by
    by_cases z:bP i aX
    .exact z
    .rw[if_neg z]at bG
     exact bG.elim
   rw[if_pos d2]at bG;refine wpAny_passesOwn hp (thn (T.item pins sk aX cC d2 t3 g' eO Hu) λr s4 ⟨u,x,iG,dJ,jW,hr,b6,fL,cR,jF,aC,x8,Y8⟩=>?_);subst hr;obtain⟨⟨ahG,ahH,nm,gy,Y9,Y_,Y',_⟩,B4,x9⟩:=T.obj x8 fL;have x':∀b∈jW,b∉cl:=λb hb hc=>by
    obtain⟨⟨o,aS,kf⟩,_⟩:=B4 b hb;obtain⟨⟨eE,v,mA,bB⟩,_⟩:=x9 b hc;rw[aS]at mA;cases mA;exact kf v bB
   have sq:∀b∈cl,dJ b=none:=λb hb=>(x9 b hb).2.1;refine wpAny_passesOwn hp (go_of Y9 Y_ Y' (by decide) ?_);have pinned:∀{bg:L2.St} {H':Hp} {s':Shared},Inv X pins bg H' s'->(∀b∈jW,∀o,s4.heap.get? b=some o->s'.heap.get? b=some o)->(∀b∈jW,H' b=none)->Inv X (pins++ho jW s4.heap) bg H' s':=λ{bg H' s'} J hk hn=>J.pins_of λp hp=>by
    rcases mK.mp hp with z|z
    .exact J.pin p (mM _ z)
    .obtain⟨gL,d9⟩:=uN.mp z
     obtain⟨⟨o,aS,kf⟩,_,aH,bQ⟩:=B4 p.1 gL;rw[aS]at d9;cases d9;exact⟨hk p.1 gL _ aS,hn p.1 gL,aH,bQ,kf⟩
   have kept:∀{bg:L2.St} {H':Hp} {s':Shared},Inv X (pins++ho jW s4.heap) bg H' s'->Inv X pins bg H' s'/\(∀b∈jW,∀o,s4.heap.get? b=some o->s'.heap.get? b=some o)/\∀b∈jW,H' b=none:=λ{bg H' s'} J=>by
    refine⟨J.unpinned,λb hb o aS=>(J.pin (b,o) (mM _ (mM _ (uN.mpr ⟨hb,aS⟩)))).1,λb hb=>?_⟩;obtain⟨⟨o,aS,_⟩,_⟩:=B4 b hb;exact(J.pin (b,o) (mM _ (mM _ (uN.mpr ⟨hb,aS⟩)))).2.1
   have dZ:Z.Ext iG dJ iG (il dJ s4.heap cl):=Hn sq;have i':=Ot (s:=s4) jF sq;have Zb:=pinned (Ou (s:=gT s4) (hY (s':=gT s4) fL rfl rfl (uJ fL.bare)) x9) (λb _ o aS=>aS) (λb hb=>(iV (x' b hb)).trans (B4 b hb).2.1);have b3:=Z.bj.from cR bG;cases bq:g ds[i] tL (U i aX)with
   |nx gK cY =>
    have b3:Z.bj X.K X.mg W iG dJ D (match g ds[i] tL (U i aX)with
     | .nx a7 S1=>(match f a7 S1 with
      | .nx aT S2=>kr bP U fin g f (i+1) (ds.drop (i+1)) aT S2
      | .ct aT S2=>kr bP U fin g f (i+1) (ds.drop (i+1)) aT S2
      | .bk aT S2=>.nx aT S2
      |r=>r)
     |_=>.bad):=b3
    rw[bq]at b3;dsimp only at b3;have cx:=Z.bj.from dZ b3;refine wpAny_passesOwn hp (uK (wpAny_mono (hg.run _ (gT s4) sk (il dJ s4.heap cl) x u (λbg H'=>∃ag,Z.Ext iG (il dJ s4.heap cl) ag H'/\Z.aD X.K X.mg ag H' cY/\Z.bM X.K X.mg ag H' bg gK) Zb b6 ⟨iG,U i aX,tL,ds[i],i',cA.ext (cR.trans dZ),aC.ext dZ,?_⟩) (λ_ dk k7 B5 jT=>?_) λe dk k7 B5 jT=>?_))
    .rw[bq]
     exact λbg ag H' y bT bN=>⟨ag,y,bT,bN⟩
    .obtain⟨Hv,e0,iq,g_,du,kc,Zd⟩:=k7
     have B6:Inv X (pins++ho jW s4.heap) Hv e0 B5:=hY iq jT.heap jT.os (jT.bare fL.bare iq.bare);have Hw:Inv X (pins++ho jW s4.heap) Hv e0 (gT B5):=hY B6 rfl rfl (uJ B6.bare);have de:=Z.bj.from du cx;refine wpAny_passesOwn hp (uK (wpAny_mono (hb.run _ (gT B5) Hv e0 { nx:=λbg H'=>∃ag ah b7,Z.Ext g_ e0 ag H'/\Z.aD X.K X.mg ag H' ah/\Z.bM X.K X.mg ag H' bg b7/\(f gK cY=.nx b7 ah\/f gK cY=.ct b7 ah),ct:=λbg H'=>∃ag ah b7,Z.Ext g_ e0 ag H'/\Z.aD X.K X.mg ag H' ah/\Z.bM X.K X.mg ag H' bg b7/\(f gK cY=.nx b7 ah\/f gK cY=.ct b7 ah),bk:=D.nx,rt:=D.rt } Hw ⟨g_,cY,gK,kc,Zd,?_⟩) (λfl oY jS mC lg=>?_) λe oY jS mC lg=>?_))
     .cases bK:f gK cY with
      |nx jX fC=>exact λdP df bS B7 kY jN=>⟨df,fC,jX,B7,kY,jN,.inl rfl⟩
      |ct jX fC=>exact λdP df bS B7 kY jN=>⟨df,fC,jX,B7,kY,jN,.inr rfl⟩
      |bk jX fC=>simp only[bK]at de;exact de
      |rt Lp fC=>simp only[bK]at de;exact de
      |ex OI jX fC=>simp only[bK]at de;exact de
      |bad=>simp only[bK]at de;exact de
     .have back:∀{dP:L2.St} {bS:Hp},Inv X (pins++ho jW s4.heap) dP bS oY->Inv X pins dP bS mC/\(∀b∈jW,∀o,s4.heap.get? b=some o->mC.heap.get? b=some o)/\∀b∈jW,bS b=none:=λgC=>kept (hY gC lg.heap lg.os (lg.bare B6.bare gC.bare))
      have again:∀{dP:L2.St} {bS:Hp},Inv X (pins++ho jW s4.heap) dP bS oY->(∃ag ah b7,Z.Ext g_ e0 ag bS/\Z.aD X.K X.mg ag bS ah/\Z.bM X.K X.mg ag bS dP b7/\(f gK cY=.nx b7 ah\/f gK cY=.ct b7 ah))->∃m,m<n+1/\∃i bg ag H' ah b7 fp,i+m=ds.length/\Inv X pins bg H' mC/\Z.aD X.K X.mg ag H' ah/\Z.bM X.K X.mg ag H' bg b7/\jV i fp ag H' mC/\(∀q∈X.pn++pins,q.1∉fp)/\Z.bj X.K X.mg W ag H' D (kr bP U fin g f i (ds.drop i) b7 ah):=λ{dP bS} gC ⟨df,fC,jX,d0,kY,jN,gu⟩=>by
       obtain⟨OJ,Ze,Zf⟩:=back gC;have tr:=Ov (s:=s4) x9 jF (du.trans d0);have OL:=Ox (s:=s4) sq (du.trans d0);have tk:∀b∈cl,∃o,bS b=some (.frz o (.own 1)):=λb hb=>by
        obtain⟨_,o,_,e⟩:=tr b hb;exact⟨o,e⟩
       have OM:∀b∈cl,b∉df/\∃o,bS b=some (.frz o (.own 1)):=λb hb=>⟨(tr b hb).1,tk b hb⟩
       refine⟨n,mL n,i+1,dP,df,jU bS cl,fC,jX,jW,by omega,OB fL x9 OJ tk,OA kY OM,YZ jN OM,T.keep x8 OL (λb hb=>(jt (x' b hb)).trans (Zf b hb)) ⟨Ze,λj x h1 h2=>lg.kept j x (jT.kept j x h1 h2) h2⟩ (λb hb=>B3 hb) (OD OJ tr),Y8,?_⟩;refine Z.bj.from OL ?_;rcases gu with z|z
       .rw[z]at b3;exact b3
       .rw[z]at b3;exact b3
      cases fl with
      |next=>obtain⟨dP,bS,gC,tZ⟩:=jS;exact again gC tZ
      |cont=>obtain⟨dP,bS,gC,tZ⟩:=jS;exact again gC tZ
      |brk=>obtain⟨dP,bS,gC,Hx⟩:=jS;exact⟨dP,bS,(back gC).1,Hx⟩
      |ret v=>obtain⟨d0,dP,bS,gC,jN,Hx⟩:=jS;exact⟨d0,dP,bS,(back gC).1,jN,Hx⟩
     .rw[lg.eq]
      exact hx e _ _ lg.sl (NX B6.bare) jS
    .rw[jT.eq]
     exact hx e _ _ jT.sl (NX fL.bare) k7
   |bk jI bV=>rw[bq]at b3;exact b3.elim
   |ct jI bV=>rw[bq]at b3;exact b3.elim
   |rt Eh bV=>rw[bq]at b3;exact b3.elim
   |ex fz jI bV=>rw[bq]at b3;exact b3.elim
   |bad=>rw[bq]at b3;exact b3.elim
end
section
variable{M:Model}{A:Around}{F:kl}{c:Code}{fs:List Frame}{s:Shared}{env:Env}{K:Flow->Sem PySem.Fin}{J:Value->Sem PySem.Fin}{gd:Bool->Bool}{lv:List Value->List Value}
theorem Zg{test:Expr}{body orelse:List Stmt}{pos:Pos}
  (h:∀p,b2 M A (.whileLoop test body orelse env) (M.den (.whileLoop test body orelse env))
   (.ret (λr=>((match r with|.ok f=>(.pure f:Sem Flow)|.error e=>.raise e).onRaise (L2.cameBack env)).wrap K J gd lv) none (gd false) (lv []) c p []::fs) s F) :
  b2 M A c ((exec (.While test body orelse pos) env).wrap K J gd lv) fs s F :=
 GV (X7 h)
end
section
variable{prog:Program}{w:World}{A:Around}{F:kl}{fs:List Frame}{s:Shared}{env:Env}
theorem Zh{test:Expr}{body:List Stmt}
  (h:wpAny (model prog w) (A.over (.whileLoop test body [] env) fs) (isTrue test env (eval test env)) (λb s' =>
    if b=true then
     b2 (model prog w) A (.whileLoop test body [] env) ((execs body env).wrap (λf=>match f with
      | .next|.cont=>.pure (.again (.whileLoop test body [] env))
      | .brk=>.pure (.done .next)
      | .ret v=>.pure (.done (.ret v))) (r5 env) id id) fs s' F
    else b2 (model prog w) A (.whileLoop test body [] env) (leafOf (.ok .next)) fs s' F)
   (λx s'=>b2 (model prog w) A (.whileLoop test body [] env) (r5 env x) fs s' F) s) :
  b2 (model prog w) A (.whileLoop test body [] env) ((model prog w).den (.whileLoop test body [] env)) fs s F:=by
 show b2 _ A _ ((whileTurn test body [] env).onRaise (λx=>do noteFrame x env;theTreesLotGoes x)) fs s F;unfold whileTurn;rw[Sem.onRaise_eq_wrap,Sem.bind_eq_wrap',Sem.wrap_wrap];refine nr (wpAny_mono h (λb s' hb=>?_) λx s' hx=>?_)
 .cases b with
  |true =>
   rw[if_pos rfl]at hb;show b2 _ A _ (Sem.wrap _ _ _ _ (if true=true then _ else _)) fs s' F;rw[if_pos rfl,Sem.bind_eq_wrap',Sem.wrap_wrap];rw[Sem.wrap_congr (execs body env) _ _ (K':=λf=>match f with
      | .next|.cont=>.pure (.again (.whileLoop test body [] env))
      | .brk=>.pure (.done .next)
      | .ret v=>.pure (.done (.ret v))) (H':=r5 env)
    (λf=>by cases f<;>rfl)
    (λe=>by first|exact Sem.bind_eq_wrap _ _|(show(do noteFrame e env;theTreesLotGoes e:Sem Unit).bind (λ_=>.raise e)=_;rw[Sem.bind_eq_wrap]))]
   exact hb
  |false =>
   rw[if_neg jy]at hb;show b2 _ A _ (Sem.wrap _ _ _ _ (if false=true then _ else _)) fs s' F;rw[if_neg jy];exact hb
 .show b2 _ A _ ((do noteFrame x env;theTreesLotGoes x:Sem Unit).bind (λ_=>(.raise x:Sem PySem.Fin))) fs s' F
  rw[Sem.bind_eq_wrap];exact hx
end
structure ju where
 pre:List Stmt
 test:Expr
 As:List Stmt
 uO:Expr
 uP:Pos
 pos:Pos
 r9:List Stmt
 OO:Pos
def ju.G8(h:ju):Stmt:=.Expr (.Yield (some h.uO) h.uP) h.pos
def ju.loop(h:ju):List Stmt:=h.As++h.G8::h.r9
def ju.body(h:ju):List Stmt:=h.pre++[.While h.test h.loop [] h.OO]
abbrev OQ(t:Expr)(body:List Stmt)(env:Env):Flow->Sem PySem.Fin:=λfl=>match fl with
 | .next|.cont=>.pure (.again (.whileLoop t body [] env))
 | .brk=>.pure (.done .next)
 | .ret v=>.pure (.done (.ret v))
structure B9(C:Cx)(W:WX)(sh:ju)(fT:Z.b9)(fA:Z.SX)(fE:Z.aQ)(fB:Z.SX):Prop where
 t:Z.h4 C W sh.test fT
 A:Z.fx C W sh.As fA
 e:Z.E C W sh.uO fE
 B:Z.fx C W sh.r9 fB
def ku(fT:Z.b9)(fA:Z.SX)(fE:Z.aQ)(ds:List Z.D)(slA slY:Nat->Z.aJ)(j:Nat)(S ah:Z.Store):Prop :=
 if h:j<ds.length then fT (slA j) S=.ok true S/\fA (slA j) S=.nx (slY j) ah/\fE (slY j) ah=.ok ds[j] ah else fT (slA j) S=.ok false S/\ah=S
structure Hy(bP:Nat->Z.Store->Prop)(U:Nat->Z.Store->Z.Store)(fT:Z.b9)(fA:Z.SX)(fE:Z.aQ)(fB:Z.SX)(ds:List Z.D)(slA slY:Nat->Z.aJ):Prop where
 b:∀i,i<ds.length->∀S,bP (i+1) S->∃S1,fB (slY i) S=.nx (slA (i+1)) S1/\ku fT fA fE ds slA slY (i+1) S1 (U (i+1) S)
section
variable{X:Cx}{N:List Str}{qual:Str}{scope:Scope}{f:Addr}{cd:Value}{n:Addr}{own:List Addr}{s s1:Shared}{H H1:Hp}{W:WX}{sh:ju}{F:kl}{p:Pos}
theorem B_:X.A.in1.over (.func sh.body (envOfC qual scope n f cd)) []=X.A.in1.deeper (envOfC qual scope n f cd):=over_func
theorem ya:X.A.in1.over (.whileLoop sh.test sh.loop [] (envOfC qual scope n f cd)) (i7 (envOfC qual scope n f cd) sh.body p)=X.A.in1.deeper (envOfC qual scope n f cd):=(over_loop rfl rfl).trans B_
theorem B'(hF:∀e s2,k_ (la X N qual scope f cd n own s H) W e s2->F (.ret (.error e)) s2){e:Value}(h:((d1 X N qual scope f cd n own s H W)).xe e s1):b2 (model X.prog X.w) X.A.in1 (.func sh.body (envOfC qual scope n f cd)) (BP (envOfC qual scope n f cd) e) [] s1 F:=by
 refine nr ?_;rw[B_];exact wpAny_mono h (λ_ s2 q=>NP (.error e) (hF e s2 q)) λ_ _ z=>z.elim
theorem OS(hF:∀e s2,k_ (la X N qual scope f cd n own s H) W e s2->F (.ret (.error e)) s2){e:Value}(h:cameBackBy (model X.prog X.w) (X.A.in1.deeper (envOfC qual scope n f cd)) (envOfC qual scope n f cd) ((d1 X N qual scope f cd n own s H W)).xe e s1):b2 (model X.prog X.w) X.A.in1 (.func sh.body (envOfC qual scope n f cd)) (N4 (envOfC qual scope n f cd) (.error e)) [] s1 F:=by
 show b2 _ _ _ (((L2.cameBack (envOfC qual scope n f cd) e).bind λ_=>(Sem.raise e:Sem Flow)).wrap (N3 (envOfC qual scope n f cd)) (BP (envOfC qual scope n f cd)) id id) _ _ _;rw[Sem.bind_eq_wrap,Sem.wrap_wrap];refine nr ?_;rw[B_];exact wpAny_mono h (λ_ s2 hx=>B' hF hx) λx s2 hx=>B' hF hx
theorem OT(hF:∀e s2,k_ (la X N qual scope f cd n own s H) W e s2->F (.ret (.error e)) s2){e:Value}(h:((d1 X N qual scope f cd n own s H W)).xe e s1):b2 (model X.prog X.w) X.A.in1 (.whileLoop sh.test sh.loop [] (envOfC qual scope n f cd)) (r5 (envOfC qual scope n f cd) e) (i7 (envOfC qual scope n f cd) sh.body p) s1 F:=by
 have hp:PassesOwn (model X.prog X.w) (X.A.in1.deeper (envOfC qual scope n f cd)) (envOfC qual scope n f cd) ((d1 X N qual scope f cd n own s H W)).xe:=N1;refine nr ?_;rw[ya];refine wpAny_bind (wpAny_mono (hp e s1 h) (λ_ s2 Hz=>wpAny_theTreesLotGoes ?_) λy s2 Hz=>?_)
 .exact GW (.error e) (OS hF Hz)
 .exact GW (.error y) (OS hF Hz)
theorem Zi(h:F (.ret (.ok (.ret .none))) s1):b2 (model X.prog X.w) X.A.in1 (.whileLoop sh.test sh.loop [] (envOfC qual scope n f cd)) (leafOf (.ok .next)) (i7 (envOfC qual scope n f cd) sh.body p) s1 F :=
 GW (.ok .next) (NP (.ok (.ret .none)) h)
def OU(X:Cx)(o1:Env)(sh:ju)(p:Pos)(gs:GenState):Prop :=
 ∃(k:Resume->Sem PySem.Fin) (l:List Value) (cw:Pos) (cl:Bool),gs=.suspended k l (.whileLoop sh.test sh.loop [] o1) cw (i7 o1 sh.body p) cl/\gs.bare=true /\
  ∀(qm:kl) (s2:Shared),b2 (model X.prog X.w) X.A.in1 (.whileLoop sh.test sh.loop [] o1) ((execs sh.r9 o1).wrap (OQ sh.test sh.loop o1) (r5 o1) id id) (i7 o1 sh.body p) s2 qm ->
   b2 (model X.prog X.w) X.A.in1 (.whileLoop sh.test sh.loop [] o1) (k (.send .none)) (i7 o1 sh.body p) s2 qm
variable{fT:Z.b9}{fA fB:Z.SX}{fE:Z.aQ}{ds:List Z.D}{slA slY:Nat->Z.aJ}{bP:Nat->Z.Store->Prop}{U:Nat->Z.Store->Z.Store}{ae aA:List Addr}{S ah:Z.Store}
structure Ca(X:Cx)(N:List Str)(qual:Str)(scope:Scope)(f:Addr)(cd:Value)(n:Addr)(own:List Addr)(s:Shared)(H:Hp)(W:WX)(sh:ju)(ds:List Z.D)(slY:Nat->Z.aJ)(ae:List Addr)(ah:Z.Store)(j:Nat)(F:kl):Prop where
 fe:∀e s2,k_ (la X N qual scope f cd n own s H) W e s2->F (.ret (.error e)) s2
 fd:j=ds.length->∀s2 h_ aL aG,Inv (d1 X N qual scope f cd n own s H W) [] h_ aG s2->Z.Ext ae H aL aG->Z.aD X.K X.mg aL aG ah->F (.ret (.ok (.ret .none))) s2
 rZ:∀(hl:j<ds.length) p v g l k c cw fs s2 x h_ aL aG,Inv (d1 X N qual scope f cd n own s H W) [] h_ aG s2->RelV x v->Z.Ext ae H aL aG->Z.aD X.K X.mg aL aG ah->Z.bM X.K X.mg aL aG h_ (slY j)->Z.Rep X.K X.mg aL aG ds[j] x ->
   (End.susp v g l k c cw fs).quiet=true->OU X (envOfC qual scope n f cd) sh p (End.susp v g l k c cw fs).genState->F (.susp v g l k c cw fs) s2
theorem OV(hc:B9 (d1 X N qual scope f cd n own s H W) W sh fT fA fE fB)(r4:scope.isCoroutine=false)(hint:interactive (envOfC qual scope n f cd)=false)
  {j:Nat} (bH:j<=ds.length) (hh:ku fT fA fE ds slA slY j S ah) (qp:Ca X N qual scope f cd n own s H W sh ds slY ae ah j F)
  {h8:L2.St} (I1:Inv (d1 X N qual scope f cd n own s H W) [] h8 H1 s1) (x1:Z.Ext ae H aA H1) (aF:Z.aD X.K X.mg aA H1 S) (r1:Z.bM X.K X.mg aA H1 h8 (slA j)) :
  b2 (model X.prog X.w) X.A.in1 (.whileLoop sh.test sh.loop [] (envOfC qual scope n f cd)) ((model X.prog X.w).den (.whileLoop sh.test sh.loop [] (envOfC qual scope n f cd))) (i7 (envOfC qual scope n f cd) sh.body p) s1 F:=by
 have ex:∀{e:Value} {s2:Shared},((d1 X N qual scope f cd n own s H W)).xe e s2->b2 (model X.prog X.w) X.A.in1 (.whileLoop sh.test sh.loop [] (envOfC qual scope n f cd)) (r5 (envOfC qual scope n f cd) e) (i7 (envOfC qual scope n f cd) sh.body p) s2 F:=λh=>OT qp.fe h;refine Zh ?_;rw[ya];unfold ku at hh;by_cases hl:j<ds.length
 .rw[dif_pos hl]at hh
  obtain⟨h1,h2,aH⟩:=hh;refine wpAny_mono (hc.t.run [] s1 h8 H1 (λb H'=>b=true/\∃ag,Z.Ext aA H1 ag H'/\Z.aD X.K X.mg ag H' S) I1 ⟨aA,S,slA j,aF,r1,?_⟩) (λb s4 bQ=>?_) λe s4 h=>ex h
  .rw[h1]
   exact λag H' y bT=>⟨rfl,ag,y,bT⟩
  .obtain⟨dJ,fL,rfl,iG,cR,jF⟩:=bQ
   rw[if_pos rfl];have dS:=r1.ext cR;refine N5 sh.As ?_;refine nr ?_;rw[ya];refine wpAny_mono (hc.A.run _ s4 h8 dJ { nx:=λbg H'=>∃ag,Z.Ext iG dJ ag H'/\Z.aD X.K X.mg ag H' ah/\Z.bM X.K X.mg ag H' bg (slY j),rt:=λ_ _=>False } fL ⟨iG,S,slA j,jF,dS,?_⟩) (λfl s5 cn=>?_) λe s5 h=>ex h
   .rw[h2]
    exact λbg ag H' y bT bN=>⟨ag,y,bT,bN⟩
   cases fl with
   |next =>
    obtain⟨q4,mS,ig,j8,dZ,i',iH⟩:=cn;refine NQ ?_;refine X_ rfl rfl rfl ?_ r4 hint;rw[ya];refine wpAny_mono (hc.e.run _ s5 q4 mS (λv H'=>∃ag,Z.Ext j8 mS ag H'/\Z.aD X.K X.mg ag H' ah/\Z.Rep X.K X.mg ag H' ds[j] v) ig ⟨j8,ah,slY j,i',iH,?_⟩) (λv dk k7=>?_) λe dk h=>ex h
    .rw[aH]
     exact λv ag H' y bT bN=>⟨ag,y,bT,bN⟩
    .obtain⟨Zj,e0,iq,aO,g_,du,kc,aC⟩:=k7
     intro g l k cw hq jq;exact qp.rZ hl p v g l k _ cw _ dk Zj q4 g_ e0 iq aO (x1.trans (cR.trans (dZ.trans du))) kc (iH.ext du) aC hq ⟨k,l,cw,_,rfl,End.bare_of_quiet hq,λqm s2 hg=>jq .none qm s2 hg⟩
   |brk=>obtain⟨_,_,_,z⟩:=cn;exact z.elim
   |cont=>obtain⟨_,_,_,z⟩:=cn;exact z.elim
   |ret v=>obtain⟨_,_,_,_,_,z⟩:=cn;exact z.elim
 .rw[dif_neg hl]at hh
  obtain⟨h1,rfl⟩:=hh;have Zk:j=ds.length:=by omega
  refine wpAny_mono (hc.t.run [] s1 h8 H1 (λb H'=>b=false/\∃ag,Z.Ext aA H1 ag H'/\Z.aD X.K X.mg ag H' ah) I1 ⟨aA,ah,slA j,aF,r1,?_⟩) (λb s4 bQ=>?_) λe s4 h=>ex h
  .rw[h1]
   exact λag H' y bT=>⟨rfl,ag,y,bT⟩
  .obtain⟨dJ,fL,rfl,iG,cR,jF⟩:=bQ
   rw[if_neg jy];exact Zi (qp.fd Zk s4 h8 iG dJ fL (x1.trans cR) jF)
theorem Zm(hc:B9 (d1 X N qual scope f cd n own s H W) W sh fT fA fE fB)(L:Hy bP U fT fA fE fB ds slA slY)(r4:scope.isCoroutine=false)(hint:interactive (envOfC qual scope n f cd)=false){i:Nat}(hi:i<ds.length)(d2:bP (i+1) S)
  (qp:Ca X N qual scope f cd n own s H W sh ds slY ae (U (i+1) S) (i+1) F)
  {h8:L2.St} (I1:Inv (d1 X N qual scope f cd n own s H W) [] h8 H s) (aF:Z.aD X.K X.mg ae H S) (r1:Z.bM X.K X.mg ae H h8 (slY i)) :
  b2 (model X.prog X.w) X.A.in1 (.whileLoop sh.test sh.loop [] (envOfC qual scope n f cd)) ((execs sh.r9 (envOfC qual scope n f cd)).wrap (OQ sh.test sh.loop (envOfC qual scope n f cd)) (r5 (envOfC qual scope n f cd)) id id) (i7 (envOfC qual scope n f cd) sh.body p) s F:=by
 obtain⟨S1,hb,hh⟩:=L.b i hi S d2;refine nr ?_;rw[ya];refine wpAny_mono (hc.B.run _ s h8 H { nx:=λbg H'=>∃ag,Z.Ext ae H ag H'/\Z.aD X.K X.mg ag H' S1/\Z.bM X.K X.mg ag H' bg (slA (i+1)),rt:=λ_ _=>False } I1 ⟨ae,S,slY i,aF,r1,?_⟩) (λfl s5 cn=>?_) λe s5 h=>OT qp.fe h
 .rw[hb]
  exact λbg ag H' y bT bN=>⟨ag,y,bT,bN⟩
 cases fl with
 |next =>
  obtain⟨q4,mS,ig,j8,dZ,i',iH⟩:=cn;refine X8 rfl ?_;exact OV hc r4 hint hi hh qp ig dZ i' iH
 |brk=>obtain⟨_,_,_,z⟩:=cn;exact z.elim
 |cont=>obtain⟨_,_,_,z⟩:=cn;exact z.elim
 |ret v=>obtain⟨_,_,_,_,_,z⟩:=cn;exact z.elim
variable{bO:Z.SX}{sl0:Z.aJ}
theorem Zo(hpre:Z.fx (d1 X N qual scope f cd n own s H W) W sh.pre bO)(hc:B9 (d1 X N qual scope f cd n own s H W) W sh fT fA fE fB)(r4:scope.isCoroutine=false)(hint:interactive (envOfC qual scope n f cd)=false)
  (uW:∀e s2,k_ (la X N qual scope f cd n own s H) W e s2->F (.ret (.error e)) s2)
  (qq:(∃S1 S2,bO sl0 S=.nx (slA 0) S1/\ku fT fA fE ds slA slY 0 S1 S2/\Ca X N qual scope f cd n own s H W sh ds slY ae S2 0 F) \/
   (∃e sl,bO sl0 S=.ex e sl S/\∀C dd h_ aL aG,Z.Ext ae H aL aG->Z.aD X.K X.mg aL aG S->Z.h3 X.K X.mg aL aG e C dd->W C dd h_ aG))
  {h8:L2.St} (I1:Inv (d1 X N qual scope f cd n own s H W) [] h8 H s) (aF:Z.aD X.K X.mg ae H S) (r1:Z.bM X.K X.mg ae H h8 sl0) :
  b2 (model X.prog X.w) X.A.in1 (.func sh.body (envOfC qual scope n f cd)) ((model X.prog X.w).den (.func sh.body (envOfC qual scope n f cd))) [] s F:=by
 refine Ya ?_;refine N5 sh.pre ?_;refine nr ?_;rw[B_];rcases qq with⟨S1,S2,ao,hh,qp⟩|⟨e,sl,ao,jb⟩
 .refine wpAny_mono (hpre.run _ s h8 H { nx:=λbg H'=>∃ag,Z.Ext ae H ag H'/\Z.aD X.K X.mg ag H' S1/\Z.bM X.K X.mg ag H' bg (slA 0),rt:=λ_ _=>False } I1 ⟨ae,S,sl0,aF,r1,?_⟩) (λfl s5 cn=>?_) λe s5 h=>B' uW h
  .rw[ao]
   exact λbg ag H' y bT bN=>⟨ag,y,bT,bN⟩
  cases fl with
  |next =>
   obtain⟨q4,mS,ig,j8,dZ,i',iH⟩:=cn;refine NQ ?_;refine Zg λp=>?_;exact OV hc r4 hint (iD _) hh qp ig dZ i' iH
  |brk=>obtain⟨_,_,_,z⟩:=cn;exact z.elim
  |cont=>obtain⟨_,_,_,z⟩:=cn;exact z.elim
  |ret v=>obtain⟨_,_,_,_,_,z⟩:=cn;exact z.elim
 .refine wpAny_mono (hpre.run _ s h8 H { nx:=λ_ _=>False,rt:=λ_ _=>False } I1 ⟨ae,S,sl0,aF,r1,?_⟩) (λfl s5 cn=>?_) λe s5 h=>B' uW h
  .rw[ao]
   exact λC dd bg ag H' y bT bN hx=>jb C dd bg ag H' y bT hx
  .cases fl with
   |next=>obtain⟨_,_,_,z⟩:=cn;exact z.elim
   |brk=>obtain⟨_,_,_,z⟩:=cn;exact z.elim
   |cont=>obtain⟨_,_,_,z⟩:=cn;exact z.elim
   |ret v=>obtain⟨_,_,_,_,_,z⟩:=cn;exact z.elim
end
structure nB where
 N:List Str
 qual:Str
 scope:Scope
 f:Addr
 cd:Value
 n:Addr
 a:Addr
 g:Nat
 sh:ju
abbrev nB.ev(q:nB):Env:=envOfC q.qual q.scope q.n q.f q.cd
abbrev nB.HA(q:nB):xU:=⟨q.N,q.qual,q.scope,q.f,q.cd,q.n,q.a,q.g,⟨[],q.sh.test,q.sh.test,[],q.sh.uO,q.sh.uP,q.sh.pos,[],q.sh.OO⟩⟩
structure o2 where
 ds:List Z.D
 fin:kn
 slA:Nat->Z.aJ
 slY:Nat->Z.aJ
 sl0:Z.aJ
 bP:Nat->Z.Store->Prop
 U:Nat->Z.Store->Z.Store
def iu(X:Cx)(q:nB)(m:o2)(ρ0:List Addr)(H0:Hp):NZ:=λi fp ae H s =>
 Z.Ext ρ0 H0 ae H/\H q.n=none/\H q.a=none/\s.heap.IsGen q.a q.g/\fp=[q.a,q.n]/\∃e4,uU q.N q.scope q.ev q.n e4 s.heap/\(∀b∈e7 q.scope q.n,H b=none/\H0 b=none)/\∃gs,s.gens[q.g]?=some gs /\
  ((i=0/\gs=.fresh (.func q.sh.body q.ev)/\Z.bM X.K X.mg ae H e4 m.sl0) \/
   (∃k p,i=k+1/\k<m.ds.length/\OU X q.ev q.sh p gs/\Z.bM X.K X.mg ae H e4 (m.slY k)))
structure qs(X:Cx)(q:nB)(m:o2)(bO:Z.SX)(fT:Z.b9)(fA:Z.SX)(fE:Z.aQ)(fB:Z.SX):Prop where
 sc:xZ q.N q.scope
 co:q.scope.isCoroutine=false
 int:interactive q.ev=false
 pre:∀own s H W,Z.fx (d1 X q.N q.qual q.scope q.f q.cd q.n own s H W) W q.sh.pre bO
 pc:∀own s H W,B9 (d1 X q.N q.qual q.scope q.f q.cd q.n own s H W) W q.sh fT fA fE fB
 iQ:((∀S,m.bP 0 S->∃S1,bO m.sl0 S=.nx (m.slA 0) S1/\ku fT fA fE m.ds m.slA m.slY 0 S1 (m.U 0 S))/\Hy m.bP m.U fT fA fE fB m.ds m.slA m.slY/\m.fin=.done) \/
  (m.ds=[]/\∃e,m.fin=.ex e/\∀S,m.bP 0 S->∃sl,bO m.sl0 S=.ex e sl S)
section
variable{X:Cx}{q:nB}{m:o2}{ρ0:List Addr}{H0:Hp}{bO:Z.SX}{fT:Z.b9}{fA:Z.SX}{fE:Z.aQ}{fB:Z.SX}{i:Nat}{fp ae:List Addr}{H:Hp}{s:Shared}{pins:List (Addr×Obj)}{σ:L2.St}{S:Z.Store}{W k':WX}{F:kl}
theorem HB(d:qs X q m bO fT fA fE fB)(o:Old X H0 q.n q.a)(hd:X.A.handled=none)(hi:i<=m.ds.length)(d2:m.bP i S)(t:iu X q m ρ0 H0 i fp ae H s)(I:Inv X pins σ H s)(w:Z.aD X.K X.mg ae H S)(hp:∀p∈X.pn++pins,p.1∉fp)
  (uW:oV X pins q.n [] H->∀e s2,k_ (la X q.N q.qual q.scope q.f q.cd q.n [] (s.setGen q.g .running) H) W e s2->F (.ret (.error e)) s2)
  (HC:∀e,m.fin=.ex e->i=m.ds.length->∀C dd h_ aL aG,Z.Ext ae H aL aG->Z.aD X.K X.mg aL aG S->Z.h3 X.K X.mg aL aG e C dd->W C dd h_ aG)
  (wx:m.fin=.done->oV X pins q.n [] H->Ca X q.N q.qual q.scope q.f q.cd q.n [] (s.setGen q.g .running) H W q.sh m.ds m.slY ae (m.U i S) i F) :
  ∃gs,s.gens[q.g]?=some gs/\GZ (model X.prog X.w) X.A.in1 gs (s.setGen q.g .running) F:=by
 obtain⟨k5,hn,ha,gU,rfl,e4,fV,qt,gs,hX,qq⟩:=t;refine⟨gs,hX,?_⟩;have eJ:Inv X pins σ H (s.setGen q.g .running):=hY I rfl rfl (allBare_setGen I.bare rfl);have dj:q.n<=(s.setGen q.g .running).heap.objs.size:=by
  obtain⟨mm,ei,_⟩:=fV.loc;exact j2 ei.lt
 have y:oV X pins q.n [] H:=Ys (q:=q.HA) o k5 w hn hp (by simp);have I1:Inv (d1 X q.N q.qual q.scope q.f q.cd q.n [] (s.setGen q.g .running) H W) [] e4 H (s.setGen q.g .running):=YT d.sc hd eJ y dj o.bs fV hn (λb hb=>(qt b hb).1) (λp hp=>by cases hp);rcases qq with⟨rfl,rfl,r0⟩|⟨k,p,rfl,hk,jq,HD⟩
 .refine Zo (hpre:=d.pre _ _ _ _) (hc:=d.pc _ _ _ _) (ds:=m.ds) (slA:=m.slA) (slY:=m.slY) d.co d.int (uW y) ?_ I1 w r0
  rcases d.iQ with⟨h1,L,hf⟩|⟨h1,e,h2,aH⟩
  .obtain⟨S1,ao,hh⟩:=h1 S d2
   exact .inl ⟨S1,_,ao,hh,wx hf y⟩
  .obtain⟨sl,ao⟩:=aH S d2
   exact .inr ⟨e,sl,ao,λC dd h_ aL aG=>HC e h2 (by rw[h1];rfl) C dd h_ aL aG⟩
 .obtain⟨kk,l,cw,cl,rfl,ahI,iU⟩:=jq
  rcases d.iQ with⟨h1,L,hf⟩|⟨h1,_⟩
  .exact iU F _ (Zm (d.pc _ _ _ _) L d.co d.int hk d2 (wx hf y) I1 w HD)
  .rw[h1]at hk
   simp at hk
theorem Zq(o:Old X H0 q.n q.a)(t:iu X q m ρ0 H0 i fp ae H s)(I:Inv X pins σ H s):(∃g,s.heap.IsGen q.a g)/\(∀b∈fp,(∃o,s.heap.get? b=some o/\∀v,o.data≠.cell v)/\H b=none/\b≠X.env.locals/\b∉X.fs)/\x5 X (e7 q.scope q.n) H s.heap:=by
 obtain⟨k5,hn,ha,gU,rfl,e4,fV,qt,gs,hX,qq⟩:=t;have young:∀b,q.n<=b->b∉X.fs:=λb hb=>λz=>absurd (jA (o.uQ b z) hb) (jz _);have Zr:∃o,s.heap.get? q.a=some o/\∀v,o.data≠.cell v:=by
  obtain⟨o,nm,gy,aS,_,hd,_⟩:=gU;exact⟨o,aS,λv z=>by rw[hd]at z;cases z⟩
 have on:∃o,s.heap.get? q.n=some o/\∀v,o.data≠.cell v:=by
  obtain⟨mm,⟨o,es,dF,aS,hd,_⟩,_⟩:=fV.loc;exact⟨o,aS,λv z=>by rw[hd]at z;cases z⟩
 refine⟨⟨q.g,gU⟩,λb hb=>?_,λb hb=>?_⟩;rotate_left
 .obtain⟨x,hx⟩:=B2 hb
  obtain⟨v,ob,aS,bB⟩:=fV.cell x b hx;refine⟨⟨ob,_,aS,bB⟩,(qt b hb).1,λz=>?_,λy c hc=>fO (lD (o.km y c hc) (Hm hb)),o.s0 b (j2 (Hm hb)) (qt b hb).2⟩;obtain⟨mm,⟨eE,es,dF,mA,jE,_⟩,_⟩:=I.loc;rw[<-z,aS]at mA;cases mA;rw[bB]at jE;cases jE
 simp only[List.mem_cons,List.not_mem_nil,or_false]at hb;rcases hb with rfl|rfl
 .exact⟨Zr,ha,iA o.loc.2,young _ (j2 o.na)⟩
 .exact⟨on,hn,iA o.loc.1,young _ (dE _)⟩
theorem OW(t:iu X q m ρ0 H0 i fp ae H s):q.a∈fp/\q.n∈fp:=by
 obtain⟨_,_,_,_,rfl,_⟩:=t;simp
theorem Zt{ag:List Addr}{H':Hp}{s':Shared}(t:iu X q m ρ0 H0 (i+1) fp ae H s)(x:Z.Ext ae H ag H')(eF:∀b∈fp,H' b=none)(hk:NY fp s s')(Zu:∀b∈e7 q.scope q.n,H' b=none)(Cd:∀b∈e7 q.scope q.n,∀o,s.heap.get? b=some o->s'.heap.get? b=some o):iu X q m ρ0 H0 (i+1) fp ag H' s':=by
 have hm:=OW t;obtain⟨k5,hn,ha,gU,Ce,e4,fV,qt,gs,hX,qq⟩:=t;refine⟨k5.trans x,eF _ hm.2,eF _ hm.1,?_,Ce,e4,⟨?_,?_,fV.len⟩,λb hb=>⟨Zu b hb,(qt b hb).2⟩,?_⟩
 .obtain⟨o,nm,gy,aS,r⟩:=gU
  exact⟨o,nm,gy,hk.1 _ hm.1 o aS,r⟩
 .obtain⟨mm,⟨o,es,dF,aS,r⟩,look⟩:=fV.loc
  refine⟨mm,⟨o,es,dF,hk.1 _ hm.2 o aS,r⟩,λi x v h1 h2 aH=>?_⟩;obtain⟨u,b6,lk⟩:=look i x v h1 h2 aH;refine⟨u,b6,?_⟩;rcases lk with e|⟨k,c,hc,eg,je,sr⟩
  .exact .inl e
  .exact .inr ⟨k,c,hc,eg,Cd c (Hl hc) eg je,sr⟩
 .intro x c hc
  obtain⟨v,eg,je,sr⟩:=fV.cell x c hc;exact⟨v,eg,Cd c (Hl hc) eg je,sr⟩
 .rcases qq with⟨z,_⟩|⟨k,p,e,cC,jq,HD⟩
  .omega
  .refine⟨gs,?_,.inr ⟨k,p,e,cC,jq,HD.ext x⟩⟩
   obtain⟨kk,l,cw,cl,rfl,_⟩:=jq;exact hk.2 _ _ hX rfl
theorem Zv(d:qs X q m bO fT fA fE fB)(o:Old X H0 q.n q.a)(hd:X.A.handled=none)(ik:X.A.depth<recursionLimit)(hi:i<m.ds.length)(d2:m.bP i S)(t:iu X q m ρ0 H0 i fp ae H s)(I:Inv X pins σ H s)(w:Z.aD X.K X.mg ae H S)(hp:∀p∈X.pn++pins,p.1∉fp) :
  wpAny (model X.prog X.w) X.A (pyNext (.ref q.a)) (λr s1=>∃u x ag H' x6,r=some u/\RelV x u/\Inv X pins σ H' s1/\Z.Ext ae H ag H'/\Z.aD X.K X.mg ag H' (m.U i S)/\Z.Rep X.K X.mg ag H' m.ds[i] x/\iu X q m ρ0 H0 (i+1) x6 ag H' s1/\∀p∈X.pn++pins,p.1∉x6) X.xe s:=by
 have gU:=t.2.2.2.1;have ha:=t.2.2.1;have k5:=t.1;have Ce:=t.2.2.2.2.1;have HE:∀b∈e7 q.scope q.n,H0 b=none:=λb hb=>by
  obtain⟨_,_,_,_,_,_,_,qt,_⟩:=t;exact(qt b hb).2
 have eJ:Inv X pins σ H (s.setGen q.g .running):=hY I rfl rfl (allBare_setGen I.bare rfl);obtain⟨gs,hX,iU⟩:=HB (W:=λ_ _ _ _=>False) (F:=λe s2=>match e with
   | .susp v nh l k c cw fs=>(End.susp v nh l k c cw fs).quiet=true/\∃x ag H',RelV x v/\Inv X pins σ H' s2/\Z.Ext ae H ag H'/\Z.aD X.K X.mg ag H' (m.U i S)/\Z.Rep X.K X.mg ag H' m.ds[i] x/\(q.g<s2.gens.size->iu X q m ρ0 H0 (i+1) fp ag H' (s2.setGen q.g (End.susp v nh l k c cw fs).genState))
   | .ret _=>False) d o hd (j2 hi) d2 t I w hp (λy e s2 h=>by obtain⟨_,_,_,_,_,_,_,_,_,_,_,_,_,_,_,_,z⟩:=h;exact z.elim) (λe _ z=>by omega) (λ_ y=>{
    fe:=λe s2 h=>by obtain⟨_,_,_,_,_,_,_,_,_,_,_,_,_,_,_,_,z⟩:=h;exact z.elim
    fd:=λz=>by omega
    rZ:=λhl p v g l k c cw fs s2 x h_ aL aG su aO x2 cz aE aC hq jq=>by
     have HF:=YV su;obtain⟨ob,nm,gy,hr,hc,HG,r6⟩:=N6 (q:=q.HA) (s:=s.setGen q.g .running) (own:=[]) o gU ha (by simp);obtain⟨a1,a2,_⟩:=su.pin (q.a,ob) (zg _ hr);exact⟨hq,x,aL,aG,aO,N2 eJ y su (BO x2 cz),x2,cz,aC,λdj=>⟨k5.trans x2,HF.2.1,a2,⟨ob,nm,gy,a1,hc,HG,r6⟩,Ce,h_,HF.1,λb hb=>⟨HF.2.2 b hb,HE b hb⟩,_,setGen_at dj,.inr ⟨i,p,rfl,hl,jq,aE⟩⟩⟩ })
 have Bq:q.g<s.gens.size:=(Array.getElem?_eq_some_iff.mp hX).1;refine wpAny_gsz (n:=q.g+1) Bq (G0 hd I.nolimit ik gU hX iU (λv g₀ l k c p fs s₁ h=>?_) λr s₁ h=>h.elim);obtain⟨hq,x,ag,H',aO,I1,x1,aF,aC,t1⟩:=h;refine⟨hq,λdj=>⟨v,x,ag,H',fp,rfl,aO,hY I1 rfl rfl (allBare_setGen I1.bare (End.bare_of_quiet hq)),x1,aF,aC,t1 ?_,hp⟩⟩;have e:(s₁.setGen q.g (End.susp v g₀ l k c p fs).genState).gens.size=s₁.gens.size:=setGen_size _ _ _;have dj:q.g+1<=(s₁.setGen q.g (End.susp v g₀ l k c p fs).genState).gens.size:=dj;omega
theorem Zw(d:qs X q m bO fT fA fE fB)(o:Old X H0 q.n q.a)(hd:X.A.handled=none)(ik:X.A.depth<recursionLimit)(kv:m.fin=.done)(d2:m.bP m.ds.length S)(t:iu X q m ρ0 H0 m.ds.length fp ae H s)(I:Inv X pins σ H s)(w:Z.aD X.K X.mg ae H S)(hp:∀p∈X.pn++pins,p.1∉fp) :
  wpAny (model X.prog X.w) X.A (pyNext (.ref q.a)) (λr s1=>r=none/\∃ag H',Inv X pins σ H' s1/\Z.Ext ae H ag H'/\Z.aD X.K X.mg ag H' (m.U m.ds.length S)) X.xe s:=by
 have gU:=t.2.2.2.1;have eJ:Inv X pins σ H (s.setGen q.g .running):=hY I rfl rfl (allBare_setGen I.bare rfl);obtain⟨gs,hX,iU⟩:=HB (W:=λ_ _ _ _=>False) (F:=λe s2=>e=.ret (.ok (.ret .none))/\∃ag H',Inv X pins σ H' s2/\Z.Ext ae H ag H'/\Z.aD X.K X.mg ag H' (m.U m.ds.length S)) d o hd (dE _) d2 t I w hp (λy e s2 h=>by obtain⟨_,_,_,_,_,_,_,_,_,_,_,_,_,_,_,_,z⟩:=h;exact z.elim) (λe z _=>by rw[kv]at z;cases z) (λ_ y=>{
    fe:=λe s2 h=>by obtain⟨_,_,_,_,_,_,_,_,_,_,_,_,_,_,_,_,z⟩:=h;exact z.elim
    fd:=λ_ s2 h_ aL aG su x2 cz=>⟨rfl,aL,aG,N2 eJ y su (BO x2 cz),x2,cz⟩
    rZ:=λhl=>absurd hl (jz _) })
 refine G0 hd I.nolimit ik gU hX iU (λv g₀ l k c p fs s₁ h=>?_) λr s₁ h=>?_
 .cases h.1
 .obtain⟨e,ag,H',I1,x1,aF⟩:=h
  cases e;refine .inl ⟨.inl rfl,λh' hk=>⟨rfl,ag,H',?_,x1,aF⟩⟩;exact(hY (s':=s₁.setGen q.g .finished) I1 rfl rfl (allBare_setGen I1.bare rfl)).kept (h':=h') (t':=s₁.toks) hk
theorem Zx(d:qs X q m bO fT fA fE fB)(o:Old X H0 q.n q.a)(hd:X.A.handled=none)(ik:X.A.depth<recursionLimit)(tk:Z.Takes X k'){e:Z.D}(kv:m.fin=.ex e)
  (ei:∀C dd ag H',Z.h3 X.K X.mg ag H' e C dd->PySem.W.subIn X.K C (.type "StopIteration")=some false) (d2:m.bP m.ds.length S) (t:iu X q m ρ0 H0 m.ds.length fp ae H s) (I:Inv X pins σ H s) (w:Z.aD X.K X.mg ae H S) (hp:∀p∈X.pn++pins,p.1∉fp)
  (jb:∀C dd ag H',Z.Ext ae H ag H'->Z.aD X.K X.mg ag H' S->Z.h3 X.K X.mg ag H' e C dd->k' C dd σ H') :
  wpAny (model X.prog X.w) X.A (pyNext (.ref q.a)) (λ_ _=>False) X.xe s:=by
 have gU:=t.2.2.2.1;have ha:=t.2.2.1;have eJ:Inv X pins σ H (s.setGen q.g .running):=hY I rfl rfl (allBare_setGen I.bare rfl);have uW:oV X pins q.n [] H->∀x s2,k_ (la X q.N q.qual q.scope q.f q.cd q.n [] (s.setGen q.g .running) H) (λC dd _ gB=>((∀b u,H b=some u->gB b≠none)/\k' C dd σ gB)/\PySem.W.subIn X.K C (.type "StopIteration")=some false:WX) x s2->Z.XE X k' x s2/\s2.heap.IsGen q.a q.g/\NotStop (model X.prog X.w) x s2.heap/\AllBare s2.gens:=λy x s2 h=>by
  refine⟨Yk eJ y h λcls dd e4 gB z=>z.1,?_⟩;obtain⟨a,B,dM,ny,e4,gB,cls,dd,rfl,eV,nb,up,fl,na,os,ia,ww⟩:=h;obtain⟨ob,nm,gy,hr,hc,HG,r6⟩:=N6 (q:=q.HA) (s:=s.setGen q.g .running) (own:=[]) o gU ha (by simp);obtain⟨a1,_⟩:=eV.pin (q.a,ob) (zg _ hr);have OX:∀b,b≠q.n->b∉frs X.stack->b∉frs (la X q.N q.qual q.scope q.f q.cd q.n [] (s.setGen q.g .running) H).stack:=λb h1 h2 z=>by
   have z:b∈q.n::frs X.stack:=z;rcases iB.mp z with u|u
   .exact h1 u
   .exact h2 u
  have dr:B.get? q.a=some ob:=nb _ _ a1 (OX _ (nM o.na) λz=>absurd (lD o.na (o.fs _ z)) (jz _));refine⟨⟨ob,nm,gy,fl.1 _ _ dr,hc,HG,r6⟩,?_,ia⟩;have kin:X.K.In s2.heap:=I.ok.mod.kin.keeps λb HI eb=>fl.1 b HI (nb b HI (eV.bs b HI eb).1 (OX b (fO (jA (Heap.lt_size eb) o.bs)) λhm=>by
   rcases iB.mp (I.stkSub b hm)with z|z
   .have h1:=Heap.lt_size eb
    have h2:=vE I.ok.bsz I.ok.above;rw[z]at h1;exact absurd (jA h1 h2) (jz _)
   .exact I.ok.nofr eb z))
  obtain⟨jC,vs,he,hz,_⟩:=fl.there;have Zy:=PySem.W.looks_subIn (M:=model X.prog X.w) kin ww.2;intro A Q Fj s3 hs hq;simp only[isInstance];refine wpAny_bind (wpAny_typeOf_ref (o:=jC) (by rw[hs];exact he) ?_);rw[hz.1];exact Zy A Q Fj s3 (λb o z=>by rw[hs];exact z) hq
 have HC:∀cE,m.fin=.ex cE->m.ds.length=m.ds.length->∀C dd h_ aL aG,Z.Ext ae H aL aG->Z.aD X.K X.mg aL aG S->Z.h3 X.K X.mg aL aG cE C dd->(λC dd _ gB=>((∀b u,H b=some u->gB b≠none)/\k' C dd σ gB)/\PySem.W.subIn X.K C (.type "StopIteration")=some false:WX) C dd h_ aG:=λcE z _ C dd h_ aL aG x2 cz hx=>by
  rw[kv]at z;cases z;exact⟨⟨BO x2 cz,jb C dd aL aG x2 cz hx⟩,ei C dd aL aG hx⟩
 obtain⟨gs,hX,iU⟩:=HB (W:=(λC dd _ gB=>((∀b u,H b=some u->gB b≠none)/\k' C dd σ gB)/\PySem.W.subIn X.K C (.type "StopIteration")=some false:WX))
   (F:=λe s2=>∃x,e=.ret (.error x)/\Z.XE X k' x s2/\s2.heap.IsGen q.a q.g/\NotStop (model X.prog X.w) x s2.heap/\AllBare s2.gens) d o hd (dE _) d2 t I w hp (λy x s2 h=>⟨x,rfl,uW y x s2 h⟩) HC (λOY _=>by rw[kv]at OY;cases OY)
 refine G0 hd I.nolimit ik gU hX iU (λv g₀ l k c p fs s₁ h=>?_) λr s₁ h=>?_
 .obtain⟨_,h,_⟩:=h
  cases h
 .obtain⟨x,ao,hx,hg,h9,hb⟩:=h
  cases ao;exact .inr ⟨x,rfl,hg,h9,tk _ _ (Yu hx rfl rfl (allBare_setGen hb rfl))⟩
theorem OZ(d:qs X q m bO fT fA fE fB)(o:Old X H0 q.n q.a)(hd:X.A.handled=none)(ik:X.A.depth<recursionLimit)(tk:Z.Takes X k')
  (ei:∀e,m.fin=.ex e->∀C dd ag H',Z.h3 X.K X.mg ag H' e C dd->PySem.W.subIn X.K C (.type "StopIteration")=some false):Hr X k' q.a m.ds m.fin m.bP m.U (iu X q m ρ0 H0) (e7 q.scope q.n) where
 obj:=λt I=>Zq o t I
 mem:=λt=>(OW t).1
 keep:=λt x eF hk hc Cd=>Zt t x eF hk hc Cd
 item:=λpins σ S hi d2 t I w hp=>Zv d o hd ik hi d2 t I w hp
 stop:=λkv _ _ _ _ pins σ S d2 t I w hp=>Zw d o hd ik kv d2 t I w hp
 exc:=λkv _ _ _ _ pins σ S d2 t I w hp jb=>Zx d o hd ik tk kv (ei _ kv) d2 t I w hp jb
end
abbrev sv:=Nat->List Z.D->Option o2
def sx(off n:Nat)(dX:List Z.D)(nC:sv)(fa:Z.c1):kq:=λsl S=>(fa sl S).bind λds S1 =>
 if ds.length=n then(match nC (S1.length+off) (ds++dX)with
  |some M=>.ok (M.ds,M.fin,M.bP,M.U) S1
  |none=>.bad)else .bad
def o3(X:Cx)(W:WX)(iter:Expr)(ge:kq):Prop :=
 ∀(pins:List (Addr×Obj)) (s:Shared) (σ:L2.St) (ae:List Addr) (H:Hp) (S:Z.Store) (sl:Z.aJ),Inv X pins σ H s->Z.aD X.K X.mg ae H S->Z.bM X.K X.mg ae H σ sl->match ge sl S with
 | .bad=>True
 | .ex e S1=>(∀C dd ag H',Z.Ext ae H ag H'->Z.aD X.K X.mg ag H' S1->Z.h3 X.K X.mg ag H' e C dd->W C dd σ H')->wpAny (model X.prog X.w) X.A (eval iter X.env) (λ_ _=>False) X.xe s
 | .ok p S1=>wpAny (model X.prog X.w) X.A (eval iter X.env) (λv s1=>∃(q:nB) (m:o2) (aA:List Addr) (H1:Hp) (bO:Z.SX) (fT:Z.b9) (fA:Z.SX) (fE:Z.aQ) (fB:Z.SX),v=.ref q.a/\p=(m.ds,m.fin,m.bP,m.U)/\Inv X pins σ H1 s1/\Z.Ext ae H aA H1/\Z.aD X.K X.mg aA H1 S1 /\
   qs X q m bO fT fA fE fB/\uS X q.n q.a/\q.a<s1.heap.objs.size/\iu X q m aA H1 0 [q.a,q.n] aA H1 s1/\(∀jj∈X.pn++pins,jj.1<q.n) /\
   ∀e,m.fin=.ex e->∀C dd ag H',Z.h3 X.K X.mg ag H' e C dd->PySem.W.subIn X.K C (.type "StopIteration")=some false) X.xe s
theorem o3.gen{X:Cx}{W:WX}{iter:Expr}{ge:kq}(tk:Z.Takes X W)(hc:X.A.handled=none)(nA:X.A.depth<recursionLimit)(h:o3 X W iter ge):Hs X W iter ge:=by
 intro pins s σ ae H S sl I w rs;have h0:=h pins s σ ae H S sl I w rs;cases sg:ge sl S with
 |bad=>trivial
 |ex e S1=>rw[sg]at h0;exact h0
 |ok p S1 =>
  rw[sg]at h0;refine thn h0 λv s1 ⟨q,m,aA,H1,bO,fT,fA,fE,fB,ao,e2,I1,x1,aF,d,o,oZ,t,hp,ei⟩=>?_;subst ao e2;refine⟨q.a,aA,H1,_,_,_,rfl,I1,x1,aF,OZ (ρ0:=aA) (H0:=H1) d o.old hc nA tk ei,t,λjj hq=>?_⟩;simp only[List.mem_cons,List.not_mem_nil,or_false,not_or];have:=hp jj hq;exact⟨fO (lD this o.na),fO this⟩
theorem Zz{X:Cx}{pins:List (Addr×Obj)}{σ:L2.St}{H:Hp}{q:nB}{m:o2}{ae:List Addr}{s':Shared}{vs:List V}(h:Hq X pins σ H q.N q.qual q.scope q.f q.cd q.sh.body vs q.n q.a q.g s')(r:Z.bM X.K X.mg ae H (start q.N vs) m.sl0):iu X q m ae H 0 [q.a,q.n] ae H s' :=
 ⟨Z.Ext.refl,h.hn,h.ha,h.gen,rfl,_,h.fr,λb hb=>⟨h.hc b hb,h.hc b hb⟩,_,h.at_,.inl ⟨rfl,rfl,r⟩⟩
section
variable{X:Cx}{W:WX}{f:Addr}{name qual:Str}{params:Arguments}{body:List Stmt}{scope:Scope}{fP kV doc pm d7 ct eg:Value}{an od:Option Addr}{gR:Array (Option Value)}{N ps:List Str}{n off:Nat}{dfs:List Value}{dvs:List V}{dX:List Z.D}{x:Str}{p pos:Pos}{e:Expr}{es:List Expr}{fa:Z.c1}{nC:sv}{sh:ju}{bO:Z.SX}{fT:Z.b9}{fA:Z.SX}{fE:Z.aQ}{fB:Z.SX}
theorem ZA(hc:X.A.handled=none)(nA:X.A.depth<recursionLimit)(lk:X.K.lookup f=some ⟨eg,od,.func (PySem.W.fnOf name qual params sh.body scope fP kV doc pm an d7 ct),gR⟩)(iF:PySem.W.codeIn X.K d7 qual=true)
  (Sc:GScope N ps scope) (hb:Binds X.K (PySem.W.fnOf name qual params sh.body scope fP kV doc pm an d7 ct) ps dfs) (hd:Vals dvs dfs) (rQ:∀ae H,Z.ak X.K X.mg ae H dX dvs)
  (ZC:∀h args M,nC h args=some M->args.length=ps.length/\M.sl0=args.map some++List.replicate (N.length - ps.length) none/\(∀n a g,qs X ⟨N,qual,scope,f,d7,n,a,g,sh⟩ M bO fT fA fE fB) /\
   ∀e,M.fin=.ex e->∀C dd ag H',Z.h3 X.K X.mg ag H' e C dd->PySem.W.subIn X.K C (.type "StopIteration")=some false)
  (hm:X.mg x=some (.ref f)) (hk:PySem.W.keepIn X.K (.ref f)=true) (ha:Z.gj X W (e::es) fa) (hg:Gl X x:=by rfl) (hD:(x==("__debug__":Str))=false:=by decide)
  (he:starEach (e::es) X.env=(false,eval e X.env)::starEach es X.env:=by rfl) (d8:(backTo pos (starEach es X.env)).any (·.1)=false:=by rfl) :
  o3 X W (.Call (.Name x p) (e::es) [] pos) (sx off n dX nC fa):=by
 intro pins s σ ae H S sl I w rs;unfold sx;cases bq:fa sl S with
 |bad=>trivial
 |ex ao S1 =>
  intro jb;refine wpAny_Call_Name_kw (ld_glob I hg hm ?_ hD);refine vA (h₀:=X.base) I.ok.mod.kin hk (thn (ha.run pos pins s σ H (λ_ _=>False) I ⟨ae,S,sl,w,rs,?_⟩) λus s1 ⟨vs,H1,_,_,z⟩=>z.elim) he d8;rw[bq];exact λC dd ag H' y bT r=>jb C dd ag H' y bT r
 |ok ds S1 =>
  dsimp only[Z.Out.bind];by_cases hl:ds.length=n
  .rw[if_pos hl]
   cases gN:nC (S1.length+off) (ds++dX)with
   |none=>trivial
   |some M =>
    obtain⟨hlen,r6,ZD,ei⟩:=ZC _ _ _ gN;show wpAny _ _ _ _ _ _;refine wpAny_Call_Name_kw (ld_glob I hg hm ?_ hD);refine vA (h₀:=X.base) I.ok.mod.kin hk (thn (ha.run pos pins s σ H (λvs H1=>∃aA,Z.Ext ae H aA H1/\Z.aD X.K X.mg aA H1 S1/\Z.ak X.K X.mg aA H1 ds vs) I ⟨ae,S,sl,w,rs,?_⟩) λus s1 ⟨vs,H1,I1,r,aA,x1,aF,rd⟩=>⟨I1.kIn,?_⟩) he d8
    .rw[bq]
     exact λvs aA H1 y bT r=>⟨aA,y,bT,r⟩
    have HJ:Z.ak X.K X.mg aA H1 (ds++dX) (vs++dvs):=rd.append (rQ aA H1);have ul:(us++dfs).length=ps.length:=by rw[<-(r.append hd).length,<-HJ.len,hlen]
    refine wpAny_call (codeAny_mono (Y0 (pins:=pins) (σ:=σ) (H:=H1) (us:=us++dfs) (vs:=vs++dvs) I1 hc nA lk iF Sc (hb s1 us I1.kIn ul) (r.append hd) (by rw[<-HJ.len,hlen])) λkO s3 ⟨a,g,fF,uR⟩=>?_);subst fF;refine⟨⟨N,qual,scope,f,d7,s1.heap.objs.size,a,g,sh⟩,M,aA,H1,bO,fT,fA,fE,fB,rfl,rfl,uR.inv,x1,aF,ZD _ _ _,uR.old,uR.oZ,Zz (q:=⟨N,qual,scope,f,d7,s1.heap.objs.size,a,g,sh⟩) uR ?_,uR.pins,ei⟩;rw[r6];have h0:=Z.El (N:=N) HJ;rw[hlen]at h0;exact h0
  .rw[if_neg hl]
   trivial
end
def kx(h:Nat)(aY:Nat->List Z.D)(i:Nat)(S:Z.Store):Prop:=nz S/\(i=0->S.length=h)/\(0<i->S[h]?=some (.lst (aY (i - 1))))
def ej(h:Nat)(aY:Nat->List Z.D)(i:Nat)(S:Z.Store):Z.Store:=if i=0 then S++[.lst (aY 0)]else S.set h (.lst (aY i))
structure lh(np ky h:Nat)(bO:Z.SX)(fT:Z.b9)(fA:Z.SX)(fE:Z.aQ)(fB:Z.SX)(args:List Z.D)(M:o2)(aY:Nat->List Z.D):Prop where
 len:args.length=np
 sl0:M.sl0=args.map some++List.replicate (ky - np) none
 fin:M.fin=.done
 Cg:M.bP=kx h aY
 u:M.U=ej h aY
 st:∀S,kx h aY 0 S->∃S1,bO M.sl0 S=.nx (M.slA 0) S1/\ku fT fA fE M.ds M.slA M.slY 0 S1 (ej h aY 0 S)
 lp:Hy (kx h aY) (ej h aY) fT fA fE fB M.ds M.slA M.slY
 cl:∀i,i<=M.ds.length->Z.a9 0 (aY i)=true
open Classical in
def sy(np ky:Nat)(bO:Z.SX)(fT:Z.b9)(fA:Z.SX)(fE:Z.aQ)(fB:Z.SX):sv:=λh args =>
 if q:∃M aY,lh np ky h bO fT fA fE fB args M aY then some q.choose else none
section
variable{np ky h:Nat}{bO:Z.SX}{fT:Z.b9}{fA:Z.SX}{fE:Z.aQ}{fB:Z.SX}{args:List Z.D}{M f6:o2}{aY qs':Nat->List Z.D}
theorem ZE(q:sy np ky bO fT fA fE fB h args=some M):∃aY,lh np ky h bO fT fA fE fB args M aY:=by
 unfold sy at q;split at q
 .rename_i z
  cases q;exact z.choose_spec
 .cases q
theorem HK{sl b7:Z.aJ}{S ah:Z.Store}{o:Z.SO}(a:o=.nx sl S)(b:o=.nx b7 ah):sl=b7/\S=ah:=by
 rw[a]at b;cases b;exact⟨rfl,rfl⟩
def nD(h:Nat)(aY:Nat->List Z.D):Nat->Z.Store
 |0=>List.replicate h (.lst [])
 |i+1=>ej h aY i (nD h aY i)
theorem yb:∀i,(nD h aY (i+1)).length=h+1
 |0=>by simp[nD,ej]
 |i+1=>by
  show(ej h aY (i+1) (nD h aY (i+1))).length=_;unfold ej;rw[if_neg (by omega),List.length_set,yb i]
theorem ZF{m:Nat}{l:List Z.D}(q:Z.a9 0 l=true):Z.a9 m l=true:=Z.fY (iD m) l q
theorem HL(hc:∀i,i<=M.ds.length->Z.a9 0 (aY i)=true):∀i,i<=M.ds.length+1->nz (nD h aY i)
 |0,_=>λm hm=>by
  rw[(List.mem_replicate.mp hm).2];rfl
 |i+1,hi=>λm hm=>by
  have ih:=HL hc i (by omega);have hm:m∈ej h aY i (nD h aY i):=hm;have hq:∀k,Z.hH k (.lst (aY i))=true:=λk=>ZF (hc i (by omega));unfold ej at hm;rw[yb];split at hm
  .rename_i e
   subst e;rcases mK.mp hm with hm|hm
   .rw[(List.mem_replicate.mp hm).2]
    rfl
   .rw[pk.mp hm]
    exact hq _
  .rename_i e
   rcases List.mem_or_eq_of_mem_set hm with hm|rfl
   .obtain⟨j,rfl⟩:∃j,i=j+1:=⟨i - 1,by omega⟩
    have:=ih m hm;rw[yb]at this;exact this
   .exact hq _
theorem O0(hc:∀i,i<=M.ds.length->Z.a9 0 (aY i)=true):∀i,i<=M.ds.length+1->kx h aY i (nD h aY i)
 |0,hi=>⟨HL hc 0 hi,λ_=>by simp[nD],λz=>by omega⟩
 |i+1,hi=>⟨HL hc (i+1) hi,λz=>by omega,λ_=>by
  show(ej h aY i (nD h aY i))[h]?=_;rw[Nat.add_sub_cancel];unfold ej;split
  .rename_i e
   subst e;simp[nD]
  .rename_i e
   obtain⟨j,rfl⟩:∃j,i=j+1:=⟨i - 1,by omega⟩
   rw[lC (by rw[yb];omega)]⟩
theorem O1{S:Z.Store}{i:Nat}(e:∀j,j<i->aY j=qs' j)(q:kx h aY i S):kx h qs' i S:=⟨q.1,q.2.1,λz=>by rw[<-e (i - 1) (by omega)];exact q.2.2 z⟩
theorem O2{i:Nat}{S:Z.Store}(ef:i=0\/h<S.length)(e:ej h aY i S=ej h qs' i S):aY i=qs' i:=by
 unfold ej at e;split at e
 .rename_i z
  subst z;have:=List.append_cancel_left e;injection this with this _
  injection this
 .rename_i z
  have hh:h<S.length:=ef.resolve_left z;have:=congrArg (λl:Z.Store=>l[h]?) e;simp only[lC hh]at this;injection this with this
  injection this
theorem O3{ds lL:List Z.D}{slA O4 slY O5:Nat->Z.aJ}{j:Nat}{S S1 S2:Z.Store}(ea:slA j=O4 j)(a:ku fT fA fE ds slA slY j S S1)(b:ku fT fA fE lL O4 O5 j S S2):(j<ds.length↔j<lL.length)/\S1=S2/\∀(h1:j<ds.length) (h2:j<lL.length),slY j=O5 j/\ds[j]=lL[j]:=by
 unfold ku at a b;by_cases h1:j<ds.length
 .rw[dif_pos h1]at a
  by_cases h2:j<lL.length
  .rw[dif_pos h2,<-ea]at b
   obtain⟨ao,e2⟩:=HK a.2.1 b.2.1;refine⟨⟨λ_=>h2,λ_=>h1⟩,e2,λ_ _=>⟨ao,?_⟩⟩;have bq:=a.2.2;rw[ao,e2,b.2.2]at bq;exact(Z.Out.ok.inj bq).1.symm
  .rw[dif_neg h2,<-ea]at b
   have:=a.1.symm.trans b.1;cases this
 .rw[dif_neg h1]at a
  by_cases h2:j<lL.length
  .rw[dif_pos h2,<-ea]at b
   have:=a.1.symm.trans b.1;cases this
  .rw[dif_neg h2]at b
   exact⟨⟨λz=>absurd z h1,λz=>absurd z h2⟩,a.2.trans b.2.symm,λz=>absurd z h1⟩
theorem lh.step(F:lh np ky h bO fT fA fE fB args M aY)(G:lh np ky h bO fT fA fE fB args f6 qs'):∀i,i<=M.ds.length->i<=f6.ds.length->(i<M.ds.length↔i<f6.ds.length)/\(∀j,j<=i->aY j=qs' j)/\∀(h1:i<M.ds.length) (h2:i<f6.ds.length),M.slY i=f6.slY i/\M.ds[i]=f6.ds[i]
 |0,_,_=>by
  have p1:=O0 (h:=h) F.cl 0 (by omega);obtain⟨S1,ao,HM⟩:=F.st _ p1;obtain⟨S2,e2,HP⟩:=G.st _ (O1 (qs':=qs') (λj bH=>by omega) p1);rw[F.sl0]at ao;rw[G.sl0]at e2;obtain⟨ea,es⟩:=HK ao e2;subst es;obtain⟨r1,aE,cA⟩:=O3 ea HM HP;exact⟨r1,λj bH=>by rw[Nat.le_zero.mp bH];exact O2 (.inl rfl) aE,cA⟩
 |i+1,h1,h2=>by
  obtain⟨_,eq,r⟩:=lh.step F G i (by omega) (by omega);obtain⟨di,_⟩:=r (by omega) (by omega);have p1:=O0 (h:=h) F.cl (i+1) (by omega);obtain⟨S1,ao,HM⟩:=F.lp.b i (by omega) _ p1;obtain⟨S2,e2,HP⟩:=G.lp.b i (by omega) _ (O1 (qs':=qs') (λj bH=>eq j (by omega)) p1);rw[di]at ao;obtain⟨ea,es⟩:=HK ao e2;subst es;obtain⟨r1,aE,cA⟩:=O3 ea HM HP;have bu:aY (i+1)=qs' (i+1):=O2 (.inr (by rw[yb];omega)) aE;refine⟨r1,λj bH=>?_,cA⟩;by_cases z:j=i+1
  .rw[z];exact bu
  .exact eq j (by omega)
theorem lh.same(F:lh np ky h bO fT fA fE fB args M aY)(G:lh np ky h bO fT fA fE fB args f6 qs'):M.ds=f6.ds/\∀j,j<=M.ds.length->aY j=qs' j:=by
 have hl:M.ds.length=f6.ds.length:=by
  rcases Nat.lt_trichotomy M.ds.length f6.ds.length with z|z|z
  .have:=(F.step G M.ds.length (dE _) (by omega)).1
   omega
  .exact z
  .have:=(F.step G f6.ds.length (by omega) (dE _)).1
   omega
 refine⟨List.ext_getElem hl λj h1 h2=>((F.step G j (by omega) (by omega)).2.2 h1 h2).2,(F.step G M.ds.length (dE _) (by omega)).2.1⟩
theorem ZI(F:lh np ky h bO fT fA fE fB args M aY):∃f6 qs',sy np ky bO fT fA fE fB h args=some f6/\f6.ds=M.ds/\f6.fin=.done/\f6.bP=kx h qs'/\f6.U=ej h qs'/\∀j,j<=M.ds.length->qs' j=aY j:=by
 unfold sy;have q:∃M aY,lh np ky h bO fT fA fE fB args M aY:=⟨M,aY,F⟩
 rw[dif_pos q];obtain⟨qs',G⟩:=q.choose_spec;obtain⟨ao,e2⟩:=F.same G;exact⟨_,qs',rfl,ao.symm,G.fin,G.Cg,G.u,λj bH=>(e2 j bH).symm⟩
end
end ZG
namespace ZJ
section
variable{α β:Type}[DecidableEq α][DecidableEq β]
def cs:List (α×Rat)->α->Rat
 |[],_=>0
 |(b,r)::l,a=>(if b=a then r else 0)+cs l a
def O6(d:List (α×Rat)):List α:=d.map (·.1)
def look:List (α×Rat)->α->Option Rat
 |[],_=>none
 |(b,r)::d,a=>if b=a then some r else look d a
def put(d:List (α×Rat))(a:α)(r:Rat):List (α×Rat):=if a∈O6 d then d.map (λp=>if p.1=a then(p.1,r)else p)else d++[(a,r)]
def out(le:α->α->Bool)(d:List (α×Rat)):List (α×Rat):=(((O6 d).mergeSort le).filter λa=>decide (cs d a≠0)).map λa=>(a,cs d a)
end
section
variable{α β:Type}[DecidableEq α][DecidableEq β]
def iW(D n:Nat)(r:Rat):Prop:=∃z:Int,r * (D:Rat)=(z:Rat)/\z.natAbs<=n
theorem HQ(z:Int):Rat.divInt z 1=(z:Rat):=by
 have:=Rat.divInt_ofNat z 1;rw[Rat.mkRat_one]at this;exact this
theorem iW.size{D n:Nat}{r:Rat}(h:iW D n r)(bL:0<D):r.num.natAbs<=n/\r.den<=D:=by
 obtain⟨z,e,l⟩:=h;have M6:r.num * (D:Int)=z * (r.den:Int):=by
  have ao:r * (D:Rat)=Rat.divInt (r.num * (D:Int)) (r.den:Int):=by
   conv=>lhs;rw[<-Rat.num_divInt_den r]
   rw[show((D:Nat):Rat)=Rat.divInt (D:Int) 1 by rw[HQ,Rat.intCast_natCast],Rat.divInt_mul_divInt,Int.mul_one]
  rw[ao,<-HQ z]at e;have:=(Dm (by have:=r.den_nz;omega) (by decide)).mp e;simpa using this
 have hd:r.den ∣ D:=by
  have h1:(r.den:Int) ∣ r.num * (D:Int):=⟨z,by grind⟩
  have h2:r.den ∣ r.num.natAbs * D:=by
   have:=Int.natAbs_dvd_natAbs.mpr h1;rwa [Int.natAbs_mul,vH,vH]at this
  exact(Nat.Coprime.symm r.reduced).dvd_of_dvd_mul_left h2
 have hle:=Nat.le_of_dvd bL hd;refine⟨?_,hle⟩;have aH:r.num.natAbs * D=z.natAbs * r.den:=by
  have:=congrArg Int.natAbs M6;rwa [Int.natAbs_mul,Int.natAbs_mul,vH,vH]at this
 have bQ:z.natAbs * r.den<=z.natAbs * D:=Nat.mul_le_mul_left _ hle;have cn:r.num.natAbs * D<=z.natAbs * D:=by omega
 have:=Nat.le_of_mul_le_mul_right cn bL;omega
end
end ZJ
namespace Z
open PySem PySem.Spec L2 ZM
section
variable{S:Store}{sl:aJ}{f1 f2:aQ}
theorem O7{xs ys:List D}(h:f1 sl S=.ok (.lst xs) S)(h2:f2 sl S=.ok (.lst ys) S)(hl:xs.length+ys.length<=1000000):ay cZ f1 f2 sl S=.ok (.lst (xs++ys)) S :=
 gA h h2 (cv (by simp_all))
theorem ZL{x:D}(h:f1 sl S=.ok (.lst [x]) S):ay e1 f1 (au (.int 5)) sl S=.ok (.lst [x,x,x,x,x]) S:=by
 refine gA h rfl ?_;rfl
end
def ek:ey->NestedKey
 | .w u=>.text (a0 u)
 | .s u=>.tup (u.map .num)
 | .l x=>.tup [.num x.1,.tup (x.2.map λy=>.tup [.num y.1,.num y.2])]
 | .d x=>.tup [.num x.1,.num x.2.1,.num x.2.2]
 | .p a b=>.tup [ek a,ek b]
def aU(r:Rat):D:=jR r.num r.den
def cV(r:Rat):D:=qd r.num r.den
@[simp] theorem ahJ{k:Nat}{r:Rat}:a6 k (aU r)=true:=M3
@[simp] theorem ZO{k:Nat}{r:Rat}:a6 k (cV r)=true:=M5
abbrev yc(n:Nat)(r:Rat):Prop:=LT n r.num r.den
theorem yc.of{n:Nat}{r:Rat}(h1:r.num.natAbs<2 ^ n)(h2:r.den<2 ^ n):yc n r :=
 ⟨h1,by unfold Bd;omega,by have:=r.den_pos;omega,by show Nat.gcd r.num.natAbs (Int.natAbs (r.den:Int))=1;rw[vH];exact r.reduced⟩
theorem ZP{P Q:Int}(yd:0<Q)(x:Rat)(h:x=Rat.divInt P Q):num P Q=x.num/\den P Q=x.den:=by
 have hq:Q≠0:=by omega
 have hp:=den_pos (p:=P) hq;have hg:=Bo (p:=P) hq;have eK:=WC (p:=P) hq;have ao:num P Q * (Int.gcd P Q:Int)=P:=by
  unfold num;rw[if_pos yd];exact Int.ediv_mul_cancel (Int.gcd_dvd_left ..)
 have e2:den P Q * (Int.gcd P Q:Int)=Q:=by
  unfold den;rw[show(Q.natAbs:Int)=Q by omega];exact Int.ediv_mul_cancel (Int.gcd_dvd_right ..)
 have hn:((den P Q).toNat:Int)=den P Q:=by omega
 let y:Rat:=⟨num P Q,(den P Q).toNat,by omega,by
  have eK:Nat.gcd (num P Q).natAbs (den P Q).natAbs=1:=eK;grind⟩
 have aW:y=Rat.divInt (num P Q) (den P Q):=by
  rw[<-hn];exact(Rat.num_divInt_den y).symm
 have ZQ:y=x:=by
  rw[aW,h,Dm (by omega) hq]
  calc num P Q * Q=num P Q * (den P Q * (Int.gcd P Q:Int)):=congrArg (num P Q * ·) e2.symm
   _=(num P Q * (Int.gcd P Q:Int)) * den P Q:=by rw[Int.mul_comm (den P Q),Int.mul_assoc]
   _=P * den P Q:=congrArg (· * den P Q) ao
 rw[<-ZQ];exact⟨rfl,hn.symm⟩
section
variable{S:Store}{n:Nat}{r:Rat}
theorem ZR(h:yc n r)(hl:n<=1000):uz [cV r] S=.ok (aU r) S:=WK h hl
end
theorem O8{α:Type}{row:α->D}{l:List α}{sl:aJ}{S ah:Store}{Q:jh}{G:Store->Prop}{g:cX}{body:SX}{it:fS}(hit:it sl S=.ok (l.map row,G) ah)(I:List α->aJ->Store->Prop)(h0:I [] sl ah)
  (step:∀p x post sl S,l=p++x::post->I p sl S->G S/\aR (g (row x) sl S) ⟨λa7 S1=>aR (body a7 S1) ⟨λaT S2=>I (p++[x]) aT S2,Q.nx,λaT S2=>I (p++[x]) aT S2,Q.rt,Q.ex⟩,λ_ _=>False,λ_ _=>False,λ_ _=>False,λ_ _ _=>False⟩)
  (ew:∀sl S,I l sl S->G S/\Q.nx sl S):aR (q0 it g body sl S) Q:=by
 refine UI hit (λpre sl S=>∃p q,l=p++q/\pre=p.map row/\I p sl S) ⟨[],l,rfl,rfl,h0⟩ ?_ ?_
 .rintro pre x post sl S he ⟨p,q,hl,rfl,hi⟩
  rw[hl,List.map_append,List.append_cancel_left_eq]at he;cases q with
  |nil=>cases he
  |cons y q =>
   rw[dD]at he;injection he with h1 h2
   subst h1;obtain⟨hg,hw⟩:=step p y q sl S hl hi;refine⟨hg,hw.mono (λa7 S1 h=>h.mono ?_ (λ_ _ h=>h) ?_ (λ_ _ h=>h) (λ_ _ _ h=>h)) (λ_ _ h=>h) (λ_ _ h=>h) (λ_ _ h=>h) (λ_ _ _ h=>h)⟩
   .exact λaT S2 h=>⟨p++[y],q,by rw[hl];simp,by simp,h⟩
   .exact λaT S2 h=>⟨p++[y],q,by rw[hl];simp,by simp,h⟩
 .rintro sl S ⟨p,q,hl,he,hi⟩
  have:q=[]:=by
   have:=congrArg List.length he;rw[hl]at this;simp at this;exact this
  grind
section
variable{α:Type}{S S0:Store}{sl sl0:aJ}{G:Store->Prop}{g:cX}{bt:b9}{fe:aQ}{it:fS}{own:List Nat}{row:α->D}
theorem HR(p:α->Bool)(bY:α->D)(a8:∀acc,G (S0++[.lst acc])):∀(l:List α) (acc:List D),acc.length+l.length<=1000000 ->
  (∀a∈l,∀acc,∃a7,g (row a) sl0 (S0++[.lst acc])=.nx a7 (S0++[.lst acc])/\bt a7 (S0++[.lst acc])=.ok (p a) (S0++[.lst acc])/\(p a=true->fe a7 (S0++[.lst acc])=.ok (bY a) (S0++[.lst acc]))) ->
  g9 G g bt fe S0.length sl0 (l.map row) (S0++[.lst acc])=.ok () (S0++[.lst (acc++(l.filter p).map bY)])
 |[],acc,_,_=>by
  show g9 G g bt fe S0.length sl0 [] _=_;rw[g9,if_pos (a8 acc)];simp
 |a::l,acc,hl,h=>by
  obtain⟨a7,ao,e2,bu⟩:=h a (by simp) acc;have cC:acc.length<1000000:=by simp at hl;omega
  show g9 G g bt fe S0.length sl0 (row a::l.map row) _=_;rw[g9,if_pos (a8 acc),ao];dsimp only;rw[e2];cases hp:p a with
  |false =>
   dsimp only;rw[HR p bY a8 l acc (by grind) λb hb=>h b (by simp[hb]),Dq (by simp[hp])]
  |true =>
   dsimp only;rw[bu hp];dsimp only;rw[show(S0++[dx.lst acc])[S0.length]?=some (.lst acc)by simp];dsimp only;rw[if_pos cC,show(S0++[dx.lst acc]).set S0.length (.lst (acc++[bY a]))=S0++[.lst (acc++[bY a])]by simp,HR p bY a8 l (acc++[bY a]) (by grind) λb hb=>h b (by simp[hb]),Dr (by simp[hp])];simp
theorem ZS{l:List α}(p:α->Bool)(bY:α->D)(hit:it sl S=.ok (l.map row,G) S)(hl:l.length<=1000000)(a8:∀acc,G (S++[.lst acc]))
  (step:∀a∈l,∀acc,∃a7,g (row a) (cD sl own) (S++[.lst acc])=.nx a7 (S++[.lst acc])/\bt a7 (S++[.lst acc])=.ok (p a) (S++[.lst acc])/\(p a=true->fe a7 (S++[.lst acc])=.ok (bY a) (S++[.lst acc]))) :
  cO it g bt fe own sl S=.ok (.ptr S.length) (S++[.lst ((l.filter p).map bY)]):=by
 have h:=HR (sl0:=cD sl own) p bY a8 l [] (by grind) step;unfold cO;simp_all
theorem HS{l:List α}(p:α->Bool)(bY:α->D)(hit:it sl S=.ok (l.map row,G) S)(hl:l.length<=1000000)(a8:∀acc,G (S++[.lst acc]))
  (step:∀a∈l,∀acc,∃a7,g (row a) (cD sl own) (S++[.lst acc])=.nx a7 (S++[.lst acc])/\bt a7 (S++[.lst acc])=.ok (p a) (S++[.lst acc])/\(p a=true->fe a7 (S++[.lst acc])=.ok (bY a) (S++[.lst acc])))
  (aI:∀a∈l,p a=true->a6 S.length (bY a)=true):cP (cO it g bt fe own) sl S=.ok (.lst ((l.filter p).map bY)) S:=by
 refine XB (ZS p bY hit hl a8 step) ?_;rw[jP];grind
theorem sA{l:List α}(bY:α->D)(hit:it sl S=.ok (l.map row,G) S)(hl:l.length<=1000000)(a8:∀acc,G (S++[.lst acc]))
  (step:∀a∈l,∀acc,∃a7,g (row a) (cD sl own) (S++[.lst acc])=.nx a7 (S++[.lst acc])/\fe a7 (S++[.lst acc])=.ok (bY a) (S++[.lst acc]))
  (aI:∀a∈l,a6 S.length (bY a)=true):cP (cO it g dA fe own) sl S=.ok (.lst (l.map bY)) S:=by
 have:=HS (bt:=dA) (fe:=fe) (own:=own) (sl:=sl) (g:=g) (λ_=>true) bY hit hl a8 (λa ha acc=>by
  obtain⟨a7,h1,h2⟩:=step a ha acc;exact⟨a7,h1,rfl,λ_=>h2⟩) λa ha _=>aI a ha
 rw[this,List.filter_eq_self.mpr λa _=>rfl]
end
end Z
namespace ZG
open PySem PySem.Spec GenW PyProof.Rows L2
structure HU(C:Cx)(W:WX)(sh:ju)(bO:Z.SX)(fT:Z.b9)(fA:Z.SX)(fE:Z.aQ)(fB:Z.SX):Prop where
 pre:Z.fx C W sh.pre bO
 t:Z.h4 C W sh.test fT
 A:Z.fx C W sh.As fA
 e:Z.E C W sh.uO fE
 B:Z.fx C W sh.r9 fB
def O9(k j:Nat)(b:List Stmt):ju:=match b.drop k with
 | .While t l _ p::_=>(match l.drop j with
  | .Expr (.Yield (some e) uP) ps::r=>⟨b.take k,t,l.take j,e,uP,ps,r,p⟩
  |_=>⟨[],t,[],t,p,p,[],p⟩)
 |_=>⟨[],.Name "" ⟨0,0,0,0⟩,[],.Name "" ⟨0,0,0,0⟩,⟨0,0,0,0⟩,⟨0,0,0,0⟩,[],⟨0,0,0,0⟩⟩
structure uX(P:Program)(w:World)(K:PySem.W.Frag)(mg:Str->Option Value)(base:Heap)(k:Nat)(f:Addr)(n:Nat)(dX:List Z.D)(nC:sv):Prop where
 run:∀{X:Cx} {W:WX} {x:Str} {p pos:Pos} {e:Expr} {es:List Expr} {fa:Z.c1} (off:Nat),X.prog=P->X.w=w->X.K=K->X.mg=mg->X.base=base->Room k X.A->mg x=some (.ref f)->PySem.W.keepIn K (.ref f)=true ->
  Z.gj X W (e::es) fa->Gl X x->(x==("__debug__":Str))=false ->
  starEach (e::es) X.env=(false,eval e X.env)::starEach es X.env->(backTo pos (starEach es X.env)).any (·.1)=false ->
  o3 X W (.Call (.Name x p) (e::es) [] pos) (sx off n dX nC fa)
section
variable{P:Program}{w:World}{K:PySem.W.Frag}{mg:Str->Option Value}{base:Heap}{k:Nat}{f:Addr}{n:Nat}{dX:List Z.D}{x qual:Str}{params:Arguments}{stb:List Stmt}{scope:Scope}{dvs:List V}{kws:List (Str×V)}{fd:FuncData}{N ps:List Str}{its:List Value}{dfs:List V}{sh:ju}{bO:Z.SX}{fT:Z.b9}{fA:Z.SX}{fE:Z.aQ}{fB:Z.SX}
theorem ZU(F:FunD K x qual params stb scope dvs kws f fd)(ZV:stb=sh.body)(Sc:GScope N ps scope)(af:xZ N scope)
  (hb:Binds K fd ps its) (ZY:Vals dfs its) (rQ:∀ae H,Z.ak K mg ae H dX dfs)
  (hint:∀n cd,interactive (envOfC qual scope n f cd)=false)
  (hd:∀(cd:Value) (A:Around) (outer:List Env) (n:Addr) (s:Shared) (H:Hp) (pn:List (Addr×Obj)) (xe:Value->Shared->Prop) (W:WX),Z.Takes (mz P w K mg base N qual scope f cd A outer n s H pn xe) W->PassesOwn (model P w) (A.deeper (envOfC qual scope n f cd)) (envOfC qual scope n f cd) xe ->
   Room k (A.deeper (envOfC qual scope n f cd))->HU (mz P w K mg base N qual scope f cd A outer n s H pn xe) W sh bO fT fA fE fB) :
  uX P w K mg base (k+2) f n dX (sy ps.length N.length bO fT fA fE fB):=by
 subst ZV;refine⟨λ{X W y p pos e es fa} off dG hw hK hm Z0 hr HV uk ha hg hD he d8=>?_⟩;subst dG hw hK hm Z0;obtain⟨eg,od,fP,kV,doc,pm,an,d7,ct,gR,rfl,lk,iF,bL,ahK⟩:=F.ex;refine ZA (bO:=bO) (fT:=fT) (fA:=fA) (fE:=fE) (fB:=fB) hr.hd (Room.BQ hr) lk iF Sc hb ZY rQ (λh args M qa=>?_) HV uk ha hg hD he d8;obtain⟨aY,FM⟩:=ZE qa;refine⟨FM.len,by rw[FM.sl0],λn a g=>?_,λe he=>by rw[FM.fin]at he;cases he⟩;have pc:∀own s H W,HU (d1 X N qual scope f d7 n own s H W) W sh bO fT fA fE fB:=λown s H W =>
  hd d7 X.A.in1 X.stack n s H _ _ W Yq N1 ((hr.in1).deeper _)
 exact⟨af,Sc.co,hint n d7,λown s H W=>(pc own s H W).pre,λown s H W=>⟨(pc own s H W).t,(pc own s H W).A,(pc own s H W).e,(pc own s H W).B⟩,
  .inl ⟨λS q=>by rw[FM.Cg]at q;rw[FM.u];exact FM.st S q,by rw[FM.Cg,FM.u];exact FM.lp,FM.fin⟩⟩
end
section
variable{X:Cx}{W:WX}{k off:Nat}{f:Addr}{n:Nat}{dX:List Z.D}{nC:sv}{x:Str}{p pos:Pos}{e:Expr}{es:List Expr}{fa:Z.c1}
theorem ye(F:uX X.prog X.w X.K X.mg X.base k f n dX nC)(hr:Room k X.A)(hm:X.mg x=some (.ref f))(hk:PySem.W.keepIn X.K (.ref f)=true)(ha:Z.gj X W (e::es) fa)(hg:Gl X x:=by rfl)(hD:(x==("__debug__":Str))=false:=by decide)(he:starEach (e::es) X.env=(false,eval e X.env)::starEach es X.env:=by rfl)
  (d8:(backTo pos (starEach es X.env)).any (·.1)=false:=by rfl):o3 X W (.Call (.Name x p) (e::es) [] pos) (sx off n dX nC fa) :=
 F.run off rfl rfl rfl rfl rfl hr hm hk ha hg hD he d8
theorem HW{iter:Expr}{ge:kq}(tk:Z.Takes X W)(hr:Room k X.A)(h:o3 X W iter ge):Hs X W iter ge:=h.gen tk hr.hd (Room.BQ hr)
end
section
open Z
theorem O_{α:Type}{row:α->D}{l:List α}{bP:Nat->Store->Prop}{U:Nat->Store->Store}{fin:kn}{Q:jh}{g:cX}{body:SX}(I:List α->Z.aJ->Store->Prop)
  (step:∀p x post sl S,l=p++x::post->I p sl S->bP p.length S/\aR (g (row x) sl (U p.length S)) ⟨λa7 S1=>aR (body a7 S1) ⟨λaT S2=>I (p++[x]) aT S2,Q.nx,λaT S2=>I (p++[x]) aT S2,Q.rt,Q.ex⟩,λ_ _=>False,λ_ _=>False,λ_ _=>False,λ_ _ _=>False⟩)
  (ew:∀sl S,I l sl S->bP l.length S/\aR (fin.x7 (U l.length) sl S) Q):∀(post p:List α) (sl:Z.aJ) (S:Store),l=p++post->I p sl S->aR (kr bP U fin g body p.length (post.map row) sl S) Q
 |[],p,sl,S,he,hi=>by
  rw[y8]at he;subst he;obtain⟨h1,h2⟩:=ew sl S hi;show aR (open Classical in if bP l.length S then fin.x7 (U l.length) sl S else .bad) Q;rw[if_pos h1];exact h2
 |x::post,p,sl,S,he,hi=>by
  obtain⟨h1,h2⟩:=step p x post sl S he hi;have HX:=O_ I step ew post (p++[x]);have EX:l=(p++[x])++post:=by simp[he]
  rw[List.length_append,List.length_singleton]at HX;rw[dD];unfold kr;rw[if_pos h1];cases q:g (row x) sl (U p.length S)with
  |nx a7 S1 =>
   rw[q]at h2;rw[ji]at h2;replace h2:aR (body a7 S1) ⟨λaT S2=>I (p++[x]) aT S2,Q.nx,λaT S2=>I (p++[x]) aT S2,Q.rt,Q.ex⟩:=h2;dsimp only;cases bK:body a7 S1 with
   |nx aT S2=>rw[bK,ji]at h2;exact HX aT S2 EX h2
   |ct aT S2=>rw[bK,AA]at h2;exact HX aT S2 EX h2
   |bk aT S2=>rw[bK]at h2;simpa using h2
   |rt _ _=>rw[bK]at h2;simpa using h2
   |ex _ _ _=>rw[bK]at h2;simpa using h2
   |bad=>rw[bK]at h2;simpa using h2
  |bk _ _=>rw[q]at h2;simp at h2
  |ct _ _=>rw[q]at h2;simp at h2
  |rt _ _=>rw[q]at h2;simp at h2
  |ex _ _ _=>rw[q]at h2;simp at h2
  |bad=>rw[q]at h2;simp at h2
theorem HY{α:Type}{row:α->D}{l:List α}{sl:Z.aJ}{S ah:Store}{bP:Nat->Store->Prop}{U:Nat->Store->Store}{fin:kn}{Q:jh}{g:cX}{body:SX}{ge:kq}(sg:ge sl S=.ok (l.map row,fin,bP,U) ah)(I:List α->Z.aJ->Store->Prop)(h0:I [] sl ah)
  (step:∀p x post sl S,l=p++x::post->I p sl S->bP p.length S/\aR (g (row x) sl (U p.length S)) ⟨λa7 S1=>aR (body a7 S1) ⟨λaT S2=>I (p++[x]) aT S2,Q.nx,λaT S2=>I (p++[x]) aT S2,Q.rt,Q.ex⟩,λ_ _=>False,λ_ _=>False,λ_ _=>False,λ_ _ _=>False⟩)
  (ew:∀sl S,I l sl S->bP l.length S/\aR (fin.x7 (U l.length) sl S) Q):aR (uV ge g body sl S) Q:=by
 unfold uV;rw[sg];exact O_ I step ew l [] sl ah rfl h0
end
def kn.Z1(fin:kn)(u:Z.Store->Z.Store):Z.Store->Z.Out Unit:=match fin with
 | .done=>λS=>.ok () (u S)
 | .ex _=>λ_=>.bad
def jv(bP:Nat->Z.Store->Prop)(U:Nat->Z.Store->Z.Store)(fin:kn)(g:Z.cX)(bt:Z.b9)(fe:Z.aQ)(n:Nat)(sl:Z.aJ):Nat->List Z.D->Z.Store->Z.Out Unit
 |i,[],S=>open Classical in if bP i S then fin.Z1 (U i) S else .bad
 |i,x::xs,S=>open Classical in if bP i S then(match g x sl (U i S)with
  | .nx a7 S1=>(match bt a7 S1 with
   | .ok true S2=>(match fe a7 S2 with
    | .ok d aX=>(match aX[n]? with
     |some (.lst acc)=>if acc.length<1000000 then jv bP U fin g bt fe n sl (i+1) xs (aX.set n (.lst (acc++[d])))else .bad
     |_=>.bad)
    |_=>.bad)
   | .ok false S2=>jv bP U fin g bt fe n sl (i+1) xs S2
   |_=>.bad)
  |_=>.bad)else .bad
def lj(ge:kq)(g:Z.cX)(bt:Z.b9)(fe:Z.aQ)(own:List Nat):Z.aQ:=λsl S=>(ge sl S).bind λp S1=>(jv p.2.2.1 p.2.2.2 p.2.1 g bt fe S1.length (Z.cD sl own) 0 p.1 (S1++[.lst []])).bind λ_ S2=>.ok (.ptr S1.length) S2
section
variable{X:Cx}{W:WX}{pos:Pos}{elt tg iter:Expr}{ifs:List Expr}{scope:Scope}{own:List (Str×Nat)}{ge:kq}{g:Z.cX}{bt:Z.b9}{fe:Z.aQ}
theorem Z2{q:nB}{s3:Shared}{cF:Hp}{pins:List (Addr×Obj)}{σ:L2.St}(o:uS X q.n q.a)(oZ:q.a<s3.heap.objs.size)(I:Inv X pins σ cF s3)(ok:BlkOk X.N X.env.scope scope own)(sC:(scope.names.all λy=>y.2 != .cell)=true) :
  Old (X.blk s3 cF scope (compEnvC scope (cellsFrom (s3.heap.objs.size+1) scope.names (cloFrom X.env.cells scope.names [])) s3.heap.objs.size X.env) (qn q.n cF s3)) cF q.n q.a where
 s0:=λb hb hn=>by
  by_cases h:b<s3.heap.objs.size
  .exact .inl (N7.mpr ⟨h,hb,hn⟩)
  .exact .inr (Nat.le_of_not_lt h)
 loc:=⟨nM (lD o.na oZ),nM oZ⟩
 km:=λx c h=>by
  have h:(cellsFrom (s3.heap.objs.size+1) scope.names (cloFrom X.env.cells scope.names [])).lookup x=some c:=h;rw[N8 _ _ _ sC]at h;rcases cloFrom_mem (nP h)with hm|⟨h1,e⟩
  .cases hm
  .have:∃c,X.env.cells.lookup x=some c:=by
    rcases ok.free _ h1 rfl with k|k
    .exact I.ok.has _ (.inl k)
    .exact I.ok.has _ (.inr k)
   obtain⟨bx,ry⟩:=this;rw[ry]at e;have e:c=bx:=e;rw[e];exact o.km x bx ry
 fs:=o.fs
 uQ:=o.fs
 bs:=o.bs
 na:=o.na
theorem O'{pins:List (Addr×Obj)}{s:Shared}{σ:L2.St}{H:Hp}{Q:VK}{pos':Pos}{use:Option (Value->Sem Unit)}{Qf:Value->Shared->Prop}(hc:X.calm=true)(eF:X.N.Nodup)(hd:X.A.handled=none)(ik:X.A.depth<recursionLimit)(ok:BlkOk X.N X.env.scope scope own)(sC:(scope.names.all λy=>y.2 != .cell)=true)(I:Inv X pins σ H s)(hi:o3 X W iter ge)
  (hg:∀(s:Shared) (H:Hp) (C:Addr) (cl:List (Str×Addr)) (fp:List Addr),Z.m7 (X.blk s H scope (compEnvC scope cl C X.env) fp) Z.WF (own.map (·.2)) tg g) (ht:∀(s:Shared) (H:Hp) (C:Addr) (cl:List (Str×Addr)) (fp:List Addr),Z.rz (X.blk s H scope (compEnvC scope cl C X.env) fp) Z.WF ifs bt)
  (he:∀(s:Shared) (H:Hp) (C:Addr) (cl:List (Str×Addr)) (fp:List Addr),Z.E (X.blk s H scope (compEnvC scope cl C X.env) fp) Z.WF elt fe) (hs:∀x,foldedSetIterable iter X.env x=pure x) (h:Z.eN X.K X.mg W (lj ge g bt fe (own.map (·.2))) σ H Q)
  (Z3:∀D C s' m H',Inv X pins σ H' s'->Q (.ref D) H'->s'.heap.Ns C m->FpOk X pins H' C->compPost (model X.prog X.w) X.A X.xe use Qf (.ref D) C (.ok .next) s') :
  wpAny (model X.prog X.w) X.A (comprehension (.ListComp elt [⟨tg,iter,ifs,0⟩] scope pos) scope X.env pos' (newList []) false (eval iter X.env) use) Qf X.xe s:=by
 obtain⟨ae,S,sl,w,rs,p⟩:=h;have Z4:∀y∈scope.names,y.2=.free->∃c,X.env.cells.lookup y.1=some c:=λy aW e=>by
  rcases ok.free y aW e with k|k
  .exact I.ok.has _ (.inl k)
  .exact I.ok.has _ (.inr k)
 have p:Z.aM X.K X.mg (λC d H'=>W C d σ H') ae H Q ((ge sl S).bind λp S1=>(jv p.2.2.1 p.2.2.2 p.2.1 g bt fe S1.length (Z.cD sl (own.map (·.2))) 0 p.1 (S1++[.lst []])).bind λ_ S2=>.ok (.ptr S1.length) S2):=p;have h0:=hi pins s σ ae H S sl I w rs;refine wpAny_comprehension_free (use:=use) rfl hs (closure_ok Z4) ok.kind (λy aW e=>by rw[ok.uniq y aW,e]) ?_;cases hq:ge sl S with
 |bad=>rw[hq]at p;exact p.elim
 |ex e S1 =>
  rw[hq]at p h0;exact thn (h0 λC dd ag H' y bT r=>p C dd ag H' y bT r) λ_ _ z=>z.elim
 |ok pr S1 =>
  rw[hq]at p h0;refine thn h0 λv s1 ⟨q,m,aA,H1,bO,fT,fA,fE,fB,ao,e2,I1,x1,aF,rN,o,oZ,t,x4,ei⟩=>?_;subst ao e2;have p1:Z.aM X.K X.mg (λC d H'=>W C d σ H') aA H1 Q ((jv m.bP m.U m.fin g bt fe S1.length (Z.cD sl (own.map (·.2))) 0 m.ds (S1++[.lst []])).bind λ_ S2=>.ok (.ptr S1.length) S2):=Z.aM.from x1 p;obtain⟨k5,Z5,Z6,gU,ahL,e4,fV,HE,gs,hX,qq⟩:=t;have Z7:∀b∈e7 q.scope q.n,b<s1.heap.objs.size:=λb hb=>by
   obtain⟨x,hx⟩:=B2 hb;obtain⟨v,ob,aS,_⟩:=fV.cell x b hx;exact Heap.lt_size aS
  refine wpAny_pyIter_gen gU ?_;refine wpAny_newObj_type (newEnv_comp ?_) (by show 0<=sizeLine;decide);generalize bL:s1.heap.objs.size=D;have wV:H1 D=none:=I1.hok.fresh (Nat.le_of_eq bL);generalize xV:({ s1 with heap:=s1.heap.push { cls:=.type "list",data:=.seq ([]:List Value).toArray } }:Shared)=s3;have g':Inv X pins σ (upd H1 D (.lst [])) s3:=by
   rw[<-xV];refine I1.laid (t':=s1.toks) (λb o e=>Heap.get?_push_of_some _ e) (Nat.le_of_eq bL) ⟨iD _,[],0,.nil,?_⟩;rw[<-bL];exact Heap.get?_push_size _ rfl
  have aH:s3.heap=s1.heap.push { cls:=.type "list",data:=.seq ([]:List Value).toArray }:=by rw[<-xV]
  have g3:s3.gens=s1.gens:=by rw[<-xV]
  have oI:∀b o,s1.heap.get? b=some o->s3.heap.get? b=some o:=λb o e=>by rw[aH];exact Heap.get?_push_of_some _ e
  have cq:Z.Ext aA H1 (aA++[D]) (upd H1 D (.lst [])):=Z.Ext.hand wV;have eO:Z.aD X.K X.mg (aA++[D]) (upd H1 D (.lst [])) (S1++[.lst []]):=aF.hand wV ⟨[],upd_same,Z.ak.nil⟩;have HZ:(aA++[D])[S1.length]?=some D:=by rw[<-aF.len];simp
  have Z8:q.a<s3.heap.objs.size:=by rw[aH,Heap.size_push];exact Nat.lt_succ_of_lt oZ
  have f3:∀b∈qn q.n (upd H1 D (.lst [])) s3,FpOk X pins (upd H1 D (.lst [])) b/\b<s3.heap.objs.size:=λb hb=>by
   obtain⟨b1,eu,Nm⟩:=N7.mp hb;exact⟨⟨Nm,nM (jA o.loc eu),λz=>absurd (jA (o.uQ b z) eu) (jz _),.inr (vE o.s0 eu),λx c e=>fO (jA (o.km x c e) eu),λp hp=>fO (jA (x4 p hp) eu)⟩,b1⟩
  have fL:=block_start g' ok eF f3;have yf:=Z2 (q:=q) o Z8 g' ok sC;have pg:=hg s3 (upd H1 D (.lst [])) s3.heap.objs.size (cellsFrom (s3.heap.objs.size+1) scope.names (cloFrom X.env.cells scope.names [])) (qn q.n (upd H1 D (.lst [])) s3);have pt:=ht s3 (upd H1 D (.lst [])) s3.heap.objs.size (cellsFrom (s3.heap.objs.size+1) scope.names (cloFrom X.env.cells scope.names [])) (qn q.n (upd H1 D (.lst [])) s3);have yg:=he s3 (upd H1 D (.lst [])) s3.heap.objs.size (cellsFrom (s3.heap.objs.size+1) scope.names (cloFrom X.env.cells scope.names [])) (qn q.n (upd H1 D (.lst [])) s3);show codeAny _ _ (.compStart (.ListComp elt [⟨tg,iter,ifs,0⟩] scope pos) 0 (.ref q.a) (.ref D) (compEnvC scope (cellsFrom (s3.heap.objs.size+1) scope.names (cloFrom X.env.cells scope.names [])) s3.heap.objs.size X.env)) (compPost (model X.prog X.w) X.A X.xe use Qf (.ref D) s3.heap.objs.size) { s3 with heap:=pushCells (s3.heap.push { cls:=.type "dict",data:=.dict #[] }) scope.names };generalize Z9:compEnvC scope (cellsFrom (s3.heap.objs.size+1) scope.names (cloFrom X.env.cells scope.names [])) s3.heap.objs.size X.env=ce at fL pg pt yg yf ⊢;have Pa:ce.locals=s3.heap.objs.size:=by subst Z9;rfl
  generalize Z_:upd H1 D (.lst [])=cF at g' fL pg pt yg f3 yf cq eO;generalize ahM:aA++[D]=e9 at cq eO HZ;generalize Ce:qn q.n cF s3=Pb at fL pg pt yg f3 yf;generalize BR:({ s3 with heap:=pushCells (s3.heap.push { cls:=.type "dict",data:=.dict #[] }) scope.names }:Shared)=s4 at fL ⊢;have mj:∀b o,s1.heap.get? b=some o->s4.heap.get? b=some o:=λb o e=>by rw[<-BR];exact pushCells_keeps _ _ _ _ (Heap.get?_push_of_some _ (oI b o e))
  have Pg:s4.gens=s1.gens:=by rw[<-BR];exact g3
  have H2:∀b,b<D->cF b=H1 b:=λb hb=>by rw[<-Z_];exact upd_ne (fO hb)
  generalize jr:X.blk s3 cF scope ce Pb=Y at fL pg pt yg yf;have Z':qs Y q m bO fT fA fE fB:=by rw[<-jr];exact⟨rN.sc,rN.co,rN.int,rN.pre,rN.pc,rN.iQ⟩
  have qu:Y.A=X.A:=by rw[<-jr]
  have qv:Y.K=X.K:=by rw[<-jr]
  have qw:Y.mg=X.mg:=by rw[<-jr]
  have uY:Y.prog=X.prog:=by rw[<-jr]
  have uZ:Y.w=X.w:=by rw[<-jr]
  have aac:Y.pn=[]:=by rw[<-jr]
  have yh:Y.xe=λ_ _=>False:=by rw[<-jr]
  have cA:Z.bM X.K X.mg e9 cF (L2.wipe σ (own.map (·.2))) (Z.cD sl (own.map (·.2))):=((rs.ext x1).ext cq).wipe _;have x8:iu Y q m e9 cF 0 [q.a,q.n] e9 cF s4:=by
   refine⟨Z.Ext.refl,?_,?_,?_,rfl,e4,⟨?_,?_,fV.len⟩,?_,gs,by rw[Pg];exact hX,?_⟩
   .rw[H2 _ (by rw[<-bL];exact lD o.na oZ)];exact Z5
   .rw[H2 _ (by rw[<-bL];exact oZ)];exact Z6
   .obtain⟨ob,nm,gy,aS,r⟩:=gU
    exact⟨ob,nm,gy,mj _ _ aS,r⟩
   .obtain⟨mm,⟨ob,es,dF,aS,r⟩,look⟩:=fV.loc
    refine⟨mm,⟨ob,es,dF,mj _ _ aS,r⟩,λi x v h1 h2 aH=>?_⟩;obtain⟨u,b6,lk⟩:=look i x v h1 h2 aH;refine⟨u,b6,?_⟩;rcases lk with e|⟨k,c,hc,eg,je,sr⟩
    .exact .inl e
    .exact .inr ⟨k,c,hc,eg,mj _ _ je,sr⟩
   .intro x c hc
    obtain⟨v,eg,je,sr⟩:=fV.cell x c hc;exact⟨v,eg,mj _ _ je,sr⟩
   .intro b hb
    have e:cF b=none:=by rw[H2 _ (by rw[<-bL];exact Z7 b hb)];exact(HE b hb).1
    exact⟨e,e⟩
   .rcases qq with⟨_,e,r0⟩|⟨k,p,e,_⟩
    .refine .inl ⟨rfl,e,?_⟩
     rw[qv,qw];exact r0.ext cq
    .omega
  have T:Hr Y Z.WF q.a m.ds m.fin m.bP m.U (iu Y q m e9 cF) (e7 q.scope q.n):=OZ Z' yf (by rw[qu];exact hd) (by rw[qu];exact ik) rA (by rw[qv,qw];exact ei);have loop:codeAny (model X.prog X.w) X.A (.compLoop (.ListComp elt [⟨tg,iter,ifs,0⟩] scope pos) 0 (.ref q.a) (.ref D) ce) (compPost (model X.prog X.w) X.A X.xe use Qf (.ref D) s3.heap.objs.size) s4:=by
   refine compLoop_any (λn s'=>∃i ag H' ah fp,i+n=m.ds.length/\Inv Y [] (L2.wipe σ (own.map (·.2))) H' s'/\Z.Ext e9 cF ag H'/\Z.aD X.K X.mg ag H' ah/\iu Y q m e9 cF i fp ag H' s' /\
    Z.aM X.K X.mg (λC d H'=>W C d σ H') ag H' Q ((jv m.bP m.U m.fin g bt fe S1.length (Z.cD sl (own.map (·.2))) i (m.ds.drop i) ah).bind λ_ S2=>.ok (.ptr S1.length) S2)) ?_ m.ds.length ⟨0,e9,cF,S1++[.lst []],[q.a,q.n],by omega,fL,Z.Ext.refl,eO,x8,Z.aM.from cq (by simpa using p1)⟩
   rintro n s5 ⟨i,j8,mS,cY,aad,ahN,ig,dZ,i',Ph,cx⟩;have Pj:∀p∈Y.pn++([]:List (Addr×Obj)),p.1∉aad:=by rw[aac];simp
   have Pk:Z.aD Y.K Y.mg j8 mS cY:=by rw[qv,qw];exact i'
   cases n with
   |zero =>
    have hi:i=m.ds.length:=by omega
    subst hi;rw[y3,jv]at cx;by_cases d2:m.bP m.ds.length cY
    .rw[if_pos d2]at cx
     cases kv:m.fin with
     |ex e=>rw[kv]at cx;exact cx.elim
     |done =>
      rw[kv]at cx;have cx:Z.aM X.K X.mg (λC d H'=>W C d σ H') j8 mS Q (.ok (.ptr S1.length) (m.U m.ds.length cY)):=cx;have pR:=T.stop kv [] _ cY d2 Ph ig Pk Pj;rw[uY,uZ,qu,yh]at pR;refine thnF pR λr dk ⟨hr,g_,e0,iq,du,kc⟩=>?_;subst hr;rw[qv,qw]at kc;subst jr;have gC:Inv X pins σ e0 dk:=g'.call' (ch:=Pb) iq.os iq.base iq.hok iq.bare λb hb=>⟨(f3 b hb).1.2.2.2.1,(f3 b hb).1.2.1,(f3 b hb).1.2.2.2.2.1,(f3 b hb).1.2.2.2.2.2⟩
      have aae:e0 s3.heap.objs.size=none:=by
       have z:e0 ce.locals=none:=iq.free;rw[Pa]at z;exact z
      obtain⟨mm,Ci,_⟩:=iq.loc;have Ci:dk.heap.Ns ce.locals mm:=Ci;rw[Pa]at Ci;have de:=Z.aM.from du cx;exact Z3 D s3.heap.objs.size dk mm e0 gC (Z.b5 (d:=.ptr S1.length) de kc (by rw[Z.Rep];exact⟨D,rfl,(dZ.trans du).get HZ⟩)) Ci (g'.fpOk (H':=e0) (dE s3.heap.objs.size) aae)
    .rw[if_neg d2]at cx
     exact cx.elim
   |succ n =>
    have cC:i<m.ds.length:=by omega
    rw[(y4 cC).symm,jv]at cx;by_cases d2:m.bP i cY
    .rw[if_pos d2]at cx
     have xH:=T.item [] _ cY cC d2 Ph ig Pk Pj;rw[uY,uZ,qu,yh]at xH;refine thnF xH λr dk ⟨u,x,g_,e0,iw,hr,b6,iq,du,kc,aC,Pl,ahO⟩=>?_;subst hr;obtain⟨⟨ahP,ahQ,nm,gy,aaf,aag,aah,_⟩,Cj,yi⟩:=T.obj Pl iq;have x':∀b∈iw,b∉e7 q.scope q.n:=λb hb hc=>by
      obtain⟨⟨o,aS,kf⟩,_⟩:=Cj b hb;obtain⟨⟨eE,v,mA,bB⟩,_⟩:=yi b hc;rw[aS]at mA;cases mA;exact kf v bB
     have sq:∀b∈e7 q.scope q.n,e0 b=none:=λb hb=>(yi b hb).2.1;refine go_of aaf aag aah (by decide) ?_;have pinned:∀{bg:L2.St} {H':Hp} {s':Shared},Inv Y [] bg H' s'->(∀b∈iw,∀o,dk.heap.get? b=some o->s'.heap.get? b=some o)->(∀b∈iw,H' b=none)->Inv Y ([]++ho iw dk.heap) bg H' s':=λ{bg H' s'} J hk hn=>J.pins_of λp hp=>by
      rcases mK.mp hp with z|z
      .exact J.pin p (mM _ z)
      .obtain⟨gL,d9⟩:=uN.mp z
       obtain⟨⟨o,aS,kf⟩,_,aH,bQ⟩:=Cj p.1 gL;rw[aS]at d9;cases d9;exact⟨hk p.1 gL _ aS,hn p.1 gL,aH,bQ,kf⟩
     have kept:∀{bg:L2.St} {H':Hp} {s':Shared},Inv Y ([]++ho iw dk.heap) bg H' s'->Inv Y [] bg H' s'/\(∀b∈iw,∀o,dk.heap.get? b=some o->s'.heap.get? b=some o)/\∀b∈iw,H' b=none:=λ{bg H' s'} J=>by
      refine⟨J.unpinned,λb hb o aS=>(J.pin (b,o) (mM _ (mM _ (uN.mpr ⟨hb,aS⟩)))).1,λb hb=>?_⟩;obtain⟨⟨o,aS,_⟩,_⟩:=Cj b hb;exact(J.pin (b,o) (mM _ (mM _ (uN.mpr ⟨hb,aS⟩)))).2.1
     have rn:Z.Ext g_ e0 g_ (il e0 dk.heap (e7 q.scope q.n)):=Hn sq;have Hw:=pinned (Ou (s:=gT dk) (hY (s':=gT dk) iq rfl rfl (uJ iq.bare)) yi) (λb _ o aS=>aS) (λb hb=>(iV (x' b hb)).trans (Cj b hb).2.1);have de:=Z.aM.from du cx;have aai:Z.aD Y.K Y.mg g_ e0 (m.U i cY):=kc;rw[qv,qw]at kc aC;have aaj:=Ot (s:=dk) kc sq;have fin:∀{s':Shared} {bg:L2.St} {H':Hp} {ag:List Addr} {ah:Z.Store},Inv Y ([]++ho iw dk.heap) bg H' s'->L2.wipe bg (own.map (·.2))=L2.wipe σ (own.map (·.2))->(∀(j:Nat) (x:GenState),dk.gens[j]?=some x->jo x=true->s'.gens[j]?=some x) ->
       Z.Ext g_ (il e0 dk.heap (e7 q.scope q.n)) ag H'->Z.aD X.K X.mg ag H' ah->Z.aM X.K X.mg (λC d H'=>W C d σ H') g_ e0 Q ((jv m.bP m.U m.fin g bt fe S1.length (Z.cD sl (own.map (·.2))) (i+1) (m.ds.drop (i+1)) ah).bind λ_ S2=>.ok (.ptr S1.length) S2) ->
       ∃k,k<n+1/\∃i ag H' ah fp,i+k=m.ds.length/\Inv Y [] (L2.wipe σ (own.map (·.2))) H' s'/\Z.Ext e9 cF ag H'/\Z.aD X.K X.mg ag H' ah/\iu Y q m e9 cF i fp ag H' s' /\
        Z.aM X.K X.mg (λC d H'=>W C d σ H') ag H' Q ((jv m.bP m.U m.fin g bt fe S1.length (Z.cD sl (own.map (·.2))) i (m.ds.drop i) ah).bind λ_ S2=>.ok (.ptr S1.length) S2):=λ{s' bg H' ag ah} J hw aak hx aal hp=>by
      obtain⟨Pm,aam,aan⟩:=kept J;have hl:(L2.wipe σ (own.map (·.2))).length=bg.length:=by rw[<-hw,wipe_length]
      have tr:=Ov (s:=dk) yi aai hx;have H3:=Ox (s:=dk) sq hx;have tk:∀b∈e7 q.scope q.n,∃o,H' b=some (.frz o (.own 1)):=λb hb=>by
       obtain⟨_,o,_,e⟩:=tr b hb;exact⟨o,e⟩
      have su:=OB iq yi Pm tk;refine⟨n,mL n,i+1,ag,jU H' (e7 q.scope q.n),ah,iw,by omega,su.weak hl (λj v e=>?_),(dZ.trans du).trans H3,OA aal (λb hb=>⟨(tr b hb).1,tk b hb⟩),T.keep Pl H3 (λb hb=>(jt (x' b hb)).trans (aan b hb)) ⟨aam,aak⟩ (λb hb=>B3 hb) (OD Pm tr),Z.aM.from H3 hp⟩;rw[<-hw]at e;exact(wipe_some e).1
     cases bq:g m.ds[i] (Z.cD sl (own.map (·.2))) (m.U i cY)with
     |nx jX fC =>
      rw[bq]at de;simp only at de;have H4:=(pg (L2.wipe σ (own.map (·.2)))).run _ (gT dk) _ (il e0 dk.heap (e7 q.scope q.n)) x u (λbg H'=>L2.wipe bg (own.map (·.2))=L2.wipe σ (own.map (·.2))/\∃ag,Z.Ext g_ (il e0 dk.heap (e7 q.scope q.n)) ag H'/\Z.aD X.K X.mg ag H' fC/\Z.bM X.K X.mg ag H' bg jX) Hw b6 ?_;rotate_left
      .unfold Z.Ah
       rw[qv,qw];refine⟨g_,m.U i cY,Z.cD sl (own.map (·.2)),m.ds[i],aaj,cA.ext ((dZ.trans du).trans rn),aC.ext rn,Z.Ag (λ_ h=>h),?_⟩;rw[bq];exact λbg ag H' y bT bN m8=>⟨m8,ag,y,bT,bN⟩
      rw[uY,uZ,qu,yh]at H4;have H5:Y.env=ce:=by rw[<-jr]
      rw[H5]at H4;refine thnF (uK (wpAny_mono H4 (λ_ oY jS mC lg=>?_) λ_ _ z=>z.elim)) λ_ mC (jS:∃dP bS df,Inv Y ([]++ho iw dk.heap) dP bS mC/\L2.wipe dP (own.map (·.2))=L2.wipe σ (own.map (·.2))/\(∀(j:Nat) (x:GenState),dk.gens[j]?=some x->jo x=true->mC.gens[j]?=some x)/\Z.Ext g_ (il e0 dk.heap (e7 q.scope q.n)) df bS/\Z.aD X.K X.mg df bS fC/\Z.bM X.K X.mg df bS dP jX)=>?_
      .obtain⟨dP,bS,gC,Ck,df,d0,kY,jN⟩:=jS
       exact⟨dP,bS,df,hY gC lg.heap lg.os (lg.bare iq.bare gC.bare),Ck,lg.kept,d0,kY,jN⟩
      .obtain⟨dP,bS,df,gC,Ck,aao,d0,kY,jN⟩:=jS
       have aap:Inv Y ([]++ho iw dk.heap) dP bS (gT mC):=hY gC rfl rfl (uJ gC.bare);have gu:=de;cases bK:bt jX fC with
       |bad=>rw[bK]at gu;exact gu.elim
       |ex e kz=>rw[bK]at gu;exact gu.elim
       |ok b kz =>
        rw[bK]at gu;have Pn:=pt.run _ (gT mC) dP bS (λb' H'=>b'=b/\∃ag,Z.Ext df bS ag H'/\Z.aD X.K X.mg ag H' kz) aap ?_;rotate_left
        .unfold Z.pw
         rw[qv,qw];refine⟨df,fC,jX,kY,jN,?_⟩;rw[bK];exact λag H' y bT=>⟨rfl,ag,y,bT⟩
        rw[uY,uZ,qu,yh,H5]at Pn;refine thnF (uK (wpAny_mono Pn (λb' ahR rS yj Cm=>?_) λ_ _ z=>z.elim)) λb' yj (rS:b'=b/\∃nE qx,Inv Y ([]++ho iw dk.heap) dP nE yj/\(∀(j:Nat) (x:GenState),dk.gens[j]?=some x->jo x=true->yj.gens[j]?=some x)/\Z.Ext df bS qx nE/\Z.aD X.K X.mg qx nE kz)=>?_
        .obtain⟨nE,sD,eb,qx,dC,Cp⟩:=rS
         exact⟨eb,nE,qx,hY sD Cm.heap Cm.os (Cm.bare gC.bare sD.bare),λj x h1 h2=>Cm.kept j x (aao j x h1 h2) h2,dC,Cp⟩
        .obtain⟨rfl,nE,qx,sD,Pp,dC,Cp⟩:=rS
         have k3:=gu;cases b' with
         |false =>
          simp only[y_,if_false]at k3 ⊢;exact fin sD Ck Pp (d0.trans dC) Cp k3
         |true =>
          simp only[if_true]at k3 ⊢;have aaq:Inv Y ([]++ho iw dk.heap) dP nE (gT yj):=hY sD rfl rfl (uJ sD.bare);cases gN:fe jX kz with
          |bad=>rw[gN]at k3;exact k3.elim
          |ex e nF=>rw[gN]at k3;exact k3.elim
          |ok H6 nF =>
           rw[gN]at k3;have Bz:=yg.run _ (gT yj) dP nE (λv H'=>∃ag,Z.Ext qx nE ag H'/\Z.aD X.K X.mg ag H' nF/\Z.Rep X.K X.mg ag H' H6 v) aaq ?_;rotate_left
           .unfold Z.eN
            rw[qv,qw];refine⟨qx,kz,jX,Cp,jN.ext dC,?_⟩;rw[gN];exact λv ag H' y bT r=>⟨ag,y,bT,r⟩
           rw[uY,uZ,qu,yh,H5]at Bz;refine thnF (uK (wpAny_mono Bz (λPq ahS xF Cq Cr=>?_) λ_ _ z=>z.elim)) λPq Cq (xF:∃o4 ll qy,RelV o4 Pq/\Inv Y ([]++ho iw dk.heap) dP ll Cq/\(∀(j:Nat) (x:GenState),dk.gens[j]?=some x->jo x=true->Cq.gens[j]?=some x)/\Z.Ext qx nE qy ll/\Z.aD X.K X.mg qy ll nF/\Z.Rep X.K X.mg qy ll H6 o4)=>?_
           .obtain⟨o4,ll,u0,aZ,qy,hu,Cu,H7⟩:=xF
            exact⟨o4,ll,qy,aZ,hY u0 Cr.heap Cr.os (Cr.bare sD.bare u0.bare),λj x h1 h2=>Cr.kept j x (Pp j x h1 h2) h2,hu,Cu,H7⟩
           .obtain⟨o4,ll,qy,aZ,u0,aar,hu,Cu,H7⟩:=xF
            have k4:=k3;simp only at k4;have aas:=(((((dZ.trans du).trans rn).trans d0).trans dC).trans hu)
            have H8:=aas.get HZ;split at k4
            .rename_i acc ea
             split at k4
             .rename_i hl
              obtain⟨us,h1,ra⟩:=Cu.ob S1.length D _ H8 ea;have aat:Inv Y ([]++ho iw dk.heap) dP ll (gT Cq):=hY u0 rfl rfl (uJ u0.bare);have hx:Z.Ext qy ll qy (upd ll D (.lst (us++[o4]))):=Z.Ext.putL H8;have ap:=app_ok (E:=λ_ _=>False) (Q:=λ_ s'=>Inv Y ([]++ho iw dk.heap) dP (upd ll D (.lst (us++[o4]))) s') aat h1 (by rw[<-ra.len];have:=Z.h6 (n:=acc.length+1) (by omega);omega) aZ λs' J=>J;rw[uY,uZ,qu]at ap;refine thnF (uK (wpAny_mono ap (λ_ ahT rT H9 Cv=>?_) λ_ _ z=>z.elim)) λ_ H9 (rT:Inv Y ([]++ho iw dk.heap) dP (upd ll D (.lst (us++[o4]))) H9/\∀(j:Nat) (x:GenState),dk.gens[j]?=some x->jo x=true->H9.gens[j]?=some x)=>?_
              .exact⟨hY rT Cv.heap Cv.os (Cv.bare u0.bare rT.bare),λj x h1 h2=>Cv.kept j x (aar j x h1 h2) h2⟩
              .exact fin rT.1 Ck rT.2 (((d0.trans dC).trans hu).trans hx) (Cu.put (m:=.lst (acc++[H6])) H8 ⟨_,upd_same,(ra.append (Z.ak.cons H7 Z.ak.nil)).ext hx⟩) k4
             .exact k4.elim
            .exact k4.elim
     |bk jI bV=>rw[bq]at de;exact de.elim
     |ct jI bV=>rw[bq]at de;exact de.elim
     |rt Eh bV=>rw[bq]at de;exact de.elim
     |ex fz jI bV=>rw[bq]at de;exact de.elim
     |bad=>rw[bq]at de;exact de.elim
    .rw[if_neg d2]at cx
     exact cx.elim
  exact codeAny_compStart_list loop (wpAny_pyIter_gen x8.2.2.2.1 loop)
theorem aau(hc:X.calm=true)(eF:X.N.Nodup)(hd:X.A.handled=none)(ik:X.A.depth<recursionLimit)(ok:BlkOk X.N X.env.scope scope own)(sC:(scope.names.all λy=>y.2 != .cell)=true)(hi:o3 X W iter ge)
  (hg:∀(s:Shared) (H:Hp) (C:Addr) (cl:List (Str×Addr)) (fp:List Addr),Z.m7 (X.blk s H scope (compEnvC scope cl C X.env) fp) Z.WF (own.map (·.2)) tg g) (ht:∀(s:Shared) (H:Hp) (C:Addr) (cl:List (Str×Addr)) (fp:List Addr),Z.rz (X.blk s H scope (compEnvC scope cl C X.env) fp) Z.WF ifs bt)
  (he:∀(s:Shared) (H:Hp) (C:Addr) (cl:List (Str×Addr)) (fp:List Addr),Z.E (X.blk s H scope (compEnvC scope cl C X.env) fp) Z.WF elt fe) (hs:∀x,foldedSetIterable iter X.env x=pure x:=by intro _;rfl) :
  Z.E X W (.ListComp elt [⟨tg,iter,ifs,0⟩] scope pos) (lj ge g bt fe (own.map (·.2))):=by
 refine⟨λpins s σ H Q I h=>?_⟩;rw[eval_ListComp];refine O' hc eF hd ik ok sC I hi hg ht he hs h λD C s' m H' eJ q hn f=>⟨m,hn,λpL sb=>?_⟩
 obtain⟨f0,f1,f2,f3,f4,n_⟩:=f;exact⟨.ref D,H',eJ.turned (t':=s'.toks) (λb o hb e=>(sb.2 b hb).trans e) f0 f1 f3 f4 n_,rfl,q⟩
theorem aav{i:Nat}{y:Str}{py spos:Pos}(hc:X.calm=true)(eF:X.N.Nodup)(hd:X.A.handled=none)(ik:X.A.depth<recursionLimit)(ok:BlkOk X.N X.env.scope scope own)(sC:(scope.names.all λy=>y.2 != .cell)=true)
  (Fn:swapsWith (.ListComp elt [⟨tg,iter,ifs,0⟩] scope pos) (some (.Name y py)) spos.line X.env=pure true) (hi:o3 X W iter ge)
  (hg:∀(s:Shared) (H:Hp) (C:Addr) (cl:List (Str×Addr)) (fp:List Addr),Z.m7 (X.blk s H scope (compEnvC scope cl C X.env) fp) Z.WF (own.map (·.2)) tg g) (ht:∀(s:Shared) (H:Hp) (C:Addr) (cl:List (Str×Addr)) (fp:List Addr),Z.rz (X.blk s H scope (compEnvC scope cl C X.env) fp) Z.WF ifs bt)
  (he:∀(s:Shared) (H:Hp) (C:Addr) (cl:List (Str×Addr)) (fp:List Addr),Z.E (X.blk s H scope (compEnvC scope cl C X.env) fp) Z.WF elt fe) (aW:X.N[i]?=some y:=by rfl) (Aw:X.env.scope.names.lookup y=some .local:=by rfl) (hs:∀x,foldedSetIterable iter X.env x=pure x:=by intro _;rfl) :
  Z.ES X W (.Assign [.Name y py] (.ListComp elt [⟨tg,iter,ifs,0⟩] scope pos) spos) (Z.b_ (Z.cP (lj ge g bt fe (own.map (·.2)))) (Z.aV i)):=by
 refine⟨λpins s σ H D I h=>?_⟩;obtain⟨ae,S,sl,w,rs,p⟩:=h;have h:Z.eN X.K X.mg W (lj ge g bt fe (own.map (·.2))) σ H (λx H1=>gName i x σ H1 D.nx):=⟨ae,S,sl,w,rs,Z.zS w (Z.aM.mono (Z.bj.tG (o:=Z.cP (lj ge g bt fe (own.map (·.2))) sl S) rs p) λv H1 ⟨aA,S1,d,aF,r1,aO,p1⟩=>p1 _ aA H1 Z.Ext.refl aF (r1.set aO i))⟩
 rw[exec_Assign_Name_used _ _ _ _ Fn];refine wpAny_bind (wpAny_standAt (wpAny_bind ?_));show wpAny _ X.A (do let _ <-comprehension (.ListComp elt [⟨tg,iter,ifs,0⟩] scope pos) scope X.env (firstIterPos [⟨tg,iter,ifs,0⟩] pos) (newList []) false (eval iter X.env) (some (assign (.Name y py) X.env))) _ _ s;refine wpAny_bind (thn (O' (Qf:=λ_ s'=>SP X pins D .next s') hc eF hd ik ok sC I hi hg ht he hs h λL C s' m H' eJ q hn f=>?_) λ_ s' hq=>wpAny_pure (wpAny_pure hq));show wpAny _ _ (assign (.Name y py) X.env (.ref L)) _ _ _;refine wpAny_assign_Name (store_ok2 (v:=V.ref L) eJ eF aW (.inl Aw) rfl (λs2 I2 ⟨a,sb,ha⟩=>?_) (.inr Aw));obtain⟨f0,f1,f2,f3,f4,n_⟩:=f;have aaw:C≠a:=by
  rcases ha with z|z
  .rw[z];exact f1
  .exact λe=>f4 y a z e.symm
 refine⟨m,hn.sameBut sb aaw,λaH aax=>?_⟩;exact⟨_,H',I2.turned (t':=s2.toks) (λb o hb e=>(aax.2 b hb).trans e) f0 f1 f3 f4 n_,q⟩
end
end ZG
namespace Z
open PySem PySem.Spec L2 ZM
section
variable{α:Type}[DecidableEq α]
theorem ahU.pos:True:=trivial
end
def iX(i:Nat):D:=.int (i:Int)
abbrev FS:=List (ey×Rat)
structure lq where
 ends:List Rat
 starts:List ((Nat×ey)×Rat)
 u3:List ((Nat×Nat×ey)×Rat)
def Sm(W:fM)(s:Nat)(a:ey):Prop:=1<=s/\xM W a/\Gu 0 (2 * s) (10 * s - 2) a
section
theorem g3:True:=trivial
theorem Pg:True:=trivial
theorem g2:True:=trivial
end
section
theorem Hi:True:=trivial
end
section
variable{S:Store}{sl:aJ}{Q:jh}{d:D}{xs:List D}{f1:aQ}{eK c2:b9}{b b':Bool}{r:SX}
theorem H_(h:f1 sl S=.ok (.bl b) S):a5 f1 sl S=.ok b S:=cv (by simp_all)
theorem aay(h:eK sl S=.ok b S):gH eK sl S=.ok (!b) S:=cv (by simp_all)
theorem Pr(h:eK sl S=.ok false S)(h2:c2 sl S=.ok b S):fQ eK c2 sl S=.ok b S:=cv (by simp_all)
theorem Ia{g:SX}(h:eK sl S=.ok true S)(hq:aR (r sl S) Q):aR (cK eK r g sl S) Q:=by
 simp_all
theorem sE{g:SX}(h:eK sl S=.ok false S)(hq:aR (g sl S) Q):aR (cK eK r g sl S) Q:=by
 simp_all
theorem sF(h:Q.nx sl S):aR (cW sl S) Q:=by simp_all
theorem aaz{k:j'}(h:hM S d=some k)(hb:cj k "list"=some b)(hc:cj k "tuple"=some b'):By [d] S=.ok (.bl (b||b')) S:=by
 refine cv ?_;unfold By;refine fH rfl ?_;simp[Nj,h,mX,hb,hc]
theorem aaA:By [.lst xs] S=.ok (.bl true) S:=aaz (b:=true) (b':=false) rfl rfl rfl
end
structure Ib(S:Store)(d:D)(xs:List D):Prop where
 s:∀T,dO (S++T) d=some xs
 k:∀T,By [d] (S++T)=.ok (.bl true) (S++T)
 l:∀T,cU [d] (S++T)=.ok (.int xs.length) (S++T)
theorem Ib.lst{S:Store}{xs:List D}:Ib S (.lst xs) xs:=⟨λ_=>rfl,λ_=>aaA,λ_=>AQ⟩
theorem Ib.ptr:True:=trivial
section
variable{S:Store}{n:Nat}{cs:List Int}
theorem Pt{α:Type}{f:α->D}{Q:α->Prop}{ys xs:List D}{E:D->D->Prop}(h:∀y∈ys,∃x∈xs,E x y)(wx:∀x y,E x y->∃c,y=f c/\Q c):∃l:List α,ys=l.map f/\∀c∈l,Q c:=Ni λy aW=>by
 grind
theorem Ic{p q z:Int}(hq:q≠0)(h:p * 6=z * q)(hz:z.natAbs<=24):ZJ.iW 6 24 (Rat.divInt p q):=by
 refine⟨z,?_,hz⟩;rw[show(((6:Nat):Rat))=Rat.divInt 6 1 by rfl,Rat.divInt_mul_divInt,<-ZJ.HQ z,Int.mul_one];exact(Dm hq (by decide)).mpr (by omega)
theorem aaB{p q:Int}(h1 : -4<=p)(h2:p<=4)(aH:q=1\/q=2\/q=3):ux [.int p,.int q] S=.ok (cV (Rat.divInt p q)) S/\ZJ.iW 6 24 (Rat.divInt p q):=by
 have b1:Bd 4 p:=by unfold Bd;have:(2:Nat) ^ 4=16:=by decide
                    omega
 have eu:Bd 4 q:=by unfold Bd;have:(2:Nat) ^ 4=16:=by decide
                    omega
 have hq:0<q:=by omega
 constructor
 .rw[Ww b1 eu (by decide) (by decide) (by omega),WG]
  obtain⟨ao,e2⟩:=ZP (P:=p) hq _ rfl;rw[ao,e2];rfl
 .rcases aH with rfl|rfl|rfl
  .exact Ic (z:=p * 6) (by decide) (by omega) (by omega)
  .exact Ic (z:=p * 3) (by decide) (by omega) (by omega)
  .exact Ic (z:=p * 2) (by decide) (by omega) (by omega)
theorem aaC:jk n cs (xN [.ptr n]) (λd=>∃r:Rat,d=cV r/\ZJ.iW 6 24 r):=λS dr=>by
 unfold xN;refine fH rfl ?_;show aR (rY [some (.ptr n)] S) _;simp[rY];refine(lX (by omega) (by omega)).gx dr λd S1 ⟨j,bH,e⟩ fI=>?_;subst e;simp;refine(w_ (by simp) (by simp) (by simp)).gx fI.1 λd S2 hd jl=>?_;refine(w_ (by simp) (by simp) (by simp)).gx jl.1 λd' aX jE lr=>?_;have Pu:=(fI.trans jl).trans lr;obtain⟨p,rfl,h1,h2⟩:∃p:Int,d=.int p /\ -4<=p/\p<=4:=by
  grind
 obtain⟨q,rfl,aH⟩:∃q:Int,d'=.int q/\(q=1\/q=2\/q=3):=by
  grind
 obtain⟨ao,e2⟩:=aaB (S:=aX) h1 h2 aH;rw[ao,cI];exact p6 Pu ZO ⟨Pu,_,rfl,e2⟩
end
section
variable{α β:Type}
def sG(f:α->Rat):List α->Rat
 |[]=>0
 |x::l=>f x+sG f l
variable[DecidableEq α][DecidableEq β]
end
section
variable{S:Store}{k:Nat}
def Cl(G:Store):Prop:=∀m∈G,∀k,hH k m=true
theorem Cl.app{G H:Store}(h:Cl G)(h':Cl H):Cl (G++H):=λm hm=>(mK.mp hm).elim (h m) (h' m)
theorem Cl.ok(h:Cl S):∀m∈S,hH S.length m=true:=λm hm=>h m hm _
end
structure ahV where
 ahW:List (Str×aK)
 ahX:List (Str×aK)
 lp:aK
 le:aK
 ahY:aK
 lm:aK
section
variable{W:fM}{l m:FS}
def pq(W:fM)(l m:FS):FS:=l.flatMap λp=>m.map λq=>(mul W p.1 q.1,p.2 * q.2)
end
section
variable{S:Store}
theorem aaD{neg:Bool}{d:D}:bC neg d d S=.bad\/bC neg d d S=.ok (.bl (!neg)) S:=by
 unfold bC;cases toP S d with
 |none=>simp
 |some p =>
  dsimp only;by_cases h:SeqAt.shaped p=true
  .rw[if_pos ⟨h,h⟩]
   have hc:PyData.eqv p p=true:=by
    unfold SeqAt.shaped at h;rw[Bool.and_eq_true]at h;exact SeqAt.eqv_refl p h.1
   grind
  grind
end
def aaE(g:Nat)(p:(Nat×ey)×Rat):(Nat×ey)×Rat:=((p.1.1+g,p.1.2),p.2)
def aaF(g:Nat)(q:(Nat×Nat×ey)×Rat):(Nat×Nat×ey)×Rat:=((q.1.1+g,q.1.2.1+g,q.1.2.2),q.2)
def aaG(P Q:lq):lq:=⟨P.ends++Q.ends,P.starts++Q.starts.map (aaE P.ends.length),P.u3++Q.u3.map (aaF P.ends.length)⟩
section
theorem A9:True:=trivial
end
theorem Ie{o:SO}{sl:aJ}{S:Store}(h:aR o ⟨λb7 ah=>b7=sl/\ah=S,λ_ _=>False,λ_ _=>False,λ_ _=>False,λ_ _ _=>False⟩):o=.nx sl S:=by
 cases o<;>simp_all
section
theorem Pw{j k:Nat}(h:j<=k):∀m,hH j m=true->hH k m=true
 | .lst xs,q=>fY h xs q
 | .dct _ ks vs,q=>by
  simp only[hH,Bool.and_eq_true]at q ⊢;exact⟨fY h _ q.1,fY h _ q.2⟩
 | .dw _ ks vs,q=>by
  simp only[hH,Bool.and_eq_true]at q ⊢;exact⟨fY h _ q.1,fY h _ q.2⟩
 | .ins _ _ vs,q=>fY h vs q
 | .tab _ _,_=>rfl
 | .dead,_=>rfl
end
abbrev Cw:bR:=c7 (bC true) (eqO true ["Ratio"] [("Ratio",gS)] 12)
inductive a_ where
 |go (x:List Nat)
 |stay
 |none
 |loop
 |scale (r:Rat)
 |seq
 |alt
inductive af where
 |nd (k:a_) (cs:List af)
def a_.word:a_->String
 | .go _=>"go"
 | .stay=>"stay"
 | .none=>"none"
 | .loop=>"loop"
 | .scale _=>"scale"
 | .seq=>"seq"
 | .alt=>"alt"
def a_.pay(f:Rat->D):a_->List D
 | .go x=>[.str (a0 x)]
 | .scale r=>[f r]
 |_=>[]
structure nG(x:List Nat):Prop where
 pos:1<=x.length
 le:x.length<=8
 abc:∀c∈x,c∈abc
 ns:x≠[115,116,97,121]
 nn:x≠[110,111,110,101]
def a_.fit(b:Rat->Prop):a_->Nat->Prop
 | .go x,n=>n=0/\nG x
 | .stay,n=>n=0
 | .none,n=>n=0
 | .loop,n=>n=1
 | .scale r,n=>n=1/\b r
 | .seq,n=>2<=n/\n<=6
 | .alt,n=>2<=n/\n<=6
theorem a_.fit_le{b:Rat->Prop}{k:a_}{n:Nat}(h:k.fit b n):n<=6:=by
 cases k<;>simp only[a_.fit]at h<;>omega
mutual
def af.dat(f:Rat->D):af->D
 | .nd k cs=>.tup (.str (Str.ofString k.word)::(k.pay f++af.yk f cs))
def af.yk(f:Rat->D):List af->List D
 |[]=>[]
 |c::cs=>af.dat f c::af.yk f cs
def af.size:af->Nat
 | .nd _ cs=>af.sizes cs+1
def af.sizes:List af->Nat
 |[]=>0
 |c::cs=>af.size c+af.sizes cs
def af.dep:af->Nat
 | .nd _ cs=>af.deps cs+1
def af.deps:List af->Nat
 |[]=>0
 |c::cs=>max (af.dep c) (af.deps cs)
def af.ok(b:Rat->Prop):af->Prop
 | .nd k cs=>k.fit b cs.length/\af.u5 b cs
def af.u5(b:Rat->Prop):List af->Prop
 |[]=>True
 |c::cs=>af.ok b c/\af.u5 b cs
def af.pre:List Nat->af->List (List Nat×af)
 |s,.nd k cs=>(s,.nd k cs)::af.fu s 0 cs
def af.fu:List Nat->Nat->List af->List (List Nat×af)
 |_,_,[]=>[]
 |s,i,c::cs=>af.pre (s++[i]) c++af.fu s (i+1) cs
end
def af.cs:af->List af|.nd _ cs=>cs
theorem af.Px{f:Rat->D}:∀cs:List af,af.yk f cs=cs.map (af.dat f)
 |[]=>by rw[af.yk];rfl
 |c::cs=>by rw[af.yk,af.Px cs];rfl
theorem af.iY{f:Rat->D}(k:a_)(cs:List af):af.dat f (.nd k cs)=.tup (.str (Str.ofString k.word)::(k.pay f++cs.map (af.dat f))):=by rw[af.dat,af.Px]
theorem af.Ig{b:Rat->Prop}:∀{cs:List af},af.u5 b cs↔∀c∈cs,af.ok b c
 |[]=>by simp[af.u5]
 |c::cs=>by rw[af.u5,af.Ig (cs:=cs)];simp
theorem af.lu{b:Rat->Prop}{k:a_}{cs:List af}:af.ok b (.nd k cs)↔k.fit b cs.length/\∀c∈cs,af.ok b c:=by rw[af.ok,af.Ig]
theorem af.ind{motive:af->Prop}(h:∀k cs,(∀c∈cs,motive c)->motive (.nd k cs)):∀P,motive P:=λP =>
 af.rec (motive_1:=motive) (motive_2:=λcs=>∀c∈cs,motive c) (λk cs ih=>h k cs ih) (λc hc=>by cases hc) (λc cs h1 h2 d hd=>by
  rcases iB.mp hd with rfl|hd
  .exact h1
  .exact h2 d hd) P
theorem af.Cy{k:a_}{cs:List af}{c:af}(hc:c∈cs):c.dep+1<=(af.nd k cs).dep:=by
 rw[af.dep.eq_def (af.nd k cs)];simp only
 induction cs with
 |nil=>cases hc
 |cons d cs ih =>
  rw[af.deps];rcases iB.mp hc with rfl|hc
  .omega
  .have:=ih hc;omega
theorem af.yl(P:af):1<=P.dep:=by cases P;rw[af.dep];omega
theorem af.size_pos(P:af):1<=P.size:=by cases P;rw[af.size];omega
def gV(s:List Nat):Nat->List af->List (List Nat×af)
 |_,[]=>[]
 |i,c::cs=>(s++[i],c)::gV s (i+1) cs
def af.o5(t:List (List Nat×af)):List (List Nat×af):=t.flatMap λp=>af.pre p.1 p.2
theorem Py(s:List Nat):∀(i:Nat) (cs:List af),af.o5 (gV s i cs)=af.fu s i cs
 |i,[]=>by rw[af.fu];rfl
 |i,c::cs=>by
  rw[af.fu,gV];rw[<-Py s (i+1) cs];rfl
def Pz:List (List Nat×af)->List (List Nat×af)
 |[]=>[]
 |(s,.nd _ cs)::r=>gV s 0 cs++r
def eW(P:af):Nat->List (List Nat×af)
 |0=>[([],P)]
 |i+1=>Pz (eW P i)
theorem aaH:∀t:List (List Nat×af),af.o5 (Pz t)=(af.o5 t).tail
 |[]=>rfl
 |(s,.nd k cs)::r=>by
  show af.o5 (gV s 0 cs++r)=(af.pre s (.nd k cs)++af.o5 r).tail;rw[af.pre,List.cons_append,List.tail_cons,<-Py];show List.flatMap _ _=_;rw[List.flatMap_append];rfl
theorem Cz(P:af):∀i,af.o5 (eW P i)=(af.pre [] P).drop i
 |0=>by show af.pre [] P++[]=_;simp
 |i+1=>by rw[eW,aaH,Cz P i,List.tail_drop]
theorem PB(s:List Nat)(p:af)(r:List (List Nat×af)):∃t,af.o5 ((s,p)::r)=(s,p)::t:=by
 obtain⟨k,cs⟩:=p;exact⟨_,by show af.pre s (.nd k cs)++_=_;rw[af.pre,List.cons_append]⟩
theorem Ih{P:af}{i:Nat}(h:i<(af.pre [] P).length):∃r,eW P i=(af.pre [] P)[i]::r:=by
 have e:=Cz P i;rw[vG h]at e;cases q:eW P i with
 |nil=>rw[q]at e;cases e
 |cons x r =>
  obtain⟨s,p⟩:=x;rw[q]at e;obtain⟨t,e2⟩:=PB s p r;rw[e2]at e;injection e with e _
  exact⟨r,by rw[e]⟩
theorem PD{P:af}{i:Nat}(h:(af.pre [] P).length<=i):eW P i=[]:=by
 have e:=Cz P i;rw[List.drop_eq_nil_of_le h]at e;cases q:eW P i with
 |nil=>rfl
 |cons x r =>
  obtain⟨s,p⟩:=x;rw[q]at e;obtain⟨t,e2⟩:=PB s p r;rw[e2]at e;cases e
mutual
theorem af.lx:∀(s:List Nat) (P:af),(af.pre s P).length=P.size
 |s,.nd k cs=>by rw[af.pre,af.size,j1,af.Ii s 0 cs]
theorem af.Ii:∀(s:List Nat) (i:Nat) (cs:List af),(af.fu s i cs).length=af.sizes cs
 |s,i,[]=>by rw[af.fu,af.sizes];rfl
 |s,i,c::cs=>by rw[af.fu,af.sizes,List.length_append,af.lx (s++[i]) c,af.Ii s (i+1) cs]
end
theorem af.CA{b:Rat->Prop}:∀(P:af) (s:List Nat),P.ok b->∀p∈af.pre s P,p.2.ok b/\p.1.length+p.2.dep<=s.length+P.dep:=by
 refine af.ind λk cs ih s h p hp=>?_;rw[af.pre]at hp;rcases iB.mp hp with rfl|hp
 .exact⟨h,dE _⟩
 .have hc:=(af.lu.mp h).2
  have key:∀(l:List af) (i:Nat),(∀c∈l,c∈cs)->p∈af.fu s i l->p.2.ok b/\p.1.length+p.2.dep<=s.length+(af.nd k cs).dep:=by
   intro l
   induction l with
   |nil=>intro i _ hp;rw[af.fu]at hp;cases hp
   |cons c l aaI =>
    intro i hl hp;rw[af.fu]at hp;rcases mK.mp hp with hp|hp
    .have pM:=hl c (by simp)
     obtain⟨h1,h2⟩:=ih c pM (s++[i]) (hc c pM) p hp;have:=af.Cy (k:=k) pM;rw[List.length_append,List.length_singleton]at h2;exact⟨h1,by omega⟩
    .exact aaI (i+1) (λd hd=>hl d (by simp[hd])) hp
  exact key cs 0 (λc hc=>hc) hp
theorem PF{P:af}{i:Nat}:(eW P i).length<=P.size:=by
 have h1:(eW P i).length<=(af.o5 (eW P i)).length:=by
  generalize eW P i=t
  induction t with
  |nil=>exact iD _
  |cons x t ih =>
   obtain⟨s,q⟩:=x;show _<=(af.pre s q++af.o5 t).length;rw[List.length_append,af.lx];have:=q.size_pos;simp only[j1];omega
 rw[Cz,List.length_drop,af.lx]at h1;omega
def af.goes(P:af):List (List Nat):=(af.pre [] P).filterMap λp=>match p.2 with
 | .nd (.go x) _=>some x
 |_=>Option.none
def c0(s:List Nat):D:=.tup (s.map fun(i:Nat)=>.int (i:Int))
def bf(f:Rat->D)(p:List Nat×af):D:=.tup [c0 p.1,p.2.dat f]
theorem PH{k:Nat}(s:List Nat):a6 k (c0 s)=true:=by
 unfold c0;rw[FJ];exact AI (by
  rw[jP];intro d hd;obtain⟨i,_,rfl⟩:=List.mem_map.mp hd;rfl)
theorem o6{f:Rat->D}(hf:∀k r,a6 k (f r)=true):∀(P:af) (k:Nat),a6 k (P.dat f)=true:=by
 refine af.ind λc6 cs ih k=>?_;rw[af.iY,FJ,AJ,FI];have h1:a9 k (c6.pay f)=true:=by cases c6<;>simp[a_.pay,hf]
 have h2:a9 k (cs.map (af.dat f))=true:=by
  rw[jP];intro d hd;obtain⟨c,hc,rfl⟩:=List.mem_map.mp hd;exact ih c hc k
 rw[h1,h2];simp
theorem ym{f:Rat->D}(hf:∀k r,a6 k (f r)=true)(p:List Nat×af)(k:Nat):a6 k (bf f p)=true:=by
 unfold bf;rw[FJ,AJ,AJ,PH,o6 hf];simp
open PySem PySem.Spec L2
def jY:SX :=
 (a' (cK (a5 (ay gO (ay a4 (ai 0) (au (.int 0))) (az jar (aj (au (.str "seq")) (aj (au (.str "alt")) aq)))))
 (b0 (az mY (aj (iJ false (ai 0) (hQ (au (.int 1))) hP) aq)))
 cW)
 (b0 (kK (a5 (ay gO (ay a4 (ai 0) (au (.int 0))) (az jar (aj (au (.str "loop")) (aj (au (.str "scale")) aq))))) (az eG (aj (ay a4 (ai 0) (ay kQ (az cU (aj (ai 0) aq)) (au (.int 1)))) aq)) (az eG aq))))
def o7:aK:=dV 1 (cN 1 jY)
def o8(again:aK):SX :=
 (a' (lK 2 3 (aj (az eG (aj (az jar (aj (ai 1) (aj (ai 0) aq))) aq)) (aj (az o7 (aj (ai 0) aq)) aq)))
 (a' (q0 (kb (aj (az cU (aj (ai 3) aq)) aq)) (aV 4)
 (b_ (ay oT (ai 2) (az again (aj (ay a4 (ai 3) (ai 4)) (aj (ay oT (ai 1) (az jar (aj (ai 4) aq))) aq)))) (aV 2)))
 (b0 (ai 2))))
def u6:Nat->aK
 |0=>λ_ _=>.bad
 |k+1=>dV 2 (cN 5 (o8 (u6 k)))
def sH:aK:=u6 9
def sI:SX :=
 (b0 (cP (cO (hS (az sH (aj (ai 0) (aj (az jar aq) aq)))) (fy (cL (aV 1) (cL (aV 2) e'))) (a5 (ay (bC false) (ay a4 (ai 2) (au (.int 0))) (au (.str "go")))) (ay a4 (ai 2) (au (.int 1))) [1,2])))
def yn:aK:=dV 1 (cN 3 sI)
def sJ:SX :=
 (a' (b_ (au (.str "abcdefghijklmnopqrstuvwxyz")) (aV 2))
 (a' (b_ (fj EZ tW (au (.str "")) (aj (cP (cO (kb (aj (az gv (aj (ai 0) (aj (au (.int 8)) aq))) aq)) (aV 4) dA (az iO (aj (ai 0) (aj (ai 2) aq))) [4])) aq)) (aV 3))
 (a' (b_ (az jar (aj (az gv (aj (ai 0) (aj (ay cZ (az cU (aj (ai 3) aq)) (au (.int 1))) aq))) (aj (az gv (aj (ai 0) (aj (au (.int 26)) aq))) aq))) (fy (cL (aV 5) (cL (aV 6) e'))))
 (a' (b_ (cP (cO (kb (aj (ai 1) aq)) (aV 4) dA (ay cZ (ay cZ (iJ false (ai 3) hP (hQ (ai 5))) (ay a4 (ai 2) (ay hL (az ib (aj (ay cZ (ai 6) (ay e1 (au (.int 3)) (ai 4))) aq)) (au (.int 26))))) (iJ false (ai 3) (hQ (ai 5)) hP)) [4])) (aV 7))
 (b0 (cP (cO (hS (ai 7)) (aV 8) dA (kK (a5 (ay gO (ai 8) (az jar (aj (au (.str "stay")) (aj (au (.str "none")) aq))))) (ay cZ (ai 8) (au (.str "q"))) (ai 8)) [8])))))))
def yo:aK:=dV 2 (cN 9 sJ)
def nH(again:aK):SX :=
 (a' (b_ (az gv (aj (ai 0) (aj (au (.int 9)) aq))) (aV 3))
 (a' (cK (fQ (a5 (ay ot (ai 2) (au (.int 2)))) (a5 (ay ot (ai 3) (au (.int 2)))))
 (b0 (az iO (aj (ai 0) (aj (ay cZ (ay e1 (az eG (aj (az jar (aj (au (.str "go")) (aj (az iO (aj (ai 0) (aj (ai 1) aq))) aq))) aq)) (au (.int 5))) (az eG (aj (az jar (aj (au (.str "stay")) aq)) (aj (az jar (aj (au (.str "none")) aq)) aq)))) aq))))
 cW)
 (a' (cK (a5 (ay ot (ai 3) (au (.int 4))))
 (b0 (az jar (aj (au (.str "loop")) (aj (az again (aj (ai 0) (aj (ai 1) (aj (ay kQ (ai 2) (au (.int 1))) aq)))) aq))))
 cW)
 (a' (cK (a5 (ay (bC false) (ai 3) (au (.int 4))))
 (b0 (az jar (aj (au (.str "scale")) (aj (az xN (aj (ai 0) aq)) (aj (az again (aj (ai 0) (aj (ai 1) (aj (ay kQ (ai 2) (au (.int 1))) aq)))) aq)))))
 cW)
 (a' (b_ (ay cZ (au (.int 2)) (az gv (aj (ai 0) (aj (kK (a5 (ay mW (ai 2) (au (.int 3)))) (au (.int 2)) (au (.int 1))) aq)))) (aV 4))
 (a' (b_ (cP (cO (kb (aj (ai 4) aq)) (aV 6) dA (az again (aj (ai 0) (aj (ai 1) (aj (ay hJ (ay kQ (ai 2) (au (.int 1))) (ai 4)) aq)))) [6])) (aV 5))
 (b0 (ay cZ (az jar (aj (az iO (aj (ai 0) (aj (az eG (aj (au (.str "seq")) (aj (au (.str "alt")) aq))) aq))) aq)) (az wF (aj (ai 5) aq))))))))))
def sL:Nat->aK
 |0=>λ_ _=>.bad
 |k+1=>dV 3 (cN 7 (nH (sL k)))
def PL:aK:=sL 9
def qz(again:aK):SX :=
 (a' (b_ (az wF (aj (cP (cO (hS (az o7 (aj (ai 0) aq))) (aV 2) dA (az again (aj (ai 2) aq)) [2])) aq)) (aV 1))
 (a' (cK (a5 (ay (bC false) (ay a4 (ai 0) (au (.int 0))) (au (.str "scale"))))
 (b0 (az jar (aj (au (.str "scale")) (aj (az uz (aj (ay a4 (ai 0) (au (.int 1))) aq)) (aj (ay a4 (ai 1) (au (.int 0))) aq)))))
 cW)
 (b0 (kK (a5 (ay (c7 (bC false) qi) (ai 1) (az jar aq))) (ai 0) (ay cZ (az jar (aj (ay a4 (ai 0) (au (.int 0))) aq)) (ai 1))))))
def qA:Nat->aK
 |0=>λ_ _=>.bad
 |k+1=>dV 1 (cN 3 (qz (qA k)))
def PN:aK:=qA 9
def sM:SX :=
 (a' (cK (fQ (gH (a5 (az ec (aj (ai 0) (aj (au (.ty "str")) aq))))) (fQ (gH (a5 (pz pE pE (au (.int 1)) (az cU (aj (ai 0) aq)) (au (.int 8))))) (a5 (ay gO (ai 0) (au (.tup [.str "stay",.str "none"]))))))
 (b0 (au (.bl false)))
 cW)
 (b0 (az pH (aj (cP (cO (hS (ai 0)) (aV 1) dA (ay gO (ai 1) (au (.str "abcdefghijklmnopqrstuvwxyz"))) [1])) aq))))
def u9:aK:=dV 1 (cN 2 sM)
def jZ:SX :=
 (a' (cK (a5 (ay gO (ay a4 (ai 0) (au (.int 0))) (az jar (aj (au (.str "seq")) (aj (au (.str "alt")) aq)))))
 (b0 (az mY (aj (iJ false (ai 0) (hQ (au (.int 1))) hP) aq)))
 cW)
 (b0 (kK (a5 (ay gO (ay a4 (ai 0) (au (.int 0))) (az jar (aj (au (.str "loop")) (aj (au (.str "scale")) aq))))) (az eG (aj (ay a4 (ai 0) (wk zW (au (.int 1)))) aq)) (az eG aq))))
def ly:aK:=dV 1 (cN 1 jZ)
def o9(isr:aK):SX :=
 (a' (cK (fQ (gH (a5 (az ec (aj (ai 0) (aj (au (.ty "tuple")) aq))))) (fQ (a5 (ay (bC false) (az cU (aj (ai 0) aq)) (au (.int 0)))) (gH (a5 (az ec (aj (ay a4 (ai 0) (au (.int 0))) (aj (au (.ty "str")) aq)))))))
 (b0 (au (.bl false)))
 cW)
 (a' (cK (a5 (ay gO (ay a4 (ai 0) (au (.int 0))) (au (.tup [.str "stay",.str "none"]))))
 (b0 (ay (bC false) (az cU (aj (ai 0) aq)) (au (.int 1))))
 cW)
 (a' (cK (a5 (ay (bC false) (ay a4 (ai 0) (au (.int 0))) (au (.str "go"))))
 (b0 (i_ (ay (bC false) (az cU (aj (ai 0) aq)) (au (.int 2))) (az u9 (aj (ay a4 (ai 0) (au (.int 1))) aq))))
 cW)
 (a' (cK (a5 (ay gO (ay a4 (ai 0) (au (.int 0))) (az jar (aj (au (.str "seq")) (aj (au (.str "alt")) aq)))))
 (b0 (pz pE pE (au (.int 2)) (ay kQ (az cU (aj (ai 0) aq)) (au (.int 1))) (au (.int 6))))
 cW)
 (a' (cK (a5 (ay (bC false) (ay a4 (ai 0) (au (.int 0))) (au (.str "loop"))))
 (b0 (ay (bC false) (az cU (aj (ai 0) aq)) (au (.int 2))))
 cW)
 (b0 (i_ (ay (bC false) (ay a4 (ai 0) (au (.int 0))) (au (.str "scale"))) (i_ (ay (bC false) (az cU (aj (ai 0) aq)) (au (.int 3))) (az isr (aj (ay a4 (ai 0) (au (.int 1))) (aj (au (.cls "Ratio")) aq)))))))))))
def Ij(isr:aK):aK:=dV 1 (cN 1 (o9 isr))
def Ik(isr:aK):SX :=
 (a' (lK 1 2 (aj (az lJ (aj (az jar (aj (az jar aq) (aj (ai 0) aq))) aq)) (aj (au (.int 0)) aq)))
 (tF (a5 (ay (c7 (bC true) (eqO true ["Ratio"] [("Ratio",gS)] 12)) (ai 1) (az eG aq)))
 (a' (b_ (fj hO oa (ai 1) aq) (fy (cL (aV 3) (cL (aV 4) e'))))
 (a' (t8 2 (λi j=>i+j) (au (.int 1)))
 (a' (cK (fQ (a5 (ay mW (ai 2) (au (.int 40)))) (fQ (a5 (ay wz (az cU (aj (ai 3) aq)) (au (.int 8)))) (gH (a5 (az (Ij isr) (aj (ai 4) aq))))))
 (p' (az (oK "InvalidPlan" "InvalidPlan" ["path"]) (aj (ai 3) aq)))
 cW)
 (a' (b_ (cP (cO (oo (aj (az ly (aj (ai 4) aq)) aq)) (fy (cL (aV 6) (cL (aV 7) e'))) dA (az jar (aj (az jar (oQ (ai 3) (aj (ai 6) aq))) (aj (ai 7) aq))) [6,7])) (aV 5))
 (jG (fj hO pN (ai 1) (aj (rX false (ai 5)) aq)))))))))
def Il(isr:aK):aK:=dV 1 (cN 8 (Ik isr))
def Im(isr:aK):SX :=
 (a' (jG (az (Il isr) (aj (ai 0) aq)))
 (b_ (az lJ (aj (az jar (aj (az jar aq) (aj (ai 0) aq))) aq)) (aV 1)))
def CB(isr:aK):b9 :=
 (a5 (ay (c7 (bC true) (eqO true ["Ratio"] [("Ratio",gS)] 12)) (ai 1) (az eG aq)))
def Io(isr:aK):SX :=
 (b_ (fj hO oa (ai 1) aq) (fy (cL (aV 2) (cL (aV 3) e'))))
def Ip(isr:aK):aQ :=
 (az jar (aj (ai 2) (aj (ai 3) aq)))
def CD(isr:aK):SX :=
 (a' (b_ (cP (cO (oo (aj (az ly (aj (ai 3) aq)) aq)) (fy (cL (aV 5) (cL (aV 6) e'))) dA (az jar (aj (az jar (oQ (ai 2) (aj (ai 5) aq))) (aj (ai 6) aq))) [5,6])) (aV 4))
 (jG (fj hO pN (ai 1) (aj (rX false (ai 4)) aq))))
def PR(isr:aK):ZG.sv:=ZG.sy 1 7 (Im isr) (CB isr) (Io isr) (Ip isr) (CD isr)
def CF(isr:aK)(off:Nat):c1->ZG.kq:=ZG.sx off 1 [] (PR isr)
def yp(isr:aK):SX :=
 (a' (b_ (az lJ aq) (aV 1))
 (a' (ZG.uV ((CF isr) 0 (aj (ai 0) aq)) (fy (cL (aV 2) (cL (aV 3) e')))
 (cK (lI (a5 (ay (bC false) (ay a4 (ai 3) (au (.int 0))) (au (.str "go")))) (a5 (ay ou (ay a4 (ai 3) (au (.int 1))) (ai 1))))
 (jG (fj hO n' (ai 1) (aj (ay a4 (ai 3) (au (.int 1))) aq)))
 cW))
 (b0 (ai 1))))
def Iq(isr:aK):aK:=dV 1 (cN 4 (yp isr))
open PySem PySem.Spec L2 ZM
section
variable{b:Bool}
theorem Ir:∀{xs:List D} {ps:List PyData},iI xs=some ps->ps.length=xs.length
 |[],ps,h=>by rw[iI]at h;cases h;rfl
 |x::xs,ps,h=>by
  rw[iI]at h;split at h
  .rename_i a b ea eb
   cases h;rw[j1,j1,Ir eb]
  .cases h
end
section
variable{W:fM}{a:ey}
def t0(W:fM)(j:Nat):FS:=if j=0 then[(one W,1)]else[]
def t1(a:ey)(j:Nat):FS:=if j=1 then[(a,1)]else[]
end
section
variable{k:Nat}
theorem tri(g:Nat->Nat->Nat->Rat)(hk:k<=3):sG (λi=>sG (λh=>g h (i - h) (k - i)) (List.range (i+1))) (List.range (k+1))=sG (λi=>sG (λh=>g i h (k - i - h)) (List.range (k - i+1))) (List.range (k+1)):=by
 have bQ:k=0\/k=1\/k=2\/k=3:=by omega
 have r1:List.range 1=[0]:=rfl;have aE:List.range 2=[0,1]:=rfl;have cA:List.range 3=[0,1,2]:=rfl;have dS:List.range 4=[0,1,2,3]:=rfl;rcases bQ with rfl|rfl|rfl|rfl
 all_goals simp[r1,aE,cA,dS,sG,Rat.add_zero,Rat.add_assoc,Rat.add_comm,Rat.add_left_comm]
end
section
theorem cx:True:=trivial
theorem AZ:True:=trivial
end
section
variable{W:fM}{P:lq}
def uD(W:fM)(P:lq)(a:ey):Nat->Nat×ey->Rat
 |0,x=>if x.2=a then P.ends.getD x.1 0 else 0
 |m+1,x=>sG (λq=>if q.1.1=x.1 then q.2 * uD W P a m (q.1.2.1,mul W x.2 q.1.2.2)else 0) P.u3
end
structure PW(W:fM)(P:lq):Prop where
 st:∀p∈P.starts,p.1.1<P.ends.length/\xM W p.1.2
 rd:∀q∈P.u3,q.1.1<P.ends.length/\q.1.2.1<P.ends.length/\xM W q.1.2.2
section
variable{W:fM}{P:lq}{e:Rat}
def aaJ(W:fM)(e:Rat):Option ey->lq
 |none=>⟨[e],[((0,one W),1)],[]⟩
 |some a=>⟨[0,e],[((0,one W),1)],[((0,1,a),1)]⟩
variable{v:Option ey}
def aaK(W:fM)(e:Rat)(v:Option ey)(P:lq):lq:=aaG P (aaJ W e v)
end
section
variable{S:Store}{W:fM}{P:lq}{sl:aJ}{f g:aQ}
section
variable{u:D}
theorem aaL{c:b9}{g:aQ}{b:Bool}(h:c sl S=.ok b S)(h1:b=true->f sl S=.ok u S)(h2:b=false->g sl S=.ok u S):kK c f g sl S=.ok u S:=by
 refine cv ?_;rw[Uz,h,cI];cases b with
 |true=>rw[if_pos rfl,h1 rfl,cI];exact⟨rfl,rfl⟩
 |false=>rw[if_neg (by simp),h2 rfl,cI];exact⟨rfl,rfl⟩
end
variable{e:Rat}{v:Option ey}
structure Lt(W:fM)(P Q:lq)(e:Rat)(v:Option ey):Prop where
 eq:Q=aaK W e v P
 dg:e≠0
 ahZ:ZJ.iW 6 24 e
 sm:∀a,v=some a->Sm W 1 a
end
open PySem PySem.Spec L2 ZW
section
variable{ps:List (Nat×Nat)}{c x:Nat}{u v:List Nat}{f:List Nat->Int}
def PU(v:List Nat):Prop:=∀c∈v,uC c=true
def bq(ps:List (Nat×Nat))(x:Nat)(v:List Nat):Option (List Nat):=if(put (oO ps) v (inv x)).length<v.length then some (put (oO ps) v (inv x))else none
def alt(ps:List (Nat×Nat))(x:Nat)(f:List Nat->Int):Nat->List Nat->Int
 |0,v=>f v
 |n+1,v=>f v - ((bq ps x v).elim 0 (alt ps x f n))
def l'(ps:List (Nat×Nat))(v:List Nat):Prop:=∀u x y,PU u->P (oO ps) M7 u->uC x=true->PU y->v≠N (oO ps) (put (oO ps) (put (oO ps) u x) x) y
end
open PySem PySem.Spec L2 ZW
abbrev Tab:=List (List Nat×Int)
def getT:Tab->List Nat->Int
 |[],_=>0
 |p::t,u=>if p.1=u then p.2 else getT t u
section
variable{u v:List Nat}{ps:List (Nat×Nat)}{x n:Nat}{neg:Bool}
def one?(u v:List Nat):Int:=if u=v then 1 else 0
def hh(ps:List (Nat×Nat))(neg:Bool)(x:Nat):Nat->List Nat->List Nat->Int
 |0,_,_=>0
 |n+1,u,v=>if neg=true then -(one? (putL ps u x) v+hh ps neg x n (putL ps u x) v)else one? (putL ps u x) v
end
section
variable{ps:List (Nat×Nat)}{x:Nat}{v:List Nat}
def l1(ps:List (Nat×Nat))(x:Nat)(v:List Nat):Option (List Nat):=if(N (oO ps) [inv x] v.reverse).length<v.length then some (N (oO ps) [inv x] v.reverse)else none
end
open ZM
def zs{PV:Type}(f:PV->Int):List PV->Int
 |[]=>0
 |a::l=>f a+zs f l
open PySem PySem.Spec L2 ZM
section
theorem ah0.uE:True:=trivial
end
end Z
namespace ZSg
open PySem PySem.Spec L2 Z ZM
section
variable{u v:List Nat}{d c:Nat}{ps:List (Nat×Nat)}
def hF(ps:List (Nat×Nat))(c d:Nat)(v u:List Nat):Int:=hh ps (!uC c) (low c) (d - u.length) u v
end
section
theorem ah1.inv:True:=trivial
end
end ZSg
namespace ZRw
open Z ZM
abbrev Iu:=Nat×ey
abbrev Ent:=List (Iu×Rat)
def ml(l:Ent)(a:Iu):Rat:=(ZJ.look l a).getD 0
abbrev aaM(r:Rat):Nat:=r.num.toNat
abbrev aaN:=Ent×List (List Rat)
def km(t:aaN)(a:Iu):Nat:=aaM ((ZJ.look t.1 a).getD (t.2.length:Rat))
section
theorem t0:True:=trivial
end
end ZRw
namespace Z
open PySem PySem.Spec L2 ZM ZRw
section
variable{i:Nat}
theorem PY{α:Type}(f:α->D):∀(i:Nat) (l:List α),lT i (l.map f)=(l.zipIdx i).map λq=>.tup [iX q.2,f q.1]
 |_,[]=>rfl
 |i,x::l=>by
  rw[dD,lT,List.zipIdx_cons,dD,PY f (i+1) l];rfl
end
end Z
namespace ZL2
open Z
abbrev Row:=List Rat
abbrev at_(r:Row)(c:Nat):Rat:=r.getD c 0
abbrev St:=List Row×List (Nat×Row)
end ZL2
set_option exponentiation.threshold 2000
namespace Z
open PySem PySem.Spec L2 ZM
abbrev eqQ(S:Store)(n:Nat):D->D->Option Bool:=mB ["Ratio"] [("Ratio",gS)] S n
section
variable{α β:Type}[DecidableEq α][DecidableEq β]{S:Store}{n:Nat}
theorem Iv{xs ys:List D}(h:xs.length=ys.length):eqQ S (n+1) (.tup xs) (.tup ys)=f5 (eqQ S n) xs ys:=by
 show ko _ _ S _ _ _=_;unfold ko;simp only[si,h,if_true]
theorem aaO{i j:Int}:eqQ S (n+1) (.int i) (.int j)=some (decide (i=j)):=by
 show ko _ _ S _ _ _=_;unfold ko;simp only[si]
theorem PZ{i j:Str}:eqQ S (n+1) (.str i) (.str j)=some (i==j):=by
 show ko _ _ S _ _ _=_;unfold ko;simp only[si]
theorem aaP{r s:Rat}:eqQ S (n+1) (aU r) (aU s)=some (decide (r=s)):=by
 show ko _ _ S _ _ _=_;unfold ko aU jR;simp only[si];have h:gS [jR r.num r.den,jR s.num s.den] S=.ok (.bl (decide (r.num=s.num/\(r.den:Int)=s.den))) S:=WH;unfold jR at h;rw[if_pos (by simp),show pW [("Ratio",gS)] (Str.ofString "Ratio")=some gS by simp[pW,List.lookup]];dsimp only;rw[h];dsimp only;have e:decide (r.num=s.num/\(r.den:Int)=s.den)=decide (r=s):=decide_eq_decide.mpr ⟨fun⟨h1,h2⟩=>Rat.ext h1 (by omega),λh=>by subst h;exact⟨rfl,rfl⟩⟩;rw[if_pos,e];refine⟨rfl,?_⟩;by_cases q:r.num=s.num/\(r.den:Int)=s.den
 .exact .inl (decide_eq_true q)
 .refine .inr ?_
  simp only[oW,BU,Bool.or_false,Bool.or_eq_true,decide_eq_true_eq];by_cases bq:r.num=s.num
  .exact .inr λz=>q ⟨bq,z⟩
  .exact .inl bq
end
instance ah2:DecidableEq lq:=λP Q=>if h:P.ends=Q.ends/\P.starts=Q.starts/\P.u3=Q.u3 then isTrue (by cases P;cases Q;simp_all)else isFalse λe=>h (by rw[e];exact⟨rfl,rfl,rfl⟩)
section
variable{S:Store}{b:Rat->Prop}{f:Rat->D}{P:af}{isr:aK}
theorem P0{a:String}:∀{l:List String},inD (.str (Str.ofString a)) (l.map λx=>.str (Str.ofString x))=decide (a∈l)
 |[]=>by simp[inD]
 |x::l=>by
  have ih:=P0 (a:=a) (l:=l);unfold inD at ih ⊢;rw[dD,List.any_cons,ih];have:q_ (.str (Str.ofString x)) (.str (Str.ofString a))=decide (x=a):=by
   show(Str.ofString x==Str.ofString a)=_;by_cases h:x=a
   .subst h;simp
   .have:¬Str.ofString x=Str.ofString a:=λe=>h (Wo.mp e)
    simp[h,this]
  rw[this];by_cases h:x=a
  .subst h;simp
  .have h2:¬a=x:=λe=>h e.symm
   simp[h,h2]
theorem gD{a x y:String}:gO (.str (Str.ofString a)) (.tup [.str (Str.ofString x),.str (Str.ofString y)]) S=.ok (.bl (decide (a=x\/a=y))) S:=by
 rw[L8 (xs:=[x,y].map λx=>.str (Str.ofString x)) rfl rfl (by simp[jK]),P0];simp
theorem u_{k:a_}{cs:List af}:a4 ((af.nd k cs).dat f) (.int 0) S=.ok (.str (Str.ofString k.word)) S:=by
 rw[af.iY];refine cv ?_;simp
theorem CG{x:D}{xs:List D}:gq (x::xs) (some 1) none=xs:=UR (x::xs) 1
variable(aI:∀k r,a6 k (f r)=true)
include aI
theorem P1{n:Nat}{cs:List af}:a9 n (cs.map (af.dat f))=true:=by
 rw[jP];intro d hd;obtain⟨c,hc,rfl⟩:=List.mem_map.mp hd;exact o6 aI c n
theorem aaQ(h:P.ok b):ly [P.dat f] S=.ok (.lst (P.cs.map (af.dat f))) S:=by
 obtain⟨k,cs⟩:=P;have hf:=(af.lu.mp h).1;refine cv ?_;unfold ly;refine fH rfl ?_;have hd:=u_ (f:=f) (k:=k) (cs:=cs) (S:=S);rw[af.iY]at hd ⊢;have f7:a6 S.length (.lst (cs.map (af.dat f)))=true:=P1 aI;have hl:cs.length<=1000:=by have:=a_.fit_le hf;omega
 show aR (jZ [_] S) _;cases k with
 |go x =>
  have e:cs=[]:=iC.mp hf.1;subst e;simp[jZ,hd,gD,a_.word,a_.pay,af.cs];exact eT f7 ⟨rfl,rfl⟩
 |stay =>
  have e:cs=[]:=iC.mp hf;subst e;simp[jZ,hd,gD,a_.word,a_.pay,af.cs];exact eT f7 ⟨rfl,rfl⟩
 |none =>
  have e:cs=[]:=iC.mp hf;subst e;simp[jZ,hd,gD,a_.word,a_.pay,af.cs];exact eT f7 ⟨rfl,rfl⟩
 |loop =>
  obtain⟨c,rfl⟩:=qN.mp hf;simp[jZ,hd,gD,a_.word,a_.pay,af.cs,L3];exact eT f7 ⟨rfl,rfl⟩
 |scale r =>
  obtain⟨c,rfl⟩:=qN.mp hf.1;simp[jZ,hd,gD,a_.word,a_.pay,af.cs,L3];exact eT f7 ⟨rfl,rfl⟩
 |seq =>
  simp[jZ,hd,gD,a_.word,a_.pay,af.cs,CG,mY];exact eT f7 ⟨rfl,rfl⟩
 |alt =>
  simp[jZ,hd,gD,a_.word,a_.pay,af.cs,CG,mY];exact eT f7 ⟨rfl,rfl⟩
theorem P2(h:P.ok b):o7 [P.dat f] S=.ok (.lst (P.cs.map (af.dat f))) S:=by
 obtain⟨k,cs⟩:=P;have hf:=(af.lu.mp h).1;refine cv ?_;unfold o7;refine fH rfl ?_;have hd:=u_ (f:=f) (k:=k) (cs:=cs) (S:=S);rw[af.iY]at hd ⊢;have f7:a6 S.length (.lst (cs.map (af.dat f)))=true:=P1 aI;have hl:cs.length<=1000:=by have:=a_.fit_le hf;omega
 show aR (jY [_] S) _;cases k with
 |go x =>
  have e:cs=[]:=iC.mp hf.1;subst e;simp[jY,hd,gD,a_.word,a_.pay,af.cs];exact eT f7 ⟨rfl,rfl⟩
 |stay =>
  have e:cs=[]:=iC.mp hf;subst e;simp[jY,hd,gD,a_.word,a_.pay,af.cs];exact eT f7 ⟨rfl,rfl⟩
 |none =>
  have e:cs=[]:=iC.mp hf;subst e;simp[jY,hd,gD,a_.word,a_.pay,af.cs];exact eT f7 ⟨rfl,rfl⟩
 |loop =>
  obtain⟨c,rfl⟩:=qN.mp hf;simp[jY,hd,gD,a_.word,a_.pay,af.cs];exact eT f7 ⟨rfl,rfl⟩
 |scale r =>
  obtain⟨c,rfl⟩:=qN.mp hf.1;simp[jY,hd,gD,a_.word,a_.pay,af.cs];exact eT f7 ⟨rfl,rfl⟩
 |seq =>
  simp[jY,hd,gD,a_.word,a_.pay,af.cs,CG,mY];exact eT f7 ⟨rfl,rfl⟩
 |alt =>
  simp[jY,hd,gD,a_.word,a_.pay,af.cs,CG,mY];exact eT f7 ⟨rfl,rfl⟩
omit aI
theorem P4{x:List Nat}:gO (.str (a0 x)) (.tup [.str (Str.ofString "stay"),.str (Str.ofString "none")]) S=.ok (.bl (decide (x=[115,116,97,121]\/x=[110,111,110,101]))) S:=by
 have ao:Str.ofString "stay"=a0 [115,116,97,121]:=rfl;have e2:Str.ofString "none"=a0 [110,111,110,101]:=rfl;rw[ao,e2,L8 (xs:=[.str (a0 [115,116,97,121]),.str (a0 [110,111,110,101])]) rfl rfl (by simp[jK])];have go:∀y:List Nat,q_ (.str (a0 y)) (.str (a0 x))=decide (x=y):=λy=>by
  show(a0 y==a0 x)=_;by_cases h:x=y
  .subst h;simp
  .have h2:¬y=x:=λe=>h e.symm
   simp[h,h2]
 have:inD (.str (a0 x)) [.str (a0 [115,116,97,121]),.str (a0 [110,111,110,101])]=decide (x=[115,116,97,121]\/x=[110,111,110,101]):=by
  unfold inD;simp only[List.any_cons,List.any_nil,go];simp
 rw[this]
theorem nG.ok{x:List Nat}(h:nG x):oy x:=λc hc=>by
 have:=Ml.mp (h.abc c hc);omega
theorem aaR{x:List Nat}(h:nG x):u9 [.str (a0 x)] S=.ok (.bl true) S:=by
 refine cv ?_;unfold u9;refine fH rfl ?_;have h1:=h.pos;have h2:=h.le;have aH:=P4 (S:=S) (x:=x);have bQ:¬(x=[115,116,97,121]\/x=[110,111,110,101]):=λz=>z.elim h.ns h.nn;have e:cP (cO (hS (ai 0)) (aV 1) dA (ay gO (ai 1) (au (.str "abcdefghijklmnopqrstuvwxyz"))) [1]) [some (.str (a0 x)),none] S=.ok (.lst (x.map λ_=>.bl true)) S :=
  sA (l:=x) (row:=iM) (λ_=>.bl true) (ud (d:=.str (a0 x)) (bD (i:=0) rfl) (by simp[LC])) (by omega) (λacc=>by simp[LC]) (λc hc acc=>⟨_,rfl,gA (bD (i:=1) rfl) rfl (by
   rw[jp1,UQ];simp[h.abc c hc])⟩) λc hc=>rfl
 show aR (sM [some (.str (a0 x)),none] S) _;have bu:((x.length:Int)<=8):=by omega
 have fz:((1:Int)<=x.length):=by omega
 unfold sM;generalize cP (cO (hS (ai 0)) (aV 1) dA (ay gO (ai 1) (au (.str "abcdefghijklmnopqrstuvwxyz"))) [1])=F at e ⊢;simp[aH,bQ,bu,fz,e,L_];omega
def yq(isr:aK)(b:Rat->Prop)(f:Rat->D):Prop:=∀r S,b r->isr [f r,.cls "Ratio"] S=.ok (.bl true) S
theorem aaS(hi:yq isr b f)(h:P.ok b):Ij isr [P.dat f] S=.ok (.bl true) S:=by
 obtain⟨k,cs⟩:=P;have hf:=(af.lu.mp h).1;refine cv ?_;unfold Ij;refine fH rfl ?_;have hd:=u_ (f:=f) (k:=k) (cs:=cs) (S:=S);rw[af.iY]at hd ⊢;have hl:cs.length<=1000:=by have:=a_.fit_le hf;omega
 show aR (o9 isr [_] S) _;cases k with
 |go x =>
  have e:cs=[]:=iC.mp hf.1;subst e;have hn:=aaR (S:=S) hf.2;simp[o9,hd,gD,a_.word,a_.pay,af.cs,hn]
 |stay =>
  have e:cs=[]:=iC.mp hf;subst e;simp[o9,hd,gD,a_.word,a_.pay,af.cs]
 |none =>
  have e:cs=[]:=iC.mp hf;subst e;simp[o9,hd,gD,a_.word,a_.pay,af.cs]
 |loop =>
  obtain⟨c,rfl⟩:=qN.mp hf;simp[o9,hd,gD,a_.word,a_.pay,af.cs]
 |scale r =>
  obtain⟨c,rfl⟩:=qN.mp hf.1;have hr:=hi r S hf.2;simp[o9,hd,gD,a_.word,a_.pay,af.cs,hr]
 |seq =>
  have bu:((2:Int)<=cs.length):=by have:=hf.1;omega
  have fz:((cs.length:Int)<=6):=by have:=hf.2;omega
  simp[o9,hd,gD,a_.word,a_.pay,af.cs,bu,fz];omega
 |alt =>
  have bu:((2:Int)<=cs.length):=by have:=hf.1;omega
  have fz:((cs.length:Int)<=6):=by have:=hf.2;omega
  simp[o9,hd,gD,a_.word,a_.pay,af.cs,bu,fz];omega
end
section
variable{S:Store}{b:Rat->Prop}{f:Rat->D}
theorem aaT{n:Nat}{xs:List D}(h:S[n]?=some (.lst xs)):Cw (.ptr n) (.lst []) S=.ok (.bl (!decide (xs=[]))) S:=by
 have h1:cB S (.ptr n)=some xs:=by simp[cB,h]
 have aS:eqO true ["Ratio"] [("Ratio",gS)] 12 (.ptr n) (.lst []) S=.ok (.bl (!decide (xs=[]))) S:=by
  unfold eqO;rw[h1];simp only[w6];cases xs with
  |nil=>rw[if_pos rfl,if_pos (by intro i x y e;simp at e)];rfl
  |cons x xs=>rw[if_neg (by simp)];simp
 have key:bC true (.ptr n) (.lst []) S=.bad\/bC true (.ptr n) (.lst []) S=.ok (.bl (!decide (xs=[]))) S:=by
  unfold bC;have e2:toP S (.lst [])=some (.list []):=rfl;rw[e2];have ao:toP S (.ptr n)=(iI xs).map .list:=by
   show(match S[n]? with
    |some (.lst ds)=>(iI ds).map PyData.list
    |_=>none)=_
   rw[h]
  rw[ao];cases q:iI xs with
  |none=>exact .inl rfl
  |some ps =>
   have hl:=Ir q;simp only[ta];split
   .right
    have:PyData.eqv (.list ps) (.list [])=decide (xs=[]):=by
     cases ps with
     |nil =>
      cases xs with
      |nil=>rfl
      |cons x xs=>simp at hl
     |cons p ps =>
      cases xs with
      |nil=>simp at hl
      |cons x xs=>simp[PyData.eqv,PyData.eqvAll]
    rw[this];rfl
   .exact .inl rfl
 unfold Cw;rcases key with e|e
 .rw[e3 e];exact aS
 .rw[p3 e]
def dq(f:Rat->D)(t:List (List Nat×af)):List D:=(t.map (bf f)).reverse
theorem aaU:dq f []=[]:=rfl
theorem Iw{p:List Nat×af}{t:List (List Nat×af)}:dq f (p::t)=dq f t++[bf f p]:=by simp[dq]
theorem P5{t u:List (List Nat×af)}:dq f (t++u)=dq f u++(t.map (bf f)).reverse:=by simp[dq]
theorem aaV{n:Nat}{p:List Nat×af}{t:List (List Nat×af)}(h:S[n]?=some (.lst (dq f (p::t)))):oa (.ptr n) [] S=.ok (bf f p) (S.set n (.lst (dq f t))):=by
 unfold oa;simp only[h];rw[Iw];simp
theorem aaW{sl:aJ}{fe:aQ}{fr:c1}{d:D}{xs ds:List D}(h:fe sl S=.ok d S)(hs:Gr S d=some xs)(h2:fr sl S=.ok ds S):oQ fe fr sl S=.ok (xs++ds) S:=by
 unfold oQ;simp only[h,kd,hs,h2]
theorem CH(s:List Nat):∀(i:Nat) (cs:List af),gV s i cs=(cs.zipIdx i).map λq=>(s++[q.2],q.1)
 |i,[]=>rfl
 |i,c::cs=>by rw[gV,List.zipIdx_cons,dD,CH s (i+1) cs]
theorem P6{sl:aJ}{s:List Nat}{p:af}{i j k l:Nat}(aI:∀k r,a6 k (f r)=true)(hp:p.ok b)(hs:s.length<=1000)(hi:sl[i]?=some (some (c0 s)))(bH:sl[j]?=some (some (p.dat f)))(hk:k<sl.length)(hl:l<sl.length)(h1:i≠k)(h2:i≠l)(aH:k≠l) :
  cP (cO (oo (aj (az ly (aj (ai j) aq)) aq)) (fy (cL (aV k) (cL (aV l) e'))) dA (az jar (aj (az jar (oQ (ai i) (aj (ai k) aq))) (aj (ai l) aq))) [k,l]) sl S=.ok (.lst ((gV s 0 p.cs).map (bf f))) S:=by
 have hc:p.cs.length<=6:=by
  obtain⟨c6,cs⟩:=p;exact a_.fit_le (af.lu.mp hp).1
 have hit:oo (aj (az ly (aj (ai j) aq)) aq) sl S=.ok ((p.cs.zipIdx 0).map λq=>.tup [iX q.2,q.1.dat f],λS2=>dO S2 (.lst (p.cs.map (af.dat f)))=some (p.cs.map (af.dat f))) S:=by
  rw[UN (hU (cy (bD bH) c') (aaQ aI hp)) (lW _),PY]
 rw[sA (l:=p.cs.zipIdx 0) (row:=λq=>.tup [iX q.2,q.1.dat f]) (λq=>bf f (s++[q.2],q.1)) hit (by simp;omega) (λacc=>by simp) (λq hq acc=>?_) (λq hq=>ym aI _ _),CH,s8]
 .rfl
 .refine⟨((cD sl [k,l]).set k (some (iX q.2))).set l (some (q.1.dat f)),?_,?_⟩
  .simp[fy,cL,e',aV]
  .have iN:(((cD sl [k,l]).set k (some (iX q.2))).set l (some (q.1.dat f)))[i]?=some (some (c0 s)):=by
    simp only[cD];rw[nL (iA h2),nL (iA h1),nL (iA h1),nL (iA h2)];exact hi
   have hK:(((cD sl [k,l]).set k (some (iX q.2))).set l (some (q.1.dat f)))[k]?=some (some (iX q.2)):=by
    simp only[cD];rw[nL (iA aH),lC (by simpa using hk)]
   have fK:(((cD sl [k,l]).set k (some (iX q.2))).set l (some (q.1.dat f)))[l]?=some (some (q.1.dat f)):=by
    simp only[cD];rw[lC (by simpa using hl)]
   have ao:oQ (ai i) (aj (ai k) aq) (((cD sl [k,l]).set k (some (iX q.2))).set l (some (q.1.dat f))) (S++[.lst acc])=.ok ((s.map fun(i:Nat)=>D.int (i:Int))++[iX q.2]) (S++[.lst acc]):=by
    exact aaW (bD iN) rfl (cy (bD hK) c')
   have e2:c0 (s++[q.2])=.tup ((s.map fun(i:Nat)=>D.int (i:Int))++[iX q.2]):=by
    unfold c0;rw[List.map_append];rfl
   unfold bf;rw[e2];exact qg (cy (qg ao (by simp;omega)) (cy (bD fK) c')) (by simp)
end
section
variable{S:Store}{b:Rat->Prop}{f:Rat->D}{P:af}{isr:aK}
theorem P7{sl:aJ}{ty:Store->D->Bool}{g:lQ}{fo:aQ}{fs:c1}{d r:D}{ds:List D}{S1:Store}(h:fo sl S=.ok d S)(hd:fs sl S=.ok ds S)(ht:ty S d=true)(h2:g d ds S=.ok r S1):fj ty g fo fs sl S=.ok r S1:=by
 unfold fj;simp only[h,hd,kd];simp[ht,h2]
theorem P8{sl:aJ}{i n:Nat}{xs:List D}(hi:sl[i]?=some (some (.ptr n)))(h:S[n]?=some (.lst xs)):a5 (ay Cw (ai i) (az eG aq)) sl S=.ok (!decide (xs=[])) S:=by
 have:ay Cw (ai i) (az eG aq) sl S=.ok (.bl (!decide (xs=[]))) S:=gA (bD hi) (uG c' (by simp)) (aaT h);unfold a5;rw[this];rfl
theorem P9{sl a7:aJ}{S1 S2:Store}{Q:jh}{fe:aQ}{g:cX}{d:D}(h:fe sl S=.ok d S1)(hg:g d sl S1=.nx a7 S2)(hq:Q.nx a7 S2):aR (b_ fe g sl S) Q:=by
 simp[h,hg,hq]
theorem CI{sl:aJ}{S1:Store}{Q:jh}{fe:aQ}{d:D}(h:fe sl S=.ok d S1)(hq:Q.nx sl S1):aR (jG fe sl S) Q:=by
 simp[h,hq]
theorem P_{sl:aJ}{i n:Nat}{fe:aQ}{xs ys:List D}(hi:sl[i]?=some (some (.ptr n)))(h:S[n]?=some (.lst xs))(he:fe sl S=.ok (.lst ys) S)(hl:xs.length+ys.length<=1000000):fj hO pN (ai i) (aj fe aq) sl S=.ok .non (S.set n (.lst (xs++ys))):=by
 refine P7 (bD hi) (cy he c') (A4 h) ?_;unfold pN;simp only[h,w6];rw[if_pos hl]
theorem P'{sl:aJ}{i n:Nat}{p:List Nat×af}{t:List (List Nat×af)}(hi:sl[i]?=some (some (.ptr n)))(h:S[n]?=some (.lst (dq f (p::t)))):fj hO oa (ai i) aq sl S=.ok (bf f p) (S.set n (.lst (dq f t))) :=
 P7 (bD hi) c' (A4 h) (aaV h)
theorem Qa{sl:aJ}{fe:aQ}{xs:List D}(h:fe sl S=.ok (.lst xs) S):rX false fe sl S=.ok (.lst xs.reverse) S:=by
 unfold rX;simp only[h,kd];rfl
theorem Qb{t:List (List Nat×af)}:(dq f t).length=t.length:=by simp[dq]
theorem aaX(aI:∀k r,a6 k (f r)=true)(hi:yq isr b f)(h:P.ok b)(hs:P.size<=40)(hd:P.dep<=8):Il isr [P.dat f] S=.ok .non S:=by
 refine cv ?_;unfold Il;refine fH rfl ?_;show aR (Ik isr ([some (P.dat f)]++List.replicate 7 none) S) _;unfold Ik;refine c5 (λsl S1=>S1=S++[.lst (dq f [([],P)])]/\sl=[some (P.dat f),some (.ptr S.length),some (.int 0),none,none,none,none,none]) ?_ ?_
 .simp
  rfl
 rintro sl S1 ⟨rfl,rfl⟩;refine FO P.size (λk sl S1=>∃i cq cR dZ du d0,k+i=P.size/\S1=S++[.lst (dq f (eW P i))]/\sl=[some (P.dat f),some (.ptr S.length),some (.int ((i:Nat):Int)),cq,cR,dZ,du,d0]) ⟨0,none,none,none,none,none,rfl,rfl,rfl⟩ (by omega) ?_;rintro k sl S1 ⟨i,cq,cR,dZ,du,d0,hk,rfl,rfl⟩;have hg:(S++[dx.lst (dq f (eW P i))])[S.length]?=some (.lst (dq f (eW P i))):=FX rfl;rw[P8 (i:=1) (n:=S.length) rfl hg,cI];have hlen:=af.lx [] P;by_cases cC:i<(af.pre [] P).length
 .obtain⟨r,fF⟩:=Ih cC
  generalize hp:(af.pre [] P)[i]=p at fF;obtain⟨s,p⟩:=p;have wZ:(s,p)∈af.pre [] P:=by rw[<-hp];exact s9 _
  obtain⟨hok,xl⟩:=af.CA P [] h _ wZ;have nA:=p.yl;simp only[nO,vy]at xl;have r6:s.length<8:=by omega
  rw[fF]at hg ⊢;have hE:(dq f ((s,p)::r)=[])=False:=by rw[Iw];simp
  simp only[hE,decide_false,Bool.not_false,if_true];have aaY:r.length<=40:=by
   have:=PF (P:=P) (i:=i);rw[fF]at this;simp at this;omega
  refine c5 (λsl S2=>S2=S++[.lst (dq f r)]/\sl=[some (P.dat f),some (.ptr S.length),some (.int ((i:Nat):Int)),some (c0 s),some (p.dat f),dZ,du,d0]) (P9 (P' (i:=1) rfl hg) rfl ⟨p7 rfl,rfl⟩) ?_;rintro sl S2 ⟨rfl,rfl⟩;refine c5 (λsl S2=>S2=S++[.lst (dq f r)]/\sl=[some (P.dat f),some (.ptr S.length),some (.int ((i+1:Nat):Int)),some (c0 s),some (p.dat f),dZ,du,d0]) ?_ ?_
  .simp
  rintro sl S2 ⟨rfl,rfl⟩;refine c5 (λsl S2=>S2=S++[.lst (dq f r)]/\sl=[some (P.dat f),some (.ptr S.length),some (.int ((i+1:Nat):Int)),some (c0 s),some (p.dat f),dZ,du,d0]) ?_ ?_
  .have ao:¬((i:Int)+1>40):=by omega
   have e2:¬((s.length:Int)>=8):=by omega
   have bu:=aaS (S:=S++[.lst (dq f r)]) hi hok;simp[ao,e2,bu,c0]
  rintro sl S2 ⟨rfl,rfl⟩;refine c5 (λsl S2=>S2=S++[.lst (dq f r)]/\sl=[some (P.dat f),some (.ptr S.length),some (.int ((i+1:Nat):Int)),some (c0 s),some (p.dat f),some (.lst ((gV s 0 p.cs).map (bf f))),du,d0]) (k8 (P6 aI hok (by omega) (i:=3) (j:=4) rfl rfl (by simp) (by simp) (by omega) (by omega) (by omega)) ⟨rfl,rfl⟩) ?_;rintro sl S2 ⟨rfl,rfl⟩;have aaZ:(gV s 0 p.cs).length<=6:=by
   rw[CH];obtain⟨c6,cs⟩:=p;simp;exact a_.fit_le (af.lu.mp hok).1
  refine CI (P_ (i:=1) (ys:=((gV s 0 p.cs).map (bf f)).reverse) rfl (FX rfl) (Qa (bD (i:=5) rfl)) (by rw[Qb];simp;omega)) ⟨k - 1,by omega,i+1,some (c0 s),some (p.dat f),_,du,d0,by omega,?_,rfl⟩;rw[p7 rfl,eW,fF];obtain⟨c6,cs⟩:=p;show _=S++[dx.lst (dq f (gV s 0 cs++r))]
  rw[P5];rfl
 .rw[PD (by omega)]
  simp[aaU];exact LW (fX.refl S) rfl ⟨rfl,rfl⟩
def CJ(f:Rat->D)(L:List (List Nat×af)):Nat->Option D
 |0=>none
 |j+1=>(L[j]?).map λp=>.lst ((gV p.1 0 p.2.cs).map (bf f))
def sN(f:Rat->D)(P:af)(h:Nat)(i:Nat):aJ:=[some (P.dat f),some (.ptr h),((af.pre [] P)[i]?).map λp=>c0 p.1,((af.pre [] P)[i]?).map λp=>p.2.dat f,CJ f (af.pre [] P) i,none,none]
def sO(f:Rat->D)(P:af)(h:Nat):Nat->aJ
 |0=>[some (P.dat f),some (.ptr h),none,none,none,none,none]
 |i+1=>[some (P.dat f),some (.ptr h),((af.pre [] P)[i]?).map λp=>c0 p.1,((af.pre [] P)[i]?).map λp=>p.2.dat f,CJ f (af.pre [] P) (i+1),none,none]
def qB(f:Rat->D)(P:af)(i:Nat):List D:=dq f (eW P i).tail
def CK(f:Rat->D)(P:af)(h:Nat):ZG.o2 where
 ds:=(af.pre [] P).map (bf f)
 fin:=.done
 slA:=sO f P h
 slY:=sN f P h
 sl0:=[some (P.dat f)]++List.replicate 6 none
 bP:=ZG.kx h (qB f P)
 U:=ZG.ej h (qB f P)
theorem Qc{h j:Nat}(bH:j<=(af.pre [] P).length)(hg:S[h]?=some (.lst (dq f (eW P j)))):ZG.ku (CB isr) (Io isr) (Ip isr) ((af.pre [] P).map (bf f)) (sO f P h) (sN f P h) j S (S.set h (.lst (qB f P j))):=by
 have Iy:∃x2 cq cR,sO f P h j=[some (P.dat f),some (.ptr h),x2,cq,cR,none,none]/\cR=CJ f (af.pre [] P) j:=by
  cases j with
  |zero=>exact⟨_,_,_,rfl,rfl⟩
  |succ i=>exact⟨_,_,_,rfl,rfl⟩
 obtain⟨x2,cq,cR,CL,fz⟩:=Iy;have d_:CB isr (sO f P h j) S=.ok (!decide (dq f (eW P j)=[])) S:=by
  rw[CL];exact P8 (i:=1) rfl hg
 unfold ZG.ku;by_cases cC:j<(af.pre [] P).length
 .rw[dif_pos (by simpa using cC)]
  obtain⟨r,fF⟩:=Ih cC;have E_:(af.pre [] P)[j]?=some (af.pre [] P)[j]:=hy cC;have jr:sN f P h j=[some (P.dat f),some (.ptr h),some (c0 (af.pre [] P)[j].1),some ((af.pre [] P)[j].2.dat f),cR,none,none]:=by
   unfold sN;rw[E_,fz];rfl
  refine⟨?_,?_,?_⟩
  .rw[d_,fF]
   have:(dq f ((af.pre [] P)[j]::r)=[])=False:=by rw[Iw];simp
   simp only[this,decide_false,Bool.not_false]
  .rw[CL,jr]
   rw[fF]at hg;refine Ie ?_;refine P9 (P' (i:=1) rfl hg) rfl ⟨rfl,?_⟩;unfold qB;rw[fF];rfl
  .rw[jr,List.getElem_map]
   exact qg (cy (bD (i:=2) rfl) (cy (bD (i:=3) rfl) c')) (by simp)
 .rw[dif_neg (by simpa using cC)]
  have e:=PD (P:=P) (i:=j) (by omega);rw[e]at hg;refine⟨by rw[d_,e];rfl,?_⟩;unfold qB;rw[e];obtain⟨hn,e2⟩:=List.getElem?_eq_some_iff.mp hg;show S.set h (.lst (dq f []))=S;rw[<-e2,Dh]
theorem aa0{h:Nat}(aI:∀k r,a6 k (f r)=true)(hi:yq isr b f)(dG:P.ok b)(hs:P.size<=40)(hd:P.dep<=8):ZG.lh 1 7 h (Im isr) (CB isr) (Io isr) (Ip isr) (CD isr) [P.dat f] (CK f P h) (qB f P) where
 len:=rfl
 sl0:=rfl
 fin:=rfl
 Cg:=rfl
 u:=rfl
 st:=λS ⟨_,hl,_⟩=>by
  have hl:=hl rfl;refine⟨S++[.lst (dq f (eW P 0))],?_,?_⟩
  .refine Ie ?_
   unfold Im;show aR (a' _ _ ([some (P.dat f)]++List.replicate 6 none) S) _;refine c5 (λsl S1=>sl=[some (P.dat f)]++List.replicate 6 none/\S1=S) (CI (hU (cy (bD (i:=0) rfl) c') (aaX aI hi dG hs hd)) ⟨rfl,rfl⟩) ?_;rintro sl S1 ⟨rfl,rfl⟩;rw[<-hl];simp[CK,sO,eW];rfl
  .have:=Qc (S:=S++[.lst (dq f (eW P 0))]) (isr:=isr) (P:=P) (f:=f) (h:=h) (j:=0) (iD _) (FX hl)
   rw[p7 hl]at this;show ZG.ku _ _ _ _ _ _ 0 _ (if 0=0 then _ else _);rw[if_pos rfl];exact this
 lp:=⟨λi oS S ⟨hc,_,hq⟩=>by
  have hq:=hq (by omega);have cC:i<(af.pre [] P).length:=by simpa[CK]using oS
  obtain⟨r,fF⟩:=Ih cC;have wQ:(af.pre [] P)[i]?=some (af.pre [] P)[i]:=hy cC;generalize hp:(af.pre [] P)[i]=p at fF wQ;obtain⟨s,p⟩:=p;have wZ:(s,p)∈af.pre [] P:=by rw[<-hp];exact s9 _
  obtain⟨hok,xl⟩:=af.CA P [] dG _ wZ;have nA:=p.yl;simp only[nO,vy]at xl;have hh:h<S.length:=(List.getElem?_eq_some_iff.mp hq).1;have hq:S[h]?=some (.lst (dq f r)):=by
   rw[hq];show some (dx.lst (dq f (eW P (i+1 - 1)).tail))=_;rw[Nat.add_sub_cancel,fF];rfl
  have aaY:r.length<=40:=by
   have:=PF (P:=P) (i:=i);rw[fF]at this;simp at this;omega
  have aaZ:(gV s 0 p.cs).length<=6:=by
   rw[CH];obtain⟨c6,cs⟩:=p;simp;exact a_.fit_le (af.lu.mp hok).1
  have et:dq f (eW P (i+1))=dq f r++((gV s 0 p.cs).map (bf f)).reverse:=by
   rw[eW,fF];obtain⟨c6,cs⟩:=p;show dq f (gV s 0 cs++r)=_;rw[P5];rfl
  refine⟨S.set h (.lst (dq f (eW P (i+1)))),?_,?_⟩
  .refine Ie ?_
   have aa1:sN f P h i=[some (P.dat f),some (.ptr h),some (c0 s),some (p.dat f),CJ f (af.pre [] P) i,none,none]:=by
    unfold sN;rw[wQ];rfl
   have CL:sO f P h (i+1)=[some (P.dat f),some (.ptr h),some (c0 s),some (p.dat f),some (.lst ((gV s 0 p.cs).map (bf f))),none,none]:=by
    show[some (P.dat f),some (.ptr h),((af.pre [] P)[i]?).map λp=>c0 p.1,((af.pre [] P)[i]?).map λp=>p.2.dat f,((af.pre [] P)[i]?).map λp=>.lst ((gV p.1 0 p.2.cs).map (bf f)),none,none]=_;rw[wQ];rfl
   show aR (CD isr (sN f P h i) S) _;show aR _ ⟨λb7 ah=>b7=sO f P h (i+1)/\_,_,_,_,_⟩;rw[aa1,CL];unfold CD;refine c5 (λsl S2=>S2=S/\sl=[some (P.dat f),some (.ptr h),some (c0 s),some (p.dat f),some (.lst ((gV s 0 p.cs).map (bf f))),none,none]) (k8 (P6 aI hok (by omega) (i:=2) (j:=3) rfl rfl (by simp) (by simp) (by omega) (by omega) (by omega)) ⟨rfl,rfl⟩) ?_;rintro sl S2 ⟨rfl,rfl⟩;refine CI (P_ (i:=1) (ys:=((gV s 0 p.cs).map (bf f)).reverse) rfl hq (Qa (bD (i:=4) rfl)) (by rw[Qb];simp;omega)) ⟨rfl,?_⟩;rw[et]
  .have:=Qc (S:=S.set h (.lst (dq f (eW P (i+1))))) (isr:=isr) (P:=P) (f:=f) (h:=h) (j:=i+1) cC (lC hh)
   rw[List.set_set]at this;show ZG.ku _ _ _ _ _ _ (i+1) _ (if i+1=0 then _ else _);rw[if_neg (by omega)];exact this⟩
 cl:=λi _=>by
  rw[jP];intro d hd;obtain⟨p,_,rfl⟩:=List.mem_map.mp (List.mem_reverse.mp hd);exact ym aI p 0
end
def aP(x:List Nat):D:=.str (a0 x)
def iZ(acc:List (List Nat))(p:List Nat×af):List (List Nat):=match p.2 with
 | .nd (.go x) _=>if x∈acc then acc else acc++[x]
 |_=>acc
def af.names(P:af):List (List Nat):=(af.pre [] P).foldl iZ []
theorem Iz{x:List Nat}:∀{l:List (List Nat)},inD (aP x) (l.map aP)=decide (x∈l)
 |[]=>by simp[inD]
 |y::l=>by
  have ih:=Iz (x:=x) (l:=l);unfold inD at ih ⊢;rw[dD,List.any_cons,ih];have:q_ (aP y) (aP x)=decide (y=x):=by
   show(a0 y==a0 x)=_;by_cases h:y=x
   .subst h;simp
   .simp[h]
  rw[this];by_cases h:y=x
  .subst h;simp
  .have h2:¬x=y:=λe=>h e.symm
   simp[h,h2]
theorem CM:∀(l:List (List Nat×af)) (acc:List (List Nat)),(l.foldl iZ acc).length<=acc.length+l.length
 |[],acc=>by simp
 |p::l,acc=>by
  have:=CM l (iZ acc p);have h2:(iZ acc p).length<=acc.length+1:=by
   unfold iZ;split
   .split<;>simp
   .omega
  simp only[vI,j1];omega
section
variable{S S1:Store}{b:Rat->Prop}{f:Rat->D}{P:af}{isr:aK}
structure IA(isr:aK)(b:Rat->Prop)(f:Rat->D)(P:af):Prop where
 aI:∀k r,a6 k (f r)=true
 hi:yq isr b f
 ok:P.ok b
 sz:P.size<=40
 dp:P.dep<=8
theorem kA{off:Nat}{fa:c1}{sl:aJ}(A:IA isr b f P)(h:fa sl S=.ok [P.dat f] S1):∃qs',CF isr off fa sl S=.ok ((af.pre [] P).map (bf f),.done,ZG.kx (S1.length+off) qs',ZG.ej (S1.length+off) qs') S1/\∀j,j<=(af.pre [] P).length->qs' j=qB f P j:=by
 obtain⟨f6,qs',ao,e2,bu,fz,e5,aa2⟩:=ZG.ZI (aa0 (h:=S1.length+off) A.aI A.hi A.ok A.sz A.dp);refine⟨qs',?_,λj bH=>aa2 j (by simpa[CK]using bH)⟩;unfold CF ZG.sx PR;rw[h];simp only[kd];rw[if_pos (show[P.dat f].length=1 from rfl),show[P.dat f]++([]:List D)=[P.dat f]from rfl,ao];show Out.ok (f6.ds,f6.fin,f6.bP,f6.U) S1=_;rw[e2,bu,fz,e5];rfl
theorem Qd{S1 T:Store}{acc:List D}(h:a9 S1.length acc=true):cG (dy (S1++.lst acc::T) S1.length 6) (.ptr S1.length)=some (.lst acc):=by
 rw[cG,dy,if_neg (jz _)];rw[vB (dE _)];simp only[vC,De];rw[Fu h];rfl
theorem aa3{sl:aJ}{fe:aQ}{acc:List D}{T:Store}(h:fe sl S=.ok (.ptr S.length) (S++.lst acc::T))(aI:a9 S.length acc=true):cP fe sl S=.ok (.lst acc) S:=by
 refine cv ?_;rw[AH,h,cI];exact uc (fX.refl S) (Qd aI) (by simp)
def jw(S:Store)(acc:List D)(i:Nat)(aY:Nat->List D):Store:=match i with
 |0=>S++[.lst acc]
 |i+1=>S++[.lst acc,.lst (aY i)]
theorem aa4{acc q:List D}(h:ZG.nz S)(ha:a9 0 acc=true)(hq:a9 0 q=true):ZG.nz (S++[.lst acc,.lst q]):=λm hm=>by
 rcases mK.mp hm with z|z
 .exact Pw (by simp) m (h m z)
 .simp only[List.mem_cons,List.not_mem_nil,or_false]at z
  rcases z with rfl|rfl
  .exact fY (iD _) _ ha
  .exact fY (iD _) _ hq
theorem aa5{acc:List D}(h:ZG.nz S)(ha:a9 0 acc=true):ZG.nz (S++[.lst acc]):=λm hm=>by
 rcases mK.mp hm with z|z
 .exact Pw (by simp) m (h m z)
 .rw[pk.mp z]
  exact fY (iD _) _ ha
theorem u'{acc:List D}{i:Nat}{aY:Nat->List D}(h:ZG.nz S)(ha:a9 0 acc=true)(hq:∀j,j<i->a9 0 (aY j)=true):ZG.kx (S.length+1) aY i (jw S acc i aY):=by
 cases i with
 |zero=>exact⟨aa5 h ha,λ_=>by simp[jw],λz=>absurd z (jz _)⟩
 |succ i=>exact⟨aa4 h ha (hq i (mL i)),λz=>by omega,λ_=>by simp[jw]⟩
theorem va{acc:List D}{i:Nat}{aY:Nat->List D}:ZG.ej (S.length+1) aY i (jw S acc i aY)=S++[.lst acc,.lst (aY i)]:=by
 cases i with
 |zero=>simp[ZG.ej,jw]
 |succ i=>simp[ZG.ej,jw]
section
variable{α:Type}{row:α->D}{aY:Nat->List D}{g:cX}{bt:b9}{fe:aQ}{own:List Nat}{sl sl0:aJ}{ge:ZG.kq}
theorem IB(p:α->Bool)(bY:α->D)(d5:ZG.nz S)(aI:∀a,p a=true->a6 0 (bY a)=true):∀(l:List α) (i:Nat) (acc:List D),(∀j,j<=i+l.length->a9 0 (aY j)=true)->acc.length+l.length<=1000000->a9 0 acc=true ->
  (∀a∈l,∀T,∃a7,g (row a) sl0 T=.nx a7 T/\bt a7 T=.ok (p a) T/\(p a=true->fe a7 T=.ok (bY a) T)) ->
  ∃T,ZG.jv (ZG.kx (S.length+1) aY) (ZG.ej (S.length+1) aY) .done g bt fe S.length sl0 i (l.map row) (jw S acc i aY)=.ok () (S++.lst (acc++(l.filter p).map bY)::T)
 |[],i,acc,hq,_,ha,_=>by
  refine⟨[.lst (aY i)],?_⟩;show ZG.jv _ _ _ g bt fe _ sl0 i [] _=_;rw[ZG.jv,if_pos (u' d5 ha λj bH=>hq j (by omega))];show Out.ok () (ZG.ej _ _ _ _)=_;rw[va];simp
 |a::l,i,acc,hq,hl,ha,h=>by
  obtain⟨a7,ao,e2,bu⟩:=h a (by simp) (S++[.lst acc,.lst (aY i)]);have cC:acc.length<1000000:=by simp at hl;omega
  show ∃T,ZG.jv _ _ _ g bt fe _ sl0 i (row a::l.map row) _=_;rw[ZG.jv,if_pos (u' d5 ha λj bH=>hq j (by omega)),va,ao];dsimp only;rw[e2];cases hp:p a with
  |true =>
   have wi:a9 0 (acc++[bY a])=true:=by
    rw[FI,ha,AJ,aI a hp];rfl
   obtain⟨T,IC⟩:=IB p bY d5 aI l (i+1) (acc++[bY a]) (λj bH=>hq j (by simp;omega)) (by simp at hl ⊢;omega) wi λb hb=>h b (by simp[hb]);refine⟨T,?_⟩;dsimp only;rw[bu hp];dsimp only;rw[show(S++[dx.lst acc,.lst (aY i)])[S.length]?=some (.lst acc)by simp];dsimp only;rw[if_pos cC,show(S++[dx.lst acc,.lst (aY i)]).set S.length (.lst (acc++[bY a]))=jw S (acc++[bY a]) (i+1) aY by simp[jw],IC];simp[hp]
  |false =>
   obtain⟨T,IC⟩:=IB p bY d5 aI l (i+1) acc (λj bH=>hq j (by simp;omega)) (by simp at hl ⊢;omega) ha λb hb=>h b (by simp[hb]);refine⟨T,?_⟩;dsimp only;rw[show S++[dx.lst acc,.lst (aY i)]=jw S acc (i+1) aY from rfl,IC];simp[hp]
theorem aa6{l:List α}(p:α->Bool)(bY:α->D)(sg:ge sl S=.ok (l.map row,.done,ZG.kx (S.length+1) aY,ZG.ej (S.length+1) aY) S)(d5:ZG.nz S)(hq:∀j,j<=l.length->a9 0 (aY j)=true)(hl:l.length<=1000000)(aI:∀a,p a=true->a6 0 (bY a)=true)
  (step:∀a∈l,∀T,∃a7,g (row a) (cD sl own) T=.nx a7 T/\bt a7 T=.ok (p a) T/\(p a=true->fe a7 T=.ok (bY a) T)):cP (ZG.lj ge g bt fe own) sl S=.ok (.lst ((l.filter p).map bY)) S:=by
 obtain⟨T,e⟩:=IB (sl0:=cD sl own) (g:=g) (bt:=bt) (fe:=fe) (row:=row) p bY d5 aI l 0 [] (λj bH=>hq j (by omega)) (by simpa using hl) rfl step;refine aa3 (T:=T) ?_ ?_
 .unfold ZG.lj
  rw[sg];simp only[kd];rw[show S++[dx.lst []]=jw S [] 0 aY from rfl,e];simp
 .rw[jP]
  intro d hd;obtain⟨x,hx,rfl⟩:=List.mem_map.mp hd;exact LY (aI x (List.mem_filter.mp hx).2)
end
theorem yr(aI:∀k r,a6 k (f r)=true){i:Nat}:a9 0 (qB f P i)=true:=by
 rw[jP];intro d hd;obtain⟨p,_,rfl⟩:=List.mem_map.mp (List.mem_reverse.mp hd);exact ym aI p 0
end
section
variable{S S1:Store}{b:Rat->Prop}{f:Rat->D}{P:af}{isr:aK}
theorem qC{l:List (List Nat)}{n:Nat}:a9 n (l.map aP)=true:=by
 rw[jP];intro d hd;obtain⟨x,_,rfl⟩:=List.mem_map.mp hd;rfl
theorem Qe{l:List (List Nat)}:(l.map aP).all jK=true:=by
 rw[za];intro d hd;obtain⟨x,_,rfl⟩:=List.mem_map.mp hd;rfl
theorem Qg{n:Nat}{acc:List (List Nat)}{s:List Nat}{p:af}{x0 x2:Option D}{Q:jh}(hg:S[n]?=some (.lst (acc.map aP)))(hl:acc.length<1000)
  (hq:Q.nx [x0,some (.ptr n),x2,some (p.dat f)] (S.set n (.lst ((iZ acc (s,p)).map aP)))) :
  aR (cK (lI (a5 (ay (bC false) (ay a4 (ai 3) (au (.int 0))) (au (.str "go")))) (a5 (ay ou (ay a4 (ai 3) (au (.int 1))) (ai 1))))
   (jG (fj hO n' (ai 1) (aj (ay a4 (ai 3) (au (.int 1))) aq))) cW [x0,some (.ptr n),x2,some (p.dat f)] S) Q:=by
 obtain⟨k,cs⟩:=p;have um:S=S.set n (.lst (acc.map aP)):=by
  obtain⟨hn,e2⟩:=List.getElem?_eq_some_iff.mp hg;rw[<-e2,Dh]
 have hd:=u_ (f:=f) (k:=k) (cs:=cs) (S:=S);rw[af.iY]at hd hq ⊢;cases k with
 |go x =>
  have h2:ou (.str (a0 x)) (.ptr n) S=.ok (.bl (!decide (x∈acc))) S:=by
   have:=L7 (S:=S) (k:=aP x) (e:=.ptr n) (xs:=acc.map aP) (by simp[cH,cB,hg]) rfl Qe;rw[Iz]at this;exact this
  have aH:n' (.ptr n) [.str (a0 x)] S=.ok .non (S.set n (.lst (acc.map aP++[aP x]))):=Mb hg (by simp;omega);by_cases hx:x∈acc
  .have e:iZ acc (s,.nd (.go x) cs)=acc:=by simp[iZ,hx]
   rw[e,<-um]at hq;simp[hd,h2,hx,a_.word,a_.pay]at hq ⊢;exact hq
  .have e:iZ acc (s,.nd (.go x) cs)=acc++[x]:=by simp[iZ,hx]
   rw[e,List.map_append]at hq;simp[hd,h2,hx,a_.word,a_.pay,A4 hg,aH]at hq ⊢;exact hq
 |_ =>
  rw[show iZ acc (s,.nd _ cs)=acc from rfl,<-um]at hq;simp[hd,a_.word];exact hq
theorem IE{h:Nat}{acc q:List D}(hh:S.length=h):((S++[.lst acc,.lst q]:Store))[h]?=some (.lst acc):=by
 subst hh;simp
theorem yt(A:IA isr b f P)(d5:ZG.nz S):Iq isr [P.dat f] S=.ok (.lst (P.names.map aP)) S:=by
 refine cv ?_;unfold Iq;refine fH rfl ?_;show aR (yp isr ([some (P.dat f)]++List.replicate 3 none) S) _;unfold yp;refine c5 (λsl S1=>sl=[some (P.dat f),some (.ptr S.length),none,none]/\S1=S++[.lst []]) (by simp) ?_;rintro sl S1 ⟨rfl,rfl⟩;obtain⟨aY,ao,e2⟩:=kA (S:=S++[.lst []]) (off:=0) (sl:=[some (P.dat f),some (.ptr S.length),none,none]) (fa:=aj (ai 0) aq) A (cy (bD (i:=0) rfl) c');rw[show(S++[dx.lst []]).length+0=S.length+1 by simp]at ao;have hlen:=af.lx [] P;have dj:=A.sz;have lz:∀j,j<=(af.pre [] P).length->a9 0 (aY j)=true:=λj bH=>by rw[e2 j bH];exact yr A.aI
 refine c5 (λsl S1=>(∃x2 cq,sl=[some (P.dat f),some (.ptr S.length),x2,cq])/\∃T,S1=S++.lst (P.names.map aP)::T) ?_ ?_
 .refine ZG.HY ao (λpre sl S1=>(∃x2 cq,sl=[some (P.dat f),some (.ptr S.length),x2,cq])/\S1=jw S ((pre.foldl iZ []).map aP) pre.length aY) ⟨⟨none,none,rfl⟩,rfl⟩ ?_ ?_
  .rintro pre ⟨s,p⟩ post sl S1 he ⟨⟨x2,cq,rfl⟩,rfl⟩
   have d8:pre.length<(af.pre [] P).length:=by rw[he];simp
   refine⟨u' d5 qC λj bH=>lz j (by omega),?_⟩;rw[va];have hl:=CM pre [];simp only[nO,vy]at hl;show aR (SO.nx [some (P.dat f),some (.ptr S.length),some (c0 s),some (p.dat f)] _) _;rw[ji];refine Qg (n:=S.length) (acc:=pre.foldl iZ []) (s:=s) (p:=p) (IE rfl) (by omega) ⟨⟨_,_,rfl⟩,?_⟩;rw[Ds,List.length_append];simp[jw]
  .rintro sl S1 ⟨⟨x2,cq,rfl⟩,rfl⟩
   refine⟨u' d5 qC λj bH=>lz j (by omega),?_⟩;show aR (SO.nx _ (ZG.ej _ _ _ _)) _;rw[ji,va];exact⟨⟨_,_,rfl⟩,_,rfl⟩
 .rintro sl S1 ⟨⟨x2,cq,rfl⟩,T,rfl⟩
  simp;exact uc (fX.refl S) (Qd qC) ⟨rfl,rfl⟩
end
section
variable{S S1:Store}{b:Rat->Prop}{f:Rat->D}{P:af}
theorem sP:∀(k:Nat) (r:Rat),a6 k (cV r)=true:=λk r=>M5
theorem vb:∀(k:Nat) (r:Rat),a6 k (aU r)=true:=λk r=>M3
theorem aa7{xs:List D}:c7 (bC false) qi (.tup xs) (.tup []) S=.ok (.bl (decide (xs=[]))) S:=by
 have aS:qi (.tup xs) (.tup []) S=.ok (.bl (decide (xs=[]))) S:=rfl;have key:bC false (.tup xs) (.tup []) S=.bad\/bC false (.tup xs) (.tup []) S=.ok (.bl (decide (xs=[]))) S:=by
  unfold bC;have e2:toP S (.tup [])=some (.tuple []):=rfl;rw[e2];have ao:toP S (.tup xs)=(iI xs).map .tuple:=rfl;rw[ao];cases q:iI xs with
  |none=>exact .inl rfl
  |some ps =>
   have hl:=Ir q;simp only[ta];split
   .right
    have:PyData.eqv (.tuple ps) (.tuple [])=decide (xs=[]):=by
     cases ps with
     |nil =>
      cases xs with
      |nil=>rfl
      |cons x xs=>simp at hl
     |cons p ps =>
      cases xs with
      |nil=>simp at hl
      |cons x xs=>simp[PyData.eqv,PyData.eqvAll]
    rw[this];rfl
   .exact .inl rfl
 rcases key with e|e
 .rw[e3 e];exact aS
 .rw[p3 e]
theorem Qh{x:D}{xs:List D}(h:xs≠[])(hl:xs.length<=1000):cZ (.tup [x]) (.tup xs) S=.ok (.tup (x::xs)) S:=by
 have e:cZ (.tup [x]) (.tup xs) S=wB (.tup [x]) (.tup xs) S:=e3 (by rfl);rw[e];unfold wB;simp only;rw[if_pos ⟨by simp,h,by simp;omega⟩];rfl
theorem aa8{L:Nat}(hb:∀r,b r->yc L r)(fK:L<=1000):∀(P:af) (k:Nat),P.ok b->P.dep<=k->∀S,qA k [P.dat cV] S=.ok (P.dat aU) S:=by
 refine af.ind λc6 cs ih k h hk S=>?_;cases k with
 |zero=>have:=(af.nd c6 cs).yl;omega
 |succ k =>
  have hf:=(af.lu.mp h).1;have wY:=(af.lu.mp h).2;have aa9:=a_.fit_le hf;have je:cP (cO (hS (az o7 (aj (ai 0) aq))) (aV 2) dA (az (qA k) (aj (ai 2) aq)) [2]) [some ((af.nd c6 cs).dat cV),none,none] S=.ok (.lst (cs.map (af.dat aU))) S :=
   sA (l:=cs) (row:=af.dat cV) (af.dat aU) (ud (hU (cy (bD (i:=0) rfl) c') (P2 sP h)) (lW _)) (by omega) (λacc=>lW _) (λc hc acc=>⟨[some ((af.nd c6 cs).dat cV),none,some (c.dat cV)],rfl,hU (cy (bD (i:=2) rfl) c') (ih c hc k (wY c hc) (by have:=af.Cy (k:=c6) hc;omega) _)⟩) λc hc=>o6 vb c _
  have et:az wF (aj (cP (cO (hS (az o7 (aj (ai 0) aq))) (aV 2) dA (az (qA k) (aj (ai 2) aq)) [2])) aq) [some ((af.nd c6 cs).dat cV),none,none] S=.ok (.tup (cs.map (af.dat aU))) S:=hU (cy je c') UU;refine cv ?_;rw[qA];refine fH rfl ?_;show aR (qz _ ([some ((af.nd c6 cs).dat cV)]++List.replicate 2 none) S) _;unfold qz;refine c5 (λsl S1=>S1=S/\sl=[some ((af.nd c6 cs).dat cV),some (.tup (cs.map (af.dat aU))),none]) (k8 et ⟨rfl,rfl⟩) ?_;rintro sl S1 ⟨rfl,rfl⟩;have hd:=u_ (f:=cV) (k:=c6) (cs:=cs) (S:=S1);have ht:=aa7 (S:=S1) (xs:=cs.map (af.dat aU));have f7:a6 S1.length ((af.nd c6 cs).dat aU)=true:=o6 vb _ _;have hE:c6.fit b cs.length->(∀x,c6≠.go x)->c6≠.stay->c6≠.none->cs.map (af.dat aU)≠[]:=λh1 h2 aH bQ e=>by
   have e:cs=[]:=List.map_eq_nil_iff.mp e;subst e;cases c6<;>simp[a_.fit]at h1 h2 aH bQ
  rw[af.iY]at hd f7 ⊢;cases c6 with
  |scale r =>
   obtain⟨c,rfl⟩:=qN.mp hf.1;have hr:=ZR (S:=S1) (hb r hf.2) fK;simp[hd,a_.word,a_.pay,hr];refine eT ?_ ⟨?_,rfl⟩
   .simpa[a_.word,a_.pay]using f7
   .rw[af.iY];rfl
  |go x =>
   have e:cs=[]:=iC.mp hf.1;subst e;have ht:c7 (bC false) qi (.tup []) (.tup []) S1=.ok (.bl true) S1:=ht;simp[hd,a_.word,a_.pay,ht];refine eT ?_ ⟨?_,rfl⟩
   .simpa[a_.word,a_.pay]using f7
   .rw[af.iY];rfl
  |stay =>
   have e:cs=[]:=iC.mp hf;subst e;have ht:c7 (bC false) qi (.tup []) (.tup []) S1=.ok (.bl true) S1:=ht;simp[hd,a_.word,a_.pay,ht];refine eT ?_ ⟨?_,rfl⟩
   .simpa[a_.word,a_.pay]using f7
   .rw[af.iY];rfl
  |none =>
   have e:cs=[]:=iC.mp hf;subst e;have ht:c7 (bC false) qi (.tup []) (.tup []) S1=.ok (.bl true) S1:=ht;simp[hd,a_.word,a_.pay,ht];refine eT ?_ ⟨?_,rfl⟩
   .simpa[a_.word,a_.pay]using f7
   .rw[af.iY];rfl
  |_ =>
   have hn:=hE hf (by simp) (by simp) (by simp);rw[decide_eq_false hn]at ht;have ha:∀x:D,cZ (.tup [x]) (.tup (cs.map (af.dat aU))) S1=.ok (.tup (x::cs.map (af.dat aU))) S1:=λx=>Qh hn (by simp;omega);simp[hd,a_.word,a_.pay,ht,ha];refine eT ?_ ⟨?_,rfl⟩
   .simpa[a_.word,a_.pay]using f7
   .rw[af.iY];rfl
theorem af.abb{k:a_}{cs:List af}{c:af}(hc:c∈cs):c.size+1<=(af.nd k cs).size:=by
 rw[af.size.eq_def (af.nd k cs)];simp only
 induction cs with
 |nil=>cases hc
 |cons d cs ih =>
  rw[af.sizes];rcases iB.mp hc with rfl|hc
  .omega
  .have:=ih hc;omega
theorem af.abd{k:a_}{cs:List af}{n:Nat}:af.sizes (cs.take n)+1<=(af.nd k cs).size:=by
 rw[af.size]
 induction cs generalizing n with
 |nil=>simp
 |cons d cs ih =>
  cases n with
  |zero=>rw[List.take_zero,af.sizes];omega
  |succ n =>
   rw[List.take_succ_cons,af.sizes,af.sizes];have:=ih (n:=n);omega
theorem Qi(s:List Nat):∀(i:Nat) (a c:List af),af.fu s i (a++c)=af.fu s i a++af.fu s (i+a.length) c
 |i,[],c=>by rw[show af.fu s i []=[]by rw[af.fu]];simp
 |i,x::a,c=>by
  rw[List.cons_append,af.fu,af.fu,Qi s (i+1) a c,List.append_assoc,j1,show i+1+a.length=i+(a.length+1)by omega]
theorem abe{n i:Nat}{p q:List Nat}(h:List.range n=p++i::q):i=p.length/\i<n:=by
 have h2:=congrArg List.length h;simp at h2;have h1:(List.range n)[p.length]?=(p++i::q)[p.length]?:=by rw[h]
 rw[List.getElem?_range (by omega),vB (dE _),vC]at h1;simp at h1;omega
theorem abf{xs ys:List D}(h:xs.length+ys.length<=1000000):oT (.lst xs) (.lst ys) S=.ok (.lst (xs++ys)) S:=by
 have e:oT (.lst xs) (.lst ys) S=c7 n5 uI (.lst xs) (.lst ys) S:=by
  unfold oT;rw[e3 (by rfl),e3 (by rfl)]
 have e2:n5 (.lst xs) (.lst ys) S=.ok (.lst (xs++ys)) S:=by
  unfold n5;simp only[w6];rw[if_pos h]
 rw[e,p3 e2]
theorem abg{xs ys:List D}(h:xs.length+ys.length<=1000000):oT (.tup xs) (.tup ys) S=.ok (.tup (xs++ys)) S:=by
 have e:oT (.tup xs) (.tup ys) S=uI (.tup xs) (.tup ys) S:=by
  unfold oT;rw[e3 (by rfl),e3 (by rfl),e3 (by rfl)]
 rw[e];unfold uI;simp only;rw[if_pos h]
theorem Qj(aI:∀k r,a6 k (f r)=true):∀(P:af) (k:Nat) (s:List Nat),P.ok b->P.dep<=k->P.size<=1000->s.length+P.dep<=1000->∀S,u6 k [P.dat f,c0 s] S=.ok (.lst ((af.pre s P).map (bf f))) S:=by
 refine af.ind λc6 cs ih k s h hk dj hs S=>?_;cases k with
 |zero=>have:=(af.nd c6 cs).yl;omega
 |succ k =>
  have hf:=(af.lu.mp h).1;have wY:=(af.lu.mp h).2;have aa9:=a_.fit_le hf;have abh:=P2 aI h (S:=S);refine cv ?_;rw[u6];refine fH rfl ?_;show aR (o8 _ ([some ((af.nd c6 cs).dat f),some (c0 s)]++List.replicate 3 none) S) _;unfold o8;refine c5 (λsl S1=>S1=S/\sl=[some ((af.nd c6 cs).dat f),some (c0 s),some (.lst [bf f (s,.nd c6 cs)]),some (.lst (cs.map (af.dat f))),none]) ?_ ?_
  .simp[abh]
   exact⟨rfl,rfl⟩
  rintro sl S1 ⟨rfl,rfl⟩;refine c5 (λsl S2=>S2=S1/\∃cR,sl=[some ((af.nd c6 cs).dat f),some (c0 s),some (.lst ((af.pre s (.nd c6 cs)).map (bf f))),some (.lst (cs.map (af.dat f))),cR]) ?_ ?_
  .have hit:=FQ (sl:=[some ((af.nd c6 cs).dat f),some (c0 s),some (.lst [bf f (s,.nd c6 cs)]),some (.lst (cs.map (af.dat f))),none]) (S:=S1) (S1:=S1) (f:=az cU (aj (ai 3) aq)) (j:=(cs.length:Int)) (cv (by simp)) (by omega) (by omega)
   rw[Int.toNat_natCast]at hit;refine O8 (l:=List.range cs.length) (row:=fun(i:Nat)=>.int (0+(i:Int))) hit (λp sl S2=>S2=S1/\∃cR,sl=[some ((af.nd c6 cs).dat f),some (c0 s),some (.lst (bf f (s,.nd c6 cs)::(af.fu s 0 (cs.take p.length)).map (bf f))),some (.lst (cs.map (af.dat f))),cR]) ⟨rfl,none,by rw[nO,List.take_zero,af.fu];rfl⟩ ?_ ?_
   .rintro p i post sl S2 he ⟨rfl,cR,rfl⟩
    obtain⟨rfl,hi⟩:=abe he;refine⟨trivial,?_⟩;show aR (SO.nx [some ((af.nd c6 cs).dat f),some (c0 s),some (.lst (bf f (s,.nd c6 cs)::(af.fu s 0 (cs.take p.length)).map (bf f))),some (.lst (cs.map (af.dat f))),some (.int (0+(p.length:Int)))] S2) _;rw[ji];have hc:cs[p.length]∈cs:=s9 _;have nA:=af.Cy (k:=c6) hc;have ah3:=af.abb (k:=c6) hc;have abi:=ih _ hc k (s++[p.length]) (wY _ hc) (by omega) (by omega) (by rw[List.length_append,List.length_singleton];omega) S2;have bu:List.take (p.length+1) cs=cs.take p.length++[cs[p.length]]:=by rw[JA hi]
    have d8:(af.fu s 0 (cs.take p.length)).length<=1000:=by
     rw[af.Ii];have:=af.abd (k:=c6) (n:=p.length) (cs:=cs);omega
    have abj:(af.pre (s++[p.length]) cs[p.length]).length<=1000:=by rw[af.lx];omega
    refine k8 (d:=.lst ((bf f (s,.nd c6 cs)::(af.fu s 0 (cs.take p.length)).map (bf f))++(af.pre (s++[p.length]) cs[p.length]).map (bf f))) ?_ ⟨rfl,some (.int (0+(p.length:Int))),?_⟩
    .refine gA (bD (i:=2) rfl) (hU (cy (S1:=S2) (d:=cs[p.length].dat f) ?_ (cy (S1:=S2) (d:=c0 (s++[p.length])) ?_ c')) abi) (abf (by simp;omega))
     .refine gA (bD (i:=3) rfl) (bD (i:=4) rfl) ?_
      refine cv ?_;simp[hi]
     .have e5:c0 (s++[p.length])=.tup ((s.map fun(i:Nat)=>D.int (i:Int))++[.int (0+(p.length:Int))]):=by
       unfold c0;rw[List.map_append];simp
      rw[e5];exact gA (bD (i:=1) rfl) (qg (cy (bD (i:=4) rfl) c') (by simp)) (abg (by simp;omega))
    .rw[List.length_append,List.length_singleton,bu,Qi]
     simp[af.fu,Nat.min_eq_left (j2 hi)]
   .rintro sl S2 ⟨rfl,cR,rfl⟩
    refine⟨trivial,rfl,cR,?_⟩;rw[List.length_range,List.take_length,af.pre];rfl
  .rintro sl S2 ⟨rfl,cR,rfl⟩
   simp;refine eT ?_ ⟨rfl,rfl⟩;show a9 _ _=true;rw[jP];intro d hd;obtain⟨p,_,rfl⟩:=List.mem_map.mp hd;exact ym aI p _
end
def CN(p:List Nat×af):Bool:=match p.2 with
 | .nd (.go _) _=>true
 |_=>false
def Qk(p:List Nat×af):D:=match p.2 with
 | .nd (.go x) _=>aP x
 |_=>.non
def o_(acc:List (List Nat))(x:List Nat):List (List Nat):=if x∈acc then acc else acc++[x]
theorem Ql:∀L:List (List Nat×af),(L.filter CN).map Qk=(L.filterMap λp=>match p.2 with
  | .nd (.go x) _=>some x
  |_=>Option.none).map aP
 |[]=>rfl
 |(s,.nd k cs)::L=>by
  have ih:=Ql L;cases k with
  |go x =>
   rw[Dr (by rfl),i5];simp only[dD,ih];rfl
  |_ =>
   rw[Dq (by simp[CN]),i5];exact ih
theorem IG:∀(L:List (List Nat×af)) (acc:List (List Nat)),L.foldl iZ acc=(L.filterMap λp=>match p.2 with
  | .nd (.go x) _=>some x
  |_=>Option.none).foldl o_ acc
 |[],acc=>rfl
 |(s,.nd k cs)::L,acc=>by
  cases k with
  |go x =>
   rw[vI,i5];simp only[vI];exact IG L _
  |_ =>
   rw[vI,i5];exact IG L acc
theorem af.yt(P:af):P.names=P.goes.foldl o_ []:=IG _ _
theorem IH:∀(l acc:List (List Nat)) (x:List Nat),x∈l.foldl o_ acc↔x∈acc\/x∈l
 |[],acc,x=>by simp
 |y::l,acc,x=>by
  rw[vI,IH l];unfold o_;split<;>grind
theorem abk(l:List (List Nat)):(((List.range l.length).filter λk => !decide (l.getD k []∈l.take k)).map λk=>l.getD k [])=l.foldl o_ []:=by
 have key:∀n,n<=l.length->(((List.range n).filter λk => !decide (l.getD k []∈l.take k)).map λk=>l.getD k [])=(l.take n).foldl o_ []:=by
  intro n
  induction n with
  |zero=>intro _;simp
  |succ n ih =>
   intro h;have hn:n<l.length:=h;have e:l.take (n+1)=l.take n++[l[n]]:=JA hn;have m_:l.getD n []=l[n]:=by simp[hn]
   rw[List.range_succ,List.filter_append,List.map_append,ih (by omega),e,Ds];generalize Iy:(l.take n).foldl o_ []=A;have hm:∀x,x∈A↔x∈l.take n:=λx=>by rw[<-Iy,IH];simp
   show _=o_ A l[n];unfold o_;by_cases hx:l[n]∈l.take n
   .have:l[n]∈A:=(hm _).mpr hx
    rw[if_pos this,Dq (by rw[m_];simp[hx])];simp
   .have:¬l[n]∈A:=λz=>hx ((hm _).mp z)
    rw[if_neg this,Dr (by rw[m_];simp[hx])];simp[hn]
 have:=key l.length (dE _);rwa [List.take_length]at this
section
variable{S:Store}{b:Rat->Prop}{f:Rat->D}{P:af}
theorem abl(aI:∀k r,a6 k (f r)=true)(h:P.ok b)(hd:P.dep<=9)(hs:P.size<=900):yn [P.dat f] S=.ok (.lst (P.goes.map aP)) S:=by
 have hl:=af.lx [] P;have dg:sH [P.dat f,.tup []] S=.ok (.lst ((af.pre [] P).map (bf f))) S:=Qj aI P 9 [] h hd (by omega) (by simp;omega) S;have e:cP (cO (hS (az sH (aj (ai 0) (aj (az jar aq) aq)))) (fy (cL (aV 1) (cL (aV 2) e'))) (a5 (ay (bC false) (ay a4 (ai 2) (au (.int 0))) (au (.str "go")))) (ay a4 (ai 2) (au (.int 1))) [1,2]) [some (P.dat f),none,none] S=.ok (.lst (P.goes.map aP)) S:=by
  rw[HS (l:=af.pre [] P) (row:=bf f) CN Qk (ud (hU (cy (bD (i:=0) rfl) (cy (qg c' (by simp)) c')) dg) (lW _)) (by omega) (λacc=>lW _) (λp hp acc=>?_) (λp hp _=>?_)]
  .exact congrArg (λl=>Out.ok (D.lst l) S) (Ql _)
  .obtain⟨s,p⟩:=p
   refine⟨[some (P.dat f),some (c0 s),some (p.dat f)],rfl,?_,?_⟩
   .obtain⟨k,cs⟩:=p
    have hd:=u_ (f:=f) (k:=k) (cs:=cs) (S:=S++[.lst acc]);have:ay (bC false) (ay a4 (ai 2) (au (.int 0))) (au (.str "go")) [some (P.dat f),some (c0 s),some ((af.nd k cs).dat f)] (S++[.lst acc])=.ok (.bl (decide (k.word="go"))) (S++[.lst acc]):=gA (gA (bD (i:=2) rfl) rfl hd) rfl Wq;unfold a5;rw[this];cases k<;>rfl
   .obtain⟨k,cs⟩:=p
    intro hg;cases k with
    |go x =>
     refine gA (bD (i:=2) rfl) rfl ?_;rw[af.iY];refine cv ?_;simp[a_.pay];rfl
    |_=>simp[CN]at hg
  .obtain⟨s,k,cs⟩:=p
   cases k<;>rfl
 refine cv ?_;unfold yn;refine fH rfl ?_;show aR (sI [some (P.dat f),none,none] S) _;unfold sI;generalize cP (cO (hS (az sH (aj (ai 0) (aj (az jar aq) aq)))) (fy (cL (aV 1) (cL (aV 2) e'))) (a5 (ay (bC false) (ay a4 (ai 2) (au (.int 0))) (au (.str "go")))) (ay a4 (ai 2) (au (.int 1))) [1,2])=F at e ⊢;simp[e];exact eT qC ⟨rfl,rfl⟩
end
section
variable{n:Nat}{cs:List Int}{S:Store}{P:D->Store->Prop}{X:D->Store->Prop}
theorem abm{sl:aJ}(dr:fZ S n cs)(h0:sl[0]?=some (some (.ptr n)))(h2:sl[2]?=some (some (.str (a0 abc))))(hl:sl.length=9)(h:∀(l:List Nat) ah,l.length<=7->(∀c∈l,c∈abc)->Drawn n cs S ah->P (.lst (l.map iM)) ah) :
  We (cO (kb (aj (az gv (aj (ai 0) (aj (au (.int 8)) aq))) aq)) (aV 4) dA (az iO (aj (ai 0) (aj (ai 2) aq))) [4] sl S) (eS S P) X:=by
 obtain⟨c,S0,hc,ka,w'⟩:∃(c:Nat) (S0:Store),az gv (aj (ai 0) (aj (au (.int 8)) aq)) sl S=.ok (.int (c:Int)) S0/\c<=7/\Drawn n cs S S0:=by
  have hw:We (az gv (aj (ai 0) (aj (au (.int 8)) aq)) sl S) (λd S0=>∃c:Nat,d=.int (c:Int)/\c<=7/\Drawn n cs S S0) (λ_ _=>False):=by
   simp[h0];refine(lX (by omega) (by omega)).gx dr λd S1 ⟨j,bH,e⟩ fI=>?_;subst e;exact⟨j,rfl,by omega,fI⟩
  obtain⟨d,S0,e,c,rfl,bq,bK⟩:=hw.get;exact⟨c,S0,e,bq,bK⟩
 have hit:=FQ hc (by omega) (by omega);refine Mj (S:=S) (S0:=S0) w' hit (by simp[kX];omega) (λ_ _ _=>trivial) (λ_ d=>∃c∈abc,d=iM c) (λx hx ah acc bL=>?_) (λ_ d ⟨c,_,e⟩=>by simp_all) λys ah hl aW bL=>?_
 .rw[m']
  have g:∀i,i≠4->((cD sl [4]).set 4 (some x))[i]?=sl[i]?:=λi hi=>by
   rw[nL (iA hi)];show(sl.set 4 none)[i]?=_;grind
  have nh:=(g 0 (by decide)).trans h0;have g2:=(g 2 (by decide)).trans h2;generalize (cD sl [4]).set 4 (some x)=a7 at nh g2;simp[nh,g2];exact(Ve (l:=abc) (by decide) (by decide)).app bL.1 λd bV hd sQ=>⟨bV,rfl,sQ,hd⟩
 .obtain⟨l,rfl,EK⟩:=Pt (f:=iM) (Q:=λc=>c∈abc) aW λx y ⟨c,h1,h2⟩=>⟨c,h2,h1⟩
  refine h l ah ?_ EK (w'.trans bL);have:l.length=c:=by simpa[kX]using hl
  omega
def hv(l:List Nat)(at_ first k:Nat):List Nat:=l.take at_++[97+(first+3 * k) % 26]++l.drop at_
def sR(x:List Nat):List Nat:=if x=[115,116,97,121]\/x=[110,111,110,101]then x++[113]else x
theorem abn{l:List Nat}{a b k:Nat}(hl:l.length<=7)(ha:∀c∈l,c∈abc):nG (sR (hv l a b k)):=by
 have hm:∀c∈hv l a b k,c∈abc:=λc hc=>by
  unfold hv at hc;simp only[List.mem_append,List.mem_singleton]at hc;rcases hc with(h|h)|h
  .exact ha c (List.mem_of_mem_take h)
  .rw[Ml];omega
  .exact ha c (List.mem_of_mem_drop h)
 have hlen:(hv l a b k).length=l.length+1:=by
  unfold hv;simp only[List.length_append,List.length_take,List.length_drop,List.length_singleton];omega
 unfold sR;split
 .rename_i h
  rcases h with h|h<;>rw[h]<;>exact⟨by decide,by decide,by decide,by decide,by decide⟩
 .rename_i h
  exact⟨by omega,by omega,hm,λe=>h (.inl e),λe=>h (.inr e)⟩
theorem abo{many:Nat}(hm:many<=20):jk n cs (yo [.ptr n,.int many]) (λd=>∃l:List (List Nat),d=.lst (l.map aP)/\l.length=many/\∀x∈l,nG x):=λS dr=>by
 unfold yo;refine fH rfl ?_;show aR (sJ [some (.ptr n),some (.int many),none,none,none,none,none,none,none] S) _;unfold sJ;rw[LN,t9,t_,m'];refine c5 (λsl S1=>∃l:List Nat,l.length<=7/\(∀c∈l,c∈abc)/\Drawn n cs S S1/\sl=[some (.ptr n),some (.int many),some (.str (a0 abc)),some (.str (a0 l)),none,none,none,none,none]) ?_ ?_
 .rw[t9,UA,t_]
  refine⟨rfl,?_⟩;rw[ke,AH];refine abm dr rfl rfl rfl λl S1 h1 h2 bL=>?_;rw[ua,Vg,UZ (l:=l) rfl];refine⟨by omega,?_⟩;rw[m'];exact⟨l,h1,h2,bL,rfl⟩
 rintro sl S1 ⟨l,hl,abp,fI,rfl⟩;refine c5 (λsl S2=>∃a b:Nat,a<=l.length/\b<26/\Drawn n cs S S2/\sl=[some (.ptr n),some (.int many),some (.str (a0 abc)),some (.str (a0 l)),none,some (.int a),some (.int b),none,none]) ?_ ?_
 .simp
  refine⟨by omega,?_⟩;refine(lX (many:=(l.length:Int)+1) (by omega) (by omega)).gx fI.1 λd S2 ⟨a,ha,e⟩ jl=>?_;subst e;refine(lX (many:=26) (by omega) (by omega)).gx jl.1 λd aX ⟨b,hb,e⟩ lr=>?_;subst e;exact⟨a,by omega,b,by omega,(fI.trans jl).trans lr,rfl,rfl⟩
 rintro sl S2 ⟨a,b,ha,hb,jl,rfl⟩;have OI:cP (cO (kb (aj (ai 1) aq)) (aV 4) dA (ay cZ (ay cZ (iJ false (ai 3) hP (hQ (ai 5))) (ay a4 (ai 2) (ay hL (az ib (aj (ay cZ (ai 6) (ay e1 (au (.int 3)) (ai 4))) aq)) (au (.int 26))))) (iJ false (ai 3) (hQ (ai 5)) hP)) [4]) [some (.ptr n),some (.int many),some (.str (a0 abc)),some (.str (a0 l)),none,some (.int a),some (.int b),none,none] S2=.ok (.lst ((List.range many).map λk=>aP (hv l a b k))) S2:=by
  refine(sA (l:=List.range many) (row:=fun(i:Nat)=>D.int (0+(i:Int))) (λk=>aP (hv l a b k)) (Bw (bD (i:=1) rfl) (nN hm (by decide))) (by simp;omega) (λacc=>trivial) (λk hk acc=>?_) (λk hk=>rfl)).trans rfl;have rE:k<many:=List.mem_range.mp hk;refine⟨[some (.ptr n),some (.int many),some (.str (a0 abc)),some (.str (a0 l)),some (.int (0+(k:Int))),some (.int a),some (.int b),none,none],rfl,?_⟩;refine cv ?_;have ea:atI abc (((b:Int)+3 * (k:Int)) % 26)=some (97+(b+3 * k) % 26):=by
   have ao:((b:Int)+3 * (k:Int)) % 26=(((b+3 * k) % 26:Nat):Int):=by omega
   rw[ao];have II:(b+3 * k) % 26<26:=Nat.mod_lt _ (by decide);generalize (b+3 * k) % 26=m at II;have:m<abc.length:=by simpa[abc]using II
   simp[atI,ixN,abc];rw[if_pos (by omega)];simp[II]
  simp;refine⟨by omega,?_⟩;rw[oA _ (by decide) (by omega),cI];simp[kZ (show(0:Int)<26 by decide),ea];exact⟨by simp[abc],by omega,by omega,by omega,by simp[hv,aP]⟩
 refine c5 (λsl aX=>aX=S2/\sl=[some (.ptr n),some (.int many),some (.str (a0 abc)),some (.str (a0 l)),none,some (.int a),some (.int b),some (.lst ((List.range many).map λk=>aP (hv l a b k))),none]) (k8 OI ⟨rfl,rfl⟩) ?_;rintro sl aX ⟨rfl,rfl⟩;have abq:cP (cO (hS (ai 7)) (aV 8) dA (kK (a5 (ay gO (ai 8) (az jar (aj (au (.str "stay")) (aj (au (.str "none")) aq))))) (ay cZ (ai 8) (au (.str "q"))) (ai 8)) [8]) [some (.ptr n),some (.int many),some (.str (a0 abc)),some (.str (a0 l)),none,some (.int a),some (.int b),some (.lst ((List.range many).map λk=>aP (hv l a b k))),none] aX=.ok (.lst ((List.range many).map λk=>aP (sR (hv l a b k)))) aX:=by
  refine sA (l:=List.range many) (row:=λk=>aP (hv l a b k)) (λk=>aP (sR (hv l a b k))) (ud (bD (i:=7) rfl) (lW _)) (by simp;omega) (λacc=>lW _) (λk hk acc=>?_) (λk hk=>rfl);refine⟨[some (.ptr n),some (.int many),some (.str (a0 abc)),some (.str (a0 l)),none,some (.int a),some (.int b),some (.lst ((List.range many).map λk=>aP (hv l a b k))),some (aP (hv l a b k))],rfl,?_⟩;have hlen:(hv l a b k).length<=8:=by
   unfold hv;simp only[List.length_append,List.length_take,List.length_drop,List.length_singleton];omega
  generalize hv l a b k=x at hlen;refine aaL (b:=decide (x=[115,116,97,121]\/x=[110,111,110,101])) ?_ (λhb=>?_) (λhb=>?_)
  .unfold a5
   rw[gA (bD (i:=8) rfl) (qg (cy rfl (cy rfl c')) (by simp)) P4];rfl
  .have hx:x=[115,116,97,121]\/x=[110,111,110,101]:=of_decide_eq_true hb
   unfold sR;rw[if_pos hx];refine gA (bD (i:=8) rfl) rfl (cv ?_);show We (cZ (.str (a0 x)) (.str (a0 [113])) _) _ _;simp;exact⟨by omega,rfl⟩
  .have hx:¬(x=[115,116,97,121]\/x=[110,111,110,101]):=of_decide_eq_false hb
   unfold sR;rw[if_neg hx];exact bD (i:=8) rfl
 rw[FA,abq,cI];rw[LV];refine p6 jl ?_ ⟨jl,(List.range many).map λk=>sR (hv l a b k),by rw[s8];rfl,by simp,λx hx=>?_⟩
 .show a6 _ (D.lst _)=true
  rw[UH,jP];intro d hd;obtain⟨k,_,rfl⟩:=List.mem_map.mp hd;rfl
 .obtain⟨k,_,rfl⟩:=List.mem_map.mp hx
  exact abn hl abp
theorem af.Qm{c:Nat}:∀{Ps:List af},(∀P∈Ps,P.size<=c)->af.sizes Ps<=Ps.length * c
 |[],_=>by rw[af.sizes];omega
 |P::Ps,h=>by
  rw[af.sizes,j1,Nat.succ_mul];have:=h P (by simp);have:=af.Qm (Ps:=Ps) λQ yd=>h Q (by simp[yd]);omega
theorem af.Qn{c:Nat}:∀{Ps:List af},(∀P∈Ps,P.dep<=c)->af.deps Ps<=c
 |[],_=>by rw[af.deps];omega
 |P::Ps,h=>by
  rw[af.deps];have:=h P (by simp);have:=af.Qn (Ps:=Ps) λQ yd=>h Q (by simp[yd]);omega
theorem Qo{names:List (List Nat)}(hE:names≠[])(hn:∀x∈names,nG x)(hl:names.length<=100):∀(k room:Nat),room<=k->1<=k->room<=100->jk n cs (sL k [.ptr n,.lst (names.map aP),.int room]) (λd=>∃P:af,d=P.dat cV/\P.ok (ZJ.iW 6 24)/\P.size<=3 * room+1/\P.dep<=max 1 room)
 |0,room,_,h,_=>absurd h (by omega)
 |k+1,room,hr,_,ah4=>λS dr=>by
  have ih:=Qo hE hn hl k;rw[sL];refine fH rfl ?_;show aR (nH (sL k) [some (.ptr n),some (.lst (names.map aP)),some (.int room),none,none,none,none] S) _;unfold nH;refine c5 (λsl S1=>∃w:Nat,w<9/\Drawn n cs S S1/\sl=[some (.ptr n),some (.lst (names.map aP)),some (.int room),some (.int w),none,none,none]) ?_ ?_
  .simp
   refine(lX (by omega) (by omega)).gx dr λd S1 ⟨w,hw,e⟩ bL=>?_;subst e;exact⟨w,by omega,bL,rfl⟩
  rintro sl S1 ⟨w,hw,fI,rfl⟩;have abr:jk n cs (iO [.ptr n,.lst (names.map aP)]) (λd=>∃x∈names,d=aP x):=(w_ (by simpa using hE) (by simp;omega) qC).imp λd hd=>by
   obtain⟨x,hx,rfl⟩:=List.mem_map.mp hd;exact⟨x,hx,rfl⟩
  have EW:fQ (a5 (ay ot (ai 2) (au (D.int 2)))) (a5 (ay ot (ai 3) (au (D.int 2)))) [some (D.ptr n),some (D.lst (List.map aP names)),some (D.int (room:Int)),some (D.int (w:Int)),none,none,none] S1=.ok (decide (room<2\/w<2)) S1:=cv (by
   simp;by_cases h:room<2
   .have:(room:Int)<2:=by omega
    simp[h,this]
   .have:¬(room:Int)<2:=by omega
    simp[h,this];omega)
  by_cases eK:room<2\/w<2
  .refine c5 (λ_ _=>False) ?_ (λ_ _ h=>h.elim)
   refine Ia (by rw[EW,decide_eq_true eK]) ?_;rw[FA];rw[ox,ke,bD (i:=0) rfl,cI,ke];rw[AB,AB,ox,ke,ox,ke,t_,ke,ox,ke,bD (i:=0) rfl,cI,ke,bD (i:=1) rfl,cI,ua];refine abr.gx fI.1 λd S2 ⟨x,hx,e⟩ jl=>?_;subst e;have em:e1 (.lst [.tup [.str (Str.ofString "go"),aP x]]) (.int 5) S2=.ok (.lst [.tup [.str (Str.ofString "go"),aP x],.tup [.str (Str.ofString "go"),aP x],.tup [.str (Str.ofString "go"),aP x],.tup [.str (Str.ofString "go"),aP x],.tup [.str (Str.ofString "go"),aP x]]) S2:=ZL (sl:=[]) (f1:=au (.lst [.tup [.str (Str.ofString "go"),aP x]])) (S:=S2) rfl;simp[em];refine(w_ (by simp) (by simp) (by simp[aP])).gx jl.1 λd aX hd lr=>?_;have dG:∃P:af,d=P.dat cV/\P.ok (ZJ.iW 6 24)/\P.size=1/\P.dep=1:=by
    simp at hd;rcases hd with rfl|rfl|rfl
    .exact⟨.nd (.go x) [],rfl,⟨⟨rfl,hn x hx⟩,trivial⟩,rfl,rfl⟩
    .exact⟨.nd .stay [],rfl,⟨rfl,trivial⟩,rfl,rfl⟩
    .exact⟨.nd .none [],rfl,⟨rfl,trivial⟩,rfl,rfl⟩
   obtain⟨P,rfl,h1,h2,aH⟩:=dG;exact p6 ((fI.trans jl).trans lr) (o6 sP P _) ⟨(fI.trans jl).trans lr,P,rfl,h1,by omega,by omega⟩
  refine c5 (λsl S2=>S2=S1/\sl=[some (.ptr n),some (.lst (names.map aP)),some (.int room),some (.int w),none,none,none]) (sE (by rw[EW,decide_eq_false eK]) (sF ⟨rfl,rfl⟩)) ?_;rintro sl S2 ⟨rfl,rfl⟩;have ah5:2<=room:=by omega
  have fF:(room:Int) - 1=((room - 1:Nat):Int):=by omega
  have ka:a5 (ay ot (ai 3) (au (D.int 4))) [some (D.ptr n),some (D.lst (List.map aP names)),some (D.int (room:Int)),some (D.int (w:Int)),none,none,none] S2=.ok (decide (w<4)) S2:=cv (by
   simp;omega)
  by_cases c2:w<4
  .refine c5 (λ_ _=>False) ?_ (λ_ _ h=>h.elim)
   refine Ia (by rw[ka,decide_eq_true c2]) ?_;simp;rw[fF];refine(ih (room - 1) (by omega) (by omega) (by omega)).gx fI.1 λd aX ⟨P,e,h1,h2,aH⟩ lr=>?_;subst e;refine p6 (fI.trans lr) ?_ ⟨fI.trans lr,.nd .loop [P],rfl,⟨rfl,h1,trivial⟩,?_,?_⟩
   .exact o6 sP (.nd .loop [P]) _
   .show P.size+0+1<=_
    omega
   .show max P.dep 0+1<=_
    omega
  refine c5 (λsl aX=>aX=S2/\sl=[some (.ptr n),some (.lst (names.map aP)),some (.int room),some (.int w),none,none,none]) (sE (by rw[ka,decide_eq_false c2]) (sF ⟨rfl,rfl⟩)) ?_;rintro sl aX ⟨rfl,rfl⟩;have Qp:a5 (ay (bC false) (ai 3) (au (D.int 4))) [some (D.ptr n),some (D.lst (List.map aP names)),some (D.int (room:Int)),some (D.int (w:Int)),none,none,none] aX=.ok (decide (w=4)) aX:=cv (by
   simp;omega)
  by_cases c3:w=4
  .refine c5 (λ_ _=>False) ?_ (λ_ _ h=>h.elim)
   refine Ia (by rw[Qp,decide_eq_true c3]) ?_;simp;refine aaC.gx fI.1 λd bV ⟨r,e,hr⟩ sQ=>?_;subst e;rw[fF];refine(ih (room - 1) (by omega) (by omega) (by omega)).gx sQ.1 λd cY ⟨P,e,h1,h2,aH⟩ nI=>?_;subst e;have bL:=(fI.trans sQ).trans nI;refine p6 bL ?_ ⟨bL,.nd (.scale r) [P],rfl,⟨⟨rfl,hr⟩,h1,trivial⟩,?_,?_⟩
   .exact o6 sP (.nd (.scale r) [P]) _
   .show P.size+0+1<=_
    omega
   .show max P.dep 0+1<=_
    omega
  refine c5 (λsl bV=>bV=aX/\sl=[some (.ptr n),some (.lst (names.map aP)),some (.int room),some (.int w),none,none,none]) (sE (by rw[Qp,decide_eq_false c3]) (sF ⟨rfl,rfl⟩)) ?_;rintro sl bV ⟨rfl,rfl⟩;refine c5 (λsl cY=>∃m:Nat,2<=m/\m<=3/\Drawn n cs S cY/\sl=[some (.ptr n),some (.lst (names.map aP)),some (.int room),some (.int w),some (.int m),none,none]) ?_ ?_
  .by_cases aH:3<room
   .have IJ:(3:Int)<(room:Int):=by omega
    simp[IJ];refine(lX (many:=2) (by omega) (by omega)).gx fI.1 λd cY ⟨j,bH,e⟩ nI=>?_;subst e;simp;exact⟨j+2,by omega,by omega,fI.trans nI,by omega⟩
   .have IJ:¬(3:Int)<(room:Int):=by omega
    simp[IJ];refine(lX (many:=1) (by omega) (by omega)).gx fI.1 λd cY ⟨j,bH,e⟩ nI=>?_;subst e;simp;exact⟨j+2,by omega,by omega,fI.trans nI,by omega⟩
  rintro sl cY ⟨m,p4,ah6,nI,rfl⟩;have hq:(room - 1) / m+1<=room:=by
   have:=Nat.div_le_self (room - 1) m;omega
  have ah7:m * ((room - 1) / m)<=room - 1:=Nat.mul_div_le _ _;refine c5 (λsl jg=>∃Ps:List af,Ps.length=m/\(∀P∈Ps,P.ok (ZJ.iW 6 24)/\P.size<=3 * ((room - 1) / m)+1/\P.dep<=max 1 ((room - 1) / m))/\Drawn n cs S jg/\sl=[some (.ptr n),some (.lst (names.map aP)),some (.int room),some (.int w),some (.int m),some (.lst (Ps.map (af.dat cV))),none]) ?_ ?_
  .rw[t9,AH]
   refine Mj (S:=cY) (S0:=cY) (Drawn.refl nI.1) (Bw (bD (i:=4) rfl) (by omega)) (by simp[kX];omega) (λ_ _ _=>trivial) (λ_ d=>∃P:af,d=P.dat cV/\(P.ok (ZJ.iW 6 24)/\P.size<=3 * ((room - 1) / m)+1/\P.dep<=max 1 ((room - 1) / m))) (λx hx ah acc bL=>?_) (λ_ d ⟨P,e,_⟩=>by rw[e];exact o6 sP P _) λys ah hl aW bL=>?_
   .rw[m']
    have ed:hJ (.int ((room:Int) - 1)) (.int m) (ah++[.lst acc])=.ok (.int (((room - 1) / m:Nat):Int)) (ah++[.lst acc]):=by
     rw[rC (by omega) (by have:=AW (i:=(m:Int)) (by omega);omega),fF];rfl
    simp[cD];rw[ed,cI];refine(ih ((room - 1) / m) (by omega) (by omega) (by omega)).app bL.1 λd jg hd yu=>?_;exact⟨jg,rfl,yu,hd⟩
   .obtain⟨Ps,rfl,dG⟩:=Pt aW λx y h=>h
    rw[m'];exact⟨Ps,by simpa[kX]using hl,dG,nI.trans bL,rfl⟩
  rintro sl jg ⟨Ps,hl,dG,yu,rfl⟩;simp;refine(w_ (by simp) (by simp) (by simp)).gx yu.1 λd fC hd Qq=>?_;have Ms:Ps.map (af.dat cV)≠[]:=by
   intro h;rw[List.map_eq_nil_iff]at h;rw[h]at hl;simp at hl;omega
  rw[Qh Ms (by simp;omega),cI];have dj:=af.Qm λP h=>(dG P h).2.1;have nA:=af.Qn λP h=>(dG P h).2.2;rw[hl]at dj;have bu:m * (3 * ((room - 1) / m)+1)=3 * (m * ((room - 1) / m))+m:=by rw[Nat.mul_add,Nat.mul_one,Nat.mul_left_comm]
  rw[bu]at dj;have ah8:(room - 1) / m<=(room - 1) / 2:=Nat.div_le_div_left p4 (by decide);have hok:af.u5 (ZJ.iW 6 24) Ps:=af.Ig.mpr λP h=>(dG P h).1;have abt:∃P:af,D.tup (d::Ps.map (af.dat cV))=P.dat cV/\P.ok (ZJ.iW 6 24)/\P.size=af.sizes Ps+1/\P.dep=af.deps Ps+1:=by
   simp at hd;rcases hd with rfl|rfl
   .exact⟨.nd .seq Ps,by rw[af.iY];rfl,⟨⟨by omega,by omega⟩,hok⟩,rfl,rfl⟩
   .exact⟨.nd .alt Ps,by rw[af.iY];rfl,⟨⟨by omega,by omega⟩,hok⟩,rfl,rfl⟩
  obtain⟨P,e,h1,h2,aH⟩:=abt;rw[e];exact p6 (yu.trans Qq) (o6 sP P _) ⟨yu.trans Qq,P,rfl,h1,by omega,by omega⟩
end
section
variable{S:Store}{n:Nat}
theorem yv{f:D->D->Option Bool}:∀{xs:List D},(∀x∈xs,f x x=some true)->f5 f xs xs=some true
 |[],_=>rfl
 |x::xs,h=>by
  rw[f5,h x (by simp)];exact yv λy aW=>h y (by simp[aW])
theorem abu(s:List Nat):eqQ S (n+2) (c0 s) (c0 s)=some true:=by
 unfold c0;rw[Iv rfl];refine yv λx hx=>?_;obtain⟨i,_,rfl⟩:=List.mem_map.mp hx;rw[aaO];simp
theorem abv:∀(P:af) (n:Nat),P.dep+1<=n->eqQ S n (P.dat aU) (P.dat aU)=some true:=by
 refine af.ind λk cs ih n hn=>?_;have hp:=(af.nd k cs).yl;obtain⟨m,rfl⟩:∃m,n=m+2:=⟨n - 2,by omega⟩
 rw[af.iY,Iv rfl];refine yv λx hx=>?_;rcases iB.mp hx with rfl|hx
 .rw[PZ];simp
 rcases mK.mp hx with hx|hx
 .cases k with
  |go y =>
   rw[pk.mp hx,PZ];simp
  |scale r =>
   rw[pk.mp hx,aaP];simp
  |_=>cases hx
 .obtain⟨c,hc,rfl⟩:=List.mem_map.mp hx
  have:=af.Cy (k:=k) hc;exact ih c hc (m+1) (by omega)
theorem abw{p:List Nat×af}(h:p.2.dep<=8):eqQ S 12 (bf aU p) (bf aU p)=some true:=by
 unfold bf;rw[Iv rfl];refine yv λx hx=>?_;simp only[List.mem_cons,List.not_mem_nil,or_false]at hx;rcases hx with rfl|rfl
 .exact abu _
 .exact abv _ _ (by omega)
theorem abx{xs:List D}{neg:Bool}(h:∀x∈xs,eqQ S 12 x x=some true):c7 (bC neg) (uT neg ["Ratio"] [("Ratio",gS)] 12) (.lst xs) (.lst xs) S=.ok (.bl (!neg)) S:=by
 rcases aaD (S:=S) (neg:=neg) (d:=.lst xs)with e|e
 .rw[e3 e]
  unfold uT;show(if xs.length=xs.length then _ else _)=_;rw[if_pos rfl];rw[show f5 (mB ["Ratio"] [("Ratio",gS)] S 12) xs xs=some true from yv h];cases neg<;>rfl
 .exact p3 e
end
section
variable{α:Type}{f g:α->D}
theorem Qr(l:List α):((List.range l.length).filterMap λk=>(l.flatMap λp=>[f p,g p])[2 * k]?)=l.map f/\((List.range l.length).filterMap λk=>(l.flatMap λp=>[f p,g p])[2 * k+1]?)=l.map g:=by
 induction l with
 |nil=>exact⟨rfl,rfl⟩
 |cons a l ih =>
  obtain⟨h1,h2⟩:=ih;rw[j1,List.range_succ_eq_map,i5,i5,zh,zh];constructor
  .show f a::_=_
   rw[dD,<-h1];rfl
  .show g a::_=_
   rw[dD,<-h2];rfl
theorem IK(l:List α):(l.flatMap λp=>[f p,g p]).length=2 * l.length:=by
 induction l with
 |nil=>rfl
 |cons a l ih=>simp at ih ⊢;omega
theorem aby(l:List α):oX (l.flatMap λp=>[f p,g p]) none 2=l.map f:=by
 unfold oX qo;rw[IK];have e:sliceRange (sliceBounds none none (some 2) (2 * l.length)).1 (sliceBounds none none (some 2) (2 * l.length)).2.1 (sliceBounds none none (some 2) (2 * l.length)).2.2=(List.range l.length).map λk=>2 * k:=by
  show(List.range (if(2:Int)>0 then(if(0:Int)<((2 * l.length:Nat):Int)then(((2 * l.length:Nat):Int) - 0+2 - 1) / 2 else 0)else _).toNat).map (fun(k:Nat)=>((0:Int)+2 * (k:Int)).toNat)=_;rw[if_pos (by decide)];have hc:(if(0:Int)<((2 * l.length:Nat):Int)then(((2 * l.length:Nat):Int) - 0+2 - 1) / 2 else 0).toNat=l.length:=by split<;>omega
  rw[hc];refine y5 λk _=>?_;omega
 rw[e,zh];exact(Qr l).1
theorem abz(l:List α):oX (l.flatMap λp=>[f p,g p]) (some 1) 2=l.map g:=by
 unfold oX qo;rw[IK];have e:sliceRange (sliceBounds (some 1) none (some 2) (2 * l.length)).1 (sliceBounds (some 1) none (some 2) (2 * l.length)).2.1 (sliceBounds (some 1) none (some 2) (2 * l.length)).2.2=(List.range l.length).map λk=>2 * k+1:=by
  show(List.range (if(2:Int)>0 then(if(max 0 (min 1 ((2 * l.length:Nat):Int)))<((2 * l.length:Nat):Int)then(((2 * l.length:Nat):Int) - (max 0 (min 1 ((2 * l.length:Nat):Int)))+2 - 1) / 2 else 0)else _).toNat).map (fun(k:Nat)=>((max 0 (min 1 ((2 * l.length:Nat):Int)))+2 * (k:Int)).toNat)=_;rw[if_pos (by decide)];rcases Dk l.length with h0|h0
  .rw[h0];rfl
  .have hm:max 0 (min 1 ((2 * l.length:Nat):Int))=1:=by omega
   rw[hm];have hc:(if(1:Int)<((2 * l.length:Nat):Int)then(((2 * l.length:Nat):Int) - 1+2 - 1) / 2 else 0).toNat=l.length:=by split<;>omega
   rw[hc];refine y5 λk _=>?_;omega
 rw[e,zh];exact(Qr l).2
end
theorem af.abA{b:Rat->Prop}{P:af}(h:P.ok b):∀x∈P.goes,nG x:=λx hx=>by
 unfold af.goes at hx;obtain⟨p,hp,e⟩:=List.mem_filterMap.mp hx;have hk:=(af.CA P [] h p hp).1;obtain⟨s,k,cs⟩:=p;cases k with
 |go y =>
  cases e;exact((af.lu.mp hk).1).2
 |_=>cases e
theorem af.Qs{b:Rat->Prop}{P:af}(h:P.ok b):∀x∈P.names,nG x:=λx hx=>by
 rw[af.yt,IH]at hx;rcases hx with hx|hx
 .cases hx
 .exact af.abA h x hx
theorem af.abB(P:af):P.names.length<=P.size:=by
 have:=CM (af.pre [] P) [];rw[af.lx]at this;simpa[af.names]using this
theorem af.abC(P:af):P.goes.length<=P.size:=by
 unfold af.goes;have:=List.length_filterMap_le (λp:List Nat×af=>match p.2 with
  | .nd (.go x) _=>some x
  |_=>Option.none) (af.pre [] P)
 rw[af.lx]at this;exact this
open PySem PySem.Spec L2
theorem scp{N P:List Str}{sc:Scope}(a:sc.kind=.function:=by rfl)(b:sc.isCoroutine=false:=by rfl)(c:sc.isGenerator=false:=by rfl)(d:N.Nodup:=by decide +kernel)(e:List.take P.length N=P:=by rfl)
  (f:∀x∈P,List.lookup x sc.names=some NameKind.local\/List.lookup x sc.names=some NameKind.cell:=by decide +kernel) (g:∀y∈sc.names,y.snd≠NameKind.free:=by decide +kernel):FnScope N P sc:=⟨a,b,c,d,e,f,g⟩
theorem nJ{X:Cx}{W:WX}{sts:List Stmt}{f:SX}(h:Z.Takes X W->PassesOwn (model X.prog X.w) X.A X.env X.xe->fx X W sts f)(t:Z.Takes X W:=by exact Z.takes_of rfl rfl rfl rfl)(p:PassesOwn (model X.prog X.w) X.A X.env X.xe:=by exact passes_of rfl):fx X W sts f:=h t p
theorem bW{j k:Nat}{A:Around}(r:Room k A)(h:j<=k:=by omega):Room j A:=r.mono h
theorem aC{X:Cx}{W:WX}{a b:Expr}{fa fb:aQ}{pos:Pos}{k:Nat}(hr:Room k X.A)(ha:E X W a fa)(hb:E X W b fb)(hs:PlainIx b:=by exact λ_ _=>rfl):E X W (.Subscript a b pos) (ay a4 fa fb):=SE (Ui hr.units) ha hb hs
theorem i3{P:Program}{w:World}{K:PySem.W.Frag}{mg:Str->Option Value}{base:Heap}{x qual:Str}{params:Arguments}{stb:List Stmt}{scope:Scope}{dvs:List V}{kws:List (Str×V)}{f:Addr}{fd:FuncData}{N ps:List Str}{k:Nat}{body:SX}(F:FunD K x qual params stb scope dvs kws f fd)(Sc:FnScope N ps scope)(hd:Binds K fd ps [])
  (hb:∀{A:Around} {outer:List Env} {s:Shared} {H:Hp} {E:XK},Room k (A.deeper (PyProof.Rows.envOfC qual scope s.heap.objs.size f fd.code))->Z.Takes (cxOf (Z.CX P w) P w K mg base N qual scope f fd.code A outer s H E) (λc d _ H'=>E c d H') ->
   PassesOwn (model (cxOf (Z.CX P w) P w K mg base N qual scope f fd.code A outer s H E).prog (cxOf (Z.CX P w) P w K mg base N qual scope f fd.code A outer s H E).w) (cxOf (Z.CX P w) P w K mg base N qual scope f fd.code A outer s H E).A (cxOf (Z.CX P w) P w K mg base N qual scope f fd.code A outer s H E).env (cxOf (Z.CX P w) P w K mg base N qual scope f fd.code A outer s H E).xe ->
   fx (cxOf (Z.CX P w) P w K mg base N qual scope f fd.code A outer s H E) (λc d _ H'=>E c d H') stb body):bz P w K mg base (k+1) f (dV ps.length (cN N.length body)) :=
 pV (qb F Sc λA outer s H E hr=>nJ (hb hr)) hd
section
variable{K:PySem.W.Frag}{x qual:Str}{params:Arguments}{body:List Stmt}{scope:Scope}{kws:List (Str×V)}{f:Addr}{fd:FuncData}{a b c:Str}(F:FunD K x qual params body scope [] kws f fd)
abbrev IL(qual:Str)(x:Str)(params:Arguments)(body:List Stmt)(scope:Scope)(ps:List Str)(us:List Value):Prop:=∀(kV doc pm:Value) (an:Option Addr) (d7 ct:Value),bindArgs (W.fnOf x qual params body scope Value.none kV doc pm an d7 ct) { pos:=us }=pure (ps.zip us)
include F
theorem j0(h:∀u,IL qual x params body scope [a] [u]:=by exact λ_ _ _ _ _ _ _=>rfl):Binds K fd [a] []:=F.bindsN λ_ _ _ _ _ _ us hl=>match us,hl with|[u],_=>h u ..
theorem o'(h:∀u v,IL qual x params body scope [a,b] [u,v]:=by exact λ_ _ _ _ _ _ _ _=>rfl):Binds K fd [a,b] []:=F.bindsN λ_ _ _ _ _ _ us hl=>match us,hl with|[u,v],_=>h u v ..
theorem abD(h:∀u v w,IL qual x params body scope [a,b,c] [u,v,w]:=by exact λ_ _ _ _ _ _ _ _ _=>rfl):Binds K fd [a,b,c] []:=F.bindsN λ_ _ _ _ _ _ us hl=>match us,hl with|[u,v,w],_=>h u v w ..
end
end Z
namespace K30
open PySem PySem.Spec L2 Z PyProof.Rows
def yw:SX :=
 (a' (cK (fQ (gH (a5 (az ec (aj (ai 0) (aj (au (.ty "tuple")) aq))))) (fQ (a5 (ay (bC false) (az cU (aj (ai 0) aq)) (au (.int 0)))) (gH (a5 (az ec (aj (ay a4 (ai 0) (au (.int 0))) (aj (au (.ty "str")) aq)))))))
 (b0 (au (.bl false)))
 cW)
 (a' (cK (a5 (ay gO (ay a4 (ai 0) (au (.int 0))) (au (.tup [.str "stay",.str "none"]))))
 (b0 (ay (bC false) (az cU (aj (ai 0) aq)) (au (.int 1))))
 cW)
 (a' (cK (a5 (ay (bC false) (ay a4 (ai 0) (au (.int 0))) (au (.str "go"))))
 (b0 (i_ (ay (bC false) (az cU (aj (ai 0) aq)) (au (.int 2))) (az u9 (aj (ay a4 (ai 0) (au (.int 1))) aq))))
 cW)
 (a' (cK (a5 (ay gO (ay a4 (ai 0) (au (.int 0))) (az jar (aj (au (.str "seq")) (aj (au (.str "alt")) aq)))))
 (b0 (pz pE pE (au (.int 2)) (ay kQ (az cU (aj (ai 0) aq)) (au (.int 1))) (au (.int 6))))
 cW)
 (a' (cK (a5 (ay (bC false) (ay a4 (ai 0) (au (.int 0))) (au (.str "loop"))))
 (b0 (ay (bC false) (az cU (aj (ai 0) aq)) (au (.int 2))))
 cW)
 (b0 (i_ (ay (bC false) (ay a4 (ai 0) (au (.int 0))) (au (.str "scale"))) (i_ (ay (bC false) (az cU (aj (ai 0) aq)) (au (.int 3))) (az (rO [("Ratio",["Ratio"],[])]) (aj (ay a4 (ai 0) (au (.int 1))) (aj (au (.cls "Ratio")) aq)))))))))))
def IM:aK:=dV 1 (cN 1 yw)
def yx:SX :=
 (a' (lK 1 2 (aj (az lJ (aj (az jar (aj (az jar aq) (aj (ai 0) aq))) aq)) (aj (au (.int 0)) aq)))
 (tF (a5 (ay (c7 (bC true) (eqO true ["Ratio"] [("Ratio",gS)] 12)) (ai 1) (az eG aq)))
 (a' (b_ (fj hO oa (ai 1) aq) (fy (cL (aV 3) (cL (aV 4) e'))))
 (a' (t8 2 (λi j=>i+j) (au (.int 1)))
 (a' (cK (fQ (a5 (ay mW (ai 2) (au (.int 40)))) (fQ (a5 (ay wz (az cU (aj (ai 3) aq)) (au (.int 8)))) (gH (a5 (az IM (aj (ai 4) aq))))))
 (p' (az (oK "InvalidPlan" "InvalidPlan" ["path"]) (aj (ai 3) aq)))
 cW)
 (a' (b_ (cP (cO (oo (aj (az ly (aj (ai 4) aq)) aq)) (fy (cL (aV 6) (cL (aV 7) e'))) dA (az jar (aj (az jar (oQ (ai 3) (aj (ai 6) aq))) (aj (ai 7) aq))) [6,7])) (aV 5))
 (jG (fj hO pN (ai 1) (aj (rX false (ai 5)) aq)))))))))
def CO:aK:=dV 1 (cN 8 yx)
def IQ:SX :=
 (a' (jG (az CO (aj (ai 0) aq)))
 (b_ (az lJ (aj (az jar (aj (az jar aq) (aj (ai 0) aq))) aq)) (aV 1)))
def IT:b9 :=
 (a5 (ay (c7 (bC true) (eqO true ["Ratio"] [("Ratio",gS)] 12)) (ai 1) (az eG aq)))
def IU:SX :=
 (b_ (fj hO oa (ai 1) aq) (fy (cL (aV 2) (cL (aV 3) e'))))
def IV:aQ :=
 (az jar (aj (ai 2) (aj (ai 3) aq)))
def IW:SX :=
 (a' (b_ (cP (cO (oo (aj (az ly (aj (ai 3) aq)) aq)) (fy (cL (aV 5) (cL (aV 6) e'))) dA (az jar (aj (az jar (oQ (ai 2) (aj (ai 5) aq))) (aj (ai 6) aq))) [5,6])) (aV 4))
 (jG (fj hO pN (ai 1) (aj (rX false (ai 4)) aq))))
def yz:ZG.sv:=ZG.sy 1 7 IQ IT IU IV IW
def kA(off:Nat):c1->ZG.kq:=ZG.sx off 1 [] yz
def iy:SX :=
 (a' (b_ (az lJ aq) (aV 1))
 (a' (ZG.uV (kA 0 (aj (ai 0) aq)) (fy (cL (aV 2) (cL (aV 3) e')))
 (cK (lI (a5 (ay (bC false) (ay a4 (ai 3) (au (.int 0))) (au (.str "go")))) (a5 (ay ou (ay a4 (ai 3) (au (.int 1))) (ai 1))))
 (jG (fj hO n' (ai 1) (aj (ay a4 (ai 3) (au (.int 1))) aq)))
 cW))
 (b0 (ai 1))))
def vd:aK:=dV 1 (cN 4 iy)
def vf:aK:=Bj 0 1 1 [0] [] (cN 4 iy)
def vg:aK:=dV 1 (pU 4 iy)
def pa:SX :=
 (a' (b_ (az w7 (aj (ai 0) aq)) (aV 1))
 (a' (b_ (az yo (aj (ai 1) (aj (au (.int 4)) aq))) (aV 2))
 (a' (q0 (kb (aj (au (.int 8)) aq)) (aV 3)
 (a' (b_ (az PL (aj (ai 1) (aj (iJ false (ai 2) hP (hQ (ay cZ (au (.int 1)) (az gv (aj (ai 1) (aj (au (.int 4)) aq)))))) (aj (ay cZ (au (.int 1)) (az gv (aj (ai 1) (aj (au (.int 8)) aq)))) aq)))) (aV 4))
 (a' (b_ (az PN (aj (ai 4) aq)) (aV 5))
 (a' (b_ (az sH (aj (ai 5) (aj (az jar aq) aq))) (aV 6))
 (a' (b_ (cP (ZG.lj (kA 1 (aj (ai 5) aq)) (aV 8) dA (az jar (aj (ay a4 (ai 8) (au (.int 0))) (aj (ay a4 (ai 8) (au (.int 1))) aq))) [8])) (aV 7))
 (a' (cK (fQ (a5 (ay (c7 (bC true) (uT true ["Ratio"] [("Ratio",gS)] 12)) (ai 7) (ai 6))) (gH (a5 (az oz (aj (cP (cO (hS (ai 7)) (aV 8) dA (ay a4 (ai 8) (au (.int 0))) [8])) (aj (cP (cO (hS (ai 6)) (aV 8) dA (ay a4 (ai 8) (au (.int 0))) [8])) aq))))))
 (b0 (au (.bl false)))
 cW)
 (a' (b_ (az yn (aj (ai 4) aq)) (aV 9))
 (a' (b_ (cP (cO (kb (aj (az cU (aj (ai 9) aq)) aq)) (aV 11) (a5 (ay ou (ay a4 (ai 9) (ai 11)) (iJ false (ai 9) hP (hQ (ai 11))))) (ay a4 (ai 9) (ai 11)) [11])) (aV 10))
 (a' (cK (gH (a5 (az oz (aj (az eG (aj (az vd (aj (ai 5) aq)) (aj (Bl 0 1 vf aq (aj (ai 5) aq)) aq))) (aj (az eG (aj (ai 10) (aj (ai 10) aq))) aq)))))
 (b0 (au (.bl false)))
 cW)
 (a' (jG (fj hO n' (az vg (aj (ai 5) aq)) (aj (au (.str "x")) aq)))
 (a' (cK (gH (a5 (az oz (aj (az vd (aj (ai 5) aq)) (aj (ai 10) aq)))))
 (b0 (au (.bl false)))
 cW)
 (a' (b_ (az eG aq) (aV 12))
 (a' (ZG.uV (kA 0 (aj (ai 5) aq)) (aV 13)
 (b_ (ay cZ (ay cZ (ai 12) (iJ false (cP (ZG.lj (kA 1 (aj (ai 5) aq)) (aV 14) dA (az cU (aj (ay a4 (ai 14) (au (.int 0))) aq)) [14])) hP (hQ (au (.int 1))))) (az eG (aj (az cU (aj (ay a4 (ai 13) (au (.int 0))) aq)) aq))) (aV 12)))
 (cK (fQ (gH (a5 (az oz (aj (xX (ai 12) (hQ (au (.int 1))) 2) (aj (cP (cO (hS (ai 6)) (aV 8) dA (az cU (aj (ay a4 (ai 8) (au (.int 0))) aq)) [8])) aq))))) (gH (a5 (az oz (aj (xX (ai 12) hP 2) (aj (ay e1 (az eG (aj (au (.int 0)) aq)) (az cU (aj (ai 6) aq))) aq))))))
 (b0 (au (.bl false)))
 cW))))))))))))))
 (b0 (au (.bl true))))))
theorem abE:FnScope ["self","other"] ["self","other"] (defScope s_0):=scp
theorem abF:FnScope ["_law_script"] ["_law_script"] (defScope s_1):=scp
theorem abG:FnScope ["_law_plan_z"] ["_law_plan_z"] (defScope vL):=scp
theorem CP:FnScope ["_law_plan_z","_law_spot","_law_found","_law_inner_here","_law_at"] ["_law_plan_z","_law_spot"] (defScope vM):=scp
theorem CQ:FnScope ["_law_plan_z","_law_spot","_law_one"] ["_law_plan_z"] (defScope vN):=scp
theorem CT:FnScope ["_law_bag_here","_law_many","_law_cell","_law_digit","_law_seed"] ["_law_bag_here","_law_many"] (defScope vO):=scp
theorem abH:FnScope ["_law_bag_here","_law_some"] ["_law_bag_here","_law_some"] (defScope vP):=scp
theorem mD:FnScope ["_law_bag_here","_law_many","_law_letters","_law_stem","_law_k","_law_at","_law_first","_law_found","_law_one"] ["_law_bag_here","_law_many"] (defScope vQ):=scp
theorem IX:FnScope ["_law_one","_law_other","_law_high","_law_low"] ["_law_one","_law_other"] (defScope vR):=scp
theorem Qt:FnScope ["_law_up","_law_down","_law_share"] ["_law_up","_law_down"] (defScope vS):=scp
theorem abI:FnScope ["_law_bag_here"] ["_law_bag_here"] (defScope vT):=scp
theorem yA:FnScope ["_law_bag_here","_law_names","_law_room","_law_way","_law_many","_law_inner_here","_law_k"] ["_law_bag_here","_law_names","_law_room"] (defScope vU):=scp
theorem IY:FnScope ["one","other"] ["one","other"] (defScope vV):=scp
theorem abJ:FnScope ["value"] ["value"] (defScope vW):=scp
theorem Qu:FnScope ["self","top","bottom","share"] ["self","top","bottom"] (defScope mO):=scp
theorem abK:FnScope ["_law_pair"] ["_law_pair"] (defScope vX):=scp
theorem CU:FnScope ["_law_plan_z","_law_inner_here","_law_one"] ["_law_plan_z"] (defScope vY):=scp
theorem CV:FnScope ["_law_found","_law_due","_law_a","_law_b"] ["_law_found","_law_due"] (defScope vZ):=scp
theorem IZ:FnScope ["value","sign"] ["value"] (defScope v5):=scp
theorem abL:FnScope ["value"] ["value"] (defScope v7):=scp
theorem abM:FnScope ["plan"] ["plan"] (defScope v8):=scp
theorem qD:FnScope ["value","queue","many","path","part","rows","at","one"] ["value"] (defScope v9):=scp
theorem sS:GScope ["plan","queue","path","part","rows","at","one"] ["plan"] (defScope i6):=⟨rfl,rfl,rfl,by decide +kernel,rfl,by decide +kernel,by decide +kernel⟩
theorem abN:ZG.xZ ["plan","queue","path","part","rows","at","one"] (defScope i6):=⟨rfl,by decide +kernel⟩
theorem qE:FnScope ["plan","found","path","part"] ["plan"] (defScope nQ):=scp
theorem fN:FnScope ["_law_script","_law_bag_here","_law_names","_law_turn","_law_own","_law_plan_z","_law_due","_law_told","_law_row","_law_late","_law_once","_law_k","_law_both","_law_one","_law_other"] ["_law_script"] (defScope v'):=scp
structure Qv where
 (a_1 vh vi yB pd sT yC yD yE yF yG yH yI yJ yK yL yM yN sU vj lA hZ CW jx sV sW mE mF sX:Addr)
structure eA(K:PySem.W.Frag)(mg:Str->Option Value)(ad:Qv):Prop where
 uf:mg "_law_bag"=some (.ref ad.a_1)
 abO:PySem.W.keepIn K (.ref ad.a_1)=true
 jY:mg "_law_inner"=some (.ref ad.vh)
 Qw:PySem.W.keepIn K (.ref ad.vh)=true
 o8:mg "_law_listed"=some (.ref ad.vi)
 I0:PySem.W.keepIn K (.ref ad.vi)=true
 sI:mg "_law_goes"=some (.ref ad.yB)
 abP:PySem.W.keepIn K (.ref ad.yB)=true
 fG:mg "_law_pick"=some (.ref ad.pd)
 pe:PySem.W.keepIn K (.ref ad.pd)=true
 k2:mg "_law_of"=some (.ref ad.sT)
 vk:PySem.W.keepIn K (.ref ad.sT)=true
 sJ:mg "_law_name"=some (.ref ad.yC)
 abQ:PySem.W.keepIn K (.ref ad.yC)=true
 uv:mg "_law_gcd"=some (.ref ad.yD)
 abR:PySem.W.keepIn K (.ref ad.yD)=true
 uw:mg "_law_frac"=some (.ref ad.yE)
 abS:PySem.W.keepIn K (.ref ad.yE)=true
 rY:mg "_law_small_frac"=some (.ref ad.yF)
 abT:PySem.W.keepIn K (.ref ad.yF)=true
 nH:mg "_law_plan"=some (.ref ad.yG)
 CY:PySem.W.keepIn K (.ref ad.yG)=true
 uq:mg "common_divisor"=some (.ref ad.yH)
 abU:PySem.W.keepIn K (.ref ad.yH)=true
 rR:mg "is_whole"=some (.ref ad.yI)
 Qx:PySem.W.keepIn K (.ref ad.yI)=true
 uy:mg "_law_ratio"=some (.ref ad.yJ)
 abV:PySem.W.keepIn K (.ref ad.yJ)=true
 qz:mg "_law_plan_made"=some (.ref ad.yK)
 Qy:PySem.W.keepIn K (.ref ad.yK)=true
 ie:mg "_law_same"=some (.ref ad.yL)
 vl:PySem.W.keepIn K (.ref ad.yL)=true
 sM:mg "is_name"=some (.ref ad.yM)
 abW:PySem.W.keepIn K (.ref ad.yM)=true
 yw:mg "has_form"=some (.ref ad.yN)
 abX:PySem.W.keepIn K (.ref ad.yN)=true
 jZ:mg "inside"=some (.ref ad.sU)
 Qz:PySem.W.keepIn K (.ref ad.sU)=true
 yx:mg "check_plan"=some (.ref ad.vj)
 abY:PySem.W.keepIn K (.ref ad.vj)=true
 yO:mg "parts"=some (.ref ad.lA)
 yP:PySem.W.keepIn K (.ref ad.lA)=true
 iy:mg "names_in"=some (.ref ad.hZ)
 CZ:PySem.W.keepIn K (.ref ad.hZ)=true
 pa:mg "law"=some (.ref ad.CW)
 ah9:PySem.W.keepIn K (.ref ad.CW)=true
 f9:mg "Ratio"=some (.ref ad.jx)
 vm:Cls K ad.jx
 I3:Mk K ad.jx ad.sW
 yQ:NoAttr K ad.jx "own_bottom"
 yR:NoAttr K ad.jx "own_top"
 I4:Meth K ad.jx "__eq__" ad.sV
 QA:md K ad.jx
 yS:PySem.W.findIn K (.ref ad.jx) "__ne__"=some (some (.builtin "object.__ne__"))
 vn:PySem.W.mroIn K ad.jx (.type "object")=some true
 yT:PySem.W.notFirst K ad.jx (.ref ad.jx)=true
 C0:PySem.W.kitOne K (.ref ad.jx) (.ref ad.jx)=some true
 QB:((PySem.W.clsIn K ad.jx).isSome&&PySem.W.typeIn K (.ref ad.jx)==some (.type "type"))=true
 aia:mg "InvalidRatio"=some (.ref ad.mE)
 aib:mg "InvalidPlan"=some (.ref ad.mF)
 aic:mg "WayError"=some (.ref ad.sX)
 abZ:∃t,mg "LETTERS"=some (.str "abcdefghijklmnopqrstuvwxyz" t)
 ab0:∃t,mg "MOST_DEPTH"=some (.int 8 t)
 ab1:∃t,mg "MOST_INSIDE"=some (.int 6 t)
 ab2:∃t,mg "MOST_NAME"=some (.int 8 t)
 ab3:∃t,mg "MOST_PARTS"=some (.int 40 t)
 QC:∃a,mg "WORDS"=some (.ref a)/\zB K a ((["stay","none"]:List Str).map V.str)
 sY:mg "abs"=none
 C1:mg "all"=none
 yU:mg "bool"=none
 C2:mg "enumerate"=none
 kB:mg "int"=none
 gW:mg "isinstance"=none
 f':mg "len"=none
 qF:mg "list"=none
 qG:mg "range"=none
 vo:mg "str"=none
 qH:mg "tuple"=none
 I5:mg "zip"=none
section
variable{P:Program}{w:World}{K:PySem.W.Frag}{mg:Str->Option Value}{base:Heap}{ad:Qv}
theorem ab4(T:eA K mg ad){fd:FuncData}(F:eL K "__eq__" "Ratio.__eq__" s_0 ad.sV fd)  : bz P w K mg base 1 ad.sV gS:=by
 refine i3 (N:=["self","other"]) (k:=0) (body:=xE) F abE (o' F) λhr tk hp=>?_;unfold xE;exact(bJ (cM (nW (cJ (MN (MV T.f9 T.QB (MX T.f9 T.QA T.C0 Bm) Bm MU)) rfl T.gW hA (aw av (aw (Kf rfl T.f9) aB))) (nW (j4 (gp hr.units) (Au (Ar T.f9 T.vm T.yR Aq) av) (Au (Ar T.f9 T.vm T.yR Aq) av)) (qU (j4 (gp hr.units) (Au (Ar T.f9 T.vm T.yQ Aq) av) (Au (Ar T.f9 T.vm T.yQ Aq) av)))))))
theorem ab5(T:eA K mg ad){fd:FuncData}(F:eL K "_law_bag" "_law_bag" s_1 ad.a_1 fd)  : bz P w K mg base 1 ad.a_1 w7:=by
 refine pV (MP (N:=["_law_script"]) F abF (k:=0) (body:=uf) λA outer s H E hr=>?_) (j0 F);refine nJ λtk hp=>?_;unfold uf;exact(bJ (cM (wo (aw (j6 Ex rfl T.qF td (aw (pQ av oh (oi aN)) aB)) (aw aN (aw aN (aw aN aB)))))))
theorem ab6(T:eA K mg ad){fd:FuncData}(F:eL K "_law_inner" "_law_inner" vL ad.vh fd)  : bz P w K mg base 1 ad.vh o7:=by
 refine i3 (N:=["_law_plan_z"]) (k:=0) (body:=jY) F abG (j0 F) λhr tk hp=>?_;unfold jY;exact(bE (er (c9 (ov hr.units) (aC hr av aN) (dU (aw d4 (aw d4 aB))))
 (bJ (cM (j6 Ex rfl T.qF td (aw (pQ av (oi aN) oh) aB))))
 eH)
 (bJ (cM (qV (c9 (ov hr.units) (aC hr av aN) (dU (aw d4 (aw d4 aB)))) (h7 (aw (aC hr av (bZ n0 (cJ gQ rfl T.f' gG (aw av aB)) aN)) aB)) (h7 aB)))))
theorem QD(T:eA K mg ad){fd:FuncData}(F:eL K "_law_listed" "_law_listed" vM ad.vi fd)(qI:bz P w K mg base 1 ad.vh o7):∀k,bz P w K mg base (k+2) ad.vi (u6 k)
 |0=>Az
 |k+1=>by
  have ph:=QD T F qI k;have fD:k+2<=k+2:=dE _;refine pV (qb (N:=["_law_plan_z","_law_spot","_law_found","_law_inner_here","_law_at"]) F CP (k:=k+2) (body:=o8 (u6 k)) λA outer s H E hr=>?_) (o' F);refine nJ λtk hp=>?_;unfold o8;exact(bE (tI (j:=3) rfl CP.nd (aw (h7 (aw (dU (aw av (aw av aB))) aB)) (aw (cu tk qI (bW hr) T.jY T.Qw (aw av aB)) aB)))
  (bE (Kk hp rfl (t2 (aw (cJ gQ rfl T.f' gG (aw av aB)) aB) rfl T.qG) (j7 CP.nd)
  (bJ (fU CP.nd (bZ Nz av (cu tk ph (hr.mono fD) T.o8 T.I0 (aw (aC hr av av) (aw (bZ Nz av (dU (aw av aB))) aB)))))))
  (bJ (cM av))))
theorem ab7(T:eA K mg ad){fd:FuncData}(F:eL K "_law_goes" "_law_goes" vN ad.yB fd)(vp:bz P w K mg base 11 ad.vi sH):bz P w K mg base 12 ad.yB yn:=by
 refine i3 (N:=["_law_plan_z","_law_spot","_law_one"]) (k:=11) (body:=sI) F CQ (j0 F) λhr tk hp=>?_;unfold sI;exact(bJ (cM (lU (oq (own:=[("_law_spot",1),("_law_one",2)]) rfl CQ.nd (blkOk_by (by rfl)) (rv (cu tk vp (bW hr) T.o8 T.I0 (aw av (aw (dU aB) aB)))) (λ_ _ _ _ _=>(Ak rfl (pT (gM CQ.nd) (pT (gM CQ.nd) Aj)) (hT (fg 1) (hT (fg 2) nY)))) (λ_ _ _ _ _=>(Lk (c9 (gp hr.units) (aC hr av aN) d4))) (λ_ _ _ _ _=>(aC hr av aN))))))
theorem ab8(T:eA K mg ad){fd:FuncData}(F:eL K "_law_pick" "_law_pick" vO ad.pd fd)  : bz P w K mg base 1 ad.pd gv:=by
 refine i3 (N:=["_law_bag_here","_law_many","_law_cell","_law_digit","_law_seed"]) (k:=0) (body:=fG) F CT (o' F) λhr tk hp=>?_;unfold fG;exact(bE (er (gk.eb (Ea (c9 (gp hr.units) (aC hr av aN) aN) (D' (c9 Av (aC hr av aN) (cJ gQ rfl T.f' gG (aw (aC hr av aN) aB))))))
 (bE (fU CT.nd (aC hr (aC hr av aN) (aC hr av aN)))
 (bE (pA (bZ hj (aC hr av aN) aN) (wN (w0 hr.units) av aN) (wM _ _))
 (bJ (er (c9 Ky av (bZ Sh aN aN))
 (bJ (pA av (wN (w0 hr.units) av aN) (wM _ _)))
 (bJ (pA (bZ n3 (j6 pI rfl T.kB lE (aw (bZ hj (bZ hj (bZ pY (aC hr av aN) aN) (bZ pY (bZ n3 (j6 pI rfl T.kB lE (aw av aB)) aN) aN)) aN) aB)) aN) (wN (w0 hr.units) av aN) (wM _ _)))))))
 eH)
 (bE (er (c9 q7 (aC hr av aN) aN)
 (bE (fU CT.nd (bZ n3 (j6 pI rfl T.kB lE (aw (aC hr av aN) aB)) av))
 (bE (pA (bZ mV (aC hr av aN) av) (wN (w0 hr.units) av aN) (wM _ _))
 (bJ (cM av))))
 eH)
 (bE (fU CT.nd (aC hr av aN))
 (bE (pA (bZ n3 (j6 pI rfl T.kB lE (aw (bZ hj (bZ hj (bZ pY av av) (bZ pY av aN)) aN) aB)) aN) (wN (w0 hr.units) av aN) (wM _ _))
 (bJ (cM (bZ n3 (j6 pI rfl T.kB lE (aw (bZ hj (bZ mV (aC hr av aN) aN) (bZ pY (bZ n3 (j6 pI rfl T.kB lE (aw (aC hr av aN) aB)) aN) aN)) aB)) av)))))))
theorem ab9(T:eA K mg ad){fd:FuncData}(F:eL K "_law_of" "_law_of" vP ad.sT fd)(gX:bz P w K mg base 1 ad.pd gv):bz P w K mg base 2 ad.sT iO:=by
 refine i3 (N:=["_law_bag_here","_law_some"]) (k:=1) (body:=k2) F abH (o' F) λhr tk hp=>?_;unfold k2;exact(bJ (cM (aC hr av (cu tk gX (bW hr) T.fG T.pe (aw av (aw (cJ gQ rfl T.f' gG (aw av aB)) aB))))))
theorem aca(T:eA K mg ad){fd:FuncData}(F:eL K "_law_name" "_law_name" vQ ad.yC fd)(kE:bz P w K mg base 2 ad.sT iO)(gX:bz P w K mg base 1 ad.pd gv):bz P w K mg base 3 ad.yC yo:=by
 refine i3 (N:=["_law_bag_here","_law_many","_law_letters","_law_stem","_law_k","_law_at","_law_first","_law_found","_law_one"]) (k:=2) (body:=sJ) F mD (o' F) λhr tk hp=>?_;unfold sJ;exact(bE (fU mD.nd d4)
 (bE (fU mD.nd (tU Tn (λ_ _ _ _ _=>Ti) PySem.F.plainAttrs_str PySem.F.slot_str_join PySem.F.type_str_join d4 (aw (lU (oq (own:=[("_law_k",4)]) rfl mD.nd (blkOk_by (by rfl)) (t2 (aw (cu tk gX (bW hr) T.fG T.pe (aw av (aw aN aB))) aB) rfl T.qG) (λ_ _ _ _ _=>(gM mD.nd)) (λ_ _ _ _ _=>jM) (λ_ _ _ _ _=>(cu rA kE (bW hr) T.k2 T.vk (aw av (aw av aB)))))) aB)))
 (bE (pA (dU (aw (cu tk gX (bW hr) T.fG T.pe (aw av (aw (bZ hj (cJ gQ rfl T.f' gG (aw av aB)) aN) aB))) (aw (cu tk gX (bW hr) T.fG T.pe (aw av (aw aN aB))) aB))) (wt rfl (mR (j7 mD.nd) (mR (j7 mD.nd) wq)) (hT (fg 5) (hT (fg 6) nY))) (Fq (t7 (fg 5) (t7 (fg 6) Fp))))
 (bE (w1 (own:=[("_law_k",4)]) rfl mD.nd (blkOk_by (by rfl)) (sw_true rfl rfl rfl rfl) (t2 (aw av aB) rfl T.qG) (λ_ _ _ _ _=>(gM mD.nd)) (λ_ _ _ _ _=>jM) (λ_ _ _ _ _=>(bZ hj (bZ hj (pQ av oh (oi av)) (aC hr av (bZ n3 (j6 pI rfl T.kB lE (aw (bZ hj av (bZ pY aN av)) aB)) aN))) (pQ av (oi av) oh))))
 (bJ (cM (lU (oq (own:=[("_law_one",8)]) rfl mD.nd (blkOk_by (by rfl)) (rv av) (λ_ _ _ _ _=>(gM mD.nd)) (λ_ _ _ _ _=>jM) (λ_ _ _ _ _=>(qV (c9 (ov hr.units) av (dU (aw d4 (aw d4 aB)))) (bZ hj av d4) av))))))))))
theorem acb(T:eA K mg ad){fd:FuncData}(F:eL K "_law_gcd" "_law_gcd" vR ad.yD fd)  : bz P w K mg base 1 ad.yD xD:=by
 refine i3 (N:=["_law_one","_law_other","_law_high","_law_low"]) (k:=0) (body:=uv) F IX (o' F) λhr tk hp=>?_;unfold uv;exact(bE (tI (j:=3) rfl IX.nd (aw (cJ xv rfl T.sY vJ (aw av aB)) (aw (cJ xv rfl T.sY vJ (aw av aB)) aB)))
 (bE (Eg hp (c9 q7 av aN)
 (bJ (tI (j:=3) rfl IX.nd (aw av (aw (bZ n3 (j6 pI rfl T.kB lE (aw av aB)) av) aB)))))
 (bJ (cM av))))
theorem acd(T:eA K mg ad){fd:FuncData}(F:eL K "_law_frac" "_law_frac" vS ad.yE fd)(I6:bz P w K mg base 1 ad.yD xD):bz P w K mg base 2 ad.yE ux:=by
 refine i3 (N:=["_law_up","_law_down","_law_share"]) (k:=1) (body:=uw) F Qt (o' F) λhr tk hp=>?_;unfold uw;exact(bE (fU Qt.nd (cu tk I6 (bW hr) T.uv T.abR (aw av (aw av aB))))
 (bJ (cM (qV (c9 q7 av aN) (dU (aw (bZ mV av av) (aw (bZ mV av av) aB))) (dU (aw (bZ n0 aN (bZ mV av av)) (aw (bZ n0 aN (bZ mV av av)) aB)))))))
theorem ace(T:eA K mg ad){fd:FuncData}(F:eL K "_law_small_frac" "_law_small_frac" vT ad.yF fd)(I7:bz P w K mg base 2 ad.yE ux)(kE:bz P w K mg base 2 ad.sT iO)(gX:bz P w K mg base 1 ad.pd gv):bz P w K mg base 3 ad.yF xN:=by
 refine i3 (N:=["_law_bag_here"]) (k:=2) (body:=rY) F abI (j0 F) λhr tk hp=>?_;unfold rY;exact(bJ (cM (cu tk I7 (bW hr) T.uw T.abS (aw (cu tk kE (bW hr) T.k2 T.vk (aw av (aw (h7 (aw aN (aw aN (aw aN (aw aN (aw (bZ n0 aN aN) (aw (bZ n0 (cu tk gX (bW hr) T.fG T.pe (aw av (aw aN aB))) aN) aB))))))) aB))) (aw (cu tk kE (bW hr) T.k2 T.vk (aw av (aw (h7 (aw aN (aw aN (aw aN (aw aN (aw aN aB)))))) aB))) aB)))))
theorem QE(T:eA K mg ad){fd:FuncData}(F:eL K "_law_plan" "_law_plan" vU ad.yG fd)(kE:bz P w K mg base 2 ad.sT iO)(gX:bz P w K mg base 1 ad.pd gv)(C3:bz P w K mg base 3 ad.yF xN):∀k,bz P w K mg base (k+4) ad.yG (sL k)
 |0=>Az
 |k+1=>by
  have ph:=QE T F kE gX C3 k;have fD:k+4<=k+4:=dE _;refine pV (qb (N:=["_law_bag_here","_law_names","_law_room","_law_way","_law_many","_law_inner_here","_law_k"]) F yA (k:=k+4) (body:=nH (sL k)) λA outer s H E hr=>?_) (abD F);refine nJ λtk hp=>?_;unfold nH;exact(bE (fU yA.nd (cu tk gX (bW hr) T.fG T.pe (aw av (aw aN aB))))
  (bE (er (gk.eb (j5 (c9 Av av aN) (mQ (c9 Av av aN))))
  (bJ (cM (cu tk kE (bW hr) T.k2 T.vk (aw av (aw (bZ hj (bZ pY (h7 (aw (dU (aw d4 (aw (cu tk kE (bW hr) T.k2 T.vk (aw av (aw av aB))) aB))) aB)) aN) (h7 (aw (dU (aw d4 aB)) (aw (dU (aw d4 aB)) aB)))) aB)))))
  eH)
  (bE (er (c9 Av av aN)
  (bJ (cM (dU (aw d4 (aw (cu tk ph (hr.mono fD) T.nH T.CY (aw av (aw av (aw (bZ n0 av aN) aB)))) aB)))))
  eH)
  (bE (er (c9 (gp hr.units) av aN)
  (bJ (cM (dU (aw d4 (aw (cu tk C3 (bW hr) T.rY T.abT (aw av aB)) (aw (cu tk ph (hr.mono fD) T.nH T.CY (aw av (aw av (aw (bZ n0 av aN) aB)))) aB))))))
  eH)
  (bE (fU yA.nd (bZ hj aN (cu tk gX (bW hr) T.fG T.pe (aw av (aw (qV (c9 q7 av aN) aN aN) aB)))))
  (bE (w1 (own:=[("_law_k",6)]) rfl yA.nd (blkOk_by (by rfl)) (sw_true rfl rfl rfl rfl) (t2 (aw av aB) rfl T.qG) (λ_ _ _ _ _=>(gM yA.nd)) (λ_ _ _ _ _=>jM) (λ_ _ _ _ _=>(cu rA ph (hr.mono fD) T.nH T.CY (aw av (aw av (aw (bZ mV (bZ n0 av aN) av) aB))))))
  (bJ (cM (bZ hj (dU (aw (cu tk kE (bW hr) T.k2 T.vk (aw av (aw (h7 (aw d4 (aw d4 aB))) aB))) aB)) (j6 KN rfl T.qH tf (aw av aB)))))))))))
theorem acf(T:eA K mg ad){fd:FuncData}(F:eL K "common_divisor" "common_divisor" vV ad.yH fd)  : bz P w K mg base 1 ad.yH xB:=by
 refine i3 (N:=["one","other"]) (k:=0) (body:=uq) F IY (o' F) λhr tk hp=>?_;unfold uq;exact(bE (tI (j:=1) rfl IY.nd (aw (cJ xv rfl T.sY vJ (aw av aB)) (aw (cJ xv rfl T.sY vJ (aw av aB)) aB)))
 (bE (Eg hp (c9 q7 av aN)
 (bJ (tI (j:=1) rfl IY.nd (aw av (aw (bZ n3 av av) aB)))))
 (bJ (cM av))))
theorem acg(T:eA K mg ad){fd:FuncData}(F:eL K "is_whole" "is_whole" vW ad.yI fd)  : bz P w K mg base 1 ad.yI ur:=by
 refine i3 (N:=["value"]) (k:=0) (body:=rR) F abJ (j0 F) λhr tk hp=>?_;unfold rR;exact(bJ (cM (nW (cJ iL rfl T.gW hA (aw av (aw (h5 rfl T.kB lE) aB))) (qU (RU (cJ iL rfl T.gW hA (aw av (aw (h5 rfl T.yU Dt) aB))))))))
theorem ach(T:eA K mg ad){fd:FuncData}(F:FunD K "__init__" "Ratio.__init__" (defArgs mO) (defBody mO) (defScope mO) [(V.int 1)] [] ad.sW fd)(I8:bz P w K mg base 1 ad.yH xB)(C4:bz P w K mg base 1 ad.yI ur)(C5:rM P w K mg base "InvalidRatio" ad.mE 2 "InvalidRatio" ["value"]):FnOk P w K mg base (Z.CX P w) 4 ad.sW fd ["self","top","bottom"] (hI K mg 3 (cN 4 (qc))):=by
 refine qb (N:=["self","top","bottom","share"]) F Qu (k:=3) (body:=qc) λA outer s H E hr=>?_;refine nJ λtk hp=>?_;unfold qc;exact(bE (er (kM (kL (cu tk C4 (bW hr) T.rR T.Qx (aw av aB))))
 (bJ (Gb tk rfl C5 (bW hr) (by decide) (aw av aB)))
 eH)
 (bE (er (gk.eb (j5 (kM (kL (cu tk C4 (bW hr) T.rR T.Qx (aw av aB)))) (mQ (c9 (gp hr.units) av aN))))
 (bJ (Gb tk rfl C5 (bW hr) (by decide) (aw av aB)))
 eH)
 (bE (fU Qu.nd (cu tk I8 (bW hr) T.uq T.abU (aw av (aw av aB))))
 (bE (Lw (Lz T.f9 T.vm T.yR Ly) av (qV (c9 q7 av aN) (bZ mV av av) (bZ mV (Kg Kz av) av)))
 (bJ (Lw (Lz T.f9 T.vm T.yQ Ly) av (bZ mV (cJ xv rfl T.sY vJ (aw av aB)) av)))))))
theorem aci{fd:FuncData}(F:FunD K "__init__" "Ratio.__init__" (defArgs mO) (defBody mO) (defScope mO) [(V.int 1)] [] ad.sW fd)(O:FnOk P w K mg base (Z.CX P w) 4 ad.sW fd ["self","top","bottom"] (hI K mg 3 (cN 4 (qc)))):bz P w K mg base 4 ad.sW xC:=by
 have h0:Binds K fd ["self","top","bottom"] []:=by
  obtain⟨ds,hd,hb⟩:=(F.binds1 (ps:=["self","top","bottom"]) 3 1 (by simp) rfl λ_ _ _ _ _ _ _ us its hl hd=>match us,hl,its,hd with|[_,_,_],_,[_],_=>⟨_,rfl,rfl⟩)
  cases hd;exact hb
 have h1:=(F.binds1 (ps:=["self","top","bottom"]) 2 0 (by simp) rfl λ_ _ _ _ _ _ _ us its hl hd=>match us,hl,its,hd with|[_,_],_,[_],_=>⟨_,rfl,rfl⟩)
 exact V' O h0 h1 (λae H=>ak.cons g5 (ak.nil))
theorem acj(T:eA K mg ad){fd:FuncData}(F:eL K "_law_ratio" "_law_ratio" vX ad.yJ fd)(I9:bz P w K mg base 4 ad.sW xC):bz P w K mg base 6 ad.yJ uz:=by
 refine i3 (N:=["_law_pair"]) (k:=5) (body:=uy) F abK (j0 F) λhr tk hp=>?_;unfold uy;exact(bJ (cM (lU (Ue tk T.I3 I9 (bW hr) T.f9 (aw (aC hr av aN) (aw (aC hr av aN) aB))))))
theorem QF(T:eA K mg ad){fd:FuncData}(F:eL K "_law_plan_made" "_law_plan_made" vY ad.yK fd)(qI:bz P w K mg base 1 ad.vh o7)(C6:bz P w K mg base 6 ad.yJ uz):∀k,bz P w K mg base (k+7) ad.yK (qA k)
 |0=>Az
 |k+1=>by
  have ph:=QF T F qI C6 k;have fD:k+7<=k+7:=dE _;refine pV (qb (N:=["_law_plan_z","_law_inner_here","_law_one"]) F CU (k:=k+7) (body:=qz (qA k)) λA outer s H E hr=>?_) (j0 F);refine nJ λtk hp=>?_;unfold qz;exact(bE (fU CU.nd (j6 KN rfl T.qH tf (aw (lU (oq (own:=[("_law_one",2)]) rfl CU.nd (blkOk_by (by rfl)) (rv (cu tk qI (bW hr) T.jY T.Qw (aw av aB))) (λ_ _ _ _ _=>(gM CU.nd)) (λ_ _ _ _ _=>jM) (λ_ _ _ _ _=>(cu rA ph (hr.mono fD) T.qz T.Qy (aw av aB))))) aB)))
  (bE (er (c9 (gp hr.units) (aC hr av aN) d4)
  (bJ (cM (dU (aw d4 (aw (cu tk C6 (bW hr) T.uy T.abV (aw (aC hr av aN) aB)) (aw (aC hr av aN) aB))))))
  eH)
  (bJ (cM (qV (Be (iR.or (cg.w (gp hr.units)) (XR (Wm hr.units))) av (dU aB)) av (bZ hj (dU (aw (aC hr av aN) aB)) av))))))
theorem QG(T:eA K mg ad){fd:FuncData}(F:eL K "_law_same" "_law_same" vZ ad.yL fd)  : ∀k,bz P w K mg base (k+1) ad.yL (nc k)
 |0=>Az
 |k+1=>by
  have ph:=QG T F  k;have fD:k+1<=k+1:=dE _;refine pV (qb (N:=["_law_found","_law_due","_law_a","_law_b"]) F CV (k:=k+1) (body:=ie (nc k)) λA outer s H E hr=>?_) (o' F);refine nJ λtk hp=>?_;unfold ie;exact(bE (er (kL (cJ iL rfl T.gW hA (aw av (aw (dU (aw (h5 rfl T.qF td) (aw (h5 rfl T.qH tf) aB))) aB))))
  (bE (er (gk.eb (j5 (c9 (q8 hr.units) (cJ iL rfl T.gW hA (aw av (aw (h5 rfl T.qF td) aB))) (cJ iL rfl T.gW hA (aw av (aw (h5 rfl T.qF td) aB)))) (mQ (c9 (q8 hr.units) (cJ iL rfl T.gW hA (aw av (aw (h5 rfl T.qH tf) aB))) (cJ iL rfl T.gW hA (aw av (aw (h5 rfl T.qH tf) aB)))))))
  (bJ (cM nV))
  eH)
  (bJ (cM (nW (j4 (gp hr.units) (cJ gQ rfl T.f' gG (aw av aB)) (cJ gQ rfl T.f' gG (aw av aB))) (qU (cJ (KL rfl) rfl T.C1 PyProof.Rows.boot_all (aw (lU (oq (own:=[("_law_a",2),("_law_b",3)]) rfl CV.nd (blkOk_by (by rfl)) (T5 (aw av (aw av aB)) rfl T.I5) (λ_ _ _ _ _=>(Ak rfl (pT (gM CV.nd) (pT (gM CV.nd) Aj)) (hT (fg 2) (hT (fg 3) nY)))) (λ_ _ _ _ _=>jM) (λ_ _ _ _ _=>(cu rA ph (hr.mono fD) T.ie T.vl (aw av (aw av aB)))))) aB)))))))
  eH)
  (bE (er (gk.eb (j5 (c9 zY av zI) (mQ (c9 zY av zI))))
  (bJ (cM (nW (j4 zY av zI) (qU (j4 zY av zI)))))
  eH)
  (bE (er (gk.eb (j5 (c9 (q8 hr.units) (cJ iL rfl T.gW hA (aw av (aw (h5 rfl T.yU Dt) aB))) (cJ iL rfl T.gW hA (aw av (aw (h5 rfl T.yU Dt) aB)))) (mQ (c9 (q8 hr.units) (cJ iL rfl T.gW hA (aw av (aw (h5 rfl T.kB lE) aB))) (cJ iL rfl T.gW hA (aw av (aw (h5 rfl T.kB lE) aB)))))))
  (bJ (cM nV))
  eH)
  (bJ (cM (nW (j4 (gp hr.units) (cJ iL rfl T.gW hA (aw av (aw (h5 rfl T.vo zi) aB))) (cJ iL rfl T.gW hA (aw av (aw (h5 rfl T.vo zi) aB)))) (qU (j4 (gp hr.units) av av))))))))
theorem acm(T:eA K mg ad){fd:FuncData}(F:eL K "is_name" "is_name" v5 ad.yM fd)  : bz P w K mg base 1 ad.yM u9:=by
 refine i3 (N:=["value","sign"]) (k:=0) (body:=sM) F IZ (j0 F) λhr tk hp=>?_;unfold sM;exact(bE (er (gk.eb (j5 (kM (kL (cJ iL rfl T.gW hA (aw av (aw (h5 rfl T.vo zi) aB))))) (j5 (kM (RW zV zV aN (cJ gQ rfl T.f' gG (aw av aB)) (Ax T.ab2))) (mQ (c9 (ov hr.units) av (Oj T.QC))))))
 (bJ (cM nV))
 eH)
 (bJ (cM (cJ (KL rfl) rfl T.C1 PyProof.Rows.boot_all (aw (lU (oq (own:=[("sign",1)]) rfl IZ.nd (blkOk_by (by rfl)) (rv av) (λ_ _ _ _ _=>(gM IZ.nd)) (λ_ _ _ _ _=>jM) (λ_ _ _ _ _=>(j4 (ov hr.units) av (Uj T.abZ))))) aB)))))
theorem acn(T:eA K mg ad){fd:FuncData}(F:eL K "has_form" "has_form" v7 ad.yN fd)(I_:bz P w K mg base 1 ad.yM u9):bz P w K mg base 2 ad.yN IM:=by
 refine i3 (N:=["value"]) (k:=1) (body:=yw) F abL (j0 F) λhr tk hp=>?_;unfold yw;exact(bE (er (gk.eb (j5 (kM (kL (cJ iL rfl T.gW hA (aw av (aw (h5 rfl T.qH tf) aB))))) (j5 (c9 (gp hr.units) (cJ gQ rfl T.f' gG (aw av aB)) aN) (mQ (kM (kL (cJ iL rfl T.gW hA (aw (aC hr av aN) (aw (h5 rfl T.vo zi) aB)))))))))
 (bJ (cM nV))
 eH)
 (bE (er (c9 (ov hr.units) (aC hr av aN) (Oj T.QC))
 (bJ (cM (j4 (gp hr.units) (cJ gQ rfl T.f' gG (aw av aB)) aN)))
 eH)
 (bE (er (c9 (gp hr.units) (aC hr av aN) d4)
 (bJ (cM (nW (j4 (gp hr.units) (cJ gQ rfl T.f' gG (aw av aB)) aN) (qU (cu tk I_ (bW hr) T.sM T.abW (aw (aC hr av aN) aB))))))
 eH)
 (bE (er (c9 (ov hr.units) (aC hr av aN) (dU (aw d4 (aw d4 aB))))
 (bJ (cM (RV zV zV aN (bZ n0 (cJ gQ rfl T.f' gG (aw av aB)) aN) (Ax T.ab1))))
 eH)
 (bE (er (c9 (gp hr.units) (aC hr av aN) d4)
 (bJ (cM (j4 (gp hr.units) (cJ gQ rfl T.f' gG (aw av aB)) aN)))
 eH)
 (bJ (cM (nW (j4 (gp hr.units) (aC hr av aN) d4) (nW (j4 (gp hr.units) (cJ gQ rfl T.f' gG (aw av aB)) aN) (qU (cJ (MN (MV T.f9 T.QB (MX T.f9 T.QA T.C0 Bm) Bm MU)) rfl T.gW hA (aw (aC hr av aN) (aw (Kf rfl T.f9) aB)))))))))))))
theorem aco(T:eA K mg ad){fd:FuncData}(F:eL K "inside" "inside" v8 ad.sU fd)  : bz P w K mg base 1 ad.sU ly:=by
 refine i3 (N:=["plan"]) (k:=0) (body:=jZ) F abM (j0 F) λhr tk hp=>?_;unfold jZ;exact(bE (er (c9 (ov hr.units) (aC hr av aN) (dU (aw d4 (aw d4 aB))))
 (bJ (cM (j6 Ex rfl T.qF td (aw (pQ av (oi aN) oh) aB))))
 eH)
 (bJ (cM (qV (c9 (ov hr.units) (aC hr av aN) (dU (aw d4 (aw d4 aB)))) (h7 (aw (aC hr av (Kg Kz aN)) aB)) (h7 aB)))))
theorem acp(T:eA K mg ad){fd:FuncData}(F:eL K "check_plan" "check_plan" v9 ad.vj fd)(mG:bz P w K mg base 1 ad.sV gS)(I':bz P w K mg base 2 ad.yN IM)(qJ:bz P w K mg base 1 ad.sU ly)(Ja:rM P w K mg base "InvalidPlan" ad.mF 2 "InvalidPlan" ["path"]):bz P w K mg base 18 ad.vj CO:=by
 refine i3 (N:=["value","queue","many","path","part","rows","at","one"]) (k:=17) (body:=yx) F qD (j0 F) λhr tk hp=>?_;unfold yx;exact(bE (tI (j:=2) rfl qD.nd (aw (wo (aw (dU (aw (dU aB) (aw av aB))) aB)) (aw aN aB)))
 (bJ (Eg hp (Be (iR.or (cg.w (q8 hr.units)) (Nw (n:=12) tk (bW hr) (Gf T.f9 T.I4 mG (bW hr) Ge) (Gi T.f9 (Gk T.f9 T.yT Gj) T.yS T.vn Gh))) av (h7 aB))
 (bE (pA (KZ K2 (λ_ _ _ _ _=>rk) PySem.F.plainAttrs_list PySem.F.slot_list_pop PySem.F.type_list_pop av) (wt rfl (mR (j7 qD.nd) (mR (j7 qD.nd) wq)) (hT (fg 3) (hT (fg 4) nY))) (Fq (t7 (fg 3) (t7 (fg 4) Fp))))
 (bE (Uk qD.nd ip_add aN)
 (bE (er (gk.eb (j5 (c9 q7 av (Ax T.ab3)) (j5 (c9 Ky (cJ gQ rfl T.f' gG (aw av aB)) (Ax T.ab0)) (mQ (kM (kL (cu tk I' (bW hr) T.yw T.abX (aw av aB))))))))
 (bJ (Gb tk rfl Ja (bW hr) (by decide) (aw av aB)))
 eH)
 (bE (w1 (own:=[("at",6),("one",7)]) rfl qD.nd (blkOk_by (by rfl)) (sw_true rfl rfl rfl rfl) (Li (aw (cu tk qJ (bW hr) T.jZ T.Qz (aw av aB)) aB) rfl T.C2) (λ_ _ _ _ _=>(Ak rfl (pT (gM qD.nd) (pT (gM qD.nd) Aj)) (hT (fg 6) (hT (fg 7) nY)))) (λ_ _ _ _ _=>jM) (λ_ _ _ _ _=>(dU (aw (dU (Nh av (aw av aB))) (aw av aB)))))
 (bJ (tH (tU K1 (λ_ _ _ _ _=>rk) PySem.F.plainAttrs_list PySem.F.slot_list_extend PySem.F.type_list_extend av (aw (Ng av) aB)))))))))))
theorem jps(T:eA K mg ad)(mG:bz P w K mg base 1 ad.sV gS)(yV:bz P w K mg base 18 ad.vj CO)(qJ:bz P w K mg base 1 ad.sU ly){cd:Value}{A:Around}{outer:List Env}{n:Addr}{s:Shared}{H:Hp}{pn:List (Addr×Obj)}{xe:Value->Shared->Prop}{W:WX}(tk:Z.Takes (ZG.mz P w K mg base ["plan","queue","path","part","rows","at","one"] "parts" (defScope i6) ad.lA cd A outer n s H pn xe) W)(hp:PassesOwn (model P w) (A.deeper (envOfC "parts" (defScope i6) n ad.lA cd)) (envOfC "parts" (defScope i6) n ad.lA cd) xe)(hr:Room 18 (A.deeper (envOfC "parts" (defScope i6) n ad.lA cd))):ZG.HU (ZG.mz P w K mg base ["plan","queue","path","part","rows","at","one"] "parts" (defScope i6) ad.lA cd A outer n s H pn xe) W (ZG.O9 2 1 (defBody i6)) IQ IT IU IV IW where
 pre:=by
  unfold IQ;exact(bE (tH (cu tk yV (bW hr) T.yx T.abY (aw av aB)))
 (bJ (fU sS.nd (wo (aw (dU (aw (dU aB) (aw av aB))) aB)))))
 t:=by
  unfold IT;exact(Be (iR.or (cg.w (q8 hr.units)) (Nw (n:=12) tk (bW hr) (Gf T.f9 T.I4 mG (bW hr) Ge) (Gi T.f9 (Gk T.f9 T.yT Gj) T.yS T.vn Gh))) av (h7 aB))
 A:=by
  unfold IU;exact(bJ (pA (KZ K2 (λ_ _ _ _ _=>rk) PySem.F.plainAttrs_list PySem.F.slot_list_pop PySem.F.type_list_pop av) (wt rfl (mR (j7 sS.nd) (mR (j7 sS.nd) wq)) (hT (fg 2) (hT (fg 3) nY))) (Fq (t7 (fg 2) (t7 (fg 3) Fp)))))
 e:=by
  unfold IV;exact(dU (aw av (aw av aB)))
 B:=by
  unfold IW;exact(bE (w1 (own:=[("at",5),("one",6)]) rfl sS.nd (blkOk_by (by rfl)) (sw_true rfl rfl rfl rfl) (Li (aw (cu tk qJ (bW hr) T.jZ T.Qz (aw av aB)) aB) rfl T.C2) (λ_ _ _ _ _=>(Ak rfl (pT (gM sS.nd) (pT (gM sS.nd) Aj)) (hT (fg 5) (hT (fg 6) nY)))) (λ_ _ _ _ _=>jM) (λ_ _ _ _ _=>(dU (aw (dU (Nh av (aw av aB))) (aw av aB)))))
 (bJ (tH (tU K1 (λ_ _ _ _ _=>rk) PySem.F.plainAttrs_list PySem.F.slot_list_extend PySem.F.type_list_extend av (aw (Ng av) aB)))))
theorem acq(T:eA K mg ad){fd:FuncData}(F:FunD K "parts" "parts" (defArgs i6) (defBody i6) (defScope i6) [] [] ad.lA fd)(mG:bz P w K mg base 1 ad.sV gS)(yV:bz P w K mg base 18 ad.vj CO)(qJ:bz P w K mg base 1 ad.sU ly):ZG.uX P w K mg base 20 ad.lA 1 [] yz :=
 ZG.ZU (N:=["plan","queue","path","part","rows","at","one"]) (ps:=["plan"]) (k:=18) (its:=[]) (dfs:=[]) F (sh:=(ZG.O9 2 1 (defBody i6))) rfl sS abN (j0 F) .nil (λae H=>ak.nil) (λ_ _=>rfl) λcd A outer n s H pn xe W tk hp hr=>jps T mG yV qJ tk hp hr
theorem acr(T:eA K mg ad){fd:FuncData}(F:eL K "names_in" "names_in" nQ ad.hZ fd)(mH:ZG.uX P w K mg base 20 ad.lA 1 [] yz):FnOk P w K mg base (Z.CX P w) 21 ad.hZ fd ["plan"] (hI K mg 1 (cN 4 (iy))):=by
 refine qb (N:=["plan","found","path","part"]) F qE (k:=20) (body:=iy) λA outer s H E hr=>?_;refine nJ λtk hp=>?_;unfold iy;exact(bE (fU qE.nd (wo aB))
 (bE (ZG.Ht hp ZG.G7 (ZG.HW tk hr (ZG.ye (off:=0) mH (bW hr) T.yO T.yP (aw av aB))) (wt rfl (mR (j7 qE.nd) (mR (j7 qE.nd) wq)) (hT (fg 2) (hT (fg 3) nY)))
 (bJ (er (gk.eb (Ea (c9 (gp hr.units) (aC hr av aN) d4) (D' (c9 (Fm hr.units) (aC hr av aN) av))))
 (bJ (tH (tU E5 (λ_ _ _ _ _=>rk) PySem.F.plainAttrs_list Du Dw av (aw (aC hr av aN) aB))))
 eH)))
 (bJ (cM av))))
theorem acs{fd:FuncData}(F:eL K "names_in" "names_in" nQ ad.hZ fd)(O:FnOk P w K mg base (Z.CX P w) 21 ad.hZ fd ["plan"] (hI K mg 1 (cN 4 (iy)))):bz P w K mg base 21 ad.hZ vd:=pV O (j0 F)
theorem acu(T:eA K mg ad){fd:FuncData}(F:eL K "names_in" "names_in" nQ ad.hZ fd)(mH:ZG.uX P w K mg base 20 ad.lA 1 [] yz):FnOk P w K mg base (Z.CX P w) 21 ad.hZ fd ["plan"] (hI K mg 1 (pU 4 (iy))):=by
 refine MP (N:=["plan","found","path","part"]) F qE (k:=20) (body:=iy) λA outer s H E hr=>?_;refine nJ λtk hp=>?_;unfold iy;exact(bE (fU qE.nd (wo aB))
 (bE (ZG.Ht hp ZG.G7 (ZG.HW tk hr (ZG.ye (off:=0) mH (bW hr) T.yO T.yP (aw av aB))) (wt rfl (mR (j7 qE.nd) (mR (j7 qE.nd) wq)) (hT (fg 2) (hT (fg 3) nY)))
 (bJ (er (gk.eb (Ea (c9 (gp hr.units) (aC hr av aN) d4) (D' (c9 (Fm hr.units) (aC hr av aN) av))))
 (bJ (tH (tU E5 (λ_ _ _ _ _=>rk) PySem.F.plainAttrs_list Du Dw av (aw (aC hr av aN) aB))))
 eH)))
 (bJ (cM av))))
theorem acv{fd:FuncData}(F:eL K "names_in" "names_in" nQ ad.hZ fd)(O:FnOk P w K mg base (Z.CX P w) 21 ad.hZ fd ["plan"] (hI K mg 1 (pU 4 (iy)))):bz P w K mg base 21 ad.hZ vg:=pV O (j0 F)
theorem acw{fd:FuncData}(F:eL K "names_in" "names_in" nQ ad.hZ fd)(O:FnOk P w K mg base (Z.CX P w) 21 ad.hZ fd ["plan"] (hI K mg 1 (cN 4 (iy)))):Bi P w K mg base 21 ad.hZ 0 ["plan"] vf :=
 Wa (ix:=[0]) (dvs:=[]) (its:=[]) O (Wb F λ_ _ _ _ _ _ us ws h1 h2=>match us,h1,ws,h2 with|[],_,[_],_=>rfl) λae H=>ak.nil
theorem acx(T:eA K mg ad){fd:FuncData}(F:eL K "law" "law" v' ad.CW fd)(mG:bz P w K mg base 1 ad.sV gS)(Jb:bz P w K mg base 1 ad.a_1 w7)(Jc:bz P w K mg base 12 ad.yB yn)(vp:bz P w K mg base 11 ad.vi sH)(Jd:bz P w K mg base 3 ad.yC yo)(gX:bz P w K mg base 1 ad.pd gv)(Je:bz P w K mg base 13 ad.yG PL)(Jf:bz P w K mg base 16 ad.yK PN)(sZ:bz P w K mg base 13 ad.yL oz)(C7:bz P w K mg base 21 ad.hZ vd)(Jg:Bi P w K mg base 21 ad.hZ 0 ["plan"] vf)(mH:ZG.uX P w K mg base 20 ad.lA 1 [] yz)(Jh:bz P w K mg base 21 ad.hZ vg):FnOk P w K mg base (Z.CX P w) 22 ad.CW fd ["_law_script"] (hI K mg 1 (cN 15 (pa))):=by
 refine qb (N:=["_law_script","_law_bag_here","_law_names","_law_turn","_law_own","_law_plan_z","_law_due","_law_told","_law_row","_law_late","_law_once","_law_k","_law_both","_law_one","_law_other"]) F fN (k:=21) (body:=pa) λA outer s H E hr=>?_;refine nJ λtk hp=>?_;unfold pa;exact(bE (fU fN.nd (cu tk Jb (bW hr) T.uf T.abO (aw av aB)))
 (bE (fU fN.nd (cu tk Jd (bW hr) T.sJ T.abQ (aw av (aw aN aB))))
 (bE (Kk hp rfl (t2 (aw aN aB) rfl T.qG) (j7 fN.nd)
 (bE (fU fN.nd (cu tk Je (bW hr) T.nH T.CY (aw av (aw (pQ av oh (oi (bZ hj aN (cu tk gX (bW hr) T.fG T.pe (aw av (aw aN aB)))))) (aw (bZ hj aN (cu tk gX (bW hr) T.fG T.pe (aw av (aw aN aB)))) aB)))))
 (bE (fU fN.nd (cu tk Jf (bW hr) T.qz T.Qy (aw av aB)))
 (bE (fU fN.nd (cu tk vp (bW hr) T.o8 T.I0 (aw av (aw (dU aB) aB))))
 (bE (ZG.aav (own:=[("_law_row",8)]) rfl fN.nd hr.hd (ZG.Room.BQ hr) (blkOk_by (by rfl)) (by rfl) (sw_true rfl rfl rfl rfl) (ZG.ye (off:=1) mH (bW hr) T.yO T.yP (aw av aB)) (λ_ _ _ _ _=>(gM fN.nd)) (λ_ _ _ _ _=>jM) (λ_ _ _ _ _=>(dU (aw (aC hr av aN) (aw (aC hr av aN) aB)))))
 (bE (er (gk.eb (j5 (Be (iR.or (cg.w (q8 hr.units)) (YM (n:=12) tk (bW hr) (Gf T.f9 T.I4 mG (bW hr) Ge) (Gi T.f9 (Gk T.f9 T.yT Gj) T.yS T.vn Gh))) av av) (mQ (kM (kL (cu tk sZ (bW hr) T.ie T.vl (aw (lU (oq (own:=[("_law_row",8)]) rfl fN.nd (blkOk_by (by rfl)) (rv av) (λ_ _ _ _ _=>(gM fN.nd)) (λ_ _ _ _ _=>jM) (λ_ _ _ _ _=>(aC hr av aN)))) (aw (lU (oq (own:=[("_law_row",8)]) rfl fN.nd (blkOk_by (by rfl)) (rv av) (λ_ _ _ _ _=>(gM fN.nd)) (λ_ _ _ _ _=>jM) (λ_ _ _ _ _=>(aC hr av aN)))) aB))))))))
 (bJ (cM nV))
 eH)
 (bE (fU fN.nd (cu tk Jc (bW hr) T.sI T.abP (aw av aB)))
 (bE (w1 (own:=[("_law_k",11)]) rfl fN.nd (blkOk_by (by rfl)) (sw_true rfl rfl rfl rfl) (t2 (aw (cJ gQ rfl T.f' gG (aw av aB)) aB) rfl T.qG) (λ_ _ _ _ _=>(gM fN.nd)) (λ_ _ _ _ _=>(Lk (c9 (Fm hr.units) (aC hr av av) (pQ av oh (oi av))))) (λ_ _ _ _ _=>(aC hr av av)))
 (bE (er (kM (kL (cu tk sZ (bW hr) T.ie T.vl (aw (h7 (aw (cu tk C7 (bW hr) T.iy T.CZ (aw av aB)) (aw (Wh tk Jg (bW hr) T.iy T.CZ (Wd av Wc)) aB))) (aw (h7 (aw av (aw av aB))) aB)))))
 (bJ (cM nV))
 eH)
 (bE (tH (tU E5 (λ_ _ _ _ _=>rk) PySem.F.plainAttrs_list Du Dw (cu tk Jh (bW hr) T.iy T.CZ (aw av aB)) (aw d4 aB)))
 (bE (er (kM (kL (cu tk sZ (bW hr) T.ie T.vl (aw (cu tk C7 (bW hr) T.iy T.CZ (aw av aB)) (aw av aB)))))
 (bJ (cM nV))
 eH)
 (bE (fU fN.nd (h7 aB))
 (bE (ZG.Ht hp ZG.G7 (ZG.HW tk hr (ZG.ye (off:=0) mH (bW hr) T.yO T.yP (aw av aB))) (j7 fN.nd)
 (bJ (fU fN.nd (bZ hj (bZ hj av (pQ (lU (ZG.aau (own:=[("_law_other",14)]) rfl fN.nd hr.hd (ZG.Room.BQ hr) (blkOk_by (by rfl)) (by rfl) (ZG.ye (off:=1) mH (bW hr) T.yO T.yP (aw av aB)) (λ_ _ _ _ _=>(gM fN.nd)) (λ_ _ _ _ _=>jM) (λ_ _ _ _ _=>(cJ gQ rfl T.f' gG (aw (aC hr av aN) aB))))) oh (oi aN))) (h7 (aw (cJ gQ rfl T.f' gG (aw (aC hr av aN) aB)) aB))))))
 (bJ (er (gk.eb (j5 (kM (kL (cu tk sZ (bW hr) T.ie T.vl (aw (Ol av (oi aN)) (aw (lU (oq (own:=[("_law_row",8)]) rfl fN.nd (blkOk_by (by rfl)) (rv av) (λ_ _ _ _ _=>(gM fN.nd)) (λ_ _ _ _ _=>jM) (λ_ _ _ _ _=>(cJ gQ rfl T.f' gG (aw (aC hr av aN) aB))))) aB))))) (mQ (kM (kL (cu tk sZ (bW hr) T.ie T.vl (aw (Ol av oh) (aw (bZ pY (h7 (aw aN aB)) (cJ gQ rfl T.f' gG (aw av aB))) aB))))))))
 (bJ (cM nV))
 eH)))))))))))))))
 (bJ (cM nV)))))
end
theorem acy:ZX.p8 (defScope nR) "self":=⟨rfl,rfl,rfl,rfl,rfl,rfl,by decide +kernel⟩
theorem acz:ZX.xj (defArgs nR) (defScope nR) "self" ["value"]:=⟨rfl,by decide +kernel,by decide +kernel,by decide +kernel,λfd us h hd hl=>by
 obtain⟨⟩:=fd;cases h;cases hd;exact match us,hl with|[_,_],_=>rfl⟩
theorem QH:ZX.p8 (defScope kG) "self":=⟨rfl,rfl,rfl,rfl,rfl,rfl,by decide +kernel⟩
theorem QI:ZX.xj (defArgs kG) (defScope kG) "self" ["tag"]:=⟨rfl,by decide +kernel,by decide +kernel,by decide +kernel,λfd us h hd hl=>by
 obtain⟨⟩:=fd;cases h;cases hd;exact match us,hl with|[_,_],_=>rfl⟩
theorem acA:ZX.p8 (defScope nS) "self":=⟨rfl,rfl,rfl,rfl,rfl,rfl,by decide +kernel⟩
theorem acB:ZX.xj (defArgs nS) (defScope nS) "self" ["path"]:=⟨rfl,by decide +kernel,by decide +kernel,by decide +kernel,λfd us h hd hl=>by
 obtain⟨⟩:=fd;cases h;cases hd;exact match us,hl with|[_,_],_=>rfl⟩
theorem acC{l:PySem.W.OpenLaw}{w:World}{K:PySem.W.Frag}{h:Heap}{mg:Str->Option Value}{base:Heap}
  {Ji:Addr} {pj:Addr} {mE:Addr} {sX:Addr}
  (X:K.In h) (G:h.Ns mainGlobals mg)
  (C9:PySem.W.nsIn K mainGlobals "InvalidRatio"=some (some (.ref mE)))
  (yW:ZX.rG l.prog K Ji mE "InvalidRatio.__init__" (defArgs nR) (defBody nR) (defScope nR))
  (qK:ZX.rG l.prog K pj sX "WayError.__init__" (defArgs kG) (defBody kG) (defScope kG))
  (yX:ti K mE sX Ji pj [.type "ValueError",.type "Exception",.type "BaseException",.type "object"] "ValueError" "ValueError.__new__" "ValueError.__init__" (.ref pj) ["tag","value"]=true)
  (vq:PySem.W.nsIn K mainGlobals "super"=some none)
  (vr:PySem.W.nsIn K cStatics "thirdparty.any"=some none)
  (vt:(l.prog.main.scope.names.lookup ("super":Str)).isSome=false)
  : rM l.prog w K mg base "InvalidRatio" mE 2 "InvalidRatio" ["value"]:=by
 have yY:L2.Mod K mg base->ZX.rH l.prog K mg base:=λM=>⟨M,jB X G vq,vt,vr⟩
 obtain⟨acD,QJ,acE,acF,acG,QK,acH,acI,acJ,acK,acL,acM,acN,acO,acP,Jj,Jk,_,_⟩:=uB yX;have acQ:PySem.W.findIn K (.ref mE) "tag"=some none:=(uB yX).at_ (by decide +kernel);have acR:PySem.W.findIn K (.ref mE) "value"=some none:=(uB yX).at_ (by decide +kernel);have QL:ZX.oH K mE [.type "ValueError",.type "Exception",.type "BaseException",.type "object"] "ValueError.__new__":=⟨QJ,acE,acF,acG⟩
 refine⟨d3 X G C9,acD,λM=>⟨"ValueError","ValueError.__new__","ValueError.__init__",_,Ji,zj,QJ,acH,acI,?_⟩,acJ,acL⟩;have xr:ZX.oJ l.prog w base 1 pj mE ZX.b2:=ZX.Mz PySem.W.kxs_ValueError zj zk (yY M) qK QH QL QK QI acO acP acK acQ rfl (λenv=>⟨rfl,rfl,⟨_,rfl⟩⟩) (λenv=>rfl) (r0:=(λv=>v "tag")) (r1:=(λv=>v "tag")) (λenv vof h=>ZX.kg.par (by show env.scope.names.lookup _=_;rw[h];rfl) rfl) (λenv vof h=>ZX.kg.par (by show env.scope.names.lookup _=_;rw[h];rfl) rfl) (λv1 v2 h=>h "tag" (by simp));have Jl:=ZX.MC (l:=(["value"]:List Str).map λp=>(p,p)) xr zk (yY M) yW acy QL QK acz acM acN Jj Jk rfl (λenv=>⟨rfl,rfl,⟨_,rfl⟩⟩) (r0:=λ_=>V.str "InvalidRatio") (λenv vof h=>ZX.kg.txt) (λv1 v2 h=>rfl) (λenv h=>.cons rfl (by show env.scope.names.lookup _=_;rw[h];rfl) rfl (.nil)) (λfp hm=>by
  simp only[dD,vx,List.mem_cons,List.not_mem_nil,or_false]at hm;subst hm;exact⟨acR,by simp⟩) (by simp) (λvs fs h=>by unfold ZX.b2 at h;split at h<;>cases h;simp)
 exact Jl.cast (λvs=>ZX.MT (by decide) vs)
theorem acS{l:PySem.W.OpenLaw}{w:World}{K:PySem.W.Frag}{h:Heap}{mg:Str->Option Value}{base:Heap}
  {pj:Addr} {Jm:Addr} {mF:Addr} {sX:Addr}
  (X:K.In h) (G:h.Ns mainGlobals mg)
  (C_:PySem.W.nsIn K mainGlobals "InvalidPlan"=some (some (.ref mF)))
  (qK:ZX.rG l.prog K pj sX "WayError.__init__" (defArgs kG) (defBody kG) (defScope kG))
  (yZ:ZX.rG l.prog K Jm mF "InvalidPlan.__init__" (defArgs nS) (defBody nS) (defScope nS))
  (y0:ti K mF sX Jm pj [.type "ValueError",.type "Exception",.type "BaseException",.type "object"] "ValueError" "ValueError.__new__" "ValueError.__init__" (.ref pj) ["tag","path"]=true)
  (vq:PySem.W.nsIn K mainGlobals "super"=some none)
  (vr:PySem.W.nsIn K cStatics "thirdparty.any"=some none)
  (vt:(l.prog.main.scope.names.lookup ("super":Str)).isSome=false)
  : rM l.prog w K mg base "InvalidPlan" mF 2 "InvalidPlan" ["path"]:=by
 have yY:L2.Mod K mg base->ZX.rH l.prog K mg base:=λM=>⟨M,jB X G vq,vt,vr⟩
 obtain⟨acT,QM,acU,acV,acW,QN,acX,acY,acZ,ac0,ac1,ac2,ac3,ac4,ac5,Jj,Jk,_,_⟩:=uB y0;have ac6:PySem.W.findIn K (.ref mF) "tag"=some none:=(uB y0).at_ (by decide +kernel);have ac7:PySem.W.findIn K (.ref mF) "path"=some none:=(uB y0).at_ (by decide +kernel);have QO:ZX.oH K mF [.type "ValueError",.type "Exception",.type "BaseException",.type "object"] "ValueError.__new__":=⟨QM,acU,acV,acW⟩
 refine⟨d3 X G C_,acT,λM=>⟨"ValueError","ValueError.__new__","ValueError.__init__",_,Jm,zj,QM,acX,acY,?_⟩,acZ,ac1⟩;have xr:ZX.oJ l.prog w base 1 pj mF ZX.b2:=ZX.Mz PySem.W.kxs_ValueError zj zk (yY M) qK QH QO QN QI ac4 ac5 ac0 ac6 rfl (λenv=>⟨rfl,rfl,⟨_,rfl⟩⟩) (λenv=>rfl) (r0:=(λv=>v "tag")) (r1:=(λv=>v "tag")) (λenv vof h=>ZX.kg.par (by show env.scope.names.lookup _=_;rw[h];rfl) rfl) (λenv vof h=>ZX.kg.par (by show env.scope.names.lookup _=_;rw[h];rfl) rfl) (λv1 v2 h=>h "tag" (by simp));have Jl:=ZX.MC (l:=(["path"]:List Str).map λp=>(p,p)) xr zk (yY M) yZ acA QO QN acB ac2 ac3 Jj Jk rfl (λenv=>⟨rfl,rfl,⟨_,rfl⟩⟩) (r0:=λ_=>V.str "InvalidPlan") (λenv vof h=>ZX.kg.txt) (λv1 v2 h=>rfl) (λenv h=>.cons rfl (by show env.scope.names.lookup _=_;rw[h];rfl) rfl (.nil)) (λfp hm=>by
  simp only[dD,vx,List.mem_cons,List.not_mem_nil,or_false]at hm;subst hm;exact⟨ac7,by simp⟩) (by simp) (λvs fs h=>by unfold ZX.b2 at h;split at h<;>cases h;simp)
 exact Jl.cast (λvs=>ZX.MT (by decide) vs)
abbrev gE:PySem.W.OpenLaw:=PySem.Challenge.rw_waysagree_k30_parts_and_names_of_plans
theorem end_{w:World}{K:PySem.W.Frag}{h:Heap}{mg:Str->Option Value}{fa:Addr}(ac8:∀ns:List Int,ns.length<=63->∃S,cN 15 pa [.bI ns] []=.ok (.bl true) S)(X:K.In h)(G:h.Ns mainGlobals mg)(hfa:mg "law"=some (.ref fa))(c:ZK.rW qQ i7 zv zx h K):∃fd:FuncData,(∀(s:Shared) (v:Value),BindsTo s fd ⟨[v],[]⟩ [("_law_script",v)])/\∀base:Heap,K.In base->base.Ns mainGlobals mg->FnOk PySem.Challenge.rw_waysagree_k30_parts_and_names_of_plans.prog w K mg base (Z.CX PySem.Challenge.rw_waysagree_k30_parts_and_names_of_plans.prog w) 22 fa fd ["_law_script"] (Fs K):=by
 refine ZK.Nq (l:=[J8 K,J9 K,J_ K,J' K]) c.more λac9 QP QR QS QT I3 ada adb yQ yR ade adf vn yS yT C0 adg adh adi adj adk adl adn ado adp adq ads adt adu adw adx ady adz adA adB adC adD adE adF adG adH QU C9 C_ adI aid yW aie qK aif yZ yX y0 vq vr Jo Jp Jq Jr Js adJ adK sY C1 yU C2 kB gW f' qF qG vo qH I5=>?_;obtain⟨aih,QV⟩:=c.def_ 0 (d:=JI);obtain⟨aii,QW⟩:=c.def_ 1 (d:=JK);obtain⟨aij,QX⟩:=c.def_ 2 (d:=JL);obtain⟨aik,QY⟩:=c.def_ 3 (d:=JM);obtain⟨ail,QZ⟩:=c.def_ 4 (d:=JN);obtain⟨aim,Q0⟩:=c.def_ 5 (d:=JO);obtain⟨ain,Q5⟩:=c.def_ 6 (d:=JP);obtain⟨aio,Q6⟩:=c.def_ 7 (d:=JQ);obtain⟨aip,Q7⟩:=c.def_ 8 (d:=JR);obtain⟨aiq,Q8⟩:=c.def_ 9 (d:=JS);obtain⟨air,Q9⟩:=c.def_ 10 (d:=JT);obtain⟨ais,Q_⟩:=c.def_ 11 (d:=JU);obtain⟨ait,Q'⟩:=c.def_ 12 (d:=JV);obtain⟨aiu,Ra⟩:=c.def_ 13 (d:=JW);obtain⟨aiv,Rb⟩:=c.def_ 14 (d:=JX);obtain⟨aiw,Rc⟩:=c.def_ 15 (d:=JY);obtain⟨aix,Rf⟩:=c.def_ 16 (d:=JZ);obtain⟨aiy,Rg⟩:=c.def_ 17 (d:=J0);obtain⟨aiz,Rh⟩:=c.def_ 18 (d:=J1);obtain⟨aiA,Ri⟩:=c.def_ 19 (d:=J2);obtain⟨aiB,Rj⟩:=c.def_ 20 (d:=J3);obtain⟨aiC,Rk⟩:=c.def_ 21 (d:=J4);obtain⟨aiD,Rl⟩:=c.def_ 22 (d:=J5);obtain⟨aiE,vu⟩:=c.def_ 23 (d:=J6);obtain⟨Rm,Jt⟩:=c.def_ 24 (d:=J7);have yW:=ZK.dQ.sup (prog:=PySem.Challenge.pw_waysagree_k30_parts_and_names_of_plans) (d:=D2) (c.Gq 0) rfl yW;have qK:=ZK.dQ.sup (prog:=PySem.Challenge.pw_waysagree_k30_parts_and_names_of_plans) (d:=D3) (c.Gq 1) rfl qK;have yZ:=ZK.dQ.sup (prog:=PySem.Challenge.pw_waysagree_k30_parts_and_names_of_plans) (d:=D4) (c.Gq 2) rfl yZ;have vt:(gE.prog.main.scope.names.lookup ("super":Str)).isSome=false:=rfl;have Jo:=He.str_ok X G Jo;have Jp:=He.int_ok X G Jp;have Jq:=He.int_ok X G Jq;have Jr:=He.int_ok X G Jr;have Js:=He.int_ok X G Js;have e:=hfa.symm.trans (d3 X G QU);have e2:(zr K)=fa:=by injection e with e;injection e with e;exact e.symm
 subst e2;have T:eA K mg ⟨(DC K),(DE K),(DF K),(DG K),(DH K),(DI K),(DJ K),(DK K),(DL K),(DM K),(DN K),(DP K),(DQ K),(DR K),(DS K),(DT K),(DU K),(DV K),(DW K),(DX K),(DY K),(DZ K),(zr K),(gi K),(zt K),(zu K),(wa K),(wc K),(tn K)⟩:=⟨d3 X G adi,QW.kp,d3 X G adj,QX.kp,d3 X G adk,QY.kp,d3 X G adl,QZ.kp,d3 X G adn,Q0.kp,d3 X G ado,Q5.kp,d3 X G adp,Q6.kp,d3 X G adq,Q7.kp,d3 X G ads,Q8.kp,d3 X G adt,Q9.kp,d3 X G adu,Q_.kp,d3 X G adw,Q'.kp,d3 X G adx,Ra.kp,d3 X G adz,Rc.kp,d3 X G adA,Rf.kp,d3 X G adB,Rg.kp,d3 X G adC,Rh.kp,d3 X G adD,Ri.kp,d3 X G adE,Rj.kp,d3 X G adF,Rk.kp,d3 X G adG,Rl.kp,d3 X G adH,vu.kp,d3 X G QU,Jt.kp,d3 X G ac9,⟨QP,QR,QS,QT⟩,⟨I3,adb,ady,ada⟩,yQ,yR,⟨ade,adh,QV.kp⟩,⟨⟨QP,QR,QS,QT⟩,adf,vn⟩,yS,vn,yT,C0,adg,d3 X G C9,d3 X G C_,d3 X G adI,Jo,Jp,Jq,Jr,Js,⟨_,d3 X G adJ,YN adK⟩,jB X G sY,jB X G C1,jB X G yU,jB X G C2,jB X G kB,jB X G gW,jB X G f',jB X G qF,jB X G qG,jB X G vo,jB X G qH,jB X G I5⟩
 have adL:∀(s:Shared) (v:Value),BindsTo s Rm ⟨[v],[]⟩ [("_law_script",v)]:=λs v=>(FunD.bindsA (ps:=["_law_script"]) Jt λ_ _ _ _ _ _ us hl=>match us,hl with|[_],_=>rfl) s [v] rfl;refine⟨Rm,adL,λbase _ _=>?_⟩
 .have C5:=acC (l:=gE) (w:=w) (base:=base) X G C9 yW qK yX vq vr vt
  have Ja:=acS (l:=gE) (w:=w) (base:=base) X G C_ qK yZ y0 vq vr vt;have mG:=ab4 (P:=gE.prog) (w:=w) (base:=base) T QV;have Jb:=ab5 (P:=gE.prog) (w:=w) (base:=base) T QW;have qI:=ab6 (P:=gE.prog) (w:=w) (base:=base) T QX;have vp:=QD (P:=gE.prog) (w:=w) (base:=base) T QY qI 9;have Jc:=ab7 T QZ vp;have gX:=ab8 (P:=gE.prog) (w:=w) (base:=base) T Q0;have kE:=ab9 T Q5 gX;have Jd:=aca T Q6 kE gX;have I6:=acb (P:=gE.prog) (w:=w) (base:=base) T Q7;have I7:=acd T Q8 I6;have C3:=ace T Q9 I7 kE gX;have Je:=QE (P:=gE.prog) (w:=w) (base:=base) T Q_ kE gX C3 9;have I8:=acf (P:=gE.prog) (w:=w) (base:=base) T Q';have C4:=acg (P:=gE.prog) (w:=w) (base:=base) T Ra;have adM:=ach (P:=gE.prog) (w:=w) (base:=base) T Rb I8 C4 C5;have I9:=aci Rb adM;have C6:=acj T Rc I9;have Jf:=QF (P:=gE.prog) (w:=w) (base:=base) T Rf qI C6 9;have sZ:=QG (P:=gE.prog) (w:=w) (base:=base) T Rg  12;have I_:=acm (P:=gE.prog) (w:=w) (base:=base) T Rh;have I':=acn T Ri I_;have qJ:=aco (P:=gE.prog) (w:=w) (base:=base) T Rj;have yV:=acp T Rk mG I' qJ Ja;have mH:=acq (P:=gE.prog) (w:=w) (base:=base) T Rl mG yV qJ;have Rn:=acr (P:=gE.prog) (w:=w) (base:=base) T vu mH;have C7:=acs vu Rn;have adN:=acu (P:=gE.prog) (w:=w) (base:=base) T vu mH;have Jh:=acv vu adN;have Jg:=acw vu Rn;exact Uo (acx (P:=gE.prog) (w:=w) (base:=base) T Jt mG Jb Jc vp Jd gX Je Jf sZ C7 Jg mH Jh) ac8
abbrev Ju:PySem.W.Hook:=ZK.Nf wd qQ i7 zv zx
def Jv(s:PySem.W.SharedT):ZK.oP:=ZK.obsZ wd qQ i7 zv zx (HandSHeadRun.getT s)
theorem adO(s:PySem.W.SharedT):Jv s=Ju.obs s.abs:=ZK.Xc (HandSHeadRun.getT_eq s)
theorem adP(w:World):HandSHeadRun.RunEq qR tq Ju Jv 40000 zy w:=by
 intro os;have h:=ZK.Bz (RF w os) (RG w os) (RH w os);rw[List.take_append_drop]at h;exact h
end K30
section
open PySem PySem.W PySem.Calls PyProof.Rows
open PySem PySem.Spec L2 Z in
set_option maxRecDepth 100000 in
set_option maxHeartbeats 0 in
theorem K30.adQ(adR:∀ns:List Int,ns.length<=63->∃S,cN 15 K30.pa [.bI ns] []=.ok (.bl true) S):PySem.Challenge.rw_waysagree_k30_parts_and_names_of_plans.Holds:=by
 w_on;o_law
 refine HandSHeadRun.head_any (r:=OpenLaw.row PySem.Challenge.rw_waysagree_k30_parts_and_names_of_plans) (q:=K30.tq) (H:=K30.Ju) (ob:=K30.Jv) (M:=40000) (loose:=K30.zy) (d:=HandSHeadRun.topDef (OpenLaw.row PySem.Challenge.rw_waysagree_k30_parts_and_names_of_plans).prog 44) (kwd:=[]) K30.adO (by kernel_rfl) (λs=>by kernel_rfl) K30.adP (by kernel_rfl) (by kernel_rfl) (by kernel_rfl) (by rfl) (by first|assumption|decide +kernel) (by decide +kernel) ⟨rfl,rfl,rfl,rfl,rfl,by decide +kernel⟩ ?hw ?hc
 case hw=>w_witness2
 case hc =>
  refine LamX.walk_ofTsE (l:=PySem.Challenge.rw_waysagree_k30_parts_and_names_of_plans) (n:=63) (k:=22) (x:="_law_script") (CX:=λw=>Z.CX (PySem.Challenge.rw_waysagree_k30_parts_and_names_of_plans).prog w) rfl (by decide) (by kernel_rfl) ⟨rfl,by decide,by decide⟩ ?F (λ_ _ _ _ _ z=>Z.Ul z);intro w mg fa h Y G adS;obtain⟨K,KX,c⟩:=Y;have HV:mg ("law":PySem.Str)=some (.ref fa):=by
   have e:(HandSHeadRun.topDef (OpenLaw.row PySem.Challenge.rw_waysagree_k30_parts_and_names_of_plans).prog 44).name=("law":PySem.Str):=by kernel_rfl
   rw[<-e];exact adS
  obtain⟨fd,hb,hF⟩:=K30.end_ adR KX G HV c;exact⟨K,KX,fd,[],Z.Fs K,by simp,by simp,by simp,hb,λH a ns hl _ _ ef=>⟨a,ns,rfl,ef,hl,λ_=>rfl⟩,λbase h1 h2 _=>hF base h1 h2⟩
end
namespace K30
open PySem PySem.Spec L2 Z ZM
section
variable{S ah:Store}{g fe:aQ}{sl:aJ}{P:af}{cs:List Int}{i j n:Nat}
abbrev vv:aK:=rO [("Ratio",["Ratio"],[])]
theorem adT{b:Rat->Prop}:yq vv b aU:=λr S _=>cv (by simp[aU,jR])
theorem adU(off:Nat):kA off=CF vv off:=rfl
theorem adV:vd=Iq vv:=rfl
abbrev PA(P:af):Prop:=IA vv (ZJ.iW 6 24) aU P
theorem adW(h:P.ok (ZJ.iW 6 24))(hs:P.size<=40)(hd:P.dep<=8):PA P:=⟨vb,adT,h,hs,hd⟩
theorem Ro(h:Cl S)(bL:Drawn n cs S ah):Cl ah:=by
 obtain⟨_,a,g,s,rfl⟩:=bL;intro m hm k;rcases List.mem_or_eq_of_mem_set hm with hm|rfl
 .exact h m hm k
 .exact A0 _ _ _ _ _
theorem Rp(A:PA P)(d5:Cl S)(bY:List Nat×af->D)(h:sl[i]?=some (some (P.dat aU)))(aI:∀p,a6 0 (bY p)=true)
  (adX:∀p∈af.pre [] P,∀T,fe ((cD sl [j]).set j (some (bf aU p))) T=.ok (bY p) T):cP (ZG.lj (kA 1 (aj (ai i) aq)) (aV j) dA fe [j]) sl S=.ok (.lst ((af.pre [] P).map bY)) S:=by
 rw[adU];obtain⟨aY,ao,e2⟩:=Z.kA (S:=S) (S1:=S) (off:=1) (sl:=sl) (fa:=aj (ai i) aq) A (cy (bD h) c');have hlen:=af.lx [] P;have dj:=A.sz;rw[aa6 (λ_=>true) bY ao d5.ok (λk hk=>by rw[e2 k hk];exact yr vb) (by omega) (λa _=>aI a) (λa ha T=>⟨_,rfl,rfl,λ_=>adX a ha T⟩),List.filter_eq_self.mpr λa _=>rfl]
theorem adY{p:List Nat×af}{T:Store}(h:sl[i]?=some (some (bf aU p))):az jar (aj (ay a4 (ai i) (au (.int 0))) (aj (ay a4 (ai i) (au (.int 1))) aq)) sl T=.ok (bf aU p) T :=
 qg (cy (gA (bD h) rfl (cv (by simp[bf];rfl))) (cy (gA (bD h) rfl (cv (by simp[bf]))) c')) (by simp)
theorem Jw{p:List Nat×af}{T:Store}(h:sl[i]?=some (some (bf aU p)))(hp:p.1.length<=1000):az cU (aj (ay a4 (ai i) (au (.int 0))) aq) sl T=.ok (iX p.1.length) T :=
 hU (cy (gA (bD h) rfl (e:=.int 0) (r:=c0 p.1) (S1:=T) (S2:=T) (cv (by simp[bf]))) c') (cv (by simp[c0];rfl))
theorem adZ(A:PA P)(d5:Cl S):∃q:List D,(∀k,a9 k q=true)/\vg [P.dat aU] S=.ok (.ptr S.length) (S++[.lst (P.names.map aP),.lst q]):=by
 suffices h:We (vg [P.dat aU] S) (λd ah=>∃q:List D,(∀k,a9 k q=true)/\d=.ptr S.length/\ah=S++[.lst (P.names.map aP),.lst q]) (λ_ _=>False)by
  obtain⟨d,ah,e,q,h1,rfl,rfl⟩:=h.get;exact⟨q,h1,e⟩
 unfold vg;refine Mi rfl ?_;show aR (yp vv ([some (P.dat aU)]++List.replicate 3 none) S) _;unfold yp;refine c5 (λsl S1=>sl=[some (P.dat aU),some (.ptr S.length),none,none]/\S1=S++[.lst []]) (by simp) ?_;rintro sl S1 ⟨rfl,rfl⟩;obtain⟨aY,ao,e2⟩:=Z.kA (S:=S++[.lst []]) (off:=0) (sl:=[some (P.dat aU),some (.ptr S.length),none,none]) (fa:=aj (ai 0) aq) A (cy (bD (i:=0) rfl) c');rw[show(S++[dx.lst []]).length+0=S.length+1 by simp]at ao;have hlen:=af.lx [] P;have dj:=A.sz;have lz:∀j,j<=(af.pre [] P).length->a9 0 (aY j)=true:=λj bH=>by rw[e2 j bH];exact yr A.aI
 refine c5 (λsl S1=>(∃x2 cq,sl=[some (P.dat aU),some (.ptr S.length),x2,cq])/\∃q:List D,(∀k,a9 k q=true)/\S1=S++[.lst (P.names.map aP),.lst q]) ?_ ?_
 .refine ZG.HY ao (λpre sl S1=>(∃x2 cq,sl=[some (P.dat aU),some (.ptr S.length),x2,cq])/\S1=jw S ((pre.foldl iZ []).map aP) pre.length aY) ⟨⟨none,none,rfl⟩,rfl⟩ ?_ ?_
  .rintro pre ⟨s,p⟩ post sl S1 he ⟨⟨x2,cq,rfl⟩,rfl⟩
   have d8:pre.length<(af.pre [] P).length:=by rw[he];simp
   refine⟨u' d5.ok qC λj bH=>lz j (by omega),?_⟩;rw[va];have hl:=CM pre [];simp only[nO,vy]at hl;show aR (SO.nx [some (P.dat aU),some (.ptr S.length),some (c0 s),some (p.dat aU)] _) _;rw[ji];refine Qg (n:=S.length) (acc:=pre.foldl iZ []) (s:=s) (p:=p) (IE rfl) (by omega) ⟨⟨_,_,rfl⟩,?_⟩;rw[Ds,List.length_append];simp[jw]
  .rintro sl S1 ⟨⟨x2,cq,rfl⟩,rfl⟩
   refine⟨u' d5.ok qC λj bH=>lz j (by omega),?_⟩;show aR (SO.nx _ (ZG.ej _ _ _ _)) _;rw[ji,va];exact⟨⟨_,_,rfl⟩,aY (af.pre [] P).length,λk=>AI (lz _ (dE _)),rfl⟩
 .rintro sl S1 ⟨⟨x2,cq,rfl⟩,q,hq,rfl⟩
  simp;exact hq
end
section
variable{S ah:Store}{f g:aQ}{sl:aJ}{P:af}{i j n:Nat}
abbrev eX(z0 gL d9 w8 ad0 ad1 ad2 ad3 ad4 ad5 ad6 ad7 ad8 s6 ad9:Option D):aJ:=[z0,gL,d9,w8,ad0,ad1,ad2,ad3,ad4,ad5,ad6,ad7,ad8,s6,ad9]
theorem rV{xs:List D}{k:Nat}(h:∀x∈xs,plain k x)(hk:k<=10)(hl:xs.length<=1000)(h1:f sl S=.ok (.lst xs) S)(h2:g sl S=.ok (.lst xs) S):gH (a5 (az oz (aj f (aj g aq)))) sl S=.ok false S :=
 aay (b:=true) (H_ (hU (cy h1 (cy h2 c')) (XG h hk hl)))
def kF(l:List (List Nat×af)):List D:=l.flatMap λp=>[.int 0,iX p.1.length]
theorem aea{ty:Store->D->Bool}{g:lQ}{fo:aQ}{fs:c1}{d r:D}{ds:List D}{S1 S2 aX:Store}(h:fo sl S=.ok d S1)(hd:fs sl S1=.ok ds S2)(ht:ty S1 d=true)(h2:g d ds S2=.ok r aX):fj ty g fo fs sl S=.ok r aX:=cv (by
 rw[LO,h,cI,if_pos ht,hd,cI,h2,cI];exact⟨rfl,rfl⟩)
theorem aeb{l:List (List Nat)}{k:Nat}(h1:sl[i]?=some (some (.lst (l.map aP))))(h2:sl[j]?=some (some (.int (0+(k:Int))))):iJ false (ai i) hP (hQ (ai j)) sl S=.ok (.lst ((l.take k).map aP)) S:=cv (by
 rw[FE,bD h1,cI,FC,FD,bD h2,cI];refine⟨_,rfl,?_⟩;rw[Int.zero_add,FT,AU,cI,List.map_take];exact⟨rfl,rfl⟩)
theorem Rq{fl:og}{lo:Option Int}{xs:List D}{k:Int}(h:f sl S=.ok (.lst xs) S)(hl:fl sl S=.ok lo S):xX f fl k sl S=.ok (.lst (oX xs lo k)) S:=by
 unfold xX;rw[h,kd,hl,kd];rfl
theorem aec{x:D}{m:Nat}(h1:f sl S=.ok (.lst [x]) S)(h2:g sl S=.ok (.int (m:Int)) S)(hm:m<=1000):ay e1 f g sl S=.ok (.lst (List.replicate m x)) S:=gA h1 h2 (by
 have e:e1 (.lst [x]) (.int (m:Int)) S=wC (.lst [x]) (.int (m:Int)) S:=e3 (by rfl);rw[e];unfold wC;simp only[w6];rw[if_pos ⟨by omega,by simp;omega,by omega⟩,Int.toNat_natCast];have:zZ m [x]=List.replicate m x:=by simp[zZ]
 rw[this])
def lB(S:Store)(aY:Nat->List D):Nat->Store
 |0=>S
 |i+1=>S++[.lst (aY i)]
theorem Jx{aY:Nat->List D}(d5:Cl S)(hq:∀j,j<i->a9 0 (aY j)=true):Cl (lB S aY i):=by
 cases i with
 |zero=>exact d5
 |succ i =>
  refine d5.app λm hm k=>?_;rw[pk.mp hm];exact AI (hq i (mL i))
theorem Rr{aY:Nat->List D}(d5:Cl S)(hq:∀j,j<i->a9 0 (aY j)=true):ZG.kx (S.length+0) aY i (lB S aY i):=by
 refine⟨(Jx d5 hq).ok,λh=>?_,λh=>?_⟩
 .subst h;rfl
 .obtain⟨j,rfl⟩:∃j,i=j+1:=⟨i - 1,by omega⟩
  simp[lB]
theorem Ru{aY:Nat->List D}:ZG.ej (S.length+0) aY i (lB S aY i)=S++[.lst (aY i)]:=by
 cases i with
 |zero=>simp[ZG.ej,lB]
 |succ i=>simp[ZG.ej,lB]
theorem aed(P:af):∃r,af.pre [] P=([],P)::r:=by
 cases P;exact⟨_,by rw[af.pre]⟩
theorem aee{a b:List (List Nat×af)}:kF (a++b)=kF a++kF b:=by
 unfold kF;rw[List.flatMap_append]
theorem Rw{a:List (List Nat×af)}:(kF a).length=2 * a.length:=IK a
theorem aef(ns:List Int):We (cN 15 pa [.bI ns] []) (λd S=>d=.bl true) (λ_ _=>False):=by
 rw[FG];unfold pa;refine c5 (λsl S1=>S1=[ft (ns.take 63) 0 0 5625]/\∃x2 cq cR dZ du d0 dC hu iz eB gF eM eo,sl=eX (some (.bI ns)) (some (.ptr 0)) x2 cq cR dZ du d0 dC hu iz eB gF eM eo) ?_ ?_
 .rw[t9,ox,ke,Ux]
  refine⟨_,rfl,?_⟩;rw[ua];refine Vc ns ?_;rw[m'];exact⟨rfl,_,_,_,_,_,_,_,_,_,_,_,_,_,rfl⟩
 rintro sl S1 ⟨rfl,Lg,aiF,aiG,tK,aiH,B7,aiI,o4,aiJ,aiK,aiL,aiM,aiN,rfl⟩;have FW:=Vd ns;have Rx:Cl [ft (ns.take 63) 0 0 5625]:=λm hm k=>by
  rw[List.mem_singleton]at hm;subst hm;exact A0 _ _ _ _ _
 generalize [ft (ns.take 63) 0 0 5625]=S0 at FW Rx;refine c5 (λsl S1=>(fZ S1 0 (ns.take 63)/\Cl S1)/\∃l:List (List Nat),l.length=4/\(∀x∈l,nG x)/\∃cq cR dZ du d0 dC hu iz eB gF eM eo,sl=eX (some (.bI ns)) (some (.ptr 0)) (some (.lst (l.map aP))) cq cR dZ du d0 dC hu iz eB gF eM eo) ?_ ?_
 .rw[t9,ox,cy (bD (i:=1) rfl) (cy rfl c'),cI]
  refine(abo (many:=4) (by decide)).gx FW λd S1 ⟨l,e,h1,h2⟩ bL=>?_;subst e;rw[m'];exact⟨⟨bL.1,Ro Rx bL⟩,l,h1,h2,_,_,_,_,_,_,_,_,_,_,_,_,rfl⟩
 rintro sl S1 ⟨aeg,l,aeh,aei,aiO,aiP,aiQ,aiR,aiS,aiT,aiU,aiV,aiW,aiX,aiY,aiZ,rfl⟩;refine c5 (λsl S2=>True) ?_ ?_
 .refine O8 (l:=List.range 8) (row:=fun(j:Nat)=>.int ((0:Int)+(j:Int))) (Bw (k:=8) rfl (by decide)) (λpre sl S2=>(fZ S2 0 (ns.take 63)/\Cl S2)/\∃cq cR dZ du d0 dC hu iz eB gF eM eo,sl=eX (some (.bI ns)) (some (.ptr 0)) (some (.lst (l.map aP))) cq cR dZ du d0 dC hu iz eB gF eM eo) ⟨aeg,_,_,_,_,_,_,_,_,_,_,_,_,rfl⟩ ?_ ?_
  .rintro pre i post sl S2 ai0 ⟨⟨z5,Ry⟩,cq,cR,dZ,du,d0,dC,hu,iz,eB,gF,eM,eo,rfl⟩
   refine⟨trivial,?_⟩;rw[m'];generalize D.int ((0:Int)+(i:Int))=tt;show aR (a' _ _ (eX (some (.bI ns)) (some (.ptr 0)) (some (.lst (l.map aP))) (some tt) cR dZ du d0 dC hu iz eB gF eM eo) _) _;refine c5 (λsl aX=>(fZ aX 0 (ns.take 63)/\Cl aX)/\∃P:af,P.ok (ZJ.iW 6 24)/\P.size<=25/\P.dep<=8/\sl=eX (some (.bI ns)) (some (.ptr 0)) (some (.lst (l.map aP))) (some tt) (some (P.dat cV)) dZ du d0 dC hu iz eB gF eM eo) ?_ ?_
   .rw[t9,ox,ke,bD (i:=1) rfl,cI,ke,FE,bD (i:=2) rfl,cI,FC,FD,AB,t_,ox,cy (bD (i:=1) rfl) (cy rfl c'),cI]
    refine(lX (many:=4) (by decide) (by decide)).gx z5 λd aX ⟨a,ha,e⟩ lr=>?_;subst e;have ao:cZ (.int 1) (.int (a:Int)) aX=.ok (.int ((1+a:Nat):Int)) aX:=cv (by simp);rw[ao,cI];refine⟨_,rfl,?_⟩;have e2:oe false (.lst (l.map aP)) none (some ((1+a:Nat):Int)) aX=.ok (.lst ((l.take (1+a)).map aP)) aX:=by
     rw[FT,AU,List.map_take]
    rw[e2,cI,ke,AB,t_,ox,cy (bD (i:=1) rfl) (cy rfl c'),cI];refine(lX (many:=8) (by decide) (by decide)).gx lr.1 λd bV ⟨r,hr,e⟩ sQ=>?_;subst e;have bu:cZ (.int 1) (.int (r:Int)) bV=.ok (.int ((1+r:Nat):Int)) bV:=cv (by simp);rw[bu,cI,ua];refine(Qo (names:=l.take (1+a)) (by
     intro h;have:=congrArg List.length h;rw[List.length_take,aeh,nO]at this;omega) (λx hx=>aei x (List.mem_of_mem_take hx)) (by simp;omega) 9 (1+r) (by omega) (by decide) (by omega)).gx sQ.1 λd cY ⟨P,e,h1,h2,aH⟩ nI=>?_
    subst e;rw[m'];have bL:=(lr.trans sQ).trans nI;exact⟨⟨bL.1,Ro Ry bL⟩,P,h1,by omega,by omega,rfl⟩
   clear z5 Ry;rintro sl aX ⟨⟨Rz,vw⟩,P,hok,dj,nA,rfl⟩;have A:PA P:=adW hok (by omega) (by omega);refine c5 (λsl bV=>bV=aX/\sl=eX (some (.bI ns)) (some (.ptr 0)) (some (.lst (l.map aP))) (some tt) (some (P.dat cV)) (some (P.dat aU)) du d0 dC hu iz eB gF eM eo) (k8 (hU (cy (bD (i:=4) rfl) c') (aa8 (L:=60) (λr hr=>by
    obtain⟨h1,h2⟩:=ZJ.iW.size hr (by decide);exact yc.of (nN h1 (by decide)) (nN h2 (by decide))) (by decide) P 9 hok (by omega) aX)) ⟨rfl,rfl⟩) ?_
   rintro sl bV ⟨rfl,rfl⟩;refine c5 (λsl cY=>cY=bV/\sl=eX (some (.bI ns)) (some (.ptr 0)) (some (.lst (l.map aP))) (some tt) (some (P.dat cV)) (some (P.dat aU)) (some (.lst ((af.pre [] P).map (bf aU)))) d0 dC hu iz eB gF eM eo) (k8 (hU (cy (bD (i:=5) rfl) (cy (qg c' (by simp)) c')) (Qj vb P 9 [] hok (by omega) (by omega) (by simp;omega) bV)) ⟨rfl,rfl⟩) ?_;rintro sl cY ⟨rfl,rfl⟩;refine c5 (λsl jg=>jg=cY/\sl=eX (some (.bI ns)) (some (.ptr 0)) (some (.lst (l.map aP))) (some tt) (some (P.dat cV)) (some (P.dat aU)) (some (.lst ((af.pre [] P).map (bf aU)))) (some (.lst ((af.pre [] P).map (bf aU)))) dC hu iz eB gF eM eo) (k8 (Rp (i:=5) A vw (bf aU) rfl (λp=>ym vb p 0) (λp hp T=>adY (i:=8) rfl)) ⟨rfl,rfl⟩) ?_;rintro sl jg ⟨rfl,rfl⟩;have hlen:=af.lx [] P;have RA:=af.CA P [] hok;have d8:∀p∈af.pre [] P,p.1.length<=8:=λp hp=>by
    have:=(RA p hp).2;simp at this;omega
   have E4:∀x∈(af.pre [] P).map (λp=>c0 p.1),plain 1 x:=λx hx=>by
    obtain⟨p,hp,rfl⟩:=List.mem_map.mp hx;have:=d8 p hp;refine⟨rF.mpr λy aW=>?_,by simp;omega⟩;obtain⟨a,_,rfl⟩:=List.mem_map.mp aW;exact FY
   have Jy:∀k,(eX (some (.bI ns)) (some (.ptr 0)) (some (.lst (l.map aP))) (some tt) (some (P.dat cV)) (some (P.dat aU)) (some (.lst ((af.pre [] P).map (bf aU)))) (some (.lst ((af.pre [] P).map (bf aU)))) dC hu iz eB gF eM eo)[k]?=some (some (.lst ((af.pre [] P).map (bf aU))))->cP (cO (hS (ai k)) (aV 8) dA (ay a4 (ai 8) (au (.int 0))) [8]) (eX (some (.bI ns)) (some (.ptr 0)) (some (.lst (l.map aP))) (some tt) (some (P.dat cV)) (some (P.dat aU)) (some (.lst ((af.pre [] P).map (bf aU)))) (some (.lst ((af.pre [] P).map (bf aU)))) dC hu iz eB gF eM eo) jg=.ok (.lst ((af.pre [] P).map (λp=>c0 p.1))) jg:=λk hk =>
    sA (l:=af.pre [] P) (row:=bf aU) (λp=>c0 p.1) (ud (bD hk) (lW _)) (by omega) (λacc=>lW _) (λp hp acc=>⟨_,rfl,gA (bD (i:=8) rfl) rfl (cv (by simp[bf]))⟩) (λp hp=>PH _)
   refine c5 (λsl fC=>fC=jg/\sl=eX (some (.bI ns)) (some (.ptr 0)) (some (.lst (l.map aP))) (some tt) (some (P.dat cV)) (some (P.dat aU)) (some (.lst ((af.pre [] P).map (bf aU)))) (some (.lst ((af.pre [] P).map (bf aU)))) dC hu iz eB gF eM eo) (sE (Pr (H_ (gA (bD (i:=7) rfl) (bD (i:=6) rfl) ?_)) (rV E4 (by decide) (by simp;omega) (Jy 7 rfl) (Jy 6 rfl))) (sF ⟨rfl,rfl⟩)) ?_
   .exact abx (neg:=true) λx hx=>by
     obtain⟨p,hp,rfl⟩:=List.mem_map.mp hx;have:=(RA p hp).2;simp at this;exact abw (by omega)
   rintro sl fC ⟨rfl,rfl⟩;clear Jy;have ai1:=P.abB;have Bq:=P.abC;have aej:∀x∈P.names.map aP,plain 0 x:=λx hx=>by
    obtain⟨y,aW,rfl⟩:=List.mem_map.mp hx;exact(P.Qs hok y aW).ok
   have aek:∀k,plain (k+1) (.lst (P.names.map aP)):=λk=>⟨rF.mpr λx hx=>by
    obtain⟨y,aW,rfl⟩:=List.mem_map.mp hx;exact Mp▸(P.Qs hok y aW).ok,by simp;omega⟩
   refine c5 (λsl kz=>kz=fC/\sl=eX (some (.bI ns)) (some (.ptr 0)) (some (.lst (l.map aP))) (some tt) (some (P.dat cV)) (some (P.dat aU)) (some (.lst ((af.pre [] P).map (bf aU)))) (some (.lst ((af.pre [] P).map (bf aU)))) dC (some (.lst (P.goes.map aP))) iz eB gF eM eo) (k8 (hU (cy (bD (i:=4) rfl) c') (abl sP hok (by omega) (by omega))) ⟨rfl,rfl⟩) ?_;rintro sl kz ⟨rfl,rfl⟩;have RB:cP (cO (kb (aj (az cU (aj (ai 9) aq)) aq)) (aV 11) (a5 (ay ou (ay a4 (ai 9) (ai 11)) (iJ false (ai 9) hP (hQ (ai 11))))) (ay a4 (ai 9) (ai 11)) [11]) (eX (some (.bI ns)) (some (.ptr 0)) (some (.lst (l.map aP))) (some tt) (some (P.dat cV)) (some (P.dat aU)) (some (.lst ((af.pre [] P).map (bf aU)))) (some (.lst ((af.pre [] P).map (bf aU)))) dC (some (.lst (P.goes.map aP))) iz eB gF eM eo) kz=.ok (.lst (P.names.map aP)) kz:=by
    rw[HS (l:=List.range P.goes.length) (row:=fun(i:Nat)=>D.int (0+(i:Int))) (λk => !decide (P.goes.getD k []∈P.goes.take k)) (λk=>aP (P.goes.getD k [])) (Bw (k:=P.goes.length) (hU (cy (bD (i:=9) rfl) c') (cv (by simp))) (by omega)) (by simp;omega) (λacc=>trivial) (λk hk acc=>?_) (λk hk _=>rfl)]
    .rw[af.yt,<-abk,s8]
     rfl
    .have rE:k<P.goes.length:=List.mem_range.mp hk
     refine⟨eX (some (.bI ns)) (some (.ptr 0)) (some (.lst (l.map aP))) (some tt) (some (P.dat cV)) (some (P.dat aU)) (some (.lst ((af.pre [] P).map (bf aU)))) (some (.lst ((af.pre [] P).map (bf aU)))) dC (some (.lst (P.goes.map aP))) iz (some (.int (0+(k:Int)))) gF eM eo,rfl,?_,λ_=>?_⟩
     .refine H_ (gA (S:=kz++[.lst acc]) (S1:=kz++[.lst acc]) (d:=aP (P.goes.getD k [])) (gA (bD (i:=9) rfl) (bD (i:=11) rfl) (cv ?_)) (aeb (i:=9) (j:=11) (k:=k) rfl rfl) ?_)
      .simp[rE]
      .rw[L7 (xs:=(P.goes.take k).map aP) rfl rfl Qe]
       rw[Iz]
     .refine gA (bD (i:=9) rfl) (bD (i:=11) rfl) (cv ?_)
      simp[rE]
   refine c5 (λsl nF=>nF=kz/\sl=eX (some (.bI ns)) (some (.ptr 0)) (some (.lst (l.map aP))) (some tt) (some (P.dat cV)) (some (P.dat aU)) (some (.lst ((af.pre [] P).map (bf aU)))) (some (.lst ((af.pre [] P).map (bf aU)))) dC (some (.lst (P.goes.map aP))) (some (.lst (P.names.map aP))) eB gF eM eo) (k8 RB ⟨rfl,rfl⟩) ?_;rintro sl nF ⟨rfl,rfl⟩;clear RB;have RD:∀{i:Nat} {sl:aJ} {T:Store},Cl T->sl[i]?=some (some (P.dat aU))->az vd (aj (ai i) aq) sl T=.ok (.lst (P.names.map aP)) T:=λd_ hi=>hU (cy (bD hi) c') (by rw[adV];exact yt A d_.ok);refine c5 (λsl C'=>C'=nF/\sl=eX (some (.bI ns)) (some (.ptr 0)) (some (.lst (l.map aP))) (some tt) (some (P.dat cV)) (some (P.dat aU)) (some (.lst ((af.pre [] P).map (bf aU)))) (some (.lst ((af.pre [] P).map (bf aU)))) dC (some (.lst (P.goes.map aP))) (some (.lst (P.names.map aP))) eB gF eM eo) (sE (rV (xs:=[.lst (P.names.map aP),.lst (P.names.map aP)]) (k:=2) (λx hx=>by
    simp only[List.mem_cons,List.not_mem_nil,or_false]at hx;rcases hx with rfl|rfl<;>exact aek 1) (by decide) (by simp) (uG (cy (RD vw rfl) (cy ?_ c')) (by simp)) (uG (cy (bD (i:=10) rfl) (cy (bD (i:=10) rfl) c')) (by simp))) (sF ⟨rfl,rfl⟩)) ?_
   .refine cv ?_
    rw[Wr,ua,ke,bD (i:=5) rfl,cI,ua];refine⟨⟨rfl,rfl⟩,?_⟩;have e:vf [P.dat aU] nF=.ok (.lst (P.names.map aP)) nF:=by
     unfold vf;rw[Wt (n:=0) (m:=1) (N:=1) (ds:=[P.dat aU]) ⟨rfl,rfl⟩];exact yt (isr:=vv) A vw.ok
    show We (vf [P.dat aU] nF) _ _;rw[e,cI];exact⟨rfl,rfl⟩
   rintro sl C' ⟨rfl,rfl⟩;obtain⟨q,hq,RE⟩:=adZ A vw;refine c5 (λsl Dc=>(fZ Dc 0 (ns.take 63)/\Cl Dc)/\sl=eX (some (.bI ns)) (some (.ptr 0)) (some (.lst (l.map aP))) (some tt) (some (P.dat cV)) (some (P.dat aU)) (some (.lst ((af.pre [] P).map (bf aU)))) (some (.lst ((af.pre [] P).map (bf aU)))) dC (some (.lst (P.goes.map aP))) (some (.lst (P.names.map aP))) eB gF eM eo) ?_ ?_
   .have hg:(C'++[dx.lst (P.names.map aP),.lst q])[C'.length]?=some (.lst (P.names.map aP)):=IE rfl
    refine CI (aea (hU (cy (bD (i:=5) rfl) c') RE) (cy rfl c') (A4 hg) (Mb hg (by simp;omega))) ⟨⟨?_,?_⟩,rfl⟩
    .rw[List.set_append_right _ _ (dE _)]
     exact Rz.app
    .rw[List.set_append_right _ _ (dE _),vC]
     refine vw.app λm hm k=>?_;simp only[List.set_cons_zero,List.mem_cons,List.not_mem_nil,or_false]at hm;rcases hm with rfl|rfl
     .show a9 k _=true
      rw[FI,qC];rfl
     .exact hq k
   clear RE hq q Rz vw;rintro sl Dc ⟨⟨ael,y2⟩,rfl⟩;refine c5 (λsl Jz=>Jz=Dc/\sl=eX (some (.bI ns)) (some (.ptr 0)) (some (.lst (l.map aP))) (some tt) (some (P.dat cV)) (some (P.dat aU)) (some (.lst ((af.pre [] P).map (bf aU)))) (some (.lst ((af.pre [] P).map (bf aU)))) dC (some (.lst (P.goes.map aP))) (some (.lst (P.names.map aP))) eB gF eM eo) (sE (rV (k:=0) aej (by decide) (by simp;omega) (RD y2 rfl) (bD (i:=10) rfl)) (sF ⟨rfl,rfl⟩)) ?_;rintro sl Jz ⟨rfl,rfl⟩;refine c5 (λsl nK=>nK=Jz/\sl=eX (some (.bI ns)) (some (.ptr 0)) (some (.lst (l.map aP))) (some tt) (some (P.dat cV)) (some (P.dat aU)) (some (.lst ((af.pre [] P).map (bf aU)))) (some (.lst ((af.pre [] P).map (bf aU)))) dC (some (.lst (P.goes.map aP))) (some (.lst (P.names.map aP))) eB (some (.lst [])) eM eo) (k8 (uG c' (by simp)) ⟨rfl,rfl⟩) ?_;rintro sl nK ⟨rfl,rfl⟩;refine c5 (λsl mI=>(fZ mI 0 (ns.take 63)/\Cl mI)/\∃eM,sl=eX (some (.bI ns)) (some (.ptr 0)) (some (.lst (l.map aP))) (some tt) (some (P.dat cV)) (some (P.dat aU)) (some (.lst ((af.pre [] P).map (bf aU)))) (some (.lst ((af.pre [] P).map (bf aU)))) dC (some (.lst (P.goes.map aP))) (some (.lst (P.names.map aP))) eB (some (.lst (kF (af.pre [] P)))) eM eo) ?_ ?_
   .obtain⟨aY,ao,e2⟩:=Z.kA (S:=nK) (S1:=nK) (off:=0) (sl:=eX (some (.bI ns)) (some (.ptr 0)) (some (.lst (l.map aP))) (some tt) (some (P.dat cV)) (some (P.dat aU)) (some (.lst ((af.pre [] P).map (bf aU)))) (some (.lst ((af.pre [] P).map (bf aU)))) dC (some (.lst (P.goes.map aP))) (some (.lst (P.names.map aP))) eB (some (.lst [])) eM eo) (fa:=aj (ai 5) aq) A (cy (bD (i:=5) rfl) c')
    refine ZG.HY ao (λpre sl mI=>(∃eM,sl=eX (some (.bI ns)) (some (.ptr 0)) (some (.lst (l.map aP))) (some tt) (some (P.dat cV)) (some (P.dat aU)) (some (.lst ((af.pre [] P).map (bf aU)))) (some (.lst ((af.pre [] P).map (bf aU)))) dC (some (.lst (P.goes.map aP))) (some (.lst (P.names.map aP))) eB (some (.lst (kF pre))) eM eo)/\mI=lB nK aY pre.length) ⟨⟨_,rfl⟩,rfl⟩ ?_ ?_
    .rintro pre p post sl mI he ⟨⟨s6,rfl⟩,rfl⟩
     have abj:pre.length<(af.pre [] P).length:=by rw[he];simp
     have lz:∀j,j<=(af.pre [] P).length->a9 0 (aY j)=true:=λj bH=>by rw[e2 j bH];exact yr A.aI
     refine⟨Rr y2 λj bH=>lz j (by omega),?_⟩;rw[Ru,m'];have aem:Cl (lB nK aY (pre.length+1)):=Jx y2 λj bH=>lz j (by omega);have ai2:=d8 p (by rw[he];simp);have aen:cP (ZG.lj (kA 1 (aj (ai 5) aq)) (aV 14) dA (az cU (aj (ay a4 (ai 14) (au (.int 0))) aq)) [14]) (eX (some (.bI ns)) (some (.ptr 0)) (some (.lst (l.map aP))) (some tt) (some (P.dat cV)) (some (P.dat aU)) (some (.lst ((af.pre [] P).map (bf aU)))) (some (.lst ((af.pre [] P).map (bf aU)))) dC (some (.lst (P.goes.map aP))) (some (.lst (P.names.map aP))) eB (some (.lst (kF pre))) (some (bf aU p)) eo) (lB nK aY (pre.length+1))=.ok (.lst ((af.pre [] P).map λp=>iX p.1.length)) (lB nK aY (pre.length+1)):=Rp (i:=5) (j:=14) A aem (λp=>iX p.1.length) rfl (λp=>rfl) (λp hp T=>Jw (i:=14) rfl (by have:=d8 p hp;omega));obtain⟨r0,aeo⟩:=aed P;have aep:iJ false (cP (ZG.lj (kA 1 (aj (ai 5) aq)) (aV 14) dA (az cU (aj (ay a4 (ai 14) (au (.int 0))) aq)) [14])) hP (hQ (au (.int 1))) (eX (some (.bI ns)) (some (.ptr 0)) (some (.lst (l.map aP))) (some tt) (some (P.dat cV)) (some (P.dat aU)) (some (.lst ((af.pre [] P).map (bf aU)))) (some (.lst ((af.pre [] P).map (bf aU)))) dC (some (.lst (P.goes.map aP))) (some (.lst (P.names.map aP))) eB (some (.lst (kF pre))) (some (bf aU p)) eo) (lB nK aY (pre.length+1))=.ok (.lst [.int 0]) (lB nK aY (pre.length+1)):=cv (by
      rw[FE,aen,cI,FC,FD,t_];refine⟨1,rfl,?_⟩;rw[FT,cI,aeo];exact⟨congrArg D.lst (AU _ 1),rfl⟩)
     refine k8 (O7 (O7 (bD (i:=12) rfl) aep (by rw[Rw];simp;omega)) (uG (cy (Jw (i:=13) rfl (by omega)) c') (by simp)) (by rw[List.length_append,Rw];simp;omega)) ⟨⟨some (bf aU p),?_⟩,?_⟩
     .rw[aee,List.append_assoc]
      rfl
     .rw[List.length_append]
      rfl
    .rintro sl mI ⟨⟨s6,rfl⟩,rfl⟩
     have lz:∀j,j<=(af.pre [] P).length->a9 0 (aY j)=true:=λj bH=>by rw[e2 j bH];exact yr A.aI
     refine⟨Rr y2 λj bH=>lz j (by omega),?_⟩;show aR (SO.nx _ (ZG.ej _ _ _ _)) _;rw[ji,Ru];exact⟨⟨ael.app,Jx (i:=(af.pre [] P).length+1) y2 λj bH=>lz j (by omega)⟩,s6,rfl⟩
   rintro sl mI ⟨aeq,s6,rfl⟩;have hint:∀(bY:List Nat×af->Int),∀x∈(af.pre [] P).map (λp=>D.int (bY p)),plain 0 x:=λbY x hx=>by
    obtain⟨p,_,rfl⟩:=List.mem_map.mp hx;exact FY
   refine sE (Pr (rV (k:=0) (xs:=(af.pre [] P).map λp=>D.int (p.1.length:Int)) (hint λp=>(p.1.length:Int)) (by decide) (by simp;omega) ?_ ?_) (rV (k:=0) (xs:=(af.pre [] P).map λp=>D.int 0) (hint λ_=>0) (by decide) (by simp;omega) ?_ ?_)) (sF ?_)
   .have:=Rq (S:=mI) (k:=2) (lo:=some 1) (fl:=hQ (au (.int 1))) (bD (i:=12) (S:=mI) (sl:=eX (some (.bI ns)) (some (.ptr 0)) (some (.lst (l.map aP))) (some tt) (some (P.dat cV)) (some (P.dat aU)) (some (.lst ((af.pre [] P).map (bf aU)))) (some (.lst ((af.pre [] P).map (bf aU)))) dC (some (.lst (P.goes.map aP))) (some (.lst (P.names.map aP))) eB (some (.lst (kF (af.pre [] P)))) s6 eo) rfl) rfl
    rw[this];unfold kF;rw[abz];rfl
   .exact sA (l:=af.pre [] P) (row:=bf aU) (λp=>iX p.1.length) (ud (bD (i:=6) rfl) (lW _)) (by omega) (λacc=>lW _) (λp hp acc=>⟨_,rfl,Jw (i:=8) rfl (by have:=d8 p hp;omega)⟩) (λp hp=>rfl)
   .have:=Rq (S:=mI) (k:=2) (lo:=none) (fl:=hP) (bD (i:=12) (S:=mI) (sl:=eX (some (.bI ns)) (some (.ptr 0)) (some (.lst (l.map aP))) (some tt) (some (P.dat cV)) (some (P.dat aU)) (some (.lst ((af.pre [] P).map (bf aU)))) (some (.lst ((af.pre [] P).map (bf aU)))) dC (some (.lst (P.goes.map aP))) (some (.lst (P.names.map aP))) eB (some (.lst (kF (af.pre [] P)))) s6 eo) rfl) rfl
    rw[this];unfold kF;rw[aby]
   .rw[aec (m:=(af.pre [] P).length) (uG (cy rfl c') (by simp)) (hU (cy (bD (i:=6) rfl) c') (cv (by simp))) (by omega),List.map_const']
   .exact⟨aeq,_,_,_,_,_,_,_,_,_,_,_,_,rfl⟩
  .rintro sl S2 _
   exact⟨trivial,trivial⟩
 rintro sl S2 _;rw[FA,show ∀sl S,au (.bl true) sl S=.ok (.bl true) S from λ_ _=>rfl,cI,LV];exact LW (S1:=[]) (T:=S2) (fX.refl _) rfl rfl
theorem aer:∀ns:List Int,ns.length<=63->∃S,cN 15 pa [.bI ns] []=.ok (.bl true) S:=λns _=>by
 obtain⟨a,ah,e,rfl⟩:=(aef ns).get;exact⟨ah,e⟩
end
end K30
open PySem PySem.W PySem.Calls PyProof.Rows
theorem PySem.Challenge.cw_waysagree_k30_parts_and_names_of_plans_holds : PySem.Challenge.rw_waysagree_k30_parts_and_names_of_plans.Holds :=
 K30.adQ K30.aer
end
