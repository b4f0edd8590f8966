import PyProof.Rows.All
import Wide.All
import OpenK.AllK
import Wide.FinOn
import HandS.ForMost
import HandS.Exc
import HandS.IsInst
import HandS.Walk
import HandS.Star
import HandS.CallSlots
import HandS.Lambda
import KE.KDflt
import KE.KDictKeyed
import HandS.ExcOwn
import HandS.ExcCtx
import HandS.HotCalls
import HandS.RaiseFrom
import HandS.SuiteRaise
import HandS.WordsExc
import HandS.Property
import HandS.Wide
import HandS.TupAny
import HandS.TupMul
import HandS.WordsDict
import HandS.Zip
import HandS.Rev
import KE.GoesMore
import KE.GoesZip
import KE.GoesEnum
import HandS.Small
import HandS.StrMore
import HandS.Comp
import HandS.Iter
import KE.SortData
import KE.KDictSum
import PyProof.CollectStr
import HandS.More
import KE.KExcSuper
import HandS.ExcInit
import HandS.ExcIs
import HandS.TryMany
import KE.KTryMore
import HandS.ExcField
import HandS.Style
import HandS.SetKeys
import HandS.TupSets
import KE.KOpsOwn
import HandS.FStr
import HandS.Defaults
import HandS.MakeKw
import HandS.NoneIn
import HandS.EndTab
import KE.KNestM
import HandS.SetFor
import HandS.SetTxt0
import HandS.Strs
import KE.DataMinMax
import PyProof.ListStr
import HandS.Codes
import HandS.HeadNt
import HandS.HeadHook4
import HandS.HeadWalk
import HandS.HeadEnd
import HandS.Head2
import HandS.MethStar
import PyProof.SliceStr2
import HandS.New0
import PyProof.Rows.SetFrom
import HandS.Deep
import KE.KDictPairs
import PyProof.StrBlock2
import HandS.ExcInitHot
import HandS.Text
import HandS.ClsMeth
import HandS.Conv
import HandS.DictComp
import HandS.MakeKwOnly
import HandS.OwnEq
import PyProof.NeKinds
import HandS.GenOver
import HandS.Base
import HandS.GenBody
import PyProof.GenComp
import PyProof.ForAny
import HandS.GenList
import HandS.GenCall
import HandS.SortKw
import PyProof.WalkInts
import KE.GoesComp
import PyProof.StrWalks
import PySem.Challenge.RW_waysagree_k31_whole_texts_of_plans
abbrev c1:=@List.map_cons
abbrev dy:=@PySem.W.mg_of
abbrev e1:=@List.length_eq_zero_iff
abbrev fq:=@Option.map_eq_some_iff
abbrev fR:=@List.size_toArray
abbrev g6:=@List.mem_cons
abbrev hJ:=@Nat.zero_le
abbrev hL:=@List.mem_map
abbrev hM:=@PyProof.Rows.boot_isinstance
abbrev hZ:=@Nat.ne_of_lt
abbrev h3:=@PySem.boot_len
abbrev iz:=@List.getElem?_eq_getElem
abbrev iZ:=@List.mem_cons_of_mem
abbrev jq:=@Ne.symm
abbrev jr:=@Nat.lt_of_lt_of_le
abbrev js:=@Nat.le_of_lt
abbrev jH:=@List.drop_suffix
abbrev j8:=@Bool.false_ne_true
abbrev j9:=@List.not_mem_nil
abbrev j_:=@List.length_eq_one_iff
abbrev j':=@PySem.W.mg_none_of
abbrev kZ:=@Nat.lt_irrefl
abbrev lH:=@PyProof.Rows.boot_int
abbrev mD:=@List.mem_append
abbrev mE:=@List.getElem?_set_self
abbrev mF:=@Nat.lt_of_le_of_lt
abbrev mG:=@List.map_map
abbrev mH:=@List.length_nil
abbrev nT:=@List.mem_of_getElem?
abbrev oY:=@Nat.lt_trans
abbrev oZ:=@List.mem_append_left
abbrev o1:=@PyProof.Rows.boot_str
abbrev qd:=@List.getElem?_set_ne
abbrev qe:=@Nat.lt_succ_self
abbrev qf:=@List.map_nil
abbrev qg:=@Nat.ne_of_gt
abbrev qh:=@PySem.mem_of_lookup
abbrev qi:=@Bool.not_false
abbrev rV:=@List.mem_singleton
abbrev rW:=@PySem.W.callWith_K
abbrev rX:=@List.filterMap_cons
abbrev rY:=@Option.map_some
abbrev rZ:=@Bool.not_true
abbrev r3:=@List.set_set
abbrev uc:=@List.getElem?_append_left
abbrev ud:=@List.nodup_cons
abbrev uf:=@List.mem_cons_self
abbrev ug:=@List.append_nil
abbrev uh:=@Bool.false_eq_true
abbrev ui:=@Int.natAbs_natCast
abbrev uj:=@PyProof.Rows.boot_tuple
abbrev wQ:=@List.getElem_mem
abbrev wR:=@Nat.mul_le_mul_left
abbrev wU:=@List.mem_append_right
abbrev wV:=@List.drop_eq_getElem_cons
abbrev wW:=@List.append_assoc
abbrev wX:=@Nat.mul_le_mul
abbrev wY:=@List.nil_append
abbrev wZ:=@PyProof.Rows.boot_list
abbrev w0:=@PySem.F.excBase_ValueError
abbrev w1:=@PySem.F.store_ValueError
abbrev y3:=@List.set_getElem_self
abbrev y4:=@List.of_mem_zip
abbrev y5:=@List.mem_filterMap
abbrev y6:=@List.sum_cons
abbrev y7:=@PyProof.Rows.boot_abs
abbrev Df:=@List.zip_cons_cons
abbrev Dg:=@Int.neg_ediv_of_dvd
abbrev Dh:=@Array.getElem?_setIfInBounds
abbrev Di:=@Array.getElem?_push
abbrev Dj:=@List.drop_of_length_le
abbrev Dk:=@Bool.true_and
abbrev Dl:=@PySem.F.plainAttrs_str
abbrev HG:=@List.getElem_cons_drop
abbrev HI:=@List.getElem?_cons_succ
abbrev HJ:=@PySem.W.methodCall_KW
abbrev HK:=@Nat.add_le_add_left
abbrev HL:=@List.getElem?_cons_zero
abbrev HM:=@List.filter_eq_self
abbrev HP:=@Int.emod_lt_of_pos
abbrev HQ:=@List.set_append_left
abbrev HR:=@List.reverse_cons
abbrev HS:=@Nat.mul_le_mul_right
abbrev HU:=@Array.mem_of_getElem?
abbrev HV:=@Rat.num_divInt_den
abbrev HW:=@Rat.divInt_eq_divInt_iff
abbrev HX:=@PySem.F.slot_str_join
abbrev HY:=@PySem.F.type_str_join
abbrev HZ:=@PyProof.Rows.boot_bool
abbrev H0:=@PyProof.Rows.boot_all
abbrev H2:=@PySem.W.kxs_ValueError
noncomputable section
set_option Elab.async false
set_option linter.all false
set_option maxRecDepth 100000
set_option maxHeartbeats 4000000
namespace Z
open PySem PySem.Spec L2
def Px(K:PySem.W.Frag)(D:Addr):Bool :=
 decide (PySem.W.findIn K (.ref D) "__getattribute__"=some (some (.builtin "BaseException.__getattribute__")))&&(decide (PySem.W.findIn K (.ref D) "__getattr__"=some none)&&(decide (PySem.W.subIn K (.ref D) (.type "BaseException")=some true)&&(PySem.W.hasDictIn K D &&
 (decide (PySem.W.findIn K (.ref D) "__class__"=some (some (.builtin "object.__class__")))&&decide (PySem.W.mroIn K D (.type "object")=some true)))))
def r4(K:PySem.W.Frag)(C Cb o2 ab:Addr)(bm:List Value)(R nw it:String)(nx:Value)(fs:List Str):Bool :=
 PySem.W.keepIn K (.ref C)&&(PySem.W.excInitIn K C bm nw&&(PySem.W.excOver K C bm&&((PySem.W.clsIn K C).isSome&&(decide (PySem.W.findIn K (.ref C) "__setattr__"=some (some (.builtin "object.__setattr__")))&&(PySem.W.hasDictIn K C &&
 (decide (PySem.W.findIn K (.ref C) "__init__"=some (some (.ref o2)))&&(decide (PySem.W.typeIn K (.ref o2)=some (.type "function"))&&(decide (PySem.W.subIn K (.ref C) (.type "BaseException")=some true)&&(decide (PySem.W.subIn K (.ref C) (.type R)=some true) &&
 (decide (PySem.W.typeIn K (.ref C)=some (.type "type"))&&(decide (PySem.W.mroIn K C (.ref C)=some true)&&(decide (PySem.W.ks_superIn K C C "__init__"=some (some nx))&&(decide (PySem.W.mroIn K C (.ref Cb)=some true) &&
 (decide (PySem.W.ks_superIn K C Cb "__init__"=some (some (.builtin it)))&&(decide ((K.lookup ab).map (·.cls)=some (.type "function"))&&(PySem.W.fnIn K ab&&(Px K C&&fs.all λf=>decide (PySem.W.findIn K (.ref C) f=some none))))))))))))))))))
end Z
namespace ZK
open PySem PySem.W PySem.Calls PyProof.Rows He He5
abbrev Dm:Type:=Option (Str×Str×Arguments×FuncBody×Scope×Addr×Addr×Value)
structure dW where
 at_:Frag->Addr
 cls:Frag->Addr
 name:PySem.Str
 qual:PySem.Str
 params:Arguments
 body:List Stmt
 scope:Scope
def uk(K:Frag)(a:Addr):Dm:=match K.lookup a with
 |some ⟨_,_,.func fd,_⟩=>some (fd.name,fd.qualname,fd.params,fd.body,fd.scope,fd.globals,fd.builtins,fd.defaults)
 |_=>none
def dW.val(d:dW):Dm:=some (d.name,d.qual,d.params,.stmts d.body,d.scope,mainGlobals,builtinsNs,.none)
def Py(K:Frag)(cc D:Addr):Bool:=match K.lookup cc with
 |some ⟨_,_,.cell (some (.ref E)),_⟩=>decide (E=D)
 |_=>false
def Pz(K:Frag)(b8:Addr)(file:Str):Bool:=match K.lookup b8 with
 |some ⟨_,_,.fields vs,_⟩=>(match(vs[2]?:Option Value)with
  |some (Value.str f _)=>(file==f)
  |_=>false)
 |_=>false
def H3(K:Frag)(D:Addr)(l:List (Str×Addr)):Bool:=match l with
 |[(x,cc)]=>decide (x=("__class__":Str))&&Py K cc D
 |_=>false
def H4(K:Frag)(qual file:Str)(v:Value):Bool:=match v with
 | .ref b8=>codeIn K (.ref b8) qual&&Pz K b8 file
 |_=>false
def dW.ok(K:Frag)(file:Str)(d:dW):Bool:=(match K.lookup (d.at_ K)with
 |some ⟨_,_,.func fd,_⟩=>H3 K (d.cls K) fd.closure&&H4 K d.qual file fd.code
 |_=>false)&&((clsIn K (d.cls K)).isSome&&decide ((K.lookup (d.at_ K)).map (·.cls)=some (.type "function")))
def Dq(g:Addr->Option Obj)(a:Addr):List Addr:=match g a with
 |some o=>refsD o
 |none=>[]
def PB(names:List Str)(ms ps:List (Str×Str))(g:Addr->Option Obj):List Addr :=
 let w2:=frG g [mainGlobals];let v:=names.map (ga w2);let l2:=mainGlobals::cStatics::(v++v.flatMap (Dq g))
 let PD:=frG g l2;let m:=ms.map λp=>ma PD (ga w2 p.1) p.2;let r:=m.flatMap (Dq g);let q:=ps.flatMap λp=>(Dq g (ma PD (ga w2 p.1) p.2)).flatMap (Dq g)
 l2++(m++(r++q))
abbrev um:Type:=(Addr->Option Obj)->List Addr
def iA(n:um)(g:Addr->Option Obj):Frag:=frT g (n g)
end ZK
namespace Z
open PySem PySem.Spec L2 PyProof.Rows
def Y1(K:PySem.W.Frag)(p:Addr):Addr:=match PySem.W.recIn K p "staticmethod" with
 |some (.ref f::_)=>f
 |_=>0
def H5(K:PySem.W.Frag)(C p g:Addr)(m:Str):Bool:=(match PySem.W.findCls K (.ref C) (.type "type") m with
  |some (.get (.builtin b) (.ref p') .none (.ref D))=>decide (b="staticmethod.__get__")&&(decide (p'=p)&&decide (D=C))
  |_=>false)&&((match PySem.W.recIn K p "staticmethod" with
  |some (.ref f::_)=>decide (f=g)
  |_=>false)&&(PySem.W.readsIn K C (.type "type")&&(decide (PySem.W.specialIn K (.ref C) "__getattribute__"=some (some (.builtin "type.__getattribute__")))&&PySem.W.keepIn K (.ref g))))
end Z
noncomputable section
namespace ZK
open PySem PySem.Spec PySem.W PySem.Calls PyProof.Rows L2 He He5
def Dr(fn:List DefA)(K:Frag):=(fn.all λd=>d.ok K,fn.map λd=>fnA K (d.at_ K))
def H6(fn:List DefA)(fs:List dW)(K:Frag):=(Dr fn K,fs.map λd=>uk K (d.at_ K))
def H7(dE:List Defn)(ex:Frag->Bool)(g:Addr->Option Obj)(K:Frag):Bool:=ex K&&tabsB g dE K
end ZK
end
namespace ZK
structure lI where
 p:Prop
 d:Decidable p
def y8:List lI->Bool
 |[]=>true
 |x::l=>@decide x.p x.d&&y8 l
def Ds:List (List lI)->Bool
 |[]=>true
 |x::l=>y8 x&&Ds l
end ZK
namespace Z
@[reducible] def aY(p:Prop)[d:Decidable p]:ZK.lI:=⟨p,d⟩
open PySem PySem.Spec L2 PyProof.Rows
def PF:Value->Option Str
 | .str x _=>some x
 |_=>none
def H8(K:PySem.W.Frag)(a:Addr)(ss:List Str):Bool:=match K.lookup a with
 |some ⟨c,_,.seq its _,_⟩=>decide (c=.type "tuple")&&(decide (its.size<=sizeLine)&&decide (its.toList.map PF=ss.map some))
 |_=>false
end Z
set_option exponentiation.threshold 2000
namespace K31
open PySem PySem.Spec L2 Z PyProof.Rows
def top(i:Nat):Stmt:=PySem.Challenge.pw_waysagree_k31_whole_texts_of_plans.main.body.getD i (.Pass ⟨0,0,0,0⟩)
abbrev s_0:Stmt:=inClass (top 15) 11
abbrev s_1:Stmt:=top 33
abbrev y9:Stmt:=top 44
abbrev y_:Stmt:=top 47
abbrev y':Stmt:=top 34
abbrev za:Stmt:=top 35
abbrev zb:Stmt:=top 42
abbrev zf:Stmt:=top 37
abbrev zg:Stmt:=top 38
abbrev zh:Stmt:=top 40
abbrev zi:Stmt:=top 43
abbrev zj:Stmt:=top 13
abbrev zk:Stmt:=top 10
abbrev o3:Stmt:=inClass (top 15) 0
abbrev zl:Stmt:=top 41
abbrev zm:Stmt:=top 45
abbrev zp:Stmt:=top 39
abbrev zq:Stmt:=top 46
abbrev zr:Stmt:=top 36
abbrev zt:Stmt:=top 23
abbrev zu:Stmt:=top 25
abbrev zv:Stmt:=top 24
abbrev zx:Stmt:=top 26
abbrev ka:Stmt:=top 27
abbrev zy:Stmt:=inClass (top 15) 4
abbrev zA:Stmt:=top 29
abbrev uo:Stmt:=top 28
abbrev zB:Stmt:=inClass (top 30) 0
abbrev zC:Stmt:=top 11
abbrev zD:Stmt:=top 12
abbrev zE:Stmt:=inClass (top 15) 1
abbrev zF:Stmt:=inClass (top 30) 1
abbrev mI:Stmt:=inClass (top 30) 4
abbrev zG:Stmt:=inClass (top 30) 2
abbrev w3:Stmt:=inClass (top 30) 3
abbrev uq:Stmt:=top 31
abbrev zH:Stmt:=top 48
abbrev qj:Stmt:=inClass (top 3) 0
abbrev kb:Stmt:=inClass (top 2) 0
abbrev ql:Stmt:=inClass (top 4) 0
abbrev qm:Stmt:=inClass (top 5) 0
abbrev H9(K:PySem.W.Frag):Addr:=He.ga K "_law_bag"
abbrev H_(K:PySem.W.Frag):Addr:=He.ga K "_law_inner"
abbrev Ia(K:PySem.W.Frag):Addr:=He.ga K "_law_listed"
abbrev Ib(K:PySem.W.Frag):Addr:=He.ga K "_law_pick"
abbrev Ic(K:PySem.W.Frag):Addr:=He.ga K "_law_of"
abbrev Ie(K:PySem.W.Frag):Addr:=He.ga K "_law_name"
abbrev Ig(K:PySem.W.Frag):Addr:=He.ga K "_law_gcd"
abbrev Ih(K:PySem.W.Frag):Addr:=He.ga K "_law_frac"
abbrev Ii(K:PySem.W.Frag):Addr:=He.ga K "_law_small_frac"
abbrev Ij(K:PySem.W.Frag):Addr:=He.ga K "_law_plan"
abbrev Ik(K:PySem.W.Frag):Addr:=He.ga K "common_divisor"
abbrev Il(K:PySem.W.Frag):Addr:=He.ga K "is_whole"
abbrev Im(K:PySem.W.Frag):Addr:=He.ga K "_law_ratio"
abbrev Io(K:PySem.W.Frag):Addr:=He.ga K "_law_plan_made"
abbrev Ip(K:PySem.W.Frag):Addr:=He.ga K "_law_frac_text"
abbrev Iq(K:PySem.W.Frag):Addr:=He.ga K "_law_plan_text"
abbrev Ir(K:PySem.W.Frag):Addr:=He.ga K "_law_same"
abbrev Iu(K:PySem.W.Frag):Addr:=He.ga K "is_name"
abbrev Iv(K:PySem.W.Frag):Addr:=He.ga K "has_form"
abbrev Iw(K:PySem.W.Frag):Addr:=He.ga K "inside"
abbrev Iy(K:PySem.W.Frag):Addr:=He.ga K "check_plan"
abbrev Iz(K:PySem.W.Frag):Addr:=He.ga K "parts"
abbrev IA(K:PySem.W.Frag):Addr:=He.ga K "text_from"
abbrev IB(K:PySem.W.Frag):Addr:=He.ga K "plan_text"
abbrev IC(K:PySem.W.Frag):Addr:=He.ga K "is_digits"
abbrev IE(K:PySem.W.Frag):Addr:=He.ga K "is_signed"
abbrev IG(K:PySem.W.Frag):Addr:=He.ga K "read_plan"
abbrev Dt(K:PySem.W.Frag):Addr:=He.ga K "law"
abbrev gp(K:PySem.W.Frag):Addr:=He.ga K "Ratio"
abbrev jI(K:PySem.W.Frag):Addr:=He.ga K "TextReader"
abbrev qn(K:PySem.W.Frag):Addr:=He.ga K "InvalidRatio"
abbrev qo(K:PySem.W.Frag):Addr:=He.ga K "InvalidText"
abbrev qp(K:PySem.W.Frag):Addr:=He.ga K "InvalidPlan"
abbrev ur(K:PySem.W.Frag):Addr:=He.ga K "WayError"
abbrev Du(K:PySem.W.Frag):Addr:=He.ma K (He.ga K "Ratio") "__eq__"
abbrev Dw(K:PySem.W.Frag):Addr:=He.ma K (He.ga K "Ratio") "__init__"
abbrev Dx(K:PySem.W.Frag):Addr:=He.ma K (He.ga K "Ratio") "text"
abbrev Dy(K:PySem.W.Frag):Addr:=He.ma K (He.ga K "TextReader") "__init__"
abbrev PH(K:PySem.W.Frag):Addr:=He.ma K (He.ga K "Ratio") "read"
abbrev Dz(K:PySem.W.Frag):Addr:=Z.Y1 K (He.ma K (He.ga K "Ratio") "read")
abbrev DA(K:PySem.W.Frag):Addr:=He.ma K (He.ga K "TextReader") "taken"
abbrev DB(K:PySem.W.Frag):Addr:=He.ma K (He.ga K "TextReader") "row"
abbrev DC(K:PySem.W.Frag):Addr:=He.ma K (He.ga K "TextReader") "run_of"
abbrev DE(K:PySem.W.Frag):Addr:=He.ma K (He.ga K "TextReader") "plan"
abbrev PL(K:PySem.W.Frag):Addr:=He.ga K "WORDS"
abbrev IH(K:PySem.W.Frag):Addr:=He.ma K (He.ga K "InvalidRatio") "__init__"
abbrev r5(K:PySem.W.Frag):Addr:=He.ma K (He.ga K "WayError") "__init__"
abbrev II(K:PySem.W.Frag):Addr:=He.ma K (He.ga K "InvalidText") "__init__"
abbrev IJ(K:PySem.W.Frag):Addr:=He.ma K (He.ga K "InvalidPlan") "__init__"
abbrev PN:He5.DefA:=⟨Du,"__eq__","Ratio.__eq__",defArgs s_0,defBody s_0,defScope s_0,[],[]⟩
abbrev PR:He5.DefA:=⟨H9,"_law_bag","_law_bag",defArgs s_1,defBody s_1,defScope s_1,[],[]⟩
abbrev PU:He5.DefA:=⟨H_,"_law_inner","_law_inner",defArgs y9,defBody y9,defScope y9,[],[]⟩
abbrev PV:He5.DefA:=⟨Ia,"_law_listed","_law_listed",defArgs y_,defBody y_,defScope y_,[],[]⟩
abbrev PY:He5.DefA:=⟨Ib,"_law_pick","_law_pick",defArgs y',defBody y',defScope y',[],[]⟩
abbrev PZ:He5.DefA:=⟨Ic,"_law_of","_law_of",defArgs za,defBody za,defScope za,[],[]⟩
abbrev P0:He5.DefA:=⟨Ie,"_law_name","_law_name",defArgs zb,defBody zb,defScope zb,[],[]⟩
abbrev P1:He5.DefA:=⟨Ig,"_law_gcd","_law_gcd",defArgs zf,defBody zf,defScope zf,[],[]⟩
abbrev P2:He5.DefA:=⟨Ih,"_law_frac","_law_frac",defArgs zg,defBody zg,defScope zg,[],[]⟩
abbrev P4:He5.DefA:=⟨Ii,"_law_small_frac","_law_small_frac",defArgs zh,defBody zh,defScope zh,[],[]⟩
abbrev P5:He5.DefA:=⟨Ij,"_law_plan","_law_plan",defArgs zi,defBody zi,defScope zi,[],[]⟩
abbrev P6:He5.DefA:=⟨Ik,"common_divisor","common_divisor",defArgs zj,defBody zj,defScope zj,[],[]⟩
abbrev P7:He5.DefA:=⟨Il,"is_whole","is_whole",defArgs zk,defBody zk,defScope zk,[],[]⟩
abbrev P8:He5.DefA:=⟨Dw,"__init__","Ratio.__init__",defArgs o3,defBody o3,defScope o3,[.int 1],[]⟩
abbrev P9:He5.DefA:=⟨Im,"_law_ratio","_law_ratio",defArgs zl,defBody zl,defScope zl,[],[]⟩
abbrev P_:He5.DefA:=⟨Io,"_law_plan_made","_law_plan_made",defArgs zm,defBody zm,defScope zm,[],[]⟩
abbrev Qa:He5.DefA:=⟨Ip,"_law_frac_text","_law_frac_text",defArgs zp,defBody zp,defScope zp,[],[]⟩
abbrev Qb:He5.DefA:=⟨Iq,"_law_plan_text","_law_plan_text",defArgs zq,defBody zq,defScope zq,[],[]⟩
abbrev Qc:He5.DefA:=⟨Ir,"_law_same","_law_same",defArgs zr,defBody zr,defScope zr,[],[]⟩
abbrev Qd:He5.DefA:=⟨Iu,"is_name","is_name",defArgs zt,defBody zt,defScope zt,[],[]⟩
abbrev Qe:He5.DefA:=⟨Iv,"has_form","has_form",defArgs zu,defBody zu,defScope zu,[],[]⟩
abbrev Qf:He5.DefA:=⟨Iw,"inside","inside",defArgs zv,defBody zv,defScope zv,[],[]⟩
abbrev Qg:He5.DefA:=⟨Iy,"check_plan","check_plan",defArgs zx,defBody zx,defScope zx,[],[]⟩
abbrev Qh:He5.DefA:=⟨Iz,"parts","parts",defArgs ka,defBody ka,defScope ka,[],[]⟩
abbrev Qi:He5.DefA:=⟨Dx,"text","Ratio.text",defArgs zy,defBody zy,defScope zy,[],[]⟩
abbrev Qj:He5.DefA:=⟨IA,"text_from","text_from",defArgs zA,defBody zA,defScope zA,[],[]⟩
abbrev Qk:He5.DefA:=⟨IB,"plan_text","plan_text",defArgs uo,defBody uo,defScope uo,[],[]⟩
abbrev Ql:He5.DefA:=⟨Dy,"__init__","TextReader.__init__",defArgs zB,defBody zB,defScope zB,[],[]⟩
abbrev Qm:He5.DefA:=⟨IC,"is_digits","is_digits",defArgs zC,defBody zC,defScope zC,[],[]⟩
abbrev Qn:He5.DefA:=⟨IE,"is_signed","is_signed",defArgs zD,defBody zD,defScope zD,[],[]⟩
abbrev Qo:He5.DefA:=⟨Dz,"read","Ratio.read",defArgs zE,defBody zE,defScope zE,[],[]⟩
abbrev Qp:He5.DefA:=⟨DA,"taken","TextReader.taken",defArgs zF,defBody zF,defScope zF,[],[]⟩
abbrev Qq:He5.DefA:=⟨DB,"row","TextReader.row",defArgs mI,defBody mI,defScope mI,[],[]⟩
abbrev Qr:He5.DefA:=⟨DC,"run_of","TextReader.run_of",defArgs zG,defBody zG,defScope zG,[],[]⟩
abbrev Qs:He5.DefA:=⟨DE,"plan","TextReader.plan",defArgs w3,defBody w3,defScope w3,[],[]⟩
abbrev Qt:He5.DefA:=⟨IG,"read_plan","read_plan",defArgs uq,defBody uq,defScope uq,[],[]⟩
abbrev Qu:He5.DefA:=⟨Dt,"law","law",defArgs zH,defBody zH,defScope zH,[],[]⟩
abbrev IK:ZK.dW:=⟨IH,qn,"__init__","InvalidRatio.__init__",defArgs qj,defBody qj,defScope qj⟩
abbrev IL:ZK.dW:=⟨r5,ur,"__init__","WayError.__init__",defArgs kb,defBody kb,defScope kb⟩
abbrev IM:ZK.dW:=⟨II,qo,"__init__","InvalidText.__init__",defArgs ql,defBody ql,defScope ql⟩
abbrev IQ:ZK.dW:=⟨IJ,qp,"__init__","InvalidPlan.__init__",defArgs qm,defBody qm,defScope qm⟩
abbrev uv:List He5.DefA:=[PN,PR,PU,PV,PY,PZ,P0,P1,P2,P4,P5,P6,P7,P8,P9,P_,Qa,Qb,Qc,Qd,Qe,Qf,Qg,Qh,Qi,Qj,Qk,Ql,Qm,Qn,Qo,Qp,Qq,Qr,Qs,Qt,Qu]
abbrev kc:List ZK.dW:=[IK,IL,IM,IQ]
abbrev DF:List He.Defn:=[]
def Qv(K:PySem.W.Frag):List ZK.lI:=[aY (PySem.W.nsIn K mainGlobals "Ratio"=some (some (.ref (gp K)))),aY (PySem.W.plainGet K (gp K) Str.empty=true),aY (PySem.W.hasDictIn K (gp K)=true),aY (PySem.W.plainOver K (gp K)=true),aY (PySem.W.findIn K (.ref (gp K)) "__setattr__"=some (some (.builtin "object.__setattr__"))),aY (PySem.W.makesIn K (gp K)=true),aY (PySem.W.keepIn K (.ref (gp K))=true),aY (PySem.W.findIn K (.ref (gp K)) "__init__"=some (some (.ref (Dw K)))),aY (PySem.W.findIn K (.ref (gp K)) "own_bottom"=some none),aY (PySem.W.findIn K (.ref (gp K)) "own_top"=some none),aY (PySem.W.findIn K (.ref (gp K)) "__eq__"=some (some (.ref (Du K)))),aY (PySem.W.findIn K (.ref (gp K)) "text"=some (some (.ref (Dx K)))),aY (PySem.W.findIn K (.ref (gp K)) "__class__"=some (some (.builtin "object.__class__"))),aY (PySem.W.mroIn K (gp K) (.type "object")=some true),aY (PySem.W.findIn K (.ref (gp K)) "__ne__"=some (some (.builtin "object.__ne__"))),aY (PySem.W.notFirst K (gp K) (.ref (gp K))=true),aY (PySem.W.notFirst K (gp K) (.ref (jI K))=true),aY (PySem.W.nsIn K mainGlobals "TextReader"=some (some (.ref (jI K)))),aY (PySem.W.plainGet K (jI K) Str.empty=true),aY (PySem.W.hasDictIn K (jI K)=true)]
def Qw(K:PySem.W.Frag):List ZK.lI:=[aY (PySem.W.plainOver K (jI K)=true),aY (PySem.W.findIn K (.ref (jI K)) "__setattr__"=some (some (.builtin "object.__setattr__"))),aY (PySem.W.makesIn K (jI K)=true),aY (PySem.W.keepIn K (.ref (jI K))=true),aY (PySem.W.findIn K (.ref (jI K)) "__init__"=some (some (.ref (Dy K)))),aY (PySem.W.findIn K (.ref (jI K)) "at"=some none),aY (PySem.W.findIn K (.ref (jI K)) "whole"=some none),aY (PySem.W.findIn K (.ref (jI K)) "plan"=some (some (.ref (DE K)))),aY (PySem.W.findIn K (.ref (jI K)) "row"=some (some (.ref (DB K)))),aY (PySem.W.findIn K (.ref (jI K)) "run_of"=some (some (.ref (DC K)))),aY (PySem.W.findIn K (.ref (jI K)) "taken"=some (some (.ref (DA K)))),aY (H5 K (gp K) (PH K) (Dz K) "read"=true),aY (PySem.W.kitOne K (.ref (gp K)) (.ref (gp K))=some true),aY (((PySem.W.clsIn K (gp K)).isSome&&PySem.W.typeIn K (.ref (gp K))==some (.type "type"))=true),aY (PySem.W.isFn K (.ref (Du K))=true),aY (PySem.W.nsIn K mainGlobals "_law_bag"=some (some (.ref (H9 K)))),aY (PySem.W.nsIn K mainGlobals "_law_inner"=some (some (.ref (H_ K)))),aY (PySem.W.nsIn K mainGlobals "_law_listed"=some (some (.ref (Ia K)))),aY (PySem.W.nsIn K mainGlobals "_law_pick"=some (some (.ref (Ib K)))),aY (PySem.W.nsIn K mainGlobals "_law_of"=some (some (.ref (Ic K))))]
def Qx(K:PySem.W.Frag):List ZK.lI:=[aY (PySem.W.nsIn K mainGlobals "_law_name"=some (some (.ref (Ie K)))),aY (PySem.W.nsIn K mainGlobals "_law_gcd"=some (some (.ref (Ig K)))),aY (PySem.W.nsIn K mainGlobals "_law_frac"=some (some (.ref (Ih K)))),aY (PySem.W.nsIn K mainGlobals "_law_small_frac"=some (some (.ref (Ii K)))),aY (PySem.W.nsIn K mainGlobals "_law_plan"=some (some (.ref (Ij K)))),aY (PySem.W.nsIn K mainGlobals "common_divisor"=some (some (.ref (Ik K)))),aY (PySem.W.nsIn K mainGlobals "is_whole"=some (some (.ref (Il K)))),aY (PySem.W.isFn K (.ref (Dw K))=true),aY (PySem.W.nsIn K mainGlobals "_law_ratio"=some (some (.ref (Im K)))),aY (PySem.W.nsIn K mainGlobals "_law_plan_made"=some (some (.ref (Io K)))),aY (PySem.W.nsIn K mainGlobals "_law_frac_text"=some (some (.ref (Ip K)))),aY (PySem.W.nsIn K mainGlobals "_law_plan_text"=some (some (.ref (Iq K)))),aY (PySem.W.nsIn K mainGlobals "_law_same"=some (some (.ref (Ir K)))),aY (PySem.W.nsIn K mainGlobals "is_name"=some (some (.ref (Iu K)))),aY (PySem.W.nsIn K mainGlobals "has_form"=some (some (.ref (Iv K)))),aY (PySem.W.nsIn K mainGlobals "inside"=some (some (.ref (Iw K)))),aY (PySem.W.nsIn K mainGlobals "check_plan"=some (some (.ref (Iy K)))),aY (PySem.W.nsIn K mainGlobals "parts"=some (some (.ref (Iz K)))),aY (PySem.W.isFn K (.ref (Dx K))=true),aY (PySem.W.nsIn K mainGlobals "text_from"=some (some (.ref (IA K))))]
def Qy(K:PySem.W.Frag):List ZK.lI:=[aY (PySem.W.nsIn K mainGlobals "plan_text"=some (some (.ref (IB K)))),aY (PySem.W.isFn K (.ref (Dy K))=true),aY (PySem.W.nsIn K mainGlobals "is_digits"=some (some (.ref (IC K)))),aY (PySem.W.nsIn K mainGlobals "is_signed"=some (some (.ref (IE K)))),aY (PySem.W.isFn K (.ref (Dz K))=true),aY (PySem.W.isFn K (.ref (DA K))=true),aY (PySem.W.isFn K (.ref (DB K))=true),aY (PySem.W.isFn K (.ref (DC K))=true),aY (PySem.W.isFn K (.ref (DE K))=true),aY (PySem.W.nsIn K mainGlobals "read_plan"=some (some (.ref (IG K)))),aY (PySem.W.nsIn K mainGlobals "law"=some (some (.ref (Dt K)))),aY (PySem.W.nsIn K mainGlobals "InvalidRatio"=some (some (.ref (qn K)))),aY (PySem.W.nsIn K mainGlobals "InvalidText"=some (some (.ref (qo K)))),aY (PySem.W.nsIn K mainGlobals "InvalidPlan"=some (some (.ref (qp K)))),aY (PySem.W.nsIn K mainGlobals "WayError"=some (some (.ref (ur K)))),aY (PySem.W.exmAny K (.ref (qp K)) [.ref (qo K),.ref (qp K),.ref (qn K)]=some true),aY (PySem.W.exmAny K (.ref (qn K)) [.ref (qo K),.ref (qp K),.ref (qn K)]=some true),aY (PySem.W.exmAny K (.ref (qo K)) [.ref (qo K),.ref (qp K),.ref (qn K)]=some true),aY (PySem.W.findIn K (.ref (qn K)) "__init__"=some (some (.ref (IH K)))),aY (ZK.dW.ok K PySem.Challenge.pw_waysagree_k31_whole_texts_of_plans.main.file IK=true)]
def Qz(K:PySem.W.Frag):List ZK.lI:=[aY (PySem.W.findIn K (.ref (ur K)) "__init__"=some (some (.ref (r5 K)))),aY (ZK.dW.ok K PySem.Challenge.pw_waysagree_k31_whole_texts_of_plans.main.file IL=true),aY (PySem.W.findIn K (.ref (qo K)) "__init__"=some (some (.ref (II K)))),aY (ZK.dW.ok K PySem.Challenge.pw_waysagree_k31_whole_texts_of_plans.main.file IM=true),aY (PySem.W.findIn K (.ref (qp K)) "__init__"=some (some (.ref (IJ K)))),aY (ZK.dW.ok K PySem.Challenge.pw_waysagree_k31_whole_texts_of_plans.main.file IQ=true),aY (r4 K (qn K) (ur K) (IH K) (r5 K) [.type "ValueError",.type "Exception",.type "BaseException",.type "object"] "ValueError" "ValueError.__new__" "ValueError.__init__" (.ref (r5 K)) ["tag","value"]=true),aY (r4 K (qo K) (ur K) (II K) (r5 K) [.type "ValueError",.type "Exception",.type "BaseException",.type "object"] "ValueError" "ValueError.__new__" "ValueError.__init__" (.ref (r5 K)) ["tag","given"]=true),aY (r4 K (qp K) (ur K) (IJ K) (r5 K) [.type "ValueError",.type "Exception",.type "BaseException",.type "object"] "ValueError" "ValueError.__new__" "ValueError.__init__" (.ref (r5 K)) ["tag","path"]=true),aY (PySem.W.nsIn K mainGlobals "super"=some none),aY (PySem.W.nsIn K cStatics "thirdparty.any"=some none),aY ((He.Fa.str "DIGITS" "0123456789").ok K=true),aY ((He.Fa.str "LETTERS" "abcdefghijklmnopqrstuvwxyz").ok K=true),aY ((He.Fa.int "MOST_DEPTH" 8).ok K=true),aY ((He.Fa.int "MOST_DIGITS" 30).ok K=true),aY ((He.Fa.int "MOST_INSIDE" 6).ok K=true),aY ((He.Fa.int "MOST_NAME" 8).ok K=true),aY ((He.Fa.int "MOST_PARTS" 40).ok K=true),aY (PySem.W.nsIn K mainGlobals "WORDS"=some (some (.ref (PL K)))),aY (H8 K (PL K) ["stay","none"]=true)]
def QA(K:PySem.W.Frag):List ZK.lI:=[aY (PySem.W.nsIn K mainGlobals "abs"=some none),aY (PySem.W.nsIn K mainGlobals "all"=some none),aY (PySem.W.nsIn K mainGlobals "bool"=some none),aY (PySem.W.nsIn K mainGlobals "enumerate"=some none),aY (PySem.W.nsIn K mainGlobals "int"=some none),aY (PySem.W.nsIn K mainGlobals "isinstance"=some none),aY (PySem.W.nsIn K mainGlobals "len"=some none),aY (PySem.W.nsIn K mainGlobals "list"=some none),aY (PySem.W.nsIn K mainGlobals "range"=some none),aY (PySem.W.nsIn K mainGlobals "str"=some none),aY (PySem.W.nsIn K mainGlobals "tuple"=some none),aY (PySem.W.nsIn K mainGlobals "zip"=some none)]
def DG(K:PySem.W.Frag):Bool:=ZK.Ds [Qv K,Qw K,Qx K,Qy K,Qz K,QA K]
abbrev uw:PySem.W.OpenRow:=PySem.W.OpenLaw.row PySem.Challenge.rw_waysagree_k31_whole_texts_of_plans
abbrev w4:Program:=PySem.W.view uw.prog [48]
def DH:List PySem.Str:=(["_wall","__name__","WayError","InvalidRatio","InvalidText","InvalidPlan","LETTERS","DIGITS","MOST_DIGITS","is_whole","is_digits","is_signed","common_divisor","Ratio","ratio_of","MOST_NAME","MOST_DEPTH","MOST_INSIDE","MOST_PARTS","WORDS","is_name","inside","has_form","check_plan","parts","plan_text","text_from","TextReader","read_plan","_law_bag"]:List PySem.Str)++(["_law_pick","_law_of","_law_same","_law_gcd","_law_frac","_law_frac_text","_law_small_frac","_law_ratio","_law_name","_law_plan","_law_inner","_law_plan_made","_law_plan_text","_law_listed"]:List PySem.Str)
def zI:ZK.um:=ZK.PB ((["_law_bag","_law_inner","_law_listed","_law_pick","_law_of","_law_name","_law_gcd","_law_frac","_law_small_frac","_law_plan","common_divisor","is_whole","_law_ratio","_law_plan_made","_law_frac_text","_law_plan_text","_law_same","is_name","has_form","inside","check_plan","parts","text_from","plan_text","is_digits","is_signed","read_plan","law","Ratio","TextReader"]:List Str)++(["InvalidRatio","WayError","InvalidText","InvalidPlan","WORDS"]:List Str)) (([("Ratio","__eq__"),("Ratio","__init__"),("Ratio","text"),("TextReader","__init__"),("Ratio","read"),("TextReader","taken"),("TextReader","row"),("TextReader","run_of"),("TextReader","plan"),("InvalidRatio","__init__"),("WayError","__init__"),("InvalidText","__init__"),("InvalidPlan","__init__")]:List (Str×Str))) (([("Ratio","read")]:List (Str×Str)))
abbrev IT(w:World)(os:PySem.OsState):Option PySem.W.SharedT:=HandSHeadRun.endF (HandSHeadRun.stepQ (HandSHeadRun.denQ HandSHeadRun.tabQ) uw.prog w) 40000 uw.prog w os
end K31
set_option Elab.async false
set_option linter.all false
set_option maxRecDepth 100000
set_option maxHeartbeats 4000000
set_option exponentiation.threshold 2000
namespace K31
open PySem PySem.Spec L2 Z PyProof.Rows
set_option maxHeartbeats 0 in
theorem Y2(w:World)(os:PySem.OsState):(IT w os).map (λs=>(HandSHeadRun.looksF uw.prog (PySem.W.boot_heap w.params) s.abs,HandSHeadRun.seenQ w4 DH (PySem.importedModules uw.prog.main.body) (λs=>PySem.W.xlAt w4 [] s&&PySem.W.recOk uw.toRowW.records s) s.abs,ZK.Dr (uv.take 18) (ZK.iA zI (HandSHeadRun.getT s))))=some (true,PySem.W.openGood w4 DH,(true,(uv.take 18).map He5.DefA.val)):=by
 kernel_rfl
set_option maxHeartbeats 0 in
theorem Y3(w:World)(os:PySem.OsState):(IT w os).map (λs=>ZK.H6 (uv.drop 18) kc (ZK.iA zI (HandSHeadRun.getT s)))=some ((true,(uv.drop 18).map He5.DefA.val),kc.map ZK.dW.val):=by
 kernel_rfl
set_option maxHeartbeats 0 in
theorem Y4(w:World)(os:PySem.OsState):(IT w os).map (λs=>ZK.H7 DF DG (HandSHeadRun.getT s) (ZK.iA zI (HandSHeadRun.getT s)))=some true:=by
 kernel_rfl
end K31
set_option Elab.async false
set_option linter.all false
set_option maxRecDepth 100000
set_option maxHeartbeats 4000000
namespace Z
open PySem PySem.Spec L2
structure w5 where
 id:Nat
 params:Arguments
 body:Expr
 scope:Scope
 qual:Str
 dvs:List V
 names:List Str
inductive D where
 |non
 |bl (b:Bool)
 |int (i:Int)
 |str (s:Str)
 |ty (n:String)
 |cls (c:Str)
 |tup (xs:List D)
 |lst (xs:List D)
 |bS (xs:List D)
 |dct (ks vs:List D)
 |dX (w:World) (ks vs:List D)
 |ins (c:Str) (ns:List Str) (vs:List D)
 |ptr (n:Nat)
 |cy (xs:List Int)
 |exc (c:Str) (ns:List Str) (vs:List D)
 |lam (T:w5) (da:List (Str×Addr))
 |h4 (T:w5) (o4:List D)
inductive dk where
 |lst (xs:List D)
 |dct (lk:Bool) (ks vs:List D)
 |dX (w:World) (ks vs:List D)
 |ins (c:Str) (ns:List Str) (vs:List D)
 |tab (P:Addr) (q:Str)
 |dead
abbrev Store:=List dk
inductive Out (α:Type) where
 |ok (a:α) (S:Store)
 |ex (e:D) (S:Store)
 |bad
def Out.bind{α β:Type}(o:Out α)(k:α->Store->Out β):Out β:=match o with
 | .ok a S=>k a S
 | .ex e S=>.ex e S
 | .bad=>.bad
abbrev aL:=List (Option D)
abbrev aM:=aL->Store->Out D
abbrev cO:=aL->Store->Out (List D)
abbrev cz:=aL->Store->Out Bool
inductive SO where
 |nx (sl:aL) (S:Store)
 |bk (sl:aL) (S:Store)
 |ct (sl:aL) (S:Store)
 |rt (d:D) (S:Store)
 |ex (e:D) (sl:aL) (S:Store)
 |bad
abbrev SX:=aL->Store->SO
mutual
def mJ:D->Bool
 | .tup xs=>lJ xs
 | .bS xs=>lJ xs
 | .lst xs=>lJ xs
 | .dct ks vs=>lJ ks&&lJ vs
 | .dX _ ks vs=>lJ ks&&lJ vs
 | .ins _ _ vs=>lJ vs
 | .exc _ _ vs=>lJ vs
 | .h4 _ _=>false
 | .non=>true
 | .bl _=>true
 | .int _=>true
 | .str _=>true
 | .ty _=>true
 | .cls _=>true
 | .cy _=>true
 | .ptr _=>true
 | .lam _ _=>true
def lJ:List D->Bool
 |[]=>true
 |d::ds=>mJ d&&lJ ds
end
mutual
def nU:D->Option NestedKey
 | .non=>some .none
 | .bl b=>some (.num (if b=true then 1 else 0))
 | .int i=>some (.num i)
 | .str x=>some (.text x)
 | .tup ds=>(w6 ds).map .tup
 | .bS ds=>(w6 ds).map .tup
 | .ty _=>none
 | .cls _=>none
 | .lst _=>none
 | .dct _ _=>none
 | .dX _ _ _=>none
 | .ins _ _ _=>none
 | .ptr _=>none
 | .cy _=>none
 | .exc _ _ _=>none
 | .lam _ _=>none
 | .h4 _ _=>none
def w6:List D->Option (List NestedKey)
 |[]=>some []
 |d::ds=>match nU d,w6 ds with
  |some n,some ns=>some (n::ns)
  |_,_=>none
end
def Y5:NestedKey->Bool
 | .text _=>true
 |_=>false
def Y6:NestedKey->Bool
 | .tup _=>true
 |_=>false
def mK(a:Addr)(p:List DictEntry×Obj):HO:=.ext λh=>∃dF:Nat,h.get? a=some p.2/\p.2.ExactDict/\p.2.data=.dict p.1.toArray dF
def DI(w:World)(ks:List D)(es:List DictEntry)(bP zJ:List V):Prop:=∃ns:List NestedKey,w6 ks=some ns/\ns.Nodup/\(∀n∈ns,n.depth<=8)/\((∀n∈ns,Y5 n=true)\/∀n∈ns,Y6 n=true)/\es.map (·.hash)=ns.map (·.hash w)/\Vals bP (es.map (·.key))/\Vals zJ (es.map (·.val))/\es.length<=sizeLine
section
variable(K:PySem.W.Frag)(mg:Str->Option Value)(ρ:List Addr)(H:Hp)
def Y7(a:Addr)(vs:List V):Prop:=∃(o:Obj) (its:Array Value) (n:Nat),K.lookup a=some o/\o.cls=.type "list"/\o.dict=none/\o.data=.seq its n/\its.size<=sizeLine/\Vals vs its.toList
def DJ(a:Addr)(vs:List V):Prop:=∃(o:Obj) (its:Array Value) (n:Nat),K.lookup a=some o/\o.cls=.type "tuple"/\o.data=.seq its n/\its.size<=sizeLine/\Vals vs its.toList
def w7(a:Addr)(vs:List V):Prop:=(a∉ρ/\Rd H a (.lst vs))\/Y7 K a vs
def LstAt(a:Addr)(vs:List V):Prop:=a∉ρ/\H a=some (.lst vs)
def TupAt(a:Addr)(vs:List V):Prop:=(a∉ρ/\H a=some (.tup vs))\/DJ K a vs
def w8(a:Addr)(vs:List V):Prop:=a∉ρ/\∃o:Obj,o.dict=none/\H a=some (.frz o (.tup vs))
def DK(a:Addr)(ks vs:List V):Prop:=a∉ρ/\∃kvs:List (Key×V),Rd H a (.dK kvs)/\ks=kvs.map (λp=>kV p.1)/\vs=kvs.map (·.2)
def DL(w:World)(ds:List D)(a:Addr)(bP zJ:List V):Prop:=a∉ρ/\(a==sysModules)=false/\∃es:List DictEntry×Obj,H a=some (mK a es)/\DI w ds es.1 bP zJ
def Y8(a:Addr)(o:Obj):HO:=.ext λh=>h.get? a=some o
def Y9(a C d:Addr):HO:=.ext λh=>∃(eP:Obj) (vs:Array Value),h.get? a=some eP/\Zc (.ref C) (some d) eP/\eP.data=.fields vs
def DM(dvs:List V)(g7:Value):Prop:=(dvs=[]/\g7=.none)\/(dvs≠[]/\∃t,g7=.ref t/\t∉ρ/\H t=some (.tup dvs))
def r6(f:Addr)(T:w5)(da:List (Str×Addr)):Prop:=f∉ρ/\(∃nV,da=L2.cloFrom nV T.scope.names [])/\∃(pm doc g7 zK:Value) (bA:Addr),H f=some (Y8 f (PySem.W.kdv_obj "<lambda>" T.qual T.params (.expr T.body) T.scope da g7 doc pm bA zK))/\bA∉ρ/\H bA=some (LamX.CodeO bA T.qual)/\DM ρ H T.dvs g7
def k0(da:List (Str×Addr)):List Str->List V->Prop
 |[],vs=>vs=[]
 |n::ns,vs=>∃v r c o u,vs=v::r/\da.lookup n=some c/\c∉ρ/\H c=some (.frz o (.own 0))/\o.data=.cell (some u)/\RelV v u/\(∀m∈ns,da.lookup m≠some c)/\k0 da ns r
mutual
def Rep:D->V->Prop
 | .non,v=>v=.non
 | .bl b,v=>v=.bl b
 | .int i,v=>v=.int i
 | .str s,v=>v=.str s
 | .ty n,v=>v=.ty n
 | .cls c,v=>∃C,mg c=some (.ref C)/\v=.ref C
 | .tup ds,v=>∃a vs,v=.ref a/\TupAt K ρ H a vs/\ay ds vs
 | .bS ds,v=>∃a vs,v=.ref a/\w8 ρ H a vs/\ay ds vs
 | .lst ds,v=>∃a vs,v=.ref a/\LstAt ρ H a vs/\ay ds vs
 | .dct ks ds,v=>∃a bP vs,v=.ref a/\DK ρ H a bP vs/\ay ks bP/\ay ds vs
 | .dX w ks ds,v=>∃a bP vs,v=.ref a/\DL ρ H w ks a bP vs/\ay ks bP/\ay ds vs
 | .ins c ns ds,v=>∃a C bx fs,v=.ref a/\a∉ρ/\mg c=some (.ref C)/\H a=some (.ins C bx fs)/\fs.map (·.1)=ns/\ay ds (fs.map (·.2))
 | .ptr n,v=>∃a,v=.ref a/\ρ[n]?=some a
 | .cy xs,v=>∃a,v=.ref a/\w7 K ρ H a (xs.map V.int)
 | .exc c ns ds,v=>∃a C d fs,v=.ref a/\a∉ρ/\d∉ρ/\mg c=some (.ref C)/\H a=some (Y9 a C d)/\H d=some (.xd fs)/\fs.map (·.1)=ns/\ay ds (fs.map (·.2))
 | .lam T da,v=>∃f,v=.ref f/\r6 ρ H f T da
 | .h4 T o4,v=>∃f da vs,v=.ref f/\r6 ρ H f T da/\k0 ρ H da T.names vs/\ay o4 vs
def ay:List D->List V->Prop
 |[],vs=>vs=[]
 |d::ds,vs=>∃v r,vs=v::r/\Rep d v/\ay ds r
end
def i3(a:Addr):dk->Prop
 | .lst ds=>∃vs,H a=some (.lst vs)/\ay K mg ρ H ds vs
 | .dct lk ks ds=>∃kvs:List (Key×V),(if lk=true then Rd H a (.dK kvs)else H a=some (.dK kvs))/\ay K mg ρ H ks (kvs.map (λp=>kV p.1))/\ay K mg ρ H ds (kvs.map (·.2))
 | .dX w ks ds=>(a==sysModules)=false/\∃es bP vs,H a=some (mK a es)/\DI w ks es.1 bP vs/\ay K mg ρ H ks bP/\ay K mg ρ H ds vs
 | .ins c ns ds=>∃C bx fs,mg c=some (.ref C)/\H a=some (.ins C bx fs)/\fs.map (·.1)=ns/\ay K mg ρ H ds (fs.map (·.2))
 | .tab P q=>a=P/\∃ps:Array Value,H a=some (.tbl ps)/\TriplesOk ps.toList/\∀(pos:Pos) (qq:Value),codeAmong pos ps.toList=some qq->∃c,qq=.ref c/\c∉ρ/\H c=some (LamX.CodeO c q)
 | .dead=>True
structure aF(S:Store):Prop where
 len:ρ.length=S.length
 nd:ρ.Nodup
 tr:∀a∈ρ,H a≠none
 ob:∀(n:Nat) a m,ρ[n]?=some a->S[n]?=some m->i3 K mg ρ H a m
structure cq(σ:St)(sl:aL):Prop where
 len:σ.length=sl.length
 at_:∀(i:Nat) d,sl[i]?=some (some d)->∃v,σ[i]?=some (some v)/\Rep K mg ρ H d v
def jJ(e:D)(C:Value)(dd:Option Addr):Prop:=∃c ns ds ux k1 fs,e=.ins c ns ds/\mg c=some (.ref ux)/\C=.ref ux/\dd=some k1/\k1∉ρ/\H k1=some (.xd fs)/\fs.map (·.1)=ns/\ay K mg ρ H ds (fs.map (·.2))
end
structure Ext(ρ:List Addr)(H:Hp)(aj:List Addr)(H':Hp):Prop where
 pre:∃t,aj=ρ++t
 new:∀a∈aj,a∉ρ->H a=none
 keep:∀a o,a∉ρ->H a=some o->H' a=some o\/((∃kvs,o=.dK kvs)/\∃od,H' a=some (.frz od o))
section
variable{K:PySem.W.Frag}{mg:Str->Option Value}{ρ aj QB:List Addr}{H H' QC:Hp}
theorem Ext.refl:Ext ρ H ρ H:=⟨⟨[],by simp⟩,λa h n=>absurd h n,λ_ _ _ h=>.inl h⟩
theorem Ext.kept(x:Ext ρ H aj H'){a:Addr}{o:HO}(n:a∉ρ)(h:H a=some o)(nd:∀kvs,o≠.dK kvs):H' a=some o:=by
 rcases x.keep a o n h with h|⟨⟨kvs,e⟩,_⟩
 .exact h
 grind
theorem Ext.nin(x:Ext ρ H aj H'){a:Addr}{o:HO}(n:a∉ρ)(h:H a=some o):a∉aj:=λq=>by
 have:=x.new a q n;grind
theorem Ext.trans(x:Ext ρ H aj H')(y:Ext aj H' QB QC):Ext ρ H QB QC:=by
 obtain⟨t,e⟩:=x.pre;obtain⟨t',cW⟩:=y.pre;refine⟨⟨t++t',by grind⟩,λa h n=>?_,λa o n h=>?_⟩;rotate_left
 .rcases x.keep a o n h with h1|⟨hk,od,h1⟩
  .exact y.keep a o (x.nin n h) h1
  .exact .inr ⟨hk,od,y.kept (x.nin n h) h1 (by intros;nofun)⟩
 by_cases q:a∈aj
 .exact x.new a q n
 .have z:=y.new a h q
  cases e:H a with
  |none=>rfl
  |some o =>
   rcases x.keep a o n e with this|⟨_,_,this⟩<;>(grind)
theorem Ext.get(x:Ext ρ H aj H'){n:Nat}{a:Addr}(h:ρ[n]?=some a):aj[n]?=some a:=by
 obtain⟨t,e⟩:=x.pre;grind
theorem Rd.ext(x:Ext ρ H aj H'){a:Addr}{u:HO}(n:a∉ρ)(r:Rd H a u):a∉aj/\Rd H' a u:=by
 rcases r with r|⟨o,r⟩
 .rcases x.keep _ _ n r with q|⟨_,od,q⟩
  .exact⟨x.nin n r,.inl q⟩
  .exact⟨x.nin n r,.inr ⟨od,q⟩⟩
 .exact⟨x.nin n r,.inr ⟨o,x.kept n r (by intros;nofun)⟩⟩
structure Kp(ρ:List Addr)(H:Hp)(aj:List Addr)(H':Hp):Prop where
 rd:∀a u,(∀o uy,u≠HO.frz o uy)->(∀y,u≠HO.own y)->a∉ρ->Rd H a u->a∉aj/\Rd H' a u
 lst:∀a vs,a∉ρ->H a=some (.lst vs)->H' a=some (.lst vs)
 tup:∀a vs,a∉ρ->H a=some (.tup vs)->H' a=some (.tup vs)
 ins:∀a C bx fs,a∉ρ->H a=some (.ins C bx fs)->H' a=some (.ins C bx fs)
 get:∀(n:Nat) a,ρ[n]?=some a->aj[n]?=some a
 ext:∀a bY,a∉ρ->H a=some (.ext bY)->a∉aj/\H' a=some (.ext bY)
 xd:∀a fs,a∉ρ->H a=some (.xd fs)->a∉aj/\H' a=some (.xd fs)
 frz:∀a o vs,a∉ρ->H a=some (.frz o (.tup vs))->a∉aj/\H' a=some (.frz o (.tup vs))
theorem Ext.kp(x:Ext ρ H aj H'):Kp ρ H aj H':=⟨λa u _ _ n r=>Rd.ext x n r,λa vs n h=>x.kept n h (by intros;nofun),λa vs n h=>x.kept n h (by intros;nofun),λa C bx fs n h=>x.kept n h (by intros;nofun),λn a h=>x.get h,λa bY n h=>⟨x.nin n h,x.kept n h (by intros;nofun)⟩,λa fs n h=>⟨x.nin n h,x.kept n h (by intros;nofun)⟩,λa o vs n h=>⟨x.nin n h,x.kept n h (by intros;nofun)⟩⟩
theorem w8.kp(x:Kp ρ H aj H'){a:Addr}{vs:List V}(h:w8 ρ H a vs):w8 aj H' a vs:=by
 obtain⟨n,o,d,e⟩:=h;obtain⟨jK,cW⟩:=x.frz a o vs n e;exact⟨jK,o,d,cW⟩
theorem w7.kp(x:Kp ρ H aj H'){a:Addr}{vs:List V}(h:w7 K ρ H a vs):w7 K aj H' a vs:=by
 rcases h with⟨n,r⟩|h
 .exact .inl (x.rd _ _ (by intros;nofun) (by intros;nofun) n r)
 .exact .inr h
theorem LstAt.kp(x:Kp ρ H aj H'){a:Addr}{vs:List V}(h:LstAt ρ H a vs):LstAt aj H' a vs:=⟨(x.rd _ _ (by intros;nofun) (by intros;nofun) h.1 (.inl h.2)).1,x.lst _ _ h.1 h.2⟩
theorem TupAt.kp(x:Kp ρ H aj H'){a:Addr}{vs:List V}(h:TupAt K ρ H a vs):TupAt K aj H' a vs:=by
 rcases h with⟨n,r⟩|h
 .exact .inl ⟨(x.rd _ _ (by intros;nofun) (by intros;nofun) n (.inl r)).1,x.tup _ _ n r⟩
 .exact .inr h
theorem DK.kp(x:Kp ρ H aj H'){a:Addr}{ks vs:List V}(h:DK ρ H a ks vs):DK aj H' a ks vs:=by
 obtain⟨n,kvs,r,au,e2⟩:=h;obtain⟨jK,bM⟩:=x.rd _ _ (by intros;nofun) (by intros;nofun) n r;exact⟨jK,kvs,bM,au,e2⟩
theorem DL.kp(x:Kp ρ H aj H'){w:World}{ds:List D}{a:Addr}{ks vs:List V}(h:DL ρ H w ds a ks vs):DL aj H' w ds a ks vs:=by
 obtain⟨n,hs,es,r,e⟩:=h;obtain⟨jK,bM⟩:=x.ext _ _ n r;exact⟨jK,hs,es,bM,e⟩
theorem DM.kp(x:Kp ρ H aj H'){dvs:List V}{g7:Value}(h:DM ρ H dvs g7):DM aj H' dvs g7:=by
 rcases h with h|⟨n,t,e,nt,ht⟩
 .exact .inl h
 .exact .inr ⟨n,t,e,(x.rd _ _ (by intros;nofun) (by intros;nofun) nt (.inl ht)).1,x.tup _ _ nt ht⟩
theorem r6.kp(x:Kp ρ H aj H'){f:Addr}{T:w5}{da:List (Str×Addr)}(h:r6 ρ H f T da):r6 aj H' f T da:=by
 obtain⟨n,IU,pm,doc,g7,zK,bA,h1,zL,h2,aI⟩:=h;obtain⟨jK,jt⟩:=x.ext _ _ n h1;obtain⟨Y_,qs⟩:=x.ext _ _ zL h2;exact⟨jK,IU,pm,doc,g7,zK,bA,jt,Y_,qs,aI.kp x⟩
def DN(ρ:List Addr)(H:Hp)(aj:List Addr)(H':Hp):Prop:=∀a o u,a∉ρ->H a=some (.frz o u)->a∉aj/\H' a=some (.frz o u)
theorem Ext.QD(x:Ext ρ H aj H'):DN ρ H aj H':=λa o u n h=>⟨x.nin n h,x.kept n h (by intros;nofun)⟩
theorem k0.kp(x:DN ρ H aj H'){da:List (Str×Addr)}:∀{ns:List Str} {vs:List V},k0 ρ H da ns vs->k0 aj H' da ns vs
 |[],_,h=>h
 |n::ns,_,⟨v,r,c,o,u,e,h1,n1,h2,aI,bE,hd,cw⟩=>by
  obtain⟨IV,qs⟩:=x _ _ _ n1 h2;exact⟨v,r,c,o,u,e,h1,IV,qs,aI,bE,hd,k0.kp x cw⟩
mutual
theorem Rep.kp(x:Kp ρ H aj H'):∀(d:D) (v:V),(DN ρ H aj H'\/mJ d=true)->Rep K mg ρ H d v->Rep K mg aj H' d v
 | .non,v,hf,h=>by rw[Rep]at h ⊢;exact h
 | .bl b,v,hf,h=>by rw[Rep]at h ⊢;exact h
 | .int i,v,hf,h=>by rw[Rep]at h ⊢;exact h
 | .str s,v,hf,h=>by rw[Rep]at h ⊢;exact h
 | .ty n,v,hf,h=>by rw[Rep]at h ⊢;exact h
 | .cls c,v,hf,h=>by rw[Rep]at h ⊢;exact h
 | .tup ds,v,hf,h=>by
  rw[Rep]at h ⊢;obtain⟨a,vs,e,t,r⟩:=h;exact⟨a,vs,e,t.kp x,ay.kp x ds vs (hf.imp id λq=>by rw[mJ]at q;exact q) r⟩
 | .bS ds,v,hf,h=>by
  rw[Rep]at h ⊢;obtain⟨a,vs,e,t,r⟩:=h;exact⟨a,vs,e,t.kp x,ay.kp x ds vs (hf.imp id λq=>by rw[mJ]at q;exact q) r⟩
 | .lst ds,v,hf,h=>by
  rw[Rep]at h ⊢;obtain⟨a,vs,e,t,r⟩:=h;exact⟨a,vs,e,t.kp x,ay.kp x ds vs (hf.imp id λq=>by rw[mJ]at q;exact q) r⟩
 | .dct ks ds,v,hf,h=>by
  rw[Rep]at h ⊢;obtain⟨a,bP,vs,e,t,r1,r2⟩:=h;exact⟨a,bP,vs,e,t.kp x,ay.kp x ks bP (hf.imp id λq=>by rw[mJ,Bool.and_eq_true]at q;exact q.1) r1,ay.kp x ds vs (hf.imp id λq=>by rw[mJ,Bool.and_eq_true]at q;exact q.2) r2⟩
 | .dX w ks ds,v,hf,h=>by
  rw[Rep]at h ⊢;obtain⟨a,bP,vs,e,t,r1,r2⟩:=h;exact⟨a,bP,vs,e,t.kp x,ay.kp x ks bP (hf.imp id λq=>by rw[mJ,Bool.and_eq_true]at q;exact q.1) r1,ay.kp x ds vs (hf.imp id λq=>by rw[mJ,Bool.and_eq_true]at q;exact q.2) r2⟩
 | .ins c ns ds,v,hf,h=>by
  rw[Rep]at h ⊢;obtain⟨a,C,bx,fs,e,n,hm,ha,hn,r⟩:=h;exact⟨a,C,bx,fs,e,(x.rd a _ (by intros;nofun) (by intros;nofun) n (.inl ha)).1,hm,x.ins a C bx fs n ha,hn,ay.kp x ds _ (hf.imp id λq=>by rw[mJ]at q;exact q) r⟩
 | .ptr n,v,hf,h=>by
  rw[Rep]at h ⊢;obtain⟨a,e,q⟩:=h;exact⟨a,e,x.get n a q⟩
 | .cy xs,v,hf,h=>by
  rw[Rep]at h ⊢;obtain⟨a,e,q⟩:=h;exact⟨a,e,q.kp x⟩
 | .exc c ns ds,v,hf,h=>by
  rw[Rep]at h ⊢;obtain⟨a,C,d,fs,e,n,nd,hm,ha,hd,hn,r⟩:=h;obtain⟨jK,zM⟩:=x.ext _ _ n ha;obtain⟨w9,k2⟩:=x.xd _ _ nd hd;exact⟨a,C,d,fs,e,jK,w9,hm,zM,k2,hn,ay.kp x ds _ (hf.imp id λq=>by rw[mJ]at q;exact q) r⟩
 | .lam T da,v,hf,h=>by
  rw[Rep]at h ⊢;obtain⟨f,e,h⟩:=h;exact⟨f,e,h.kp x⟩
 | .h4 T o4,v,hf,h=>by
  rw[Rep]at h ⊢;obtain⟨f,da,vs,e,h1,h2,r⟩:=h;rcases hf with hf|hf
  .exact⟨f,da,vs,e,h1.kp x,h2.kp hf,ay.kp x o4 vs (.inl hf) r⟩
  .rw[mJ]at hf;cases hf
theorem ay.kp(x:Kp ρ H aj H'):∀(ds:List D) (vs:List V),(DN ρ H aj H'\/lJ ds=true)->ay K mg ρ H ds vs->ay K mg aj H' ds vs
 |[],vs,_,h=>by rw[ay]at h ⊢;exact h
 |d::ds,vs,hf,h=>by
  rw[ay]at h ⊢;obtain⟨v,r,e,h1,h2⟩:=h;exact⟨v,r,e,Rep.kp x d v (hf.imp id λq=>by rw[lJ,Bool.and_eq_true]at q;exact q.1) h1,ay.kp x ds r (hf.imp id λq=>by rw[lJ,Bool.and_eq_true]at q;exact q.2) h2⟩
end
theorem Rep.ext(x:Ext ρ H aj H'){d:D}{v:V}(h:Rep K mg ρ H d v):Rep K mg aj H' d v:=Rep.kp x.kp d v (.inl x.QD) h
theorem ay.ext(x:Ext ρ H aj H'){ds:List D}{vs:List V}(h:ay K mg ρ H ds vs):ay K mg aj H' ds vs:=ay.kp x.kp ds vs (.inl x.QD) h
theorem cq.ext(x:Ext ρ H aj H'){σ:St}{sl:aL}(h:cq K mg ρ H σ sl):cq K mg aj H' σ sl:=⟨h.len,λi d e=>by
 obtain⟨v,au,r⟩:=h.at_ i d e;exact⟨v,au,r.ext x⟩⟩
theorem w7.df{a:Addr}{vs:List V}(h:w7 K ρ H a vs):SqL K H a vs:=by
 rcases h with⟨_,r⟩|h
 .exact .inl r
 .exact .inr h
theorem LstAt.df{a:Addr}{vs:List V}(h:LstAt ρ H a vs):SqL K H a vs:=.inl (.inl h.2)
theorem w8.df{a:Addr}{vs:List V}(h:w8 ρ H a vs):SqT K H a vs:=by
 obtain⟨_,o,_,e⟩:=h;exact .inl (.inr ⟨o,e⟩)
theorem TupAt.df{a:Addr}{vs:List V}(h:TupAt K ρ H a vs):SqT K H a vs:=by
 rcases h with⟨_,r⟩|h
 .exact .inl (.inl r)
 .exact .inr h
theorem ay.len:∀{ds:List D} {vs:List V},ay K mg ρ H ds vs->ds.length=vs.length
 |[],_,h=>by rw[ay]at h;subst h;rfl
 |d::ds,_,h=>by
  rw[ay]at h;obtain⟨v,r,e,_,h2⟩:=h;subst e;simp[ay.len h2]
theorem ay.get:∀{ds:List D} {vs:List V} {i:Nat} {d:D},ay K mg ρ H ds vs->ds[i]?=some d->∃v,vs[i]?=some v/\Rep K mg ρ H d v
 |[],_,_,_,_,e=>by simp at e
 |x::ds,_,0,d,h,e=>by
  rw[ay]at h;grind
 |x::ds,_,i+1,d,h,e=>by
  rw[ay]at h;obtain⟨v,r,cW,_,h2⟩:=h;subst cW;obtain⟨w,au,q⟩:=ay.get (i:=i) h2 (by simpa using e);grind
theorem ay.get':∀{ds:List D} {vs:List V} {i:Nat} {v:V},ay K mg ρ H ds vs->vs[i]?=some v->∃d,ds[i]?=some d/\Rep K mg ρ H d v:=λ{ds vs i v} h e=>by
 have hl:=h.len;have hi:=(List.getElem?_eq_some_iff.mp e).1;have hd:ds[i]?=some (ds[i]'(by omega)):=by simp
 obtain⟨w,au,q⟩:=h.get hd;simp_all
theorem ay.nil:ay K mg ρ H [] []:=by rw[ay]
theorem ay.cons{d:D}{v:V}{ds:List D}{vs:List V}(h:Rep K mg ρ H d v)(r:ay K mg ρ H ds vs):ay K mg ρ H (d::ds) (v::vs):=by
 rw[ay];grind
theorem ay.append:∀{ds es:List D} {vs ws:List V},ay K mg ρ H ds vs->ay K mg ρ H es ws->ay K mg ρ H (ds++es) (vs++ws)
 |[],_,_,_,h,q=>by rw[ay]at h;grind
 |d::ds,_,_,_,h,q=>by
  rw[ay]at h;obtain⟨v,r,e,h1,h2⟩:=h;subst e;exact ay.cons h1 (ay.append h2 q)
theorem ay.set{d:D}{v:V}(h:Rep K mg ρ H d v):∀{ds:List D} {vs:List V} (i:Nat),ay K mg ρ H ds vs->ay K mg ρ H (ds.set i d) (vs.set i v)
 |[],_,_,q=>by rw[ay]at q;subst q;rfl
 |x::ds,_,0,q=>by
  rw[ay]at q;obtain⟨w,r,e,_,h2⟩:=q;subst e;exact ay.cons h h2
 |x::ds,_,i+1,q=>by
  rw[ay]at q;obtain⟨w,r,e,h1,h2⟩:=q;subst e;exact ay.cons h1 (ay.set h i h2)
theorem ay.take:∀{ds:List D} {vs:List V} (n:Nat),ay K mg ρ H ds vs->ay K mg ρ H (ds.take n) (vs.take n)
 |_,_,0,_=>by rfl
 |[],_,n+1,q=>by rw[ay]at q;subst q;rfl
 |x::ds,_,n+1,q=>by
  rw[ay]at q;obtain⟨w,r,e,h1,h2⟩:=q;subst e;exact ay.cons h1 (ay.take n h2)
theorem ay.drop:∀{ds:List D} {vs:List V} (n:Nat),ay K mg ρ H ds vs->ay K mg ρ H (ds.drop n) (vs.drop n)
 |_,_,0,q=>by simpa using q
 |[],_,n+1,q=>by rw[ay]at q;subst q;rfl
 |x::ds,_,n+1,q=>by
  rw[ay]at q;obtain⟨w,r,e,h1,h2⟩:=q;subst e;simpa using ay.drop n h2
end
section
variable(K:PySem.W.Frag)(mg:Str->Option Value)
def aS(W:Value->Option Addr->Hp->Prop)(ρ:List Addr)(H:Hp)(Q:V->Hp->Prop):Out D->Prop
 | .ok d ak=>∀v aj H',Ext ρ H aj H'->aF K mg aj H' ak->Rep K mg aj H' d v->Q v H'
 | .ex e ak=>∀C dd aj H',Ext ρ H aj H'->aF K mg aj H' ak->jJ K mg aj H' e C dd->W C dd H'
 | .bad=>False
def eu(W:Value->Option Addr->Hp->Prop)(ρ:List Addr)(H:Hp)(Q:List V->Hp->Prop):Out (List D)->Prop
 | .ok ds ak=>∀vs aj H',Ext ρ H aj H'->aF K mg aj H' ak->ay K mg aj H' ds vs->Q vs H'
 | .ex e ak=>∀C dd aj H',Ext ρ H aj H'->aF K mg aj H' ak->jJ K mg aj H' e C dd->W C dd H'
 | .bad=>False
def ft(W:Value->Option Addr->Hp->Prop)(ρ:List Addr)(H:Hp)(Q:Bool->Hp->Prop):Out Bool->Prop
 | .ok b ak=>∀aj H',Ext ρ H aj H'->aF K mg aj H' ak->Q b H'
 | .ex e ak=>∀C dd aj H',Ext ρ H aj H'->aF K mg aj H' ak->jJ K mg aj H' e C dd->W C dd H'
 | .bad=>False
def bL(W:WX)(ρ:List Addr)(H:Hp)(dY:Ends):SO->Prop
 | .nx sl ak=>∀bD aj H',Ext ρ H aj H'->aF K mg aj H' ak->cq K mg aj H' bD sl->dY.nx bD H'
 | .bk sl ak=>∀bD aj H',Ext ρ H aj H'->aF K mg aj H' ak->cq K mg aj H' bD sl->dY.bk bD H'
 | .ct sl ak=>∀bD aj H',Ext ρ H aj H'->aF K mg aj H' ak->cq K mg aj H' bD sl->dY.ct bD H'
 | .rt d ak=>∀v aj H',Ext ρ H aj H'->aF K mg aj H' ak->Rep K mg aj H' d v->dY.rt v H'
 | .ex e sl ak=>∀C dd bD aj H',Ext ρ H aj H'->aF K mg aj H' ak->cq K mg aj H' bD sl->jJ K mg aj H' e C dd->W C dd bD H'
 | .bad=>False
def fx(W:WX)(f:aM):TE:=λσ H Q=>∃ρ S sl,aF K mg ρ H S/\cq K mg ρ H σ sl/\aS K mg (λC d H'=>W C d σ H') ρ H Q (f sl S)
def r7(W:WX)(f:cO):TA:=λσ H Q=>∃ρ S sl,aF K mg ρ H S/\cq K mg ρ H σ sl/\eu K mg (λC d H'=>W C d σ H') ρ H Q (f sl S)
def r9(W:WX)(f:cz):TT:=λσ H Q=>∃ρ S sl,aF K mg ρ H S/\cq K mg ρ H σ sl/\ft K mg (λC d H'=>W C d σ H') ρ H Q (f sl S)
def zN(W:WX)(f:SX):TS:=λdY σ H=>∃ρ S sl,aF K mg ρ H S/\cq K mg ρ H σ sl/\bL K mg W ρ H dY (f sl S)
end
def E(X:Cx)(W:WX)(e:Expr)(f:aM):Prop:=PE X e (fx X.K X.mg W f)
def gq(X:Cx)(W:WX)(es:List Expr)(f:cO):Prop:=PA X es (r7 X.K X.mg W f)
def jL(X:Cx)(W:WX)(e:Expr)(f:cz):Prop:=PT X e (r9 X.K X.mg W f)
def ES(X:Cx)(W:WX)(st:Stmt)(f:SX):Prop:=PS X st (zN X.K X.mg W f)
def gu(X:Cx)(W:WX)(st:List Stmt)(f:SX):Prop:=PSs X st (zN X.K X.mg W f)
section
variable{X:Cx}
theorem PE.imp{e:Expr}{t t':TE}(h:PE X e t)(k:∀σ H Q,t' σ H Q->t σ H Q):PE X e t':=⟨λpins s σ H Q I q=>h.run pins s σ H Q I (k σ H Q q)⟩
theorem PA.imp{e:List Expr}{t t':TA}(h:PA X e t)(k:∀σ H Q,t' σ H Q->t σ H Q):PA X e t':=⟨λpos pins s σ H Q I q=>h.run pos pins s σ H Q I (k σ H Q q)⟩
theorem PT.imp{e:Expr}{t t':TT}(h:PT X e t)(k:∀σ H Q,t' σ H Q->t σ H Q):PT X e t':=⟨λpins s σ H Q I q=>h.run pins s σ H Q I (k σ H Q q)⟩
theorem PS.imp{e:Stmt}{t t':TS}(h:PS X e t)(k:∀D σ H,t' D σ H->t D σ H):PS X e t':=⟨λpins s σ H D I q=>h.run pins s σ H D I (k D σ H q)⟩
theorem PSs.imp{e:List Stmt}{t t':TS}(h:PSs X e t)(k:∀D σ H,t' D σ H->t D σ H):PSs X e t':=⟨λpins s σ H D I q=>h.run pins s σ H D I (k D σ H q)⟩
end
section
variable{K:PySem.W.Frag}{mg:Str->Option Value}{ρ aj:List Addr}{H H':Hp}
variable{W:Value->Option Addr->Hp->Prop}
theorem aS.from{Q:V->Hp->Prop}{o:Out D}(x:Ext ρ H aj H')(h:aS K mg W ρ H Q o):aS K mg W aj H' Q o:=by
 cases o with
 |ok d S=>exact λv aP aH y w r=>h v aP aH (x.trans y) w r
 |ex e S=>exact λC dd aP aH y w r=>h C dd aP aH (x.trans y) w r
 |bad=>exact h
theorem eu.from{Q:List V->Hp->Prop}{o:Out (List D)}(x:Ext ρ H aj H')(h:eu K mg W ρ H Q o):eu K mg W aj H' Q o:=by
 cases o with
 |ok d S=>exact λv aP aH y w r=>h v aP aH (x.trans y) w r
 |ex e S=>exact λC dd aP aH y w r=>h C dd aP aH (x.trans y) w r
 |bad=>exact h
theorem ft.from{Q:Bool->Hp->Prop}{o:Out Bool}(x:Ext ρ H aj H')(h:ft K mg W ρ H Q o):ft K mg W aj H' Q o:=by
 cases o with
 |ok d S=>exact λaP aH y w=>h aP aH (x.trans y) w
 |ex e S=>exact λC dd aP aH y w r=>h C dd aP aH (x.trans y) w r
 |bad=>exact h
theorem bL.from{QE:WX}{dY:Ends}{o:SO}(x:Ext ρ H aj H')(h:bL K mg QE ρ H dY o):bL K mg QE aj H' dY o:=by
 cases o with
 |nx sl S=>exact λσ aP aH y w r=>h σ aP aH (x.trans y) w r
 |bk sl S=>exact λσ aP aH y w r=>h σ aP aH (x.trans y) w r
 |ct sl S=>exact λσ aP aH y w r=>h σ aP aH (x.trans y) w r
 |rt d S=>exact λv aP aH y w r=>h v aP aH (x.trans y) w r
 |ex e sl S=>exact λC dd σ aP aH y w r1 r2=>h C dd σ aP aH (x.trans y) w r1 r2
 |bad=>exact h
theorem aS.e3{Q:V->Hp->Prop}{o:Out D}{k:D->Store->Out D}(h:aS K mg W ρ H Q (o.bind k)) :
  aS K mg W ρ H (λv H1=>∃aB S1 d,Ext ρ H aB H1/\aF K mg aB H1 S1/\Rep K mg aB H1 d v/\o=.ok d S1/\aS K mg W aB H1 Q (k d S1)) o:=by
 cases o with
 |ok d S=>exact λv aP aH y w r=>⟨aP,S,d,y,w,r,rfl,aS.from y h⟩
 |ex e S=>exact h
 |bad=>exact h
theorem aS.qt{Q:List V->Hp->Prop}{o:Out D}{k:D->Store->Out (List D)}(h:eu K mg W ρ H Q (o.bind k)) :
  aS K mg W ρ H (λv H1=>∃aB S1 d,Ext ρ H aB H1/\aF K mg aB H1 S1/\Rep K mg aB H1 d v/\o=.ok d S1/\eu K mg W aB H1 Q (k d S1)) o:=by
 cases o with
 |ok d S=>exact λv aP aH y w r=>⟨aP,S,d,y,w,r,rfl,eu.from y h⟩
 |ex e S=>exact h
 |bad=>exact h
theorem aS.bindB{Q:Bool->Hp->Prop}{o:Out D}{k:D->Store->Out Bool}(h:ft K mg W ρ H Q (o.bind k)) :
  aS K mg W ρ H (λv H1=>∃aB S1 d,Ext ρ H aB H1/\aF K mg aB H1 S1/\Rep K mg aB H1 d v/\o=.ok d S1/\ft K mg W aB H1 Q (k d S1)) o:=by
 cases o with
 |ok d S=>exact λv aP aH y w r=>⟨aP,S,d,y,w,r,rfl,ft.from y h⟩
 |ex e S=>exact h
 |bad=>exact h
theorem eu.e3{Q:V->Hp->Prop}{o:Out (List D)}{k:List D->Store->Out D}(h:aS K mg W ρ H Q (o.bind k)) :
  eu K mg W ρ H (λv H1=>∃aB S1 d,Ext ρ H aB H1/\aF K mg aB H1 S1/\ay K mg aB H1 d v/\o=.ok d S1/\aS K mg W aB H1 Q (k d S1)) o:=by
 cases o with
 |ok d S=>exact λv aP aH y w r=>⟨aP,S,d,y,w,r,rfl,aS.from y h⟩
 |ex e S=>exact h
 |bad=>exact h
theorem eu.qt{Q:List V->Hp->Prop}{o:Out (List D)}{k:List D->Store->Out (List D)}(h:eu K mg W ρ H Q (o.bind k)) :
  eu K mg W ρ H (λv H1=>∃aB S1 d,Ext ρ H aB H1/\aF K mg aB H1 S1/\ay K mg aB H1 d v/\o=.ok d S1/\eu K mg W aB H1 Q (k d S1)) o:=by
 cases o with
 |ok d S=>exact λv aP aH y w r=>⟨aP,S,d,y,w,r,rfl,eu.from y h⟩
 |ex e S=>exact h
 |bad=>exact h
theorem ft.e3{Q:V->Hp->Prop}{o:Out Bool}{k:Bool->Store->Out D}(h:aS K mg W ρ H Q (o.bind k)) :
  ft K mg W ρ H (λb H1=>∃aB S1,Ext ρ H aB H1/\aF K mg aB H1 S1/\o=.ok b S1/\aS K mg W aB H1 Q (k b S1)) o:=by
 cases o with
 |ok d S=>exact λaP aH y w=>⟨aP,S,y,w,rfl,aS.from y h⟩
 |ex e S=>exact h
 |bad=>exact h
theorem ft.bindB{Q:Bool->Hp->Prop}{o:Out Bool}{k:Bool->Store->Out Bool}(h:ft K mg W ρ H Q (o.bind k)) :
  ft K mg W ρ H (λb H1=>∃aB S1,Ext ρ H aB H1/\aF K mg aB H1 S1/\o=.ok b S1/\ft K mg W aB H1 Q (k b S1)) o:=by
 cases o with
 |ok d S=>exact λaP aH y w=>⟨aP,S,y,w,rfl,ft.from y h⟩
 |ex e S=>exact h
 |bad=>exact h
end
def ae(i:Nat):aM:=λsl S=>match sl[i]? with
 |some (some d)=>.ok d S
 |_=>.bad
def ah(d:D):aM:=λ_ S=>.ok d S
abbrev bZ:=D->D->Store->Out D
abbrev w_:=D->Store->Out D
abbrev aD:=List D->Store->Out D
def az(sem:bZ)(fa fb:aM):aM:=λsl S=>(fa sl S).bind λd S1=>(fb sl S1).bind λe S2=>sem d e S2
def nW(sem:w_)(fa:aM):aM:=λsl S=>(fa sl S).bind sem
def aw(sem:aD)(fa:cO):aM:=λsl S=>(fa sl S).bind sem
def ai:cO:=λ_ S=>.ok [] S
def ag(f:aM)(g:cO):cO:=λsl S=>(f sl S).bind λd S1=>(g sl S1).bind λds S2=>.ok (d::ds) S2
def cX(f g:bZ):bZ:=λd e S=>match f d e S with
 | .bad=>g d e S
 |r=>r
def nX(f g:aD):aD:=λd S=>match f d S with
 | .bad=>g d S
 |r=>r
def aK(f:aM):cz:=λsl S=>(f sl S).bind λd S1=>match d with
 | .bl b=>.ok b S1
 |_=>.bad
def dO(f:cz):cz:=λsl S=>(f sl S).bind λb S1=>.ok (!b) S1
def mL(f g:cz):cz:=λsl S=>(f sl S).bind λb S1=>if b=true then g sl S1 else .ok false S1
def e4(f g:cz):cz:=λsl S=>(f sl S).bind λb S1=>if b=true then .ok true S1 else g sl S1
def iB(f g:aM):aM:=λsl S=>(f sl S).bind λd S1=>match d with
 | .bl true=>g sl S1
 | .bl false=>.ok (.bl false) S1
 |_=>.bad
def uz(f g:aM):aM:=λsl S=>(f sl S).bind λd S1=>match d with
 | .bl true=>.ok (.bl true) S1
 | .bl false=>g sl S1
 |_=>.bad
def DP(f:aM):aM:=λsl S=>(f sl S).bind λd S1=>match d with
 | .bl b=>.ok (.bl (!b)) S1
 |_=>.bad
def eT(c:cz)(f g:aM):aM:=λsl S=>(c sl S).bind λb S1=>if b=true then f sl S1 else g sl S1
def nY(s1 s2:bZ)(fa fb fc:aM):aM:=λsl S=>(fa sl S).bind λd S1=>(fb sl S1).bind λe S2=>(s1 d e S2).bind λr aW=>match r with
 | .bl true=>(fc sl aW).bind λg b5=>s2 e g b5
 | .bl false=>.ok (.bl false) aW
 |_=>.bad
section
variable{X:Cx}{W:WX}
structure cA(X:Cx)(f:Value->Value->Sem Value)(sem:bZ):Prop where
 go:∃r:R2,OpR X f r/\∀(Wp:Value->Option Addr->Hp->Prop) (ρ:List Addr) (H:Hp) (S:Store) (d e:D) (x y:V) (Q:VK),aF X.K X.mg ρ H S->Rep X.K X.mg ρ H d x->Rep X.K X.mg ρ H e y->aS X.K X.mg Wp ρ H Q (sem d e S)->r x y H Q
structure QF(X:Cx)(f:Value->Sem Value)(sem:w_):Prop where
 go:∃r:V->Hp->VK->Prop,UnR X f r/\∀(Wp:Value->Option Addr->Hp->Prop) (ρ:List Addr) (H:Hp) (S:Store) (d:D) (x:V) (Q:VK),aF X.K X.mg ρ H S->Rep X.K X.mg ρ H d x->aS X.K X.mg Wp ρ H Q (sem d S)->r x H Q
structure hN(X:Cx)(f:Value)(sem:aD):Prop where
 go:∃r:List V->Hp->VK->Prop,CallR X f r/\∀(Wp:Value->Option Addr->Hp->Prop) (ρ:List Addr) (H:Hp) (S:Store) (ds:List D) (xs:List V) (Q:VK),aF X.K X.mg ρ H S->ay X.K X.mg ρ H ds xs->aS X.K X.mg Wp ρ H Q (sem ds S)->r xs H Q
theorem cA.or{f:Value->Value->Sem Value}{s t:bZ}(h:cA X f s)(h':cA X f t):cA X f (cX s t):=by
 obtain⟨r,o,g⟩:=h.go;obtain⟨bM,e6,fS⟩:=h'.go;refine⟨_,o.or e6,λWp ρ H S d e x y Q w aC a_ p=>?_⟩;unfold cX at p;grind
theorem hN.or{f:Value}{s t:aD}(h:hN X f s)(h':hN X f t):hN X f (nX s t):=by
 obtain⟨r,o,g⟩:=h.go;obtain⟨bM,e6,fS⟩:=h'.go;refine⟨_,CallR.or o e6,λWp ρ H S d x Q w aC p=>?_⟩;unfold nX at p;grind
theorem cj{K:PySem.W.Frag}{mg:Str->Option Value}{Wp:Value->Option Addr->Hp->Prop}{ρ:List Addr}{H:Hp}{Q:VK}{d:D}{S:Store}{v:V}(h:aS K mg Wp ρ H Q (.ok d S))(w:aF K mg ρ H S)(r:Rep K mg ρ H d v):Q v H :=
 h v ρ H Ext.refl w r
theorem aq{i:Nat}{x:Str}{pos:Pos}(gv:X.N[i]?=some x:=by rfl)(bB:Vis X.env.scope x:=by first|exact Or.inl rfl|exact Or.inr (Or.inl rfl)|exact Or.inr (Or.inr rfl))(hd:(x==("__debug__":Str))=false:=by decide)
  (jM:(x==("__classdict__":Str))=false:=by decide):E X W (.Name x pos) (ae i):=by
 refine PE.imp (pe_var gv bB hd jM) λσ H Q h=>?_;obtain⟨ρ,S,sl,w,r,p⟩:=h;unfold ae at p;cases q:sl[i]? with
 |none=>rw[q]at p;exact p.elim
 |some o =>
  cases o with
  |none=>rw[q]at p;exact p.elim
  |some d =>
   rw[q]at p;obtain⟨v,e,aR⟩:=r.at_ i d q;exact⟨v,e,cj p w aR⟩
theorem aJ{i:Int}{j pos}:E X W (.Constant (.int i) j pos) (ah (.int i)):=PE.imp pe_int λσ H Q ⟨ρ,S,sl,w,r,p⟩=>cj (d:=.int i) p w (by rw[Rep])
theorem o5{b:Bool}{j pos}:E X W (.Constant (.bool b) j pos) (ah (.bl b)):=PE.imp pe_bl λσ H Q ⟨ρ,S,sl,w,r,p⟩=>cj (d:=.bl b) p w (by rw[Rep])
theorem DQ{j pos}:E X W (.Constant .none j pos) (ah .non):=PE.imp pe_non λσ H Q ⟨ρ,S,sl,w,r,p⟩=>cj (d:=.non) p w (by rw[Rep])
theorem bF{x:Str}{j pos}:E X W (.Constant (.str x) j pos) (ah (.str x)):=PE.imp pe_str λσ H Q ⟨ρ,S,sl,w,r,p⟩=>cj (d:=.str x) p w (by rw[Rep])
theorem IW{x:Str}{v:V}{u:Value}{pos:Pos}{d:D}(hg:Gl X x)(hm:X.mg x=some u)(aR:RelV v u)(rd:∀ρ H,Rep X.K X.mg ρ H d v)(hd:(x==("__debug__":Str))=false:=by decide):E X W (.Name x pos) (ah d) :=
 PE.imp (pe_glob hg hm aR hd) λσ H Q ⟨ρ,S,sl,w,r,p⟩=>cj (d:=d) p w (rd ρ H)
theorem h5{x:Str}{n:String}{pos:Pos}(hg:Gl X x)(hm:X.mg x=none)(bB:bootBuiltins x=some (.type n))(hn:x≠"__name__":=by decide)(hd:(x==("__debug__":Str))=false:=by decide):E X W (.Name x pos) (ah (.ty n)) :=
 PE.imp (pe_bltn (v:=.ty n) hg hm bB rfl hn hd) λσ H Q ⟨ρ,S,sl,w,r,p⟩=>cj (d:=.ty n) p w (by rw[Rep])
theorem QG{x:Str}{C:Addr}{pos:Pos}(hg:Gl X x)(hm:X.mg x=some (.ref C))(hd:(x==("__debug__":Str))=false:=by decide):E X W (.Name x pos) (ah (.cls x)) :=
 PE.imp (pe_glob (v:=.ref C) hg hm rfl hd) λσ H Q ⟨ρ,S,sl,w,r,p⟩=>cj (d:=.cls x) p w (by rw[Rep];grind)
theorem aS.mono{K:PySem.W.Frag}{mg:Str->Option Value}{Wp:Value->Option Addr->Hp->Prop}{ρ:List Addr}{H:Hp}{Q ew:VK}{o:Out D}(h:aS K mg Wp ρ H Q o)(k:∀v H',Q v H'->ew v H'):aS K mg Wp ρ H ew o:=by
 cases o with
 |ok d S=>exact λv aj H' x w r=>k _ _ (h v aj H' x w r)
 |ex e S=>exact h
 |bad=>exact h
theorem eu.mono{K:PySem.W.Frag}{mg:Str->Option Value}{Wp:Value->Option Addr->Hp->Prop}{ρ:List Addr}{H:Hp}{Q ew:List V->Hp->Prop}{o:Out (List D)}(h:eu K mg Wp ρ H Q o)(k:∀v H',Q v H'->ew v H'):eu K mg Wp ρ H ew o:=by
 cases o with
 |ok d S=>exact λv aj H' x w r=>k _ _ (h v aj H' x w r)
 |ex e S=>exact h
 |bad=>exact h
theorem ft.mono{K:PySem.W.Frag}{mg:Str->Option Value}{Wp:Value->Option Addr->Hp->Prop}{ρ:List Addr}{H:Hp}{Q ew:Bool->Hp->Prop}{o:Out Bool}(h:ft K mg Wp ρ H Q o)(k:∀v H',Q v H'->ew v H'):ft K mg Wp ρ H ew o:=by
 cases o with
 |ok d S=>exact λaj H' x w=>k _ _ (h aj H' x w)
 |ex e S=>exact h
 |bad=>exact h
variable{a b c:Expr}{fa fb fc:aM}{pos:Pos}
theorem zO{f:aM}{g:aL->D->Store->Out D}{K:PySem.W.Frag}{mg:Str->Option Value}{σ:L2.St}{H:Hp}{Q:VK}{k:V->Hp->Prop}(h:fx K mg W (λsl S=>(f sl S).bind (g sl)) σ H Q)
  (hk:∀ρ S sl H1 d v,aF K mg ρ H1 S->cq K mg ρ H1 σ sl->Rep K mg ρ H1 d v->aS K mg (λC d H'=>W C d σ H') ρ H1 Q (g sl d S)->k v H1):fx K mg W f σ H k:=by
 obtain⟨ρ,S,sl,w,r,p⟩:=h;exact⟨ρ,S,sl,w,r,aS.mono (aS.e3 p) λv H1 ⟨aB,S1,d,x1,aE,r1,_,p1⟩=>hk aB S1 sl H1 d v aE (r.ext x1) r1 p1⟩
theorem DR{g:bZ}{K:PySem.W.Frag}{mg:Str->Option Value}{σ:L2.St}{H:Hp}{Q:VK}{k:V->V->Hp->Prop}(h:fx K mg W (az g fa fb) σ H Q)
  (hk:∀ρ S aH d e x y,aF K mg ρ aH S->Rep K mg ρ aH d x->Rep K mg ρ aH e y->aS K mg (λC d H'=>W C d σ H') ρ aH Q (g d e S)->k x y aH):fx K mg W fa σ H λx H1=>fx K mg W fb σ H1 λy aH=>k x y aH:=by
 obtain⟨ρ,S,sl,w,r,p⟩:=h;refine⟨ρ,S,sl,w,r,aS.mono (aS.e3 p) λv H1 ⟨aB,S1,d,x1,aE,r1,_,p1⟩=>?_⟩;refine⟨aB,S1,sl,aE,r.ext x1,aS.mono (aS.e3 p1) λy aH ⟨aP,S2,e,x2,cD,r2,_,p2⟩=>?_⟩;exact hk aP S2 aH d e v y cD (r1.ext x2) r2 p2
theorem bQ{op:Operator}{sem:bZ}(aQ:cA X (binaryOp op) sem)(ha:E X W a fa)(hb:E X W b fb):E X W (.BinOp a op b pos) (az sem fa fb):=by
 obtain⟨r,o,g⟩:=aQ.go;exact PE.imp (pe_op o ha hb) λσ H Q h=>DR h λρ S aH d e x y w aC a_ p=>g _ ρ aH S d e x y Q w aC a_ p
theorem iC{op:CmpOp}{sem:bZ}(aQ:cA X (compareOp op) sem)(ha:E X W a fa)(hb:E X W b fb)(hm:behindInMarks op b=false:=by first|exact nomark _|rfl):E X W (.Compare a [op] [b] pos) (az sem fa fb):=by
 obtain⟨r,o,g⟩:=aQ.go;exact PE.imp (pe_cmpR o ha hb hm) λσ H Q h=>DR h λρ S aH d e x y w aC a_ p=>g _ ρ aH S d e x y Q w aC a_ p
theorem QH{op:UnaryOp}{sem:w_}(aQ:QF X (unaryOp op) sem)(ha:E X W a fa):E X W (.UnaryOp op a pos) (nW sem fa):=by
 obtain⟨r,o,g⟩:=aQ.go;exact PE.imp (pe_un o ha) λσ H Q h=>zO (g:=λ_=>sem) h λρ S sl H1 d v w _ aR p=>g _ ρ H1 S d v Q w aR p
theorem ck{op:CmpOp}{sem:bZ}(aQ:cA X (compareOp op) sem)(ha:E X W a fa)(hb:E X W b fb)(hm:behindInMarks op b=false:=by first|exact nomark _|rfl):jL X W (.Compare a [op] [b] pos) (aK (az sem fa fb)):=by
 obtain⟨r,o,g⟩:=aQ.go;refine PT.imp (pt_cmpR o ha hb hm) λσ H Q h=>?_;obtain⟨ρ,S,sl,w,rs,p⟩:=h;have p':=aS.bindB p;refine DR (Q:=λx H'=>∃k,x=.bl k/\Q k H') ⟨ρ,S,sl,w,rs,aS.mono p' λv H1 ⟨aB,S1,d,x1,aE,r1,_,p1⟩=>?_⟩ λρ S aH d e x y w aC a_ p=>g _ ρ aH S d e x y _ w aC a_ p;cases d with
 |bl k =>
  rw[Rep]at r1;exact⟨k,r1,p1 aB H1 Ext.refl aE⟩
 |_=>exact p1.elim
theorem gx(ha:E X W a fa)(he:∀whole,isTrue a X.env whole=(do let v <-whole;standAt a.pos;holding [v] (truthy v)):=by intro _;rfl):jL X W a (aK fa):=by
 refine PT.imp (pt_val ha he) λσ H Q h=>?_;obtain⟨ρ,S,sl,w,rs,p⟩:=h;refine⟨ρ,S,sl,w,rs,aS.mono (aS.bindB p) λv H1 ⟨aB,S1,d,x1,aE,r1,_,p1⟩=>?_⟩;cases d with
 |bl k =>
  rw[Rep]at r1;exact⟨k,r1,p1 aB H1 Ext.refl aE⟩
 |_=>exact p1.elim
def f9(X:Cx)(W:WX)(e:Expr)(f:cz):Prop:=PW X e (r9 X.K X.mg W f)
theorem f9.eb{e:Expr}{f:cz}(h:f9 X W e f):jL X W e f:=PW.pt h
theorem PW.imp{e:Expr}{t t':TT}(h:PW X e t)(k:∀σ H Q,t' σ H Q->t σ H Q):PW X e t':=⟨λY' pins s σ H Q I q=>h.run Y' pins s σ H Q I (k σ H Q q)⟩
variable{ga DS:cz}{rest:List Expr}
theorem DT(ha:jL X W a ga):f9 X W (.BoolOp .And [a] pos) ga:=pw_and1 ha
theorem lK(ha:jL X W a ga):f9 X W (.BoolOp .Or [a] pos) ga:=pw_or1 ha
theorem DU(ha:jL X W a ga)(hb:f9 X W (.BoolOp .And (b::rest) pos) DS):f9 X W (.BoolOp .And (a::b::rest) pos) (mL ga DS):=by
 refine PW.imp (pw_and ha hb) λσ H Q h=>?_;obtain⟨ρ,S,sl,w,rs,p⟩:=h;refine⟨ρ,S,sl,w,rs,ft.mono (ft.bindB p) λk H1 ⟨aB,S1,x1,aE,_,p1⟩=>?_⟩;cases k with
 |true=>exact⟨aB,S1,sl,aE,rs.ext x1,p1⟩
 |false=>exact p1 aB H1 Ext.refl aE
theorem ju(ha:jL X W a ga)(hb:f9 X W (.BoolOp .Or (b::rest) pos) DS):f9 X W (.BoolOp .Or (a::b::rest) pos) (e4 ga DS):=by
 refine PW.imp (pw_or ha hb) λσ H Q h=>?_;obtain⟨ρ,S,sl,w,rs,p⟩:=h;refine⟨ρ,S,sl,w,rs,ft.mono (ft.bindB p) λk H1 ⟨aB,S1,x1,aE,_,p1⟩=>?_⟩;cases k with
 |false=>exact⟨aB,S1,sl,aE,rs.ext x1,p1⟩
 |true=>exact p1 aB H1 Ext.refl aE
theorem h6(ha:jL X W a ga):jL X W (.UnaryOp .Not a pos) (dO ga):=by
 refine PT.imp (pt_not ha) λσ H Q h=>?_;obtain⟨ρ,S,sl,w,rs,p⟩:=h;exact⟨ρ,S,sl,w,rs,ft.mono (ft.bindB p) λk H1 ⟨aB,S1,x1,aE,_,p1⟩=>p1 aB H1 Ext.refl aE⟩
theorem o6{op:BoolOp}(ha:E X W a fa):E X W (.BoolOp op [a] pos) fa:=pe_one ha
def Zb(g:aM):aL->D->Store->Out D:=λsl d S1=>match d with
 | .bl true=>g sl S1
 | .bl false=>.ok (.bl false) S1
 |_=>.bad
def Zd(g:aM):aL->D->Store->Out D:=λsl d S1=>match d with
 | .bl true=>.ok (.bl true) S1
 | .bl false=>g sl S1
 |_=>.bad
def Ze:aL->D->Store->Out D:=λsl d S1=>match d with
 | .bl b=>.ok (.bl (!b)) S1
 |_=>.bad
theorem nZ(ha:E X W a fa)(hb:E X W (.BoolOp .And (b::rest) pos) fb):E X W (.BoolOp .And (a::b::rest) pos) (iB fa fb):=by
 refine PE.imp (pe_and ha hb) λσ H Q h=>zO (g:=Zb fb) h λρ S sl H1 d v w r1 aR p=>?_;cases d with
 |bl k =>
  rw[Rep]at aR;refine⟨k,aR,?_⟩;cases k with
  |true=>rw[if_pos rfl];exact⟨ρ,S,sl,w,r1,p⟩
  |false=>rw[if_neg j8];exact cj p w (by rw[Rep])
 |_=>exact p.elim
theorem QI(ha:E X W a fa)(hb:E X W (.BoolOp .Or (b::rest) pos) fb):E X W (.BoolOp .Or (a::b::rest) pos) (uz fa fb):=by
 refine PE.imp (pe_or ha hb) λσ H Q h=>zO (g:=Zd fb) h λρ S sl H1 d v w r1 aR p=>?_;cases d with
 |bl k =>
  rw[Rep]at aR;refine⟨k,aR,?_⟩;cases k with
  |false=>rw[if_neg j8];exact⟨ρ,S,sl,w,r1,p⟩
  |true=>rw[if_pos rfl];exact cj p w (by rw[Rep])
 |_=>exact p.elim
theorem Zf(ha:E X W a fa):E X W (.UnaryOp .Not a pos) (DP fa):=by
 refine PE.imp (pe_not ha) λσ H Q h=>zO (g:=Ze) h λρ S sl H1 d v w r1 aR p=>?_;cases d with
 |bl k =>
  rw[Rep]at aR;exact⟨k,aR,cj p w (by rw[Rep])⟩
 |_=>exact p.elim
theorem jN(hc:jL X W c ga)(ha:E X W a fa)(hb:E X W b fb):E X W (.IfExp c a b pos) (eT ga fa fb):=by
 refine PE.imp (pe_ifExp hc ha hb) λσ H Q h=>?_;obtain⟨ρ,S,sl,w,rs,p⟩:=h;refine⟨ρ,S,sl,w,rs,ft.mono (ft.e3 p) λk H1 ⟨aB,S1,x1,aE,_,p1⟩=>?_⟩;cases k with
 |true=>exact⟨aB,S1,sl,aE,rs.ext x1,p1⟩
 |false=>exact⟨aB,S1,sl,aE,rs.ext x1,p1⟩
theorem QJ{s1 s2:bZ}{f g:Value->Value->Sem Value}(h1:cA X f s1)(h2:cA X g s2):∃r bM:R2,OpR X f r/\OpR X g bM/\∀{σ:L2.St} {H:Hp} {Q:VK},fx X.K X.mg W (nY s1 s2 fa fb fc) σ H Q->tChain r bM (fx X.K X.mg W fa) (fx X.K X.mg W fb) (fx X.K X.mg W fc) σ H Q:=by
 obtain⟨r,o,g1⟩:=h1.go;obtain⟨bM,e6,g2⟩:=h2.go;refine⟨r,bM,o,e6,λ{σ H Q} h=>?_⟩;obtain⟨ρ,S,sl,w,rs,p⟩:=h;refine⟨ρ,S,sl,w,rs,aS.mono (aS.e3 p) λv H1 ⟨aB,S1,d,x1,aE,r1,_,p1⟩=>?_⟩;refine⟨aB,S1,sl,aE,rs.ext x1,aS.mono (aS.e3 p1) λy aH ⟨aP,S2,e,x2,cD,r2,_,p2⟩=>?_⟩;refine g1 _ aP aH S2 d e v y _ cD (r1.ext x2) r2 (aS.mono (aS.e3 p2) λz dG ⟨hO,aW,k,dc,g8,bU,_,cu⟩=>?_);cases k with
 |bl k =>
  rw[Rep]at bU;refine⟨k,bU,?_⟩;cases k with
  |true =>
   rw[if_pos rfl];refine⟨hO,aW,sl,g8,(rs.ext (x1.trans (x2.trans dc))),aS.mono (aS.e3 cu) λu jv ⟨r',b5,m,dP,qu,cI,_,dZ⟩=>?_⟩;exact g2 _ r' jv b5 e m y u Q qu (r2.ext (dc.trans dP)) cI dZ
  |false =>
   rw[if_neg j8];exact cj cu g8 (by rw[Rep])
 |_=>exact cu.elim
theorem Zg{op uA:CmpOp}{s1 s2:bZ}(h1:cA X (compareOp op) s1)(h2:cA X (compareOp uA) s2)(ha:E X W a fa)(hb:E X W b fb)(hc:E X W c fc)(hm:lastMarks [op,uA] [b,c]=false:=by rfl):E X W (.Compare a [op,uA] [b,c] pos) (nY s1 s2 fa fb fc):=by
 obtain⟨r,bM,o,e6,k⟩:=QJ (W:=W) (fa:=fa) (fb:=fb) (fc:=fc) h1 h2;exact PE.imp (pe_chain o e6 ha hb hc hm) λσ H Q h=>k h
theorem QK{op uA:CmpOp}{s1 s2:bZ}(h1:cA X (compareOp op) s1)(h2:cA X (compareOp uA) s2)(ha:E X W a fa)(hb:E X W b fb)(hc:E X W c fc)(hm:lastMarks [op,uA] [b,c]=false:=by rfl):jL X W (.Compare a [op,uA] [b,c] pos) (aK (nY s1 s2 fa fb fc)):=by
 obtain⟨r,bM,o,e6,k⟩:=QJ (W:=W) (fa:=fa) (fb:=fb) (fc:=fc) h1 h2;refine PT.imp (pt_chain o e6 ha hb hc hm) λσ H Q h=>?_;obtain⟨ρ,S,sl,w,rs,p⟩:=h;refine k (Q:=λx H'=>∃k,x=.bl k/\Q k H') ⟨ρ,S,sl,w,rs,aS.mono (aS.bindB p) λv H1 ⟨aB,S1,d,x1,aE,r1,_,p1⟩=>?_⟩;cases d with
 |bl k =>
  rw[Rep]at r1;exact⟨k,r1,p1 aB H1 Ext.refl aE⟩
 |_=>exact p1.elim
theorem aA:gq X W [] ai:=PA.imp pa_nil λσ H Q ⟨ρ,S,sl,w,rs,p⟩=>p [] ρ H Ext.refl w ay.nil
theorem QL{f:aM}{g:cO}{K:PySem.W.Frag}{mg:Str->Option Value}{σ:L2.St}{H:Hp}{Q:List V->Hp->Prop}(h:r7 K mg W (ag f g) σ H Q):fx K mg W f σ H λx H1=>r7 K mg W g σ H1 λxs aH=>Q (x::xs) aH:=by
 obtain⟨ρ,S,sl,w,r,p⟩:=h;refine⟨ρ,S,sl,w,r,aS.mono (aS.qt p) λv H1 ⟨aB,S1,d,x1,aE,r1,_,p1⟩=>?_⟩;refine⟨aB,S1,sl,aE,r.ext x1,eu.mono (eu.qt p1) λy aH ⟨aP,S2,e,x2,cD,r2,_,p2⟩=>?_⟩;exact p2 (v::y) aP aH Ext.refl cD (ay.cons (r1.ext x2) r2)
theorem av{e:Expr}{es:List Expr}{f:aM}{g:cO}(ha:E X W e f)(hr:gq X W es g)(hs:starEach (e::es) X.env=(false,eval e X.env)::starEach es X.env:=by rfl):gq X W (e::es) (ag f g) :=
 PA.imp (pa_cons ha hr hs) λσ H Q h=>QL h
theorem sd{f:cO}{sem:aD}{K:PySem.W.Frag}{mg:Str->Option Value}{σ:L2.St}{H:Hp}{Q:VK}{k:List V->Hp->Prop}(h:fx K mg W (aw sem f) σ H Q)
  (hk:∀ρ S H1 ds vs,aF K mg ρ H1 S->ay K mg ρ H1 ds vs->aS K mg (λC d H'=>W C d σ H') ρ H1 Q (sem ds S)->k vs H1):r7 K mg W f σ H k:=by
 obtain⟨ρ,S,sl,w,r,p⟩:=h;exact⟨ρ,S,sl,w,r,eu.mono (eu.e3 p) λv H1 ⟨aB,S1,d,x1,aE,r1,_,p1⟩=>hk aB S1 H1 d v aE r1 p1⟩
end
section
variable{K:PySem.W.Frag}{mg:Str->Option Value}{ρ:List Addr}{H:Hp}{S:Store}
theorem Ext.iD{p:Addr}{o:HO}(hp:H p=none):Ext ρ H ρ (upd H p o):=⟨⟨[],by simp⟩,λa h n=>absurd h n,λa u n h=>.inl (by rw[upd_ne (ne_of_none h hp)];exact h)⟩
theorem aF.nin(w:aF K mg ρ H S){p:Addr}(hp:H p=none):p∉ρ:=λq=>w.tr p q hp
theorem i3.ext{aj:List Addr}{H':Hp}(x:Ext ρ H aj H'){a:Addr}{m:dk}(e:H' a=H a)(h:i3 K mg ρ H a m):i3 K mg aj H' a m:=by
 cases m with
 |lst ds =>
  obtain⟨vs,h1,h2⟩:=h;exact⟨vs,e.trans h1,h2.ext x⟩
 |dct lk ks ds =>
  obtain⟨kvs,h1,h2,aI⟩:=h;refine⟨kvs,?_,h2.ext x,aI.ext x⟩;cases lk with
  |true =>
   rw[if_pos rfl]at h1 ⊢;rcases h1 with h1|⟨o,h1⟩
   .exact .inl (e.trans h1)
   .exact .inr ⟨o,e.trans h1⟩
  |false =>
   grind
 |dX w ks ds =>
  obtain⟨hs,es,bP,vs,h1,h2,aI,bE⟩:=h;exact⟨hs,es,bP,vs,e.trans h1,h2,aI.ext x,bE.ext x⟩
 |ins c ns ds =>
  obtain⟨C,bx,fs,h0,h1,h2,aI⟩:=h;exact⟨C,bx,fs,h0,e.trans h1,h2,aI.ext x⟩
 |tab P q =>
  obtain⟨bu,ps,h1,h2,aI⟩:=h;refine⟨bu,ps,e.trans h1,h2,λpos qq hc=>?_⟩;obtain⟨c,au,n,e2⟩:=aI pos qq hc;exact⟨c,au,x.nin n e2,x.kept n e2 (by intros;nofun)⟩
 |dead=>exact trivial
theorem aF.iD(w:aF K mg ρ H S){p:Addr}{o:HO}(hp:H p=none):aF K mg ρ (upd H p o) S:=by
 have ne:∀a∈ρ,a≠p:=λa ha q=>w.nin hp (q▸ha);refine⟨w.len,w.nd,λa ha=>by rw[upd_ne (ne a ha)];exact w.tr a ha,λn a m au e2=>?_⟩;have ha:a∈ρ:=nT au;exact i3.ext (Ext.iD hp) (upd_ne (ne a ha)) (w.ob n a m au e2)
theorem Ext.hand{p:Addr}{o:HO}(hp:H p=none):Ext ρ H (ρ++[p]) (upd H p o):=by
 refine⟨⟨[p],rfl⟩,λa h n=>?_,λa u n h=>.inl (by rw[upd_ne (ne_of_none h hp)];exact h)⟩;grind
theorem aF.hand(w:aF K mg ρ H S){p:Addr}{o:HO}{m:dk}(hp:H p=none)(hm:i3 K mg (ρ++[p]) (upd H p o) p m):aF K mg (ρ++[p]) (upd H p o) (S++[m]):=by
 have ne:∀a∈ρ,a≠p:=λa ha q=>w.nin hp (q▸ha);refine⟨by simp[w.len],?_,λa ha=>?_,λn a eU au e2=>?_⟩
 .refine List.nodup_append.mpr ⟨w.nd,by simp,λa ha b hb=>?_⟩
  grind
 .rcases mD.mp ha with ha|ha
  .rw[upd_ne (ne a ha)];exact w.tr a ha
  .rw[rV.mp ha,upd_same];simp
 .by_cases hn:n<ρ.length
  .rw[uc hn]at au
   rw[uc (by rw[<-w.len];exact hn)]at e2;exact i3.ext (Ext.hand hp) (upd_ne (ne a (nT au))) (w.ob n a eU au e2)
  .have hl:=w.len
   grind
theorem w'{Wp:Value->Option Addr->Hp->Prop}{Q:VK}{ds:List D}{vs:List V}{p:Addr}(h:aS K mg Wp ρ H Q (.ok (.tup ds) S))(w:aF K mg ρ H S)(r:ay K mg ρ H ds vs)(hp:H p=none):Q (.ref p) (upd H p (.tup vs)):=by
 refine h (.ref p) ρ _ (Ext.iD hp) (w.iD hp) ?_;rw[Rep];exact⟨p,vs,rfl,.inl ⟨w.nin hp,upd_same⟩,r.ext (Ext.iD hp)⟩
theorem xb{Wp:Value->Option Addr->Hp->Prop}{Q:VK}{ds:List D}{vs:List V}{p:Addr}(h:aS K mg Wp ρ H Q (.ok (.lst ds) S))(w:aF K mg ρ H S)(r:ay K mg ρ H ds vs)(hp:H p=none):Q (.ref p) (upd H p (.lst vs)):=by
 refine h (.ref p) ρ _ (Ext.iD hp) (w.iD hp) ?_;rw[Rep];exact⟨p,vs,rfl,⟨w.nin hp,upd_same⟩,r.ext (Ext.iD hp)⟩
theorem IX{Wp:Value->Option Addr->Hp->Prop}{Q:VK}{ds:List D}{vs:List V}{p:Addr}(h:aS K mg Wp ρ H Q (.ok (.ptr S.length) (S++[.lst ds])))(w:aF K mg ρ H S)(r:ay K mg ρ H ds vs)(hp:H p=none):Q (.ref p) (upd H p (.lst vs)):=by
 refine h (.ref p) (ρ++[p]) _ (Ext.hand hp) (w.hand hp ⟨vs,upd_same,r.ext (Ext.hand hp)⟩) ?_;rw[Rep];exact⟨p,rfl,by rw[<-w.len];simp⟩
end
def b2:aD:=λds S=>if ds.length<=1000000 then .ok (.tup ds) S else .bad
def fL:aD:=λds S=>if ds.length<=1000000 then .ok (.lst ds) S else .bad
def mM:aD:=λds S=>if ds.length<=1000000 then .ok (.ptr S.length) (S++[.lst ds])else .bad
theorem h7{n:Nat}(h:n<=1000000):n<=sizeLine:=by rw[sizeLine_eq];omega
section
variable{X:Cx}{W:WX}{es:List Expr}{f:cO}{pos:Pos}
theorem d0{x1}(h:gq X W es f):E X W (.Tuple es x1 pos) (aw b2 f):=by
 refine PE.imp (pe_tup h) λσ H Q q=>sd q λρ S H1 ds vs w r p=>?_;unfold b2 at p;split at p
 .rename_i hl
  exact⟨by rw[<-r.len];exact h7 hl,λa ha=>w' p w r ha⟩
 .exact p.elim
theorem jO(h:gq X W es f):E X W (.List es pos) (aw fL f):=by
 refine PE.imp (pe_lst h) λσ H Q q=>sd q λρ S H1 ds vs w r p=>?_;unfold fL at p;split at p
 .rename_i hl
  exact⟨by rw[<-r.len];exact h7 hl,λa ha=>xb p w r ha⟩
 .exact p.elim
theorem DV(h:gq X W es f):E X W (.List es pos) (aw mM f):=by
 refine PE.imp (pe_lst h) λσ H Q q=>sd q λρ S H1 ds vs w r p=>?_;unfold mM at p;split at p
 .rename_i hl
  exact⟨by rw[<-r.len];exact h7 hl,λa ha=>IX p w r ha⟩
 .exact p.elim
theorem cF{x:Str}{id:String}{sem:aD}{p:Pos}{e:Expr}{es:List Expr}(hc:hN X (.builtin id) sem)(hg:Gl X x)(hm:X.mg x=none)(bB:bootBuiltins x=some (.builtin id))(ha:gq X W (e::es) f)(hn:x≠"__name__":=by decide)(g9:(x==("__debug__":Str))=false:=by decide)
  (he:starEach (e::es) X.env=(false,eval e X.env)::starEach es X.env:=by rfl) (eQ:(backTo pos (starEach es X.env)).any (·.1)=false:=by rfl):E X W (.Call (.Name x p) (e::es) [] pos) (aw sem f):=by
 obtain⟨r,c,g⟩:=hc.go;exact PE.imp (pe_callB c hg hm bB ha hn g9 he eQ) λσ H Q q=>sd q λρ S H1 ds vs w bW p=>g _ ρ H1 S ds vs Q w bW p
theorem iE{x:Str}{T:String}{sem:aD}{p:Pos}{e:Expr}{es:List Expr}(hc:hN X (.type T) sem)(hg:Gl X x)(hm:X.mg x=none)(bB:bootBuiltins x=some (.type T))(ha:gq X W (e::es) f)(hn:x≠"__name__":=by decide)(g9:(x==("__debug__":Str))=false:=by decide)
  (he:starEach (e::es) X.env=(false,eval e X.env)::starEach es X.env:=by rfl) (eQ:(backTo pos (starEach es X.env)).any (·.1)=false:=by rfl):E X W (.Call (.Name x p) (e::es) [] pos) (aw sem f):=by
 obtain⟨r,c,g⟩:=hc.go;exact PE.imp (pe_callTy c hg hm bB ha hn g9 he eQ) λσ H Q q=>sd q λρ S H1 ds vs w bW p=>g _ ρ H1 S ds vs Q w bW p
end
def Out.toS{α:Type}(o:Out α)(sl:aL)(k:α->Store->SO):SO:=match o with
 | .ok a S=>k a S
 | .ex e S=>.ex e sl S
 | .bad=>.bad
def bI:SX:=λsl S=>.nx sl S
def SO.then(o:SO)(g:SX):SO:=match o with
 | .nx sl S=>g sl S
 |r=>r
def aO(f g:SX):SX:=λsl S=>(f sl S).then g
def jw(f:aM):SX:=λsl S=>(f sl S).toS sl λ_ ak=>.nx sl ak
def bq(f:aM):SX:=λsl S=>(f sl S).toS sl λd ak=>.rt d ak
def bG(c:cz)(f g:SX):SX:=λsl S=>(c sl S).toS sl λb ak=>if b=true then f sl ak else g sl ak
abbrev dz:=D->aL->Store->SO
def aX(i:Nat):dz:=λd sl S=>.nx (sl.set i (some d)) S
abbrev gy:=List D->aL->Store->SO
def gA:gy:=λds sl S=>match ds with
 |[]=>.nx sl S
 |_=>.bad
def cP(g:dz)(gs:gy):gy:=λds sl S=>match ds with
 |d::r=>(g d sl S).then (gs r)
 |[]=>.bad
def cY(S:Store):D->Option (List D)
 | .lst ds=>some ds
 | .ptr n=>match S[n]? with
  |some (.lst ds)=>some ds
  |_=>none
 |_=>none
def hP(gs:gy):dz:=λd sl S=>match d with
 | .tup ds=>gs ds sl S
 | .bS ds=>gs ds sl S
 |_=>.bad
def bX(f:aM)(g:dz):SX:=λsl S=>(f sl S).toS sl λd ak=>g d sl ak
def mN(i j:Nat)(f:cO):SX:=λsl S=>(f sl S).toS sl λds ak=>match ds with
 |[d,e]=>.nx ((sl.set i (some d)).set j (some e)) ak
 |_=>.bad
def uB(c:cz)(body:SX):Nat->SX
 |0,_,_=>.bad
 |n+1,sl,S=>(c sl S).toS sl λb ak=>if b=true then(match body sl ak with
  | .nx bH S2=>uB c body n bH S2
  | .ct bH S2=>uB c body n bH S2
  | .bk bH S2=>.nx bH S2
  |r=>r)else .nx sl ak
def uC:Nat:=1000000
def se(c:cz)(body:SX):SX:=uB c body uC
def k3(G:Store->Prop)(g:dz)(body:SX):List D->SX
 |[],sl,S=>open Classical in if G S then .nx sl S else .bad
 |x::xs,sl,S=>open Classical in if G S then(match g x sl S with
  | .nx a' S1=>(match body a' S1 with
   | .nx bH S2=>k3 G g body xs bH S2
   | .ct bH S2=>k3 G g body xs bH S2
   | .bk bH S2=>.nx bH S2
   |r=>r)
  |_=>.bad)else .bad
abbrev gQ:=aL->Store->Out (List D×(Store->Prop))
def uD(it:gQ)(g:dz)(body:SX):SX:=λsl S=>(it sl S).toS sl λp ak=>k3 p.2 g body p.1 sl ak
section
variable{K:PySem.W.Frag}{mg:Str->Option Value}{ρ:List Addr}{H:Hp}{S:Store}
theorem cq.set{σ:L2.St}{sl:aL}(r:cq K mg ρ H σ sl){d:D}{v:V}(h:Rep K mg ρ H d v)(i:Nat):cq K mg ρ H (σ.set i (some v)) (sl.set i (some d)):=by
 refine⟨by simp[r.len],λj e q=>?_⟩;by_cases cm:j=i
 .subst cm
  by_cases hl:j<sl.length
  .rw[mE hl]at q
   cases q;exact⟨v,mE (by rw[r.len];exact hl),h⟩
  grind
 .rw[qd (jq cm)]at q ⊢
  exact r.at_ j e q
theorem bL.seq{W:WX}{dY:Ends}{o:SO}{g:SX}(h:bL K mg W ρ H dY (o.then g)):bL K mg W ρ H { dY with nx:=λσ H'=>zN K mg W g dY σ H' } o:=by
 cases o with
 |nx sl S=>exact λσ aP aH y w r=>⟨aP,S,sl,w,r,bL.from y h⟩
 |bk sl S=>exact h
 |ct sl S=>exact h
 |rt d S=>exact h
 |ex e sl S=>exact h
 |bad=>exact h
theorem bL.zP{W:WX}{dY:Ends}{σ:L2.St}{sl:aL}{o:Out D}{k:D->Store->SO}(rs:cq K mg ρ H σ sl)(h:bL K mg W ρ H dY (o.toS sl k)) :
  aS K mg (λC d H'=>W C d σ H') ρ H (λv H1=>∃aB S1 d,aF K mg aB H1 S1/\cq K mg aB H1 σ sl/\Rep K mg aB H1 d v/\bL K mg W aB H1 dY (k d S1)) o:=by
 cases o with
 |ok d S=>exact λv aP aH y w r=>⟨aP,S,d,w,rs.ext y,r,bL.from y h⟩
 |ex e S=>exact λC dd aP aH y w r=>h C dd σ aP aH y w (rs.ext y) r
 |bad=>exact h
theorem bL.Zh{W:WX}{dY:Ends}{σ:L2.St}{sl:aL}{o:Out (List D)}{k:List D->Store->SO}(rs:cq K mg ρ H σ sl)(h:bL K mg W ρ H dY (o.toS sl k)) :
  eu K mg (λC d H'=>W C d σ H') ρ H (λv H1=>∃aB S1 d,aF K mg aB H1 S1/\cq K mg aB H1 σ sl/\ay K mg aB H1 d v/\bL K mg W aB H1 dY (k d S1)) o:=by
 cases o with
 |ok d S=>exact λv aP aH y w r=>⟨aP,S,d,w,rs.ext y,r,bL.from y h⟩
 |ex e S=>exact λC dd aP aH y w r=>h C dd σ aP aH y w (rs.ext y) r
 |bad=>exact h
theorem bL.QM{W:WX}{dY:Ends}{σ:L2.St}{sl:aL}{o:Out Bool}{k:Bool->Store->SO}(rs:cq K mg ρ H σ sl)(h:bL K mg W ρ H dY (o.toS sl k)) :
  ft K mg (λC d H'=>W C d σ H') ρ H (λb H1=>∃aB S1,aF K mg aB H1 S1/\cq K mg aB H1 σ sl/\bL K mg W aB H1 dY (k b S1)) o:=by
 cases o with
 |ok d S=>exact λaP aH y w=>⟨aP,S,w,rs.ext y,bL.from y h⟩
 |ex e S=>exact λC dd aP aH y w r=>h C dd σ aP aH y w (rs.ext y) r
 |bad=>exact h
theorem DW{W:WX}{dY:Ends}{σ:L2.St}{sl:aL}(h:bL K mg W ρ H dY (.nx sl S))(w:aF K mg ρ H S)(r:cq K mg ρ H σ sl):dY.nx σ H:=h σ ρ H Ext.refl w r
end
section
variable{X:Cx}{W:WX}{st:Stmt}{rest:List Stmt}{f g:SX}{e:Expr}{fe:aM}{pos:Pos}
theorem cQ:gu X W [] bI:=PSs.imp pss_nil λD σ H ⟨ρ,S,sl,w,rs,p⟩=>DW p w rs
theorem bf(h:ES X W st f):gu X W [st] f:=pss_one h
theorem a8(h:ES X W st f)(hr:gu X W rest g):gu X W (st::rest) (aO f g) :=
 PSs.imp (pss_cons h hr) λD σ H ⟨ρ,S,sl,w,rs,p⟩=>⟨ρ,S,sl,w,rs,bL.seq p⟩
theorem uE(he:E X W e fe)(hs:swapsWith e none pos.line X.env=pure false:=by rfl):ES X W (.Expr e pos) (jw fe) :=
 PS.imp (ps_expr he hs) λD σ H ⟨ρ,S,sl,w,rs,p⟩=>⟨ρ,S,sl,w,rs,aS.mono (bL.zP rs p) λv H1 ⟨aB,S1,d,aE,r1,_,p1⟩=>DW p1 aE r1⟩
theorem bV(he:E X W e fe):ES X W (.Return (some e) pos) (bq fe) :=
 PS.imp (ps_ret he) λD σ H ⟨ρ,S,sl,w,rs,p⟩=>⟨ρ,S,sl,w,rs,aS.mono (bL.zP rs p) λv H1 ⟨aB,S1,d,aE,r1,aR,p1⟩=>p1 v aB H1 Ext.refl aE aR⟩
theorem cJ{c:Expr}{ga:cz}{a b:List Stmt}(hc:jL X W c ga)(ha:gu X W a f)(hb:gu X W b g):ES X W (.If c a b pos) (bG ga f g):=by
 refine PS.imp (ps_if hc ha hb) λD σ H ⟨ρ,S,sl,w,rs,p⟩=>⟨ρ,S,sl,w,rs,ft.mono (bL.QM rs p) λk H1 ⟨aB,S1,aE,r1,p1⟩=>?_⟩
 cases k with
 |true=>exact⟨aB,S1,sl,aE,r1,p1⟩
 |false=>exact⟨aB,S1,sl,aE,r1,p1⟩
def Zi(K:PySem.W.Frag)(mg:Str->Option Value)(W:WX)(g:dz):TG:=λv σ H Q=>∃ρ S sl d,aF K mg ρ H S/\cq K mg ρ H σ sl/\Rep K mg ρ H d v/\bL K mg W ρ H ⟨Q,λ_ _=>False,λ_ _=>False,λ_ _=>False⟩ (g d sl S)
def Zj(K:PySem.W.Frag)(mg:Str->Option Value)(W:WX)(g:gy):TGs:=λv σ H Q=>∃ρ S sl d,aF K mg ρ H S/\cq K mg ρ H σ sl/\ay K mg ρ H d v/\bL K mg W ρ H ⟨Q,λ_ _=>False,λ_ _=>False,λ_ _=>False⟩ (g d sl S)
def uF(X:Cx)(W:WX)(tg:Expr)(g:dz):Prop:=PG X tg (Zi X.K X.mg W g)
def zQ(X:Cx)(W:WX)(tg:List Expr)(g:gy):Prop:=PGs X tg (Zj X.K X.mg W g)
theorem PG.imp{tg:Expr}{t t':TG}(h:PG X tg t)(k:∀v σ H Q,t' v σ H Q->t v σ H Q):PG X tg t':=⟨λpins s σ H v u Q I r q=>h.run pins s σ H v u Q I r (k v σ H Q q)⟩
theorem PGs.imp{tg:List Expr}{t t':TGs}(h:PGs X tg t)(k:∀v σ H Q,t' v σ H Q->t v σ H Q):PGs X tg t':=⟨λpins s σ H v u Q I r q=>h.run pins s σ H v u Q I r (k v σ H Q q)⟩
theorem lL{i:Nat}{x:Str}(gv:X.N.Nodup)(hi:X.N[i]?=some x:=by rfl)(hx:Loc X.env.scope x:=by first|exact Or.inl rfl|exact Or.inr rfl)(hf:X.fn x=true\/X.env.scope.names.lookup x=some .local:=by first|exact .inl rfl|exact .inr rfl):uF X W (.Name x pos) (aX i) :=
 PG.imp (pg_name gv hi hx hf) λv σ H Q ⟨ρ,S,sl,d,w,rs,aR,p⟩=>p _ ρ H Ext.refl w (rs.set aR i)
theorem zR:zQ X W [] gA:=PGs.imp pgs_nil λv σ H Q ⟨ρ,S,sl,ds,w,rs,aR,p⟩=>by
 cases ds with
 |nil =>
  rw[ay]at aR;exact⟨aR,p _ ρ H Ext.refl w rs⟩
 |cons d r=>exact p.elim
theorem n0{t:Expr}{ts:List Expr}{g:dz}{gs:gy}(h:uF X W t g)(hr:zQ X W ts gs)(hs:(assignEach (t::ts) X.env).map (·.2)=assign t X.env::(assignEach ts X.env).map (·.2):=by rfl):zQ X W (t::ts) (cP g gs) :=
 PGs.imp (pgs_cons h hr hs) λv σ H Q ⟨ρ,S,sl,ds,w,rs,aR,p⟩=>by
  cases ds with
  |nil=>exact p.elim
  |cons d r =>
   rw[ay]at aR;obtain⟨v1,IY,e,h1,h2⟩:=aR;subst e;refine⟨v1,IY,rfl,ρ,S,sl,d,w,rs,h1,?_⟩;have p:bL X.K X.mg W ρ H ⟨Q,λ_ _=>False,λ_ _=>False,λ_ _=>False⟩ ((g d sl S).then (gs r)):=p;cases q:g d sl S with
   |nx a' S1 =>
    rw[q]at p;exact λiF aB H1 x1 aE r1=>⟨aB,S1,a',r,aE,r1,h2.ext x1,bL.from x1 p⟩
   |bk a' S1=>rw[q]at p;exact p
   |ct a' S1=>rw[q]at p;exact p
   |rt k4 S1=>rw[q]at p;exact p
   |ex au a' S1=>rw[q]at p;exact p
   |bad=>rw[q]at p;exact p
theorem DX{es:List Expr}{k:Nat}{gs:gy}{n:Nat}(hc:X.calm=true)(h:zQ X W es gs)(hl:∀ds sl S,gs ds sl S≠.bad->ds.length=n)(hn:(assignEach es X.env).length=n:=by rfl)(gR:(assignEach es X.env).findIdx? (·.1)=none:=by rfl):uF X W (.Tuple es k pos) (hP gs) :=
 PG.imp (pg_tup hc h hn gR) λv σ H Q ⟨ρ,S,sl,d,w,rs,aR,p⟩=>by
  cases d with
  |tup ds =>
   rw[Rep]at aR;obtain⟨a,vs,e,t,r⟩:=aR;have p:bL X.K X.mg W ρ H ⟨Q,λ_ _=>False,λ_ _=>False,λ_ _=>False⟩ (gs ds sl S):=p;exact⟨a,vs,e,t.df,by rw[<-r.len];exact hl ds sl S (λq=>by rw[q]at p;exact p),ρ,S,sl,ds,w,rs,r,p⟩
  |bS ds =>
   rw[Rep]at aR;obtain⟨a,vs,e,t,r⟩:=aR;have p:bL X.K X.mg W ρ H ⟨Q,λ_ _=>False,λ_ _=>False,λ_ _=>False⟩ (gs ds sl S):=p;exact⟨a,vs,e,t.df,by rw[<-r.len];exact hl ds sl S (λq=>by rw[q]at p;exact p),ρ,S,sl,ds,w,rs,r,p⟩
  |_=>exact p.elim
theorem sg(ds:List D)(sl:aL)(S:Store)(h:gA ds sl S≠.bad):ds.length=0:=by
 cases ds with
 |nil=>rfl
 |cons _ _=>exact absurd rfl h
theorem Zk{g:dz}{gs:gy}{n:Nat}(hr:∀ds sl S,gs ds sl S≠.bad->ds.length=n)(hg:∀d sl S,(∃d1 ak,g d sl S=.nx d1 ak)\/g d sl S=.bad)(ds:List D)(sl:aL)(S:Store)(h:cP g gs ds sl S≠.bad):ds.length=n+1:=by
 cases ds with
 |nil=>exact absurd rfl h
 |cons d r =>
  rcases hg d sl S with⟨d1,ak,e⟩|e
  .have:cP g gs (d::r) sl S=gs r d1 ak:=by show(g d sl S).then (gs r)=_;rw[e];rfl
   grind
  .exact absurd (show cP g gs (d::r) sl S=.bad by show(g d sl S).then (gs r)=_;rw[e];rfl) h
theorem fy(i:Nat)(d:D)(sl:aL)(S:Store):(∃d1 ak,aX i d sl S=.nx d1 ak)\/aX i d sl S=.bad:=.inl ⟨_,_,rfl⟩
theorem o7{tg:Expr}{g:dz}(he:E X W e fe)(hg:uF X W tg g)(hb:∀d sl S,(∃d1 ak,g d sl S=.nx d1 ak)\/g d sl S=.bad)(hs:swapsWithSole [tg] e pos.line X.env=pure false:=by rfl)(hw:swappedStores [tg] e X.env=pure none:=by rfl)
  (h1:(assignEach [tg] X.env).map (·.2)=[assign tg X.env]:=by rfl):ES X W (.Assign [tg] e pos) (bX fe g) :=
 PS.imp (ps_asg he hg hs hw h1) λD σ H ⟨ρ,S,sl,w,rs,p⟩=>⟨ρ,S,sl,w,rs,aS.mono (bL.zP rs p) λv H1 ⟨aB,S1,d,aE,r1,aR,p1⟩=>⟨aB,S1,sl,d,aE,r1,aR,by
  rcases hb d sl S1 with⟨d1,ak,q⟩|q
  .rw[q]at p1 ⊢;exact p1
  .rw[q]at p1;exact p1.elim⟩⟩
theorem fM{i:Nat}{x:Str}{pos':Pos}(gv:X.N.Nodup)(he:E X W e fe)(hi:X.N[i]?=some x:=by rfl)(hx:Loc X.env.scope x:=by first|exact Or.inl rfl|exact Or.inr rfl)(hs:swapsWith e (some (.Name x pos')) pos.line X.env=pure false:=by rfl)
  (hf:X.fn x=true\/X.env.scope.names.lookup x=some .local:=by first|exact .inl rfl|exact .inr rfl):ES X W (.Assign [.Name x pos'] e pos) (bX fe (aX i)) :=
 PS.imp (ps_set gv hi hx he hs hf) λD σ H ⟨ρ,S,sl,w,rs,p⟩=>⟨ρ,S,sl,w,rs,aS.mono (bL.zP rs p) λv H1 ⟨aB,S1,d,aE,r1,aR,p1⟩=>p1 _ aB H1 Ext.refl aE (r1.set aR i)⟩
theorem uG{i j:Nat}{x y:Str}{a b:Expr}{fa:cO}{IZ py pt:Pos}{kt b6 I0}(hc:X.calm=true)(gv:X.N.Nodup)(ha:gq X W [a,b] fa)(hi:X.N[i]?=some x:=by rfl)(cm:X.N[j]?=some y:=by rfl)(Zm:i≠j:=by decide)
  (hx:X.env.scope.names.lookup x=some .local:=by rfl) (a6:X.env.scope.names.lookup y=some .local:=by rfl)
  (hw:swappedStores [.Tuple [.Name x IZ,.Name y py] kt pt] (.Tuple [a,b] b6 I0) X.env=pure (some [x,y]):=by rfl)
  (hs:swapsWithSole [.Tuple [.Name x IZ,.Name y py] kt pt] (.Tuple [a,b] b6 I0) pos.line X.env=pure false:=by rfl) :
  ES X W (.Assign [.Tuple [.Name x IZ,.Name y py] kt pt] (.Tuple [a,b] b6 I0) pos) (mN i j fa) :=
 PS.imp (ps_par hc gv hi cm Zm hx a6 ha hw hs) λD σ H ⟨ρ,S,sl,w,rs,p⟩=>⟨ρ,S,sl,w,rs,eu.mono (bL.Zh rs p) λvs H1 ⟨aB,S1,ds,aE,r1,aR,p1⟩=>by
  match ds,aR,p1 with
  |[d,e],aR,p1 =>
   rw[ay]at aR;obtain⟨v,r,au,h1,h2⟩:=aR;rw[ay]at h2;obtain⟨u,r2,e2,aI,bE⟩:=h2;rw[ay]at bE;subst bE e2 au;exact⟨v,u,rfl,p1 _ aB H1 Ext.refl aE ((r1.set h1 i).set aI j)⟩
  |[],_,p1=>exact p1.elim
  |[_],_,p1=>exact p1.elim
  |_::_::_::_,_,p1=>exact p1.elim⟩
theorem zS{c:Expr}{ga:cz}{body:List Stmt}(hp:PassesOwn (model X.prog X.w) X.A X.env X.xe)(hc:jL X W c ga)(hb:gu X W body f):ES X W (.While c body [] pos) (se ga f):=by
 refine PS.imp (ps_while hp hc hb) λD σ H ⟨ρ,S,sl,w,rs,p⟩=>?_;refine⟨λm σ H=>∃ρ S sl,aF X.K X.mg ρ H S/\cq X.K X.mg ρ H σ sl/\bL X.K X.mg W ρ H D (uB ga f m sl S),⟨uC,ρ,S,sl,w,rs,p⟩,?_⟩;rintro m σ H ⟨ρ,S,sl,w,rs,p⟩;cases m with
 |zero=>exact p.elim
 |succ m =>
  refine⟨ρ,S,sl,w,rs,ft.mono (bL.QM rs p) λk H1 ⟨aB,S1,aE,r1,p1⟩=>?_⟩;cases k with
  |false=>exact DW p1 aE r1
  |true =>
   rw[if_pos rfl]at p1 ⊢;refine⟨λbD H'=>∃ρ S sl,aF X.K X.mg ρ H' S/\cq X.K X.mg ρ H' bD sl/\bL X.K X.mg W ρ H' D (uB ga f m sl S),λbD H' n=>⟨m,qe m,n⟩,aB,S1,sl,aE,r1,?_⟩;cases q:f sl S1 with
   |nx bH S2=>rw[q]at p1;exact λσ aP aH y w r=>⟨aP,S2,bH,w,r,bL.from y p1⟩
   |ct bH S2=>rw[q]at p1;exact λσ aP aH y w r=>⟨aP,S2,bH,w,r,bL.from y p1⟩
   |bk bH S2=>rw[q]at p1;exact p1
   |rt d S2=>rw[q]at p1;exact p1
   |ex e bH S2=>rw[q]at p1;exact p1
   |bad=>rw[q]at p1;exact p1
end
structure xc(K:PySem.W.Frag)(mg:Str->Option Value)(J:It)(ds:List D)(G:Store->Prop)(iG:List Addr)(ey:Hp):Prop where
 go:∀(i:Nat) ρ H S,i<ds.length->Ext iG ey ρ H->aF K mg ρ H S->G S->J.go i H
 stop:∀ρ H S,Ext iG ey ρ H->aF K mg ρ H S->G S->J.stop ds.length H
 yld:∀(i:Nat) ρ H S x H',i<ds.length->Ext iG ey ρ H->aF K mg ρ H S->G S->J.yld i H x H'->∃d,ds[i]?=some d/\Ext ρ H ρ H'/\aF K mg ρ H' S/\Rep K mg ρ H' d x
def fU(K:PySem.W.Frag)(mg:Str->Option Value)(W:Value->Option Addr->Hp->Prop)(ρ:List Addr)(H:Hp)(R:It->Hp->Prop):Out (List D×(Store->Prop))->Prop
 | .ok p ak=>∀aj H' J,Ext ρ H aj H'->aF K mg aj H' ak->xc K mg J p.1 p.2 aj H'->R J H'
 | .ex e ak=>∀C dd aj H',Ext ρ H aj H'->aF K mg aj H' ak->jJ K mg aj H' e C dd->W C dd H'
 | .bad=>False
def zT(K:PySem.W.Frag)(mg:Str->Option Value)(W:WX)(it:gQ):TI:=λσ H R=>∃ρ S sl,aF K mg ρ H S/\cq K mg ρ H σ sl/\fU K mg (λC d H'=>W C d σ H') ρ H R (it sl S)
def uH(X:Cx)(W:WX)(tg it:Expr)(f:gQ):Prop:=PI X tg it (zT X.K X.mg W f)
theorem PI.imp{X:Cx}{tg e:Expr}{t t':TI}(h:PI X tg e t)(k:∀σ H R,t' σ H R->t σ H R):PI X tg e t':=⟨λpins s σ H R I q=>h.run pins s σ H R I (k σ H R q)⟩
section
variable{X:Cx}{W:WX}{f:SX}{pos:Pos}
theorem QN{tg iter:Expr}{body:List Stmt}{it:gQ}{g:dz}(hp:PassesOwn (model X.prog X.w) X.A X.env X.xe)(hc:X.calm=true)(hi:uH X W tg iter it)(hg:uF X W tg g)(hb:gu X W body f)
  (hs:∀x,foldedSetIterable iter X.env x=pure x:=by intro _;rfl):ES X W (.For tg iter body [] pos) (uD it g f):=by
 refine PS.imp (ps_for hp hc hi hg hb hs) λD σ H ⟨ρ,S,sl,w,rs,p⟩=>?_;have p:bL X.K X.mg W ρ H D ((it sl S).toS sl λp ak=>k3 p.2 g f p.1 sl ak):=p;refine⟨ρ,S,sl,w,rs,?_⟩;cases q:it sl S with
 |bad=>rw[q]at p;exact p
 |ex e S1=>rw[q]at p;exact λC dd aP aH y w r=>p C dd σ aP aH y w (rs.ext y) r
 |ok pr S1 =>
  rw[q]at p;intro aB H1 J x1 aE uI;obtain⟨ds,G⟩:=pr;have p1:bL X.K X.mg W aB H1 D (k3 G g f ds sl S1):=bL.from x1 p;refine⟨λi m bD H'=>i+m=ds.length/\∃aj ak d1,Ext aB H1 aj H'/\aF X.K X.mg aj H' ak/\cq X.K X.mg aj H' bD d1/\bL X.K X.mg W aj H' D (k3 G g f (ds.drop i) d1 ak),
   ⟨ds.length,by simp,aB,S1,sl,Ext.refl,aE,rs.ext x1,by grind⟩,?_⟩
  rintro i m iH aH ⟨hm,aP,S2,bH,x2,cD,r2,p2⟩;cases m with
  |zero =>
   have hi:i=ds.length:=by omega
   subst hi;rw[List.drop_length]at p2;have p2:bL X.K X.mg W aP aH D (open Classical in if G S2 then .nx bH S2 else .bad):=p2;by_cases bp:G S2
   .rw[if_pos bp]at p2
    exact .inl ⟨uI.stop aP aH S2 x2 cD bp,DW p2 cD r2⟩
   .rw[if_neg bp]at p2;exact p2.elim
  |succ m =>
   have c7:i<ds.length:=by omega
   have hd:ds.drop i=ds[i]::ds.drop (i+1):=(HG c7).symm;rw[hd]at p2;have p2:bL X.K X.mg W aP aH D (open Classical in if G S2 then(match g ds[i] bH S2 with
    | .nx a' S1=>(match f a' S1 with
     | .nx bH S2=>k3 G g f (ds.drop (i+1)) bH S2
     | .ct bH S2=>k3 G g f (ds.drop (i+1)) bH S2
     | .bk bH S2=>.nx bH S2
     |r=>r)
    |_=>.bad)else .bad):=p2
   by_cases bp:G S2
   .rw[if_pos bp]at p2
    refine .inr ⟨uI.go i aP aH S2 c7 x2 cD bp,λbD H'=>∃aj ak d1,Ext aB H1 aj H'/\aF X.K X.mg aj H' ak/\cq X.K X.mg aj H' bD d1/\bL X.K X.mg W aj H' D (k3 G g f (ds.drop (i+1)) d1 ak),λbD H' n=>⟨m,qe m,by omega,n⟩,?_⟩;intro x dG y;obtain⟨d,e,dc,g8,bU⟩:=uI.yld i aP aH S2 x dG c7 x2 cD bp y;have ed:d=ds[i]:=by rw[iz c7]at e;exact(Option.some.inj e).symm
    subst ed;refine⟨aP,S2,bH,ds[i],g8,r2.ext dc,bU,?_⟩;cases bw:g ds[i] bH S2 with
    |nx n3 b5 =>
     rw[bw]at p2;intro anF r' jv dP qu cI;refine⟨r',b5,n3,qu,cI,?_⟩;have dZ:=bL.from (dc.trans dP) p2;have xx:=x2.trans (dc.trans dP);cases bz:f n3 b5 with
     |nx o8 eg=>simp only[bz]at dZ;exact λuJ lM o9 uK lN hQ=>⟨lM,eg,o8,xx.trans uK,lN,hQ,bL.from uK dZ⟩
     |ct o8 eg=>simp only[bz]at dZ;exact λuJ lM o9 uK lN hQ=>⟨lM,eg,o8,xx.trans uK,lN,hQ,bL.from uK dZ⟩
     |bk o8 eg=>simp only[bz]at dZ;exact dZ
     |rt anG eg=>simp only[bz]at dZ;exact dZ
     |ex e5 o8 eg=>simp only[bz]at dZ;exact dZ
     |bad=>simp only[bz]at dZ;exact dZ
    |bk n3 b5=>rw[bw]at p2;exact p2.elim
    |ct n3 b5=>rw[bw]at p2;exact p2.elim
    |rt QO b5=>rw[bw]at p2;exact p2.elim
    |ex fV n3 b5=>rw[bw]at p2;exact p2.elim
    |bad=>rw[bw]at p2;exact p2.elim
   .rw[if_neg bp]at p2;exact p2.elim
end
open PySem PySem.Spec L2 PyProof.Rows
inductive Chain (B:Heap) (H:Hp):Value->Prop
 |nil:Chain B H .none
 |cons {b:Addr} {o:Obj} {vs:Array Value} {c:Value} (h:B.get? b=some o) (n:H b=none) (hd:o.data=.fields vs) (hc:vs[2]?=some c) (r:Chain B H c):Chain B H (.ref b)
def jx(B:Heap)(H:Hp)(cls:Value)(d:Option Addr):Obj->Prop:=λo=>o.cls=cls/\o.dict=d/\∀vs,o.data=.fields vs->∃c,vs[2]?=some c/\Chain B H c
theorem Zo{B:Heap}{H:Hp}:PXN.Steady1 (λo=>∀vs,o.data=.fields vs->∃c,vs[2]?=some c/\Chain B H c):=λo v h=>by
 obtain⟨c,d,DY,sl⟩:=o;cases DY with
 |fields Zq =>
  intro vs e;have e2:Zq.setIfInBounds 1 v=vs:=Data.fields.inj e;grind
 |_ =>
  intro vs e
  first
  |exact Data.noConfusion e
  |cases e
section
variable{B:Heap}{H:Hp}{cls:Value}{d:Option Addr}{o:Obj}
theorem jx.steady:PXN.Steady1 (jx B H cls d):=λo v h=>⟨PXN.steady_cls o v h.1,PXN.steady_dict o v h.2.1,Zo o v h.2.2⟩
theorem jx.Zr(h:L2N.Zn cls d o):jx B H cls d o:=⟨h.1,h.2.1,λvs e=>⟨.none,h.2.2 vs e,.nil⟩⟩
end
def XE(X:Cx)(W:WX)(u:Value)(s':Shared):Prop :=
 ∃(a:Addr) (B:Heap) (dq:Shared) (pins:List (Addr×Obj)) (σ:L2.St) (H:Hp) (cls:Value) (d:Option Addr),
  u=.ref a/\Inv X pins σ H dq/\(∀b o,dq.heap.get? b=some o->b∉frs X.stack->B.get? b=some o)/\dq.heap.UpToSlots s'.heap /\
   Sky B X.stack a (jx B H cls d) X.env.locals s'.heap/\H a=none/\s'.os=dq.os/\AllBare s'.gens/\W cls d σ H
def Takes(X:Cx)(W:WX):Prop:=∀u s',XE X W u s'->X.xe u s'
def CX(P:Program)(w:World)(outer:List Env)(H:Hp)(s:Shared)(E:XK)(u:Value)(s':Shared):Prop :=
 ∃(a:Addr) (B:Heap) (H':Hp) (cls:Value) (d:Option Addr),u=.ref a/\HandSPX.FlyingZ B outer a (jx B H' cls d) s'.heap/\HOk P w H' B/\UB (frs outer) H H' s.heap B s'.heap/\H' a=none/\s'.os=s.os/\AllBare s'.gens/\E cls d H'
section
variable{X:Cx}{pins:List (Addr×Obj)}{σ:L2.St}{H:Hp}{dq s s':Shared}{B:Heap}{W:WX}{E:XK}
theorem XE.of_call(I:Inv X pins σ H s)(kd:∀cls d H',E cls d H'->W cls d σ H'){u:Value}(c:Z.CX X.prog X.w X.stack H s E u s'):Z.XE X W u s':=by
 obtain⟨a,B,H',cls,d,rfl,fl,hok,ub,na,os,h8,n4⟩:=c;obtain⟨G,g1,g2⟩:=restrict s'.heap λb=>(B.get? b).isSome||decide (b∈frs X.stack)
 have st:B.StaysIn s'.heap:=fl.1;have QP:∀b o,B.get? b=some o->G.get? b=some o:=λb o e=>by
  rw[g1 b (by simp[e])];exact st b o e
 have anH:∀b,b∈frs X.stack->G.get? b=s'.heap.get? b:=λb hb=>g1 b (by simp[hb]);have QR:∀b o,G.get? b=some o->s'.heap.get? b=some o/\((B.get? b).isSome=true\/b∈frs X.stack):=λb o e=>by
  grind
 refine⟨a,B,{ s with heap:=G,gens:=s'.gens,drawn:=s'.drawn,toks:=s'.toks },pins,σ,H',cls,d,rfl,?_,λb o e hb=>?_,Heap.UpToSlots.of_keeps λb o e=>(QR b o e).1,.inr (.inl fl),na,os,h8,kd _ _ _ n4⟩
 .refine I.call (ch:=[]) ⟨λb o e n hb _=>QP b o (ub.keep b o e n hb),λb o e n hb _=>?_,λb o e n _=>ub.free b o e n,λb o e _=>?_,ub.tups,ub.frzs,ub.tbls⟩ (hok.kept QP) h8 (λ_ z=>nomatch z)
  .obtain⟨sl,q⟩:=ub.slot b o e hb
   grind
  .by_cases hb:b∈frs X.stack
   .obtain⟨sl,q⟩:=ub.slot b o e hb
    grind
   .obtain⟨e6,q⟩:=ub.there b o e hb
    grind
 .obtain⟨cW,h⟩:=QR b o e
  rcases h with h|h
  .obtain⟨e6,q⟩:=Option.isSome_iff_exists.mp h
   grind
  grind
theorem XE.new{a:Addr}{eP:Obj}{vs:Array Value}{cls:Value}{d:Option Addr}(I:Inv X pins σ H dq)(k:∀b o,dq.heap.get? b=some o->s'.heap.get? b=some o)(dA:dq.heap.get? a=none)(he:s'.heap.get? a=some eP)
  (hz:jx (PySem.W.hideAll dq.heap (frs X.stack)) H cls d eP) (hd:eP.data=.fields vs) (h1:vs[1]?=some .none) (na:H a=none) (os:s'.os=dq.os) (h8:AllBare s'.gens) (w:W cls d σ H):Z.XE X W (.ref a) s':=by
 refine⟨a,PySem.W.hideAll dq.heap (frs X.stack),dq,pins,σ,H,cls,d,rfl,I,λb o e hb=>PySem.W.hideAll_get _ e hb,Heap.UpToSlots.of_keeps k,
  .inl ⟨λb o e=>k b o (PySem.W.of_hideAll _ e),?_,?_,eP,vs,he,hz,hd,h1⟩,na,os,h8,w⟩
 .cases q:(PySem.W.hideAll dq.heap (frs X.stack)).get? a with
  |none=>rfl
  |some o =>
   have z:=PySem.W.of_hideAll _ q;grind
 .exact Heap.FunFrames.of_keeps (λb o e _=>⟨o,k b o e,rfl⟩) (funFrames_none I.stack λb hb=>PySem.W.hideAll_none _ hb)
theorem XE.leave(hs:X.stack=X.env::X.outer)(hf:X.env.frame=some X.env.locals)(hex:X.ex=[]){E₁:Value->Shared->Prop}(kd:∀cls d σ H,W cls d σ H->E cls d H){u:Value}(x:Z.XE X W u s') :
  wpAny (model X.prog X.w) X.A (leaving X.env u) (λ_ k5=>Z.CX X.prog X.w X.outer X.H_0 X.s_0 E u k5) E₁ s':=by
 obtain⟨a,B,dq,pins,σ,H,cls,d,rfl,I,nb,up,qv,na,os,h8,w⟩:=x;have gB:X.A.frames=some (X.env::X.outer):=by rw[I.ok.frames,hs]
 have Zt:∀b o,X.s_0.heap.get? b=some o->b∉X.fs->b∉frs X.stack:=λb o e hb hm=>by
  rcases g6.mp (I.stkSub b hm)with z|z
  .have h1:=Heap.lt_size e
   have h2:=I.ok.above;grind
  .exact hb z
 have DZ:∀b,b∉X.ex:=λb hb=>by grind
 have Zu:=I.inGround nb;have fin:∀h',HandSPX.FlyingZ B X.outer a (jx B H cls d) h'->s'.heap.UpToSlots h'->Z.CX X.prog X.w X.outer X.H_0 X.s_0 E (.ref a) { s' with heap:=h' }:=λh' fl I3=>by
  refine⟨a,B,H,cls,d,rfl,fl,Zu,⟨λb o e n hb=>nb b o (I.base.keep b o e n hb (DZ b)) (Zt b o e hb),λb o e hb=>?_,λb o e n=>I.base.free b o e n (DZ b),λb o e hb=>?_,I.base.tups,I.base.frzs,I.base.tbls⟩,
   na,os.trans I.os,h8,kd _ _ _ _ w⟩
  .obtain⟨_,anI,e₀,I4⟩:=I.ok.funs.mem hb
   rw[e]at e₀;cases e₀;obtain⟨sl,au⟩:=I.base.slot b o e (I.ok.frf b hb) hb (DZ b);obtain⟨bH,e2⟩:=up b _ au I4;obtain⟨anJ,bj⟩:=I3 b _ e2 I4;grind
  .obtain⟨e6,au⟩:=I.base.there b o e (DZ b)
   grind
 rw[hs]at qv;rcases qv with⟨cZ,hn,hl,eP,vs,he,hz,hd,h1⟩|fl|hd
 .exact PXN.leaving_firstZ jx.steady gB hl hf he cZ hn hd h1 hz fin
 .exact PXN.leaves_onZ jx.steady gB hf fl fin
 .exact HandSPX.leaves_heldZ hf hd fin
theorem takes_of(hs:X.stack=X.env::X.outer)(hf:X.env.frame=some X.env.locals)(hex:X.ex=[]){E₁:Value->Shared->Prop}
  (hx:X.xe=λe s'=>wpAny (model X.prog X.w) X.A (leaving X.env e) (λ_ k5=>Z.CX X.prog X.w X.outer X.H_0 X.s_0 E e k5) E₁ s'):Takes X (λcls d _ H=>E cls d H):=λu s' x=>by
 rw[hx];exact XE.leave (W:=λcls d _ H=>E cls d H) (E:=E) hs hf hex (λ_ _ _ _ h=>h) x
theorem si(tk:Takes X W)(σ:L2.St):PassesAt (Z.CX X.prog X.w) X σ (WE W σ):=λ_ _ _ e s' I c=>tk e s' (XE.of_call I (λ_ _ _ h=>h) c)
end
theorem Zv{X:Cx}{W:WX}{e:Expr}{t:L2.St->Hp->XK->Prop}{pos:Pos}(hc:X.calm=true)(tk:Takes X W)(he:L2N.PMk X e t):PS X (.Raise (some e) none pos) (λ_ σ H=>t σ H λcls d H'=>W cls d σ H'):=by
 refine⟨λpins s σ H D I h=>?_⟩;show wpAny _ _ (do standAt pos;raiseStmt X.env (some (do let v <-eval e X.env;standAt pos;pure v)) none) _ _ _;refine wpAny_bind (wpAny_standAt (raise_made (I.ok.hd hc) (wpAny_bind (wpAny_mono (he pins s σ H _ I h) (λu s1 aT=>wpAny_bind (wpAny_standAt (wpAny_pure ?_))) λ_ _ x=>x))));obtain⟨a,eP,vs,dq,H',cls,d,rfl,J,k,dA,ha,hz,hd,h1,na,os,h8,r,q⟩:=aT;obtain⟨r1,r2⟩:=r (model X.prog X.w) s1.heap (J.kIn.keeps k);exact⟨a,eP,vs,cls,rfl,ha,hz.1,hd,h1,r1,r2,tk _ _ (XE.new J k dA ha (jx.Zr hz) hd h1 na os h8 q)⟩
theorem Zw{X:Cx}{W:WX}{E:XK}(tk:Takes X W)(kd:∀cls d σ H,E cls d H->W cls d σ H):∀(pins:List (Addr×Obj)) (σ:L2.St) (H:Hp) (s:Shared) (e:Value) (s':Shared),Inv X pins σ H s->Z.CX X.prog X.w X.stack H s E e s'->X.xe e s' :=
 λ_ σ _ _ e s' I c=>tk e s' (XE.of_call I (λcls d H' h=>kd cls d σ H' h) c)
mutual
def cR(g:Nat->Option D):D->Option D
 | .tup xs=>(fW g xs).map .tup
 | .bS xs=>(fW g xs).map .bS
 | .lst xs=>(fW g xs).map .lst
 | .dct ks vs=>match fW g ks,fW g vs with
  |some a,some b=>some (.dct a b)
  |_,_=>none
 | .dX w ks vs=>match fW g ks,fW g vs with
  |some a,some b=>some (.dX w a b)
  |_,_=>none
 | .ins c ns vs=>(fW g vs).map (.ins c ns)
 | .ptr n=>g n
 | .non=>some .non
 | .bl b=>some (.bl b)
 | .int i=>some (.int i)
 | .str s=>some (.str s)
 | .ty n=>some (.ty n)
 | .cls c=>some (.cls c)
 | .cy xs=>some (.cy xs)
 | .exc c ns vs=>(fW g vs).map (.exc c ns)
 | .lam T da=>some (.lam T da)
 | .h4 T o4=>(fW g o4).map (.h4 T)
def fW(g:Nat->Option D):List D->Option (List D)
 |[]=>some []
 |d::ds=>match cR g d,fW g ds with
  |some a,some b=>some (a::b)
  |_,_=>none
end
def d2(S:Store)(k:Nat):Nat->Nat->Option D
 |0,n=>if n<k then some (.ptr n)else none
 |f+1,n=>if n<k then some (.ptr n)else match S[n]? with
  |some (.lst ds)=>(fW (d2 S k f) ds).map .lst
  |some (.dct false ks vs)=>match fW (d2 S k f) ks,fW (d2 S k f) vs with
   |some a,some b=>some (.dct a b)
   |_,_=>none
  |some (.dX w ks vs)=>match fW (d2 S k f) ks,fW (d2 S k f) vs with
   |some a,some b=>some (.dX w a b)
   |_,_=>none
  |some (.ins c ns vs)=>(fW (d2 S k f) vs).map (.ins c ns)
  |_=>none
mutual
def bg(k:Nat):D->Bool
 | .tup xs=>bC k xs
 | .bS xs=>bC k xs
 | .lst xs=>bC k xs
 | .dct ks vs=>bC k ks&&bC k vs
 | .dX _ ks vs=>bC k ks&&bC k vs
 | .ins _ _ vs=>bC k vs
 | .ptr n=>decide (n<k)
 | .non=>true
 | .bl _=>true
 | .int _=>true
 | .str _=>true
 | .ty _=>true
 | .cls _=>true
 | .cy _=>true
 | .exc _ _ vs=>bC k vs
 | .lam _ _=>true
 | .h4 _ vs=>bC k vs
def bC(k:Nat):List D->Bool
 |[]=>true
 |d::ds=>bg k d&&bC k ds
end
def iI(k:Nat):dk->Bool
 | .lst xs=>bC k xs
 | .dct _ ks vs=>bC k ks&&bC k vs
 | .dX _ ks vs=>bC k ks&&bC k vs
 | .ins _ _ vs=>bC k vs
 | .tab _ _=>true
 | .dead=>true
def mO(S ak:Store):Prop:=∀(i:Nat) (m:dk),i<S.length->ak[i]?=some m->S[i]?=some m\/iI S.length m=true
def fin(S:Store):Out D->Out D
 | .ok d ak=>open Classical in if mO S ak then(match cR (d2 ak S.length 6) d with
  |some d'=>.ok d' (ak.take S.length)
  |none=>.bad)else .bad
 | .ex d ak=>open Classical in if mO S ak then(match cR (d2 ak S.length 6) d with
  |some d'=>.ex d' (ak.take S.length)
  |none=>.bad)else .bad
 | .bad=>.bad
section
variable{K:PySem.W.Frag}{mg:Str->Option Value}{ρ aj:List Addr}{H:Hp}{S ak:Store}
theorem r6.sub(hs:∀a,a∉aj->a∉ρ){f:Addr}{T:w5}{da:List (Str×Addr)}(h:r6 aj H f T da):r6 ρ H f T da:=by
 obtain⟨n,IU,pm,doc,g7,zK,bA,h1,zL,h2,aI⟩:=h;refine⟨hs _ n,IU,pm,doc,g7,zK,bA,h1,hs _ zL,h2,?_⟩;rcases aI with h|⟨n,t,e,nt,ht⟩
 .exact .inl h
 .exact .inr ⟨n,t,e,hs _ nt,ht⟩
theorem k0.sub(hs:∀a,a∉aj->a∉ρ){da:List (Str×Addr)}:∀{ns:List Str} {vs:List V},k0 aj H da ns vs->k0 ρ H da ns vs
 |[],_,h=>h
 |n::ns,_,⟨v,r,c,o,u,e,h1,n1,h2,aI,bE,hd,cw⟩=>⟨v,r,c,o,u,e,h1,hs _ n1,h2,aI,bE,hd,k0.sub hs cw⟩
mutual
theorem Zx{g:Nat->Option D}:∀(d:D) {n:NestedKey},nU d=some n->cR g d=some d
 | .non,_,_=>rfl
 | .bl _,_,_=>rfl
 | .int _,_,_=>rfl
 | .str _,_,_=>rfl
 | .tup ds,n,h=>by
  rw[nU]at h;obtain⟨ns,h1,_⟩:=fq.mp h;rw[cR,D0 ds h1];rfl
 | .bS ds,n,h=>by
  rw[nU]at h;obtain⟨ns,h1,_⟩:=fq.mp h;rw[cR,D0 ds h1];rfl
 | .ty _,_,h=>by rfl
 | .cls _,_,h=>by rfl
 | .lst _,_,h=>by rw[nU]at h;cases h
 | .dct _ _,_,h=>by rw[nU]at h;cases h
 | .dX _ _ _,_,h=>by rw[nU]at h;cases h
 | .ins _ _ _,_,h=>by rw[nU]at h;cases h
 | .ptr _,_,h=>by rw[nU]at h;cases h
 | .cy _,_,h=>by rfl
 | .exc _ _ _,_,h=>by rw[nU]at h;cases h
 | .lam _ _,_,h=>by rfl
 | .h4 _ _,_,h=>by rw[nU]at h;cases h
theorem D0{g:Nat->Option D}:∀(ds:List D) {ns:List NestedKey},w6 ds=some ns->fW g ds=some ds
 |[],_,_=>rfl
 |d::ds,ns,h=>by
  rw[w6]at h;split at h
  .rename_i a b ea eb
   rw[fW,Zx d ea,D0 ds eb]
  .cases h
end
theorem DI.frz{w:World}{ks:List D}{es:List DictEntry}{bP zJ:List V}(h:DI w ks es bP zJ){g:Nat->Option D}:fW g ks=some ks:=by
 obtain⟨ns,e,_⟩:=h;exact D0 ks e
mutual
theorem QS{g:Nat->Option D}(hg:∀(n:Nat) d' a,g n=some d'->aj[n]?=some a->Rep K mg ρ H d' (.ref a))(hs:∀a,a∉aj->a∉ρ):∀(d d':D) (v:V),cR g d=some d'->Rep K mg aj H d v->Rep K mg ρ H d' v
 | .non,d',v,e,h=>by cases e;rw[Rep]at h ⊢;exact h
 | .bl b,d',v,e,h=>by cases e;rw[Rep]at h ⊢;exact h
 | .int b,d',v,e,h=>by cases e;rw[Rep]at h ⊢;exact h
 | .str b,d',v,e,h=>by cases e;rw[Rep]at h ⊢;exact h
 | .ty b,d',v,e,h=>by cases e;rw[Rep]at h ⊢;exact h
 | .cls b,d',v,e,h=>by cases e;rw[Rep]at h ⊢;exact h
 | .tup xs,d',v,e,h=>by
  rw[cR]at e;obtain⟨ys,au,e2⟩:=fq.mp e;subst e2;rw[Rep]at h ⊢;obtain⟨a,vs,bj,t,r⟩:=h;refine⟨a,vs,bj,?_,iJ hg hs xs ys vs au r⟩;rcases t with⟨n,t⟩|t
  .exact .inl ⟨hs a n,t⟩
  .exact .inr t
 | .bS xs,d',v,e,h=>by
  rw[cR]at e;obtain⟨ys,au,e2⟩:=fq.mp e;subst e2;rw[Rep]at h ⊢;obtain⟨a,vs,bj,t,r⟩:=h;exact⟨a,vs,bj,⟨hs a t.1,t.2⟩,iJ hg hs xs ys vs au r⟩
 | .lst xs,d',v,e,h=>by
  rw[cR]at e;obtain⟨ys,au,e2⟩:=fq.mp e;subst e2;rw[Rep]at h ⊢;obtain⟨a,vs,bj,t,r⟩:=h;exact⟨a,vs,bj,⟨hs a t.1,t.2⟩,iJ hg hs xs ys vs au r⟩
 | .cy xs,d',v,e,h=>by
  cases e;rw[Rep]at h ⊢;obtain⟨a,bj,t⟩:=h;refine⟨a,bj,?_⟩;rcases t with⟨n,t⟩|t
  .exact .inl ⟨hs a n,t⟩
  .exact .inr t
 | .dct ks ds,d',v,e,h=>by
  rw[cR]at e;split at e
  .rename_i a b ea eb
   cases e;rw[Rep]at h ⊢;obtain⟨p,bP,vs,bj,⟨n,t⟩,r1,r2⟩:=h;exact⟨p,bP,vs,bj,⟨hs p n,t⟩,iJ hg hs ks a bP ea r1,iJ hg hs ds b vs eb r2⟩
  .cases e
 | .dX w ks ds,d',v,e,h=>by
  rw[cR]at e;split at e
  .rename_i a b ea eb
   cases e;rw[Rep]at h ⊢;obtain⟨p,bP,vs,bj,⟨n,I5,es,t,uL⟩,r1,r2⟩:=h;have ek:a=ks:=by
    have:=uL.frz (g:=g);rw[this]at ea;exact(Option.some.inj ea).symm
   subst ek;exact⟨p,bP,vs,bj,⟨hs p n,I5,es,t,uL⟩,iJ hg hs a a bP ea r1,iJ hg hs ds b vs eb r2⟩
  .cases e
 | .ins c ns ds,d',v,e,h=>by
  rw[cR]at e;obtain⟨ys,au,e2⟩:=fq.mp e;subst e2;rw[Rep]at h ⊢;obtain⟨a,C,bx,fs,bj,n,hm,ha,hn,r⟩:=h;exact⟨a,C,bx,fs,bj,hs a n,hm,ha,hn,iJ hg hs ds ys _ au r⟩
 | .ptr n,d',v,e,h=>by
  rw[cR]at e;rw[Rep]at h;grind
 | .exc c ns ds,d',v,e,h=>by
  rw[cR]at e;obtain⟨ys,au,e2⟩:=fq.mp e;subst e2;rw[Rep]at h ⊢;obtain⟨a,C,bx,fs,bj,n,nd,hm,ha,hd,hn,r⟩:=h;exact⟨a,C,bx,fs,bj,hs a n,hs bx nd,hm,ha,hd,hn,iJ hg hs ds ys _ au r⟩
 | .lam T da,d',v,e,h=>by
  cases e;rw[Rep]at h ⊢;obtain⟨f,e,h⟩:=h;exact⟨f,e,h.sub hs⟩
 | .h4 T o4,d',v,e,h=>by
  rw[cR]at e;obtain⟨ys,au,e2⟩:=fq.mp e;subst e2;rw[Rep]at h ⊢;obtain⟨f,da,vs,bj,h1,h2,r⟩:=h;exact⟨f,da,vs,bj,h1.sub hs,h2.sub hs,iJ hg hs o4 ys _ au r⟩
theorem iJ{g:Nat->Option D}(hg:∀(n:Nat) d' a,g n=some d'->aj[n]?=some a->Rep K mg ρ H d' (.ref a))(hs:∀a,a∉aj->a∉ρ):∀(ds n5:List D) (vs:List V),fW g ds=some n5->ay K mg aj H ds vs->ay K mg ρ H n5 vs
 |[],n5,vs,e,h=>by
  rw[fW]at e;cases e;rw[ay]at h ⊢;exact h
 |d::ds,n5,vs,e,h=>by
  rw[fW]at e;split at e
  .rename_i a b ea eb
   cases e;rw[ay]at h ⊢;obtain⟨v,r,bj,h1,h2⟩:=h;exact⟨v,r,bj,QS hg hs d a v ea h1,iJ hg hs ds b r eb h2⟩
  .cases e
end
mutual
theorem QT{k:Nat}{g:Nat->Option D}(hg:∀n,n<k->g n=some (.ptr n)):∀d:D,bg k d=true->cR g d=some d
 | .non,_=>rfl
 | .bl _,_=>rfl
 | .int _,_=>rfl
 | .str _,_=>rfl
 | .ty _,_=>rfl
 | .cls _,_=>rfl
 | .cy _,_=>rfl
 | .tup xs,h=>by rw[bg]at h;rw[cR,lO hg xs h];rfl
 | .lst xs,h=>by rw[bg]at h;rw[cR,lO hg xs h];rfl
 | .bS xs,h=>by rw[bg]at h;rw[cR,lO hg xs h];rfl
 | .dct ks vs,h=>by
  rw[bg,Bool.and_eq_true]at h;rw[cR,lO hg ks h.1,lO hg vs h.2]
 | .dX w ks vs,h=>by
  rw[bg,Bool.and_eq_true]at h;rw[cR,lO hg ks h.1,lO hg vs h.2]
 | .ins c ns vs,h=>by rw[bg]at h;rw[cR,lO hg vs h];rfl
 | .ptr n,h=>by rw[bg]at h;rw[cR];grind
 | .exc c ns vs,h=>by rw[bg]at h;rw[cR,lO hg vs h];rfl
 | .lam _ _,_=>rfl
 | .h4 T vs,h=>by rw[bg]at h;rw[cR,lO hg vs h];rfl
theorem lO{k:Nat}{g:Nat->Option D}(hg:∀n,n<k->g n=some (.ptr n)):∀ds:List D,bC k ds=true->fW g ds=some ds
 |[],_=>rfl
 |d::ds,h=>by
  rw[bC,Bool.and_eq_true]at h;rw[fW,QT hg d h.1,lO hg ds h.2]
end
theorem I6{k f n:Nat}(h:n<k):d2 S k f n=some (.ptr n):=by
 cases f with
 |zero=>rw[d2,if_pos h]
 |succ f=>rw[d2,if_pos h]
mutual
theorem Rep.hR:∀(d:D) (v:V),Rep K mg ρ H d v->bg ρ.length d=true
 | .non,_,_=>rfl
 | .bl _,_,_=>rfl
 | .int _,_,_=>rfl
 | .str _,_,_=>rfl
 | .ty _,_,_=>rfl
 | .cls _,_,_=>rfl
 | .cy _,_,_=>rfl
 | .tup xs,v,h=>by
  rw[Rep]at h;obtain⟨a,vs,_,_,r⟩:=h;rw[bg];exact ay.hR xs vs r
 | .lst xs,v,h=>by
  rw[Rep]at h;obtain⟨a,vs,_,_,r⟩:=h;rw[bg];exact ay.hR xs vs r
 | .bS xs,v,h=>by
  rw[Rep]at h;obtain⟨a,vs,_,_,r⟩:=h;rw[bg];exact ay.hR xs vs r
 | .dct ks ds,v,h=>by
  rw[Rep]at h;obtain⟨a,bP,vs,_,_,r1,r2⟩:=h;rw[bg,ay.hR ks bP r1,ay.hR ds vs r2];rfl
 | .dX w ks ds,v,h=>by
  rw[Rep]at h;obtain⟨a,bP,vs,_,_,r1,r2⟩:=h;rw[bg,ay.hR ks bP r1,ay.hR ds vs r2];rfl
 | .ins c ns ds,v,h=>by
  rw[Rep]at h;obtain⟨a,C,bx,fs,_,_,_,_,_,r⟩:=h;rw[bg];exact ay.hR ds _ r
 | .ptr n,v,h=>by
  rw[Rep]at h;obtain⟨a,_,q⟩:=h;rw[bg];grind
 | .exc c ns ds,v,h=>by
  rw[Rep]at h;obtain⟨a,C,bx,fs,_,_,_,_,_,_,_,r⟩:=h;rw[bg];exact ay.hR ds _ r
 | .lam _ _,_,_=>rfl
 | .h4 T ds,v,h=>by
  rw[Rep]at h;obtain⟨f,da,vs,_,_,_,r⟩:=h;rw[bg];exact ay.hR ds vs r
theorem ay.hR:∀(ds:List D) (vs:List V),ay K mg ρ H ds vs->bC ρ.length ds=true
 |[],_,_=>rfl
 |d::ds,vs,h=>by
  rw[ay]at h;obtain⟨v,r,_,h1,h2⟩:=h;rw[bC,Rep.hR d v h1,ay.hR ds r h2];rfl
end
theorem i3.hR{a:Addr}{m:dk}(h:i3 K mg ρ H a m):iI ρ.length m=true:=by
 cases m with
 |lst ds =>
  obtain⟨vs,_,r⟩:=h;exact ay.hR ds vs r
 |dct lk ks ds =>
  obtain⟨kvs,_,r1,r2⟩:=h;show(bC _ ks&&bC _ ds)=true;rw[ay.hR ks _ r1,ay.hR ds _ r2];rfl
 |dX w ks ds =>
  obtain⟨_,es,bP,vs,_,_,r1,r2⟩:=h;show(bC _ ks&&bC _ ds)=true;rw[ay.hR ks _ r1,ay.hR ds _ r2];rfl
 |ins c ns ds =>
  obtain⟨C,bx,fs,_,_,_,r⟩:=h;exact ay.hR ds _ r
 |tab P q=>rfl
 |dead=>rfl
structure Back(K:PySem.W.Frag)(mg:Str->Option Value)(ρ aj:List Addr)(H:Hp)(ak:Store):Prop where
 pre:∃t,aj=ρ++t
 w:aF K mg aj H ak
theorem Back.sub(b:Back K mg ρ aj H ak):∀a,a∉aj->a∉ρ:=λa h q=>by
 obtain⟨t,e⟩:=b.pre;grind
theorem Back.out(b:Back K mg ρ aj H ak){n:Nat}{a:Addr}(h:aj[n]?=some a)(hn:¬n<ρ.length):a∉ρ:=λq=>by
 obtain⟨t,e⟩:=b.pre;have nd:=b.w.nd;grind
theorem Back.QU(b:Back K mg ρ aj H ak){n:Nat}{a:Addr}(h:aj[n]?=some a)(hn:n<ρ.length):ρ[n]?=some a:=by
 obtain⟨t,e⟩:=b.pre;grind
theorem Back.frz(b:Back K mg ρ aj H ak):∀(f n:Nat) (d':D) (a:Addr),d2 ak ρ.length f n=some d'->aj[n]?=some a->Rep K mg ρ H d' (.ref a):=by
 intro f
 induction f with
 |zero =>
  intro n d' a e h;rw[d2]at e;split at e
  .rename_i hn
   cases e;rw[Rep];exact⟨a,rfl,b.QU h hn⟩
  .cases e
 |succ f ih =>
  intro n d' a e h;rw[d2]at e;split at e
  .rename_i hn
   cases e;rw[Rep];exact⟨a,rfl,b.QU h hn⟩
  .rename_i hn
   have D1:=b.out h hn;split at e
   .rename_i ds em
    obtain⟨vs,h1,r⟩:=b.w.ob n a _ h em;obtain⟨ys,au,e2⟩:=fq.mp e;subst e2;rw[Rep];exact⟨a,vs,rfl,⟨D1,h1⟩,iJ (λn d' a=>ih n d' a) b.sub ds ys vs au r⟩
   .rename_i ks ds em
    obtain⟨kvs,h1,r1,r2⟩:=b.w.ob n a _ h em;rw[if_neg j8]at h1;split at e
    .rename_i x y ex dr
     cases e;rw[Rep];exact⟨a,_,_,rfl,⟨D1,kvs,.inl h1,rfl,rfl⟩,iJ (λn d' a=>ih n d' a) b.sub ks x _ ex r1,iJ (λn d' a=>ih n d' a) b.sub ds y _ dr r2⟩
    .cases e
   .rename_i w ks ds em
    obtain⟨I5,es,bP,vs,h1,uL,r1,r2⟩:=b.w.ob n a _ h em;split at e
    .rename_i x y ex dr
     cases e;rw[Rep];have ek:x=ks:=by
      have:=uL.frz (g:=d2 ak ρ.length f);rw[this]at ex;exact(Option.some.inj ex).symm
     subst ek;exact⟨a,_,_,rfl,⟨D1,I5,es,h1,uL⟩,iJ (λn d' a=>ih n d' a) b.sub x x _ ex r1,iJ (λn d' a=>ih n d' a) b.sub ds y _ dr r2⟩
    .cases e
   .rename_i c ns ds em
    obtain⟨C,bx,fs,hm,h1,jy,r⟩:=b.w.ob n a _ h em;obtain⟨ys,au,e2⟩:=fq.mp e;subst e2;rw[Rep];exact⟨a,C,bx,fs,rfl,D1,hm,h1,jy,iJ (λn d' a=>ih n d' a) b.sub ds ys _ au r⟩
   .cases e
theorem Back.xg(b:Back K mg ρ aj H ak){ds:List D}{vs:List V}(aT:bC ρ.length ds=true)(r:ay K mg aj H ds vs):ay K mg ρ H ds vs :=
 iJ (g:=d2 ak ρ.length 0) (λn d' a=>b.frz 0 n d' a) b.sub ds ds vs (lO (λn hn=>I6 hn) ds aT) r
theorem Back.QV{D2:Hp}(b:Back K mg ρ aj H ak)(ei:aF K mg ρ D2 S)(c:mO S ak):aF K mg ρ H (ak.take S.length):=by
 obtain⟨t,e⟩:=id b.pre;have hl:ρ.length<=ak.length:=by
  have:=b.w.len;rw[e,List.length_append]at this;omega
 refine⟨?_,ei.nd,λa ha=>b.w.tr a (by grind),λn a m au e2=>?_⟩
 .rw[List.length_take,ei.len];have:=ei.len;omega
 .have hn:n<S.length:=by rw[<-ei.len];exact(List.getElem?_eq_some_iff.mp au).1
  rw[List.getElem?_take_of_lt hn]at e2;have bj:aj[n]?=some a:=by rw[e,uc (List.getElem?_eq_some_iff.mp au).1];exact au
  have aT:iI ρ.length m=true:=by
   rcases c n m hn e2 with q|q
   .exact(ei.ob n a m au q).hR
   .rw[ei.len];exact q
  have q:=b.w.ob n a m bj e2;cases m with
  |lst ds =>
   obtain⟨vs,h1,r⟩:=q;exact⟨vs,h1,b.xg aT r⟩
  |dct lk ks ds =>
   obtain⟨kvs,h1,r1,r2⟩:=q;have aT:(bC ρ.length ks&&bC ρ.length ds)=true:=aT;rw[Bool.and_eq_true]at aT;exact⟨kvs,h1,b.xg aT.1 r1,b.xg aT.2 r2⟩
  |dX w ks ds =>
   obtain⟨hs,es,bP,vs,h1,uL,r1,r2⟩:=q;have aT:(bC ρ.length ks&&bC ρ.length ds)=true:=aT;rw[Bool.and_eq_true]at aT;exact⟨hs,es,bP,vs,h1,uL,b.xg aT.1 r1,b.xg aT.2 r2⟩
  |ins c ns ds =>
   obtain⟨C,bx,fs,h0,h1,h2,r⟩:=q;exact⟨C,bx,fs,h0,h1,h2,b.xg aT r⟩
  |tab P q' =>
   obtain⟨bu,ps,h1,h2,aI⟩:=q;refine⟨bu,ps,h1,h2,λpos qq hc=>?_⟩;grind
  |dead=>exact trivial
theorem Ext.back{D2:Hp}(x:Ext ρ D2 aj H):Ext ρ D2 ρ H:=⟨⟨[],by simp⟩,λa h n=>absurd h n,x.keep⟩
theorem I7{W:Value->Option Addr->Hp->Prop}{Q:VK}{o:Out D}(ei:aF K mg ρ H S)(h:aS K mg W ρ H Q (fin S o)):aS K mg W ρ H Q o:=by
 cases o with
 |bad=>exact h
 |ok d S1 =>
  have h:aS K mg W ρ H Q (open Classical in if mO S S1 then(match cR (d2 S1 S.length 6) d with
   |some d'=>.ok d' (S1.take S.length)
   |none=>.bad)else .bad):=h
  intro v aB H1 x aE r;by_cases c:mO S S1
  .rw[if_pos c]at h
   have b:Back K mg ρ aB H1 S1:=⟨x.pre,aE⟩
   cases q:cR (d2 S1 S.length 6) d with
   |none=>rw[q]at h;exact h.elim
   |some d' =>
    rw[q]at h;have hl:d2 S1 S.length 6=d2 S1 ρ.length 6:=by rw[ei.len]
    rw[hl]at q;exact h v ρ H1 x.back (b.QV ei c) (QS (λn d' a=>b.frz 6 n d' a) b.sub d d' v q r)
  .rw[if_neg c]at h;exact h.elim
 |ex d S1 =>
  have h:aS K mg W ρ H Q (open Classical in if mO S S1 then(match cR (d2 S1 S.length 6) d with
   |some d'=>.ex d' (S1.take S.length)
   |none=>.bad)else .bad):=h
  intro C dd aB H1 x aE r;by_cases c:mO S S1
  .rw[if_pos c]at h
   have b:Back K mg ρ aB H1 S1:=⟨x.pre,aE⟩
   cases q:cR (d2 S1 S.length 6) d with
   |none=>rw[q]at h;exact h.elim
   |some d' =>
    rw[q]at h;have hl:d2 S1 S.length 6=d2 S1 ρ.length 6:=by rw[ei.len]
    rw[hl]at q;refine h C dd ρ H1 x.back (b.QV ei c) ?_;obtain⟨bA,ns,ds,ux,k1,fs,e,hm,g_,Zy,Zz,hx,hn,cB⟩:=r;subst e;rw[cR]at q;obtain⟨ys,au,e2⟩:=fq.mp q;exact⟨bA,ns,ys,ux,k1,fs,e2.symm,hm,g_,Zy,b.sub k1 Zz,hx,hn,iJ (λn d' a=>b.frz 6 n d' a) b.sub ds ys _ au cB⟩
  .rw[if_neg c]at h;exact h.elim
end
def g'(K:PySem.W.Frag)(mg:Str->Option Value)(n:Nat)(g:aD):Sp:=λvs H Q E=>∃ρ S ds,ds.length=n/\aF K mg ρ H S/\ay K mg ρ H ds vs/\aS K mg E ρ H Q (g ds S)
def SO.out:SO->Out D
 | .nx _ S=>.ok .non S
 | .rt d S=>.ok d S
 | .ex e _ S=>.ex e S
 |_=>.bad
def bN(N:Nat)(body:SX):aD:=λds S=>fin S (body (ds.map some++List.replicate (N - ds.length) none) S).out
section
variable{K:PySem.W.Frag}{mg:Str->Option Value}
theorem I8{ρ:List Addr}{H:Hp}{N:List Str}{ds:List D}{vs:List V}(r:ay K mg ρ H ds vs):cq K mg ρ H (L2.start N vs) (ds.map some++List.replicate (N.length - ds.length) none):=by
 have hl:=r.len;refine⟨by unfold L2.start;simp[hl],λi d e=>?_⟩;have hi:i<ds.length:=by
  by_cases hi:i<ds.length
  .exact hi
  .grind
 rw[uc (by grind),List.getElem?_map]at e;cases q:ds[i]? with
 |none=>grind
 |some d' =>
  rw[q]at e;cases e;obtain⟨v,au,aR⟩:=r.get q;refine⟨v,?_,aR⟩;unfold L2.start;grind
end
section
variable{W:WX}{n:Nat}{f C:Addr}{e:Expr}
def xh(S:Store):D->Option Str
 | .ins c _ _=>some c
 | .ptr n=>match S[n]? with
  |some (.ins c _ _)=>some c
  |_=>none
 |_=>none
def f'(S:Store):D->Option (Str×List Str×List D)
 | .ins c ns vs=>some (c,ns,vs)
 | .ptr n=>match S[n]? with
  |some (.ins c ns vs)=>some (c,ns,vs)
  |_=>none
 |_=>none
theorem o_{K:PySem.W.Frag}{mg:Str->Option Value}{ρ:List Addr}{H:Hp}{S:Store}{d:D}{v:V}{c:Str}{ns:List Str}{vs:List D}(w:aF K mg ρ H S)(r:Rep K mg ρ H d v)(h:f' S d=some (c,ns,vs)) :
  ∃a C bx fs,v=.ref a/\mg c=some (.ref C)/\H a=some (.ins C bx fs)/\fs.map (·.1)=ns/\ay K mg ρ H vs (fs.map (·.2)):=by
 cases d with
 |ins bA jz dg =>
  unfold f' at h;cases h;rw[Rep]at r;grind
 |ptr n =>
  unfold f' at h;rw[Rep]at r;obtain⟨a,e,q⟩:=r;simp only at h;split at h
  .rename_i bA jz dg em
   cases h;obtain⟨C,bx,fs,hm,ha,hn,cB⟩:=w.ob n a _ q em;grind
  .cases h
 |_=>unfold f' at h;cases h
def ke(f:Str):List Str->List D->Option D
 |n::ns,v::vs=>if f=n then some v else ke f ns vs
 |_,_=>none
theorem I9{K:PySem.W.Frag}{mg:Str->Option Value}{ρ:List Addr}{H:Hp}{f:Str}{d:D}:∀{fs:List (Str×V)} {ns:List Str} {vs:List D},fs.map (·.1)=ns->ay K mg ρ H vs (fs.map (·.2))->ke f ns vs=some d->∃v,fs.lookup f=some v/\Rep K mg ρ H d v
 |[],_,_,e,_,h=>by simp at e;subst e;simp[ke]at h
 |(n,v)::fs,_,[],e,r,h=>by simp only[c1]at e;subst e;simp[ke]at h
 |(n,v)::fs,_,o'::vs,e,r,h=>by
  simp only[c1]at e r;subst e;rw[ay]at r;obtain⟨n6,bM,cW,r1,r2⟩:=r;cases cW;unfold ke at h;by_cases q:f=n
  .grind
  .rw[if_neg q]at h
   obtain⟨u,h1,h2⟩:=I9 rfl r2 h;grind
theorem I_:∀{f:Str} {fs:List (Str×V)} {ns:List Str},fs.map (·.1)=ns->f∉ns->fs.lookup f=none
 |f,[],_,e,h=>rfl
 |f,(n,v)::fs,_,e,h=>by
  grind
end
section
variable{K:PySem.W.Frag}{mg:Str->Option Value}{ρ:List Addr}{H:Hp}{S:Store}
theorem fX{i:Int}{v:V}(h:Rep K mg ρ H (.int i) v):v=.int i:=by rw[Rep]at h;exact h
theorem kf{i:Bool}{v:V}(h:Rep K mg ρ H (.bl i) v):v=.bl i:=by rw[Rep]at h;exact h
theorem eV{i:Str}{v:V}(h:Rep K mg ρ H (.str i) v):v=.str i:=by rw[Rep]at h;exact h
theorem n7{v:V}(h:Rep K mg ρ H .non v):v=.non:=by rw[Rep]at h;exact h
theorem I'{n:String}{v:V}(h:Rep K mg ρ H (.ty n) v):v=.ty n:=by rw[Rep]at h;exact h
theorem h9{i:Int}:Rep K mg ρ H (.int i) (.int i):=by rw[Rep]
theorem gS{i:Bool}:Rep K mg ρ H (.bl i) (.bl i):=by rw[Rep]
theorem mP{i:Str}:Rep K mg ρ H (.str i) (.str i):=by rw[Rep]
theorem QW:Rep K mg ρ H .non .non:=by rw[Rep]
theorem gC{d:D}{v:V}{ds:List D}(w:aF K mg ρ H S)(r:Rep K mg ρ H d v)(h:cY S d=some ds):∃a vs,v=.ref a/\H a=some (.lst vs)/\ay K mg ρ H ds vs:=by
 cases d with
 |lst xs =>
  unfold cY at h;cases h;rw[Rep]at r;obtain⟨a,vs,e,t,r⟩:=r;exact⟨a,vs,e,t.2,r⟩
 |ptr n =>
  unfold cY at h;simp only at h;rw[Rep]at r;obtain⟨a,e,q⟩:=r;split at h
  .rename_i xs em
   cases h;obtain⟨vs,h1,h2⟩:=w.ob n a _ q em;grind
  .cases h
 |_=>unfold cY at h;cases h
def c9(S:Store):D->Option (List D)
 | .tup ds=>some ds
 | .bS ds=>some ds
 | .cy xs=>some (xs.map .int)
 |d=>cY S d
theorem Ja:∀xs:List Int,ay K mg ρ H (xs.map .int) (xs.map V.int)
 |[]=>ay.nil
 |x::xs=>ay.cons h9 (Ja xs)
theorem zU{d:D}{v:V}{ds:List D}(w:aF K mg ρ H S)(r:Rep K mg ρ H d v)(h:c9 S d=some ds):∃a vs,v=.ref a/\(SqL K H a vs\/SqT K H a vs)/\ay K mg ρ H ds vs:=by
 cases d with
 |tup xs =>
  unfold c9 at h;cases h;rw[Rep]at r;obtain⟨a,vs,e,t,r⟩:=r;exact⟨a,vs,e,.inr t.df,r⟩
 |cy xs =>
  unfold c9 at h;cases h;rw[Rep]at r;obtain⟨a,e,t⟩:=r;exact⟨a,_,e,.inl t.df,Ja xs⟩
 |lst xs =>
  obtain⟨a,vs,e,h1,h2⟩:=gC w r (show cY S (.lst xs)=some ds from h);exact⟨a,vs,e,.inl (.inl (.inl h1)),h2⟩
 |ptr n =>
  obtain⟨a,vs,e,h1,h2⟩:=gC w r (show cY S (.ptr n)=some ds from h);exact⟨a,vs,e,.inl (.inl (.inl h1)),h2⟩
 |bS xs =>
  unfold c9 at h;cases h;rw[Rep]at r;obtain⟨a,vs,e,t,r⟩:=r;exact⟨a,vs,e,.inr t.df,r⟩
 |_=>unfold c9 cY at h;cases h
end
def sj(g:Int->Int->D):bZ:=λd e S=>match d,e with
 | .int i,.int j=>.ok (g i j) S
 |_,_=>.bad
def qw(C:Int->Int->Bool)(g:Int->Int->D):bZ:=λd e S=>match d,e with
 | .int i,.int j=>if C i j=true then .ok (g i j) S else .bad
 |_,_=>.bad
section
variable{X:Cx}
theorem xj{f:Value->Value->Sem Value}{gd:Int->Int->D}{g:Int->Int->V}(o:OpR X f (rI0 g))(hg:∀i j ρ H,Rep X.K X.mg ρ H (gd i j) (g i j)):cA X f (sj gd):=by
 refine⟨_,o,λWp ρ H S d e x y Q w aC a_ p=>?_⟩;unfold sj at p;split at p
 .exact⟨_,_,fX aC,fX a_,cj p w (hg _ _ ρ H)⟩
 .exact p.elim
theorem D3{f:Value->Value->Sem Value}{C:Int->Int->Prop}{Cb:Int->Int->Bool}{gd:Int->Int->D}{g:Int->Int->V}(o:OpR X f (rI C g))(g_:∀i j,Cb i j=true->C i j)(hg:∀i j ρ H,Rep X.K X.mg ρ H (gd i j) (g i j)):cA X f (qw Cb gd):=by
 refine⟨_,o,λWp ρ H S d e x y Q w aC a_ p=>?_⟩;unfold qw at p;split at p
 .split at p
  .rename_i hc
   exact⟨_,_,fX aC,fX a_,g_ _ _ hc,cj p w (hg _ _ ρ H)⟩
  .exact p.elim
 .exact p.elim
def Jb:bZ:=sj λi j=>.int (i+j)
def mQ:bZ:=sj λi j=>.int (i - j)
def QX(i j:Int):Bool:=decide (i.natAbs.log2+j.natAbs.log2<1000000)
def Jc:bZ:=qw QX λi j=>.int (i * j)
def QY(_ j:Int):Bool:=decide (0<j/\j.natAbs.log2<9000)
def i5:bZ:=qw QY λi j=>.int (i / j)
def i6:bZ:=qw (λ_ j=>decide (0<j)) λi j=>.int (i % j)
def D4:bZ:=qw (λi j=>decide (0<=j/\j<=1000/\i.natAbs<2 ^ 60)) λi j=>.int (i ^ j.toNat)
theorem QZ:cA X (binaryOp .Add) Jb:=xj op_add λ_ _ _ _=>h9
theorem qx:cA X (binaryOp .Sub) mQ:=xj op_sub λ_ _ _ _=>h9
theorem ZA:cA X (binaryOp .Mult) Jc:=D3 op_mulW (λi j h=>of_decide_eq_true (p:=i.natAbs.log2+j.natAbs.log2<1000000) h) λ_ _ _ _=>h9
theorem pa:cA X (binaryOp .FloorDiv) i5:=D3 op_fdivW (λi j h=>of_decide_eq_true (p:=0<j/\j.natAbs.log2<9000) h) λ_ _ _ _=>h9
theorem qy:cA X (binaryOp .Mod) i6:=D3 op_mod (λi j h=>of_decide_eq_true h) λ_ _ _ _=>h9
theorem ZC:cA X (binaryOp .Pow) D4:=D3 op_pow (λi j h=>by
 have h:=of_decide_eq_true h;have h1:(2:Nat) ^ 60<2 ^ 64:=by decide
 exact⟨h.1,by omega,by omega⟩) λ_ _ _ _=>h9
def ltI:bZ:=sj λi j=>.bl (decide (i<j))
def k6:bZ:=sj λi j=>.bl (decide (i<=j))
def kg:bZ:=sj λi j=>.bl (decide (j<i))
def zV:bZ:=sj λi j=>.bl (decide (j<=i))
theorem ZD:cA X (compareOp .Lt) ltI:=xj op_lt λ_ _ _ _=>gS
theorem xk:cA X (compareOp .LtE) k6:=xj op_le λ_ _ _ _=>gS
theorem sk:cA X (compareOp .Gt) kg:=xj op_gt λ_ _ _ _=>gS
theorem Q0:cA X (compareOp .GtE) zV:=xj op_ge λ_ _ _ _=>gS
def D5:w_:=λd S=>match d with
 | .int i=>.ok (.int (-i)) S
 |_=>.bad
theorem Q5:QF X (unaryOp .USub) D5:=by
 refine⟨_,un_neg,λWp ρ H S d x Q w aC p=>?_⟩;cases d with
 |int i=>exact⟨i,fX aC,cj p w h9⟩
 |_=>exact p.elim
def xl:bZ:=λd e S=>match d,e with
 | .str i,.str j=>if i.length+j.length<=1000000 then .ok (.str (i++j)) S else .bad
 |_,_=>.bad
theorem Q6:cA X (binaryOp .Add) xl:=by
 refine⟨_,op_add_str,λWp ρ H S d e x y Q w aC a_ p=>?_⟩;unfold xl at p;split at p
 .split at p
  .rename_i hl
   exact⟨_,_,eV aC,eV a_,h7 hl,cj p w mP⟩
  .exact p.elim
 .exact p.elim
def Jd:bZ:=λd e S=>match d,e with
 | .str i,.str j=>.ok (.bl (decide (i.cps.toList<j.cps.toList))) S
 |_,_=>.bad
theorem ZE:cA X (compareOp .Lt) Jd:=by
 refine⟨_,op_lt_str,λWp ρ H S d e x y Q w aC a_ p=>?_⟩;unfold Jd at p;split at p
 .exact⟨_,_,eV aC,eV a_,cj p w gS⟩
 .exact p.elim
def zW(neg:Bool):bZ:=λd e S=>match d,e with
 | .str i,.str j=>(match i.cps.toList with
  |[c]=>.ok (.bl (if neg=true then !decide (c∈j.cps.toList)else decide (c∈j.cps.toList))) S
  |_=>.bad)
 |_,_=>.bad
theorem ZF{i:Str}{c:Nat}(h:i.cps.toList=[c]):i=⟨#[c]⟩:=by
 obtain⟨a⟩:=i;have:a = #[c]:=by
  have:=congrArg List.toArray h;simpa using this
 rw[this]
theorem ZI:cA X (compareOp .In) (zW false):=by
 refine⟨_,op_in_sign,λWp ρ H S d e x y Q w aC a_ p=>?_⟩;unfold zW at p;split at p
 .split at p
  .rename_i c hc
   have hs:=ZF hc;refine⟨c,_,?_,eV a_,cj p w gS⟩;rw[eV aC,hs]
  .exact p.elim
 .exact p.elim
mutual
def dt:D->Option PyData
 | .non=>some .none
 | .bl b=>some (.bool b)
 | .int i=>some (.int i)
 | .str s=>some (.str s)
 | .lst xs=>(gT xs).map .list
 | .tup xs=>(gT xs).map .tuple
 | .bS xs=>(gT xs).map .tuple
 |_=>none
def gT:List D->Option (List PyData)
 |[]=>some []
 |d::ds=>match dt d,gT ds with
  |some a,some b=>some (a::b)
  |_,_=>none
end
def toP(S:Store):D->Option PyData
 | .ptr n=>match S[n]? with
  |some (.lst ds)=>(gT ds).map .list
  |_=>none
 |d=>dt d
def aU(neg:Bool):bZ:=λd e S=>match toP S d,toP S e with
 |some a,some b=>if SeqAt.shaped a=true/\SeqAt.shaped b=true then .ok (.bl (if neg=true then !PyData.eqv a b else PyData.eqv a b)) S else .bad
 |_,_=>.bad
mutual
theorem Q7{K:PySem.W.Frag}{mg:Str->Option Value}{ρ:List Addr}{H:Hp}:∀(d:D) (v:V) (p:PyData),Rep K mg ρ H d v->dt d=some p->Dp K H v p
 | .non,v,p,r,h=>by rw[dt]at h;cases h;rw[n7 r];exact .non
 | .bl b,v,p,r,h=>by rw[dt]at h;cases h;rw[kf r];exact .bl b
 | .int b,v,p,r,h=>by rw[dt]at h;cases h;rw[fX r];exact .int b
 | .str b,v,p,r,h=>by rw[dt]at h;cases h;rw[eV r];exact .str b
 | .lst xs,v,p,r,h=>by
  rw[dt]at h;obtain⟨ys,au,e2⟩:=fq.mp h;subst e2;rw[Rep]at r;obtain⟨a,vs,e,t,r⟩:=r;subst e;exact .lst t.df (zX xs vs ys r au)
 | .tup xs,v,p,r,h=>by
  rw[dt]at h;obtain⟨ys,au,e2⟩:=fq.mp h;subst e2;rw[Rep]at r;obtain⟨a,vs,e,t,r⟩:=r;subst e;exact .tup t.df (zX xs vs ys r au)
 | .bS xs,v,p,r,h=>by
  rw[dt]at h;obtain⟨ys,au,e2⟩:=fq.mp h;subst e2;rw[Rep]at r;obtain⟨a,vs,e,t,r⟩:=r;subst e;exact .tup t.df (zX xs vs ys r au)
 | .ty _,v,p,r,h=>by rw[dt]at h;all_goals grind
 | .cls _,v,p,r,h=>by rw[dt]at h;all_goals grind
 | .dct _ _,v,p,r,h=>by rw[dt]at h;all_goals grind
 | .dX _ _ _,v,p,r,h=>by rw[dt]at h;all_goals grind
 | .ins _ _ _,v,p,r,h=>by rw[dt]at h;all_goals grind
 | .ptr _,v,p,r,h=>by rw[dt]at h;all_goals grind
 | .cy _,v,p,r,h=>by rw[dt]at h;all_goals grind
 | .exc _ _ _,v,p,r,h=>by rw[dt]at h;all_goals grind
 | .lam _ _,v,p,r,h=>by rw[dt]at h;all_goals grind
 | .h4 _ _,v,p,r,h=>by rw[dt]at h;all_goals grind
theorem zX{K:PySem.W.Frag}{mg:Str->Option Value}{ρ:List Addr}{H:Hp}:∀(ds:List D) (vs:List V) (ps:List PyData),ay K mg ρ H ds vs->gT ds=some ps->DpAll K H vs ps
 |[],vs,ps,r,h=>by rw[gT]at h;cases h;rw[ay]at r;subst r;exact .nil
 |d::ds,vs,ps,r,h=>by
  rw[gT]at h;split at h
  .rename_i a b ea eb
   cases h;rw[ay]at r;obtain⟨v,bM,e,h1,h2⟩:=r;subst e;exact .cons (Q7 d v a h1 ea) (zX ds bM b h2 eb)
  .cases h
end
theorem D6{K:PySem.W.Frag}{mg:Str->Option Value}{ρ:List Addr}{H:Hp}{S:Store}{d:D}{v:V}{p:PyData}(w:aF K mg ρ H S)(r:Rep K mg ρ H d v)(h:toP S d=some p):Dp K H v p:=by
 cases d with
 |ptr n =>
  unfold toP at h;simp only at h;split at h
  .rename_i ds em
   obtain⟨ys,au,e2⟩:=fq.mp h;subst e2;rw[Rep]at r;obtain⟨a,e,q⟩:=r;subst e;obtain⟨vs,h1,h2⟩:=w.ob n a _ q em;exact .lst (.inl (.inl h1)) (zX ds vs ys h2 au)
  .cases h
 |_=>exact Q7 _ v p r h
theorem dQ(aT:X.A.units+64<cLine):cA X (compareOp .Eq) (aU false):=by
 refine⟨_,op_eqD aT,λWp ρ H S d e x y Q w aC a_ p=>?_⟩;unfold aU at p;split at p
 .rename_i a b ea eb
  split at p
  .rename_i hs
   exact⟨a,b,D6 w aC ea,D6 w a_ eb,hs.1,hs.2,cj p w gS⟩
  .exact p.elim
 .exact p.elim
theorem jP(aT:X.A.units+64<cLine):cA X (compareOp .NotEq) (aU true):=by
 refine⟨_,op_neD aT,λWp ρ H S d e x y Q w aC a_ p=>?_⟩;unfold aU at p;split at p
 .rename_i a b ea eb
  split at p
  .rename_i hs
   exact⟨a,b,D6 w aC ea,D6 w a_ eb,hs.1,hs.2,cj p w gS⟩
  .exact p.elim
 .exact p.elim
def qz:D->Bool
 | .non=>true
 |_=>false
def uM(neg:Bool):bZ:=λd e S=>match e with
 | .non=>.ok (.bl (if neg=true then !qz d else qz d)) S
 |_=>.bad
theorem ZL{K:PySem.W.Frag}{mg:Str->Option Value}{ρ:List Addr}{H:Hp}{d:D}{x:V}(r:Rep K mg ρ H d x):decide (x=V.non)=qz d:=by
 cases d with
 |non=>rw[n7 r];rfl
 |bl b=>rw[kf r];rfl
 |int b=>rw[fX r];rfl
 |str b=>rw[eV r];rfl
 |ty b=>rw[I' r];rfl
 |cls c=>rw[Rep]at r;obtain⟨C,_,e⟩:=r;rw[e];rfl
 |tup xs=>rw[Rep]at r;obtain⟨a,vs,e,_⟩:=r;rw[e];rfl
 |lst xs=>rw[Rep]at r;obtain⟨a,vs,e,_⟩:=r;rw[e];rfl
 |bS xs=>rw[Rep]at r;obtain⟨a,vs,e,_⟩:=r;rw[e];rfl
 |dct ks vs=>rw[Rep]at r;obtain⟨a,_,_,e,_⟩:=r;rw[e];rfl
 |dX w ks vs=>rw[Rep]at r;obtain⟨a,_,_,e,_⟩:=r;rw[e];rfl
 |ins c ns vs=>rw[Rep]at r;obtain⟨a,_,_,_,e,_⟩:=r;rw[e];rfl
 |ptr n=>rw[Rep]at r;obtain⟨a,e,_⟩:=r;rw[e];rfl
 |cy xs=>rw[Rep]at r;obtain⟨a,e,_⟩:=r;rw[e];rfl
 |exc c ns vs=>rw[Rep]at r;obtain⟨a,_,_,_,e,_⟩:=r;rw[e];rfl
 |lam T c=>rw[Rep]at r;obtain⟨a,e,_⟩:=r;rw[e];rfl
 |h4 T c=>rw[Rep]at r;obtain⟨a,_,_,e,_⟩:=r;rw[e];rfl
theorem D7:cA X (compareOp .Is) (uM false):=by
 refine⟨_,op_isN,λWp ρ H S d e x y Q w aC a_ p=>?_⟩;unfold uM at p;split at p
 .refine⟨n7 a_,?_⟩
  rw[ZL aC];exact cj p w gS
 .exact p.elim
def qA:bZ:=λd e S=>match cY S d,cY S e with
 |some a,some b=>if a.length+b.length<=1000000 then .ok (.lst (a++b)) S else .bad
 |_,_=>.bad
theorem Q8:cA X (binaryOp .Add) qA:=by
 refine⟨_,op_cat,λWp ρ H S d e x y Q w aC a_ p=>?_⟩;unfold qA at p;split at p
 .rename_i a b ea eb
  split at p
  .rename_i hl
   obtain⟨l,vs,au,h1,r1⟩:=gC w aC ea;obtain⟨l2,qB,e2,h2,r2⟩:=gC w a_ eb;exact⟨l,l2,vs,qB,au,e2,h1,h2,by rw[<-r1.len,<-r2.len];exact h7 hl,λq hq=>xb p w (r1.append r2) hq⟩
  .exact p.elim
 .exact p.elim
def zY:bZ:=λd e S=>match d,e with
 | .tup a,.tup b=>if a≠[]/\b≠[]/\a.length+b.length<=1000000 then .ok (.tup (a++b)) S else .bad
 |_,_=>.bad
theorem ZO:cA X (binaryOp .Add) zY:=by
 refine⟨_,op_catT,λWp ρ H S d e x y Q w aC a_ p=>?_⟩;unfold zY at p;split at p
 .rename_i a b
  split at p
  .rename_i hl
   rw[Rep]at aC a_;obtain⟨l,vs,au,h1,r1⟩:=aC;obtain⟨l2,qB,e2,h2,r2⟩:=a_;have n1:vs≠[]:=λq=>hl.1 (e1.mp (by rw[r1.len,q];rfl));have n2:qB≠[]:=λq=>hl.2.1 (e1.mp (by rw[r2.len,q];rfl));exact⟨l,l2,vs,qB,au,e2,h1.df,h2.df,n1,by rw[<-r1.len,<-r2.len];exact h7 hl.2.2,λq=>absurd q n2,λ_ q hq=>w' p w (r1.append r2) hq⟩
  .exact p.elim
 .exact p.elim
def Q9(k:Nat)(xs:List D):List D:=(List.replicate k xs).flatten
theorem ay.rep{K:PySem.W.Frag}{mg:Str->Option Value}{ρ:List Addr}{H:Hp}{ds:List D}{vs:List V}(r:ay K mg ρ H ds vs):∀k:Nat,ay K mg ρ H (Q9 k ds) (List.replicate k vs).flatten
 |0=>ay.nil
 |k+1=>by
  show ay K mg ρ H (List.replicate (k+1) ds).flatten _;rw[List.replicate_succ,List.replicate_succ,List.flatten_cons,List.flatten_cons];exact r.append (ay.rep r k)
def Je:bZ:=λd e S=>match cY S d,e with
 |some a,.int k=>if k<1000000/\a.length * k.toNat<=1000000 /\ -1000000<=k then .ok (.lst (Q9 k.toNat a)) S else .bad
 |_,_=>.bad
theorem ZP:cA X (binaryOp .Mult) Je:=by
 refine⟨_,op_rep,λWp ρ H S d e x y Q w aC a_ p=>?_⟩;unfold Je at p;split at p
 .rename_i a k ea
  split at p
  .rename_i hl
   obtain⟨l,vs,au,h1,r1⟩:=gC w aC ea;exact⟨l,k,vs,au,fX a_,h1,by omega,by omega,by rw[<-r1.len];exact h7 hl.2.1,λq hq=>xb p w (r1.rep k.toNat) hq⟩
  .exact p.elim
 .exact p.elim
def n8:D->Bool
 | .non=>true
 | .bl _=>true
 | .int _=>true
 | .str _=>true
 |_=>false
def xm:D->D->Bool
 | .non,.non=>true
 | .bl a,.bl b=>a==b
 | .bl a,.int j=>(if a then 1 else 0)==j
 | .int i,.bl b=>i==(if b then 1 else 0)
 | .int i,.int j=>i==j
 | .str x,.str y=>x==y
 |_,_=>false
end
section
variable{X:Cx}
def inD(x:D)(xs:List D):Bool:=xs.any λy=>xm y x
theorem Q_{K:PySem.W.Frag}{mg:Str->Option Value}{ρ:List Addr}{H:Hp}{d:D}{v:V}(f:n8 d=true)(r:Rep K mg ρ H d v):flatV v=true:=by
 cases d with
 |non=>rw[n7 r];rfl
 |bl b=>rw[kf r];rfl
 |int b=>rw[fX r];rfl
 |str b=>rw[eV r];rfl
 |_=>cases f
theorem ZQ{K:PySem.W.Frag}{mg:Str->Option Value}{ρ:List Addr}{H:Hp}{d e:D}{v u:V}(f:n8 d=true)(g:n8 e=true)(r:Rep K mg ρ H d v)(q:Rep K mg ρ H e u):eqV v u=xm d e:=by
 cases d with
 |non=>rw[n7 r];cases e with
  |non=>rw[n7 q];rfl
  |bl b=>rw[kf q];rfl
  |int b=>rw[fX q];rfl
  |str b=>rw[eV q];rfl
  |_=>cases g
 |bl b=>rw[kf r];cases e with
  |non=>rw[n7 q];rfl
  |bl b=>rw[kf q];rfl
  |int b=>rw[fX q];rfl
  |str b=>rw[eV q];rfl
  |_=>cases g
 |int b=>rw[fX r];cases e with
  |non=>rw[n7 q];rfl
  |bl b=>rw[kf q];rfl
  |int b=>rw[fX q];rfl
  |str b=>rw[eV q];rfl
  |_=>cases g
 |str b=>rw[eV r];cases e with
  |non=>rw[n7 q];rfl
  |bl b=>rw[kf q];rfl
  |int b=>rw[fX q];rfl
  |str b=>rw[eV q];rfl
  |_=>cases g
 |_=>cases f
theorem Q'{K:PySem.W.Frag}{mg:Str->Option Value}{ρ:List Addr}{H:Hp}{x:D}{v:V}(f:n8 x=true)(r:Rep K mg ρ H x v):∀{ds:List D} {vs:List V},ay K mg ρ H ds vs->ds.all n8=true->vs.all flatV=true/\inV v vs=inD x ds
 |[],_,h,_=>by rw[ay]at h;subst h;exact⟨rfl,rfl⟩
 |d::ds,_,h,a=>by
  rw[ay]at h;obtain⟨u,bM,e,h1,h2⟩:=h;subst e;rw[List.all_cons,Bool.and_eq_true]at a;obtain⟨i1,i2⟩:=Q' f r h2 a.2;refine⟨by rw[List.all_cons,Q_ a.1 h1,i1];rfl,?_⟩;show(eqV u v||inV v bM)=(xm d x||inD x ds)
  rw[i2,ZQ a.1 f h1 r]
def D8(neg:Bool):bZ:=λd e S=>match c9 S e with
 |some ds=>if n8 d=true/\ds.all n8=true then .ok (.bl (if neg=true then !inD d ds else inD d ds)) S else .bad
 |none=>.bad
theorem ZR:cA X (compareOp .In) (D8 false):=by
 refine⟨_,op_in_seq,λWp ρ H S d e x y Q w aC a_ p=>?_⟩;unfold D8 at p;split at p
 .rename_i ds ea
  split at p
  .rename_i hf
   obtain⟨a,vs,au,h1,r1⟩:=zU w a_ ea;obtain⟨i1,i2⟩:=Q' hf.1 aC r1 hf.2;refine⟨a,vs,au,h1,Q_ hf.1 aC,i1,?_⟩;rw[i2];exact cj p w gS
  .exact p.elim
 .exact p.elim
def zZ:aD:=λds S=>match ds with
 |[.str s]=>if s.length<=1000000 then .ok (.int s.length) S else .bad
 |[d]=>(match c9 S d with
  |some xs=>.ok (.int xs.length) S
  |none=>.bad)
 |_=>.bad
theorem d_len:hN X (.builtin "len") zZ:=by
 refine⟨_,call_len,λWp ρ H S ds xs Q w r p=>?_⟩
 match ds,r,p with
 |[d],r,p =>
  rw[ay]at r;obtain⟨v,bM,e,h1,h2⟩:=r;rw[ay]at h2;subst h2 e;have go:∀ys,c9 S d=some ys->aS X.K X.mg Wp ρ H Q (.ok (.int ys.length) S)->∃x n,[v]=[x]/\LenV X.K x H n/\Q (.int n) H:=λys ea p=>by
   obtain⟨a,vs,au,aI,r1⟩:=zU w h1 ea;subst au;refine⟨_,vs.length,rfl,?_,by rw[<-r1.len];exact cj p w h9⟩;rcases aI with aI|aI
   .exact .inl ⟨vs,aI,rfl⟩
   .exact .inr ⟨vs,aI,rfl⟩
  cases d with
  |str s =>
   unfold zZ at p;simp only at p;split at p
   .rename_i hl
    exact⟨.str s,s.length,by rw[eV h1],⟨h7 hl,rfl⟩,cj p w h9⟩
   .exact p.elim
  |tup xs=>exact go xs rfl p
  |bS xs=>exact go xs rfl p
  |lst xs=>exact go xs rfl p
  |cy xs=>exact go _ rfl p
  |ptr n =>
   have p:aS X.K X.mg Wp ρ H Q (match c9 S (.ptr n)with
    |some xs=>.ok (.int xs.length) S
    |none=>.bad):=p
   split at p
   .grind
   .exact p.elim
  |_=>exact p.elim
 |[],_,p=>exact p.elim
 |d::_::_,_,p=>cases d<;>exact p.elim
inductive lP where
 |non|bl|int|str|tup|lst|dct
 deriving DecidableEq
def lP.name:lP->String
 | .non=>"NoneType"
 | .bl=>"bool"
 | .int=>"int"
 | .str=>"str"
 | .tup=>"tuple"
 | .lst=>"list"
 | .dct=>"dict"
def i7(S:Store):D->Option lP
 | .non=>some .non
 | .bl _=>some .bl
 | .int _=>some .int
 | .str _=>some .str
 | .tup _=>some .tup
 | .bS _=>some .tup
 | .lst _=>some .lst
 | .cy _=>some .lst
 | .dct _ _=>some .dct
 | .ptr n=>match S[n]? with
  |some (.lst _)=>some .lst
  |some (.dct _ _ _)=>some .dct
  |_=>none
 |_=>none
def cC(k:lP)(T:String):Option Bool :=
 if T="int" then some (k=.int\/k=.bl)else if T="bool" then some (k=.bl)else if T="str" then some (k=.str)else if T="list" then some (k=.lst)else if T="tuple" then some (k=.tup)else if T="dict" then some (k=.dct)else none
theorem Ra{K:PySem.W.Frag}{k:lP}{T:String}{b:Bool}(h:cC k T=some b):PySem.W.kitOne K (.type k.name) (.type T)=some b:=by
 unfold cC at h;split at h
 .rename_i e;subst e;cases h;cases k<;>exact kit_ty (by rfl)
 split at h
 .rename_i e;subst e;cases h;cases k<;>exact kit_ty (by rfl)
 split at h
 .rename_i e;subst e;cases h;cases k<;>exact kit_ty (by rfl)
 split at h
 .rename_i e;subst e;cases h;cases k<;>exact kit_ty (by rfl)
 split at h
 .rename_i e;subst e;cases h;cases k<;>exact kit_ty (by rfl)
 split at h
 .rename_i e;subst e;cases h;cases k<;>exact kit_ty (by rfl)
 .cases h
theorem D9{K:PySem.W.Frag}{mg:Str->Option Value}{ρ:List Addr}{H:Hp}{S:Store}{d:D}{v:V}{k:lP}(w:aF K mg ρ H S)(r:Rep K mg ρ H d v)(h:i7 S d=some k):TyX K H v (.type k.name):=by
 cases d with
 |non=>cases h;rw[n7 r];exact .base .non
 |bl b=>cases h;rw[kf r];exact .base (.bl b)
 |int b=>cases h;rw[fX r];exact .base (.int b)
 |str b=>cases h;rw[eV r];exact .base (.str b)
 |tup xs =>
  cases h;rw[Rep]at r;obtain⟨a,vs,e,t,_⟩:=r;subst e;rcases t with⟨_,t⟩|⟨o,its,n,hk,hc,_⟩
  .exact .base (.tup t)
  .exact .kTuple hk hc
 |bS xs =>
  cases h;rw[Rep]at r;obtain⟨a,vs,e,t,_⟩:=r;subst e;obtain⟨_,o,_,t⟩:=t;exact .fTuple t
 |lst xs =>
  cases h;rw[Rep]at r;obtain⟨a,vs,e,t,_⟩:=r;subst e;exact .base (.lst t.2)
 |cy xs =>
  cases h;rw[Rep]at r;obtain⟨a,e,t⟩:=r;subst e;rcases t with⟨_,t|⟨o,t⟩⟩|⟨o,its,n,hk,hc,_⟩
  .exact .base (.lst t)
  .exact .base (.frz t)
  .exact .kList hk hc
 |dct ks vs =>
  cases h;rw[Rep]at r;obtain⟨a,bP,vs,e,⟨_,kvs,t,_⟩,_⟩:=r;subst e;rcases t with t|⟨o,t⟩
  .exact .base (.dK t)
  .exact .fDict t
 |ptr n =>
  rw[Rep]at r;obtain⟨a,e,q⟩:=r;subst e;unfold i7 at h;simp only at h;split at h
  .rename_i xs em
   cases h;obtain⟨vs,h1,_⟩:=w.ob n a _ q em;exact .base (.lst h1)
  .rename_i lk ks vs em
   cases h;obtain⟨kvs,h1,_⟩:=w.ob n a _ q em;cases lk with
   |true =>
    rw[if_pos rfl]at h1;rcases h1 with t|⟨o,t⟩
    .exact .base (.dK t)
    .exact .fDict t
   |false =>
    rw[if_neg j8]at h1;exact .base (.dK h1)
  .cases h
 |_=>unfold i7 at h;cases h
def uN:aD:=λds S=>match ds with
 |[d,.ty T]=>(match i7 S d with
  |some k=>(match cC k T with
   |some b=>.ok (.bl b) S
   |none=>.bad)
  |none=>.bad)
 |_=>.bad
theorem ZS:hN X (.builtin "isinstance") uN:=by
 refine⟨_,call_isi,λWp ρ H S ds xs Q w r p=>?_⟩;unfold uN at p;split at p
 .rename_i d T
  split at p
  .rename_i k ek
   split at p
   .rename_i b eb
    rw[ay]at r;obtain⟨v,bM,e,h1,h2⟩:=r;rw[ay]at h2;obtain⟨u,r2,e2,aI,bE⟩:=h2;rw[ay]at bE;subst bE e2 e;rw[I' aI];exact⟨v,.ty T,_,.type T,b,rfl,.ty T,D9 w h1 ek,Ra eb,cj p w gS⟩
   .exact p.elim
  .exact p.elim
 .exact p.elim
def pd:List D->Option (List String)
 |[]=>some []
 | .ty T::r=>(pd r).map (T :: ·)
 |_::_=>none
def n9(k:lP):List String->Option Bool
 |[]=>some false
 |T::r=>match cC k T,n9 k r with
  |some b,some c=>some (b||c)
  |_,_=>none
def uO:aD:=λds S=>match ds with
 |[d,.tup ts]=>(match i7 S d,pd ts with
  |some k,some k7=>(match n9 k k7 with
   |some b=>.ok (.bl b) S
   |none=>.bad)
  |_,_=>.bad)
 |_=>.bad
theorem Jf{K:PySem.W.Frag}{mg:Str->Option Value}{ρ:List Addr}{H:Hp}:∀{ts:List D} {k7:List String} {vs:List V},pd ts=some k7->ay K mg ρ H ts vs->Paired ClsV vs (k7.map Value.type)
 |[],_,_,e,r=>by cases e;rw[ay]at r;subst r;exact .nil
 | .ty T::ts,_,_,e,r=>by
  rw[pd]at e;obtain⟨ys,au,e2⟩:=fq.mp e;subst e2;rw[ay]at r;obtain⟨v,bM,cW,h1,h2⟩:=r;subst cW;rw[I' h1];exact .cons (.ty T) (Jf au h2)
 | .non::_,_,_,e,_=>by cases e
 | .bl _::_,_,_,e,_=>by cases e
 | .int _::_,_,_,e,_=>by cases e
 | .str _::_,_,_,e,_=>by cases e
 | .cls _::_,_,_,e,_=>by cases e
 | .tup _::_,_,_,e,_=>by cases e
 | .bS _::_,_,_,e,_=>by cases e
 | .lst _::_,_,_,e,_=>by cases e
 | .dct _ _::_,_,_,e,_=>by cases e
 | .dX _ _ _::_,_,_,e,_=>by cases e
 | .ins _ _ _::_,_,_,e,_=>by cases e
 | .ptr _::_,_,_,e,_=>by cases e
 | .cy _::_,_,_,e,_=>by cases e
 | .exc _ _ _::_,_,_,e,_=>by cases e
 | .lam _ _::_,_,_,e,_=>by cases e
 | .h4 _ _::_,_,_,e,_=>by cases e
theorem Jg{K:PySem.W.Frag}{k:lP}:∀{k7:List String} {b:Bool},n9 k k7=some b->PySem.W.kitAny K (.type k.name) (k7.map Value.type)=some b
 |[],b,h=>by cases h;rfl
 |T::k7,b,h=>by
  rw[n9]at h;split at h
  .rename_i x y ex dr
   cases h;refine kitAny_cons (Ra ex) (λq=>?_) (λq=>by rw[q];rfl);rw[q,Bool.false_or];exact Jg dr
  .cases h
theorem ZU:hN X (.builtin "isinstance") uO:=by
 refine⟨_,CallR.or call_isiT call_isiK,λWp ρ H S ds xs Q w r p=>?_⟩;unfold uO at p;split at p
 .rename_i d ts
  split at p
  .rename_i k k7 ek et
   split at p
   .rename_i b eb
    rw[ay]at r;obtain⟨v,bM,e,h1,h2⟩:=r;rw[ay]at h2;obtain⟨u,r2,e2,aI,bE⟩:=h2;rw[ay]at bE;subst bE e2 e;rw[Rep]at aI;obtain⟨a,vs,bj,t,cB⟩:=aI;subst bj;rcases t with⟨_,t⟩|⟨o,its,n,hk,hc,hd,hz,bB⟩
    .exact .inl ⟨v,a,vs,_,_,b,rfl,t,Jf et cB,D9 w h1 ek,Jg eb,cj p w gS⟩
    .refine .inr ⟨v,a,o.dict,k7.map Value.type,n,o.slots,_,b,rfl,?_,D9 w h1 ek,Jg eb,cj p w gS⟩
     have fV:=ClsV.all (Jf et cB) bB;rw[hk,<-fV];obtain⟨c,dd,DY,sl⟩:=o;simp only at hc hd;subst hc hd;simp
   .exact p.elim
  .exact p.elim
 .exact p.elim
def xq:List D->Option (List Bool)
 |[]=>some []
 | .bl b::r=>(xq r).map (b :: ·)
 |_::_=>none
theorem Rb:∀{ds:List D} {bs:List Bool},xq ds=some bs->ds=bs.map D.bl
 |[],_,e=>by cases e;rfl
 | .bl b::r,_,e=>by
  rw[xq]at e;obtain⟨ys,au,e2⟩:=fq.mp e;subst e2;rw[Rb au];rfl
 | .non::_,_,e=>by cases e
 | .ty _::_,_,e=>by cases e
 | .int _::_,_,e=>by cases e
 | .str _::_,_,e=>by cases e
 | .cls _::_,_,e=>by cases e
 | .tup _::_,_,e=>by cases e
 | .bS _::_,_,e=>by cases e
 | .lst _::_,_,e=>by cases e
 | .dct _ _::_,_,e=>by cases e
 | .dX _ _ _::_,_,e=>by cases e
 | .ins _ _ _::_,_,e=>by cases e
 | .ptr _::_,_,e=>by cases e
 | .cy _::_,_,e=>by cases e
 | .exc _ _ _::_,_,e=>by cases e
 | .lam _ _::_,_,e=>by cases e
 | .h4 _ _::_,_,e=>by cases e
theorem Rc{K:PySem.W.Frag}{mg:Str->Option Value}{ρ:List Addr}{H:Hp}:∀{bs:List Bool} {vs:List V},ay K mg ρ H (bs.map D.bl) vs->vs=bs.map V.bl
 |[],_,r=>by rw[qf,ay]at r;exact r
 |b::bs,_,r=>by
  rw[c1,ay]at r;obtain⟨v,bM,e,h1,h2⟩:=r;rw[e,kf h1,Rc h2];rfl
def pe:aD:=λds S=>match ds with
 |[d]=>(match cY S d with
  |some xs=>(match xq xs with
   |some bs=>.ok (.bl (bs.all id)) S
   |none=>.bad)
  |none=>.bad)
 |_=>.bad
theorem Jh(hc:X.calm=true):hN X (.builtin "all") pe:=by
 refine⟨_,cr_all hc,λWp ρ H S ds xs Q w r p=>?_⟩;unfold pe at p;split at p
 .rename_i d
  split at p
  .rename_i ys dr
   split at p
   .rename_i bs eb
    rw[ay]at r;obtain⟨v,bM,e,h1,h2⟩:=r;rw[ay]at h2;subst h2 e;obtain⟨a,vs,au,aI,r1⟩:=gC w h1 dr;subst au;rw[Rb eb]at r1;rw[Rc r1]at aI;exact⟨a,bs,rfl,.inl (.inl aI),cj p w gS⟩
   .exact p.elim
  .exact p.elim
 .exact p.elim
def ph:aD:=λds S=>match ds with
 |[d]=>(match c9 S d with
  |some xs=>.ok (.lst xs) S
  |none=>.bad)
 |_=>.bad
def z1:aD:=λds S=>match ds with
 |[.tup xs]=>.ok (.tup xs) S
 |[.bS xs]=>.ok (.bS xs) S
 |[d]=>(match cY S d with
  |some xs=>.ok (.tup xs) S
  |none=>.bad)
 |_=>.bad
theorem kh{K:PySem.W.Frag}{mg:Str->Option Value}{ρ:List Addr}{H:Hp}{d:D}{xs:List V}(r:ay K mg ρ H [d] xs):∃v,xs=[v]/\Rep K mg ρ H d v:=by
 rw[ay]at r;obtain⟨v,bM,e,h1,h2⟩:=r;rw[ay]at h2;grind
theorem ZV{K:PySem.W.Frag}{mg:Str->Option Value}{ρ:List Addr}{H:Hp}{d e:D}{xs:List V}(r:ay K mg ρ H [d,e] xs):∃v u,xs=[v,u]/\Rep K mg ρ H d v/\Rep K mg ρ H e u:=by
 rw[ay]at r;obtain⟨v,bM,cW,h1,h2⟩:=r;obtain⟨u,e2,aI⟩:=kh h2;grind
theorem Ji:hN X (.type "list") ph:=by
 refine⟨_,call_list_of,λWp ρ H S ds xs Q w r p=>?_⟩;unfold ph at p;split at p
 .split at p
  .rename_i ys dr
   obtain⟨v,e,h1⟩:=kh r;obtain⟨a,vs,au,aI,r1⟩:=zU w h1 dr;exact⟨a,vs,by rw[e,au],aI,λl hl=>xb p w r1 hl⟩
  .exact p.elim
 .exact p.elim
theorem Rf:hN X (.type "tuple") z1:=by
 refine⟨_,call_tuple_of,λWp ρ H S ds xs Q w r p=>?_⟩
 match ds,r,p with
 |[d],r,p =>
  obtain⟨v,e,h1⟩:=kh r;have go:∀ys,cY S d=some ys->aS X.K X.mg Wp ρ H Q (.ok (.tup ys) S)->∃p ys,xs=[.ref p]/\((SqL X.K H p ys/\∀l,H l=none->Q (.ref l) (upd H l (.tup ys)))\/(SqT X.K H p ys/\Q (.ref p) H)):=λys dr p=>by
   obtain⟨a,vs,au,aI,r1⟩:=gC w h1 dr;exact⟨a,vs,by rw[e,au],.inl ⟨.inl (.inl aI),λl hl=>w' p w r1 hl⟩⟩
  cases d with
  |tup ys =>
   have jt:=h1;rw[Rep]at h1;obtain⟨a,vs,au,t,r1⟩:=h1;exact⟨a,vs,by rw[e,au],.inr ⟨t.df,by rw[<-au];exact cj p w jt⟩⟩
  |bS ys =>
   have jt:=h1;rw[Rep]at h1;obtain⟨a,vs,au,t,r1⟩:=h1;exact⟨a,vs,by rw[e,au],.inr ⟨t.df,by rw[<-au];exact cj p w jt⟩⟩
  |lst ys=>exact go ys rfl p
  |ptr n =>
   have p:aS X.K X.mg Wp ρ H Q (match cY S (.ptr n)with
    |some xs=>.ok (.tup xs) S
    |none=>.bad):=p
   split at p
   .grind
   .exact p.elim
  |_=>exact p.elim
 |[],_,p=>exact p.elim
 |d::_::_,_,p=>cases d<;>exact p.elim
def i9:aD:=λds S=>match ds with
 |[.int i]=>.ok (.int i) S
 |[.bl b]=>.ok (.int (if b=true then 1 else 0)) S
 |_=>.bad
theorem qC:hN X (.type "int") i9:=by
 refine⟨_,call_int1,λWp ρ H S ds xs Q w r p=>?_⟩;unfold i9 at p;split at p
 .obtain⟨v,e,h1⟩:=kh r
  rw[fX h1]at e;exact .inl ⟨_,e,cj p w h9⟩
 .obtain⟨v,e,h1⟩:=kh r
  rw[kf h1]at e;exact .inr ⟨_,e,cj p w h9⟩
 .exact p.elim
structure sq(X:Cx)(sem:bZ):Prop where
 go:∃r:R2,IxR X r/\∀(Wp:Value->Option Addr->Hp->Prop) (ρ:List Addr) (H:Hp) (S:Store) (d e:D) (x y:V) (Q:VK),aF X.K X.mg ρ H S->Rep X.K X.mg ρ H d x->Rep X.K X.mg ρ H e y->aS X.K X.mg Wp ρ H Q (sem d e S)->r x y H Q
theorem sq.or{s t:bZ}(h:sq X s)(h':sq X t):sq X (cX s t):=by
 obtain⟨r,o,g⟩:=h.go;obtain⟨bM,e6,fS⟩:=h'.go;refine⟨_,o.or e6,λWp ρ H S d e x y Q w aC a_ p=>?_⟩;unfold cX at p;grind
variable{W:WX}{a b:Expr}{fa fb:aM}{pos:Pos}
theorem ZY{sem:bZ}(aQ:sq X sem)(ha:E X W a fa)(hb:E X W b fb)(hs:PlainIx b:=by exact λ_ _=>rfl):E X W (.Subscript a b pos) (az sem fa fb):=by
 obtain⟨r,o,g⟩:=aQ.go;exact PE.imp (pe_ix o ha hb hs) λσ H Q h=>DR h λρ S aH d e x y w aC a_ p=>g _ ρ aH S d e x y Q w aC a_ p
def qD:bZ:=λd e S=>match e with
 | .int i=>(match d with
  | .str s=>if s.length<=1000000 then(match atI s.cps.toList i with
   |some c=>.ok (.str ⟨#[c]⟩) S
   |none=>.bad)else .bad
  |d=>(match c9 S d with
   |some xs=>(match atI xs i with
    |some x=>.ok x S
    |none=>.bad)
   |none=>.bad))
 |_=>.bad
theorem Z0{K:PySem.W.Frag}{mg:Str->Option Value}{ρ:List Addr}{H:Hp}{ds:List D}{vs:List V}{i:Int}{d:D}(r:ay K mg ρ H ds vs)(h:atI ds i=some d):∃v,atI vs i=some v/\Rep K mg ρ H d v:=by
 unfold atI at h ⊢;rw[<-r.len];cases q:ixN ds.length i with
 |none=>grind
 |some j =>
  rw[q]at h;exact r.get h
theorem Z1:sq X qD:=by
 refine⟨_,ix_seq,λWp ρ H S d e x y Q w aC a_ p=>?_⟩;unfold qD at p;split at p
 .rename_i i
  have a6:=fX a_;have go:∀xs,c9 S d=some xs->aS X.K X.mg Wp ρ H Q (match atI xs i with
    |some x=>.ok x S
    |none=>.bad)->rIx X.K x y H Q:=λxs ea p=>by
   split at p
   .rename_i z uP
    obtain⟨a,vs,au,aI,r1⟩:=zU w aC ea;obtain⟨v,bE,cw⟩:=Z0 r1 uP;rcases aI with aI|aI
    .exact .inl ⟨a,vs,i,v,au,a6,aI,bE,cj p w cw⟩
    .exact .inr (.inl ⟨a,vs,i,v,au,a6,aI,bE,cj p w cw⟩)
   .exact p.elim
  cases d with
  |str s =>
   simp only at p;split at p
   .rename_i hl
    split at p
    .rename_i c fY
     exact .inr (.inr ⟨s,i,c,eV aC,a6,h7 hl,fY,cj p w mP⟩)
    .exact p.elim
   .exact p.elim
  |tup xs=>exact go xs rfl p
  |bS xs=>exact go xs rfl p
  |lst xs=>exact go xs rfl p
  |cy xs=>exact go _ rfl p
  |ptr n =>
   simp only at p;split at p
   .grind
   .exact p.elim
  |_=>exact p.elim
 .exact p.elim
end
end Z
namespace Za
open PySem PySem.Spec PyProof.Rows L2
inductive Src where
 |L (a:Addr)
 |T (a:Addr)
 |S (x:Str)
def Src.val:Src->V
 | .L a=>.ref a
 | .T a=>.ref a
 | .S x=>.str x
def Src.At(K:PySem.W.Frag)(H:Hp):Src->List V->Prop
 | .L a,vs=>SqL K H a vs
 | .T a,vs=>SqT K H a vs
 | .S x,vs=>vs=x.cps.toList.map λc=>V.str ⟨#[c]⟩
def Src.It(h:Heap)(it:Addr):Src->Nat->Prop
 | .L a,i=>h.IsListIter it a i
 | .T a,i=>h.IsTupleIter it a i
 | .S x,i=>∃t,h.IsStrIter it (strIterType x) x t i
def Src.adr:Src->Option Addr
 | .L a=>some a
 | .T a=>some a
 | .S _=>none
theorem Src.It.obj{h:Heap}{it:Addr}{i:Nat}:∀{s:Src},s.It h it i->∃o,h.get? it=some o/\∀v,o.data≠.cell v
 | .L a,st=>by obtain⟨o,e,_,d⟩:=st;grind
 | .T a,st=>by obtain⟨o,e,_,d⟩:=st;grind
 | .S x,st=>by obtain⟨t,o,e,_,d⟩:=st;grind
theorem Src.It.keep{h h':Heap}{it:Addr}{i:Nat}(k:∀o,h.get? it=some o->h'.get? it=some o):∀{s:Src},s.It h it i->s.It h' it i
 | .L a,st=>st.at k
 | .T a,st=>st.at k
 | .S x,st=>by obtain⟨t,o,e,r⟩:=st;exact⟨t,o,k o e,r⟩
theorem Rg{vs:List V}{its:List Value}(r:Vals vs its){j:Nat}{v:Value}(e:its[j]?=some v):∃x,vs[j]?=some x/\RelV x v:=by
 have hl:=r.length;have cm:=(List.getElem?_eq_some_iff.mp e).1;have hx:vs[j]?=some (vs[j]'(by omega)):=by simp
 obtain⟨u,h1,h2⟩:=r.get hx;simp_all
section
variable{X:Cx}{pins:List (Addr×Obj)}{σ:L2.St}{H:Hp}{s:Shared}
theorem Jj(I:Inv X pins σ H s):∀{c:Src} {xs ys:List V},c.At X.K H xs->c.At X.K H ys->xs=ys
 | .L a,_,_,h,h'=>I.list_inj h h'
 | .T a,_,_,h,h'=>I.tuple_inj h h'
 | .S x,_,_,h,h'=>Eq.trans h (Eq.symm h')
theorem xr(I:Inv X pins σ H s){A:Around}(hh:A.handled=none){c:Src}{vs:List V}{i:Nat}{it:Addr}(ha:c.At X.K H vs)(hi:c.It s.heap it i)(hn:c.adr≠some it) :
  ∃(fp:List Addr) (P:Nat->Value->Prop) (St:Nat->Heap->Prop),Draws X.prog X.w A it fp vs.length P St/\St i s.heap/\(∀j v,P j v->∃x,vs[j]?=some x/\RelV x v)/\it∈fp/\(∀b∈fp,b=it\/c.adr=some b)/\∀j h,St j h->c.It h it j:=by
 cases c with
 |L a =>
  obtain⟨its,aR,p,_⟩:=I.list ha;have hl:its.toArray.size=vs.length:=by rw[fR];exact aR.length.symm
  refine⟨[it,a],_,_,hl▸Draws.list hh it a (λe=>hn (by rw[<-e];rfl)) its.toArray,⟨hi,p.isList⟩,λj v q=>?_,by simp,λb hb=>?_,λj h st=>st.1⟩
  .have q:its[j]?=some v:=by simpa using q
   exact Rg aR q
  .rcases g6.mp hb with e|e
   .exact .inl e
   .exact .inr (by rw[rV.mp e];rfl)
 |T a =>
  obtain⟨its,aR,p,_⟩:=I.tuple ha;have hl:its.toArray.size=vs.length:=by rw[fR];exact aR.length.symm
  refine⟨[it,a],_,_,hl▸Draws.tuple hh it a (λe=>hn (by rw[<-e];rfl)) its.toArray,⟨hi,p⟩,λj v q=>?_,by simp,λb hb=>?_,λj h st=>st.1⟩
  .have q:its[j]?=some v:=by simpa using q
   exact Rg aR q
  .rcases g6.mp hb with e|e
   .exact .inl e
   .exact .inr (by rw[rV.mp e];rfl)
 |S x =>
  obtain⟨t,hi⟩:=hi;have ha:vs=x.cps.toList.map λc=>V.str ⟨#[c]⟩:=ha;have hl:x.cps.size=vs.length:=by rw[ha];simp
  refine⟨[it],_,_,hl▸Draws.text hh it x t,hi,λj v q=>?_,by simp,λb hb=>.inl (by grind),λj h st=>⟨t,st⟩⟩;obtain⟨c,u,e,q⟩:=q;subst q;exact⟨.str ⟨#[c]⟩,by grind,u,rfl⟩
theorem Jk(I:Inv X pins σ H s){c:Src}{vs:List V}{u:Value}(ha:c.At X.K H vs)(r:RelV c.val u):∃(o:Obj) (B:Heap->Prop),Begins u o B/\B s.heap/\∀h it,h.get? it=some o->c.It h it 0:=by
 cases c with
 |L a =>
  obtain⟨its,aR,p,_⟩:=I.list ha;obtain rfl:u=Value.ref a:=r;exact⟨_,_,begins_list a its.toArray,p.isList,λh it e=>⟨_,e,rfl,rfl⟩⟩
 |T a =>
  obtain⟨its,aR,p,_⟩:=I.tuple ha;obtain rfl:u=Value.ref a:=r;exact⟨_,_,begins_tuple a its.toArray,p,λh it e=>⟨_,e,rfl,rfl⟩⟩
 |S x =>
  obtain⟨t,rfl⟩:=r;exact⟨_,_,begins_text x t,trivial,λh it e=>⟨t,_,e,rfl,rfl⟩⟩
theorem Rh(I:Inv X pins σ H s):∀{c:Src} {vs:List V} {b:Addr},c.At X.K H vs->c.adr=some b->b<s.heap.objs.size
 | .L a,_,_,h,e=>by
  cases e;obtain⟨its,aR,p,_⟩:=I.list h;exact p.lt
 | .T a,_,_,h,e=>by
  cases e;obtain⟨its,aR,⟨o,q,_⟩,_⟩:=I.tuple h;exact Heap.lt_size q
end
def Ri(K:PySem.W.Frag)(c d:Src):L2.It :=
 ⟨λi H=>∃(xs ys:List V) (x y:V),c.At K H xs/\d.At K H ys/\xs[i]?=some x/\ys[i]?=some y,
  λi H v H'=>∃T x y,v=.ref T/\H T=none/\H'=upd H T (.tup [x,y])/\(∀xs,c.At K H xs->xs[i]?=some x)/\∀ys,d.At K H ys->ys[i]?=some y,
  λi H=>∃xs ys:List V,c.At K H xs/\d.At K H ys/\i<=xs.length/\i<=ys.length/\(i=xs.length\/i=ys.length)⟩
structure Apart(z TI TO i1 i2:Addr)(c d:Src):Prop where
 D_:TI≠z
 Jl:TO≠z
 TITO:TI≠TO
 Jm:TI≠i1
 Jo:TI≠i2
 Rj:TO≠i1
 Rk:TO≠i2
 hj:z≠i1
 ej:z≠i2
 i12:i1≠i2
 qE:∀b,c.adr=some b->b≠z/\b≠TI/\b≠TO/\b≠i1/\b≠i2
 o':∀b,d.adr=some b->b≠z/\b≠TI/\b≠TO/\b≠i1/\b≠i2
theorem Z2{P:Program}{w:World}{K:PySem.W.Frag}{elts:List Expr}{kk:Nat}{mR:Pos}{c d:Src}{z TI TO i1 i2:Addr}(D:Apart z TI TO i1 i2 c d) :
  Turn P w K (.Tuple elts kk mR) (Ri K c d) [z,TI,TO,i1,i2] z (λi h=>IsZip h z TI TO .none/\IsTupOf2 h TI (.ref i1) (.ref i2)/\(∃x y,IsTupOf2 h TO x y)/\c.It h i1 i/\d.It h i2 i) where
 mem:=by simp
 obj:=λi h st b hb=>by
  obtain⟨hz,pj,⟨x,y,qF⟩,h1,h2⟩:=st;have cW:b=z\/b=TI\/b=TO\/b=i1\/b=i2:=by simpa using hb
  rcases cW with q|q|q|q|q
  .grind
  .grind
  .grind
  .rw[q];exact h1.obj
  .rw[q];exact h2.obj
 keep:=λi h h' st k=>by
  obtain⟨hz,pj,⟨x,y,qF⟩,h1,h2⟩:=st;exact⟨k z (by simp) _ hz,k TI (by simp) _ pj,⟨x,y,k TO (by simp) _ qF⟩,h1.keep λo q=>k i1 (by simp) o q,h2.keep λo q=>k i2 (by simp) o q⟩
 item:=by
  intro X bu hw hK hc i pins s σ H E I hf st hg;subst bu hw hK;obtain⟨hz,pj,⟨x0,Z3,qF⟩,h1,h2⟩:=st;obtain⟨xs,ys,x,y,D',Ea,hx,a6⟩:=hg;obtain⟨Jp,Jq,Jr,uQ,uR,g1,m1,b1,c0⟩:=xr (A:=X.A.in1) I (I.ok.hd hc) D' h1 (λe=>(D.qE _ e).2.2.2.1 rfl);obtain⟨Js,Z4,Z5,Jt,Ju,g2,m2,de,b6⟩:=xr (A:=X.A.in1) I (I.ok.hd hc) Ea h2 (λe=>(D.o' _ e).2.2.2.2 rfl);have S:ZipSep2 z TI TO i1 i2 Jp Js:=by
   refine⟨D.D_,D.Jl,D.TITO,D.Jm,m1,λh=>?_,λh=>?_,D.Jo,m2,λh=>?_,λh=>?_,λh=>?_,λh=>?_⟩
   .rcases b1 _ h with e|e
    .exact D.hj e
    .exact(D.qE _ e).1 rfl
   .rcases b1 _ h with e|e
    .exact D.Rj e
    .exact(D.qE _ e).2.2.1 rfl
   .rcases de _ h with e|e
    .exact D.ej e
    .exact(D.o' _ e).1 rfl
   .rcases de _ h with e|e
    .exact D.Rk e
    .exact(D.o' _ e).2.2.1 rfl
   .rcases de _ h with e|e
    .exact D.i12 e
    .exact(D.o' _ e).2.2.2.1 rfl
   .rcases b1 _ h with e|e
    .exact D.i12 e.symm
    .exact(D.qE _ e).2.2.2.2 rfl
  have Z6:z<s.heap.objs.size:=Heap.lt_size hz;refine wpAny_pyNext_zipD2_item S uQ Jt hz pj qF uR Ju (List.getElem?_eq_some_iff.mp hx).1 (List.getElem?_eq_some_iff.mp a6).1 λu u2 h' tk p1 p2 Z7 Z8 Z9 Z_ eG e7 hk=>?_;obtain⟨sr,ex,cv⟩:=g1 i u p1;obtain⟨anK,dr,Z'⟩:=g2 i u2 p2;rw[hx]at ex;cases ex;rw[a6]at dr;cases dr;refine⟨_,rfl,wpAny_letOwnedTupleGo_zip (s:={ s with heap:=h',toks:=tk }) Z7 λsu aac sb=>?_⟩;have Jv:su.get? s.heap.objs.size=some { cls:=.type "tuple",data:=.seq #[u,u2] }:=(sb.2 _ (qg Z6)).trans eG;have new:ObjOk X.prog X.w (upd H s.heap.objs.size (.tup [x,y])) su s.heap.objs.size (.tup [x,y]) :=
   ⟨by show 2<=sizeLine;decide,[u,u2],.cons cv (.cons Z' .nil),⟨_,Jv,rfl,_,rfl⟩⟩
  have I1:Inv X pins σ (upd H s.heap.objs.size (.tup [x,y])) { s with heap:=su,toks:=tk } :=
   I.turnedNew (t':=tk) (ch:=[z,TI,TO,i1,i2]) (λc o hb q=>(sb.2 c (λq'=>hb (by simp[q']))).trans (hk c o (λq'=>hb (by simp[q'])) (λq'=>hb (by simp[q'])) (λq'=>hb (by simp[q'])) (λq'=>hb (by simp[q'])) q)) hf (Nat.le_refl _) new
  refine⟨.ref s.heap.objs.size,_,I1,rfl,⟨_,x,y,rfl,I.hok.fresh (Nat.le_refl _),rfl,λl hl=>by rw[Jj I hl D'];exact hx,λl hl=>by rw[Jj I hl Ea];exact a6⟩,⟨aac,?_,⟨u,u2,?_⟩,?_,?_⟩,λb sv=>?_⟩
  .exact(sb.2 _ D.D_).trans (hk _ _ D.D_ D.TITO D.Jm D.Jo pj)
  .exact(sb.2 _ D.Jl).trans Z8
  .exact(c0 _ _ Z9).keep λo q=>(sb.2 _ (jq D.hj)).trans q
  .exact(b6 _ _ Z_).keep λo q=>(sb.2 _ (jq D.ej)).trans q
  .have c7:b<s.heap.objs.size:=by
    have cW:b=z\/b=TI\/b=TO\/b=i1\/b=i2:=by simpa using sv
    rcases cW with q|q|q|q|q
    .grind
    .rw[q];exact Heap.lt_size pj
    .rw[q];exact Heap.lt_size qF
    .rw[q];obtain⟨_,au,_⟩:=h1.obj;exact Heap.lt_size au
    .rw[q];obtain⟨_,au,_⟩:=h2.obj;exact Heap.lt_size au
   rw[upd_ne (hZ c7)];exact(hf b sv).1
 done:=by
  intro X bu hw hK hc i pins s σ H E I hf st hg;subst bu hw hK;obtain⟨hz,pj,⟨x0,Z3,qF⟩,h1,h2⟩:=st;obtain⟨xs,ys,D',Ea,du,n_,gU⟩:=hg;obtain⟨Jp,Jq,Jr,uQ,uR,g1,m1,b1,c0⟩:=xr (A:=X.A.in1) I (I.ok.hd hc) D' h1 (λe=>(D.qE _ e).2.2.2.1 rfl);obtain⟨Js,Z4,Z5,Jt,Ju,g2,m2,de,b6⟩:=xr (A:=X.A.in1) I (I.ok.hd hc) Ea h2 (λe=>(D.o' _ e).2.2.2.2 rfl);have S:ZipSep2 z TI TO i1 i2 Jp Js:=by
   refine⟨D.D_,D.Jl,D.TITO,D.Jm,m1,λh=>?_,λh=>?_,D.Jo,m2,λh=>?_,λh=>?_,λh=>?_,λh=>?_⟩
   .rcases b1 _ h with e|e
    .exact D.hj e
    .exact(D.qE _ e).1 rfl
   .rcases b1 _ h with e|e
    .exact D.Rj e
    .exact(D.qE _ e).2.2.1 rfl
   .rcases de _ h with e|e
    .exact D.ej e
    .exact(D.o' _ e).1 rfl
   .rcases de _ h with e|e
    .exact D.Rk e
    .exact(D.o' _ e).2.2.1 rfl
   .rcases de _ h with e|e
    .exact D.i12 e
    .exact(D.o' _ e).2.2.2.1 rfl
   .rcases b1 _ h with e|e
    .exact D.i12 e.symm
    .exact(D.qE _ e).2.2.2.2 rfl
  exact wpAny_pyNext_zipD2_end S uQ Jt hz pj qF uR Ju du n_ gU λh' tk hk=>⟨rfl,I.turnedL (t':=tk) (ch:=[z,TI,TO,i1,i2]) (λc o hb q =>
   hk c o (λq'=>hb (by simp[q'])) (λq'=>hb (by simp[q'])) (λq'=>hb (by simp[q'])) (λq'=>hb (by simp[q'])) q) hf⟩
 self:=λA i s Q E st h=>wpAny_pyIter_zip st.1 h
def aad(K:PySem.W.Frag)(fz:TA):TI:=λσ H R=>fz σ H λvs H1=>∃(c d:Src) (xs ys:List V),vs=[c.val,d.val]/\c.At K H1 xs/\d.At K H1 ys/\R (Ri K c d) H1
theorem aae{X:Cx}{e e2:Expr}{fz:TA}{p pos mR:Pos}{elts:List Expr}{kk:Nat}(hg:Gl X "zip")(hm:X.mg "zip"=none)(ha:PA X [e,e2] fz)
  (hs:starEach [e,e2] X.env=(false,eval e X.env)::starEach [e2] X.env:=by rfl) (eQ:(backTo pos (starEach [e2] X.env)).any (·.1)=false:=by rfl) :
  PI X (.Tuple elts kk mR) (.Call (.Name "zip" p) [e,e2] [] pos) (aad X.K fz):=by
 refine⟨λpins s σ H R I h=>?_⟩;refine Call_ (ld_blt I hg hm PyProof.Rows.boot_zip (PyProof.Rows.callWith_type1 (thn (ha.run pos pins s σ H _ I h) λus s1 ⟨vs,H1,I1,r1,bw⟩=>?_) hs eQ));obtain⟨c,d,xs,ys,ex,hc,hd,q⟩:=bw;subst ex;cases r1 with
 |cons r bW =>
  cases bW with
  |cons bM bW =>
   cases bW;obtain⟨z2,aaf,Jw,Jx,c0⟩:=Jk I1 hc r;obtain⟨Jy,Rl,aag,xt,b6⟩:=Jk I1 hd bM;refine zip_begins2 Jw aag Jx xt λh' hz pj qF g1 g2 e7 hk=>wpAny_pyIter_zip hz ?_;have I2:Inv X pins σ H1 { s1 with heap:=h' }:=I1.kept (t':=s1.toks) hk;have z3:∀(cc:Src) (zs:List V),cc.At X.K H1 zs->∀b,cc.adr=some b->b≠s1.heap.objs.size+4/\b≠s1.heap.objs.size+2/\b≠s1.heap.objs.size+3/\b≠s1.heap.objs.size/\b≠s1.heap.objs.size+1:=λcc zs hz b e=>by
    have:=Rh I1 hz e;grind
   have Jz:Apart (s1.heap.objs.size+4) (s1.heap.objs.size+2) (s1.heap.objs.size+3) s1.heap.objs.size (s1.heap.objs.size+1) c d:=by
    refine⟨?_,?_,?_,?_,?_,?_,?_,?_,?_,?_,z3 c xs hc,z3 d ys hd⟩<;>(simp)
   refine⟨s1.heap.objs.size+4,[s1.heap.objs.size+4,s1.heap.objs.size+2,s1.heap.objs.size+3,s1.heap.objs.size,s1.heap.objs.size+1],_,_,H1,rfl,I2,Z2 Jz,⟨hz,pj,⟨_,_,qF⟩,c0 _ _ g1,b6 _ _ g2⟩,λb sv=>?_,q⟩;have cW:b=s1.heap.objs.size+4\/b=s1.heap.objs.size+2\/b=s1.heap.objs.size+3\/b=s1.heap.objs.size\/b=s1.heap.objs.size+1:=by simpa using sv
   have hle:s1.heap.objs.size<=b:=by
    rcases cW with z|z|z|z|z
    .grind
    .grind
    .grind
    .grind
    .grind
   exact I1.fpOk hle (I1.hok.fresh hle)
set_option maxHeartbeats 1000000 in
theorem aah{v:Value}{o:Obj}{B:Heap->Prop}(Eb:Begins v o B) :
  Meets (Builtin.«enumerate.__new__» ⟨[.type "enumerate",v],[]⟩) (λ_ R s=>B s.heap /\
   R (.ok (.ret (.ref (s.heap.push o).objs.size))) { s with heap:=(s.heap.push o).push { cls:=.type "enumerate",data:=.fields #[.none,.bool false,.ref s.heap.objs.size,rawInt 0,.none,.none] } }) :=
 .of_wp λprog w A R s h=>by
  obtain⟨hp,g,d,tk,os⟩:=s;obtain⟨h1,h⟩:=h;have pk:=sub_enumerate;have bw:∀{aai:Around} {E:Value->Shared->Prop} {Q:Value->Shared->Prop},Q (.ref hp.objs.size) ⟨(hp.push o),g,d,tk,os⟩->wpAny (model prog w) aai (pyIter v) Q E ⟨hp,g,d,tk,os⟩ :=
   λq=>Eb.iter prog w _ _ ⟨hp,g,d,tk,os⟩ _ h1 q
  wp_walk
  refine wpAny_stack_any λst=>wpAny_pure ?_;split
  .rename_i c _ _ _ _ _
   cases(c==Value.type "enumerate")
   .wp_walk using bw
    exact⟨_,rfl,h⟩
   .wp_walk using bw
    exact⟨_,rfl,h⟩
  .wp_walk using bw
   exact⟨_,rfl,h⟩
theorem aaj{prog:Program}{w:World}{A:Around}{E:Value->Shared->Prop}{s:Shared}{v:Value}{o:Obj}{B:Heap->Prop}{Q:Value->Shared->Prop}(Eb:Begins v o B)(h1:B s.heap)
  (h:∀h',IsEnum h' (s.heap.objs.size+1) s.heap.objs.size 0 .none->h'.get? s.heap.objs.size=some o->h'.objs.size=s.heap.objs.size+2 ->
   (∀b o,s.heap.get? b=some o->h'.get? b=some o)->Q (.ref (s.heap.objs.size+1)) { s with heap:=h' }) :
  wpAny (model prog w) A (call (.type "enumerate") [v]) Q E s:=by
 refine callType_new F.called_enumerate (by decide) (F.typeCall_enumerate_1 _) (F.newCall_enumerate_1 _) (λobj=>F.args_object_init_2 obj _) F.entry_enumerate_new
  (aah Eb) ⟨h1,?_⟩
 have hz:(s.heap.push o).objs.size=s.heap.objs.size+1:=Heap.size_push ..;show _/\_;rw[hz];have he:IsEnum ((s.heap.push o).push { cls:=.type "enumerate",data:=.fields #[.none,.bool false,.ref s.heap.objs.size,rawInt 0,.none,.none] }) (s.heap.objs.size+1) s.heap.objs.size 0 .none:=by
  have:=Heap.get?_push_size (s.heap.push o) (o:={ cls:=.type "enumerate",data:=.fields #[.none,.bool false,.ref s.heap.objs.size,rawInt 0,.none,.none] }) rfl;rw[hz]at this;exact this
 exact⟨⟨_,he,rfl⟩,h _ he (Heap.get?_push_of_some _ (Heap.get?_push_size _ Eb.free)) (by simp) λb o x=>Heap.get?_push_of_some _ (Heap.get?_push_of_some _ x)⟩
def Rm(K:PySem.W.Frag)(c:Src):L2.It :=
 ⟨λi H=>∃(xs:List V) (x:V),c.At K H xs/\xs[i]?=some x,
  λi H v H'=>∃T x,v=.ref T/\H T=none/\H'=upd H T (.tup [.int (i:Nat),x])/\∀xs,c.At K H xs->xs[i]?=some x,
  λi H=>∃xs:List V,c.At K H xs/\i=xs.length⟩
theorem aak{P:Program}{w:World}{K:PySem.W.Frag}{elts:List Expr}{kk:Nat}{mR:Pos}{c:Src}{e it:Addr}(dA:e≠it)(z4:c.adr≠some e)(lQ:c.adr≠some it) :
  Turn P w K (.Tuple elts kk mR) (Rm K c) [e,it] e (λi h=>(∃old,IsEnum h e it ((i:Nat):Int) old)/\c.It h it i) where
 mem:=by simp
 obj:=λi h st b hb=>by
  obtain⟨⟨old,he⟩,h1⟩:=st;have cW:b=e\/b=it:=by simpa using hb
  rcases cW with z|z
  .grind
  .rw[z];exact h1.obj
 keep:=λi h h' st k=>let ⟨⟨old,he⟩,hi⟩:=st;⟨⟨old,k e (by simp) _ he⟩,hi.keep λo q=>k it (by simp) o q⟩
 item:=by
  intro X bu hw hK hc i pins s σ H E I hf st hg;subst bu hw hK;obtain⟨⟨old,he⟩,hit⟩:=st;obtain⟨xs,x,hq,hx⟩:=hg;obtain⟨fp,Jq,Jr,uQ,uR,g1,m1,b1,c0⟩:=xr (A:=X.A.in1) I (I.ok.hd hc) hq hit lQ;have aal:e<s.heap.objs.size:=Heap.lt_size he;have anL:it<s.heap.objs.size:=by obtain⟨_,q,_⟩:=hit.obj;exact Heap.lt_size q
  have aam:e∉fp:=λh=>by
   grind
  refine wpAny_pyNext_enum_itemD uQ he uR (List.getElem?_eq_some_iff.mp hx).1 dA aam λu h' tk p aQ aan eG e7 hk=>?_;obtain⟨sr,ex,cv⟩:=g1 i u p;rw[hx]at ex;cases ex;refine⟨_,rfl,wpAny_letOwnedTupleGo_enum (s:={ s with heap:=h',toks:=tk+1 }) aQ λsu anM sb=>?_⟩;have Jv:su.get? s.heap.objs.size=some { cls:=.type "tuple",data:=.seq #[.int i tk,u] }:=(sb.2 _ (qg aal)).trans eG;have new:ObjOk X.prog X.w (upd H s.heap.objs.size (.tup [.int (i:Nat),x])) su s.heap.objs.size (.tup [.int (i:Nat),x]) :=
   ⟨by show 2<=sizeLine;decide,[.int i tk,u],.cons ⟨_,rfl⟩ (.cons cv .nil),⟨_,Jv,rfl,_,rfl⟩⟩
  have I1:Inv X pins σ (upd H s.heap.objs.size (.tup [.int (i:Nat),x])) { s with heap:=su,toks:=tk+1 } :=
   I.turnedNew (ch:=[e,it]) (λb ob hb q=>(sb.2 b (λz=>hb (by simp[z]))).trans (hk b ob (λz=>hb (by simp[z])) (λz=>hb (by simp[z])) q)) hf (Nat.le_refl _) new
  refine⟨.ref s.heap.objs.size,_,I1,rfl,⟨_,x,rfl,I.hok.fresh (Nat.le_refl _),rfl,λys a6=>by rw[Jj I a6 hq];exact hx⟩,⟨⟨u,?_⟩,(c0 _ _ aan).keep λo q=>(sb.2 it (jq dA)).trans q⟩,λb hb=>?_⟩
  .grind
  .have z5:b<s.heap.objs.size:=by
    have cW:b=e\/b=it:=by simpa using hb
    rcases cW with z|z
    .grind
    .grind
   rw[upd_ne (hZ z5)];exact(hf b hb).1
 done:=by
  intro X bu hw hK hc i pins s σ H E I hf st hg;subst bu hw hK;obtain⟨⟨old,he⟩,hit⟩:=st;obtain⟨xs,hq,hx⟩:=hg;obtain⟨fp,Jq,Jr,uQ,uR,g1,m1,b1,c0⟩:=xr (A:=X.A.in1) I (I.ok.hd hc) hq hit lQ;obtain⟨f0,f1,f2,f3,f4,uS⟩:=hf it (by simp);subst hx;exact wpAny_pyNext_enum_endD uQ he uR λh' eb=>⟨rfl,I.turned (t':=s.toks) (λb o hb q=>eb b o hb q) f0 f1 f3 f4 uS⟩
 self:=λA i s Q E st h=>let ⟨⟨_,he⟩,_⟩:=st;wpAny_pyIter_enum he h
def aao(K:PySem.W.Frag)(fz:TA):TI:=λσ H R=>fz σ H λvs H1=>∃(c:Src) (xs:List V),vs=[c.val]/\c.At K H1 xs/\R (Rm K c) H1
theorem aap{X:Cx}{e:Expr}{fz:TA}{p pos mR:Pos}{elts:List Expr}{kk:Nat}(hg:Gl X "enumerate")(hm:X.mg "enumerate"=none)(ha:PA X [e] fz)(hs:starEach [e] X.env=[(false,eval e X.env)]:=by rfl) :
  PI X (.Tuple elts kk mR) (.Call (.Name "enumerate" p) [e] [] pos) (aao X.K fz):=by
 refine⟨λpins s σ H R I h=>?_⟩;refine Call_ (ld_blt I hg hm boot_enumerate (PyProof.Rows.callWith_type1 (thn (ha.run pos pins s σ H _ I h) λus s1 ⟨vs,H1,I1,r1,bw⟩=>?_) hs rfl));obtain⟨c,xs,ex,hc,q⟩:=bw;subst ex;cases r1 with
 |cons r bW =>
  cases bW;obtain⟨z2,aaf,Jw,Jx,c0⟩:=Jk I1 hc r;refine aaj Jw Jx λh' he g1 e7 hk=>wpAny_pyIter_enum he ?_;have I2:Inv X pins σ H1 { s1 with heap:=h' }:=I1.kept (t':=s1.toks) hk;have z3:∀b,c.adr=some b->b<s1.heap.objs.size:=λb e=>Rh I1 hc e;refine⟨s1.heap.objs.size+1,[s1.heap.objs.size+1,s1.heap.objs.size],_,_,H1,rfl,I2,aak (Nat.succ_ne_self _) (λe=>absurd (mF (Nat.le_add_right _ _) (z3 _ e)) (kZ _)) (λe=>absurd (z3 _ e) (kZ _)),⟨⟨.none,he⟩,c0 _ _ g1⟩,λb hb=>?_,q⟩;have cW:b=s1.heap.objs.size+1\/b=s1.heap.objs.size:=by simpa using hb
  have hle:s1.heap.objs.size<=b:=by
   rcases cW with z|z
   .grind
   .grind
  exact I1.fpOk hle (I1.hok.fresh hle)
end Za
namespace Z
open PySem PySem.Spec L2
section
variable{K:PySem.W.Frag}{mg:Str->Option Value}{ρ:List Addr}{H:Hp}{S:Store}
theorem Ext.put{p:Addr}{o:HO}(hp:p∈ρ):Ext ρ H ρ (upd H p o):=⟨⟨[],by simp⟩,λa h n=>absurd h n,λa u n h=>.inl (by rw[upd_ne (λq=>n (by grind))];exact h)⟩
theorem Rn{α:Type}:∀{l:List α} {i j:Nat} {a:α},l.Nodup->l[i]?=some a->l[j]?=some a->i=j
 |[],_,_,_,_,h,_=>by simp at h
 |x::l,0,0,_,_,_,_=>rfl
 |x::l,0,j+1,a,hn,h1,h2=>by
  grind
 |x::l,i+1,0,a,hn,h1,h2=>by
  grind
 |x::l,i+1,j+1,a,hn,h1,h2=>by
  simp only[HI]at h1 h2;rw[Rn (ud.mp hn).2 h1 h2]
theorem aF.put(w:aF K mg ρ H S){n:Nat}{p:Addr}{o:HO}{m:dk}(hn:ρ[n]?=some p)(hm:i3 K mg ρ (upd H p o) p m):aF K mg ρ (upd H p o) (S.set n m):=by
 have hp:p∈ρ:=nT hn;refine⟨by simp[w.len],w.nd,λa ha=>?_,λj a eU au e2=>?_⟩
 .by_cases q:a=p
  .rw[q,upd_same];simp
  .rw[upd_ne q];exact w.tr a ha
 .by_cases q:j=n
  .grind
  .rw[qd (jq q)]at e2
   have Jz:a≠p:=λe=>by
    subst e;exact q (Rn w.nd au hn)
   exact i3.ext (Ext.put hp) (upd_ne Jz) (w.ob j a eU au e2)
theorem JA{Wp:Value->Option Addr->Hp->Prop}{Q:VK}{d:D}{v:V}{n:Nat}{p:Addr}{o:HO}{m:dk}(h:aS K mg Wp ρ H Q (.ok d (S.set n m)))(w:aF K mg ρ H S)(hn:ρ[n]?=some p)(hm:i3 K mg ρ (upd H p o) p m)(r:Rep K mg ρ H d v):Q v (upd H p o) :=
 h v ρ _ (Ext.put (nT hn)) (w.put hn hm) (r.ext (Ext.put (nT hn)))
theorem Ext.putL{p:Addr}{o:HO}{n:Nat}(hn:ρ[n]?=some p):Ext ρ H ρ (upd H p o):=Ext.put (nT hn)
theorem Ec(w:aF K mg ρ H S){n:Nat}{v:V}{xs:List D}(r:Rep K mg ρ H (.ptr n) v)(e:S[n]?=some (.lst xs)):∃a vs,v=.ref a/\ρ[n]?=some a/\H a=some (.lst vs)/\ay K mg ρ H xs vs:=by
 rw[Rep]at r;obtain⟨a,au,q⟩:=r;obtain⟨vs,h1,h2⟩:=w.ob n a _ q e;grind
theorem aaq(w:aF K mg ρ H S){n:Nat}{v:V}{ks xs:List D}(r:Rep K mg ρ H (.ptr n) v)(e:S[n]?=some (.dct false ks xs)):∃a kvs,v=.ref a/\ρ[n]?=some a/\H a=some (.dK kvs)/\ay K mg ρ H ks (kvs.map λp=>kV p.1)/\ay K mg ρ H xs (kvs.map (·.2)):=by
 rw[Rep]at r;obtain⟨a,au,q⟩:=r;obtain⟨kvs,h1,h2,aI⟩:=w.ob n a _ q e;grind
end
abbrev n':=D->aD
def dR(ty:Store->D->Bool)(sem:n')(fo:aM)(fa:cO):aM:=λsl S=>(fo sl S).bind λd S1=>if ty S1 d=true then(fa sl S1).bind λds S2=>sem d ds S2 else .bad
def k8(_:Store):D->Bool
 | .str _=>true
 |_=>false
def hS(S:Store)(d:D):Bool:=(cY S d).isSome
section
variable{X:Cx}{W:WX}
structure uT(X:Cx)(id:String)(sem:n'):Prop where
 go:∃r:V->List V->Hp->VK->Prop,MtR X id r/\∀(Wp:Value->Option Addr->Hp->Prop) (ρ:List Addr) (H:Hp) (S:Store) (d:D) (ds:List D) (x:V) (xs:List V) (Q:VK),aF X.K X.mg ρ H S->Rep X.K X.mg ρ H d x->ay X.K X.mg ρ H ds xs->aS X.K X.mg Wp ρ H Q (sem d ds S)->r x xs H Q
theorem Ed{K:PySem.W.Frag}{mg:Str->Option Value}{ρ:List Addr}{H:Hp}{S:Store}{d:D}{x:V}(_:aF K mg ρ H S)(r:Rep K mg ρ H d x)(h:k8 S d=true):tyV K "str" x H:=by
 cases d with
 |str s=>rw[eV r];exact rfl
 |_=>cases h
theorem xu{K:PySem.W.Frag}{mg:Str->Option Value}{ρ:List Addr}{H:Hp}{S:Store}{d:D}{x:V}(w:aF K mg ρ H S)(r:Rep K mg ρ H d x)(h:hS S d=true):tyV K "list" x H:=by
 unfold hS at h;obtain⟨ds,e⟩:=Option.isSome_iff_exists.mp h;obtain⟨a,vs,au,h1,_⟩:=gC w r e;rw[au];exact .inl ⟨rfl,vs,.inl (.inl h1)⟩
variable{o e:Expr}{es:List Expr}{fo:aM}{fa:cO}{apos mS:Pos}{name:Str}{T id:String}{sem:n'}{ty:Store->D->Bool}
theorem Ro{σ:L2.St}{H:Hp}{Q:VK}{K:PySem.W.Frag}{mg:Str->Option Value}{oa:V->Hp->Prop}{k:V->List V->Hp->Prop}(h:fx K mg W (dR ty sem fo fa) σ H Q)
  (h0:∀ρ H S d x,aF K mg ρ H S->Rep K mg ρ H d x->ty S d=true->oa x H)
  (hk:∀ρ S aH d ds x xs,aF K mg ρ aH S->Rep K mg ρ aH d x->ay K mg ρ aH ds xs->aS K mg (λC d H'=>W C d σ H') ρ aH Q (sem d ds S)->k x xs aH) :
  fx K mg W fo σ H λx H1=>oa x H1/\r7 K mg W fa σ H1 λxs aH=>k x xs aH:=by
 obtain⟨ρ,S,sl,w,rs,p⟩:=h;refine⟨ρ,S,sl,w,rs,aS.mono (aS.e3 p) λx H1 ⟨aB,S1,d,x1,aE,r1,_,p1⟩=>?_⟩;split at p1
 .rename_i ht
  refine⟨h0 _ _ _ _ _ aE r1 ht,aB,S1,sl,aE,rs.ext x1,eu.mono (eu.e3 p1) λxs aH ⟨aP,S2,ds,x2,cD,r2,_,p2⟩=>?_⟩;exact hk aP S2 aH d ds x xs cD (r1.ext x2) r2 p2
 .exact p1.elim
theorem sx(hm:uT X id sem)(JB:∀ρ H S d x,aF X.K X.mg ρ H S->Rep X.K X.mg ρ H d x->ty S d=true->tyV X.K T x H)(z6:PlainAttrs T)(slot:Slot T name id)(hi:typeOf (.builtin id)=pure (.type "method_descriptor"))(aQ:E X W o fo)(ha:gq X W (e::es) fa)
  (JC:attributeBase o name X.env (eval o X.env)=eval o X.env:=by rfl)
  (aar:((backTo mS (starEach (e::es) X.env)).all (λx => !x.1)&&(backToKw mS (keywordEach [] X.env)).all (λx=>x.1.isSome)
   && decide ((e::es).length+([]:List Keyword).length+(if([]:List Keyword).isEmpty then 0 else 1)<30))=true:=by rfl)
  (hline:(apos.endLine==mS.line)=true:=by rfl) (hs:starEach (e::es) X.env=(false,eval e X.env)::starEach es X.env:=by rfl) (JD:(backTo mS (starEach es X.env)).any (·.1)=false:=by rfl) :
  E X W (.Call (.Attribute o name apos) (e::es) [] mS) (dR ty sem fo fa):=by
 obtain⟨r,m,g⟩:=hm.go;exact PE.imp (pe_bm z6 slot hi m aQ ha JC aar hline hs JD) λσ H Q h=>Ro h JB λρ S aH d ds x xs w aC cB p=>g _ ρ aH S d ds x xs Q w aC cB p
theorem Rp(hm:uT X id sem)(JB:∀ρ H S d x,aF X.K X.mg ρ H S->Rep X.K X.mg ρ H d x->ty S d=true->tyV X.K T x H)(z6:PlainAttrs T)(slot:Slot T name id)(hi:typeOf (.builtin id)=pure (.type "method_descriptor"))(aQ:E X W o fo)
  (JC:attributeBase o name X.env (eval o X.env)=eval o X.env:=by rfl) (hline:(apos.endLine==mS.line)=true:=by rfl):E X W (.Call (.Attribute o name apos) [] [] mS) (dR ty sem fo ai):=by
 obtain⟨r,m,g⟩:=hm.go;refine PE.imp (pe_bm0 z6 slot hi m aQ JC hline) λσ H Q h=>?_;obtain⟨ρ,S,sl,w,rs,p⟩:=Ro (k:=λx xs aH=>r x xs aH Q) h JB λρ S aH d ds x xs w aC cB p=>g _ ρ aH S d ds x xs Q w aC cB p;refine⟨ρ,S,sl,w,rs,aS.mono p λx H1 ⟨t,aP,S2,bH,cD,Ee,p2⟩=>⟨t,p2 [] aP H1 Ext.refl cD ay.nil⟩⟩
def qG:n':=λd ds S=>match d,ds with
 | .ptr n,[e]=>(match S[n]? with
  |some (.lst xs)=>if xs.length<1000000 then .ok .non (S.set n (.lst (xs++[e])))else .bad
  |_=>.bad)
 |_,_=>.bad
theorem Rq:uT X "list.append" qG:=by
 refine⟨_,mt_append,λWp ρ H S d ds x xs Q w aC cB p=>?_⟩;unfold qG at p;split at p
 .rename_i n e
  split at p
  .rename_i ys dr
   split at p
   .rename_i hl
    obtain⟨a,vs,au,q,h1,r1⟩:=Ec w aC dr;obtain⟨v,e2,r2⟩:=kh cB;refine⟨a,vs,v,au,e2,h1,by rw[<-r1.len];have:=h7 (n:=ys.length+1) (by omega);omega,?_⟩;exact JA p w q ⟨_,upd_same,(r1.append (ay.cons r2 ay.nil)).ext (Ext.putL q)⟩ QW
   .exact p.elim
  .exact p.elim
 .exact p.elim
def sy:n':=λd ds S=>match d,ds with
 | .ptr n,[e]=>(match S[n]?,cY S e with
  |some (.lst xs),some ys=>if xs.length+ys.length<=1000000 then .ok .non (S.set n (.lst (xs++ys)))else .bad
  |_,_=>.bad)
 |_,_=>.bad
theorem Rr:uT X "list.extend" sy:=by
 refine⟨_,mt_extend,λWp ρ H S d ds x xs Q w aC cB p=>?_⟩;unfold sy at p;split at p
 .rename_i n e
  split at p
  .rename_i kj ys au e2
   split at p
   .rename_i hl
    obtain⟨a,vs,bj,q,h1,r1⟩:=Ec w aC au;obtain⟨v,fV,r2⟩:=kh cB;obtain⟨b,us,e5,cw,hQ⟩:=gC w r2 e2;refine⟨a,b,vs,us,bj,by rw[fV,e5],h1,cw,by rw[<-r1.len,<-hQ.len];exact h7 hl,?_⟩;exact JA p w q ⟨_,upd_same,(r1.append hQ).ext (Ext.putL q)⟩ QW
   .exact p.elim
  .exact p.elim
 .exact p.elim
theorem ay.dropLast{K:PySem.W.Frag}{mg:Str->Option Value}{ρ:List Addr}{H:Hp}{ds:List D}{vs:List V}(q:ay K mg ρ H ds vs):ay K mg ρ H ds.dropLast vs.dropLast:=by
 rw[List.dropLast_eq_take,List.dropLast_eq_take,<-q.len];exact q.take _
def qH:n':=λd ds S=>match d,ds with
 | .ptr n,[]=>(match S[n]? with
  |some (.lst xs)=>(match xs[xs.length - 1]? with
   |some y=>.ok y (S.set n (.lst xs.dropLast))
   |none=>.bad)
  |_=>.bad)
 |_,_=>.bad
theorem Ru:uT X "list.pop" qH:=by
 refine⟨_,mt_pop,λWp ρ H S d ds x xs Q w aC cB p=>?_⟩;unfold qH at p;split at p
 .rename_i n
  split at p
  .rename_i ys dr
   split at p
   .rename_i y a6
    obtain⟨a,vs,au,q,h1,r1⟩:=Ec w aC dr;obtain⟨v,h2,r2⟩:=r1.get a6;rw[ay]at cB;refine⟨a,vs,v,au,cB,h1,by rw[<-r1.len];exact h2,?_⟩;exact JA p w q ⟨_,upd_same,r1.dropLast.ext (Ext.putL q)⟩ r2
   .exact p.elim
  .exact p.elim
 .exact p.elim
def xv:List D->Option (List Str)
 |[]=>some []
 | .str s::r=>(xv r).map (s :: ·)
 |_::_=>none
theorem Rw:∀{ds:List D} {bs:List Str},xv ds=some bs->ds=bs.map D.str
 |[],_,e=>by cases e;rfl
 |d::r,_,e=>by
  cases d with
  |str s =>
   rw[xv]at e;obtain⟨ys,au,e2⟩:=fq.mp e;subst e2;rw[Rw au];rfl
  |_=>cases e
theorem Rx{K:PySem.W.Frag}{mg:Str->Option Value}{ρ:List Addr}{H:Hp}:∀{bs:List Str} {vs:List V},ay K mg ρ H (bs.map D.str) vs->vs=bs.map V.str
 |[],_,r=>by rw[qf,ay]at r;exact r
 |b::bs,_,r=>by
  rw[c1,ay]at r;obtain⟨v,bM,e,h1,h2⟩:=r;rw[e,eV h1,Rx h2];rfl
theorem JE{K:PySem.W.Frag}{mg:Str->Option Value}{ρ:List Addr}{H:Hp}:∀(bs:List Str),ay K mg ρ H (bs.map D.str) (bs.map V.str)
 |[]=>ay.nil
 |b::bs=>ay.cons mP (JE bs)
def kl:n':=λd ds S=>match d,ds with
 | .str a,[e]=>(match c9 S e with
  |some xs=>(match xv xs with
   |some ys=>if(ys.map (·.length)).sum+ys.length * a.length<=1000000 then .ok (.str (Txt.join a ys)) S else .bad
   |none=>.bad)
  |none=>.bad)
 |_,_=>.bad
theorem JF:uT X "str.join" kl:=by
 refine⟨_,mt_join,λWp ρ H S d ds x xs Q w aC cB p=>?_⟩;unfold kl at p;split at p
 .rename_i a e
  split at p
  .rename_i zs uP
   split at p
   .rename_i ys dr
    split at p
    .rename_i hl
     obtain⟨v,e2,r2⟩:=kh cB;obtain⟨b,vs,bj,aI,bU⟩:=zU w r2 uP;rw[Rw dr]at bU;rw[Rx bU]at aI;exact⟨a,b,ys,eV aC,by rw[e2,bj],aI,by omega,cj p w mP⟩
    .exact p.elim
   .exact p.elim
  .exact p.elim
 .exact p.elim
end
def kD:Key->D
 | .inl i=>.int i
 | .inr s=>.str s
def oc:D->Option Key
 | .int i=>some (.inl i)
 | .str s=>some (.inr s)
 |_=>none
@[simp] theorem xA(k:Key):oc (kD k)=some k:=by cases k<;>rfl
theorem aas{d:D}{k:Key}(h:oc d=some k):d=kD k:=by
 cases d with
 |int i=>cases h;rfl
 |str i=>cases h;rfl
 |_=>cases h
def xB:List D->List D->Key->Option D
 |k::ks,v::vs,y=>if oc k=some y then some v else xB ks vs y
 |_,_,_=>none
def qI(ks:List D)(y:Key):Bool:=ks.any λk=>decide (oc k=some y)
def Ef:List D->List D->Key->D->List D
 |k::ks,v::vs,y,d=>(if oc k=some y then d else v)::Ef ks vs y d
 |_,_,_,_=>[]
def JG(ks:List D)(y:Key):List D:=if qI ks y=true then ks else ks++[kD y]
def JH(ks vs:List D)(y:Key)(d:D):List D:=if qI ks y=true then Ef ks vs y d else vs++[d]
def asD(S:Store):D->Option (List D×List D)
 | .dct ks vs=>some (ks,vs)
 | .ptr n=>match S[n]? with
  |some (.dct _ ks vs)=>some (ks,vs)
  |_=>none
 |_=>none
section
variable{K:PySem.W.Frag}{mg:Str->Option Value}{ρ:List Addr}{H:Hp}{S:Store}
theorem aat{d:D}{k:Key}(r:Rep K mg ρ H d (kV k)):d=kD k:=by
 cases d with
 |non=>rw[Rep]at r;cases k<;>cases r
 |bl b=>rw[Rep]at r;cases k<;>cases r
 |int i=>rw[Rep]at r;cases k<;>cases r;rfl
 |str i=>rw[Rep]at r;cases k<;>cases r;rfl
 |ty i=>rw[Rep]at r;cases k<;>cases r
 |cls c=>rw[Rep]at r;obtain⟨_,_,e⟩:=r;cases k<;>cases e
 |tup xs=>rw[Rep]at r;obtain⟨_,_,e,_⟩:=r;cases k<;>cases e
 |lst xs=>rw[Rep]at r;obtain⟨_,_,e,_⟩:=r;cases k<;>cases e
 |bS xs=>rw[Rep]at r;obtain⟨_,_,e,_⟩:=r;cases k<;>cases e
 |dct xs ys=>rw[Rep]at r;obtain⟨_,_,_,e,_⟩:=r;cases k<;>cases e
 |dX w xs ys=>rw[Rep]at r;obtain⟨_,_,_,e,_⟩:=r;cases k<;>cases e
 |ins c ns vs=>rw[Rep]at r;obtain⟨_,_,_,_,e,_⟩:=r;cases k<;>cases e
 |ptr n=>rw[Rep]at r;obtain⟨_,e,_⟩:=r;cases k<;>cases e
 |cy xs=>rw[Rep]at r;obtain⟨_,e,_⟩:=r;cases k<;>cases e
 |exc c ns vs=>rw[Rep]at r;obtain⟨_,_,_,_,e,_⟩:=r;cases k<;>cases e
 |lam T c=>rw[Rep]at r;obtain⟨_,e,_⟩:=r;cases k<;>cases e
 |h4 T c=>rw[Rep]at r;obtain⟨_,_,_,e,_⟩:=r;cases k<;>cases e
theorem Ry(k:Key):Rep K mg ρ H (kD k) (kV k):=by cases k<;>rw[kD,kV,Rep]
theorem JI{d:D}{k:Key}{v:V}(r:Rep K mg ρ H d v)(h:oc d=some k):v=kV k:=by
 rw[aas h]at r;cases k with
 |inl i=>exact fX r
 |inr i=>exact eV r
theorem z7:∀{kvs:List (Key×V)} {ks:List D},ay K mg ρ H ks (kvs.map λp=>kV p.1)->ks=kvs.map λp=>kD p.1
 |[],ks,r=>by
  cases ks with
  |nil=>rfl
  |cons d ks=>rw[ay]at r;grind
 |p::kvs,ks,r=>by
  cases ks with
  |nil=>rw[ay]at r;cases r
  |cons d ks =>
   rw[ay]at r;obtain⟨v,bM,e,h1,h2⟩:=r;rw[c1]at e;injection e with au e2
   subst au e2;rw[c1,aat h1,z7 h2]
theorem Rz:∀(kvs:List (Key×V)),ay K mg ρ H (kvs.map λp=>kD p.1) (kvs.map λp=>kV p.1)
 |[]=>ay.nil
 |p::kvs=>ay.cons (Ry p.1) (Rz kvs)
theorem JK{d:D}{v:V}{p:List D×List D}(w:aF K mg ρ H S)(r:Rep K mg ρ H d v)(h:asD S d=some p):∃a kvs,v=.ref a/\Rd H a (.dK kvs)/\p.1=kvs.map (λp=>kD p.1)/\ay K mg ρ H p.2 (kvs.map (·.2)):=by
 cases d with
 |dct ks vs =>
  unfold asD at h;cases h;rw[Rep]at r;obtain⟨a,bP,dg,e,⟨_,kvs,t,au,e2⟩,r1,r2⟩:=r;subst au e2;exact⟨a,kvs,e,t,z7 r1,r2⟩
 |ptr n =>
  unfold asD at h;simp only at h;rw[Rep]at r;obtain⟨a,e,q⟩:=r;split at h
  .rename_i lk ks vs em
   cases h;obtain⟨kvs,h1,r1,r2⟩:=w.ob n a _ q em;refine⟨a,kvs,e,?_,z7 r1,r2⟩;cases lk with
   |true=>grind
   |false=>rw[if_neg j8]at h1;exact .inl h1
  .cases h
 |_=>unfold asD at h;cases h
theorem JL{y:Key}:∀{kvs:List (Key×V)} {ds:List D},ay K mg ρ H ds (kvs.map (·.2))->(∀d,xB (kvs.map λp=>kD p.1) ds y=some d->∃v,valV kvs y=some v/\Rep K mg ρ H d v)/\(valV kvs y).isSome=qI (kvs.map λp=>kD p.1) y
 |[],ds,r=>⟨λd h=>by simp[xB]at h,by rfl⟩
 |p::kvs,ds,r=>by
  cases ds with
  |nil=>rw[ay]at r;cases r
  |cons d ds =>
   rw[ay]at r;obtain⟨v,bM,e,h1,h2⟩:=r;rw[c1]at e;injection e with au e2
   subst au e2;obtain⟨i1,i2⟩:=JL (y:=y) (kvs:=kvs) h2;by_cases q:p.1=y
   .refine⟨λd' h=>?_,?_⟩
    .rw[c1,xB,xA,q,if_pos rfl]at h
     cases h;exact⟨p.2,valV_pos q,h1⟩
    .rw[valV_pos q,c1,qI,List.any_cons,xA,q]
     simp
   .refine⟨λd' h=>?_,?_⟩
    .rw[c1,xB,xA,if_neg (λz=>q (Option.some.inj z))]at h
     obtain⟨u,bj,bU⟩:=i1 d' h;exact⟨u,by rw[valV_neg q];exact bj,bU⟩
    .rw[valV_neg q,c1,qI,List.any_cons,xA,decide_eq_false (λz=>q (Option.some.inj z)),Bool.false_or]
     exact i2
theorem aau(y:Key)(kvs:List (Key×V)):(kvs.any λbP=>decide (bP.1=y))=qI (kvs.map λp=>kD p.1) y:=by
 induction kvs with
 |nil=>rfl
 |cons p kvs ih =>
  rw[List.any_cons,c1,qI,List.any_cons,xA];rw[show(kvs.any λbP=>decide (bP.1=y))=(List.map (λp:Key×V=>kD p.1) kvs).any (λk=>decide (oc k=some y))from ih];simp
theorem RA{y:Key}{d:D}{v:V}(h:Rep K mg ρ H d v):∀{kvs:List (Key×V)} {ds:List D},ay K mg ρ H ds (kvs.map (·.2))->ay K mg ρ H (Ef (kvs.map λp=>kD p.1) ds y d) ((kvs.map λbP=>if bP.1=y then(bP.1,v)else bP).map (·.2))
 |[],ds,r=>by
  rfl
 |p::kvs,ds,r=>by
  cases ds with
  |nil=>rw[ay]at r;cases r
  |cons d' ds =>
   rw[ay]at r;obtain⟨n6,bM,e,h1,h2⟩:=r;rw[c1]at e;injection e with au e2
   subst au e2;rw[c1,c1,c1,Ef,xA];refine ay.cons ?_ (RA h h2);grind
theorem aav{y:Key}{d:D}{v:V}(h:Rep K mg ρ H d v){kvs:List (Key×V)}{ds:List D}(r:ay K mg ρ H ds (kvs.map (·.2))) :
  JG (kvs.map λp=>kD p.1) y=(putK kvs y v).map (λp=>kD p.1)/\ay K mg ρ H (JH (kvs.map λp=>kD p.1) ds y d) ((putK kvs y v).map (·.2)):=by
 unfold JG JH putK;rw[<-aau y kvs];split
 .rename_i q
  refine⟨?_,RA h r⟩;rw[mG];refine List.map_congr_left λp _=>?_;grind
 .refine⟨by simp,?_⟩
  rw[List.map_append];exact r.append (ay.cons h ay.nil)
end
section
variable{X:Cx}
def Eg:bZ:=λd e S=>match asD S d,oc e with
 |some p,some k=>(match xB p.1 p.2 k with
  |some v=>.ok v S
  |none=>.bad)
 |_,_=>.bad
theorem aaw(aT:X.A.units+1<cLine):IxR X (λx y H Q=>∃a v,x=.ref a/\DGet H a y (some v)/\Q v H):=by
 intro value slice pins s σ H x y v u Q I aC a_ h hs;obtain⟨a,z,rfl,g,q⟩:=h;obtain rfl:v=Value.ref a:=aC;exact PyProof.Rows.tail_any (dict_typeIs I g) PySem.F.slot_dict_getitem.lookup (d_getItem aT I g a_ λcn s' gb JM=>⟨z,H,gb,JM,q⟩) hs
theorem aax(aT:X.A.units+1<cLine):sq X Eg:=by
 refine⟨_,aaw aT,λWp ρ H S d e x y Q w aC a_ p=>?_⟩;unfold Eg at p;split at p
 .rename_i pr k dF ek
  split at p
  .rename_i v ev
   obtain⟨a,kvs,au,h1,e2,r2⟩:=JK w aC dF;rw[e2]at ev;obtain⟨u,bj,bU⟩:=(JL r2).1 v ev;exact⟨a,u,au,.inl ⟨kvs,k,h1,JI a_ ek,bj.symm⟩,cj p w bU⟩
  .exact p.elim
 .exact p.elim
def z8(neg:Bool):bZ:=λe d S=>match asD S d,oc e with
 |some p,some k=>.ok (.bl (if neg=true then !qI p.1 k else qI p.1 k)) S
 |_,_=>.bad
theorem aay(aT:X.A.units+1<cLine):OpR X (compareOp .In) (λy x H Q=>∃a o,x=.ref a/\DGet H a y o/\Q (.bl o.isSome) H):=by
 intro pins s σ H x y v u Q I aC a_ h;obtain⟨a,o,rfl,g,q⟩:=h;obtain rfl:u=Value.ref a:=a_;exact d_in aT I g aC λs' gb=>⟨.bl o.isSome,H,gb,rfl,q⟩
theorem aaz(aT:X.A.units+1<cLine):cA X (compareOp .In) (z8 false):=by
 refine⟨_,aay aT,λWp ρ H S d e x y Q w aC a_ p=>?_⟩;unfold z8 at p;split at p
 .rename_i pr k dF ek
  obtain⟨a,kvs,au,h1,e2,r2⟩:=JK w a_ dF;refine⟨a,valV kvs k,au,.inl ⟨kvs,k,h1,JI aC ek,rfl⟩,?_⟩;rw[(JL (y:=k) r2).2,<-e2];exact cj p w gS
 .exact p.elim
theorem aaA:CallR X (.builtin "len") (λxs H Q=>∃a kvs,xs=[V.ref a]/\Rd H a (.dK kvs)/\Q (.int kvs.length) H):=by
 intro pins s σ H xs us Q I r h;obtain⟨a,kvs,rfl,ha,q⟩:=h;obtain⟨u,rfl,cv⟩:=vals1 r;cases cv;exact L2.d_len I ha λt s' gb=>⟨.int kvs.length,H,gb,⟨t,rfl⟩,q⟩
def JN:aD:=λds S=>match ds with
 |[d]=>(match asD S d with
  |some p=>.ok (.int p.1.length) S
  |none=>.bad)
 |_=>.bad
theorem aaB:hN X (.builtin "len") JN:=by
 refine⟨_,aaA,λWp ρ H S ds xs Q w r p=>?_⟩;unfold JN at p;split at p
 .split at p
  .rename_i pr dF
   obtain⟨v,e,h1⟩:=kh r;obtain⟨a,kvs,au,h2,e2,r2⟩:=JK w h1 dF;refine⟨a,kvs,by rw[e,au],h2,?_⟩;rw[e2,List.length_map]at p;exact cj p w h9
  .exact p.elim
 .exact p.elim
def uU(o i v:D)(S:Store):Option Store:=match o with
 | .ptr n=>(match S[n]? with
  |some (.lst xs)=>(match i with
   | .int k=>(match ixN xs.length k with
    |some j=>some (S.set n (.lst (xs.set j v)))
    |none=>none)
   |_=>none)
  |some (.dct false ks vs)=>(match oc i with
   |some k=>if ks.length<1000000 then some (S.set n (.dct false (JG ks k) (JH ks vs k v)))else none
   |none=>none)
  |_=>none)
 |_=>none
def RB:V->V->V->Hp->(Hp->Prop)->Prop:=λo i v H Q=>rSetL o i v H Q\/rSetD o i v H Q
theorem aaC(aT:X.A.units+1<cLine):PSet X RB:=by
 intro pins s σ H o i v fC iv u Q I z9 z_ aR h;rcases h with h|h
 .exact set_list pins s σ H o i v fC iv u Q I z9 z_ aR h
 .exact set_dict aT pins s σ H o i v fC iv u Q I z9 z_ aR h
theorem aaD{K:PySem.W.Frag}{mg:Str->Option Value}{ρ:List Addr}{H:Hp}{S ak:Store}{o i v:D}{x y z:V}{Q:Hp->Prop}(w:aF K mg ρ H S)(z9:Rep K mg ρ H o x)(z_:Rep K mg ρ H i y)(aR:Rep K mg ρ H v z)(h:uU o i v S=some ak)
  (k:∀H',Ext ρ H ρ H'->aF K mg ρ H' ak->Q H'):RB x y z H Q:=by
 unfold uU at h;split at h
 .rename_i n
  split at h
  .rename_i xs ex
   split at h
   .rename_i oa
    split at h
    .rename_i j lR
     cases h;obtain⟨a,vs,au,q,h1,r1⟩:=Ec w z9 ex;refine .inl ⟨a,vs,oa,j,au,fX z_,h1,by rw[<-r1.len];exact lR,k _ (Ext.putL q) (w.put q ⟨_,upd_same,(r1.set aR j).ext (Ext.putL q)⟩)⟩
    .cases h
   .cases h
  .rename_i ks vs ex
   split at h
   .rename_i oa ek
    split at h
    .rename_i hl
     cases h;obtain⟨a,kvs,au,q,h1,r1,r2⟩:=aaq w z9 ex;have RD:=z7 r1;obtain⟨hj,ej⟩:=aav (y:=oa) aR r2;rw[<-RD]at hj ej;refine .inr ⟨a,_,au,.inl ⟨kvs,oa,h1,JI z_ ek,?_,rfl⟩,k _ (Ext.putL q) (w.put q ⟨putK kvs oa z,by rw[if_neg j8];exact upd_same,?_,ej.ext (Ext.putL q)⟩)⟩
     .have e:ks.length=kvs.length:=by rw[RD,List.length_map]
      rw[<-e];have:=h7 (n:=ks.length+1) (by omega);omega
     .rw[hj];exact Rz _
    .cases h
   .cases h
  .cases h
 .cases h
def km(fo fi:aM):dz:=λv sl S=>match fo sl S with
 | .ok o S1=>(match fi sl S1 with
  | .ok i S2=>(match uU o i v S2 with
   |some aW=>.nx sl aW
   |none=>.bad)
  |_=>.bad)
 |_=>.bad
theorem z'(fo fi:aM)(d:D)(sl:aL)(S:Store):(∃d1 ak,km fo fi d sl S=.nx d1 ak)\/km fo fi d sl S=.bad:=by
 unfold km;grind
section
variable{W:WX}{o i e:Expr}{fo fi:aM}{pos:Pos}
theorem Aa(aT:X.A.units+1<cLine)(aQ:E X W o fo)(hi:E X W i fi)
  (ha:∀v,assign (.Subscript o i pos) X.env v=(do
   let fC <-holding [v] (eval o X.env);let iv <-holding [v,fC] (eval i X.env)
   standAt pos
   holding [v,fC,iv] (setItem fC iv v)
   release [v,fC,iv] []):=by intro _;rfl):uF X W (.Subscript o i pos) (km fo fi):=by
 refine PG.imp (pg_sub aQ hi (aaC aT) ha) λv σ H Q ⟨ρ,S,sl,d,w,rs,aR,p⟩=>?_;have p:bL X.K X.mg W ρ H ⟨Q,λ_ _=>False,λ_ _=>False,λ_ _=>False⟩ (km fo fi d sl S):=p;unfold km at p;split at p
 .rename_i e6 S1 JO
  split at p
  .rename_i anN S2 qJ
   split at p
   .rename_i aW es
    refine⟨ρ,S,sl,w,rs,?_⟩;rw[JO];intro x aB H1 x1 aE r1;refine⟨aB,S1,sl,aE,rs.ext x1,?_⟩;rw[qJ];intro y aP aH x2 cD r2;refine aaD cD (r1.ext x2) r2 (aR.ext (x1.trans x2)) es λH' xx ww=>?_;have uV:=(x1.trans x2).trans xx;exact p _ aP H' uV ww (rs.ext uV)
   .exact p.elim
  .exact p.elim
 .exact p.elim
theorem bL.Ab{K:PySem.W.Frag}{mg:Str->Option Value}{ρ:List Addr}{H:Hp}{W:WX}{dY:Ends}{σ:L2.St}{sl:aL}{o:Out D}{k:D->Store->SO}(rs:cq K mg ρ H σ sl)(h:bL K mg W ρ H dY (o.toS sl k)) :
  aS K mg (λC d H'=>W C d σ H') ρ H (λv H1=>∃aB S1 d,Ext ρ H aB H1/\aF K mg aB H1 S1/\cq K mg aB H1 σ sl/\Rep K mg aB H1 d v/\bL K mg W aB H1 dY (k d S1)) o:=by
 cases o with
 |ok d S=>exact λv aP aH y w r=>⟨aP,S,d,y,w,rs.ext y,r,bL.from y h⟩
 |ex e S=>exact λC dd aP aH y w r=>h C dd σ aP aH y w (rs.ext y) r
 |bad=>exact h
end
end
def h_(xs:List D)(lo hi:Option Int):List D:=(xs.drop (HT.sIx xs.length 0 lo)).take (HT.sIx xs.length xs.length hi - HT.sIx xs.length 0 lo)
def uW(hand:Bool):D->Option Int->Option Int->Store->Out D:=λd lo hi S=>match d with
 | .str s=>if s.length<=1000000 then .ok (.str (cutS s lo hi)) S else .bad
 | .tup xs=>.ok (.tup (h_ xs lo hi)) S
 | .bS _=>.bad
 |d=>(match c9 S d with
  |some xs=>if hand=true then .ok (.ptr S.length) (S++[.lst (h_ xs lo hi)])else .ok (.lst (h_ xs lo hi)) S
  |none=>.bad)
abbrev uX:=aL->Store->Out (Option Int)
def hT:uX:=λ_ S=>.ok none S
def e8(f:aM):uX:=λsl S=>(f sl S).bind λd S1=>match d with
 | .int i=>.ok (some i) S1
 |_=>.bad
def gD(hand:Bool)(fa:aM)(fl fu:uX):aM:=λsl S=>(fa sl S).bind λd S1=>(fl sl S1).bind λl S2=>(fu sl S2).bind λu aW=>uW hand d l u aW
section
variable{K:PySem.W.Frag}{mg:Str->Option Value}{ρ aj:List Addr}{H H':Hp}{W:Value->Option Addr->Hp->Prop}
def oe(K:PySem.W.Frag)(mg:Str->Option Value)(W:Value->Option Addr->Hp->Prop)(ρ:List Addr)(H:Hp)(Q:Option Int->Hp->Prop):Out (Option Int)->Prop
 | .ok b ak=>∀aj H',Ext ρ H aj H'->aF K mg aj H' ak->Q b H'
 | .ex e ak=>∀C dd aj H',Ext ρ H aj H'->aF K mg aj H' ak->jJ K mg aj H' e C dd->W C dd H'
 | .bad=>False
theorem oe.mono{Q ew:Option Int->Hp->Prop}{o:Out (Option Int)}(h:oe K mg W ρ H Q o)(k:∀v H',Q v H'->ew v H'):oe K mg W ρ H ew o:=by
 cases o with
 |ok d S=>exact λaj H' x w=>k _ _ (h aj H' x w)
 |ex e S=>exact h
 |bad=>exact h
theorem uY{S:Store}{d:D}{v:V}{ds:List D}(w:aF K mg ρ H S)(r:Rep K mg ρ H d v)(h:c9 S d=some ds)(hn:∀ys,d≠.tup ys/\d≠.bS ys):∃a vs,v=.ref a/\SqL K H a vs/\ay K mg ρ H ds vs:=by
 cases d with
 |tup xs=>grind
 |bS xs=>grind
 |cy xs =>
  unfold c9 at h;cases h;rw[Rep]at r;obtain⟨a,e,t⟩:=r;exact⟨a,_,e,t.df,Ja xs⟩
 |lst xs =>
  obtain⟨a,vs,e,h1,h2⟩:=gC w r (show cY S (.lst xs)=some ds from h);exact⟨a,vs,e,.inl (.inl h1),h2⟩
 |ptr n =>
  obtain⟨a,vs,e,h1,h2⟩:=gC w r (show cY S (.ptr n)=some ds from h);exact⟨a,vs,e,.inl (.inl h1),h2⟩
 |_=>unfold c9 cY at h;cases h
theorem oe.e3{Q:V->Hp->Prop}{o:Out (Option Int)}{k:Option Int->Store->Out D}(h:aS K mg W ρ H Q (o.bind k)) :
  oe K mg W ρ H (λb H1=>∃aB S1,Ext ρ H aB H1/\aF K mg aB H1 S1/\aS K mg W aB H1 Q (k b S1)) o:=by
 cases o with
 |ok d S=>exact λaP aH y w=>⟨aP,S,y,w,aS.from y h⟩
 |ex e S=>exact h
 |bad=>exact h
end
section
variable{X:Cx}{W:WX}
def EO(X:Cx)(W:WX)(e:Option Expr)(f:uX):Prop:=PO X e λσ H Q=>∃ρ S sl,aF X.K X.mg ρ H S/\cq X.K X.mg ρ H σ sl/\oe X.K X.mg (λC d H'=>W C d σ H') ρ H Q (f sl S)
theorem PO.imp{e:Option Expr}{t t':TO}(h:PO X e t)(k:∀σ H Q,t' σ H Q->t σ H Q):PO X e t':=⟨λpins s σ H Q I q=>h.run pins s σ H Q I (k σ H Q q)⟩
theorem sA:EO X W none hT:=PO.imp po_none λσ H Q ⟨ρ,S,sl,w,rs,p⟩=>p ρ H Ext.refl w
theorem mU{e:Expr}{f:aM}(he:E X W e f):EO X W (some e) (e8 f):=PO.imp (po_some he) λσ H Q ⟨ρ,S,sl,w,rs,p⟩=>by
 refine⟨ρ,S,sl,w,rs,?_⟩;have p:oe X.K X.mg (λC d H'=>W C d σ H') ρ H Q ((f sl S).bind λd S1=>match d with
  | .int i=>.ok (some i) S1
  |_=>.bad):=p
 cases q:f sl S with
 |bad=>rw[q]at p;exact p
 |ex e S1=>rw[q]at p;exact p
 |ok d S1 =>
  rw[q]at p;intro v aB H1 x1 aE r1;cases d with
  |int i=>exact⟨i,fX r1,p aB H1 x1 aE⟩
  |_=>exact p.elim
theorem JP{K:PySem.W.Frag}{mg:Str->Option Value}{ρ:List Addr}{H:Hp}{xs:List D}{vs:List V}(lo hi:Option Int)(r:ay K mg ρ H xs vs):ay K mg ρ H (h_ xs lo hi) (cutV vs lo hi):=by
 unfold h_ cutV;rw[r.len];exact(r.drop _).take _
theorem aaE{xs:List D}{lo hi:Option Int}(h:HT.sIx xs.length 0 lo=0/\HT.sIx xs.length xs.length hi=xs.length):h_ xs lo hi=xs:=by
 unfold h_;grind
theorem pq{hand:Bool}{a:Expr}{lo hi:Option Expr}{fa:aM}{fl fu:uX}{p2 pos:Pos}(ha:E X W a fa)(hl:EO X W lo fl)(hh:EO X W hi fu):E X W (.Subscript a (.Slice lo hi none p2) pos) (gD hand fa fl fu):=by
 refine PE.imp (pe_slice ((sl_list (X:=X)).or ((sl_tupA (X:=X)).or sl_str)) ha hl hh) λσ H Q ⟨ρ,S,sl,w,rs,p⟩=>?_;refine⟨ρ,S,sl,w,rs,aS.mono (aS.e3 p) λx H1 ⟨aB,S1,d,x1,aE,r1,_,p1⟩=>?_⟩;refine⟨aB,S1,sl,aE,rs.ext x1,oe.mono (oe.e3 p1) λl aH ⟨aP,S2,x2,cD,p2⟩=>?_⟩;refine⟨aP,S2,sl,cD,rs.ext (x1.trans x2),oe.mono (oe.e3 p2) λu dG ⟨hO,aW,dc,g8,cu⟩=>?_⟩;have bU:=r1.ext (x2.trans dc);have go:∀xs,c9 aW d=some xs->(∀ys,d≠.tup ys/\d≠.bS ys)->aS X.K X.mg (λC d H'=>W C d σ H') hO dG Q (if hand=true then .ok (.ptr aW.length) (aW++[.lst (h_ xs l u)])else .ok (.lst (h_ xs l u)) aW)->rSlL X.K x l u dG Q:=λxs ex hn p=>by
  obtain⟨a,vs,au,h1,cI⟩:=uY g8 bU ex hn;refine⟨a,vs,au,h1,λp' hp=>?_⟩;cases hand with
  |true=>rw[if_pos rfl]at p;exact IX p g8 (JP l u cI) hp
  |false=>rw[if_neg j8]at p;exact xb p g8 (JP l u cI) hp
 cases d with
 |str s =>
  unfold uW at cu;simp only at cu;split at cu
  .rename_i hl
   exact .inr (.inr ⟨s,eV bU,h7 hl,cj cu g8 mP⟩)
  .exact cu.elim
 |tup xs =>
  have cu:aS X.K X.mg (λC d H'=>W C d σ H') hO dG Q (.ok (.tup (h_ xs l u)) aW):=cu;have aaF:=bU;rw[Rep]at bU;obtain⟨a,vs,au,t,cI⟩:=bU;refine .inr (.inl ⟨a,vs,au,t.df,λh=>?_,λh p' hp=>w' cu g8 (JP l u cI) hp⟩);rw[<-cI.len]at h;rw[aaE h]at cu;rw[<-au];exact cj cu g8 aaF
 |lst xs=>exact .inl (go xs rfl (by simp) cu)
 |cy xs=>exact .inl (go _ rfl (by simp) cu)
 |ptr n =>
  have cu:aS X.K X.mg (λC d H'=>W C d σ H') hO dG Q (match c9 aW (.ptr n)with
   |some xs=>if hand=true then .ok (.ptr aW.length) (aW++[.lst (h_ xs l u)])else .ok (.lst (h_ xs l u)) aW
   |none=>.bad):=cu
  split at cu
  .grind
  .exact cu.elim
 |_=>exact cu.elim
end
open PySem PySem.Spec L2 Za
section
variable{X:Cx}{tg e:Expr}
theorem Eh{t1 lS:TI}(h1:PI X tg e t1)(h2:PI X tg e lS):PI X tg e λσ H R=>t1 σ H R\/lS σ H R:=⟨λpins s σ H R I h=>by
 rcases h with h|h
 .exact h1.run pins s σ H R I h
 .exact h2.run pins s σ H R I h⟩
theorem aaG{sC:TE}(he:PE X e sC):PI X tg e λσ H R=>sC σ H λx H1=>∃d kvs,x=.ref d/\((H1 d=some (.dK kvs)/\∀o,R (Itk d o kvs) (upd H1 d (.frz o (.dK kvs))))\/∃o,H1 d=some (.frz o (.dK kvs))/\R (Itk d o kvs) H1):=by
 refine⟨λpins s σ H R I h=>?_⟩;refine thn (he.run pins s σ H _ I h) λu s1 ⟨x,H1,I1,aC,d,kvs,ex,q⟩=>?_;subst ex;obtain rfl:u=Value.ref d:=aC;have go:∀(aH:Hp) (o:Obj),Inv X pins σ aH s1->aH d=some (.frz o (.dK kvs))->R (Itk d o kvs) aH->wpAny (model X.prog X.w) X.A (pyIter (.ref d)) (PIE X pins σ tg R) X.xe s1:=λaH o I2 hd q=>by
  obtain⟨hs,qK,hx,es,dF,vs,qL,e7,bP,hm⟩:=I2.frzK hd;refine iter_keys hs qK hx qL (pi_one (tk:=s1.toks) I2 _ (turn_keys _ qL) ⟨_,Heap.get?_push_size _ rfl,rfl,?_⟩ q);grind
 rcases q with⟨hd,q⟩|⟨o,hd,q⟩
 .obtain⟨od,I2⟩:=I1.lock hd trivial
  exact go _ od I2 upd_same (q od)
 grind
end
def JQ(d:Addr)(p:List DictEntry×Obj)(bP:List V):It :=
 ⟨λi H=>H d=some (mK d p)/\i<p.1.length,λi H x H'=>H'=H/\bP[i]?=some x,λi H=>H d=some (mK d p)/\p.1.length<=i⟩
theorem RE:∀{vs:List V} {us:List Value},Vals vs us->∀(i:Nat) (u:Value),us[i]?=some u->∃x,vs[i]?=some x/\RelV x u
 |_,_,.nil,i,u,h=>by simp at h
 |_,_,.cons (a:=v) h1 h2,i,u,h=>by
  cases i with
  |zero=>grind
  |succ i=>simp at h;simpa using RE h2 i u h
section
variable{P:Program}{w:World}{K:PySem.W.Frag}{tg:Expr}{d:Addr}{p:List DictEntry×Obj}{dF:Nat}{bP:List V}
theorem aaH(it:Addr)(RF:p.2.data=.dict p.1.toArray dF)(bB:Vals bP (p.1.map (·.key))):Turn P w K tg (JQ d p bP) [it] it (λi h=>h.IsKeyIter it d i p.1.length dF) where
 mem:=by simp
 obj:=λi h st b hb=>by
  have e:b=it:=by simpa using hb
  subst e;obtain⟨JR,e,c,dd⟩:=st;grind
 keep:=λi h h' st k=>st.at λJR e=>k it (by simp) JR e
 item:=by
  intro X bu hw hK hc i pins s σ H E I hf st hg;subst bu hw hK;obtain⟨hd,hi⟩:=hg;obtain⟨f0,f1,f2,f3,f4,uS⟩:=hf it (by simp);obtain⟨⟨aaI,qK,hx,qL⟩,_,_⟩:=(show ObjOk X.prog X.w H s.heap d (mK d p)from I.hok d _ hd)
  obtain⟨x,uZ,og⟩:=RE bB i (p.1[i]'hi).key (by grind);refine next_key_item (en:=p.1[i]'hi) st qK RF (by simp) (by simp[hi]) λh' sD sb=>?_;have I1:Inv X pins σ H { s with heap:=h' }:=I.turned (t':=s.toks) (λb ob hb e=>(sb.2 b hb).trans e) f0 f1 f3 f4 uS;obtain⟨JR,e,c,dd⟩:=id sD;exact⟨_,rfl,go_of (s:={ s with heap:=h' }) e c dd (by decide) ⟨x,H,I1,og,⟨rfl,uZ⟩,sD,λb hb=>(hf b hb).1⟩⟩
 done:=by
  intro X bu hw hK hc i pins s σ H E I hf st hg;subst bu hw hK;obtain⟨hd,hi⟩:=hg;obtain⟨f0,f1,f2,f3,f4,uS⟩:=hf it (by simp);obtain⟨⟨aaI,qK,hx,qL⟩,_,_⟩:=(show ObjOk X.prog X.w H s.heap d (mK d p)from I.hok d _ hd)
  exact next_key_end (I.ok.hd hc) st qK RF (by simp) hi λh' eb=>⟨rfl,I.turned (t':=s.toks) (λb ob hb e=>eb b ob hb e) f0 f1 f3 f4 uS⟩
 self:=λA i s Q E st h=>wpAny_pyIter_keyiter st h
end
section
variable{X:Cx}{tg e:Expr}
theorem aaJ{sC:TE}(he:PE X e sC):PI X tg e λσ H R=>sC σ H λx H1=>∃d p bP,x=.ref d/\(d==sysModules)=false/\H1 d=some (mK d p)/\Vals bP (p.1.map (·.key))/\R (JQ d p bP) H1:=by
 refine⟨λpins s σ H R I h=>?_⟩;refine thn (he.run pins s σ H _ I h) λu s1 ⟨x,H1,I1,aC,d,p,bP,ex,hs,hd,bB,q⟩=>?_;subst ex;obtain rfl:u=Value.ref d:=aC;obtain⟨⟨dF,qK,hx,qL⟩,_,_⟩:=(show ObjOk X.prog X.w H1 s1.heap d (mK d p)from I1.hok d _ hd)
 exact iter_keys hs qK hx qL (pi_one (tk:=s1.toks) I1 _ (aaH _ qL bB) ⟨_,Heap.get?_push_size _ rfl,rfl,rfl⟩ q)
end
theorem aaK{a:Addr}{p:List DictEntry×Obj}(kvs:List (Key×V)):mK a p≠.dK kvs:=λe=>by
 unfold mK at e;cases e
theorem aaL{K:PySem.W.Frag}{mg:Str->Option Value}{ρ:List Addr}{H:Hp}{d:Addr}{p:List DictEntry×Obj}{bP:List V}{ks:List D}(n:d∉ρ)(h:H d=some (mK d p))(r:ay K mg ρ H ks bP)(hl:p.1.length=bP.length):xc K mg (JQ d p bP) ks (λ_=>True) ρ H:=by
 have st:∀aj H',Ext ρ H aj H'->H' d=some (mK d p):=λaj H' x=>x.kept n h λkvs=>aaK kvs;have hlen:p.1.length=ks.length:=by rw[hl,r.len]
 refine⟨λi aj H' ak hi x w g=>⟨st aj H' x,by omega⟩,λaj H' ak x w g=>⟨st aj H' x,by omega⟩,λi aj H' ak v aH hi x w g y=>?_⟩;obtain⟨rfl,e⟩:=y;obtain⟨d',cW,bM⟩:=(r.ext x).get' e;exact⟨d',cW,Ext.refl,w,bM⟩
def Ac(s:Str):List D:=s.cps.toList.map λc=>D.str ⟨#[c]⟩
def d9(S:Store):D->Option (List D)
 | .str s=>some (Ac s)
 |d=>c9 S d
section
variable{K:PySem.W.Frag}{mg:Str->Option Value}{ρ:List Addr}{H:Hp}{S:Store}
theorem JS:∀(l:List Nat),ay K mg ρ H (l.map λc=>D.str ⟨#[c]⟩) (l.map λc=>V.str ⟨#[c]⟩)
 |[]=>ay.nil
 |c::l=>ay.cons mP (JS l)
theorem JT{d:D}{v:V}{xs:List D}(w:aF K mg ρ H S)(r:Rep K mg ρ H d v)(h:d9 S d=some xs) :
  ∃c:Src,c.val=v/\∀aj H' ak kj,Ext ρ H aj H'->aF K mg aj H' ak->d9 ak d=some kj->∃vs,c.At K H' vs/\ay K mg aj H' kj vs:=by
 have lst:(∀ys,d≠.tup ys/\d≠.bS ys)->(∀s,d≠.str s)->c9 S d=some xs->∃c:Src,c.val=v/\∀aj H' ak kj,Ext ρ H aj H'->aF K mg aj H' ak->d9 ak d=some kj->∃vs,c.At K H' vs/\ay K mg aj H' kj vs:=λhn hs e=>by
  obtain⟨a,vs,au,_,_⟩:=uY w r e hn;refine⟨.L a,au.symm,λaj H' ak kj x cn cW=>?_⟩;have aaM:c9 ak d=some kj:=by
   cases d with
   |str s=>grind
   |_=>exact cW
  obtain⟨hU,dg,e2,h2,r2⟩:=uY cn (r.ext x) aaM hn;rw[au]at e2;cases e2;exact⟨dg,h2,r2⟩
 cases d with
 |str s =>
  refine⟨.S s,(eV r).symm,λaj H' ak kj x cn cW=>?_⟩;cases cW;exact⟨_,rfl,JS _⟩
 |tup ys =>
  cases h;have bM:=r;rw[Rep]at r;obtain⟨a,vs,au,t,r1⟩:=r;refine⟨.T a,au.symm,λaj H' ak kj x cn cW=>?_⟩;cases cW;have r2:=bM.ext x;rw[Rep]at r2;obtain⟨hU,dg,e2,t',bU⟩:=r2;rw[au]at e2;cases e2;exact⟨dg,t'.df,bU⟩
 |bS ys =>
  cases h;have bM:=r;rw[Rep]at r;obtain⟨a,vs,au,t,r1⟩:=r;refine⟨.T a,au.symm,λaj H' ak kj x cn cW=>?_⟩;cases cW;have r2:=bM.ext x;rw[Rep]at r2;obtain⟨hU,dg,e2,t',bU⟩:=r2;rw[au]at e2;cases e2;exact⟨dg,t'.df,bU⟩
 |lst ys=>exact lst (by simp) (by intros;nofun) h
 |cy ys=>exact lst (by simp) (by intros;nofun) h
 |ptr n=>exact lst (by simp) (by intros;nofun) h
 |_=>cases h
theorem Ei{c:Src}{d:D}{xs:List D}(hq:∀aj H' ak,Ext ρ H aj H'->aF K mg aj H' ak->d9 ak d=some xs->∃vs,c.At K H' vs/\ay K mg aj H' xs vs){J:It}
  (Ad:J=match c with
   | .L a=>Itl K a
   | .T a=>Itt K a
   | .S x=>Its x):xc K mg J xs (λak=>d9 ak d=some xs) ρ H:=by
 subst Ad;cases c with
 |L a =>
  refine⟨λi aj H' ak hi x w g=>?_,λaj H' ak x w g=>?_,λi aj H' ak v aH hi x w g y=>?_⟩
  .obtain⟨vs,h1,r1⟩:=hq aj H' ak x w g
   exact⟨vs,vs[i]'(by rw[<-r1.len];exact hi),h1,by simp⟩
  .obtain⟨vs,h1,r1⟩:=hq aj H' ak x w g
   exact⟨vs,h1,by rw[r1.len];simp⟩
  .obtain⟨vs,h1,r1⟩:=hq aj H' ak x w g
   obtain⟨rfl,y⟩:=y;obtain⟨d',e,r⟩:=r1.get' (y vs h1);exact⟨d',e,Ext.refl,w,r⟩
 |T a =>
  refine⟨λi aj H' ak hi x w g=>?_,λaj H' ak x w g=>?_,λi aj H' ak v aH hi x w g y=>?_⟩
  .obtain⟨vs,h1,r1⟩:=hq aj H' ak x w g
   exact⟨vs,vs[i]'(by rw[<-r1.len];exact hi),h1,by simp⟩
  .obtain⟨vs,h1,r1⟩:=hq aj H' ak x w g
   exact⟨vs,h1,by rw[r1.len];simp⟩
  .obtain⟨vs,h1,r1⟩:=hq aj H' ak x w g
   obtain⟨rfl,y⟩:=y;obtain⟨d',e,r⟩:=r1.get' (y vs h1);exact⟨d',e,Ext.refl,w,r⟩
 |S s =>
  refine⟨λi aj H' ak hi x w g=>?_,λaj H' ak x w g=>?_,λi aj H' ak v aH hi x w g y=>?_⟩
  .obtain⟨vs,h1,r1⟩:=hq aj H' ak x w g
   have h1:vs=s.cps.toList.map λc=>V.str ⟨#[c]⟩:=h1;have:=r1.len;rw[h1,List.length_map]at this;show i<s.cps.size;grind
  .obtain⟨vs,h1,r1⟩:=hq aj H' ak x w g
   have h1:vs=s.cps.toList.map λc=>V.str ⟨#[c]⟩:=h1;have:=r1.len;rw[h1,List.length_map]at this;show s.cps.size<=xs.length;grind
  .obtain⟨vs,h1,r1⟩:=hq aj H' ak x w g
   have h1:vs=s.cps.toList.map λc=>V.str ⟨#[c]⟩:=h1;obtain⟨rfl,c,fY,ev⟩:=y;obtain⟨d',e,r⟩:=r1.get' (i:=i) (v:=v) (by grind);exact⟨d',e,Ext.refl,w,r⟩
end
section
variable{X:Cx}{W:WX}{tg e e2:Expr}{f:aM}{fa:cO}{p pos mR:Pos}{elts:List Expr}{kk:Nat}
def u0:D->Store->Out (List D×(Store->Prop)):=λd S1=>match d with
 | .dct ks vs=>.ok (ks,λ_=>True) S1
 | .dX _ ks _=>.ok (ks,λ_=>True) S1
 |d=>(match d9 S1 d with
  |some xs=>.ok (xs,λS2=>d9 S2 d=some xs) S1
  |none=>.bad)
def ho(f:aM):gQ:=λsl S=>(f sl S).bind u0
theorem qM{K:PySem.W.Frag}{mg:Str->Option Value}{ρ:List Addr}{H:Hp}{S:Store}{Wp:Value->Option Addr->Hp->Prop}{R:It->Hp->Prop}{xs:List D}{G:Store->Prop}{J:It}(h:fU K mg Wp ρ H R (.ok (xs,G) S))(w:aF K mg ρ H S)(i:xc K mg J xs G ρ H):R J H:=h ρ H J Ext.refl w i
theorem fU.from{K:PySem.W.Frag}{mg:Str->Option Value}{ρ aj:List Addr}{H H':Hp}{Wp:Value->Option Addr->Hp->Prop}{R:It->Hp->Prop}{o:Out (List D×(Store->Prop))}(x:Ext ρ H aj H')(h:fU K mg Wp ρ H R o):fU K mg Wp aj H' R o:=by
 cases o with
 |ok p S=>exact λaP aH J y w i=>h aP aH J (x.trans y) w i
 |ex e S=>exact λC dd aP aH y w r=>h C dd aP aH (x.trans y) w r
 |bad=>exact h
theorem fU.e3{K:PySem.W.Frag}{mg:Str->Option Value}{ρ:List Addr}{H:Hp}{Wp:Value->Option Addr->Hp->Prop}{R:It->Hp->Prop}{o:Out D}{k:D->Store->Out (List D×(Store->Prop))}(h:fU K mg Wp ρ H R (o.bind k)) :
  aS K mg Wp ρ H (λv H1=>∃aB S1 d,Ext ρ H aB H1/\aF K mg aB H1 S1/\Rep K mg aB H1 d v/\o=.ok d S1/\fU K mg Wp aB H1 R (k d S1)) o:=by
 cases o with
 |ok d S=>exact λv aP aH y w r=>⟨aP,S,d,y,w,r,rfl,fU.from y h⟩
 |ex e S=>exact h
 |bad=>exact h
theorem fU.qt{K:PySem.W.Frag}{mg:Str->Option Value}{ρ:List Addr}{H:Hp}{Wp:Value->Option Addr->Hp->Prop}{R:It->Hp->Prop}{o:Out (List D)}{k:List D->Store->Out (List D×(Store->Prop))}(h:fU K mg Wp ρ H R (o.bind k)) :
  eu K mg Wp ρ H (λv H1=>∃aB S1 d,Ext ρ H aB H1/\aF K mg aB H1 S1/\ay K mg aB H1 d v/\fU K mg Wp aB H1 R (k d S1)) o:=by
 cases o with
 |ok d S=>exact λv aP aH y w r=>⟨aP,S,d,y,w,r,fU.from y h⟩
 |ex e S=>exact h
 |bad=>exact h
theorem Ext.lock{ρ:List Addr}{H:Hp}{d:Addr}{o:Obj}{kvs:List (Key×V)}(n:d∉ρ)(h:H d=some (.dK kvs)):Ext ρ H ρ (upd H d (.frz o (.dK kvs))):=by
 refine⟨⟨[],by simp⟩,λa h n=>absurd h n,λa u jK h'=>?_⟩;by_cases q:a=d
 .subst q
  rw[h]at h';cases h';exact .inr ⟨⟨kvs,rfl⟩,o,upd_same⟩
 .exact .inl (by rw[upd_ne q];exact h')
theorem aF.lock{K:PySem.W.Frag}{mg:Str->Option Value}{ρ:List Addr}{H:Hp}{S:Store}{d:Addr}{o:Obj}{kvs:List (Key×V)}(w:aF K mg ρ H S)(n:d∉ρ)(h:H d=some (.dK kvs)):aF K mg ρ (upd H d (.frz o (.dK kvs))) S:=by
 have ne:∀a∈ρ,a≠d:=λa ha q=>n (q▸ha);refine⟨w.len,w.nd,λa ha=>by rw[upd_ne (ne a ha)];exact w.tr a ha,λjK a m au e2=>?_⟩;have ha:a∈ρ:=nT au;exact i3.ext (Ext.lock n h) (upd_ne (ne a ha)) (w.ob jK a m au e2)
theorem RG{K:PySem.W.Frag}{mg:Str->Option Value}{ρ:List Addr}{H:Hp}{d:Addr}{o:Obj}{kvs:List (Key×V)}(n:d∉ρ)(h:H d=some (.frz o (.dK kvs))):xc K mg (Itk d o kvs) (kvs.map λp=>kD p.1) (λ_=>True) ρ H:=by
 have st:∀aj H',Ext ρ H aj H'->H' d=some (.frz o (.dK kvs)):=λaj H' x=>x.kept n h (by intros;nofun);refine⟨λi aj H' ak hi x w g=>⟨st aj H' x,by grind⟩,λaj H' ak x w g=>⟨st aj H' x,by simp⟩,λi aj H' ak v aH hi x w g y=>?_⟩;obtain⟨rfl,k,u,e,ev⟩:=y;refine⟨kD k,by grind,Ext.refl,w,?_⟩;rw[ev];exact Ry k
theorem u3(he:E X W e f):uH X W tg e (ho f):=by
 refine PI.imp (Eh (Eh (pi_list (tg:=tg) he) (pi_tup he)) (Eh (pi_str he) (Eh (aaG he) (aaJ he)))) λσ H R ⟨ρ,S,sl,w,rs,p⟩=>?_;have p':=fU.e3 p;cases q:f sl S with
 |bad=>rw[q]at p';exact p'.elim
 |ex e S1=>exact .inl (.inl ⟨ρ,S,sl,w,rs,by rw[q]at p' ⊢;exact p'⟩)
 |ok d S1 =>
  have key:∀(g:V->Hp->Prop),(∀v aB H1,aF X.K X.mg aB H1 S1->Rep X.K X.mg aB H1 d v->fU X.K X.mg (λC d H'=>W C d σ H') aB H1 R (u0 d S1)->g v H1)->fx X.K X.mg W f σ H g:=λg hg=>⟨ρ,S,sl,w,rs,aS.mono p' λv H1 ⟨aB,anO,d',x1,aE,r1,eq,p1⟩=>by
    grind⟩
  have none_:d9 S1 d=none->((∀ks vs,d≠.dct ks vs)/\∀w ks vs,d≠.dX w ks vs)->∀(v:V) aB H1,fU X.K X.mg (λC d H'=>W C d σ H') aB H1 R (u0 d S1)->False:=λex hn v aB H1 p1=>by
   cases d with
   |dct ks vs=>grind
   |dX w ks vs=>grind
   |_=>simp only[u0,ex]at p1;exact p1
  have lst:((∀ks vs,d≠.dct ks vs)/\∀w ks vs,d≠.dX w ks vs)->(∀ys,d≠.tup ys/\d≠.bS ys)->(∀s,d≠.str s)->iList X.K (fx X.K X.mg W f) σ H R:=λh1 h2 aI=>by
   refine key _ λv aB H1 aE r1 p1=>?_;cases ex:d9 S1 d with
   |none=>exact(none_ ex h1 v aB H1 p1).elim
   |some xs =>
    have mV:c9 S1 d=some xs:=by
     cases d with
     |str s=>grind
     |_=>exact ex
    obtain⟨a,vs,au,g1,_⟩:=uY aE r1 mV h2;have p2:fU X.K X.mg (λC d H'=>W C d σ H') aB H1 R (.ok (xs,λS2=>d9 S2 d=some xs) S1):=by
     cases d with
     |dct ks vs=>grind
     |dX w ks vs=>grind
     |_=>simp only[u0,ex]at p1;exact p1
    refine⟨a,au,⟨vs,g1⟩,qM p2 aE (Ei (c:=.L a) (λaj H' ak sr cn fS=>?_) rfl)⟩;have aaN:c9 ak d=some xs:=by
     cases d with
     |str s=>grind
     |_=>exact fS
    obtain⟨hU,dg,e2,bz,r2⟩:=uY cn (r1.ext sr) aaN h2;rw[au]at e2;cases e2;exact⟨dg,bz,r2⟩
  cases d with
  |dct ks vs =>
   refine .inr (.inr (.inl (key _ λv aB H1 aE r1 p1=>?_)));have Ej:=r1;rw[Rep]at r1;obtain⟨a,bP,dg,au,⟨n,kvs,t,hj,ej⟩,r2,bU⟩:=r1;subst hj ej;have ek:=z7 r2;refine⟨a,kvs,au,?_⟩;have p1:fU X.K X.mg (λC d H'=>W C d σ H') aB H1 R (.ok (ks,λ_=>True) S1):=p1;rcases t with t|⟨o,t⟩
   .refine .inl ⟨t,λo=>?_⟩
    refine fU.from (Ext.lock n t) p1 aB _ _ Ext.refl (aE.lock n t) ?_;rw[ek];exact RG n upd_same
   .refine .inr ⟨o,t,qM p1 aE ?_⟩
    rw[ek];exact RG n t
  |dX cn ks vs =>
   refine .inr (.inr (.inr (key _ λv aB H1 aE r1 p1=>?_)));have p1:fU X.K X.mg (λC d H'=>W C d σ H') aB H1 R (.ok (ks,λ_=>True) S1):=p1;rw[Rep]at r1;obtain⟨a,bP,dg,au,⟨n,hs,es,t,⟨ns,n1,n2,xC,_,RH,Ek,RJ,RK⟩⟩,r2,bU⟩:=r1;exact⟨a,es,bP,au,hs,t,Ek,qM p1 aE (aaL n t r2 (by have:=Ek.length;grind))⟩
  |str s =>
   refine .inr (.inl (key _ λv aB H1 aE r1 p1=>?_));refine⟨s,eV r1,?_⟩;exact qM (show fU X.K X.mg (λC d H'=>W C d σ H') aB H1 R (.ok (Ac s,λS2=>d9 S2 (.str s)=some (Ac s)) S1)from p1) aE (Ei (c:=.S s) (λaj H' ak sr cn fS=>⟨_,rfl,JS _⟩) rfl)
  |tup ys =>
   refine .inl (.inr (key _ λv aB H1 aE r1 p1=>?_));have Ej:=r1;rw[Rep]at r1;obtain⟨a,vs,au,t,r2⟩:=r1;refine⟨a,au,⟨vs,t.df⟩,?_⟩;refine qM (show fU X.K X.mg (λC d H'=>W C d σ H') aB H1 R (.ok (ys,λS2=>d9 S2 (.tup ys)=some ys) S1)from p1) aE (Ei (c:=.T a) (λaj H' ak sr cn fS=>?_) rfl);have bU:=Ej.ext sr;rw[Rep]at bU;obtain⟨hU,dg,e2,t',cI⟩:=bU;rw[au]at e2;cases e2;exact⟨dg,t'.df,cI⟩
  |bS ys =>
   refine .inl (.inr (key _ λv aB H1 aE r1 p1=>?_));have Ej:=r1;rw[Rep]at r1;obtain⟨a,vs,au,t,r2⟩:=r1;refine⟨a,au,⟨vs,t.df⟩,?_⟩;refine qM (show fU X.K X.mg (λC d H'=>W C d σ H') aB H1 R (.ok (ys,λS2=>d9 S2 (.bS ys)=some ys) S1)from p1) aE (Ei (c:=.T a) (λaj H' ak sr cn fS=>?_) rfl);have bU:=Ej.ext sr;rw[Rep]at bU;obtain⟨hU,dg,e2,t',cI⟩:=bU;rw[au]at e2;cases e2;exact⟨dg,t'.df,cI⟩
  |_=>simp_all
def jQ(lo:Int)(n:Nat):List D:=(List.range n).map fun(i:Nat)=>D.int (lo+i)
def mW(fa:cO):gQ:=λsl S=>(fa sl S).bind λds S1=>match ds with
 |[.int j]=>if -(2 ^ 62)<=j/\j<2 ^ 62 then .ok (jQ 0 j.toNat,λ_=>True) S1 else .bad
 |_=>.bad
theorem aaO{K:PySem.W.Frag}{mg:Str->Option Value}{ρ:List Addr}{H:Hp}(lo:Int)(n:Nat):xc K mg (Itr lo n) (jQ lo n) (λ_=>True) ρ H:=by
 refine⟨λi aj H' ak hi x w g=>by show i<n;simpa[jQ]using hi,λaj H' ak x w g=>by show n<=_;simp[jQ],λi aj H' ak v aH hi x w g y=>?_⟩;obtain⟨rfl,ev⟩:=y;have hi:i<n:=by simpa[jQ]using hi
 exact⟨.int (lo+i),by simp[jQ,hi],Ext.refl,w,by rw[ev];exact h9⟩
theorem xD(ha:gq X W [e] fa)(hg:Gl X "range")(hm:X.mg "range"=none)(hs:starEach [e] X.env=[(false,eval e X.env)]:=by rfl):uH X W tg (.Call (.Name "range" p) [e] [] pos) (mW fa):=by
 refine PI.imp (pi_range1 hg hm ha hs) λσ H R ⟨ρ,S,sl,w,rs,p⟩=>⟨ρ,S,sl,w,rs,eu.mono (fU.qt p) λvs H1 ⟨aB,S1,ds,x1,aE,r1,p1⟩=>?_⟩
 split at p1
 .rename_i j
  split at p1
  .rename_i cm
   obtain⟨v,au,r2⟩:=kh r1;rw[fX r2]at au;exact⟨j,au,cm.1,cm.2,qM p1 aE (aaO 0 _)⟩
  .exact p1.elim
 .exact p1.elim
def u5(xs ys:List D):List D:=List.zipWith (λx y=>.tup [x,y]) xs ys
def Ae(fa:cO):gQ:=λsl S=>(fa sl S).bind λds S1=>match ds with
 |[d,e]=>(match d9 S1 d,d9 S1 e with
  |some xs,some ys=>.ok (u5 xs ys,λS2=>d9 S2 d=some xs/\d9 S2 e=some ys) S1
  |_,_=>.bad)
 |_=>.bad
theorem aaP(ha:gq X W [e,e2] fa)(hg:Gl X "zip")(hm:X.mg "zip"=none)
  (hs:starEach [e,e2] X.env=(false,eval e X.env)::starEach [e2] X.env:=by rfl) (eQ:(backTo pos (starEach [e2] X.env)).any (·.1)=false:=by rfl):uH X W (.Tuple elts kk mR) (.Call (.Name "zip" p) [e,e2] [] pos) (Ae fa):=by
 refine PI.imp (aae hg hm ha hs eQ) λσ H R ⟨ρ,S,sl,w,rs,p⟩=>⟨ρ,S,sl,w,rs,eu.mono (fU.qt p) λvs H1 ⟨aB,S1,ds,x1,aE,r1,p1⟩=>?_⟩
 split at p1
 .rename_i d d'
  split at p1
  .rename_i xs ys ex dr
   obtain⟨v,u,au,r2,bU⟩:=ZV r1;obtain⟨c,fY,hc⟩:=JT aE r2 ex;obtain⟨bA,anP,u6⟩:=JT aE bU dr;obtain⟨us,h1,_⟩:=hc aB H1 S1 xs Ext.refl aE ex;obtain⟨aaQ,jt,_⟩:=u6 aB H1 S1 ys Ext.refl aE dr;refine⟨c,bA,us,aaQ,by grind,h1,jt,qM p1 aE ?_⟩;refine⟨λi aj H' ak hi x w g=>?_,λaj H' ak x w g=>?_,λi aj H' ak v aH hi x w g y=>?_⟩
   .obtain⟨vs,bw,t1⟩:=hc aj H' ak xs x w g.1
    obtain⟨dg,bz,lS⟩:=u6 aj H' ak ys x w g.2;simp only[u5,List.length_zipWith]at hi;have l1:=t1.len;have l2:=lS.len;exact⟨vs,dg,vs[i]'(by omega),dg[i]'(by omega),bw,bz,by simp,by simp⟩
   .obtain⟨vs,bw,t1⟩:=hc aj H' ak xs x w g.1
    obtain⟨dg,bz,lS⟩:=u6 aj H' ak ys x w g.2;have l1:=t1.len;have l2:=lS.len;refine⟨vs,dg,bw,bz,?_⟩;simp only[u5,List.length_zipWith];omega
   .obtain⟨vs,bw,t1⟩:=hc aj H' ak xs x w g.1
    obtain⟨dg,bz,lS⟩:=u6 aj H' ak ys x w g.2;obtain⟨T,a,b,ev,eG,rfl,y1,JU⟩:=y;obtain⟨k4,g1,c0⟩:=t1.get' (y1 vs bw);obtain⟨qN,g2,b6⟩:=lS.get' (JU dg bz);refine⟨.tup [k4,qN],by simp[u5,List.getElem?_zipWith,g1,g2],Ext.iD eG,w.iD eG,?_⟩;rw[Rep];exact⟨T,_,ev,.inl ⟨w.nin eG,upd_same⟩,ay.cons (c0.ext (Ext.iD eG)) (ay.cons (b6.ext (Ext.iD eG)) ay.nil)⟩
  .exact p1.elim
 .exact p1.elim
def oh:Nat->List D->List D
 |_,[]=>[]
 |i,x::xs=>.tup [.int i,x]::oh (i+1) xs
theorem JV:∀(i:Nat) (xs:List D),(oh i xs).length=xs.length
 |_,[]=>rfl
 |i,x::xs=>by rw[oh,List.length_cons,List.length_cons,JV]
theorem RL:∀(i:Nat) (xs:List D) (j:Nat),(oh i xs)[j]?=xs[j]?.map λx=>.tup [.int ((i+j:Nat):Int),x]
 |_,[],j=>by simp[oh]
 |i,x::xs,0=>by simp[oh]
 |i,x::xs,j+1=>by
  rw[oh,HI,HI,RL];grind
def qO(fa:cO):gQ:=λsl S=>(fa sl S).bind λds S1=>match ds with
 |[d]=>(match d9 S1 d with
  |some xs=>.ok (oh 0 xs,λS2=>d9 S2 d=some xs) S1
  |_=>.bad)
 |_=>.bad
theorem RM(ha:gq X W [e] fa)(hg:Gl X "enumerate")(hm:X.mg "enumerate"=none)(hs:starEach [e] X.env=[(false,eval e X.env)]:=by rfl):uH X W (.Tuple elts kk mR) (.Call (.Name "enumerate" p) [e] [] pos) (qO fa):=by
 refine PI.imp (aap hg hm ha hs) λσ H R ⟨ρ,S,sl,w,rs,p⟩=>⟨ρ,S,sl,w,rs,eu.mono (fU.qt p) λvs H1 ⟨aB,S1,ds,x1,aE,r1,p1⟩=>?_⟩
 split at p1
 .rename_i d
  split at p1
  .rename_i xs ex
   obtain⟨v,au,r2⟩:=kh r1;obtain⟨c,fY,hc⟩:=JT aE r2 ex;obtain⟨us,h1,_⟩:=hc aB H1 S1 xs Ext.refl aE ex;refine⟨c,us,by rw[au,fY],h1,qM p1 aE ?_⟩;refine⟨λi aj H' ak hi x w g=>?_,λaj H' ak x w g=>?_,λi aj H' ak v aH hi x w g y=>?_⟩
   .obtain⟨vs,bw,t1⟩:=hc aj H' ak xs x w g
    rw[JV]at hi;exact⟨vs,vs[i]'(by rw[<-t1.len];exact hi),bw,by simp⟩
   .obtain⟨vs,bw,t1⟩:=hc aj H' ak xs x w g
    exact⟨vs,bw,by rw[JV,t1.len]⟩
   .obtain⟨vs,bw,t1⟩:=hc aj H' ak xs x w g
    obtain⟨T,a,ev,eG,rfl,y1⟩:=y;obtain⟨k4,g1,c0⟩:=t1.get' (y1 vs bw);refine⟨.tup [.int ((0+i:Nat):Int),k4],by rw[RL,g1];rfl,Ext.iD eG,w.iD eG,?_⟩;rw[Rep];exact⟨T,_,ev,.inl ⟨w.nin eG,upd_same⟩,ay.cons (by rw[Nat.zero_add];exact h9) (ay.cons (c0.ext (Ext.iD eG)) ay.nil)⟩
  .exact p1.elim
 .exact p1.elim
end
def cE(sl:aL):List Nat->aL
 |[]=>sl
 |v::vs=>(cE sl vs).set v none
theorem RN(sl:aL):∀vs,(cE sl vs).length=sl.length
 |[]=>rfl
 |v::vs=>by rw[cE,List.length_set,RN]
theorem El{σ:L2.St}{i:Nat}{x:Option V}:∀{vs:List Nat},i∈vs->wipe (σ.set i x) vs=wipe σ vs
 |v::vs,h=>by
  rw[wipe,wipe];by_cases hi:i=v
  .subst hi
   by_cases bB:i∈vs
   .rw[El bB]
   .have:∀ws:List Nat,i∉ws->wipe (σ.set i x) ws=(wipe σ ws).set i x:=by
     intro ws
     induction ws with
     |nil=>intro _;rfl
     |cons w ws ih =>
      intro hn;rw[wipe,wipe,ih (λq=>hn (iZ _ q))];exact List.set_comm _ _ (λq=>hn (by grind))
    simp_all
  .rw[El (by grind)]
theorem Em{σ:L2.St}:∀{vs us:List Nat},(∀v∈us,v∈vs)->wipe (wipe σ us) vs=wipe σ vs
 |vs,[],_=>rfl
 |vs,u::us,h=>by
  rw[show wipe σ (u::us)=(wipe σ us).set u none from rfl,El (h u uf)];exact Em λv bB=>h v (iZ _ bB)
theorem cq.wipe{K:PySem.W.Frag}{mg:Str->Option Value}{ρ:List Addr}{H:Hp}{σ:L2.St}{sl:aL}(r:cq K mg ρ H σ sl):∀vs:List Nat,cq K mg ρ H (L2.wipe σ vs) (cE sl vs)
 |[]=>r
 |v::vs=>by
  have ih:=cq.wipe r vs;refine⟨by rw[wipe_length,RN];exact r.len,λj d e=>?_⟩;rw[cE]at e;rw[L2.wipe];by_cases cm:v=j
  .grind
  .rw[qd cm]at e ⊢
   exact ih.at_ j d e
def En(K:PySem.W.Frag)(mg:Str->Option Value)(W:WX)(vs:List Nat)(iK:L2.St)(g:dz):TG:=λv σ H Q=>∃ρ S sl d,aF K mg ρ H S/\cq K mg ρ H σ sl/\Rep K mg ρ H d v/\L2.wipe σ vs=iK/\bL K mg W ρ H ⟨λbD H'=>L2.wipe bD vs=iK->Q bD H',λ_ _=>False,λ_ _=>False,λ_ _=>False⟩ (g d sl S)
def aaR(K:PySem.W.Frag)(mg:Str->Option Value)(W:WX)(vs:List Nat)(iK:L2.St)(g:gy):TGs:=λv σ H Q=>∃ρ S sl d,aF K mg ρ H S/\cq K mg ρ H σ sl/\ay K mg ρ H d v/\L2.wipe σ vs=iK/\bL K mg W ρ H ⟨λbD H'=>L2.wipe bD vs=iK->Q bD H',λ_ _=>False,λ_ _=>False,λ_ _=>False⟩ (g d sl S)
def qP(X:Cx)(W:WX)(vs:List Nat)(tg:Expr)(g:dz):Prop:=∀iK,PG X tg (En X.K X.mg W vs iK g)
def Eo(X:Cx)(W:WX)(vs:List Nat)(tg:List Expr)(g:gy):Prop:=∀iK,PGs X tg (aaR X.K X.mg W vs iK g)
section
variable{X:Cx}{W:WX}{vs:List Nat}{pos:Pos}
theorem i_{i:Nat}{x:Str}(gv:X.N.Nodup)(hi:X.N[i]?=some x:=by rfl)(hx:Loc X.env.scope x:=by first|exact Or.inl rfl|exact Or.inr rfl)(hf:X.fn x=true\/X.env.scope.names.lookup x=some .local:=by first|exact .inl rfl|exact .inr rfl)(bB:i∈vs:=by decide):qP X W vs (.Name x pos) (aX i):=λiK =>
 PG.imp (pg_name gv hi hx hf) λv σ H Q ⟨ρ,S,sl,d,w,rs,aR,oi,p⟩=>p _ ρ H Ext.refl w (rs.set aR i) (by rw[El bB];exact oi)
theorem JW:Eo X W vs [] gA:=λiK=>PGs.imp pgs_nil λv σ H Q ⟨ρ,S,sl,ds,w,rs,aR,oi,p⟩=>by
 cases ds with
 |nil =>
  rw[ay]at aR;exact⟨aR,p _ ρ H Ext.refl w rs oi⟩
 |cons d r=>exact p.elim
theorem xE{t:Expr}{ts:List Expr}{g:dz}{gs:gy}(h:qP X W vs t g)(hr:Eo X W vs ts gs)(hs:(assignEach (t::ts) X.env).map (·.2)=assign t X.env::(assignEach ts X.env).map (·.2):=by rfl):Eo X W vs (t::ts) (cP g gs):=λiK =>
 PGs.imp (pgs_cons (h iK) (hr iK) hs) λv σ H Q ⟨ρ,S,sl,ds,w,rs,aR,oi,p⟩=>by
  cases ds with
  |nil=>exact p.elim
  |cons d r =>
   rw[ay]at aR;obtain⟨v1,IY,e,h1,h2⟩:=aR;subst e;refine⟨v1,IY,rfl,ρ,S,sl,d,w,rs,h1,oi,?_⟩;have p:bL X.K X.mg W ρ H ⟨λbD H'=>L2.wipe bD vs=iK->Q bD H',λ_ _=>False,λ_ _=>False,λ_ _=>False⟩ ((g d sl S).then (gs r)):=p;cases q:g d sl S with
   |nx a' S1 =>
    rw[q]at p;exact λiF aB H1 x1 aE r1 au=>⟨aB,S1,a',r,aE,r1,h2.ext x1,au,bL.from x1 p⟩
   |bk a' S1=>rw[q]at p;exact p
   |ct a' S1=>rw[q]at p;exact p
   |rt k4 S1=>rw[q]at p;exact p
   |ex au a' S1=>rw[q]at p;exact p
   |bad=>rw[q]at p;exact p
theorem JX{es:List Expr}{k:Nat}{gs:gy}{n:Nat}(hc:X.calm=true)(h:Eo X W vs es gs)(hl:∀ds sl S,gs ds sl S≠.bad->ds.length=n)(hn:(assignEach es X.env).length=n:=by rfl)(gR:(assignEach es X.env).findIdx? (·.1)=none:=by rfl):qP X W vs (.Tuple es k pos) (hP gs):=λiK =>
 PG.imp (pg_tup hc (h iK) hn gR) λv σ H Q ⟨ρ,S,sl,d,w,rs,aR,oi,p⟩=>by
  cases d with
  |tup ds =>
   rw[Rep]at aR;obtain⟨a,us,e,t,r⟩:=aR;have p:bL X.K X.mg W ρ H ⟨λbD H'=>L2.wipe bD vs=iK->Q bD H',λ_ _=>False,λ_ _=>False,λ_ _=>False⟩ (gs ds sl S):=p;exact⟨a,us,e,t.df,by rw[<-r.len];exact hl ds sl S (λq=>by rw[q]at p;exact p),ρ,S,sl,ds,w,rs,r,oi,p⟩
  |bS ds =>
   rw[Rep]at aR;obtain⟨a,us,e,t,r⟩:=aR;have p:bL X.K X.mg W ρ H ⟨λbD H'=>L2.wipe bD vs=iK->Q bD H',λ_ _=>False,λ_ _=>False,λ_ _=>False⟩ (gs ds sl S):=p;exact⟨a,us,e,t.df,by rw[<-r.len];exact hl ds sl S (λq=>by rw[q]at p;exact p),ρ,S,sl,ds,w,rs,r,oi,p⟩
  |_=>exact p.elim
def di:cz:=λ_ S=>.ok true S
def Af(X:Cx)(W:WX)(ifs:List Expr)(f:cz):Prop:=PTs X ifs (r9 X.K X.mg W f)
theorem PTs.imp{ifs:List Expr}{t t':TT}(h:PTs X ifs t)(k:∀σ H Q,t' σ H Q->t σ H Q):PTs X ifs t':=⟨λpins s σ H Q I q=>h.run pins s σ H Q I (k σ H Q q)⟩
theorem kn:Af X W [] di:=PTs.imp pts_nil λσ H Q ⟨ρ,S,sl,w,rs,p⟩=>p ρ H Ext.refl w
end
def WF:WX:=λ_ _ _ _=>False
def iL(G:Store->Prop)(g:dz)(bt:cz)(fe:aM)(n:Nat)(sl:aL):List D->Store->Out Unit
 |[],S=>open Classical in if G S then .ok () S else .bad
 |x::xs,S=>open Classical in if G S then(match g x sl S with
  | .nx a' S1=>(match bt a' S1 with
   | .ok true S2=>(match fe a' S2 with
    | .ok d aW=>(match aW[n]? with
     |some (.lst acc)=>if acc.length<1000000 then iL G g bt fe n sl xs (aW.set n (.lst (acc++[d])))else .bad
     |_=>.bad)
    |_=>.bad)
   | .ok false S2=>iL G g bt fe n sl xs S2
   |_=>.bad)
  |_=>.bad)else .bad
def cK(it:gQ)(g:dz)(bt:cz)(fe:aM)(own:List Nat):aM:=λsl S=>(it sl S).bind λp S1=>(iL p.2 g bt fe S1.length (cE sl own) p.1 (S1++[.lst []])).bind λ_ S2=>.ok (.ptr S1.length) S2
section
variable{X:Cx}{W:WX}{pos:Pos}
theorem aaS{it:gQ}{g:dz}{bt:cz}{fe:aM}{own:List Nat}{K:PySem.W.Frag}{mg:Str->Option Value}{σ:L2.St}{H:Hp}{Q:VK}(h:fx K mg W (cK it g bt fe own) σ H Q) :
  tLc (zT K mg W it) (En K mg WF own (L2.wipe σ own) g) (r9 K mg WF bt) (fx K mg WF fe) own σ H Q:=by
 obtain⟨ρ,S,sl,w,rs,p⟩:=h;refine⟨ρ,S,sl,w,rs,?_⟩;have p:aS K mg (λC d H'=>W C d σ H') ρ H Q ((it sl S).bind λp S1=>(iL p.2 g bt fe S1.length (cE sl own) p.1 (S1++[.lst []])).bind λ_ S2=>.ok (.ptr S1.length) S2):=p;cases q:it sl S with
 |bad=>rw[q]at p;exact p
 |ex e S1=>rw[q]at p;exact p
 |ok pr S1 =>
  rw[q]at p;obtain⟨xs,G⟩:=pr;intro aB H1 J x1 aE uI D bT;have p1:aS K mg (λC d H'=>W C d σ H') aB H1 Q ((iL G g bt fe S1.length (cE sl own) xs (S1++[.lst []])).bind λ_ S2=>.ok (.ptr S1.length) S2):=aS.from x1 p;have x2:Ext aB H1 (aB++[D]) (upd H1 D (.lst [])):=Ext.hand bT;have cD:aF K mg (aB++[D]) (upd H1 D (.lst [])) (S1++[.lst []]):=aE.hand bT ⟨[],upd_same,ay.nil⟩;have JM:cq K mg (aB++[D]) (upd H1 D (.lst [])) (L2.wipe σ own) (cE sl own):=((rs.ext x1).ext x2).wipe own;have Ag:(aB++[D])[S1.length]?=some D:=by rw[<-aE.len];simp
  refine⟨λi m H'=>i+m=xs.length/\∃aj ak,Ext (aB++[D]) (upd H1 D (.lst [])) aj H'/\aF K mg aj H' ak/\aS K mg (λC d H'=>W C d σ H') aj H' Q ((iL G g bt fe S1.length (cE sl own) (xs.drop i) ak).bind λ_ S2=>.ok (.ptr S1.length) S2),
   ⟨xs.length,by simp,aB++[D],_,Ext.refl,cD,aS.from x2 (by grind)⟩,?_⟩
  rintro i m dG ⟨hm,hO,aW,dc,g8,cu⟩;cases m with
  |zero =>
   have hi:i=xs.length:=by omega
   subst hi;rw[List.drop_length,iL]at cu;by_cases bp:G aW
   .rw[if_pos bp]at cu
    refine .inl ⟨uI.stop hO dG aW (x2.trans dc) g8 bp,?_⟩;exact cj (d:=.ptr S1.length) cu g8 (by rw[Rep];exact⟨D,rfl,dc.get Ag⟩)
   .rw[if_neg bp]at cu;exact cu.elim
  |succ m =>
   have c7:i<xs.length:=by omega
   have hd:xs.drop i=xs[i]::xs.drop (i+1):=(HG c7).symm;rw[hd,iL]at cu;by_cases bp:G aW
   .rw[if_pos bp]at cu
    refine .inr ⟨uI.go i hO dG aW c7 (x2.trans dc) g8 bp,λH'=>∃aj ak,Ext (aB++[D]) (upd H1 D (.lst [])) aj H'/\aF K mg aj H' ak/\aS K mg (λC d H'=>W C d σ H') aj H' Q ((iL G g bt fe S1.length (cE sl own) (xs.drop (i+1)) ak).bind λ_ S2=>.ok (.ptr S1.length) S2),λH' n=>⟨m,qe m,by omega,n⟩,?_⟩;intro v jv y;obtain⟨d,e,dP,qu,cI⟩:=uI.yld i hO dG aW v jv c7 (x2.trans dc) g8 bp y;have ed:d=xs[i]:=by rw[iz c7]at e;exact(Option.some.inj e).symm
    subst ed;refine⟨hO,aW,cE sl own,xs[i],qu,(JM.ext (dc.trans dP)),cI,Em (λ_ h=>h),?_⟩;cases bw:g xs[i] (cE sl own) aW with
    |nx o8 eg =>
     rw[bw]at cu;simp only at cu;intro uJ lM o9 fN lN hQ e5;refine⟨e5,lM,eg,o8,lN,hQ,?_⟩;have RO:=(dc.trans dP).trans fN;have d3:=aS.from (dP.trans fN) cu;cases bz:bt o8 eg with
     |bad=>rw[bz]at d3;exact d3.elim
     |ex e gE=>rw[bz]at d3;exact d3.elim
     |ok b gE =>
      rw[bz]at d3;intro k9 hu dw oj;have eW:=aS.from dw d3;cases b with
      |false =>
       rw[if_neg j8];exact⟨k9,gE,RO.trans dw,oj,eW⟩
      |true =>
       rw[if_pos rfl];refine⟨k9,gE,o8,oj,hQ.ext dw,?_⟩;simp only at eW;cases fD:fe o8 gE with
       |bad=>rw[fD]at eW;exact eW.elim
       |ex e ia=>rw[fD]at eW;exact eW.elim
       |ok aaT ia =>
        rw[fD]at eW;intro aaU e9 dH gi xF xG;have iM:=aS.from gi eW;simp only at iM;have RP:=(RO.trans dw).trans gi;have JY:=RP.get Ag;split at iM
        .rename_i acc ea
         split at iM
         .rename_i hl
          obtain⟨us,h1,ra⟩:=xF.ob S1.length D _ JY ea;refine⟨us,h1,by rw[<-ra.len];have:=h7 (n:=acc.length+1) (by omega);omega,?_⟩;have hx:Ext e9 dH e9 (upd dH D (.lst (us++[aaU]))):=Ext.putL JY;exact⟨e9,_,RP.trans hx,xF.put (m:=.lst (acc++[aaT])) JY ⟨_,upd_same,(ra.append (ay.cons xG ay.nil)).ext hx⟩,aS.from hx iM⟩
         .exact iM.elim
        .exact iM.elim
    |bk n3 b5=>rw[bw]at cu;exact cu.elim
    |ct n3 b5=>rw[bw]at cu;exact cu.elim
    |rt QO b5=>rw[bw]at cu;exact cu.elim
    |ex fV n3 b5=>rw[bw]at cu;exact cu.elim
    |bad=>rw[bw]at cu;exact cu.elim
   .rw[if_neg bp]at cu;exact cu.elim
variable{elt tg iter:Expr}{ifs:List Expr}{scope:Scope}{own:List (Str×Nat)}{it:gQ}{g:dz}{bt:cz}{fe:aM}
theorem aaV{Ep:TI}{g1 g2:TG}{tt:TT}{te:TE}{vs:List Nat}{σ:L2.St}{H:Hp}{Q:VK}(k:∀x H' ew,g1 x (L2.wipe σ vs) H' ew->g2 x (L2.wipe σ vs) H' ew)(kw:∀H R pw,(∀J H1,R J H1->pw J H1)->Ep σ H R->Ep σ H pw)(h:tLc Ep g1 tt te vs σ H Q):tLc Ep g2 tt te vs σ H Q:=by
 refine kw H _ _ (λJ H1 h D bT=>?_) h;obtain⟨W,h0,hs⟩:=h D bT;refine⟨W,h0,λi m H' hw=>?_⟩;rcases hs i m H' hw with h|⟨hg,aaW,h1,h2⟩
 .exact .inl h
 .exact .inr ⟨hg,aaW,h1,λx aH y=>k _ _ _ (h2 x aH y)⟩
def JZ(K:PySem.W.Frag)(mg:Str->Option Value)(W:WX)(vs:List Nat)(g:dz):TG:=λv σ H Q=>En K mg W vs (L2.wipe σ vs) g v σ H Q
theorem qP.all{X:Cx}{W:WX}{vs:List Nat}{tg:Expr}{g:dz}(h:qP X W vs tg g):PG X tg (JZ X.K X.mg W vs g):=⟨λpins s σ H v u Q I r q=>(h (L2.wipe σ vs)).run pins s σ H v u Q I r q⟩
theorem aaX{K:PySem.W.Frag}{mg:Str->Option Value}{it:gQ}{σ:L2.St}(H:Hp)(R pw:It->Hp->Prop)(k:∀J H1,R J H1->pw J H1)(h:zT K mg W it σ H R):zT K mg W it σ H pw:=by
 obtain⟨ρ,S,sl,w,rs,p⟩:=h;refine⟨ρ,S,sl,w,rs,?_⟩;cases q:it sl S with
 |bad=>rw[q]at p;exact p
 |ex e S1=>rw[q]at p;exact p
 |ok pr S1=>rw[q]at p;exact λaj H' J x w i=>k _ _ (p aj H' J x w i)
theorem RQ{K:PySem.W.Frag}{mg:Str->Option Value}{vs:List Nat}{σ:L2.St}{H:Hp}{Q:VK}(h:fx K mg W (cK it g bt fe vs) σ H Q):tLc (zT K mg W it) (JZ K mg WF vs g) (r9 K mg WF bt) (fx K mg WF fe) vs σ H Q:=by
 refine aaV (λx H' ew q=>?_) (λH R pw k h=>aaX H R pw k h) (aaS h);unfold JZ;rw[Em (λ_ h=>h)];exact q
theorem qQ(hc:X.calm=true)(gv:X.N.Nodup)(ok:BlkOk X.N X.env.scope scope own)(hi:uH X W tg iter it)
  (hg:∀(s:Shared) (H:Hp) (C:Addr) (cl:List (Str×Addr)) (fp:List Addr),qP (X.blk s H scope (compEnvC scope cl C X.env) fp) WF (own.map (·.2)) tg g) (ht:∀(s:Shared) (H:Hp) (C:Addr) (cl:List (Str×Addr)) (fp:List Addr),Af (X.blk s H scope (compEnvC scope cl C X.env) fp) WF ifs bt)
  (he:∀(s:Shared) (H:Hp) (C:Addr) (cl:List (Str×Addr)) (fp:List Addr),E (X.blk s H scope (compEnvC scope cl C X.env) fp) WF elt fe) (hs:∀x,foldedSetIterable iter X.env x=pure x:=by intro _;rfl) :
  E X W (.ListComp elt [⟨tg,iter,ifs,0⟩] scope pos) (cK it g bt fe (own.map (·.2))) :=
 PE.imp (pe_lc (tt:=r9 X.K X.mg WF bt) (te:=fx X.K X.mg WF fe) hc gv hi ok (λs H C cl fp=>(hg s H C cl fp).all) ht he hs) λσ H Q h=>RQ h
def c'(f:aM):aM:=λsl S=>fin S (f sl S)
theorem mX{e:Expr}{f:aM}(h:E X W e f):E X W e (c' f):=PE.imp h λσ H Q ⟨ρ,S,sl,w,rs,p⟩=>⟨ρ,S,sl,w,rs,I7 w p⟩
end
def Ah(K:PySem.W.Frag)(mg:Str->Option Value)(g:aD):Sp:=λvs H Q E=>∃ρ S ds,aF K mg ρ H S/\ay K mg ρ H ds vs/\aS K mg E ρ H Q (g ds S)
abbrev a5(P:Program)(w:World)(K:PySem.W.Frag)(mg:Str->Option Value)(base:Heap)(k:Nat)(f:Addr)(g:aD):Prop:=FnR P w K mg base (Z.CX P w) k f (Ah K mg g)
def Ai(N:Nat)(body:SX):aD:=λds S=>(body (ds.map some++List.replicate (N - ds.length) none) S).out
section
variable{P:Program}{w:World}{K:PySem.W.Frag}{mg:Str->Option Value}{base:Heap}
def cS(n:Nat)(g:aD):aD:=λds S=>if ds.length=n then g ds S else .bad
theorem mY{f:Addr}{fd:FuncData}{ps:List Str}{k n:Nat}{g:aD}(F:FnOk P w K mg base (Z.CX P w) k f fd ps (g' K mg n g))(hb:Binds K fd ps []):a5 P w K mg base k f (cS n g) :=
 (F.raw hb .nil).imp λvs H Q E ⟨ρ,S,ds,ei,r,p⟩=>by
  unfold cS at p;split at p
  .rename_i hl
   exact⟨ρ,S,ds,hl,ei,by grind,p⟩
  .exact p.elim
end
theorem om{X:Cx}:Takes X WF:=λu s' ⟨_,_,_,_,_,_,_,_,_,_,_,_,_,_,_,_,w⟩=>w.elim
section
variable{X:Cx}{W:WX}{k:Nat}{f C:Addr}{g:aD}{x m:Str}{p pos apos:Pos}{e o:Expr}{es:List Expr}{fa:cO}{fo fe:aM}
theorem Er{pins:List (Addr×Obj)}{σ:L2.St}{H:Hp}{s:Shared}{Q:VK}{us:List Value}{vs:List V}{sp:Sp}{E:XK}(F:FnR X.prog X.w X.K X.mg X.base (Z.CX X.prog X.w) k f sp)(hr:Room k X.A)(hx:PassesAt (Z.CX X.prog X.w) X σ E)(I:Inv X pins σ H s)(r:Vals vs us)(h:sp vs H Q E) :
  wpAny (model X.prog X.w) X.A (PySem.call (.ref f) us) (EP X pins σ Q) X.xe s:=by
 refine wpAny_call (codeAny_mono (F X.A X.stack s H us vs Q E hr I.env0 r h) λr s' hq=>?_);cases r with
 |error e=>exact hx pins H s e s' I hq
 |ok fl =>
  cases fl with
  |ret u=>exact I.after hq
  |next=>exact False.elim hq
  |brk=>exact False.elim hq
  |cont=>exact False.elim hq
theorem b3(tk:Takes X W)(F:a5 X.prog X.w X.K X.mg X.base k f g)(hr:Room k X.A)(hm:X.mg x=some (.ref f))(hk:PySem.W.keepIn X.K (.ref f)=true)
  (ha:gq X W (e::es) fa) (hg:Gl X x:=by rfl) (g9:(x==("__debug__":Str))=false:=by decide) (he:starEach (e::es) X.env=(false,eval e X.env)::starEach es X.env:=by rfl) (eQ:(backTo pos (starEach es X.env)).any (·.1)=false:=by rfl) :
  E X W (.Call (.Name x p) (e::es) [] pos) (aw g fa):=by
 refine⟨λpins s σ H Q I h=>?_⟩;refine wpAny_Call_Name_kw (ld_glob I hg hm ?_ g9);have h':=sd (k:=λvs H1=>Ah X.K X.mg g vs H1 Q (WE W σ)) h λρ S H1 ds vs w r p=>⟨ρ,S,ds,w,r,p⟩
 refine rW (h₀:=X.base) I.ok.mod.kin hk (thn (ha.run pos pins s σ H _ I h') λus s1 ⟨vs,H1,I1,r,q⟩=>⟨I1.kIn,?_⟩) he eQ;exact Er F hr (si tk σ) I1 r q
def hv(tab:List (Str×aD))(c:Str):Option aD:=tab.lookup c
def cL(m:Str)(tab:List (Str×aD))(fo:aM)(fa:cO):aM:=λsl S=>(fo sl S).bind λd S1=>match f' S1 d with
 |some (c,ns,_)=>if m∈ns then .bad else(match hv tab c with
  |some g=>(fa sl S1).bind λds S2=>g (d::ds) S2
  |none=>.bad)
 |none=>.bad
structure Aj(X:Cx)(m:Str)(tab:List (Str×aD)):Prop where
 at_:∀c g,hv tab c=some g->∀C,X.mg c=some (.ref C)->∃(f:Addr) (k:Nat),Cls X.K C/\Meth X.K C m f/\a5 X.prog X.w X.K X.mg X.base k f g/\Room k X.A
theorem iN:Aj X m []:=⟨λc g h=>by cases h⟩
theorem iO{c:Str}{C:Addr}{tab:List (Str×aD)}(hm:X.mg c=some (.ref C))(hc:Cls X.K C)(ko:Meth X.K C m f)(F:a5 X.prog X.w X.K X.mg X.base k f g)(hr:Room k X.A)(h:Aj X m tab):Aj X m ((c,g)::tab):=⟨λbA fS h' dB gF=>by
 unfold hv at h';rw[List.lookup_cons]at h';cases q:bA==c with
 |true =>
  grind
 |false =>
  rw[q]at h';exact h.at_ bA fS h' dB gF⟩
theorem jA{pl:Sem Bool}{tab:List (Str×aD)}(tk:Takes X W)(ht:Aj X m tab)(aQ:E X W o fo)(ha:gq X W (e::es) fa)
  (gR:starEach (e::es) X.env=(false,eval e X.env)::starEach es X.env:=by rfl) (eQ:(backTo pos (starEach es X.env)).any (·.1)=false:=by rfl)
  (k_:eval (.Call (.Attribute o m apos) (e::es) [] pos) X.env=(do
   let fC <-eval o X.env
   standAt apos.atName
   let (f,first) <-holding [fC] (getMethod fC m pl)
   callWith pos f first (backTo pos (starEach (e::es) X.env)) (backToKw pos (keywordEach [] X.env))):=by rfl) :
  E X W (.Call (.Attribute o m apos) (e::es) [] pos) (cL m tab fo fa):=by
 refine⟨λpins s σ H Q I h=>?_⟩;obtain⟨ρ,S,sl,w,rs,p⟩:=h;refine HJ (pl:=pl) (thn (aQ.run pins s σ H _ I ⟨ρ,S,sl,w,rs,aS.e3 p⟩) λu s1 ⟨x,H1,I1,aC,aB,S1,d,x1,aE,r1,_,p1⟩=>?_) k_;split at p1
 .rename_i c ns vs u9
  split at p1
  .exact p1.elim
  .rename_i qR
   split at p1
   .rename_i g oo
    obtain⟨a,C,bx,fs,ex,hm,ea,hn,cB⟩:=o_ aE r1 u9;obtain⟨f,k,hc,ko,F,hr⟩:=ht.at_ c g oo C hm;subst ex;obtain rfl:u=Value.ref a:=aC;refine getmeth_ok I1 ea hc ko (I_ hn qR) ?_;refine rW (first:=[.ref a]) (h₀:=X.base) I.ok.mod.kin ko.kp (thn (ha.run pos pins s1 σ H1 _ I1 ⟨aB,S1,sl,aE,rs.ext x1,eu.e3 p1⟩) λus s2 ⟨vs,aH,I2,r,aP,S2,ds,x2,cD,r2,_,p2⟩=>⟨I2.kIn,?_⟩) gR eQ;exact Er (us:=.ref a::us) (vs:=.ref a::vs) F hr (si tk σ) I2 (.cons rfl r) ⟨aP,S2,d::ds,cD,ay.cons (r1.ext x2) r2,p2⟩
   .exact p1.elim
 .exact p1.elim
theorem RR{pl:Sem Bool}{tab:List (Str×aD)}(tk:Takes X W)(ht:Aj X m tab)(aQ:E X W o fo)
  (k_:eval (.Call (.Attribute o m apos) [] [] pos) X.env=(do
   let fC <-eval o X.env
   standAt apos.atName
   let (f,first) <-holding [fC] (getMethod fC m pl)
   callWith pos f first (backTo pos (starEach [] X.env)) (backToKw pos (keywordEach [] X.env))):=by rfl) :
  E X W (.Call (.Attribute o m apos) [] [] pos) (cL m tab fo ai):=by
 refine⟨λpins s σ H Q I h=>?_⟩;obtain⟨ρ,S,sl,w,rs,p⟩:=h;refine HJ (pl:=pl) (thn (aQ.run pins s σ H _ I ⟨ρ,S,sl,w,rs,aS.e3 p⟩) λu s1 ⟨x,H1,I1,aC,aB,S1,d,x1,aE,r1,_,p1⟩=>?_) k_;split at p1
 .rename_i c ns vs u9
  split at p1
  .exact p1.elim
  .rename_i qR
   split at p1
   .rename_i g oo
    obtain⟨a,C,bx,fs,ex,hm,ea,hn,cB⟩:=o_ aE r1 u9;obtain⟨f,k,hc,ko,F,hr⟩:=ht.at_ c g oo C hm;subst ex;obtain rfl:u=Value.ref a:=aC;refine getmeth_ok I1 ea hc ko (I_ hn qR) ?_;exact PySem.W.callWith_K0 (first:=[.ref a]) I1.kIn ko.kp (Er (us:=[.ref a]) (vs:=[.ref a]) F hr (si tk σ) I1 (.cons rfl .nil) ⟨aB,S1,[d],aE,ay.cons r1 ay.nil,p1⟩)
   .exact p1.elim
 .exact p1.elim
def mZ(c:Str)(g:aD):aD:=λds S1=>(g (.ptr S1.length::ds) (S1++[.ins c [] []])).bind λd S2=>match d with
 | .non=>.ok (.ptr S1.length) S2
 |_=>.bad
theorem aaY{c:Str}{pins:List (Addr×Obj)}{σ:L2.St}{ρ:List Addr}{H:Hp}{S:Store}{ds:List D}{s:Shared}{Q:VK}{us:List Value}{vs:List V}{E:XK}(M:Mk X.K C f)(aaZ:X.mg c=some (.ref C))(F:a5 X.prog X.w X.K X.mg X.base k f g)(hr:Room (k+1) X.A)(hx:PassesAt (Z.CX X.prog X.w) X σ E)(I:Inv X pins σ H s)(r:Vals vs us)
  (ei:aF X.K X.mg ρ H S) (cB:ay X.K X.mg ρ H ds vs) (p:aS X.K X.mg E ρ H Q (mZ c g ds S)) :
  wpAny (model X.prog X.w) X.A (PySem.call (.ref C) us) (EP X pins σ Q) X.xe s:=by
 have uZ:H (s.heap.objs.size+1)=none:=I.hok.fresh (Nat.le_succ _);have Es:H s.heap.objs.size=none:=I.hok.fresh (Nat.le_refl _);have dA:s.heap.objs.size≠s.heap.objs.size+1:=hZ (qe _);have I2:=Inv.made (C:=C) I;have og:(upd H s.heap.objs.size (.own (s.heap.objs.size+1))) (s.heap.objs.size+1)=none:=by rw[upd_ne dA.symm];exact uZ
 have x1:Ext ρ H ρ (upd H s.heap.objs.size (.own (s.heap.objs.size+1))):=Ext.iD Es;have aE:aF X.K X.mg ρ (upd H s.heap.objs.size (.own (s.heap.objs.size+1))) S:=ei.iD Es;have x2:=x1.trans (Ext.hand (o:=.ins C s.heap.objs.size []) og);have cD:aF X.K X.mg (ρ++[s.heap.objs.size+1]) (upd (upd H s.heap.objs.size (.own (s.heap.objs.size+1))) (s.heap.objs.size+1) (.ins C s.heap.objs.size [])) (S++[.ins c [] []]):=aE.hand og ⟨C,s.heap.objs.size,[],aaZ,upd_same,rfl,ay.nil⟩;have rp:Rep X.K X.mg (ρ++[s.heap.objs.size+1]) (upd (upd H s.heap.objs.size (.own (s.heap.objs.size+1))) (s.heap.objs.size+1) (.ins C s.heap.objs.size [])) (.ptr S.length) (.ref (s.heap.objs.size+1)):=by
  rw[Rep];exact⟨_,rfl,by rw[<-ei.len];simp⟩
 have hq:Ah X.K X.mg g (.ref (s.heap.objs.size+1)::vs) (upd (upd H s.heap.objs.size (.own (s.heap.objs.size+1))) (s.heap.objs.size+1) (.ins C s.heap.objs.size [])) (λv aH=>v=.non/\Q (.ref (s.heap.objs.size+1)) aH) E:=by
  refine⟨_,_,.ptr S.length::ds,cD,ay.cons rp (cB.ext x2),?_⟩;have p':=aS.e3 (aS.from x2 p);refine aS.mono p' λv dG ⟨hO,aW,d,dc,g8,bU,_,cu⟩=>?_;cases d with
  |non=>exact⟨n7 bU,cj cu g8 (rp.ext dc)⟩
  |_=>exact cu.elim
 refine wpAny_call (make_map (f:=f) I.kIn M.makes M.init (beq_iff_eq.mp M.fn) (codeAny_mono (F _ X.stack _ _ (Value.ref (s.heap.objs.size+1)::us) _ _ E (hr.make C us []) (I2.env0.make C us []) (show Vals (V.ref (s.heap.objs.size+1)::vs) (Value.ref (s.heap.objs.size+1)::us)from .cons rfl r) hq) λr s' Ak=>?_));cases r with
 |error e=>exact hx pins _ _ e s' I2 Ak
 |ok fl =>
  cases fl with
  |ret u =>
   obtain⟨v,H',lT,aR,ev,fD⟩:=I2.after Ak;subst ev;exact⟨aR,⟨V.ref (s.heap.objs.size+1),H',lT,rfl,fD⟩⟩
  |next=>exact False.elim Ak
  |brk=>exact False.elim Ak
  |cont=>exact False.elim Ak
theorem J0(tk:Takes X W)(M:Mk X.K C f)(F:a5 X.prog X.w X.K X.mg X.base k f g)(hr:Room (k+1) X.A)(hm:X.mg x=some (.ref C))(ha:gq X W (e::es) fa)(hg:Gl X x:=by rfl)
  (g9:(x==("__debug__":Str))=false:=by decide) (he:starEach (e::es) X.env=(false,eval e X.env)::starEach es X.env:=by rfl) (eQ:(backTo pos (starEach es X.env)).any (·.1)=false:=by rfl) :
  E X W (.Call (.Name x p) (e::es) [] pos) (aw (mZ x g) fa):=by
 refine⟨λpins s σ H Q I h=>?_⟩;refine wpAny_Call_Name_kw (ld_glob I hg hm ?_ g9);have h':=sd (k:=λvs H1=>∃ρ S ds,aF X.K X.mg ρ H1 S/\ay X.K X.mg ρ H1 ds vs/\aS X.K X.mg (WE W σ) ρ H1 Q (mZ x g ds S)) h λρ S H1 ds vs w r p=>⟨ρ,S,ds,w,r,p⟩
 refine rW (h₀:=X.base) I.ok.mod.kin M.kp (thn (ha.run pos pins s σ H _ I h') λus s1 ⟨vs,H1,I1,r,aB,S1,ds,aE,cB,q⟩=>⟨I1.kIn,?_⟩) he eQ;exact aaY M hm F hr (si tk σ) I1 r aE cB q
def i'(f:Str)(d:D):List Str->List D->List Str×List D
 |n::ns,v::vs=>if n=f then(n::ns,d::vs)else(n::(i' f d ns vs).1,v::(i' f d ns vs).2)
 |_,_=>([f],[d])
theorem J1{K:PySem.W.Frag}{mg:Str->Option Value}{ρ:List Addr}{H:Hp}{f:Str}{d:D}{v:V}(h:Rep K mg ρ H d v):∀{fs:List (Str×V)} {ns:List Str} {ds:List D},fs.map (·.1)=ns->ay K mg ρ H ds (fs.map (·.2)) ->
  (putF f v fs).map (·.1)=(i' f d ns ds).1/\ay K mg ρ H (i' f d ns ds).2 ((putF f v fs).map (·.2))
 |[],_,ds,e,r=>by
  simp only[qf]at e r;subst e;exact⟨by rfl,by cases ds<;>exact ay.cons h ay.nil⟩
 |(n,u)::fs,_,[],e,r=>by simp only[c1]at r;rw[ay]at r;cases r
 |(n,u)::fs,_,d'::ds,e,r=>by
  simp only[c1]at e r;subst e;rw[ay]at r;obtain⟨uy,bM,cW,h1,h2⟩:=r;injection cW with au e2
  subst au e2;unfold putF i';by_cases q:n=f
  .rw[if_pos q,if_pos q]
   exact⟨rfl,ay.cons h h2⟩
  .rw[if_neg q,if_neg q]
   obtain⟨i1,i2⟩:=J1 h (ns:=fs.map (·.1)) rfl h2;exact⟨by grind,ay.cons h1 i2⟩
def oq(cs:List Str)(f:Str)(o v:D)(S:Store):Option Store:=match o with
 | .ptr n=>(match S[n]? with
  |some (.ins c ns vs)=>if c∈cs/\ns.length<1000 then some (S.set n (.ins c (i' f v ns vs).1 (i' f v ns vs).2))else none
  |_=>none)
 |_=>none
def ot(cs:List Str)(f:Str)(fv fo:aM):SX:=λsl S=>(fv sl S).toS sl λv S1=>(fo sl S1).toS sl λo S2=>match oq cs f o v S2 with
 |some aW=>.nx sl aW
 |none=>.bad
theorem Et{cs:List Str}{fl:Str}{pos':Pos}(hc:∀c∈cs,∀C,X.mg c=some (.ref C)->Cls X.K C/\NoAttr X.K C fl)(aQ:E X W o fo)(bB:E X W e fe)(hs:swapsWith e (some (.Attribute o fl pos')) pos.line X.env=pure false:=by rfl) :
  ES X W (.Assign [.Attribute o fl pos'] e pos) (ot cs fl fe fo):=by
 refine PS.imp (ps_fld aQ bB hs) λD σ H ⟨ρ,S,sl,w,rs,p⟩=>?_;refine⟨ρ,S,sl,w,rs,aS.mono (bL.Ab rs p) λy H1 ⟨aB,S1,v,x1,aE,px,r1,p1⟩=>?_⟩;refine⟨aB,S1,sl,aE,px,aS.mono (bL.Ab px p1) λx aH ⟨aP,S2,e6,x2,cD,Ee,r2,p2⟩=>?_⟩;unfold oq at p2;split at p2
 .rename_i aW bj
  split at bj
  .rename_i n
   split at bj
   .rename_i c ns vs en
    split at bj
    .rename_i ja
     cases bj;rw[Rep]at r2;obtain⟨a,ea,q⟩:=r2;obtain⟨C,bx,fs,hm,h1,hn,cB⟩:=cD.ob n a _ q en;obtain⟨c0,b6⟩:=hc c ja.1 C hm;have xp:Ext aP aH aP (upd aH a (.ins C bx (putF fl y fs))):=Ext.putL q;obtain⟨hj,ej⟩:=J1 (f:=fl) (r1.ext x2) hn cB;refine⟨a,C,bx,fs,ea,h1,c0,b6,by grind,?_⟩;exact p2 _ aP _ xp (cD.put (m:=.ins c (i' fl v ns vs).1 (i' fl v ns vs).2) q ⟨C,bx,_,hm,upd_same,hj,ej.ext xp⟩) (Ee.ext xp)
    .cases bj
   .cases bj
  .cases bj
 .exact p2.elim
inductive sE where
 |fld
 |prop (g:aD)
 |con (d:D)
def c4(f:Str)(tab:List (Str×sE))(fo:aM):aM:=λsl S=>(fo sl S).bind λd S1=>match f' S1 d with
 |some (c,ns,vs)=>(match tab.lookup c with
  |some .fld=>(match ke f ns vs with
   |some v=>.ok v S1
   |none=>.bad)
  |some (.prop g)=>(match g [d] S1 with
   | .ok v S2=>.ok v S2
   |_=>.bad)
  |some (.con v)=>if f∈ns then .bad else .ok v S1
  |none=>.bad)
 |none=>.bad
def J2(X:Cx)(f:Str)(C:Addr):sE->Prop
 | .fld=>NoAttr X.K C f
 | .prop g=>∃(p a:Addr) (k:Nat),PropOf X.K C f p a/\a5 X.prog X.w X.K X.mg X.base k a g/\Room (k+1) X.A
 | .con d=>∃(v:V) (u:Value),Con X.K C f v u/\∀ρ H,Rep X.K X.mg ρ H d v
structure Eu(X:Cx)(f:Str)(tab:List (Str×sE)):Prop where
 at_:∀c t,tab.lookup c=some t->∀C,X.mg c=some (.ref C)->Cls X.K C/\J2 X f C t
theorem gG:Eu X m []:=⟨λc g h=>by cases h⟩
theorem gH{c:Str}{C:Addr}{t:sE}{tab:List (Str×sE)}(hm:X.mg c=some (.ref C))(hc:Cls X.K C)(ha:J2 X m C t)(h:Eu X m tab):Eu X m ((c,t)::tab):=⟨λbA fS h' dB gF=>by
 rw[List.lookup_cons]at h';cases q:bA==c with
 |true =>
  grind
 |false =>
  rw[q]at h';exact h.at_ bA fS h' dB gF⟩
theorem aa0{pins:List (Addr×Obj)}{σ:L2.St}{H:Hp}{s:Shared}{Q:VK}{b:Bool}{J3:Value->Shared->Prop}{fl:Str}{a bx p':Addr}{fs:List (Str×V)}{sp:Sp}(I:Inv X pins σ H s)(ea:H a=some (.ins C bx fs))(c:Cls X.K C)(hp:PropOf X.K C fl p' f)
  (F:FnR X.prog X.w X.K X.mg X.base (Z.CX X.prog X.w) k f sp) (hr:Room (k+1) X.A) (h:sp [.ref a] H Q (λ_ _ _=>False)) :
  wpAny (model X.prog X.w) X.A (getAttr (.ref a) fl b) (EP X pins σ Q) J3 s:=by
 obtain⟨aa1,O,_,_,_,_⟩:=ins_get I.hok ea;obtain⟨od,J,_⟩:=O.look;obtain⟨rest,eH⟩:=hp.rec_;have I1:=I.tok (s.toks+1);have hc:(PySem.W.clsIn X.K C).isSome=true:=by
  obtain⟨cd,hc,_⟩:=PySem.W.any_some c.hd;rw[hc];rfl
 refine PySem.W.get_bind I.kIn J (PySem.W.plainGet_of (c.get fl)).1 (PySem.W.findObj_data hc hp.at_ hp.get hp.tak) (PySem.W.plainGet_of (c.get fl)).2 (wpAny_call (PySem.W.prop_get (s:={ s with toks:=s.toks+1 }) I.kIn eH ?_));refine codeAny_mono (F X.A.in1 X.stack { s with toks:=s.toks+1 } H [.ref a] [.ref a] Q (λ_ _ _=>False) hr.in1 I1.env0.in1 (.cons rfl .nil) h) λr s' hq=>?_;cases r with
 |error fF=>exact False.elim (Zw (X:=X.nox) (W:=WF) om (λ_ _ _ _ z=>z) pins σ H { s with toks:=s.toks+1 } fF s' (I1.wish _) hq)
 |ok fl =>
  cases fl with
  |ret u =>
   obtain⟨v,H',lT,aR,fD⟩:=I1.after hq;show wpAny _ _ (handedOut u) _ _ _;rw[PySem.W.handedOut_of (handed_of aR)];exact wpAny_pure ⟨v,H',lT,aR,fD⟩
  |next=>exact False.elim hq
  |brk=>exact False.elim hq
  |cont=>exact False.elim hq
theorem gI{fl:Str}{tab:List (Str×sE)}(ht:Eu X fl tab)(aQ:E X W o fo)(hb:attributeBase o fl X.env (eval o X.env)=eval o X.env:=by rfl):E X W (.Attribute o fl pos) (c4 fl tab fo):=by
 refine⟨λpins s σ H Q I h=>?_⟩;obtain⟨ρ,S,sl,w,rs,p⟩:=h;refine attr_of hb (thn (aQ.run pins s σ H _ I ⟨ρ,S,sl,w,rs,aS.e3 p⟩) λu s1 ⟨x,H1,I1,aC,aB,S1,d,x1,aE,r1,_,p1⟩=>?_);split at p1
 .rename_i c ns vs u9
  obtain⟨a,C,bx,fs,ex,hm,ea,hn,cB⟩:=o_ aE r1 u9;subst ex;obtain rfl:u=Value.ref a:=aC;split at p1
  .rename_i et
   obtain⟨hc,ha⟩:=ht.at_ c _ et C hm;split at p1
   .rename_i v ev
    obtain⟨n6,h1,h2⟩:=I9 hn cB ev;exact getattr_ok I1 ea hc ha h1 λu s2 I2 cv=>⟨n6,H1,I2,cv,cj p1 aE h2⟩
   .exact p1.elim
  .rename_i g et
   obtain⟨hc,p',hU,k,hp,F,hr⟩:=ht.at_ c _ et C hm;refine aa0 I1 ea hc hp F hr ⟨aB,S1,[d],aE,ay.cons r1 ay.nil,?_⟩;split at p1
   .rename_i v S2 oo
    rw[oo];exact λn6 aP aH x2 cD r2=>p1 n6 aP aH x2 cD r2
   .exact p1.elim
  .rename_i v et
   obtain⟨hc,n6,uy,hk,hr⟩:=ht.at_ c _ et C hm;split at p1
   .exact p1.elim
   .rename_i qR
    exact getcon_ok I1 ea hc hk (I_ hn qR) λs2 I2=>⟨n6,H1,I2,hk.rel,cj p1 aE (hr aB H1)⟩
  .exact p1.elim
 .exact p1.elim
end
section
variable{X:Cx}
def b7:bZ:=cX Jb (cX xl (cX qA zY))
theorem ez:cA X (binaryOp .Add) b7:=QZ.or (Q6.or (Q8.or ZO))
def hy:bZ:=cX Jc Je
theorem u_:cA X (binaryOp .Mult) hy:=ZA.or ZP
def k':bZ:=cX ltI Jd
theorem xH:cA X (compareOp .Lt) k':=ZD.or ZE
def e':bZ:=cX (zW false) (cX (z8 false) (D8 false))
theorem lU(aT:X.A.units+64<cLine):cA X (compareOp .In) e':=ZI.or ((aaz (mF (HK (by decide:1<=64) _) aT)).or ZR)
def a7:bZ:=cX qD Eg
theorem aa2(aT:X.A.units+64<cLine):sq X a7:=Z1.or (aax (mF (HK (by decide:1<=64) _) aT))
def cM:aD:=nX zZ JN
theorem ib:hN X (.builtin "len") cM:=d_len.or aaB
def dS:aD:=nX uN uO
theorem iP:hN X (.builtin "isinstance") dS:=ZS.or ZU
theorem Am{A:Around}(aT:A.units+64<cLine):A.units+1<cLine:=mF (HK (by decide:1<=64) _) aT
end
section
variable{X:Cx}{W:WX}{pos:Pos}{elt tg iter:Expr}{ifs:List Expr}{scope:Scope}{own:List (Str×Nat)}{it:gQ}{g:dz}{bt:cz}{fe:aM}
theorem An{i:Nat}{y:Str}{py spos:Pos}(hc:X.calm=true)(gv:X.N.Nodup)(ok:BlkOk X.N X.env.scope scope own)
  (aa3:swapsWith (.ListComp elt [⟨tg,iter,ifs,0⟩] scope pos) (some (.Name y py)) spos.line X.env=pure true) (hi:uH X W tg iter it)
  (hg:∀(s:Shared) (H:Hp) (C:Addr) (cl:List (Str×Addr)) (fp:List Addr),qP (X.blk s H scope (compEnvC scope cl C X.env) fp) WF (own.map (·.2)) tg g) (ht:∀(s:Shared) (H:Hp) (C:Addr) (cl:List (Str×Addr)) (fp:List Addr),Af (X.blk s H scope (compEnvC scope cl C X.env) fp) WF ifs bt)
  (he:∀(s:Shared) (H:Hp) (C:Addr) (cl:List (Str×Addr)) (fp:List Addr),E (X.blk s H scope (compEnvC scope cl C X.env) fp) WF elt fe) (a6:X.N[i]?=some y:=by rfl) (u':X.env.scope.names.lookup y=some .local:=by rfl) (hs:∀x,foldedSetIterable iter X.env x=pure x:=by intro _;rfl) :
  ES X W (.Assign [.Name y py] (.ListComp elt [⟨tg,iter,ifs,0⟩] scope pos) spos) (bX (c' (cK it g bt fe (own.map (·.2)))) (aX i)) :=
 PS.imp (ps_setLc (tt:=r9 X.K X.mg WF bt) (te:=fx X.K X.mg WF fe) hc gv a6 u' aa3 hi ok (λs H C cl fp=>(hg s H C cl fp).all) ht he hs) λD σ H ⟨ρ,S,sl,w,rs,p⟩ =>
  RQ (Q:=λx H1=>gName i x σ H1 D.nx) ⟨ρ,S,sl,w,rs,I7 w (aS.mono (bL.zP (o:=c' (cK it g bt fe (own.map (·.2))) sl S) rs p) λv H1 ⟨aB,S1,d,aE,r1,aR,p1⟩=>p1 _ aB H1 Ext.refl aE (r1.set aR i))⟩
end
section
variable{X:Cx}{W:WX}{x:Str}{pos:Pos}
theorem xI{i:Int}(h:∃t,X.mg x=some (.int i t))(hg:Gl X x:=by rfl)(hd:(x==("__debug__":Str))=false:=by decide):E X W (.Name x pos) (ah (.int i)):=by
 obtain⟨t,h⟩:=h;exact IW (v:=.int i) hg h ⟨t,rfl⟩ (λ_ _=>h9) hd
theorem J4{i:Str}(h:∃t,X.mg x=some (.str i t))(hg:Gl X x:=by rfl)(hd:(x==("__debug__":Str))=false:=by decide):E X W (.Name x pos) (ah (.str i)):=by
 obtain⟨t,h⟩:=h;exact IW (v:=.str i) hg h ⟨t,rfl⟩ (λ_ _=>mP) hd
end
def Ew(g:dz):Prop:=∀d sl S,(∃d1 ak,g d sl S=.nx d1 ak)\/g d sl S=.bad
def Ao(g:gy):Prop:=∀d sl S,(∃d1 ak,g d sl S=.nx d1 ak)\/g d sl S=.bad
theorem Ap:Ao gA:=λd sl S=>by cases d with|nil=>exact .inl ⟨_,_,rfl⟩|cons _ _=>exact .inr rfl
theorem ou{g:dz}{gs:gy}(h:Ew g)(hs:Ao gs):Ao (cP g gs):=λd sl S=>by
 cases d with
 |nil=>exact .inr rfl
 |cons x r =>
  show(∃d1 ak,(g x sl S).then (gs r)=_)\/(g x sl S).then (gs r)=_;rcases h x sl S with⟨d1,ak,e⟩|e
  .rw[e];exact hs r d1 ak
  .rw[e];exact .inr rfl
theorem Ex{gs:gy}(hs:Ao gs):Ew (hP gs):=λd sl S=>by
 cases d with
 |tup xs=>exact hs xs sl S
 |bS xs=>exact hs xs sl S
 |_=>exact .inr rfl
theorem jB{g:dz}{gs:gy}{n:Nat}(hg:Ew g)(hr:∀ds sl S,gs ds sl S≠.bad->ds.length=n):∀ds sl S,cP g gs ds sl S≠.bad->ds.length=n+1:=Zk hr hg
def xJ(i:Nat)(op:Int->Int->Int)(fe:aM):SX:=λsl S=>match sl[i]? with
 |some (some (.int a))=>(fe sl S).toS sl λe S1=>(match e with
  | .int b=>.nx (sl.set i (some (.int (op a b)))) S1
  |_=>.bad)
 |_=>.bad
section
variable{X:Cx}{W:WX}{x:Str}{pos pos':Pos}{e:Expr}{fe:aM}
theorem aa4{i:Nat}{op:Operator}{g:Int->Int->Int}(gv:X.N.Nodup)(aQ:PIp X op (ipI g))(he:E X W e fe)(hi:X.N[i]?=some x:=by rfl)(hx:Loc X.env.scope x:=by first|exact Or.inl rfl|exact Or.inr rfl)(hf:X.fn x=true\/X.env.scope.names.lookup x=some .local:=by first|exact .inl rfl|exact .inr rfl) :
  ES X W (.AugAssign (.Name x pos') op e pos) (xJ i g fe):=by
 refine PS.imp (ps_aug gv hi hx he aQ hf) λD σ H ⟨ρ,S,sl,w,rs,p⟩=>?_;unfold xJ at p;split at p
 .rename_i a ea
  obtain⟨v,au,r1⟩:=rs.at_ i _ ea;refine⟨v,au,ρ,S,sl,w,rs,aS.mono (bL.Ab rs p) λy H1 ⟨aB,S1,d,x1,aE,px,r2,p1⟩=>?_⟩;split at p1
  .rename_i b
   exact⟨a,b,fX (r1),fX r2,p1 _ aB H1 Ext.refl aE (px.set (h9 (i:=g a b)) i)⟩
  .exact p1.elim
 .exact p.elim
end
section
variable{X:Cx}{f:Str}
theorem xK:∀c∈([]:List Str),∀C,X.mg c=some (.ref C)->Cls X.K C/\NoAttr X.K C f:=λc h=>by cases h
theorem xM{c:Str}{C:Addr}{cs:List Str}(hm:X.mg c=some (.ref C))(hc:Cls X.K C)(hn:NoAttr X.K C f)(h:∀c∈cs,∀C,X.mg c=some (.ref C)->Cls X.K C/\NoAttr X.K C f):∀bA∈c::cs,∀C,X.mg bA=some (.ref C)->Cls X.K C/\NoAttr X.K C f:=λbA h' dB gF=>by
 grind
end
theorem va{P:Program}{w:World}{K:PySem.W.Frag}{mg:Str->Option Value}{base:Heap}{k:Nat}{f:Addr}:a5 P w K mg base k f (λ_ _=>.bad):=λA outer s H us vs Q E hr cG r ⟨_,_,_,_,_,p⟩=>p.elim
theorem aa5{P:Program}{w:World}{outer:List Env}{H:Hp}{s:Shared}{e:Value}{s':Shared}(h:Z.CX P w outer H s (λ_ _ _=>False) e s'):False:=by
 obtain⟨_,_,_,_,_,_,_,_,_,_,_,_,z⟩:=h;exact z
theorem aa6{K:PySem.W.Frag}{mg:Str->Option Value}{H:Hp}{a:Addr}{ns:List Int}{g:aD}(eI:SqL K H a (ns.map V.int))(h:∃S,g [.cy ns] []=.ok (.bl true) S):g' K mg 1 g [.ref a] H (λv _=>v=.bl true) λ_ _ _=>False:=by
 obtain⟨S,e⟩:=h;refine⟨[],[],[.cy ns],rfl,⟨rfl,List.nodup_nil,by simp,by simp⟩,ay.cons ?_ ay.nil,?_⟩
 .rw[Rep]
  refine⟨a,rfl,?_⟩;rcases eI with h|h
  .exact .inl ⟨by simp,h⟩
  .exact .inr h
 .rw[e]
  exact λv aj H' _ _ r=>kf r
def J5(K:PySem.W.Frag):Sp:=λvs H Q _=>∃(a:Addr) (ns:List Int),vs=[.ref a]/\SqL K H a (ns.map V.int)/\ns.length<=63/\∀H',Q (.bl true) H'
theorem aa7{P:Program}{w:World}{K:PySem.W.Frag}{mg:Str->Option Value}{base:Heap}{k:Nat}{f:Addr}{fd:FuncData}{ps:List Str}{g:aD}(F:FnOk P w K mg base (Z.CX P w) k f fd ps (g' K mg 1 g))(h:∀ns:List Int,ns.length<=63->∃S,g [.cy ns] []=.ok (.bl true) S) :
  FnOk P w K mg base (Z.CX P w) k f fd ps (J5 K):=F.imp λvs H Q E ⟨a,ns,ev,eI,hl,q⟩=>by
 subst ev;obtain⟨ρ,S,ds,h1,h2,aI,bE⟩:=aa6 (mg:=mg) (H:=H) eI (h ns hl);obtain⟨ak,e⟩:=h ns hl;refine⟨[],[],[.cy ns],rfl,⟨rfl,List.nodup_nil,by simp,by simp⟩,ay.cons ?_ ay.nil,?_⟩
 .rw[Rep]
  refine⟨a,rfl,?_⟩;rcases eI with h|h
  .exact .inl ⟨by simp,h⟩
  .exact .inr h
 .rw[e]
  exact λv aj H' _ _ r=>by rw[kf r];exact q H'
@[simp] theorem ov{α β:Type}(a:α)(S:Store)(k:α->Store->Out β):(Out.ok a S).bind k=k a S:=(rfl)
@[simp] theorem Aq{α:Type}(a:α)(S:Store)(sl:aL)(k:α->Store->SO):(Out.ok a S).toS sl k=k a S:=(rfl)
@[simp] theorem anQ(sl:aL)(S:Store)(g:SX):(SO.nx sl S).then g=g sl S:=(rfl)
@[simp] theorem anR(d:D)(S:Store)(g:SX):(SO.rt d S).then g=.rt d S:=(rfl)
@[simp] theorem anS(d:D)(S:Store):(SO.rt d S).out=.ok d S:=(rfl)
@[simp] theorem anT(i:Int):SeqAt.shaped (.int i)=true:=by rfl
theorem aa8{i:Str}(h:PyData.strOk i=true):SeqAt.shaped (.str i)=true:=by simp[SeqAt.shaped,PyData.canLay0,PyData.depth,h]
@[simp] theorem anU(i:Bool):SeqAt.shaped (.bool i)=true:=by rfl
@[simp] theorem anV(i j:Int)(S:Store):aU false (.int i) (.int j) S=.ok (.bl (decide (i=j))) S:=by
 rfl
@[simp] theorem anW(i j:Int)(S:Store):aU true (.int i) (.int j) S=.ok (.bl (!decide (i=j))) S:=by
 rfl
@[simp] theorem RU(i j:Int)(S:Store):b7 (.int i) (.int j) S=.ok (.int (i+j)) S:=(rfl)
@[simp] theorem anY(i j:Int)(S:Store):mQ (.int i) (.int j) S=.ok (.int (i - j)) S:=(rfl)
@[simp] theorem RV(i j:Int)(S:Store):k' (.int i) (.int j) S=.ok (.bl (decide (i<j))) S:=(rfl)
@[simp] theorem anZ(i j:Int)(S:Store):k6 (.int i) (.int j) S=.ok (.bl (decide (i<=j))) S:=(rfl)
@[simp] theorem aa9(i j:Int)(S:Store):kg (.int i) (.int j) S=.ok (.bl (decide (j<i))) S:=(rfl)
@[simp] theorem an0(i j:Int)(S:Store):zV (.int i) (.int j) S=.ok (.bl (decide (j<=i))) S:=(rfl)
theorem m3{i j:Int}(h:0<j)(S:Store):i6 (.int i) (.int j) S=.ok (.int (i % j)) S:=by simp[i6,qw,h]
theorem vb{i j:Int}(h:0<j)(h2:j.natAbs.log2<9000)(S:Store):i5 (.int i) (.int j) S=.ok (.int (i / j)) S:=by simp[i5,qw,QY,h,h2]
theorem abb{i j:Int}(h:i.natAbs.log2+j.natAbs.log2<1000000)(S:Store):hy (.int i) (.int j) S=.ok (.int (i * j)) S:=by
 simp[hy,cX,Jc,qw,QX,h]
theorem vd{S:Store}{n:Nat}{xs:List D}{i:Int}(h:S[n]?=some (.lst xs)):a7 (.ptr n) (.int i) S=match atI xs i with
  |some x=>.ok x S
  |none=>.bad:=by
 simp only[a7,cX,qD,c9,cY,h];cases e:atI xs i with
 |some x=>rfl
 |none=>simp[Eg,asD,h]
theorem J6{S:Store}{xs:List D}{i:Int}:a7 (.lst xs) (.int i) S=match atI xs i with
  |some x=>.ok x S
  |none=>.bad:=by
 simp only[a7,cX,qD,c9,cY];cases e:atI xs i with
 |some x=>rfl
 |none=>rfl
theorem abd{S:Store}{xs:List D}{i:Int}:a7 (.tup xs) (.int i) S=match atI xs i with
  |some x=>.ok x S
  |none=>.bad:=by
 simp only[a7,cX,qD,c9];cases e:atI xs i with
 |some x=>rfl
 |none=>rfl
structure fG(S S1:Store):Prop where
 len:S1.length=S.length
 at_:∀(i:Nat) (m:dk),S1[i]?=some m->S[i]?=some m\/iI S.length m=true
theorem fG.refl(S:Store):fG S S:=⟨rfl,λi m h=>.inl h⟩
theorem fG.set{S:Store}{n:Nat}{m:dk}(h:iI S.length m=true):fG S (S.set n m):=⟨by simp,λi eU e=>by
 grind⟩
theorem fG.closed{S S1 T:Store}(h:fG S S1):mO S (S1++T):=λi m hi e=>by
 rw[uc (by rw[h.len];exact hi)]at e;exact h.at_ i m e
theorem RW{k:Nat}{S:Store}{f:Nat}{d:D}(h:bg k d=true):cR (d2 S k f) d=some d:=QT (λn hn=>I6 hn) d h
theorem J7{k:Nat}{S:Store}{f:Nat}{ds:List D}(h:bC k ds=true):fW (d2 S k f) ds=some ds:=lO (λn hn=>I6 hn) ds h
theorem abe{S1:Store}{acc:List D}(h:bC S1.length acc=true):cR (d2 (S1++[.lst acc]) S1.length 6) (.ptr S1.length)=some (.lst acc):=by
 rw[cR,d2,if_neg (kZ _)];rw[List.getElem?_append_right (Nat.le_refl _)];simp only[Nat.sub_self,HL];rw[J7 h];rfl
abbrev ao(l:List Nat):Str:=⟨l.toArray⟩
abbrev hV(c:Nat):D:=.str (ao [c])
@[simp] theorem m4(l:List Nat):(ao l).length=l.length:=by rfl
theorem Ar(s:Str):ao s.cps.toList=s:=by rfl
@[simp] theorem J8(a b:List Nat):ao a++ao b=ao (a++b):=by
 show(⟨a.toArray++b.toArray⟩:Str)=_;simp[ao]
@[simp] theorem RX(l:List Nat):Ac (ao l)=l.map hV:=by rfl
def kq(d:D)(k:Bool->Prop):Prop:=match d with
 | .bl b=>k b
 |_=>False
@[simp] theorem eJ{b:Bool}{k:Bool->Prop}:kq (.bl b) k=k b:=(rfl)
def lV{α:Type}(o:Option α)(k:α->Prop):Prop:=match o with
 |some a=>k a
 |none=>False
@[simp] theorem Ey{α:Type}{a:α}{k:α->Prop}:lV (some a) k=k a:=(rfl)
@[simp] theorem an1{α:Type}{k:α->Prop}:lV none k=False:=(rfl)
@[irreducible] def We{α:Type}(o:Out α)(P:α->Store->Prop)(X:D->Store->Prop):Prop:=match o with
 | .ok a S=>P a S
 | .ex e S=>X e S
 | .bad=>False
structure iQ where
 nx:aL->Store->Prop
 bk:aL->Store->Prop
 ct:aL->Store->Prop
 rt:D->Store->Prop
 ex:D->aL->Store->Prop
@[irreducible] def aV(o:SO)(Q:iQ):Prop:=match o with
 | .nx sl S=>Q.nx sl S
 | .bk sl S=>Q.bk sl S
 | .ct sl S=>Q.ct sl S
 | .rt d S=>Q.rt d S
 | .ex e sl S=>Q.ex e sl S
 | .bad=>False
section
variable{α β:Type}{P:α->Store->Prop}{X:D->Store->Prop}{Q:iQ}{S:Store}{sl:aL}
@[simp] theorem bh{a:α}:We (.ok a S) P X=P a S:=by unfold We;rfl
@[simp] theorem xN{e:D}:We (.ex e S:Out α) P X=X e S:=by unfold We;rfl
@[simp] theorem J9:We (.bad:Out α) P X=False:=by unfold We;rfl
theorem fH{o:Out α}{k:α->Store->Out β}{P:β->Store->Prop}:We (o.bind k) P X=We o (λa ak=>We (k a ak) P X) X:=by cases o<;>simp[Out.bind]
@[simp] theorem la:aV (.nx sl S) Q=Q.nx sl S:=by unfold aV;rfl
@[simp] theorem RY:aV (.bk sl S) Q=Q.bk sl S:=by unfold aV;rfl
@[simp] theorem J_:aV (.ct sl S) Q=Q.ct sl S:=by unfold aV;rfl
@[simp] theorem J'{d:D}:aV (.rt d S) Q=Q.rt d S:=by unfold aV;rfl
@[simp] theorem Ka{e:D}:aV (.ex e sl S) Q=Q.ex e sl S:=by unfold aV;rfl
@[simp] theorem R0:aV .bad Q=False:=by unfold aV;rfl
theorem R1{o:SO}{g:SX}:aV (o.then g) Q=aV o { Q with nx:=λd1 ak=>aV (g d1 ak) Q }:=by cases o<;>simp[SO.then]
theorem qS{o:Out α}{k:α->Store->SO}:aV (o.toS sl k) Q=We o (λa ak=>aV (k a ak) Q) (λe ak=>Q.ex e sl ak):=by cases o<;>simp[Out.toS]
theorem We.mono{o:Out α}{P':α->Store->Prop}{X':D->Store->Prop}(h:We o P X)(hp:∀a S,P a S->P' a S)(hx:∀e S,X e S->X' e S):We o P' X':=by
 cases o with
 |ok a S=>simp_all
 |ex e S=>simp_all
 |bad=>simp_all
theorem We.post{o:Out α}{P':α->Store->Prop}(h:We o P X)(hp:∀a S,P a S->P' a S):We o P' X:=h.mono hp λ_ _ q=>q
theorem aV.mono{o:SO}{ew:iQ}(h:aV o Q)(h1:∀sl S,Q.nx sl S->ew.nx sl S)(h2:∀sl S,Q.bk sl S->ew.bk sl S)(aI:∀sl S,Q.ct sl S->ew.ct sl S)(bE:∀d S,Q.rt d S->ew.rt d S)(cw:∀e sl S,Q.ex e sl S->ew.ex e sl S):aV o ew:=by
 cases o with
 |nx sl S=>simp_all
 |bk sl S=>simp_all
 |ct sl S=>simp_all
 |rt d S=>simp_all
 |ex e sl S=>simp_all
 |bad=>simp_all
theorem abf{o:Out α}{a:α}(h:o=.ok a S)(p:P a S):We o P X:=by simp_all
theorem We.get{o:Out α}(h:We o P (λ_ _=>False)):∃a S,o=.ok a S/\P a S:=by
 cases o with
 |ok a S=>rw[bh]at h;grind
 |ex e S=>simp_all
 |bad=>simp_all
variable{f g:SX}{c:cz}{fe:aM}{fa:cO}{tg:dz}
@[simp] theorem kr:aV (bI sl S) Q=Q.nx sl S:=by unfold bI;simp
@[simp] theorem Kb:aV (aO f g sl S) Q=aV (f sl S) { Q with nx:=λd1 ak=>aV (g d1 ak) Q }:=by unfold aO;exact R1
@[simp] theorem R3:aV (jw fe sl S) Q=We (fe sl S) (λ_ ak=>Q.nx sl ak) (λe ak=>Q.ex e sl ak):=by unfold jw;rw[qS];simp
@[simp] theorem sF:aV (bq fe sl S) Q=We (fe sl S) (λd ak=>Q.rt d ak) (λe ak=>Q.ex e sl ak):=by unfold bq;rw[qS];simp
@[simp] theorem jb:aV (bG c f g sl S) Q=We (c sl S) (λb ak=>aV (if b=true then f sl ak else g sl ak) Q) (λe ak=>Q.ex e sl ak):=by unfold bG;exact qS
@[simp] theorem jR:aV (bX fe tg sl S) Q=We (fe sl S) (λd ak=>aV (tg d sl ak) Q) (λe ak=>Q.ex e sl ak):=by unfold bX;exact qS
theorem R4{i j:Nat}:aV (mN i j fa sl S) Q=We (fa sl S) (λds ak=>aV (match ds with
 |[d,e]=>.nx ((sl.set i (some d)).set j (some e)) ak
 |_=>.bad) Q) (λe ak=>Q.ex e sl ak):=by unfold mN;exact qS
@[simp] theorem an2{i j:Nat}{f1 f2:aM}:aV (mN i j (ag f1 (ag f2 ai)) sl S) Q=We (f1 sl S) (λd S1=>We (f2 sl S1) (λe S2=>Q.nx ((sl.set i (some d)).set j (some e)) S2) (λe ak=>Q.ex e sl ak)) (λe ak=>Q.ex e sl ak):=by
 rw[R4];simp only[ag,ai,fH,bh,la]
theorem abg{it:gQ}:aV (uD it tg f sl S) Q=We (it sl S) (λp ak=>aV (k3 p.2 tg f p.1 sl ak) Q) (λe ak=>Q.ex e sl ak):=by unfold uD;exact qS
@[simp] theorem ie{i:Nat}{d:D}:aV (aX i d sl S) Q=Q.nx (sl.set i (some d)) S:=by unfold aX;simp
@[simp] theorem an3{gs:gy}{ds:List D}:aV (hP gs (.bS ds) sl S) Q=aV (gs ds sl S) Q:=by rfl
@[simp] theorem abh{gs:gy}{ds:List D}:aV (hP gs (.tup ds) sl S) Q=aV (gs ds sl S) Q:=by rfl
@[simp] theorem Kc{gs:gy}{d:D}{r:List D}:aV (cP tg gs (d::r) sl S) Q=aV (tg d sl S) { Q with nx:=λd1 ak=>aV (gs r d1 ak) Q }:=by unfold cP;exact R1
@[simp] theorem abi:aV (gA [] sl S) Q=Q.nx sl S:=by unfold gA;simp
theorem jar{f g:SX}{Q:iQ}(M:aL->Store->Prop)(h:aV (f sl S) { Q with nx:=M })(k:∀sl S,M sl S->aV (g sl S) Q):aV (aO f g sl S) Q:=by
 rw[Kb];exact h.mono (λsl S h=>k sl S h) (λ_ _ h=>h) (λ_ _ h=>h) (λ_ _ h=>h) (λ_ _ _ h=>h)
variable{P:D->Store->Prop}{m5:Bool->Store->Prop}{PA:List D->Store->Prop}{f1 f2 f3:aM}{eX c2:cz}{fs:cO}
@[simp] theorem Kd{d:D}:We (ah d sl S) P X=P d S:=by unfold ah;simp
@[simp] theorem abj{i:Nat}:We (ae i sl S) P X=∃d,sl[i]?=some (some d)/\P d S:=by
 unfold ae;cases e:sl[i]? with
 |none=>simp
 |some o=>cases o<;>simp
@[simp] theorem Ke{sem:bZ}:We (az sem f1 f2 sl S) P X=We (f1 sl S) (λd S1=>We (f2 sl S1) (λe S2=>We (sem d e S2) P X) X) X:=by simp only[az,fH]
@[simp] theorem an4{sem:w_}:We (nW sem f1 sl S) P X=We (f1 sl S) (λd S1=>We (sem d S1) P X) X:=by simp only[nW,fH]
@[simp] theorem lg{sem:aD}:We (aw sem fs sl S) P X=We (fs sl S) (λds S1=>We (sem ds S1) P X) X:=by simp only[aw,fH]
@[simp] theorem pz:We (ai sl S) PA X=PA [] S:=by unfold ai;simp
@[simp] theorem jc:We (ag f1 fs sl S) PA X=We (f1 sl S) (λd S1=>We (fs sl S1) (λds S2=>PA (d::ds) S2) X) X:=by simp only[ag,fH,bh]
theorem abk:We (aK f1 sl S) m5 X=We (f1 sl S) (λd S1=>kq d λb=>m5 b S1) X:=by
 simp only[aK,fH];congr 1;funext d S1;cases d<;>simp[kq]
@[simp] theorem fO:We (aK f1 sl S) m5 X=We (f1 sl S) (λd S1=>kq d λb=>m5 b S1) X:=abk
@[simp] theorem ow:We (dO eX sl S) m5 X=We (eX sl S) (λb S1=>m5 (!b) S1) X:=by simp only[dO,fH,bh]
@[simp] theorem Ez:We (mL eX c2 sl S) m5 X=We (eX sl S) (λb S1=>if b=true then We (c2 sl S1) m5 X else m5 false S1) X:=by
 simp only[mL,fH];congr 1;funext b S1;cases b<;>simp
@[simp] theorem Au:We (e4 eX c2 sl S) m5 X=We (eX sl S) (λb S1=>if b=true then m5 true S1 else We (c2 sl S1) m5 X) X:=by
 simp only[e4,fH];congr 1;funext b S1;cases b<;>simp
@[simp] theorem R5:We (iB f1 f2 sl S) P X=We (f1 sl S) (λd S1=>kq d λb=>if b=true then We (f2 sl S1) P X else P (.bl false) S1) X:=by
 simp only[iB,fH];congr 1;funext d S1;cases d with
 |bl b=>cases b<;>simp[kq]
 |_=>simp[kq]
@[simp] theorem R6:We (uz f1 f2 sl S) P X=We (f1 sl S) (λd S1=>kq d λb=>if b=true then P (.bl true) S1 else We (f2 sl S1) P X) X:=by
 simp only[uz,fH];congr 1;funext d S1;cases d with
 |bl b=>cases b<;>simp[kq]
 |_=>simp[kq]
@[simp] theorem an5:We (DP f1 sl S) P X=We (f1 sl S) (λd S1=>kq d λb=>P (.bl (!b)) S1) X:=by
 simp only[DP,fH];congr 1;funext d S1;cases d<;>simp[kq]
@[simp] theorem Kf:We (eT eX f1 f2 sl S) P X=We (eX sl S) (λb S1=>if b=true then We (f1 sl S1) P X else We (f2 sl S1) P X) X:=by
 simp only[eT,fH];grind
@[simp] theorem an6{s1 s2:bZ}:We (nY s1 s2 f1 f2 f3 sl S) P X=We (f1 sl S) (λd S1=>We (f2 sl S1) (λe S2=>We (s1 d e S2) (λr aW=>kq r λb=>if b=true then We (f3 sl aW) (λg b5=>We (s2 e g b5) P X) X else P (.bl false) aW) X) X) X:=by
 simp only[nY,fH];congr 1;funext d S1;congr 1;funext e S2;congr 1;funext r aW;cases r with
 |bl b=>cases b<;>simp[fH,kq]
 |_=>simp[kq]
variable{PO:Option Int->Store->Prop}{fl fu:uX}
@[simp] theorem an7:We (hT sl S) PO X=PO none S:=by unfold hT;simp
@[simp] theorem an8:We (e8 f1 sl S) PO X=We (f1 sl S) (λd S1=>∃i,d=.int i/\PO (some i) S1) X:=by
 simp only[e8,fH];congr 1;funext d S1;cases d<;>simp
@[simp] theorem abl{h:Bool}:We (gD h f1 fl fu sl S) P X=We (f1 sl S) (λd S1=>We (fl sl S1) (λl S2=>We (fu sl S2) (λu aW=>We (uW h d l u aW) P X) X) X) X:=by simp only[gD,fH]
theorem Kg{ty:Store->D->Bool}{sem:n'}:We (dR ty sem f1 fs sl S) P X=We (f1 sl S) (λd S1=>if ty S1 d=true then We (fs sl S1) (λds S2=>We (sem d ds S2) P X) X else False) X:=by
 simp only[dR,fH];congr 1;funext d S1;cases h:ty S1 d<;>simp[fH]
@[simp] theorem abm{ty:Store->D->Bool}{sem:n'}:We (dR ty sem f1 fs sl S) P X=We (f1 sl S) (λd S1=>ty S1 d=true/\We (fs sl S1) (λds S2=>We (sem d ds S2) P X) X) X:=by
 rw[Kg];simp
@[simp] theorem an9{m:Str}{tab:List (Str×aD)}:We (cL m tab f1 fs sl S) P X=We (f1 sl S) (λd S1=>lV (f' S1 d) λp=>m∉p.2.1/\lV (hv tab p.1) λg=>We (fs sl S1) (λds S2=>We (g (d::ds) S2) P X) X) X:=by
 unfold cL;rw[fH];congr 1;funext d S1;cases e:f' S1 d with
 |none=>simp
 |some p =>
  obtain⟨c,ns,vs⟩:=p;dsimp only;rw[Ey];dsimp only;by_cases hm:m∈ns
  .simp_all
  .rw[if_neg hm]
   cases e2:hv tab c with
   |none=>simp
   |some g =>
    dsimp only;rw[fH,Ey];grind
def EA(m:Str)(d:D)(ns:List Str)(vs:List D)(S1:Store)(P:D->Store->Prop):sE->Prop
 | .fld=>lV (ke m ns vs) λv=>P v S1
 | .prop g=>We (g [d] S1) P (λ_ _=>False)
 | .con v=>m∉ns/\P v S1
@[simp] theorem abn{m:Str}{d:D}{ns:List Str}{vs:List D}{S1:Store}:EA m d ns vs S1 P .fld=lV (ke m ns vs) λv=>P v S1:=(rfl)
@[simp] theorem abo{m:Str}{d:D}{ns:List Str}{vs:List D}{S1:Store}{g:aD}:EA m d ns vs S1 P (.prop g)=We (g [d] S1) P (λ_ _=>False):=(rfl)
@[simp] theorem abp{m:Str}{d:D}{ns:List Str}{vs:List D}{S1:Store}{v:D}:EA m d ns vs S1 P (.con v)=(m∉ns/\P v S1):=(rfl)
@[simp] theorem aoa{m:Str}{tab:List (Str×sE)}:We (c4 m tab f1 sl S) P X=We (f1 sl S) (λd S1=>lV (f' S1 d) λp=>lV (tab.lookup p.1) λt=>EA m d p.2.1 p.2.2 S1 P t) X:=by
 unfold c4;rw[fH];congr 1;funext d S1;cases e:f' S1 d with
 |none=>simp
 |some p =>
  obtain⟨c,ns,vs⟩:=p;dsimp only;rw[Ey];dsimp only;cases e2:tab.lookup c with
  |none=>simp
  |some t =>
   rw[Ey];cases t with
   |fld =>
    dsimp only;rw[abn];cases ke m ns vs<;>simp
   |prop g =>
    dsimp only;rw[abo];cases g [d] S1<;>simp
   |con v =>
    dsimp only;rw[abp];by_cases hm:m∈ns<;>simp[hm]
@[simp] theorem aob{cs:List Str}{m:Str}:aV (ot cs m f1 f2 sl S) Q=We (f1 sl S) (λv S1=>We (f2 sl S1) (λo S2=>∃aW,oq cs m o v S2=some aW/\Q.nx sl aW) (λe ak=>Q.ex e sl ak)) (λe ak=>Q.ex e sl ak):=by
 simp only[ot,qS];congr 1;funext d S1;congr 1;funext o S2;cases oq cs m o d S2<;>simp
@[simp] theorem EB{n:Nat}{g:aD}{ds:List D}(h:ds.length=n):cS n g ds S=g ds S:=if_pos h
def eY(S:Store)(P:D->Store->Prop):D->Store->Prop:=λd ak=>mO S ak/\∃d',cR (d2 ak S.length 6) d=some d'/\P d' (ak.take S.length)
theorem R7{o:Out D}:We (fin S o) P X=We o (eY S P) (eY S X):=by
 cases o with
 |bad=>simp[fin]
 |ok d ak =>
  simp only[fin,bh,eY];by_cases h:mO S ak
  .rw[if_pos h]
   cases e:cR (d2 ak S.length 6) d<;>simp[h]
  simp_all
 |ex d ak =>
  simp only[fin,xN,eY];by_cases h:mO S ak
  .rw[if_pos h]
   cases e:cR (d2 ak S.length 6) d<;>simp[h]
  simp_all
def sG(S:Store)(P:D->Store->Prop)(X:D->Store->Prop):iQ:=⟨λ_ ak=>eY S P .non ak,λ_ _=>False,λ_ _=>False,eY S P,λe _ ak=>eY S X e ak⟩
theorem R8{o:SO}{P X:D->Store->Prop}:We o.out P X=aV o ⟨λ_ ak=>P .non ak,λ_ _=>False,λ_ _=>False,P,λe _ ak=>X e ak⟩:=by cases o<;>simp[SO.out]
theorem Av{N:Nat}{body:SX}{ds:List D}:We (bN N body ds S) P X=aV (body (ds.map some++List.replicate (N - ds.length) none) S) (sG S P X):=by
 unfold bN;rw[R7,R8];rfl
theorem abq{N:Nat}{body:SX}{ds:List D}:We (Ai N body ds S) P X=aV (body (ds.map some++List.replicate (N - ds.length) none) S) ⟨λ_ ak=>P .non ak,λ_ _=>False,λ_ _=>False,P,λe _ ak=>X e ak⟩:=R8
@[simp] theorem abr:(sG S P X).nx sl=eY S P .non:=(rfl)
@[simp] theorem jS:(sG S P X).rt=eY S P:=(rfl)
@[simp] theorem qT{e:D}:(sG S P X).ex e sl=eY S X e:=(rfl)
theorem Aw{S1 T:Store}{d d':D}(h:fG S S1)(hd:cR (d2 (S1++T) S.length 6) d=some d')(p:P d' S1):eY S P d (S1++T) :=
 ⟨h.closed,d',hd,by rw[<-h.len,List.take_left'];exact p;rfl⟩
theorem ox{S1:Store}{d:D}(h:fG S S1)(hd:bg S.length d=true)(p:P d S1):eY S P d S1:=by
 have:=Aw (P:=P) (T:=[]) h (d:=d) (d':=d) (RW hd) p;grind
theorem Ax{S1 T:Store}{d:D}(h:fG S S1)(hd:bg S.length d=true)(p:P d S1):eY S P d (S1++T):=Aw h (RW hd) p
theorem dI{d:D}(hd:bg S.length d=true)(p:P d S):eY S P d S:=ox (fG.refl S) hd p
theorem Kh{S1:Store}{acc:List D}(h:fG S S1)(aT:bC S.length acc=true)(p:P (.lst acc) S1):eY S P (.ptr S1.length) (S1++[.lst acc]):=by
 refine Aw h ?_ p;rw[<-h.len]at aT ⊢;exact abe aT
@[simp] theorem aoc{b:Bool}:eY S P (.bl b) S=P (.bl b) S:=propext ⟨fun⟨_,d',h,p⟩=>by rw[cR]at h;grind,λp=>dI rfl p⟩
@[simp] theorem aod{i:Int}:eY S P (.int i) S=P (.int i) S:=propext ⟨fun⟨_,d',h,p⟩=>by rw[cR]at h;grind,λp=>dI rfl p⟩
@[simp] theorem aoe{i:Str}:eY S P (.str i) S=P (.str i) S:=propext ⟨fun⟨_,d',h,p⟩=>by rw[cR]at h;grind,λp=>dI rfl p⟩
@[simp] theorem xO{f:aM}:We (c' f sl S) P X=We (f sl S) (eY S P) (eY S X):=R7
mutual
theorem R9{j k:Nat}(h:j<=k):∀d,bg j d=true->bg k d=true
 | .non,_=>by simp[bg]
 | .bl _,_=>by simp[bg]
 | .int _,_=>by simp[bg]
 | .str _,_=>by simp[bg]
 | .ty _,_=>by simp[bg]
 | .cls _,_=>by simp[bg]
 | .cy _,_=>by simp[bg]
 | .exc _ _ vs,q=>by simp only[bg]at q ⊢;exact hA h vs q
 | .lam _ _,_=>by simp[bg]
 | .h4 _ vs,q=>by simp only[bg]at q ⊢;exact hA h vs q
 | .tup xs,q=>by simp only[bg]at q ⊢;exact hA h xs q
 | .bS xs,q=>by simp only[bg]at q ⊢;exact hA h xs q
 | .lst xs,q=>by simp only[bg]at q ⊢;exact hA h xs q
 | .dct ks vs,q=>by
  simp only[bg,Bool.and_eq_true]at q ⊢;exact⟨hA h ks q.1,hA h vs q.2⟩
 | .dX _ ks vs,q=>by
  simp only[bg,Bool.and_eq_true]at q ⊢;exact⟨hA h ks q.1,hA h vs q.2⟩
 | .ins _ _ vs,q=>by simp only[bg]at q ⊢;exact hA h vs q
 | .ptr n,q=>by
  simp only[bg,decide_eq_true_eq]at q ⊢;omega
theorem hA{j k:Nat}(h:j<=k):∀ds,bC j ds=true->bC k ds=true
 |[],_=>by simp[bC]
 |d::ds,q=>by
  simp only[bC,Bool.and_eq_true]at q ⊢;exact⟨R9 h d q.1,hA h ds q.2⟩
end
theorem ku{k:Nat}:∀{ds:List D},bC k ds=true↔∀d∈ds,bg k d=true
 |[]=>by simp[bC]
 |d::ds=>by simp[bC,Bool.and_eq_true,ku (ds:=ds)]
@[simp] theorem R_{k:Nat}{a b:List D}:bC k (a++b)=(bC k a&&bC k b):=by
 induction a with
 |nil=>simp[bC]
 |cons d a ih=>simp[bC,ih,Bool.and_assoc]
theorem R'{k:Nat}{d:D}(h:bg 0 d=true):bg k d=true:=R9 (hJ k) d h
theorem Sb{k:Nat}{ds:List D}(h:bC 0 ds=true):bC k ds=true:=hA (hJ k) ds h
@[simp] theorem aof{k:Nat}:bg k .non=true:=by simp[bg]
@[simp] theorem aog{k:Nat}{b:Bool}:bg k (.bl b)=true:=by simp[bg]
@[simp] theorem aoh{k:Nat}{b:Int}:bg k (.int b)=true:=by simp[bg]
@[simp] theorem aoi{k:Nat}{b:Str}:bg k (.str b)=true:=by simp[bg]
@[simp] theorem Ki{k:Nat}{b:List D}:bg k (.tup b)=bC k b:=by simp[bg]
@[simp] theorem abt{k:Nat}{b:List D}:bg k (.lst b)=bC k b:=by simp[bg]
@[simp] theorem aoj{k:Nat}{c:Str}{ns:List Str}{b:List D}:bg k (.ins c ns b)=bC k b:=by simp[bg]
@[simp] theorem aok{k:Nat}:bC k []=true:=by simp[bC]
@[simp] theorem EC{k:Nat}{d:D}{ds:List D}:bC k (d::ds)=(bg k d&&bC k ds):=by simp[bC]
end
section
variable{X:D->Store->Prop}{Q:iQ}{S:Store}{sl:aL}{G:Store->Prop}{g:dz}{body:SX}
theorem Sd(I:List D->aL->Store->Prop):∀(xs pre:List D) (sl:aL) (S:Store),I pre sl S ->
  (∀p x post sl S,pre++xs=p++x::post->I p sl S->G S/\aV (g x sl S) ⟨λa' S1=>aV (body a' S1) ⟨λbH S2=>I (p++[x]) bH S2,Q.nx,λbH S2=>I (p++[x]) bH S2,Q.rt,Q.ex⟩,λ_ _=>False,λ_ _=>False,λ_ _=>False,λ_ _ _=>False⟩) ->
  (∀sl S,I (pre++xs) sl S->G S/\Q.nx sl S)->aV (k3 G g body xs sl S) Q
 |[],pre,sl,S,h0,step,gU=>by
  rw[ug]at gU;obtain⟨h1,h2⟩:=gU sl S h0;simp only[k3,if_pos h1,la];exact h2
 |x::xs,pre,sl,S,h0,step,gU=>by
  obtain⟨h1,h2⟩:=step pre x xs sl S rfl h0;simp only[k3,if_pos h1];cases e:g x sl S with
  |nx a' S1 =>
   rw[e]at h2;simp only[la]at h2;dsimp only;have hl:pre++x::xs=(pre++[x])++xs:=by simp
   have next:∀bH S2,I (pre++[x]) bH S2->aV (k3 G g body xs bH S2) Q:=λbH S2 jT =>
    Sd I xs (pre++[x]) bH S2 jT (λp y post sl S he hp=>step p y post sl S (by grind) hp) (λsl S jT=>gU sl S (by grind))
   cases e2:body a' S1 with
   |nx bH S2=>rw[e2,la]at h2;grind
   |ct bH S2=>rw[e2,J_]at h2;grind
   |bk bH S2=>rw[e2,RY]at h2;dsimp only;rw[la];exact h2
   |rt d S2=>rw[e2,J']at h2;dsimp only;rw[J'];exact h2
   |ex e bH S2=>rw[e2,Ka]at h2;dsimp only;rw[Ka];exact h2
   |bad=>rw[e2,R0]at h2;exact h2.elim
  |bk _ _=>simp_all
  |ct _ _=>simp_all
  |rt _ _=>simp_all
  |ex _ _ _=>simp_all
  |bad=>simp_all
theorem abu{it:gQ}{xs:List D}{ak:Store}(hit:it sl S=.ok (xs,G) ak)(I:List D->aL->Store->Prop)(h0:I [] sl ak)
  (step:∀p x post sl S,xs=p++x::post->I p sl S->G S/\aV (g x sl S) ⟨λa' S1=>aV (body a' S1) ⟨λbH S2=>I (p++[x]) bH S2,Q.nx,λbH S2=>I (p++[x]) bH S2,Q.rt,Q.ex⟩,λ_ _=>False,λ_ _=>False,λ_ _=>False,λ_ _ _=>False⟩)
  (gU:∀sl S,I xs sl S->G S/\Q.nx sl S):aV (uD it g body sl S) Q:=by
 rw[abg,hit,bh];exact Sd I xs [] sl ak h0 step gU
theorem Kj{c:cz}(I:Nat->aL->Store->Prop)(step:∀k sl S,I k sl S->We (c sl S) (λb S1=>if b=true then aV (body sl S1) ⟨λbH S2=>∃j,j<k/\I j bH S2,Q.nx,λbH S2=>∃j,j<k/\I j bH S2,Q.rt,Q.ex⟩else Q.nx sl S1) (λe S1=>Q.ex e sl S1)) :
  ∀(n k:Nat) (sl:aL) (S:Store),I k sl S->k<n->aV (uB c body n sl S) Q
 |0,_,_,_,_,h=>absurd h (Nat.not_lt_zero _)
 |n+1,k,sl,S,jT,h=>by
  have h2:=step k sl S jT;unfold uB;rw[qS];refine h2.post λb S1 hb=>?_;cases b with
  |false=>simpa using hb
  |true =>
   simp only[if_true]at hb ⊢;cases e2:body sl S1 with
   |nx bH S2=>rw[e2,la]at hb;obtain⟨j,cm,Kk⟩:=hb;exact Kj I step n j bH S2 Kk (jr cm (Nat.le_of_lt_succ h))
   |ct bH S2=>rw[e2,J_]at hb;obtain⟨j,cm,Kk⟩:=hb;exact Kj I step n j bH S2 Kk (jr cm (Nat.le_of_lt_succ h))
   |bk bH S2=>simp_all
   |rt d S2=>simp_all
   |ex e bH S2=>simp_all
   |bad=>simp_all
theorem Ay{c:cz}(k:Nat)(I:Nat->aL->Store->Prop)(h0:I k sl S)(hk:k<1000000)(step:∀k sl S,I k sl S->We (c sl S) (λb S1=>if b=true then aV (body sl S1) ⟨λbH S2=>∃j,j<k/\I j bH S2,Q.nx,λbH S2=>∃j,j<k/\I j bH S2,Q.rt,Q.ex⟩else Q.nx sl S1) (λe S1=>Q.ex e sl S1)):aV (se c body sl S) Q :=
 Kj I step uC k sl S h0 hk
variable{bt:cz}{fe:aM}{n:Nat}
theorem Se{Kl:Unit->Store->Prop}{ED:aL}(I:List D->List D->Store->Prop)(hn:∀p acc S,I p acc S->S.length=n/\acc.length<=p.length):∀(xs pre acc:List D) (S:Store),(pre++xs).length<=1000000->I pre acc S ->
  (∀p x post acc S,pre++xs=p++x::post->I p acc S->G (S++[.lst acc])/\aV (g x ED (S++[.lst acc])) ⟨λa' S1=>We (bt a' S1) (λb S2=>if b=true then We (fe a' S2) (λd aW=>∃b5,aW=b5++[.lst acc]/\I (p++[x]) (acc++[d]) b5) (λ_ _=>False)else ∃b5,S2=b5++[.lst acc]/\I (p++[x]) acc b5) (λ_ _=>False),λ_ _=>False,λ_ _=>False,λ_ _=>False,λ_ _ _=>False⟩) ->
  (∀acc S,I (pre++xs) acc S->G (S++[.lst acc])/\Kl () (S++[.lst acc]))->We (iL G g bt fe n ED xs (S++[.lst acc])) Kl X
 |[],pre,acc,S,hl,h0,step,gU=>by
  rw[ug]at gU;obtain⟨h1,h2⟩:=gU acc S h0;simp only[iL,if_pos h1,bh];exact h2
 |x::xs,pre,acc,S,hl,h0,step,gU=>by
  obtain⟨h1,h2⟩:=step pre x xs acc S rfl h0;simp only[iL,if_pos h1];have Km:pre++x::xs=(pre++[x])++xs:=by simp
  have next:∀acc S2,I (pre++[x]) acc S2->We (iL G g bt fe n ED xs (S2++[.lst acc])) Kl X:=λacc S2 jT =>
   Se I hn xs (pre++[x]) acc S2 (by grind) jT (λp y post acc S he hp=>step p y post acc S (by grind) hp) (λacc S jT=>gU acc S (by grind))
  cases e:g x ED (S++[.lst acc])with
  |nx a' S1 =>
   rw[e]at h2;simp only[la]at h2;dsimp only;cases e2:bt a' S1 with
   |ok b S2 =>
    rw[e2,bh]at h2;cases b with
    |false =>
     grind
    |true =>
     simp only[if_true]at h2;cases bj:fe a' S2 with
     |ok d aW =>
      rw[bj,bh]at h2;obtain⟨b5,rfl,bE⟩:=h2;obtain⟨vf,sH⟩:=hn _ _ _ bE;have hg:(b5++[dk.lst acc])[n]?=some (.lst acc):=by rw[List.getElem?_append_right (by omega),vf];simp
      have c7:acc.length<1000000:=by
       have:=(hn _ _ _ h0).2;simp only[List.length_append,List.length_cons]at hl;omega
      grind
     |ex _ _=>rw[bj,xN]at h2;exact h2.elim
     |bad=>rw[bj,J9]at h2;exact h2.elim
   |ex _ _=>rw[e2,xN]at h2;exact h2.elim
   |bad=>rw[e2,J9]at h2;exact h2.elim
  |bk _ _=>rw[e,RY]at h2;exact h2.elim
  |ct _ _=>rw[e,J_]at h2;exact h2.elim
  |rt _ _=>rw[e,J']at h2;exact h2.elim
  |ex _ _ _=>rw[e,Ka]at h2;exact h2.elim
  |bad=>rw[e,R0]at h2;exact h2.elim
theorem Sf{it:gQ}{own:List Nat}{P:D->Store->Prop}{xs:List D}{ak:Store}(hit:it sl S=.ok (xs,G) ak)(hl:xs.length<=1000000)(I:List D->List D->Store->Prop)(hn:∀p acc S,I p acc S->S.length=ak.length/\acc.length<=p.length)(h0:I [] [] ak)
  (step:∀p x post acc S,xs=p++x::post->I p acc S->G (S++[.lst acc])/\aV (g x (cE sl own) (S++[.lst acc])) ⟨λa' S1=>We (bt a' S1) (λb S2=>if b=true then We (fe a' S2) (λd aW=>∃b5,aW=b5++[.lst acc]/\I (p++[x]) (acc++[d]) b5) (λ_ _=>False)else ∃b5,S2=b5++[.lst acc]/\I (p++[x]) acc b5) (λ_ _=>False),λ_ _=>False,λ_ _=>False,λ_ _=>False,λ_ _ _=>False⟩)
  (gU:∀acc S,I xs acc S->G (S++[.lst acc])/\P (.ptr S.length) (S++[.lst acc])):We (cK it g bt fe own sl S) P X:=by
 unfold cK;rw[fH,hit,bh];show We ((iL G g bt fe ak.length (cE sl own) xs (ak++[.lst []])).bind λ_ S2=>.ok (.ptr ak.length) S2) P X;rw[fH];refine Se I hn xs [] [] ak hl h0 step λacc S jT=>?_;obtain⟨h1,h2⟩:=gU acc S jT;rw[(hn _ _ _ jT).1]at h2;simp_all
theorem Sh{it:gQ}{own:List Nat}{P:D->Store->Prop}{xs:List D}(p:D->Bool)(bY:D->D)(hit:it sl S=.ok (xs,G) S)(hl:xs.length<=1000000)(bp:∀acc,G (S++[.lst acc]))
  (step:∀x∈xs,∀acc,aV (g x (cE sl own) (S++[.lst acc])) ⟨λa' S1=>We (bt a' S1) (λb S2=>b=p x/\if p x=true then We (fe a' S2) (λd aW=>aW=S++[.lst acc]/\d=bY x) (λ_ _=>False)else S2=S++[.lst acc]) (λ_ _=>False),λ_ _=>False,λ_ _=>False,λ_ _=>False,λ_ _ _=>False⟩)
  (gU:P (.ptr S.length) (S++[.lst ((xs.filter p).map bY)])):We (cK it g bt fe own sl S) P X:=by
 refine Sf hit hl (λpre acc S1=>S1=S/\acc=(pre.filter p).map bY) (λpre acc S1 h=>⟨by rw[h.1],by grind⟩) ⟨rfl,rfl⟩ (λpre x post acc S1 he h=>?_) (λacc S1 h=>?_)
 .obtain⟨abv,rfl⟩:=h
  subst abv;refine⟨bp _,(step x (by rw[he];simp) _).mono (λa' S1 h=>h.post λb S2 h=>?_) (λ_ _ h=>h) (λ_ _ h=>h) (λ_ _ h=>h) (λ_ _ _ h=>h)⟩;obtain⟨rfl,h⟩:=h;split at h
  .rename_i hp
   rw[if_pos hp];exact h.post λd aW ⟨au,e2⟩=>⟨_,au,rfl,by grind⟩
  grind
 grind
theorem abw{it:gQ}{own:List Nat}{P:D->Store->Prop}{xs:List D}(p:D->Bool)(bY:D->D)(hit:it sl S=.ok (xs,G) S)(hl:xs.length<=1000000)(bp:∀acc,G (S++[.lst acc]))
  (step:∀x∈xs,∀acc,aV (g x (cE sl own) (S++[.lst acc])) ⟨λa' S1=>We (bt a' S1) (λb S2=>b=p x/\if p x=true then We (fe a' S2) (λd aW=>aW=S++[.lst acc]/\d=bY x) (λ_ _=>False)else S2=S++[.lst acc]) (λ_ _=>False),λ_ _=>False,λ_ _=>False,λ_ _=>False,λ_ _ _=>False⟩)
  (aT:∀x∈xs,p x=true->bg S.length (bY x)=true)
  (gU:P (.lst ((xs.filter p).map bY)) S):We (cK it g bt fe own sl S) (eY S P) X:=by
 refine Sh p bY hit hl bp step (Kh (fG.refl S) ?_ gU);rw[ku];grind
end
theorem abx{α:Type}{l:List α}:l.filter (λ_=>true)=l:=HM.mpr λ_ _=>(rfl)
section
variable{S:Store}{sl:aL}
theorem sI{f:aM}{d:D}{S1:Store}{xs:List D}(h:f sl S=.ok d S1)(hx:d9 S1 d=some xs):ho f sl S=.ok (xs,λS2=>d9 S2 d=some xs) S1:=by
 unfold ho;rw[h];show u0 d S1=_;unfold u0;cases d<;>first|(simp[d9,c9,cY]at hx;done)|(simp only[hx])
theorem Kn{f:aM}{j:Int}{S1:Store}(h:f sl S=.ok (.int j) S1)(h1:0<=j)(h2:j<2 ^ 62):mW (ag f ai) sl S=.ok (jQ 0 j.toNat,λ_=>True) S1:=by
 simp only[mW,ag,ai,h,ov];grind
theorem aby{f1 f2:aM}{d e:D}{S1 S2:Store}{xs ys:List D}(h1:f1 sl S=.ok d S1)(h2:f2 sl S1=.ok e S2)(hx:d9 S2 d=some xs)(a6:d9 S2 e=some ys) :
  Ae (ag f1 (ag f2 ai)) sl S=.ok (u5 xs ys,λS2=>d9 S2 d=some xs/\d9 S2 e=some ys) S2:=by
 simp only[Ae,ag,ai,h1,h2,ov,hx,a6]
theorem abz{f1:aM}{d:D}{S1:Store}{xs:List D}(h1:f1 sl S=.ok d S1)(hx:d9 S1 d=some xs) :
  qO (ag f1 ai) sl S=.ok (oh 0 xs,λS2=>d9 S2 d=some xs) S1:=by
 simp only[qO,ag,ai,h1,ov,hx]
theorem Si{i:Nat}{d:D}(h:sl[i]?=some (some d)):ae i sl S=.ok d S:=by simp only[ae,h]
@[simp] theorem aol(s:Str):d9 S (.str s)=some (Ac s):=(rfl)
@[simp] theorem qU(xs:List D):d9 S (.lst xs)=some xs:=(rfl)
@[simp] theorem EF(xs:List D):d9 S (.tup xs)=some xs:=(rfl)
@[simp] theorem aom(xs:List D):c9 S (.tup xs)=some xs:=(rfl)
@[simp] theorem EG(xs:List D):cY S (.lst xs)=some xs:=(rfl)
end
section
variable{S:Store}{P:D->Store->Prop}{X:D->Store->Prop}
@[simp] theorem Ko{α:Type}(xs:List α)(k:Nat):atI xs (k:Int)=xs[k]?:=by
 unfold atI ixN;grind
@[simp] theorem aon{α:Type}(xs:List α):atI xs 0=xs[0]?:=Ko xs 0
@[simp] theorem aoo{α:Type}(xs:List α):atI xs 1=xs[1]?:=Ko xs 1
@[simp] theorem aop{α:Type}(xs:List α):atI xs 2=xs[2]?:=Ko xs 2
theorem Sj{α:Type}{xs:List α}(h:xs≠[]):atI xs (-1)=some (xs.getLast h):=by
 have hp:=List.length_pos_iff.mpr h;unfold atI ixN;rw[if_neg (by omega),if_pos (by omega)];simp only[Option.bind_some];rw[List.getLast_eq_getElem,List.getElem?_eq_some_iff];exact⟨by omega,by congr 1;omega⟩
theorem oy{f g:bZ}{d e:D}{a:D}{ak:Store}(h:f d e S=.ok a ak):cX f g d e S=.ok a ak:=by unfold cX;rw[h]
theorem gV{f g:bZ}{d e:D}(h:f d e S=.bad):cX f g d e S=g d e S:=by unfold cX;rw[h]
theorem Sl{f g:aD}{d:List D}{a:D}{ak:Store}(h:f d S=.ok a ak):nX f g d S=.ok a ak:=by unfold nX;rw[h]
theorem EH{f g:aD}{d:List D}(h:f d S=.bad):nX f g d S=g d S:=by unfold nX;rw[h]
@[simp] theorem aoq{xs:List D}{i:Int}:We (a7 (.lst xs) (.int i) S) P X=∃x,atI xs i=some x/\P x S:=by
 rw[J6];cases atI xs i<;>simp
@[simp] theorem aor{xs:List D}{i:Int}:We (a7 (.tup xs) (.int i) S) P X=∃x,atI xs i=some x/\P x S:=by
 rw[abd];cases atI xs i<;>simp
@[simp] theorem abA{l:List Nat}{i:Int}:We (a7 (.str (ao l)) (.int i) S) P X=(l.length<=1000000/\∃c,atI l i=some c/\P (hV c) S):=by
 by_cases h:l.length<=1000000
 .cases e:atI l i with
  |none =>
   have:a7 (.str (ao l)) (.int i) S=.bad:=by
    unfold a7;rw[gV (by simp only[qD];grind)];rfl
   rw[this];simp
  |some c =>
   have:a7 (.str (ao l)) (.int i) S=.ok (hV c) S:=by
    unfold a7;exact oy (by simp only[qD];simp_all)
   simp_all
 .have:a7 (.str (ao l)) (.int i) S=.bad:=by
   unfold a7;rw[gV (by simp only[qD];rw[if_neg (by simpa using h)])];rfl
  rw[this];simp[h]
@[simp] theorem aos{s:Int}:oc (.int s)=some (.inl s):=(rfl)
@[simp] theorem aot{l:List Nat}:We (cM [.str (ao l)] S) P X=(l.length<=1000000/\P (.int l.length) S):=by
 by_cases h:l.length<=1000000
 .have:cM [.str (ao l)] S=.ok (.int l.length) S:=by
   unfold cM;refine Sl ?_;simp[zZ,h]
  simp_all
 .have:cM [.str (ao l)] S=.bad:=by
   unfold cM;rw[EH (by simp[zZ,h])];rfl
  rw[this];simp[h]
@[simp] theorem aou{xs:List D}:cM [.tup xs] S=.ok (.int xs.length) S:=by rfl
@[simp] theorem aov{xs:List D}:cM [.bS xs] S=.ok (.int xs.length) S:=by rfl
@[simp] theorem EI{xs:List D}:cM [.lst xs] S=.ok (.int xs.length) S:=by rfl
@[simp] theorem aow{ks vs:List D}:cM [.dct ks vs] S=.ok (.int ks.length) S:=by rfl
@[simp] theorem aox{a b:List Nat}:We (b7 (.str (ao a)) (.str (ao b)) S) P X=(a.length+b.length<=1000000/\P (.str (ao (a++b))) S):=by
 by_cases h:a.length+b.length<=1000000
 .have:b7 (.str (ao a)) (.str (ao b)) S=.ok (.str (ao (a++b))) S:=by
   unfold b7;rw[gV (by rfl)];exact oy (by simp[xl,h])
  simp_all
 .have:b7 (.str (ao a)) (.str (ao b)) S=.bad:=by
   unfold b7;rw[gV (by rfl),gV (by simp[xl,h]),gV (by rfl)];rfl
  rw[this];simp[h]
@[simp] theorem abB{a b:List D}:We (b7 (.lst a) (.lst b) S) P X=(a.length+b.length<=1000000/\P (.lst (a++b)) S):=by
 by_cases h:a.length+b.length<=1000000
 .have:b7 (.lst a) (.lst b) S=.ok (.lst (a++b)) S:=by
   unfold b7;rw[gV (by rfl),gV (by rfl)];exact oy (by simp[qA,cY,h])
  simp_all
 .have:b7 (.lst a) (.lst b) S=.bad:=by
   unfold b7;rw[gV (by rfl),gV (by rfl),gV (by simp[qA,cY,h])];rfl
  rw[this];simp[h]
theorem abC{neg:Bool}{c:Nat}{l:List Nat}:zW neg (hV c) (.str (ao l)) S=.ok (.bl (if neg=true then !decide (c∈l)else decide (c∈l))) S:=by
 rfl
@[simp] theorem Sn{c:Nat}{l:List Nat}:e' (hV c) (.str (ao l)) S=.ok (.bl (decide (c∈l))) S:=oy (abC (neg:=false))
theorem abD{neg:Bool}{k e:D}{xs:List D}(h:c9 S e=some xs):zW neg k e S=.bad:=by
 cases e<;>first|(simp[c9,cY]at h;done)|(cases k<;>rfl)
theorem abE{neg:Bool}{k e:D}{xs:List D}(h:c9 S e=some xs):z8 neg k e S=.bad:=by
 unfold z8;have:asD S e=none:=by
  cases e with
  |ptr n =>
   simp only[c9,cY]at h;split at h
   .rename_i ds e;simp[asD,e]
   .cases h
  |_=>first|rfl|(simp[c9,cY]at h;done)
 rw[this]
theorem Sq{k e:D}{xs:List D}(h:c9 S e=some xs)(hk:n8 k=true)(hx:xs.all n8=true):e' k e S=.ok (.bl (inD k xs)) S:=by
 unfold e';rw[gV (abD h),gV (abE h)];unfold D8;grind
@[simp] theorem aoy{c:Nat}{l:List Nat}:inD (hV c) (l.map hV)=decide (c∈l):=by
 unfold inD
 induction l with
 |nil=>rfl
 |cons x l ih =>
  rw[c1,List.any_cons,ih];have:xm (hV x) (hV c)=decide (x=c):=by
   show((ao [x])==(ao [c]))=_;by_cases h:x=c
   .subst h;simp
   .simp[h]
  grind
theorem sIx_nat(n d k:Nat):HT.sIx n d (some (k:Int))=min k n:=HT.sIx_nat n d k
@[simp] theorem abF(l:List Nat)(k:Nat):cutS (ao l) (some (k:Int)) none=ao (l.drop k):=by
 unfold cutS;congr 1;rw[HT.sIx_none,sIx_nat,m4];grind
@[simp] theorem abG(l:List Nat)(k:Nat):cutS (ao l) none (some (k:Int))=ao (l.take k):=by
 unfold cutS;congr 1;rw[HT.sIx_none,sIx_nat,m4];simp
@[simp] theorem Sr(l:List Nat)(j k:Nat):cutS (ao l) (some (j:Int)) (some (k:Int))=ao ((l.take k).drop j):=by
 unfold cutS;congr 1;rw[sIx_nat,sIx_nat,m4];grind
@[simp] theorem abH(l:List D)(k:Nat):h_ l (some (k:Int)) none=l.drop k:=by
 unfold h_;rw[HT.sIx_none,sIx_nat];rw[List.take_of_length_le (by simp)];simp
@[simp] theorem abI(l:List D)(k:Nat):h_ l none (some (k:Int))=l.take k:=by
 unfold h_;rw[HT.sIx_none,sIx_nat,List.drop_zero,Nat.sub_zero];simp
@[simp] theorem aoz(l:List D):h_ l none (some 63)=l.take 63:=abI l 63
@[simp] theorem abJ(l:List Nat):cutS (ao l) (some 1) none=ao (l.drop 1):=abF l 1
@[simp] theorem abK(l:List Nat):cutS (ao l) none (some 1)=ao (l.take 1):=abG l 1
@[simp] theorem abL{h:Bool}{l:List Nat}{lo hi:Option Int}:We (uW h (.str (ao l)) lo hi S) P X=(l.length<=1000000/\P (.str (cutS (ao l) lo hi)) S):=by
 by_cases h:l.length<=1000000<;>simp[uW,h]
@[simp] theorem aoA{h:Bool}{xs:List D}{lo hi:Option Int}:uW h (.tup xs) lo hi S=.ok (.tup (h_ xs lo hi)) S:=(rfl)
@[simp] theorem aoB{xs:List Int}{lo hi:Option Int}:uW false (.cy xs) lo hi S=.ok (.lst (h_ (xs.map .int) lo hi)) S:=(rfl)
@[simp] theorem Ss{ds:List D}:We (b2 ds S) P X=(ds.length<=1000000/\P (.tup ds) S):=by
 unfold b2;by_cases h:ds.length<=1000000<;>simp[h]
@[simp] theorem aoC{ds:List D}:We (fL ds S) P X=(ds.length<=1000000/\P (.lst ds) S):=by
 unfold fL;by_cases h:ds.length<=1000000<;>simp[h]
@[simp] theorem aoD{ds:List D}:We (mM ds S) P X=(ds.length<=1000000/\P (.ptr S.length) (S++[.lst ds])):=by
 unfold mM;by_cases h:ds.length<=1000000<;>simp[h]
@[simp] theorem abM{α:Type}{p:α->Bool}{xs:List α}:xq (xs.map λx=>.bl (p x))=some (xs.map p):=by
 induction xs with
 |nil=>rfl
 |cons x xs ih=>simp[xq,ih]
@[simp] theorem abN{α:Type}{p:α->Bool}{xs:List α}:pe [.lst (xs.map λx=>.bl (p x))] S=.ok (.bl (xs.all p)) S:=by
 simp only[pe,EG,abM];simp
theorem Sv{α:Type}{xs:List α}:pe [.lst (xs.map λ_=>.bl true)] S=.ok (.bl true) S:=by
 simp
@[simp] theorem aoE{xs:List D}:ph [.lst xs] S=.ok (.lst xs) S:=(rfl)
@[simp] theorem abO{xs:List D}:z1 [.lst xs] S=.ok (.tup xs) S:=(rfl)
@[simp] theorem aoF{i:Int}:i9 [.int i] S=.ok (.int i) S:=(rfl)
@[simp] theorem Sw{xs:List (List Nat)}:xv (xs.map λl=>.str (ao l))=some (xs.map ao):=by
 induction xs with
 |nil=>rfl
 |cons x xs ih=>simp[xv,ih]
theorem abP:∀xs:List (List Nat),Txt.join (ao []) (xs.map ao)=ao xs.flatten:=λxs=>by
 unfold Txt.join;rw[StrLaws.glued_eq_join]
 induction xs with
 |nil=>rfl
 |cons a xs ih =>
  cases xs with
  |nil=>simp[Str.join]
  |cons b r =>
   simp only[c1,Str.join]at ih ⊢;simp_all
@[simp] theorem abQ{xs:List (List Nat)}{d:D}(h:c9 S d=some (xs.map λl=>.str (ao l))):We (kl (.str (ao [])) [d] S) P X=((xs.map List.length).sum<=1000000/\P (.str (ao xs.flatten)) S):=by
 simp only[kl,h,Sw];rw[abP];have e:(List.map (λx=>x.length) (List.map ao xs)).sum+(List.map ao xs).length * (ao []).length=(xs.map List.length).sum:=by
  rw[m4];simp only[mH,Nat.mul_zero,Nat.add_zero,mG];congr 1
 rw[e];by_cases h:(xs.map List.length).sum<=1000000<;>simp[h]
theorem Sx:∀l:List Nat,((l.map λc=>[c]).map List.length).sum=l.length
 |[]=>rfl
 |a::l=>by
  have:=Sx l;grind
theorem Sy:∀l:List Nat,(l.map λc=>[c]).flatten=l
 |[]=>rfl
 |a::l=>by simp[Sy l]
theorem abR{l:List Nat}{d:D}(h:c9 S d=some (l.map hV)):We (kl (.str (ao [])) [d] S) P X=(l.length<=1000000/\P (.str (ao l)) S):=by
 have:=abQ (P:=P) (X:=X) (S:=S) (xs:=l.map λc=>[c]) (d:=d) (by rw[h];simp);rw[this];rw[Sx,Sy]
@[simp] theorem aoG:cC .non "int"=some false:=by decide
@[simp] theorem aoH:cC .non "bool"=some false:=by decide
@[simp] theorem aoI:cC .non "str"=some false:=by decide
@[simp] theorem aoJ:cC .non "list"=some false:=by decide
@[simp] theorem aoK:cC .non "tuple"=some false:=by decide
@[simp] theorem aoL:cC .non "dict"=some false:=by decide
@[simp] theorem aoM:cC .bl "int"=some true:=by decide
@[simp] theorem aoN:cC .bl "bool"=some true:=by decide
@[simp] theorem aoO:cC .bl "str"=some false:=by decide
@[simp] theorem aoP:cC .bl "list"=some false:=by decide
@[simp] theorem aoQ:cC .bl "tuple"=some false:=by decide
@[simp] theorem aoR:cC .bl "dict"=some false:=by decide
@[simp] theorem aoS:cC .int "int"=some true:=by decide
@[simp] theorem aoT:cC .int "bool"=some false:=by decide
@[simp] theorem aoU:cC .int "str"=some false:=by decide
@[simp] theorem aoV:cC .int "list"=some false:=by decide
@[simp] theorem aoW:cC .int "tuple"=some false:=by decide
@[simp] theorem aoX:cC .int "dict"=some false:=by decide
@[simp] theorem aoY:cC .str "int"=some false:=by decide
@[simp] theorem aoZ:cC .str "bool"=some false:=by decide
@[simp] theorem ao0:cC .str "str"=some true:=by decide
@[simp] theorem ao1:cC .str "list"=some false:=by decide
@[simp] theorem jps:cC .str "tuple"=some false:=by decide
@[simp] theorem ao2:cC .str "dict"=some false:=by decide
@[simp] theorem ao3:cC .tup "int"=some false:=by decide
@[simp] theorem ao4:cC .tup "bool"=some false:=by decide
@[simp] theorem ao5:cC .tup "str"=some false:=by decide
@[simp] theorem ao6:cC .tup "list"=some false:=by decide
@[simp] theorem ao7:cC .tup "tuple"=some true:=by decide
@[simp] theorem ao8:cC .tup "dict"=some false:=by decide
@[simp] theorem ao9:cC .lst "int"=some false:=by decide
@[simp] theorem apa:cC .lst "bool"=some false:=by decide
@[simp] theorem apb:cC .lst "str"=some false:=by decide
@[simp] theorem apc:cC .lst "list"=some true:=by decide
@[simp] theorem apd:cC .lst "tuple"=some false:=by decide
@[simp] theorem ape:cC .lst "dict"=some false:=by decide
@[simp] theorem apf:cC .dct "int"=some false:=by decide
@[simp] theorem apg:cC .dct "bool"=some false:=by decide
@[simp] theorem aph:cC .dct "str"=some false:=by decide
@[simp] theorem api:cC .dct "list"=some false:=by decide
@[simp] theorem apj:cC .dct "tuple"=some false:=by decide
@[simp] theorem apk:cC .dct "dict"=some true:=by decide
@[simp] theorem apl:i7 S .non=some .non:=(rfl)
@[simp] theorem apm{b:Bool}:i7 S (.bl b)=some .bl:=(rfl)
@[simp] theorem apn{b:Int}:i7 S (.int b)=some .int:=(rfl)
@[simp] theorem apo{b:Str}:i7 S (.str b)=some .str:=(rfl)
@[simp] theorem apq{b:List D}:i7 S (.tup b)=some .tup:=(rfl)
@[simp] theorem apr{b:List D}:i7 S (.bS b)=some .tup:=(rfl)
@[simp] theorem aps{b:List D}:i7 S (.lst b)=some .lst:=(rfl)
@[simp] theorem apt{d:D}{T:String}:We (dS [d,.ty T] S) P X=lV (i7 S d) λk=>lV (cC k T) λb=>P (.bl b) S:=by
 cases e:i7 S d with
 |none =>
  have:dS [d,.ty T] S=.bad:=by
   unfold dS;rw[EH (by simp[uN,e])];simp[uO]
  rw[this];simp
 |some k =>
  cases e2:cC k T with
  |none =>
   have:dS [d,.ty T] S=.bad:=by
    unfold dS;rw[EH (by simp[uN,e,e2])];simp[uO]
   simp_all
  |some b =>
   have:dS [d,.ty T] S=.ok (.bl b) S:=by
    unfold dS;exact Sl (by simp[uN,e,e2])
   simp_all
@[simp] theorem apu{d:D}{ts:List D}:We (dS [d,.tup ts] S) P X=lV (i7 S d) λk=>lV (pd ts) λk7=>lV (n9 k k7) λb=>P (.bl b) S:=by
 have cG:dS [d,.tup ts] S=uO [d,.tup ts] S:=by
  unfold dS;exact EH (by simp[uN])
 rw[cG];simp only[uO];cases e:i7 S d with
 |none=>simp
 |some k =>
  cases au:pd ts with
  |none=>simp
  |some k7 =>
   dsimp only;cases e2:n9 k k7<;>simp[e2]
@[simp] theorem apv:pd []=some []:=(rfl)
@[simp] theorem apw{T:String}{r:List D}:pd (.ty T::r)=(pd r).map (T :: ·):=(rfl)
@[simp] theorem apx{k:lP}:n9 k []=some false:=(rfl)
@[simp] theorem apy{k:lP}{T:String}{r:List String}:n9 k (T::r)=(cC k T).bind λb=>(n9 k r).map λc=>b||c:=by
 simp only[n9];cases cC k T<;>cases n9 k r<;>rfl
def jU(l:List Nat):Prop:=∀c∈l,c<1114112
theorem EJ{l:List Nat}(h:jU l):SeqAt.shaped (.str (ao l))=true:=aa8 (by
 unfold PyData.strOk;simp;exact h)
theorem vg{a b:List Nat}(ha:jU a)(hb:jU b):aU false (.str (ao a)) (.str (ao b)) S=.ok (.bl (decide (a=b))) S:=by
 simp[aU,toP,dt,PyData.eqv,EJ ha,EJ hb];grind
theorem vh{a b:List Nat}(ha:jU a)(hb:jU b):aU true (.str (ao a)) (.str (ao b)) S=.ok (.bl (!decide (a=b))) S:=by
 simp[aU,toP,dt,PyData.eqv,EJ ha,EJ hb];grind
@[simp] theorem apz{a b:Bool}:aU false (.bl a) (.bl b) S=.ok (.bl (decide (a=b))) S:=by
 rfl
@[simp] theorem apA{a b:Bool}:aU true (.bl a) (.bl b) S=.ok (.bl (!decide (a=b))) S:=by
 rfl
@[simp] theorem apB{d:D}{neg:Bool}:uM neg d .non S=.ok (.bl (if neg=true then !qz d else qz d)) S:=(rfl)
@[simp] theorem apC:qz .non=true:=(rfl)
@[simp] theorem apD{b:Bool}:qz (.bl b)=false:=(rfl)
@[simp] theorem apE{b:Int}:qz (.int b)=false:=(rfl)
@[simp] theorem apF{b:Str}:qz (.str b)=false:=(rfl)
end
def xP:SX :=
 (bq (aw mM (ag (aw ph (ag (gD false (ae 0) hT (e8 (ah (.int 63)))) ai)) (ag (ah (.int 0)) (ag (ah (.int 0)) (ag (ah (.int 5625)) ai))))))
def Az:aD:=cS 1 (Ai 1 xP)
def hB:SX :=
 (aO (bG (mL (aK (az (aU false) (az a7 (ae 0) (ah (.int 2))) (ah (.int 0)))) (aK (az k' (az a7 (ae 0) (ah (.int 1))) (aw cM (ag (az a7 (ae 0) (ah (.int 0))) ai)))))
 (aO (bX (az a7 (az a7 (ae 0) (ah (.int 0))) (az a7 (ae 0) (ah (.int 1)))) (aX 2))
 (aO (bX (az b7 (az a7 (ae 0) (ah (.int 1))) (ah (.int 1))) (km (ae 0) (ah (.int 1))))
 (bG (aK (az zV (ae 2) (az D4 (ah (.int 10)) (ah (.int 18)))))
 (bX (ae 2) (km (ae 0) (ah (.int 2))))
 (bX (az i6 (aw i9 (ag (az b7 (az b7 (az hy (az a7 (ae 0) (ah (.int 3))) (ah (.int 48817))) (az hy (az i6 (aw i9 (ag (ae 2) ai)) (ah (.int 2147483399))) (ah (.int 9241)))) (ah (.int 17))) ai)) (ah (.int 2147483563))) (km (ae 0) (ah (.int 3)))))))
 bI)
 (aO (bG (aK (az kg (az a7 (ae 0) (ah (.int 2))) (ah (.int 0))))
 (aO (bX (az i6 (aw i9 (ag (az a7 (ae 0) (ah (.int 2))) ai)) (ae 1)) (aX 3))
 (aO (bX (az i5 (az a7 (ae 0) (ah (.int 2))) (ae 1)) (km (ae 0) (ah (.int 2))))
 (bq (ae 3))))
 bI)
 (aO (bX (az a7 (ae 0) (ah (.int 3))) (aX 4))
 (aO (bX (az i6 (aw i9 (ag (az b7 (az b7 (az hy (ae 4) (ae 4)) (az hy (ae 4) (ah (.int 31013)))) (ah (.int 1402361))) ai)) (ah (.int 2147483563))) (km (ae 0) (ah (.int 3))))
 (bq (az i6 (aw i9 (ag (az b7 (az i5 (az a7 (ae 0) (ah (.int 3))) (ah (.int 71))) (az hy (az i6 (aw i9 (ag (az a7 (ae 0) (ah (.int 3))) ai)) (ah (.int 7907))) (ah (.int 59)))) ai)) (ae 1)))))))
def ig:aD:=cS 2 (bN 5 hB)
def m6:SX :=
 (bq (az a7 (ae 1) (aw ig (ag (ae 0) (ag (aw cM (ag (ae 1) ai)) ai)))))
def jV:aD:=cS 2 (bN 2 m6)
def lh(again:aD):SX :=
 (aO (bG (aK (aw dS (ag (ae 1) (ag (aw b2 (ag (ah (.ty "list")) (ag (ah (.ty "tuple")) ai))) ai))))
 (aO (bG (e4 (aK (az (aU true) (aw dS (ag (ae 0) (ag (ah (.ty "list")) ai))) (aw dS (ag (ae 1) (ag (ah (.ty "list")) ai))))) (aK (az (aU true) (aw dS (ag (ae 0) (ag (ah (.ty "tuple")) ai))) (aw dS (ag (ae 1) (ag (ah (.ty "tuple")) ai))))))
 (bq (ah (.bl false)))
 bI)
 (bq (iB (az (aU false) (aw cM (ag (ae 0) ai)) (aw cM (ag (ae 1) ai))) (aw pe (ag (c' (cK (Ae (ag (ae 0) (ag (ae 1) ai))) (hP (cP (aX 2) (cP (aX 3) gA))) di (aw again (ag (ae 2) (ag (ae 3) ai))) [2,3])) ai)))))
 bI)
 (aO (bG (e4 (aK (az (uM false) (ae 1) (ah .non))) (aK (az (uM false) (ae 0) (ah .non))))
 (bq (iB (az (uM false) (ae 1) (ah .non)) (az (uM false) (ae 0) (ah .non))))
 bI)
 (aO (bG (e4 (aK (az (aU true) (aw dS (ag (ae 0) (ag (ah (.ty "bool")) ai))) (aw dS (ag (ae 1) (ag (ah (.ty "bool")) ai))))) (aK (az (aU true) (aw dS (ag (ae 0) (ag (ah (.ty "int")) ai))) (aw dS (ag (ae 1) (ag (ah (.ty "int")) ai))))))
 (bq (ah (.bl false)))
 bI)
 (bq (iB (az (aU false) (aw dS (ag (ae 0) (ag (ah (.ty "str")) ai))) (aw dS (ag (ae 1) (ag (ah (.ty "str")) ai)))) (az (aU false) (ae 0) (ae 1)))))))
def pA:Nat->aD
 |0=>λ_ _=>.bad
 |k+1=>cS 2 (bN 4 (lh (pA k)))
def xQ:aD:=pA 12
def gJ(cs:List Int)(a g s:Int):dk:=.lst [.lst (cs.map .int),.int a,.int g,.int s]
theorem abS(cs:List Int)(a g cx:Int)(S:Store)(n:Nat)(many:Int)(eI:S[n]?=some (gJ cs a g cx))(hb:0<g)(hm:0<many)(pB:many.natAbs.log2<9000) :
  (hB [some (.ptr n),some (.int many),none,none,none] S).out=.ok (.int (g % many)) (S.set n (gJ cs a (g / many) cx)):=by
 unfold gJ at eI ⊢;have hg:¬(g=0):=by omega
 have hn:n<S.length:=(List.getElem?_eq_some_iff.mp eI).1;simp[hB,aO,bG,mL,aK,az,ae,ah,vd eI,atI,ixN,hg,bI,hb,bX,aw,ag,ai,i9,m3 hm,vb hm pB,aX,km,uU,eI,bq]
theorem Sz{xs:List D}{i:Int}(h0:0<=i)(h:i<xs.length):atI xs i=xs[i.toNat]?:=by
 simp[atI,ixN,h0,h]
theorem abT(cs:List Int)(a cx c:Int)(S:Store)(n:Nat)(many:Int)(eI:S[n]?=some (gJ cs a 0 cx))(ha:0<=a)(hl:a<cs.length)(hc:cs[a.toNat]?=some c)(lQ:1000000000000000000<=c)(hm:0<many)(pB:many.natAbs.log2<9000) :
  (hB [some (.ptr n),some (.int many),none,none,none] S).out=.ok (.int (c % many)) (S.set n (gJ cs (a+1) (c / many) cx)):=by
 unfold gJ at eI ⊢;have hn:n<S.length:=(List.getElem?_eq_some_iff.mp eI).1;have abU:0<c:=by omega
 have Kq:a7 (.lst (cs.map .int)) (.int a) S=.ok (.int c) S:=by rw[J6,Sz ha (by grind)];simp[hc]
 have SA:∀m eU:dk,(S.set n m).set n eU=S.set n eU:=λm eU=>by simp
 have m7:∀m:dk,(S.set n m)[n]?=some m:=λm=>mE hn;have Kr:D4 (.int 10) (.int 18)=λS=>.ok (.int 1000000000000000000) S:=by funext S;rfl
 simp[hB,aO,bG,mL,aK,az,ae,ah,vd eI,atI,ixN,bI,bX,aw,ag,ai,i9,m3 hm,vb hm pB,aX,km,uU,eI,bq,EI,hl,Kq,vd (m7 _),m7,Kr,lQ,abU]
theorem EK{i:Int}(h:i.natAbs<2 ^ 60):i.natAbs.log2<60:=by
 by_cases h0:i.natAbs=0
 .rw[h0];decide
 .exact(Nat.log2_lt h0).mpr h
theorem qV{i j:Int}(S:Store)(h:i.natAbs<2 ^ 60)(h2:j.natAbs<2 ^ 60):hy (.int i) (.int j) S=.ok (.int (i * j)) S:=by
 have:=EK h;have:=EK h2;exact abb (by omega) S
def jW(cx c:Int):Int:=(cx * 48817+c % 2147483399 * 9241+17) % 2147483563
def sJ(cx:Int):Int:=(cx * cx+cx * 31013+1402361) % 2147483563
def EL(cx:Int):Int:=cx / 71+cx % 7907 * 59
theorem ER(cx:Int):0<=sJ cx/\sJ cx<2147483563:=⟨Int.emod_nonneg _ (by decide),HP _ (by decide)⟩
theorem abV(cx c:Int):0<=jW cx c/\jW cx c<2147483563:=⟨Int.emod_nonneg _ (by decide),HP _ (by decide)⟩
theorem abW(cs:List Int)(a cx:Int)(S:Store)(n:Nat)(many:Int)(eI:S[n]?=some (gJ cs a 0 cx))(ha:0<=a)(hl:¬a<cs.length)(h0:0<=cx)(h1:cx<2147483563)(hm:0<many)(pB:many.natAbs.log2<9000) :
  (hB [some (.ptr n),some (.int many),none,none,none] S).out=.ok (.int (EL (sJ cx) % many)) (S.set n (gJ cs a 0 (sJ cx))):=by
 unfold gJ at eI ⊢;have hn:n<S.length:=(List.getElem?_eq_some_iff.mp eI).1;have SA:∀m eU:dk,(S.set n m).set n eU=S.set n eU:=λm eU=>by simp
 have m7:∀m:dk,(S.set n m)[n]?=some m:=λm=>mE hn;have bw:∀S,hy (.int cx) (.int cx) S=.ok (.int (cx * cx)) S:=λS=>qV S (by omega) (by omega);have bz:∀S,hy (.int cx) (.int 31013) S=.ok (.int (cx * 31013)) S:=λS=>qV S (by omega) (by decide);have z:∀x:Int,(x % 7907).natAbs<2 ^ 60:=λx=>by omega
 have fD:∀S x,hy (.int (x % 7907)) (.int 59) S=.ok (.int (x % 7907 * 59)) S:=λS x=>qV S (z x) (by decide);have m1:∀S x,i6 (.int x) (.int 2147483563) S=.ok (.int (x % 2147483563)) S:=λS x=>m3 (by decide) S;have m2:∀S x,i6 (.int x) (.int 7907) S=.ok (.int (x % 7907)) S:=λS x=>m3 (by decide) S;have k4:∀S x,i5 (.int x) (.int 71) S=.ok (.int (x / 71)) S:=λS x=>vb (by decide) (by decide) S;simp[hB,aO,bG,mL,aK,az,ae,ah,vd eI,atI,ixN,bI,bX,aw,ag,ai,i9,m3 hm,aX,km,uU,eI,bq,EI,hl,vd (m7 _),m7,bw,bz,fD,m1,m2,k4,EL,sJ]
theorem abX(cs:List Int)(a cx c:Int)(S:Store)(n:Nat)(many:Int)(eI:S[n]?=some (gJ cs a 0 cx))(ha:0<=a)(hl:a<cs.length)(hc:cs[a.toNat]?=some c)(lQ:¬1000000000000000000<=c)(h0:0<=cx)(h1:cx<2147483563)(hm:0<many)(pB:many.natAbs.log2<9000) :
  (hB [some (.ptr n),some (.int many),none,none,none] S).out=.ok (.int (EL (sJ (jW cx c)) % many)) (S.set n (gJ cs (a+1) 0 (sJ (jW cx c)))):=by
 unfold gJ at eI ⊢;have hn:n<S.length:=(List.getElem?_eq_some_iff.mp eI).1;have Kq:a7 (.lst (cs.map .int)) (.int a) S=.ok (.int c) S:=by rw[J6,Sz ha (by grind)];simp[hc]
 have SA:∀m eU:dk,(S.set n m).set n eU=S.set n eU:=λm eU=>by simp
 have m7:∀m:dk,(S.set n m)[n]?=some m:=λm=>mE hn;have Kr:D4 (.int 10) (.int 18)=λS=>.ok (.int 1000000000000000000) S:=by funext S;rfl
 have e:=abV cx c;have z:∀x:Int,(x % 7907).natAbs<2 ^ 60:=λx=>by omega
 have ej:∀x:Int,(x % 2147483399).natAbs<2 ^ 60:=λx=>by omega
 have AA:(jW cx c).natAbs<2 ^ 60:=by omega
 have lW:∀S,hy (.int cx) (.int 48817) S=.ok (.int (cx * 48817)) S:=λS=>qV S (by omega) (by decide);have SE:∀S x,hy (.int (x % 2147483399)) (.int 9241) S=.ok (.int (x % 2147483399 * 9241)) S:=λS x=>qV S (ej x) (by decide);have bw:∀S,hy (.int (jW cx c)) (.int (jW cx c)) S=.ok (.int (jW cx c * jW cx c)) S:=λS=>qV S AA AA;have bz:∀S,hy (.int (jW cx c)) (.int 31013) S=.ok (.int (jW cx c * 31013)) S:=λS=>qV S AA (by decide);have fD:∀S x,hy (.int (x % 7907)) (.int 59) S=.ok (.int (x % 7907 * 59)) S:=λS x=>qV S (z x) (by decide);have m1:∀S x,i6 (.int x) (.int 2147483563) S=.ok (.int (x % 2147483563)) S:=λS x=>m3 (by decide) S;have m2:∀S x,i6 (.int x) (.int 7907) S=.ok (.int (x % 7907)) S:=λS x=>m3 (by decide) S;have xR:∀S x,i6 (.int x) (.int 2147483399) S=.ok (.int (x % 2147483399)) S:=λS x=>m3 (by decide) S;have k4:∀S x,i5 (.int x) (.int 71) S=.ok (.int (x / 71)) S:=λS x=>vb (by decide) (by decide) S;have fA:(cx * 48817+c % 2147483399 * 9241+17) % 2147483563=jW cx c:=rfl;have fB:(jW cx c * jW cx c+jW cx c * 31013+1402361) % 2147483563=sJ (jW cx c):=rfl;simp[hB,aO,bG,mL,aK,az,ae,ah,vd eI,atI,ixN,bI,bX,aw,ag,ai,i9,m3 hm,aX,km,uU,eI,bq,EI,hl,Kq,vd (m7 _),m7,Kr,lQ,lW,bw,bz,fD,SE,m1,m2,xR,k4,fA,fB,EL]
theorem abY{S:Store}{n:Nat}{m:dk}(h:iI S.length m=true):mO S (S.set n m):=λi eU hi e=>by
 grind
theorem SF(k:Nat):∀cs:List Int,bC k (cs.map .int)=true
 |[]=>rfl
 |c::cs=>by rw[c1,bC,bg,SF k cs];rfl
theorem EV(k:Nat)(cs:List Int)(a g s:Int):iI k (gJ cs a g s)=true:=by
 simp[gJ,iI,bC,bg,SF]
theorem abZ{S:Store}{n:Nat}{m:dk}{d:D}(h:iI S.length m=true)(hd:∀g,cR g d=some d):fin S (.ok d (S.set n m))=.ok d (S.set n m):=by
 simp only[fin,if_pos (abY h),hd];rw[show(S.set n m).take S.length=S.set n m from List.take_of_length_le (by simp)]
structure ab0(S:Store)(n:Nat)(cs:List Int)(a g s:Int):Prop where
 at_:S[n]?=some (gJ cs a g s)
 sL:0<=a
 lj:0<=g
 s0:0<=s
 s1:s<2147483563
def ik(S:Store)(n:Nat)(cs:List Int):Prop:=∃a g s,ab0 S n cs a g s
def Drawn(n:Nat)(cs:List Int)(S ak:Store):Prop:=ik ak n cs/\∃a g s,ak=S.set n (gJ cs a g s)
section
variable{S ak AB T:Store}{n:Nat}{cs:List Int}
theorem ik.lt(h:ik S n cs):n<S.length:=by
 obtain⟨a,g,s,h⟩:=h;exact(List.getElem?_eq_some_iff.mp h.at_).1
theorem ik.app(h:ik S n cs):ik (S++T) n cs:=by
 obtain⟨a,g,s,h⟩:=h;exact⟨a,g,s,by rw[uc (List.getElem?_eq_some_iff.mp h.at_).1];exact h.at_,h.sL,h.lj,h.s0,h.s1⟩
theorem ik.ab1(h:ik (S++T) n cs)(hn:n<S.length):ik S n cs:=by
 obtain⟨a,g,s,h⟩:=h;exact⟨a,g,s,by have:=h.at_;grind,h.sL,h.lj,h.s0,h.s1⟩
theorem Drawn.refl(h:ik S n cs):Drawn n cs S S:=by
 refine⟨h,?_⟩;obtain⟨a,g,s,h⟩:=h;refine⟨a,g,s,?_⟩;have:=h.at_;rw[List.getElem?_eq_some_iff]at this;obtain⟨hn,e⟩:=this;rw[<-e,y3]
theorem Drawn.trans(h:Drawn n cs S ak)(h':Drawn n cs ak AB):Drawn n cs S AB:=by
 obtain⟨_,a,g,s,e⟩:=h;obtain⟨b,hU,fS,s',cW⟩:=h';exact⟨b,hU,fS,s',by simp_all⟩
theorem Drawn.len(h:Drawn n cs S ak):ak.length=S.length:=by
 obtain⟨_,a,g,s,e⟩:=h;rw[e];simp
theorem Drawn.keep(h:Drawn n cs S ak):fG S ak:=by
 obtain⟨_,a,g,s,e⟩:=h;rw[e];exact fG.set (EV _ _ _ _ _)
theorem Drawn.split(cZ:ik S n cs)(h:Drawn n cs (S++T) AB):∃ak,AB=ak++T/\Drawn n cs S ak:=by
 obtain⟨b,a,g,s,e⟩:=h;refine⟨S.set n (gJ cs a g s),by rw[e,HQ _ _ cZ.lt],?_,a,g,s,rfl⟩;rw[e,HQ _ _ cZ.lt]at b;exact b.ab1 (by simpa using cZ.lt)
end
def kv(n:Nat)(cs:List Int)(h:Store->Out D)(R:D->Prop):Prop:=∀S,ik S n cs->We (h S) (λd ak=>Drawn n cs S ak/\R d) (λ_ _=>False)
section
variable{n:Nat}{cs:List Int}{h:Store->Out D}{R:D->Prop}{S T:Store}{P:D->Store->Prop}{X:D->Store->Prop}
theorem kv.jd(H:kv n cs h R)(cZ:ik S n cs)(k:∀d ak,R d->Drawn n cs S ak->P d ak):We (h S) P X:=(H S cZ).mono (λd ak ⟨h1,h2⟩=>k d ak h2 h1) λ_ _ q=>q.elim
theorem kv.app(H:kv n cs h R)(cZ:ik S n cs)(k:∀d ak,R d->Drawn n cs S ak->P d (ak++T)):We (h (S++T)) P X:=(H (S++T) cZ.app).mono (λd AB ⟨h1,h2⟩=>by
 obtain⟨ak,e,aI⟩:=Drawn.split cZ h1;grind) λ_ _ q=>q.elim
theorem kv.imp{pw:D->Prop}(H:kv n cs h R)(k:∀d,R d->pw d):kv n cs h pw:=λS cZ=>(H S cZ).post λd ak ⟨h1,h2⟩=>⟨h1,k d h2⟩
theorem sM{S S1:Store}{d:D}(h:Drawn n cs S S1)(hd:bg S.length d=true)(p:P d S1):eY S P d S1:=ox h.keep hd p
end
theorem ab2{n:Nat}{cs:List Int}{many:Int}(hm:0<many)(EW:many.natAbs.log2<9000):kv n cs (ig [.ptr n,.int many]) (λd=>∃k:Nat,(k:Int)<many/\d=.int k):=λS cZ=>by
 have Ks:=cZ;obtain⟨a,g,s,hb⟩:=cZ;have hn:n<S.length:=(List.getElem?_eq_some_iff.mp hb.at_).1;have key:∀(x hU fS s':Int),(hB [some (.ptr n),some (.int many),none,none,none] S).out=.ok (.int (x % many)) (S.set n (gJ cs hU fS s'))->0<=hU->0<=fS->0<=s'->s'<2147483563 ->
   We (ig [.ptr n,.int many] S) (λd ak=>Drawn n cs S ak/\∃k:Nat,(k:Int)<many/\d=.int k) (λ_ _=>False):=λx hU fS s' e h1 h2 aI bE=>by
  have hx:=Int.emod_nonneg x (show many≠0 by omega);refine abf (a:=.int (x % many)) (S:=S.set n (gJ cs hU fS s')) ?_ ⟨⟨⟨hU,fS,s',mE hn,h1,h2,aI,bE⟩,hU,fS,s',rfl⟩,(x % many).toNat,by rw[Int.toNat_of_nonneg hx];exact HP _ hm,by grind⟩;show fin S (hB [some (.ptr n),some (.int many),none,none,none] S).out=_;rw[e];exact abZ (EV _ _ _ _ _) λg=>by simp[cR]
 by_cases hg:0<g
 .exact key g a (g / many) s (abS cs a g s S n many hb.at_ hg hm EW) hb.sL (Int.ediv_nonneg hb.lj (by omega)) hb.s0 hb.s1
 .have ab3:g=0:=by have:=hb.lj;omega
  have EX:=hb.at_;rw[ab3]at EX;by_cases hl:a<cs.length
  .have ha:=hb.sL
   obtain⟨c,hc⟩:∃c,cs[a.toNat]?=some c:=⟨cs[a.toNat]'(by omega),by simp⟩
   by_cases EY:1000000000000000000<=c
   .exact key c (a+1) (c / many) s (abT cs a s c S n many EX ha hl hc EY hm EW) (by omega) (Int.ediv_nonneg (by omega) (by omega)) hb.s0 hb.s1
   .exact key _ (a+1) 0 _ (abX cs a s c S n many EX ha hl hc EY hb.s0 hb.s1 hm EW) (by omega) (by omega) (ER _).1 (ER _).2
  .exact key _ a 0 _ (abW cs a s S n many EX hb.sL hl hb.s0 hb.s1 hm EW) hb.sL (by omega) (ER _).1 (ER _).2
theorem pC{n:Nat}{cs:List Int}{many:Int}(hm:0<many)(pB:many<1000000):kv n cs (ig [.ptr n,.int many]) (λd=>∃k:Nat,(k:Int)<many/\d=.int k) :=
 ab2 hm (by
  have:=EK (i:=many) (by omega);omega)
theorem eo{N n:Nat}{body:SX}{ds:List D}{S:Store}{P X:D->Store->Prop}(hl:ds.length=n)(h:aV (body (ds.map some++List.replicate (N - ds.length) none) S) (sG S P X)):We (cS n (bN N body) ds S) P X:=by
 rw[EB hl,Av];exact h
theorem ab4{N n:Nat}{body:SX}{ds:List D}{S:Store}{P X:D->Store->Prop}(hl:ds.length=n)(h:aV (body (ds.map some++List.replicate (N - ds.length) none) S) ⟨λ_ ak=>P .non ak,λ_ _=>False,λ_ _=>False,P,λe _ ak=>X e ak⟩):We (cS n (Ai N body) ds S) P X:=by
 rw[EB hl,abq];exact h
theorem ab5{P X:D->Store->Prop}(ns:List Int)(p:P (.ptr 0) [gJ (ns.take 63) 0 0 5625]):We (Az [.cy ns] []) P X:=by
 unfold Az;refine ab4 rfl ?_;simp[xP,<-List.map_take];exact p
theorem ab6(ns:List Int):ik [gJ (ns.take 63) 0 0 5625] 0 (ns.take 63):=⟨0,0,5625,rfl,by decide,by decide,by decide,by decide⟩
theorem AF{n:Nat}{cs:List Int}{xs:List D}(hx:xs≠[])(hl:xs.length<1000000)(aT:bC 0 xs=true):kv n cs (jV [.ptr n,.lst xs]) (λd=>d∈xs):=λS cZ=>by
 have h0:0<xs.length:=List.length_pos_iff.mpr hx;unfold jV;refine eo rfl ?_;simp[m6];refine(pC (by omega) (by omega)).jd cZ λd ak ⟨k,hk,e⟩ bT=>?_;subst e;have EZ:k<xs.length:=by omega
 simp[EZ];exact sM bT (R' (ku.mp aT _ (wQ _))) ⟨bT,wQ _⟩
theorem ab7{n:Nat}{cs:List Int}{l:List Nat}(hx:l≠[])(hl:l.length<1000000):kv n cs (jV [.ptr n,.str (ao l)]) (λd=>∃c∈l,d=hV c):=λS cZ=>by
 have h0:0<l.length:=List.length_pos_iff.mpr hx;unfold jV;refine eo rfl ?_;simp[m6];refine⟨by omega,?_⟩;refine(pC (by omega) (by omega)).jd cZ λd ak ⟨k,hk,e⟩ bT=>?_;subst e;have EZ:k<l.length:=by omega
 simp[EZ];exact⟨by omega,sM bT (by simp) ⟨bT,_,wQ _,rfl⟩⟩
theorem ab8{n:Nat}{cs:List Int}{S S0:Store}{sl:aL}{it:gQ}{G:Store->Prop}{g:dz}{fe:aM}{own:List Nat}{P X:D->Store->Prop}{xs:List D}(cZ:ik S0 n cs)(hit:it sl S=.ok (xs,G) S0)(hl:xs.length<=1000000)(bp:∀ak T,Drawn n cs S0 ak->G (ak++T))(E:D->D->Prop)
  (step:∀x∈xs,∀ak acc,Drawn n cs S0 ak->aV (g x (cE sl own) (ak++[.lst acc])) ⟨λa' S1=>We (fe a' S1) (λd aW=>∃b5,aW=b5++[.lst acc]/\Drawn n cs ak b5/\E x d) (λ_ _=>False),λ_ _=>False,λ_ _=>False,λ_ _=>False,λ_ _ _=>False⟩)
  (gU:∀ys ak,ys.length=xs.length->(∀y∈ys,∃x∈xs,E x y)->Drawn n cs S0 ak->P (.ptr ak.length) (ak++[.lst ys])):We (cK it g di fe own sl S) P X:=by
 refine Sf hit hl (λpre acc S1=>Drawn n cs S0 S1/\acc.length=pre.length/\∀y∈acc,∃x∈xs,E x y) (λp acc S1 h=>⟨h.1.len,by omega⟩) ⟨Drawn.refl cZ,rfl,by simp⟩ (λp x post acc S1 he h=>⟨bp _ _ h.1,?_⟩) λacc S1 h=>⟨bp _ _ h.1,gU acc S1 h.2.1 h.2.2 h.1⟩
 have hx:x∈xs:=by rw[he];simp
 refine(step x hx S1 acc h.1).mono (λa' S2 h2=>?_) (λ_ _ h=>h) (λ_ _ h=>h) (λ_ _ h=>h) (λ_ _ _ h=>h);simp only[di,bh,if_true];refine h2.post λd aW ⟨b5,e,bT,hd⟩=>⟨b5,e,h.1.trans bT,by simp[h.2.1],λy a6=>?_⟩
 grind
theorem Kt{n:Nat}{cs:List Int}{S S0:Store}{sl:aL}{it:gQ}{G:Store->Prop}{g:dz}{fe:aM}{own:List Nat}{P X:D->Store->Prop}{xs:List D}(AG:Drawn n cs S S0)(hit:it sl S=.ok (xs,G) S0)(hl:xs.length<=1000000)(bp:∀ak T,Drawn n cs S0 ak->G (ak++T))(E:D->D->Prop)
  (step:∀x∈xs,∀ak acc,Drawn n cs S0 ak->aV (g x (cE sl own) (ak++[.lst acc])) ⟨λa' S1=>We (fe a' S1) (λd aW=>∃b5,aW=b5++[.lst acc]/\Drawn n cs ak b5/\E x d) (λ_ _=>False),λ_ _=>False,λ_ _=>False,λ_ _=>False,λ_ _ _=>False⟩)
  (aT:∀x d,E x d->bg 0 d=true) (gU:∀ys ak,ys.length=xs.length->(∀y∈ys,∃x∈xs,E x y)->Drawn n cs S0 ak->P (.lst ys) ak):We (cK it g di fe own sl S) (eY S P) X:=by
 refine ab8 AG.1 hit hl bp E step λys ak h1 h2 aI=>Kh (AG.trans aI).keep (Sb ?_) (gU ys ak h1 h2 aI);rw[ku];grind
def abc:List Nat:=List.range' 97 26
@[simp] theorem SG:(("abcdefghijklmnopqrstuvwxyz":Str))=ao abc:=by rfl
@[simp] theorem ab9:(("":Str))=ao []:=by rfl
theorem E1{c:Nat}:c∈abc↔97<=c/\c<=122:=by
 unfold abc;grind
structure aca(l:List Nat):Prop where
 asc:l.Pairwise (· < ·)
 low:∀c∈l,c∈abc
theorem E2{S:Store}{n:Nat}{xs:List D}(h:S[n]?=some (.lst xs)):hS S (.ptr n)=true:=by simp[hS,cY,h]
theorem sN{S:Store}{n:Nat}{a b:dk}(h:S.length=n):(S++[a]).set n b=S++[b]:=by
 simp_all
theorem Ku{S:Store}{n:Nat}{a:dk}(h:S.length=n):(S++[a])[n]?=some a:=by
 grind
mutual
def plain:Nat->D->Prop
 |_,.non=>True
 |_,.bl _=>True
 |_,.int _=>True
 |_,.str s=>jU s.cps.toList
 |k+1,.tup xs=>lX k xs/\xs.length<=1000000
 |k+1,.bS xs=>lX k xs/\xs.length<=1000000
 |k+1,.lst xs=>lX k xs/\xs.length<=1000000
 |_,_=>False
def lX:Nat->List D->Prop
 |_,[]=>True
 |k,d::ds=>plain k d/\lX k ds
end
theorem vi{k:Nat}:∀{xs:List D},lX k xs↔∀x∈xs,plain k x
 |[]=>by simp[lX]
 |x::xs=>by simp[lX,vi (xs:=xs)]
@[simp] theorem acb{k:Nat}:plain k .non:=by cases k<;>simp[plain]
@[simp] theorem acd{k:Nat}{b:Bool}:plain k (.bl b):=by cases k<;>simp[plain]
@[simp] theorem SH{k:Nat}{b:Int}:plain k (.int b):=by cases k<;>simp[plain]
@[simp] theorem ace{k:Nat}{l:List Nat}:plain k (.str (ao l))=jU l:=by rfl
theorem bO{α:Type}{o:Out α}{a:α}{S:Store}(h:We o (λr ak=>r=a/\ak=S) (λ_ _=>False)):o=.ok a S:=by
 obtain⟨r,ak,e,h1,h2⟩:=h.get;grind
theorem AH(k:Nat)(d:D)(S:Store)(h:plain 0 d):pA (k+1) [d,d] S=.ok (.bl true) S:=by
 refine bO ?_;unfold pA;refine eo rfl ?_;cases d with
 |non=>simp[lh]
 |bl b=>simp[lh]
 |int i=>simp[lh]
 |str s =>
  rw[<-Ar s]at h ⊢;rw[ace]at h;simp[lh,vg h h]
 |_=>simp[plain]at h
theorem acf:∀(k:Nat) (d:D) (S:Store),plain k d->pA (k+1) [d,d] S=.ok (.bl true) S:=λk=>by
 induction k with
 |zero =>
  intro d S h;exact AH 0 d S h
 |succ k ih =>
  intro d S h;have seq:∀xs:List D,lX k xs->xs.length<=1000000->∀d,d=.tup xs\/d=.lst xs\/d=.bS xs->pA (k+1+1) [d,d] S=.ok (.bl true) S:=λxs hx hl d hd=>by
   refine bO ?_;rw[pA];refine eo rfl ?_;have hz:(u5 xs xs)=xs.map λx=>.tup [x,x]:=by
    unfold u5;rw[List.zipWith_self]
   have key:∀{P X X':D->Store->Prop} {sl:aL} {d:D},P (.bl true) S->ae 0 sl S=.ok d S->ae 1 sl S=.ok d S->d9 S d=some xs->(∀T,d9 (S++T) d=some xs)->sl.length=4 ->
     We (cK (Ae (ag (ae 0) (ag (ae 1) ai))) (hP (cP (aX 2) (cP (aX 3) gA))) di (aw (pA (k+1)) (ag (ae 2) (ag (ae 3) ai))) [2,3] sl S) (eY S λd' S1=>We (pe [d'] S1) P X) X':=λ{P X X' sl d} bu h1 h2 aI bE cw=>by
    have hit:=aby h1 h2 aI aI;rw[hz]at hit;refine abw (xs:=xs.map λx=>.tup [x,x]) (λ_=>true) (λ_=>.bl true) hit (by grind) (λacc=>⟨bE _,bE _⟩) (λx Kv T=>?_) (λx hx _=>?_) ?_
    .obtain⟨y,a6,rfl⟩:=hL.mp Kv
     match sl,cw with
     |[a,b,c,e],_ =>
      simp[cE,di];rw[ih y _ (vi.mp hx y a6)];simp
    .simp
    .rw[Sv,bh]
     exact bu
   rcases hd with rfl|rfl|rfl
   .simp[lh]
    refine key (d:=.tup xs) ?_ ?_ ?_ ?_ ?_ ?_
    .simp
    .rfl
    .rfl
    .rfl
    .intro T;rfl
    .rfl
   .simp[lh]
    refine key (d:=.lst xs) ?_ ?_ ?_ ?_ ?_ ?_
    .simp
    .rfl
    .rfl
    .rfl
    .intro T;rfl
    .rfl
   .simp[lh]
    refine key (d:=.bS xs) ?_ ?_ ?_ ?_ ?_ ?_
    .simp
    .rfl
    .rfl
    .rfl
    .intro T;rfl
    .rfl
  cases d with
  |tup xs=>rw[plain]at h;grind
  |lst xs=>rw[plain]at h;grind
  |bS xs=>rw[plain]at h;grind
  |non=>exact AH _ _ S acb
  |bl b=>exact AH _ _ S acd
  |int i=>exact AH _ _ S SH
  |str s =>
   refine AH _ _ S ?_;rw[<-Ar s]at h ⊢;simp_all
  |_=>simp[plain]at h
end Z
namespace ZX
open PySem PySem.W PySem.Calls PyProof.Rows PySem.Spec
structure qW(prog:Program)(K:Frag)(f D:Addr)(qual:Str)(params:Arguments)(body:List Stmt)(scope:Scope):Prop where
 ex:∃(eZ:Value) (od:Option Addr) (name:Str) (kV doc pm:Value) (an:Option Addr) (b8 cc:Addr) (ct:Value) (il:Array (Option Value)),
   K.lookup f=some ⟨eZ,od,.func (ksFn name qual params body scope .none kV doc pm an (.ref b8) ct cc),il⟩/\codeIn K (.ref b8) qual=true /\
   (∃qX qY qZ vs file dE,K.lookup b8=some ⟨qX,qY,.fields vs,qZ⟩/\vs[2]?=some (.str file dE)/\((prog.main.file:Str)==file)=true) /\
   (∃cl q0 q1,K.lookup cc=some ⟨cl,q0,.cell (some (.ref D)),q1⟩)
 cls:∃oz,clsIn K D=some oz
 fn:(K.lookup f).map (·.cls)=some (.type "function")
structure sO(prog:Program)(K:Frag)(mg:Str->Option Value)(base:Heap):Prop where
 mod:L2.Mod K mg base
 ms:mg "super"=none
 top:(prog.main.scope.names.lookup ("super":Str)).isSome=false
 SJ:nsIn K cStatics "thirdparty.any"=some none
structure q2(scope:Scope)(b9:Str):Prop where
 ks:scope.names.lookup ("super":Str)=some .globalImplicit
 xS:scope.names.lookup ("__class__":Str)=some .free
 Kw:scope.names.lookup b9=some .local
 kind:scope.kind=.function
 co:scope.isCoroutine=false
 gen:scope.isGenerator=false
 cell:∀x∈scope.names,x.2≠.cell
section
variable{prog:Program}{w:World}{A:Around}{E:Value->Shared->Prop}{s:Shared}{K:Frag}{mg:Str->Option Value}{base:Heap}{L x C D f cc b8:Addr}{m:Str->Option Value}{vj:Obj}{acg:Option Obj}
theorem SM{body:List Stmt}{q:Str}{scope:Scope}{p0 p1:Pos}{whole:Sem Value}{fd:FuncData}{ar:Arg}{vs:Array Value}{file:Str}{dE:Tok}{eZ qX cl:Value}{od qY q0:Option Addr}{il qZ q1:Array (Option Value)}{oz:ClassData}{Q:Value->Shared->Prop}
  (M:sO prog K mg base) (S:q2 scope ar.arg) (bk:∀b o,base.get? b=some o->s.heap.get? b=some o) (hn:s.heap.Ns L m)
  (hf:K.lookup f=some ⟨eZ,od,.func fd,il⟩) (hp:(fd.params.posonlyargs++fd.params.args).head?=some ar) (bB:m ar.arg=some (.ref x)) (I:InstAt s.heap x vj C acg)
  (AI:K.lookup b8=some ⟨qX,qY,.fields vs,qZ⟩) (AJ:vs[2]?=some (.str file dE)) (q3:((prog.main.file:Str)==file)=true)
  (q4:K.lookup cc=some ⟨cl,q0,.cell (some (.ref D)),q1⟩) (bT:clsIn K D=some oz) (pk:mroIn K C (.ref D)=some true)
  (h:∀h',h'.get? s.heap.objs.size=some (ks_superObj D x C)->(∀b o,s.heap.get? b=some o->h'.get? b=some o)->Q (.ref s.heap.objs.size) { s with heap:=h' }) :
  _root_.PySem.wpAt (model prog w) A (.func body (ksEnv q scope L f (.ref b8) cc)) (attributeBase (.Call (.Name "super" p0) [] [] p1) "__init__" (ksEnv q scope L f (.ref b8) cc) whole) Q E s:=by
 have X:K.In s.heap:=M.mod.kin.keeps bk;obtain⟨hh,g,d,t,os⟩:=s;obtain⟨xT,gW,kx⟩:∃xT,hh.get? D=some xT/\xT.data=.cls oz:=by
  unfold clsIn at bT;split at bT
  .rename_i c d apG sl aQ
   cases bT;exact⟨_,X _ _ aQ,rfl⟩
  .cases bT
 obtain⟨apH,fI,vk⟩:=M.mod.blt;refine ks_wpAt_super_base (env:=ksEnv q scope L f (.ref b8) cc) S.ks S.xS (by decide) rfl (X _ _ hf) rfl hp rfl (X _ _ AI) rfl AJ q3 M.top ?_;refine ks_loadName_global S.kind S.ks (loadGlobal_builtin (env:=ksEnv q scope L f (.ref b8) cc) (M.mod.glob.keeps bk) M.ms (fI.keeps bk) ((vk _ (by decide +kernel)).trans PyProof.Rows.Boot.«super») ⟨rfl,?_⟩);refine wpAny_loadName_free S.kind S.xS rfl ⟨_,X _ _ q4,rfl⟩ ?_;refine wpAny_loadName_local S.kind S.Kw hn bB ?_;refine ks_wpAny_isType_cls gW kx ⟨rfl,?_⟩;refine ks_wpAny_call_super gW kx I.at_ I.cls (λc e=>?_) (looks_mroIn X pk) (λh' e k=>?_)
 .have:=I.no
  unfold notCls at this;grind
 grind
end
section
variable{prog:Program}{w:World}{A:Around}{E:Value->Shared->Prop}{s:Shared}{K:Frag}{mg:Str->Option Value}{base:Heap}{L x C D f:Addr}{m:Str->Option Value}{B i newId:String}{gK:List Value}
structure pD(K:Frag)(C:Addr)(gK:List Value)(newId:String):Prop where
 ach:excInitIn K C gK newId=true
 fC:excOver K C gK=true
 cls:(clsIn K C).isSome=true
 sa:findIn K (.ref C) "__setattr__"=some (some (.builtin "object.__setattr__"))
abbrev exd(C t:Addr)(dd:Option Addr):Obj:=excObj C t dd .none
theorem E3{h:Heap}{t:Addr}{dd:Option Addr}{od:Obj}(hx:h.get? x=some (exd C t dd))(hd:∀d,dd=some d->h.get? d=some od):InstAt h x (exd C t dd) C (match dd with|none=>none|some _=>some od):=by
 refine⟨hx,rfl,rfl,?_⟩;cases dd with
 |none=>trivial
 |some d=>exact hd d rfl
theorem aci{body:List Stmt}{q:Str}{scope:Scope}{p0 p1 p2 dZ d3:Pos}{fd:FuncData}{ar:Arg}{cc b8:Addr}{vs:Array Value}{file:Str}{dE:Tok}{eZ qX cl:Value}{od qY q0:Option Addr}{il qZ q1:Array (Option Value)}{oz:ClassData}{Q:Flow->Shared->Prop}{e:Expr}{Rv:Value->Prop}{t:Addr}{pl:Sem Bool}
  (KF:KxsFacts B i) (FB:ExcBaseFacts B newId i gK) (M:sO prog K mg base) (S:q2 scope ar.arg) (T:pD K C gK newId) (bk:∀b o,base.get? b=some o->s.heap.get? b=some o) (hn:s.heap.Ns L m)
  (hf:K.lookup f=some ⟨eZ,od,.func fd,il⟩) (hp:(fd.params.posonlyargs++fd.params.args).head?=some ar) (bB:m ar.arg=some (.ref x)) (hx:s.heap.get? x=some (exd C t none))
  (AI:K.lookup b8=some ⟨qX,qY,.fields vs,qZ⟩) (AJ:vs[2]?=some (.str file dE)) (q3:((prog.main.file:Str)==file)=true)
  (q4:K.lookup cc=some ⟨cl,q0,.cell (some (.ref D)),q1⟩) (bT:clsIn K D=some oz) (pk:mroIn K C (.ref D)=some true)
  (hm:ks_superIn K C D "__init__"=some (some (.builtin i))) (cZ:subIn K (.ref C) (.type B)=some true)
  (he:∀(s1:Shared) (Q1:Value->Shared->Prop),s1.heap.Ns L m->(∀v tk,Rv v->Q1 v { s1 with toks:=tk })->wpAny (model prog w) A (eval e (ksEnv q scope L f (.ref b8) cc)) Q1 E s1)
  (h:∀h' t' tk,(∀b o,b≠x->s.heap.get? b=some o->h'.get? b=some o)->h'.get? x=some (exd C t' none)->Q .next { s with heap:=h',toks:=tk })
  (hs:swapsWith (.Call (.Attribute (.Call (.Name "super" p0) [] [] p1) "__init__" p2) [e] [] dZ) none d3.line (ksEnv q scope L f (.ref b8) cc)=pure false)
  (k_:eval (.Call (.Attribute (.Call (.Name "super" p0) [] [] p1) "__init__" p2) [e] [] dZ) (ksEnv q scope L f (.ref b8) cc)=(do
   let fC <-attributeBase (.Call (.Name "super" p0) [] [] p1) "__init__" (ksEnv q scope L f (.ref b8) cc) (eval (.Call (.Name "super" p0) [] [] p1) (ksEnv q scope L f (.ref b8) cc))
   standAt p2.atName
   let (g,first) <-holding [fC] (getMethod fC "__init__" pl)
   callWith dZ g first (backTo dZ (starEach [e] (ksEnv q scope L f (.ref b8) cc))) []))
  (gR:starEach [e] (ksEnv q scope L f (.ref b8) cc)=[(false,eval e (ksEnv q scope L f (.ref b8) cc))]) :
  _root_.PySem.wpAt (model prog w) A (.func body (ksEnv q scope L f (.ref b8) cc)) (exec (.Expr (.Call (.Attribute (.Call (.Name "super" p0) [] [] p1) "__init__" p2) [e] [] dZ) d3) (ksEnv q scope L f (.ref b8) cc)) Q E s:=by
 have X:K.In s.heap:=M.mod.kin.keeps bk;obtain⟨Kx,vl⟩:=Option.isSome_iff_exists.mp T.cls;refine ks_wpAt_Expr_any ?_ (by unfold interactive;rw[show(ksEnv q scope L f (.ref b8) cc).scope.kind=.function from S.kind];rfl) hs;refine ks_wpAt_MethodCall ?_ k_;refine SM M S bk hn hf hp bB (E3 (od:=default) hx (λd z=>by cases z)) AI AJ q3 q4 bT pk (λh1 Ky c0=>?_);have uZ:=c0 _ _ hx;have oA:K.In h1:=X.keeps c0;have I1:InstAt h1 x (exd C t none) C none:=E3 (od:=default) uZ (λd z=>by cases z);unfold ks_superIn at hm;rw[vl]at hm;obtain⟨hh,g,d,tk,os⟩:=s;refine kxs_getMethod KF Ky (looks_opaque oA M.SJ) (l₀:=Kx.mro) (λA Q E s k q=>wpAny_bind ((looks_clsIn oA vl) A _ E s k (wpAny_pure q))) rfl oA hm (I1.type.andThen (looks_subIn oA cZ)) (ks_ne oA I1 vl) (by decide) ?_;have b6:∀b o,hh.get? b=some o->(h1.push (kxs_mw i x)).get? b=some o:=λb o e=>Heap.get?_push_of_some _ (c0 b o e);have hw:(h1.push (kxs_mw i x)).get? h1.objs.size=some (kxs_mw i x):=Heap.get?_push_at rfl rfl;have sH:(h1.push (kxs_mw i x)).Ns L m:=by
  obtain⟨oB,es,dF,eK,r⟩:=hn;exact⟨oB,es,dF,b6 _ _ eK,r⟩
 refine kxs_callWith (i:=i) (x:=x) (by rw[gR];rfl) ?_;rw[gR];refine evalArgs_plain (spliced_cons (he _ _ sH λv m8 aR=>?_));refine spliced_nil ⟨hw,?_⟩;have og:=b6 _ _ hx;obtain⟨nm,SN,hW,bs,bm,SQ,sn,sub,ab,col,dd,oa,apI,apJ,iR,E4,g_,eG⟩:=excInit_of (X.keeps b6) T.ach;refine wpAny_call (codeAny_of_tree ?_);show wpAny _ A.in1 (callAny (.ref _) ⟨[v],[]⟩) _ _ _;simp only[callAny];refine wpAny_bind (wpAny_load hw ?_);simp only[kxs_mw,show(Value.type "method-wrapper"==Value.type "method"||Value.type "method-wrapper"==Value.type "builtin_function_or_method"||Value.type "method-wrapper"==Value.type "method-wrapper")=true by decide,if_true];refine KFB.if_so (by decide) ?_;refine wpAny_bind (check_bound_init FB.toExcCallFacts g_ og rfl ?_);refine wpAny_bind (wpAny_pure (wpAny_pure ?_));refine⟨plainId_quiet FB.init.plain _,codeAny_builtin FB.initEntry ?_⟩;refine exc_init_tree (cls:=.ref C) (t0:=t) (dv:=none) (c2:=.none) (c3:=.none) (b4:=.bool false) og (by show 1<=sizeLine;rw[sizeLine_eq];omega) λh' k cW t'=>?_;exact h h' _ _ (λb o hb e=>k b o hb (b6 b o e)) cW
theorem acj{body:List Stmt}{q:Str}{scope:Scope}{p0 p1 p2 dZ d3:Pos}{fd:FuncData}{ar:Arg}{cc b8:Addr}{vs:Array Value}{file:Str}{dE:Tok}{eZ qX cl:Value}{od qY q0:Option Addr}{il qZ q1:Array (Option Value)}{oz:ClassData}{Q:Flow->Shared->Prop}{e:Expr}{Rv:Value->Prop}{t:Addr}{pl:Sem Bool}
  (M:sO prog K mg base) (S:q2 scope ar.arg) (T:pD K C gK newId) (bk:∀b o,base.get? b=some o->s.heap.get? b=some o) (hn:s.heap.Ns L m)
  (hf:K.lookup f=some ⟨eZ,od,.func fd,il⟩) (hp:(fd.params.posonlyargs++fd.params.args).head?=some ar) (bB:m ar.arg=some (.ref x)) (hx:s.heap.get? x=some (exd C t none)) {f2:Addr} (E5:(K.lookup f2).map (·.cls)=some (.type "function")) (Kz:fnIn K f2=true)
  (AI:K.lookup b8=some ⟨qX,qY,.fields vs,qZ⟩) (AJ:vs[2]?=some (.str file dE)) (q3:((prog.main.file:Str)==file)=true)
  (q4:K.lookup cc=some ⟨cl,q0,.cell (some (.ref D)),q1⟩) (bT:clsIn K D=some oz) (pk:mroIn K C (.ref D)=some true)
  (hm:ks_superIn K C D "__init__"=some (some (.ref f2)))
  (he:∀(s1:Shared) (Q1:Value->Shared->Prop),s1.heap.Ns L m->(∀v tk,Rv v->Q1 v { s1 with toks:=tk })->wpAny (model prog w) A (eval e (ksEnv q scope L f (.ref b8) cc)) Q1 E s1)
  (h:∀h' tk v,Rv v->(∀b o,s.heap.get? b=some o->h'.get? b=some o)->codeAny (model prog w) A (.call (.ref f2) ⟨[.ref x,v],[]⟩) (λr s'=>match r with|.ok (.ret _)=>Q .next s'|.ok _=>False|.error e=>E e s') { s with heap:=h',toks:=tk })
  (hs:swapsWith (.Call (.Attribute (.Call (.Name "super" p0) [] [] p1) "__init__" p2) [e] [] dZ) none d3.line (ksEnv q scope L f (.ref b8) cc)=pure false)
  (k_:eval (.Call (.Attribute (.Call (.Name "super" p0) [] [] p1) "__init__" p2) [e] [] dZ) (ksEnv q scope L f (.ref b8) cc)=(do
   let fC <-attributeBase (.Call (.Name "super" p0) [] [] p1) "__init__" (ksEnv q scope L f (.ref b8) cc) (eval (.Call (.Name "super" p0) [] [] p1) (ksEnv q scope L f (.ref b8) cc))
   standAt p2.atName
   let (g,first) <-holding [fC] (getMethod fC "__init__" pl)
   callWith dZ g first (backTo dZ (starEach [e] (ksEnv q scope L f (.ref b8) cc))) []))
  (gR:starEach [e] (ksEnv q scope L f (.ref b8) cc)=[(false,eval e (ksEnv q scope L f (.ref b8) cc))]) :
  _root_.PySem.wpAt (model prog w) A (.func body (ksEnv q scope L f (.ref b8) cc)) (exec (.Expr (.Call (.Attribute (.Call (.Name "super" p0) [] [] p1) "__init__" p2) [e] [] dZ) d3) (ksEnv q scope L f (.ref b8) cc)) Q E s:=by
 have X:K.In s.heap:=M.mod.kin.keeps bk;obtain⟨Kx,vl⟩:=Option.isSome_iff_exists.mp T.cls;refine ks_wpAt_Expr_any ?_ (by unfold interactive;rw[show(ksEnv q scope L f (.ref b8) cc).scope.kind=.function from S.kind];rfl) hs;refine ks_wpAt_MethodCall ?_ k_;refine SM M S bk hn hf hp bB (E3 (od:=default) hx (λd z=>by cases z)) AI AJ q3 q4 bT pk (λh1 Ky c0=>?_);have uZ:=c0 _ _ hx;have oA:K.In h1:=X.keeps c0;have I1:InstAt h1 x (exd C t none) C none:=E3 (od:=default) uZ (λd z=>by cases z);unfold ks_superIn at hm;rw[vl]at hm;obtain⟨hh,g,d,tk,os⟩:=s;obtain⟨of,acm,acn⟩:∃of,h1.get? f2=some of/\of.cls=.type "function":=by
  cases z:K.lookup f2 with
  |none=>simp_all
  |some of=>rw[z]at E5;exact⟨of,oA _ _ z,Option.some.inj E5⟩
 refine ks_wpAny_getMethod_super Ky (looks_opaque oA M.SJ) (l₀:=Kx.mro) (λA Q E s k q=>wpAny_bind ((looks_clsIn oA vl) A _ E s k (wpAny_pure q))) rfl oA hm acm acn (ks_ne oA I1 vl) (by decide) ?_;have b6:∀b o,hh.get? b=some o->(h1.push (methodObj (.ref f2) (.ref x))).get? b=some o:=λb o e=>Heap.get?_push_of_some _ (c0 b o e);have hw:(h1.push (methodObj (.ref f2) (.ref x))).get? h1.objs.size=some (methodObj (.ref f2) (.ref x)):=Heap.get?_push_at rfl rfl;have sH:(h1.push (methodObj (.ref f2) (.ref x))).Ns L m:=by
  obtain⟨oB,es,dF,eK,r⟩:=hn;exact⟨oB,es,dF,b6 _ _ eK,r⟩
 rw[gR];refine callWith_of (by rfl) (keeps_M (K:=K) (q:=h1.objs.size) (f:=f2) (self:=.ref x) Kz) (evalArgs_plain (spliced_cons (he _ _ sH λv m8 aR=>?_)));refine spliced_nil ⟨⟨hw,X.keeps b6⟩,?_⟩;refine wpAny_call (ks_codeAny_call_bound hw (codeAny_mono (h _ _ v aR b6) λr s' z=>?_));rcases r with x|(v|_|_|_)<;>first|exact z|exact z.elim
variable{t bx:Addr}{name:Str}{v:Value}{m0:Str->Option Value}{nl:List Str}
theorem aco{Q:Unit->Shared->Prop}(oC:StoreFacts B gK "object.__setattr__" "object")(X:K.In s.heap)(T:pD K C gK newId)(hx:s.heap.get? x=some (exd C t none))(ha:findIn K (.ref C) name=some none)(hh:hasDictIn K C=true)
  (h:∀h' gL bx,(∀b o,b≠x->s.heap.get? b=some o->h'.get? b=some o)->s.heap.objs.size<=bx->h'.get? x=some (exd C t (some bx))->h'.Ns1 bx (λy=>if y=name then some v else none)->Q () { s with heap:=h',toks:=gL }) :
  wpAny (model prog w) A (setAttr (.ref x) name v) Q E s:=by
 have ht:takerIn K C name=some none:=by unfold takerIn;rw[ha];rfl
 obtain⟨cd,hc,k2⟩:=any_some hh;have vm:=Heap.lt_size hx;have vn:s.heap.objs.size≠x:=qg vm;have SR:x≠s.heap.objs.size:=vn.symm;refine set_plain (od:=none) X ⟨hx,rfl,rfl,trivial⟩ T.sa (osa_openX (od:=none) (s:={ s with toks:=s.toks+1 }) oC X ⟨hx,rfl,rfl,trivial⟩ T.fC ht λb=>?_);refine wpAny_bind (wpAny_pure (wpAny_bind (instanceDict_exc (s:={ s with toks:=s.toks+1 }) hx (looks_clsIn X hc) k2 ?_)));show wpAny _ _ (Builtin.ObjectAttr.storeInDict s.heap.objs.size (.str name s.toks) name v) _ _ _;refine PySem.HandSPX.store_in_new ?_ ?_
 .exact⟨dictOf [] 0,#[],0,(Heap.get?_update_ne _ _ _ _ vn).trans (Heap.get?_push_at rfl rfl),rfl,λe he=>absurd he (by simp),λ_=>rfl⟩
 .intro h' gL jy hs
  have acp:(s.heap.push (dictOf [] 0)).get? x=some (exd C t none):=Heap.get?_push_of_some _ hx;refine h h' gL s.heap.objs.size (λb o hb aQ=>?_) (Nat.le_refl _) ?_ jy
  .exact(hs.2 b (hZ (Heap.lt_size aQ))).trans ((Heap.get?_update_ne _ _ _ _ hb).trans (Heap.get?_push_of_some _ aQ))
  .exact(hs.2 x vn.symm).trans (Heap.get?_update_self _ acp rfl)
theorem acq{Q:Unit->Shared->Prop}(oC:StoreFacts B gK "object.__setattr__" "object")(X:K.In s.heap)(T:pD K C gK newId)(hx:s.heap.get? x=some (exd C t (some bx)))(fJ:s.heap.Ns1 bx m0)(hw:Within m0 nl)(hz:nl.length<=1000)(ha:findIn K (.ref C) name=some none)(hh:hasDictIn K C=true)
  (h:∀h' gL,(∀b o,b≠bx->s.heap.get? b=some o->h'.get? b=some o)->h'.Ns1 bx (λy=>if y=name then some v else m0 y)->Q () { s with heap:=h',toks:=gL }) :
  wpAny (model prog w) A (setAttr (.ref x) name v) Q E s:=by
 have ht:takerIn K C name=some none:=by unfold takerIn;rw[ha];rfl
 obtain⟨cd,hc,k2⟩:=any_some hh;obtain⟨xT,apK,apL,SU,apM,_⟩:=fJ.count hw;refine set_plain (od:=some xT) X ⟨hx,rfl,rfl,SU⟩ T.sa (osa_openX (od:=some xT) (s:={ s with toks:=s.toks+1 }) oC X ⟨hx,rfl,rfl,SU⟩ T.fC ht λb=>?_);refine wpAny_bind (wpAny_pure (wpAny_bind (wpAny_bind (wpAny_loadPart hx (wpAny_bind (Looks.here (s:={ s with toks:=s.toks+1 }) (looks_clsIn X hc) ?_))))));rw[k2];refine wpAny_pure (a:=some bx) ?_;refine PySem.OEX.store_in_old fJ hw hz ?_;intro h' gL jy hs;exact h h' gL (λb o hb aQ=>(hs.2 b hb).trans aQ) jy
end
open L2 (V Vals RelV RelO)
def pE(prog:Program)(w:World)(base:Heap)(k:Nat)(f C:Addr)(G:List V->Option (List (Str×V))):Prop :=
 ∀(A:Around) (s:Shared) (x t:Addr) (us:List Value) (vs:List V) (fs:List (Str×V)) (R:Result->Shared->Prop),A.depth+k<recursionLimit->(∀b o,base.get? b=some o->s.heap.get? b=some o)->base.get? x=none->s.heap.get? x=some (exd C t none)->Vals vs us->G vs=some fs ->
  (∀h' tk t' bx m,(∀b o,b≠x->s.heap.get? b=some o->h'.get? b=some o)->s.heap.objs.size<=bx->h'.get? x=some (exd C t' (some bx))->h'.Ns1 bx m->(∀g,RelO (fs.lookup g) (m g))->R (.ok (.ret .none)) { s with heap:=h',toks:=tk }) ->
  codeAny (model prog w) A (.call (.ref f) ⟨.ref x::us,[]⟩) R s
inductive AK (env:Env) (b9:Str):List Stmt->List (Str×Str)->Prop
 |nil:AK env b9 [] []
 |cons {eW iM m9 m_:Pos} {f p:Str} {r:List Stmt} {l:List (Str×Str)} (hs:swapsWith (.Name p m9) (some (.Attribute (.Name b9 eW) f iM)) m_.line env=pure false) (hk:env.kindOf p=some .local) (hd:(p==("__debug__":Str))=false) (t:AK env b9 r l) :
   AK env b9 (.Assign [.Attribute (.Name b9 eW) f iM] (.Name p m9) m_::r) ((f,p)::l)
section
variable{prog:Program}{w:World}{A:Around}{E:Value->Shared->Prop}{K:Frag}{base:Heap}{L x C f:Addr}{m:Str->Option Value}{B newId:String}{gK:List Value}{b9:Str}
theorem SV{env:Env}{Q:Flow->Shared->Prop}{vof:Str->V}(oC:StoreFacts B gK "object.__setattr__" "object")(KB:K.In base)(T:pD K C gK newId)(hh:hasDictIn K C=true)(hk:env.scope.kind=.function)(eK:env.locals=L)(sP:env.kindOf b9=some .local)(xU:(b9==("__debug__":Str))=false)
  (bB:m b9=some (.ref x)):∀{sts:List Stmt} {l:List (Str×Str)} {s:Shared} {t bx:Addr} {fs:List (Str×V)} {m0:Str->Option Value},AK env b9 sts l->(∀b o,base.get? b=some o->s.heap.get? b=some o/\b≠bx)->(∀fp∈l,findIn K (.ref C) fp.1=some none/\∃u,m fp.2=some u/\RelV (vof fp.2) u) ->
   s.heap.Ns L m->L≠bx->x≠bx->s.heap.get? x=some (exd C t (some bx))->s.heap.Ns1 bx m0->(∀g,RelO (fs.lookup g) (m0 g))->fs.length+l.length<=900 ->
   (∀h' tk eU,(∀b o,b≠bx->s.heap.get? b=some o->h'.get? b=some o)->h'.get? x=some (exd C t (some bx))->h'.Ns1 bx eU->(∀g,RelO ((l.foldl (λfs fp=>(fp.1,vof fp.2)::fs) fs).lookup g) (eU g))->Q .next { s with heap:=h',toks:=tk }) ->
   wpAny (model prog w) A (execs sts env) Q E s
 |_,_,s,t,bx,fs,m0,.nil,bk,_,hn,_,_,hx,fJ,rel,_,h=>by
  refine wpAny_execs_nil ?_;exact h s.heap s.toks m0 (λ_ _ _ e=>e) hx fJ rel
 |_,_,s,t,bx,fs,m0,.cons (f:=g) (p:=p) (l:=l) hs xV hd tl,bk,hl,hn,SW,E6,hx,fJ,rel,hlen,h=>by
  obtain⟨hf,u,aT,cv⟩:=hl (g,p) (uf ..);refine wpAny_execs_cons (plainObj_wpAny_Assign_Attribute (wpAny_Name (wpAny_loadName_local hk xV (by grind) aT ?_) hd) hs);refine wpAny_Name (wpAny_loadName_local hk sP (by grind) bB ?_) xU;have X:K.In s.heap:=KB.keeps λb o e=>(bk b o e).1;have hw:=L2.within_of rel;refine acq oC X T hx fJ hw (by grind) hf hh λh' gL k jy=>?_;have acr:∀y,RelO (((g,vof p)::fs).lookup y) (if y=g then some u else m0 y):=L2.relO_put cv rel;refine SV oC KB T hh hk eK sP xU bB tl (λb o e=>⟨k b o (bk b o e).2 (bk b o e).1,(bk b o e).2⟩) (λfp hm=>hl fp (iZ _ hm)) ?_ SW E6 (k x _ E6 hx) jy acr (by grind) (λh2 m8 m2 b6 au e2 bj=>h h2 m8 m2 (λb o hb e=>b6 b o hb (k b o hb e)) au e2 bj);obtain⟨oB,es,dF,acs,r⟩:=hn;exact⟨oB,es,dF,k _ _ SW acs,r⟩
end
inductive jX (env:Env) (vof:Str->V):Expr->V->Prop
 |par {p:Str} {pos:Pos} (hk:env.kindOf p=some .local) (hd:(p==("__debug__":Str))=false):jX env vof (.Name p pos) (vof p)
 |txt {x:Str} {j:Nat} {pos:Pos}:jX env vof (.Constant (.str x) j pos) (.str x)
theorem jX.run{prog:Program}{w:World}{A:Around}{E:Value->Shared->Prop}{env:Env}{vof:Str->V}{e:Expr}{y:V}{L:Addr}{m:Str->Option Value}(r:jX env vof e y)(hk:env.scope.kind=.function)(eK:env.locals=L)(hm:∀p,env.kindOf p=some .local->∃u,m p=some u/\RelV (vof p) u){s1:Shared}{Q1:Value->Shared->Prop}(hn:s1.heap.Ns L m)
  (h:∀v tk,RelV y v->Q1 v { s1 with toks:=tk }):wpAny (model prog w) A (eval e env) Q1 E s1:=by
 cases r with
 |par xV hd =>
  obtain⟨u,aT,cv⟩:=hm _ xV;exact wpAny_Name (wpAny_loadName_local hk xV (by grind) aT (h u s1.toks cv)) hd
 |txt=>exact wpAny_Constant_str (h _ _ ⟨_,rfl⟩)
section
variable{prog:Program}{w:World}{K:Frag}{mg:Str->Option Value}{base:Heap}{C D f:Addr}{B i newId:String}{gK:List Value}{b9 g qual:Str}{params:Arguments}{scope:Scope}{cG au:Expr}{p0 p1 p2 dZ d3 eW iM m_:Pos}{ps:List Str}{sts:List Stmt}{l:List (Str×Str)}
structure xW(params:Arguments)(scope:Scope)(b9:Str)(ps:List Str):Prop where
 head:(params.posonlyargs++params.args).head?.map (·.arg)=some b9
 loc:∀y∈b9::ps,scope.names.lookup y=some .local
 only:∀y∈scope.names,y.2=.local->y.1∈b9::ps
 nd:(b9::ps).Nodup
 bind:∀(fd:FuncData) (us:List Value),fd.params=params->fd.defaults=.none->us.length=(b9::ps).length->bindArgs fd ⟨us,[]⟩=pure ((b9::ps).zip us)
theorem acu:∀{ps:List Str} {us:List Value} {vs:List V} {p:Str},ps.Nodup->Vals vs us->us.length=ps.length->p∈ps->∃u v,(ps.zip us).lookup p=some u/\(ps.zip vs).lookup p=some v/\RelV v u:=by
 intro ps
 induction ps with
 |nil=>simp
 |cons n ps ih =>
  intro us vs p nd r hl hm;cases r with
  |nil=>cases hl
  | @cons v u vs us aR r =>
   by_cases e:p=n
   .simp_all
   .have cW:(p==n)=false:=by simpa using e
    obtain⟨uy,n6,h1,h2,aI⟩:=ih (ud.mp nd).2 r (Nat.succ.inj hl) ((g6.mp hm).resolve_left e);exact⟨uy,n6,by simpa[List.lookup,cW]using h1,by simpa[List.lookup,cW]using h2,aI⟩
theorem KA:∀{ps:List Str} {us:List Value},ps.Nodup->∀p,((ps.zip us).reverse).lookup p=(ps.zip us).lookup p:=by
 intro ps
 induction ps with
 |nil=>simp
 |cons n ps ih =>
  intro us nd p;cases us with
  |nil=>simp
  |cons u us =>
   have w9:=ud.mp nd;rw[Df,HR,List.lookup_append,ih w9.2];by_cases e:p=n
   .subst e
    have:(ps.zip us).lookup p=none:=by
     cases q:(ps.zip us).lookup p with
     |none=>rfl
     |some v=>exact absurd (y4 (qh q)).1 w9.1
    grind
   grind
def d_(ps:List Str)(vs:List V)(p:Str):V:=((ps.zip vs).lookup p).getD .non
structure SY(env:Env)(e:Expr)(p0 p1 p2 dZ d3:Pos):Prop where
 hs:swapsWith (.Call (.Attribute (.Call (.Name "super" p0) [] [] p1) "__init__" p2) [e] [] dZ) none d3.line env=pure false
 gR:starEach [e] env=[(false,eval e env)]
 k_:∃pl:Sem Bool,eval (.Call (.Attribute (.Call (.Name "super" p0) [] [] p1) "__init__" p2) [e] [] dZ) env=(do
   let fC <-attributeBase (.Call (.Name "super" p0) [] [] p1) "__init__" env (eval (.Call (.Name "super" p0) [] [] p1) env)
   standAt p2.atName
   let (g,first) <-holding [fC] (getMethod fC "__init__" pl)
   callWith dZ g first (backTo dZ (starEach [e] env)) [])
theorem S3{ps:List Str}{us:List Value}{vs:List V}(nd:ps.Nodup)(r:Vals vs us)(hl:us.length=ps.length){p:Str}(hm:p∈ps):∃u,((ps.zip us).reverse).lookup p=some u/\RelV (d_ ps vs p) u:=by
 obtain⟨u,v,h1,h2,aI⟩:=acu nd r hl hm;exact⟨u,by rw[KA nd];exact h1,by unfold d_;grind⟩
theorem KC(KF:KxsFacts B i)(FB:ExcBaseFacts B newId i gK)(oC:StoreFacts B gK "object.__setattr__" "object")(M:sO prog K mg base)
  (AO:qW prog K f D qual params [.Expr (.Call (.Attribute (.Call (.Name "super" p0) [] [] p1) "__init__" p2) [cG] [] dZ) d3,.Assign [.Attribute (.Name b9 eW) g iM] au m_] scope)
  (S:q2 scope b9) (T:pD K C gK newId) (hh:hasDictIn K C=true) (P:xW params scope b9 ps) (pk:mroIn K C (.ref D)=some true) (hm:ks_superIn K C D "__init__"=some (some (.builtin i))) (cZ:subIn K (.ref C) (.type B)=some true) (hg:findIn K (.ref C) g=some none)
  (xU:(b9==("__debug__":Str))=false) (eG:∀env:Env,SY env cG p0 p1 p2 dZ d3) (hs:∀env:Env,swapsWith au (some (.Attribute (.Name b9 eW) g iM)) m_.line env=pure false)
  {r0 r1:(Str->V)->V} (h0:∀(env:Env) (vof:Str->V),env.scope=scope->jX env vof cG (r0 vof)) (h1:∀(env:Env) (vof:Str->V),env.scope=scope->jX env vof au (r1 vof)) (m':∀v1 v2:Str->V,(∀p∈ps,v1 p=v2 p)->r1 v1=r1 v2) :
  pE prog w base 1 f C (λvs=>if vs.length=ps.length then some [(g,r1 (d_ ps vs))]else none):=by
 intro A s x t us vs fs R AQ bk S4 hx aR bp h;dsimp only at bp;split at bp
 .rename_i hl
  cases bp;have AU:us.length=ps.length:=by rw[<-aR.length];exact hl
  obtain⟨eZ,od,name,kV,doc,pm,an,b8,cc,ct,il,lk,jM,⟨qX,qY,qZ,acv,file,dE,E7,KD,q3⟩,⟨cl,q0,q1,KG⟩⟩:=AO.ex;obtain⟨oz,bT⟩:=AO.cls;have X:K.In s.heap:=M.mod.kin.keeps bk;have lim:s.heap.NoLimit:=M.mod.nolimit.keeps bk;obtain⟨ar,KH,acw⟩:=fq.mp P.head;refine ks_codeAny_call_defAt (binds:=(b9::ps).zip (.ref x::us)) (by omega) (X _ _ lk) rfl lim (codeRec_of X jM) rfl (BindsTo.of_eq (P.bind _ _ rfl rfl (by simp[AU]))) S.cell (λy a6=>P.loc y.1 (y4 a6).1) (λh₀ fJ kp=>?_) S.co S.gen S.kind;have vn:x≠s.heap.objs.size:=hZ (Heap.lt_size hx);have hz:∀{p:Str},p∈b9::ps->∃u,(((b9::ps).zip (.ref x::us)).reverse).lookup p=some u/\RelV (d_ (b9::ps) (.ref x::vs) p) u:=λ{p} hp=>S3 P.nd (.cons (show RelV (.ref x) (.ref x)from rfl) aR) (by simp[AU]) hp;have KI:(((b9::ps).zip (Value.ref x::us)).reverse).lookup b9=some (.ref x):=by rw[KA P.nd];simp[List.lookup]
  have KJ:∀p∈ps,d_ (b9::ps) (.ref x::vs) p=d_ ps vs p:=λp hp=>by
   have:(p==b9)=false:=by
    have:=(ud.mp P.nd).1;simp only[beq_eq_false_iff_ne,ne_eq];intro e;exact this (e▸hp)
   unfold d_;simp[List.lookup,this]
  have nc:=kp _ _ hx;refine ks_wpAt_execs_cons ?_;show _root_.PySem.wpAt (model prog w) _ (.func _ (ksEnv qual scope s.heap.objs.size f (.ref b8) cc)) (exec _ (ksEnv qual scope s.heap.objs.size f (.ref b8) cc)) _ _ _;obtain⟨pl,k_⟩:=(eG (ksEnv qual scope s.heap.objs.size f (.ref b8) cc)).k_;have E8:∀p,(ksEnv qual scope s.heap.objs.size f (.ref b8) cc).kindOf p=some .local->∃u,(((b9::ps).zip (Value.ref x::us)).reverse).lookup p=some u/\RelV (d_ (b9::ps) (.ref x::vs) p) u:=λp hp=>hz (P.only (p,.local) (qh hp) rfl);refine aci (fd:=ksFn name qual params _ scope .none kV doc pm an (.ref b8) ct cc) (ar:=ar) (t:=t) KF FB M (by grind) T (λb o e=>kp b o (bk b o e)) fJ lk KH (by grind) nc E7 KD q3 KG bT pk hm cZ (Rv:=λv=>RelV (r0 (d_ (b9::ps) (.ref x::vs))) v)
   (λs1 Q1 vf hq=>(h0 (ksEnv qual scope s.heap.objs.size f (.ref b8) cc) _ rfl).run S.kind rfl E8 vf hq) (λh' t' tk k Kv=>?_) (eG _).hs k_ (eG _).gR
  have KL:s.heap.objs.size≠x:=vn.symm;have AV:h'.Ns s.heap.objs.size (λy=>((b9::ps).zip (Value.ref x::us)).reverse.lookup y):=by
   obtain⟨oB,es,dF,eK,r⟩:=fJ;exact⟨oB,es,dF,k _ _ KL eK,r⟩
  refine ks_wpAt_execs_cons (wpAt_of_wpAny (plainObj_wpAny_Assign_Attribute ((h1 (ksEnv qual scope s.heap.objs.size f (.ref b8) cc) _ rfl).run S.kind rfl E8 AV λv m8 S5=>?_) (hs _)));refine wpAny_Name (wpAny_loadName_local S.kind (P.loc b9 (uf ..)) AV KI ?_) xU;have acx:∀b o,base.get? b=some o->h'.get? b=some o:=λb o e=>k b o (λz=>by
   grind) (kp b o (bk b o e))
  refine aco oC (M.mod.kin.keeps acx) T Kv hg hh λh2 KN bx b6 AW og sH=>?_;refine wpAt_of_wpAny (wpAny_execs_nil ?_);refine h h2 KN t' bx _ (λb o hb e=>b6 b o hb (k b o hb (kp b o e))) ?_ og sH ?_
  .obtain⟨oB,es,dF,eK,r⟩:=AV
   exact Nat.le_trans (js (Heap.lt_size eK)) AW
  .have au:r1 (d_ (b9::ps) (.ref x::vs))=r1 (d_ ps vs):=m' _ _ KJ
   rw[au]at S5;exact L2.relO_put (fs:=[]) S5 λg=>True.intro
 .cases bp
theorem KO{f2:Addr}{KP:List V->Option (List (Str×V))}{k:Nat}(vo:pE prog w base k f2 C KP)(oC:StoreFacts B gK "object.__setattr__" "object")(M:sO prog K mg base)
  (AO:qW prog K f D qual params (.Expr (.Call (.Attribute (.Call (.Name "super" p0) [] [] p1) "__init__" p2) [cG] [] dZ) d3::sts) scope)
  (S:q2 scope b9) (T:pD K C gK newId) (hh:hasDictIn K C=true) (P:xW params scope b9 ps) (pk:mroIn K C (.ref D)=some true) (hm:ks_superIn K C D "__init__"=some (some (.ref f2))) (E5:(K.lookup f2).map (·.cls)=some (.type "function")) (Kz:fnIn K f2=true)
  (xU:(b9==("__debug__":Str))=false) (eG:∀env:Env,SY env cG p0 p1 p2 dZ d3)
  {r0:(Str->V)->V} (h0:∀(env:Env) (vof:Str->V),env.scope=scope->jX env vof cG (r0 vof)) (acy:∀v1 v2:Str->V,(∀p∈ps,v1 p=v2 p)->r0 v1=r0 v2)
  (ha:∀env:Env,env.scope=scope->AK env b9 sts l) (hl:∀fp∈l,findIn K (.ref C) fp.1=some none/\fp.2∈ps) (hlen:l.length<=100) (apN:∀vs fs,KP vs=some fs->fs.length<=800) :
  pE prog w base (k+1) f C (λvs=>if vs.length=ps.length then(KP [r0 (d_ ps vs)]).map (λfs=>l.foldl (λfs fp=>(fp.1,d_ ps vs fp.2)::fs) fs)else none):=by
 intro A s x t us vs fs R AQ bk S4 hx aR bp h;dsimp only at bp;split at bp
 .rename_i acz
  obtain⟨S6,acA,AX⟩:=fq.mp bp;have AU:us.length=ps.length:=by rw[<-aR.length];exact acz
  obtain⟨eZ,od,name,kV,doc,pm,an,b8,cc,ct,il,lk,jM,⟨qX,qY,qZ,acv,file,dE,E7,KD,q3⟩,⟨cl,q0,q1,KG⟩⟩:=AO.ex;obtain⟨oz,bT⟩:=AO.cls;have X:K.In s.heap:=M.mod.kin.keeps bk;have lim:s.heap.NoLimit:=M.mod.nolimit.keeps bk;obtain⟨ar,KH,acw⟩:=fq.mp P.head;refine ks_codeAny_call_defAt (binds:=(b9::ps).zip (.ref x::us)) (by omega) (X _ _ lk) rfl lim (codeRec_of X jM) rfl (BindsTo.of_eq (P.bind _ _ rfl rfl (by simp[AU]))) S.cell (λy a6=>P.loc y.1 (y4 a6).1) (λh₀ fJ kp=>?_) S.co S.gen S.kind;have vn:x≠s.heap.objs.size:=hZ (Heap.lt_size hx);have hz:∀{p:Str},p∈b9::ps->∃u,(((b9::ps).zip (.ref x::us)).reverse).lookup p=some u/\RelV (d_ (b9::ps) (.ref x::vs) p) u:=λ{p} hp=>S3 P.nd (.cons (show RelV (.ref x) (.ref x)from rfl) aR) (by simp[AU]) hp;have KI:(((b9::ps).zip (Value.ref x::us)).reverse).lookup b9=some (.ref x):=by rw[KA P.nd];simp[List.lookup]
  have KJ:∀p∈ps,d_ (b9::ps) (.ref x::vs) p=d_ ps vs p:=λp hp=>by
   have:(p==b9)=false:=by
    have:=(ud.mp P.nd).1;simp only[beq_eq_false_iff_ne,ne_eq];intro e;exact this (e▸hp)
   unfold d_;simp[List.lookup,this]
  have nc:=kp _ _ hx;refine ks_wpAt_execs_cons ?_;show _root_.PySem.wpAt (model prog w) _ (.func _ (ksEnv qual scope s.heap.objs.size f (.ref b8) cc)) (exec _ (ksEnv qual scope s.heap.objs.size f (.ref b8) cc)) _ _ _;obtain⟨pl,k_⟩:=(eG (ksEnv qual scope s.heap.objs.size f (.ref b8) cc)).k_;have E8:∀p,(ksEnv qual scope s.heap.objs.size f (.ref b8) cc).kindOf p=some .local->∃u,(((b9::ps).zip (Value.ref x::us)).reverse).lookup p=some u/\RelV (d_ (b9::ps) (.ref x::vs) p) u:=λp hp=>hz (P.only (p,.local) (qh hp) rfl);refine acj (fd:=ksFn name qual params _ scope .none kV doc pm an (.ref b8) ct cc) (ar:=ar) (t:=t) M (by grind) T (λb o e=>kp b o (bk b o e)) fJ lk KH (by grind) nc E5 Kz E7 KD q3 KG bT pk hm (Rv:=λv=>RelV (r0 (d_ (b9::ps) (.ref x::vs))) v)
   (λs1 Q1 vf hq=>(h0 (ksEnv qual scope s.heap.objs.size f (.ref b8) cc) _ rfl).run S.kind rfl E8 vf hq) (λh' tk v S7 pF=>?_) (eG _).hs k_ (eG _).gR
  have acB:r0 (d_ (b9::ps) (.ref x::vs))=r0 (d_ ps vs):=acy _ _ KJ;rw[acB]at S7;have dd:(A.deeper (ksEnv qual scope s.heap.objs.size f (.ref b8) cc)).depth+k<recursionLimit:=by
   show A.depth+1+k<_;omega
  refine vo _ _ x t [v] [r0 (d_ ps vs)] S6 _ dd (λb o e=>pF b o (kp b o (bk b o e))) S4 (pF _ _ nc) (.cons S7 .nil) acA λh2 m8 t' bx m b6 AW og sH rel=>?_;have sz:s.heap.objs.size<h'.objs.size:=by
   obtain⟨oB,es,dF,eK,r⟩:=fJ;exact Heap.lt_size (pF _ _ eK)
  have AY:s.heap.objs.size<bx:=jr sz AW;have KL:s.heap.objs.size≠x:=vn.symm;have AV:h2.Ns s.heap.objs.size (λy=>((b9::ps).zip (Value.ref x::us)).reverse.lookup y):=by
   obtain⟨oB,es,dF,eK,r⟩:=fJ;exact⟨oB,es,dF,b6 _ _ KL (pF _ _ eK),r⟩
  have acC:∀{b:Addr} {o:Obj},base.get? b=some o->b≠x:=λ{b o} e z=>by
   grind
  have E6:x≠bx:=hZ (oY (Heap.lt_size hx) AY);refine wpAt_of_wpAny (SV (env:=ksEnv qual scope s.heap.objs.size f (.ref b8) cc) (vof:=d_ (b9::ps) (.ref x::vs)) (s:={ s with heap:=h2,toks:=m8 }) oC M.mod.kin T hh S.kind rfl (P.loc b9 (uf ..)) xU KI (ha _ rfl) (λb o e=>⟨b6 b o (acC e) (pF b o (kp b o (bk b o e))),hZ (oY (Heap.lt_size (bk b o e)) AY)⟩)
   (λfp hm=>⟨(hl fp hm).1,hz (iZ _ (hl fp hm).2)⟩) AV (hZ AY) E6 og sH rel (by grind) λaI KN xR iR acD acE S8=>?_)
  have acF:∀(oD:List (Str×Str)) (fs:List (Str×V)),(∀fp∈oD,fp.2∈ps)->oD.foldl (λfs fp=>(fp.1,d_ (b9::ps) (.ref x::vs) fp.2)::fs) fs=oD.foldl (λfs fp=>(fp.1,d_ ps vs fp.2)::fs) fs:=by
   intro oD
   induction oD with
   |nil=>simp
   |cons fp oD ih =>
    grind
  rw[acF l S6 (λfp hm=>(hl fp hm).2),AX]at S8;exact h aI KN t' bx xR (λb o hb e=>iR b o (hZ (oY (Heap.lt_size e) AY)) (b6 b o hb (pF b o (kp b o e)))) (js AY) acD acE S8
 .cases bp
end
end ZX
namespace Z
open PySem PySem.Spec L2
def jC(tag:Str)(bR:List Str)(vs:List V):List (Str×V):=(bR.zip vs).reverse++[(("tag":Str),V.str tag)]
structure jY(P:Program)(w:World)(K:PySem.W.Frag)(mg:Str->Option Value)(base:Heap)(c:Str)(C:Addr)(k:Nat)(tag:Str)(bR:List Str):Prop where
 hm:mg c=some (.ref C)
 keep:PySem.W.keepIn K (.ref C)=true
 ex:L2.Mod K mg base->∃(B newId KQ:String) (gK:List Value) (AZ:Addr),PySem.ExcBaseFacts B newId KQ gK/\PySem.W.excInitIn K C gK newId=true/\PySem.W.findIn K (.ref C) "__init__"=some (some (.ref AZ))/\PySem.W.typeIn K (.ref AZ)=some (.type "function") /\
  ZX.pE P w base k AZ C (λvs=>if vs.length=bR.length then some (jC tag bR vs)else none)
 exC:PySem.W.subIn K (.ref C) (.type "BaseException")=some true
 tyC:PySem.W.typeIn K (.ref C)=some (.type "type")
theorem E9{K:PySem.W.Frag}{mg:Str->Option Value}{ρ:List Addr}{H:Hp}:∀{ds:List D} {vs:List V},ay K mg ρ H ds vs->ay K mg ρ H ds.reverse vs.reverse
 |[],_,h=>by rw[ay]at h;subst h;rfl
 |d::ds,_,h=>by
  rw[ay]at h;obtain⟨v,r,e,h1,h2⟩:=h;subst e;rw[HR,HR];exact(E9 h2).append (ay.cons h1 ay.nil)
theorem S9:∀{a:List Str} {b:List V},b.length=a.length->(a.zip b).map (·.1)=a
 |[],[],_=>rfl
 |x::a,y::b,h=>by simp[S9 (a:=a) (b:=b) (by simpa using h)]
theorem S_:∀{a:List Str} {b:List V},b.length=a.length->(a.zip b).map (·.2)=b
 |[],[],_=>rfl
 |x::a,y::b,h=>by simp[S_ (a:=a) (b:=b) (by simpa using h)]
theorem acG{K:PySem.W.Frag}{mg:Str->Option Value}{ρ:List Addr}{H:Hp}{tag:Str}{bR:List Str}{ds:List D}{vs:List V}(r:ay K mg ρ H ds vs)(hl:ds.length=bR.length):vs.length=bR.length/\(jC tag bR vs).map (·.1)=bR.reverse++[("tag":Str)]/\ay K mg ρ H (ds.reverse++[D.str tag]) ((jC tag bR vs).map (·.2)):=by
 have bB:vs.length=bR.length:=by rw[<-r.len];exact hl
 refine⟨bB,?_,?_⟩
 .unfold jC
  rw[List.map_append,List.map_reverse,S9 bB];rfl
 .unfold jC
  rw[List.map_append,List.map_reverse,S_ bB];exact(E9 r).append (ay.cons (by rw[Rep]) ay.nil)
section
variable{X:Cx}{pins:List (Addr×Obj)}{σ:L2.St}{H:Hp}{s:Shared}
theorem acH{c:Str}{C:Addr}{k:Nat}{tag:Str}{bR:List Str}{us:List Value}{vs:List V}{Q:Value->Shared->Prop}(M:jY X.prog X.w X.K X.mg X.base c C k tag bR)(hr:Room (k+1) X.A)(I:Inv X pins σ H s)(r:Vals vs us)(hl:vs.length=bR.length)(hz:bR.length<=100)
  (h:∀a d h' gL t' m,(∀b o,s.heap.get? b=some o->h'.get? b=some o)->s.heap.objs.size<=a->s.heap.objs.size<=d->a≠d->h'.get? a=some (ZX.exd C t' (some d))->h'.Ns1 d m->(∀g,RelO ((jC tag bR vs).lookup g) (m g))->Q (.ref a) { s with heap:=h',toks:=gL }) :
  wpAny (model X.prog X.w) X.A (call (.ref C) us) Q X.xe s:=by
 obtain⟨B,newId,KQ,gK,AZ,FB,q,KR,KS,F⟩:=M.ex I.ok.mod;obtain⟨nm,SN,hW,bs,bm,SQ,sn,sub,ab,col,dd,oa,c0,b6,iR,E4,g_,eG⟩:=PySem.W.excInit_of I.kIn q;obtain⟨hp,g,sQ,tk,os⟩:=s;have KU:us.length=bR.length:=by rw[<-r.length];exact hl
 have kk:∀b o,hp.get? b=some o->((hp.push (PySem.W.kdv_tup us)).push (PySem.HandSPX.excO C hp.objs.size)).get? b=some o:=λb o e=>Heap.get?_push_of_some _ (Heap.get?_push_of_some _ e);have m7:((hp.push (PySem.W.kdv_tup us)).push (PySem.HandSPX.excO C hp.objs.size)).get? (hp.objs.size+1)=some (PySem.HandSPX.excO C hp.objs.size):=by heap_get
 have e7:hp.objs.size+1+1=((hp.push (PySem.W.kdv_tup us)).push (PySem.HandSPX.excO C hp.objs.size)).objs.size:=by rw[Heap.size_push,Heap.size_push]
 have KW:X.base.get? (hp.objs.size+1)=none:=by
  cases e:X.base.get? (hp.objs.size+1)with
  |none=>rfl
  |some o=>exact absurd (Heap.lt_size (I.bk _ _ e)) (Nat.not_lt.mpr (Nat.le_succ _))
 have dep:=(hr.make C us []).dp;refine wpAny_call (PySem.HandSPX.call_own FB eG g_ (PySem.W.looks_findIn I.kIn KR) (λself=>PySem.W.bind_fn I.kIn self KS) (by rw[KU,sizeLine_eq];omega) ?_);refine F _ _ (hp.objs.size+1) hp.objs.size us vs _ _ (by omega) (λb o e=>kk b o (I.bk b o e)) KW m7 r (if_pos hl) λh' gL t' bx m pF AW hx hn rel=>?_;refine⟨rfl,?_⟩;have KY:∀b o,hp.get? b=some o->h'.get? b=some o:=λb o e=>pF b o (hZ (oY (Heap.lt_size e) (qe _))) (kk b o e);grind
theorem acI{c:Str}{C:Addr}{k:Nat}{tag:Str}{bR:List Str}{us:List Value}{vs:List V}{Q:XK}(M:jY X.prog X.w X.K X.mg X.base c C k tag bR)(hr:Room (k+1) X.A)(I:Inv X pins σ H s)(r:Vals vs us)(hl:vs.length=bR.length)(hz:bR.length<=100)
  (h:∀d,H d=none->Q (.ref C) (some d) (upd H d (.xd (jC tag bR vs)))) :
  wpAny (model X.prog X.w) X.A (call (.ref C) us) (L2N.MkP X pins σ Q) X.xe s:=by
 refine acH M hr I r hl hz λa d h' gL t' m KY ha hd ne hx hn rel=>?_;have A0:H a=none:=I.hok.fresh ha;have xX:H d=none:=I.hok.fresh hd;obtain⟨G,g1,g2⟩:=restrict h' λb=>decide (b≠a);have A1:∀b,b≠a->G.get? b=h'.get? b:=λb hb=>g1 b (decide_eq_true hb);have ge:G.get? a=none:=g2 a (by simp);have KZ:∀b o,s.heap.get? b=some o->G.get? b=some o:=λb o e=>by rw[A1 b (hZ (jr (Heap.lt_size e) ha))];grind
 have bp:∀b o,G.get? b=some o->h'.get? b=some o:=λb o e=>by
  grind
 have J:Inv X pins σ (upd H d (.xd (jC tag bR vs))) { s with heap:=G,toks:=gL }:=I.laid (t':=gL) KZ hd ⟨m,hn.at λo y=>(A1 d (jq ne)).trans y,rel⟩;exact⟨a,_,_,{ s with heap:=G,toks:=gL },_,.ref C,some d,rfl,J,bp,ge,hx,⟨rfl,rfl,λvs e=>by cases e;rfl⟩,rfl,rfl,by rw[upd_ne ne];exact A0,rfl,J.bare,raises_own M.exC M.tyC,h d xX⟩
end
def dU(c tag:Str)(bR:List Str):aD:=λds S=>if ds.length=bR.length then .ok (.exc c (bR.reverse++[("tag":Str)]) (ds.reverse++[D.str tag])) S else .bad
section
variable{X:Cx}{W:WX}{k:Nat}{C:Addr}{x tag:Str}{bR:List Str}{p pos:Pos}{e:Expr}{es:List Expr}{fa:cO}
def ec(f:aM):SX:=λsl S=>match f sl S with
 | .ok (.exc c ns ds) ak=>.ex (.ins c ns ds) sl ak
 | .ok _ _=>.bad
 | .ex e ak=>.ex e sl ak
 | .bad=>.bad
theorem S'{K:PySem.W.Frag}{mg:Str->Option Value}{ρ:List Addr}{H:Hp}{S:Store}{sl:aL}{σ:L2.St}{ds:List D}{vs:List V}{dY:Ends}{d:Addr}(hm:mg x=some (.ref C))(w:aF K mg ρ H S)(rs:cq K mg ρ H σ sl)(r:ay K mg ρ H ds vs)(hl:ds.length=bR.length)(hd:H d=none)
  (p:bL K mg W ρ H dY (.ex (.ins x (bR.reverse++[("tag":Str)]) (ds.reverse++[D.str tag])) sl S)):W (.ref C) (some d) σ (upd H d (.xd (jC tag bR vs))):=by
 have x1:Ext ρ H ρ (upd H d (.xd (jC tag bR vs))):=Ext.iD hd;obtain⟨_,au,e2⟩:=acG (tag:=tag) r hl;exact p _ _ σ ρ _ x1 (w.iD hd) (rs.ext x1) ⟨x,_,_,C,d,_,rfl,hm,rfl,rfl,w.nin hd,upd_same,au,e2.ext x1⟩
theorem lY(tk:Takes X W)(hc:X.calm=true)(M:jY X.prog X.w X.K X.mg X.base x C k tag bR)(hr:Room (k+1) X.A)(hz:bR.length<=100)(ha:gq X W (e::es) fa){pr:Pos}(hg:Gl X x:=by rfl)
  (g9:(x==("__debug__":Str))=false:=by decide) (he:starEach (e::es) X.env=(false,eval e X.env)::starEach es X.env:=by rfl) (eQ:(backTo pos (starEach es X.env)).any (·.1)=false:=by rfl) :
  ES X W (.Raise (some (.Call (.Name x p) (e::es) [] pos)) none pr) (ec (aw (dU x tag bR) fa)):=by
 refine PS.imp (Zv hc tk (t:=λσ H Q=>r7 X.K X.mg W fa σ H λvs H1=>vs.length=bR.length/\∀d,H1 d=none->Q (.ref C) (some d) (upd H1 d (.xd (jC tag bR vs)))) ?_) λdY σ H ⟨ρ,S,sl,w,rs,p⟩=>?_
 .intro pins s σ H Q I h
  refine wpAny_Call_Name_kw (ld_glob I hg M.hm ?_ g9);refine rW (h₀:=X.base) I.ok.mod.kin M.keep (thn (ha.run pos pins s σ H _ I h) λus s1 ⟨vs,H1,I1,r,hl,q⟩=>⟨I1.kIn,?_⟩) he eQ;exact acI M hr I1 r hl hz q
 .refine⟨ρ,S,sl,w,rs,?_⟩
  unfold ec aw at p;cases o:fa sl S with
  |ok ds S1 =>
   intro vs aB H1 x1 aE r1;have p:bL X.K X.mg W ρ H dY (match dU x tag bR ds S1 with|.ok (.exc c ns ds) ak=>.ex (.ins c ns ds) sl ak|.ok _ _=>.bad|.ex e ak=>.ex e sl ak|.bad=>.bad):=by
    rw[o]at p;exact p
   unfold dU at p;by_cases hl:ds.length=bR.length
   .rw[if_pos hl]at p
    exact⟨by rw[<-r1.len];exact hl,λd hd=>S' M.hm aE (rs.ext x1) r1 hl hd (bL.from x1 p)⟩
   .rw[if_neg hl]at p
    exact p.elim
  |ex e S1 =>
   have p:bL X.K X.mg W ρ H dY (.ex e sl S1):=by rw[o]at p;exact p
   exact λC dd aB H1 x1 aE r1=>p C dd σ aB H1 x1 aE (rs.ext x1) r1
  |bad=>rw[o]at p;exact p.elim
end
end Z
namespace L2
open PySem PySem.Spec PyProof.Rows
section
variable{X:Cx}{pins:List (Addr×Obj)}{σ:St}{H:Hp}{s:Shared}
theorem Inv.acJ(I:Inv X pins σ H s)(a:Addr):Inv (X.suite a (X.pn++pins)) [] σ H s :=
 ⟨I.ok.suite _ _,I.os,I.bare,I.base,I.loc,I.cell,I.free,I.freeC,λp hp=>by
  have E_:p∈(X.pn++pins)++[]:=hp;rw[ug]at E_;exact I.pin p E_,I.hok,I.len⟩
end
def K0(X:Cx)(test:Expr)(cs:List Value):Prop :=
 ∀(a:Addr) (pn:List (Addr×Obj)) (σ:St) (H:Hp) (s:Shared) (cls:Value) (b:Bool) (Q:Value->Shared->Prop) (E:Value->Shared->Prop),Inv (X.suite a pn) [] σ H s->PySem.W.exmAny X.K cls cs=some b->PySem.W.Looks (model X.prog X.w) s.heap (typeOf (.ref a)) cls ->
  (∀c s',s'.os=s.os->s'.gens=s.gens->(∀b o,s.heap.get? b=some o->s'.heap.get? b=some o)->PySem.W.Looks (model X.prog X.w) s'.heap (excMatches (.ref a) c) b->Q c s')->wpAny (model X.prog X.w) (X.A.mark (some (.ref a))) (eval test X.env) Q E s
section
variable{X:Cx}
theorem K1{a:Addr}{pn:List (Addr×Obj)}{σ:St}{H:Hp}{s:Shared}{x:Str}{C:Value}{p:Pos}{Q E:Value->Shared->Prop}(I:Inv (X.suite a pn) [] σ H s)(hg:Gl X x)(hm:X.mg x=some C)(h:Q C s)(hd:(x==("__debug__":Str))=false:=by decide) :
  wpAny (model X.prog X.w) (X.A.mark (some (.ref a))) (eval (.Name x p) X.env) Q E s:=ld_glob (X:=X.suite a pn) I hg hm h hd
theorem acK{x1 x2 dc:Str}{K2 K3 K4:Value}{p1 p2 cu p:Pos}{k:_}(g1:Gl X x1)(m1:X.mg x1=some K2)(g2:Gl X x2)(m2:X.mg x2=some K3)(g3:Gl X dc)(xR:X.mg dc=some K4)
  (he:∀A:Unit,starEach [.Name x1 p1,.Name x2 p2,.Name dc cu] X.env=[(false,eval (.Name x1 p1) X.env),(false,eval (.Name x2 p2) X.env),(false,eval (.Name dc cu) X.env)]:=by intro _;rfl)
  (k4:(x1==("__debug__":Str))=false:=by decide) (qN:(x2==("__debug__":Str))=false:=by decide) (acL:(dc==("__debug__":Str))=false:=by decide):K0 X (.Tuple [.Name x1 p1,.Name x2 p2,.Name dc cu] k p) [K2,K3,K4]:=by
 intro a pn σ H s cls b Q E I hb LT h;refine wpAny_Tuple_spliced ?_;rw[he ()];refine Calls.spliced_cons (K1 I g1 m1 ?_ k4);refine Calls.spliced_cons (K1 I g2 m2 ?_ qN);refine Calls.spliced_cons (K1 I g3 xR ?_ acL);refine Calls.spliced_nil ⟨by show 3<=sizeLine;rw[sizeLine_eq];omega,?_⟩;have k:∀b o,s.heap.get? b=some o->(s.heap.push { cls:=.type "tuple",data:=.seq [K2,K3,K4].toArray }).get? b=some o:=λb o e=>Heap.get?_push_of_some _ e;exact h _ _ rfl rfl k (PySem.W.exm_tup3 (I.kIn.keeps k) (LT.keeps k) (Heap.get?_push_size _ rfl) hb)
end
theorem acM{B h h':Heap}{l:List Env}{a:Addr}{Z:Obj->Prop}(k:∀b o,h.get? b=some o->h'.get? b=some o)(f:HandSPX.FlyingZ B l a Z h):HandSPX.FlyingZ B l a Z h':=by
 obtain⟨c0,b6,iR,eP,vs,T,Ta,ts,he,hz,hd,h1,acN,acO,eG,acP,aI⟩:=f;exact⟨λb o e=>k b o (c0 b o e),b6,iR.of_keeps λb o e _=>⟨o,k b o e,rfl⟩,eP,vs,T,Ta,ts,k _ _ he,hz,hd,h1,acN,acO,k _ _ eG,acP,aI⟩
end L2
namespace Z
open PySem PySem.Spec L2 PyProof.Rows
def E'(X:Cx)(cs:List Value)(tab:List (Str×Bool)):Prop:=∀c b,tab.lookup c=some b->∀C,X.mg c=some (.ref C)->PySem.W.exmAny X.K (.ref C) cs=some b
def acQ(N:List Str)(sl:aL)(n:Str):Option D:=((N.zip sl).lookup n).bind id
def Tb(N:List Str)(sl:aL):List Str->Option (List D)
 |[]=>some []
 |n::ns=>match acQ N sl n,Tb N sl ns with
  |some d,some r=>some (d::r)
  |_,_=>none
def acR(q5:List Str)(nV:List (Str×Addr))(T:w5)(da:List (Str×Addr)):Prop:=da=cloFrom nV T.scope.names []/\T.names.Nodup/\∀n∈T.names,n∈q5/\T.scope.names.lookup n=some .free
noncomputable section
open Classical in
mutual
def conv(q5 N:List Str)(nV:List (Str×Addr))(sl:aL):D->Option D
 | .lam T da=>if acR q5 nV T da then(Tb N sl T.names).map (.h4 T)else none
 | .lst xs=>(Fb q5 N nV sl xs).map .lst
 | .tup xs=>(Fb q5 N nV sl xs).map .tup
 | .bS xs=>(Fb q5 N nV sl xs).map .bS
 |d=>some d
def Fb(q5 N:List Str)(nV:List (Str×Addr))(sl:aL):List D->Option (List D)
 |[]=>some []
 |d::ds=>match conv q5 N nV sl d,Fb q5 N nV sl ds with
  |some a,some b=>some (a::b)
  |_,_=>none
end
end
open PySem PySem.Spec L2
section
variable{X:Cx}
def oE:aD:=λds S=>match ds with
 |[.int i]=>.ok (.int (if i<0 then -i else i)) S
 |_=>.bad
theorem A2:hN X (.builtin "abs") oE:=by
 refine⟨_,call_abs,λWp ρ H S ds xs Q w r p=>?_⟩;unfold oE at p;split at p
 .obtain⟨v,e,h1⟩:=kh r
  rw[fX h1]at e;exact⟨_,e,cj p w h9⟩
 .exact p.elim
def sR:aD:=λds S=>match ds with
 |[.int i]=>if i.natAbs.log2<1920 then .ok (.str (toString i)) S else .bad
 |_=>.bad
theorem Fc:hN X (.type "str") sR:=by
 refine⟨_,call_str_int,λWp ρ H S ds xs Q w r p=>?_⟩;unfold sR at p;split at p
 .split at p
  .rename_i h
   obtain⟨v,e,h1⟩:=kh r;rw[fX h1]at e;exact⟨_,e,h,cj p w mP⟩
  .exact p.elim
 .exact p.elim
end
end Z
namespace PySem.W
open PySem PySem.Calls PyProof.Rows Builtin
section
variable{prog:Program}{w:World}{A:Around}{E:Value->Shared->Prop}{s:Shared}{K:Frag}{x C f:Addr}{vj:Obj}{od:Option Obj}
theorem Tc{op:CmpOp}{b tb:Value}{Q:Value->Shared->Prop}(aT:A.units<cLine)(X:K.In s.heap)(I:InstAt s.heap x vj C od)(hb:Looks (model prog w) s.heap (typeOf b) tb)(hn:notFirst K C tb=true)
  (hs:findIn K (.ref C) (cmpInfo op).2.1=some (some (.ref f))) (hf:isFn K (.ref f)=true)
  (h:wpAny (model prog w) A (call (.ref f) [.ref x,b]) (CmpBack Q) E s):wpAny (model prog w) A (richCompare op (.ref x) b) Q E s:=by
 have one:wpAny (model prog w) A (tryCompare (.ref x) (cmpInfo op).2.1 b) (λr s'=>∃v,r=some v/\Q v s') E s:=by
  unfold tryCompare;refine wpAny_bind (ifBound_K X I hs hf (wpAny_mono h (λv s' bB=>?_) λ_ _ e=>e));cases v<;>first|exact bB.elim|exact wpAny_pure ⟨_,rfl,bB⟩
 unfold richCompare;simp only[oneThing_ref];refine wpAny_holding (wpAny_bind (wpAny_cRoomFor aT ?_));refine wpAny_bind (I.type.here (wpAny_bind (hb.here ?_)));split
 .rename_i q
  have e:subIn K tb (.ref C)=some false:=by
   rcases Bool.or_eq_true_iff.mp hn with e|e
   .grind
   .grind
  refine wpAny_bind ((looks_subIn X e).here ?_);simp only[uh,if_false];refine wpAny_bind (wpAny_mono one (λr s' z=>?_) λ_ _ e=>e);obtain⟨v,rfl,hq⟩:=z;exact wpAny_pure hq
 .refine wpAny_bind (wpAny_pure ?_)
  simp only[uh,if_false];refine wpAny_bind (wpAny_mono one (λr s' z=>?_) λ_ _ e=>e);obtain⟨v,rfl,hq⟩:=z;exact wpAny_pure hq
end
end PySem.W
namespace Z
open PySem PySem.Spec L2 PyProof.Rows
structure gX(X:Cx)(W:WX)(f:Value->Value->Sem Value)(sem:bZ):Prop where
 go:∀(pins:List (Addr×Obj)) (s:Shared) (σ:L2.St) (ρ:List Addr) (H:Hp) (S:Store) (d e:D) (x y:V) (v u:Value) (Q:VK),Inv X pins σ H s->RelV x v->RelV y u->aF X.K X.mg ρ H S->Rep X.K X.mg ρ H d x->Rep X.K X.mg ρ H e y ->
  aS X.K X.mg (λC dd H'=>W C dd σ H') ρ H Q (sem d e S)->wpAny (model X.prog X.w) X.A (f v u) (EP X pins σ Q) X.xe s
section
variable{X:Cx}{W:WX}{a b:Expr}{fa fb:aM}{pos:Pos}
theorem cA.w{f:Value->Value->Sem Value}{sem:bZ}(h:cA X f sem):gX X W f sem:=⟨λpins s σ ρ H S d e x y v u Q I aR cv w aC a_ p=>by
 obtain⟨r,o,g⟩:=h.go;exact o pins s σ H x y v u Q I aR cv (g _ ρ H S d e x y Q w aC a_ p)⟩
theorem gX.or{f:Value->Value->Sem Value}{s t:bZ}(h:gX X W f s)(h':gX X W f t):gX X W f (cX s t):=⟨λpins s0 σ ρ H S d e x y v u Q I aR cv w aC a_ p=>by
 unfold cX at p;cases q:s d e S with
 |bad=>rw[q]at p;exact h'.go pins s0 σ ρ H S d e x y v u Q I aR cv w aC a_ p
 |ok a b=>rw[q]at p;exact h.go pins s0 σ ρ H S d e x y v u Q I aR cv w aC a_ (by grind)
 |ex a b=>rw[q]at p;exact h.go pins s0 σ ρ H S d e x y v u Q I aR cv w aC a_ (by grind)⟩
theorem Td{f:Value->Value->Sem Value}{sem:bZ}(aQ:gX X W f sem)(ha:E X W a fa)(hb:E X W b fb){pins:List (Addr×Obj)}{s:Shared}{σ:L2.St}{H:Hp}{Q:VK}(I:Inv X pins σ H s)(h:fx X.K X.mg W (az sem fa fb) σ H Q){R:Value->Shared->Prop}
  (k:∀v u s2,wpAny (model X.prog X.w) X.A (f v u) (EP X pins σ Q) X.xe s2->wpAny (model X.prog X.w) X.A (f v u) R X.xe s2) :
  wpAny (model X.prog X.w) X.A (eval a X.env) (λv s₁=>wpAny (model X.prog X.w) X.A (eval b X.env) (λu s₂=>wpAny (model X.prog X.w) X.A (f v u) R X.xe s₂) X.xe s₁) X.xe s:=by
 obtain⟨ρ,S,sl,w,rs,p⟩:=h;refine thn (ha.run pins s σ H _ I ⟨ρ,S,sl,w,rs,aS.e3 p⟩) λv s1 ⟨x,H1,I1,r1,aB,S1,d,x1,aE,rd,_,p1⟩=>?_;refine thn (hb.run pins s1 σ H1 _ I1 ⟨aB,S1,sl,aE,rs.ext x1,aS.e3 p1⟩) λu s2 ⟨y,aH,I2,r2,aP,S2,e,x2,cD,re,_,p2⟩=>?_;exact k v u s2 (aQ.go pins s2 σ aP aH S2 d e x y v u Q I2 r1 r2 cD (rd.ext x2) re p2)
theorem Te{op:CmpOp}{sem:bZ}(aQ:gX X W (compareOp op) sem)(ha:E X W a fa)(hb:E X W b fb)(hm:behindInMarks op b=false:=by first|exact nomark _|rfl):E X W (.Compare a [op] [b] pos) (az sem fa fb) :=
 ⟨λpins s σ H Q I h=>wpAny_Compare1 (Td aQ ha hb I h λ_ _ _ z=>z) hm⟩
theorem vp{op:CmpOp}{sem:bZ}(aQ:gX X W (compareOp op) sem)(ha:E X W a fa)(hb:E X W b fb)(hm:behindInMarks op b=false:=by first|exact nomark _|rfl):jL X W (.Compare a [op] [b] pos) (aK (az sem fa fb)):=by
 refine⟨λpins s σ H Q I h=>?_⟩;obtain⟨ρ,S,sl,w,rs,p⟩:=h;have p':=aS.bindB p;refine wpAny_isTrue_Compare1 (Td (Q:=λv H1=>∃k,v=.bl k/\Q k H1) aQ ha hb I ⟨ρ,S,sl,w,rs,aS.mono p' λv H1 ⟨aB,S1,d,x1,aE,r1,_,p1⟩=>?_⟩ λv u s2 z=>thn z λc s3 ⟨x,dG,lT,bU,k,e,fD⟩=>?_) hm
 .cases d with
  |bl k =>
   rw[Rep]at r1;exact⟨k,r1,p1 aB H1 Ext.refl aE⟩
  |_=>exact p1.elim
 .subst e
  cases bU;exact wpAny_truthy_bool ⟨dG,lT,fD⟩
theorem Fd{pins:List (Addr×Obj)}{s:Shared}{σ:L2.St}{H:Hp}{p C bx:Addr}{fs:List (Str×V)}(I:Inv X pins σ H s)(ea:H p=some (.ins C bx fs)):∃vj od,PySem.W.InstAt s.heap p vj C od:=by
 obtain⟨aa1,O,_,_,_,_⟩:=ins_get I.hok ea;obtain⟨od,J,_⟩:=O.look;grind
theorem acS(K:PySem.W.Frag)(k:lP)(C:Addr):PySem.W.subIn K (.type k.name) (.ref C)=some false:=by
 cases k<;>first|rfl|kernel_rfl
structure pG(X:Cx)(m:Str)(j:Nat)(tab:List (Str×aD)):Prop where
 at_:∀c g,hv tab c=some g->∀C,X.mg c=some (.ref C)->∃(f:Addr) (k:Nat),Meth X.K C m f/\a5 X.prog X.w X.K X.mg X.base k f g/\Room (k+j) X.A
theorem sS{m:Str}{j:Nat}:pG X m j []:=⟨λc g h=>by cases h⟩
theorem sT{m:Str}{j:Nat}{c:Str}{C f:Addr}{k:Nat}{g:aD}{tab:List (Str×aD)}(hm:X.mg c=some (.ref C))(ko:Meth X.K C m f)(F:a5 X.prog X.w X.K X.mg X.base k f g)(hk:Room (k+j) X.A)(h:pG X m j tab):pG X m j ((c,g)::tab):=⟨λbA fS h' dB gF=>by
 unfold hv at h';rw[List.lookup_cons]at h';cases q:bA==c with
 |true =>
  grind
 |false =>
  rw[q]at h';exact h.at_ bA fS h' dB gF⟩
structure pH(X:Cx)(oth:List Str)(tab:List (Str×aD)):Prop where
 at_:∀c g,hv tab c=some g->∀C,X.mg c=some (.ref C)->(∀bA∈oth,∀dB,X.mg bA=some (.ref dB)->PySem.W.notFirst X.K C (.ref dB)=true)/\PySem.W.findIn X.K (.ref C) "__ne__"=some (some (.builtin "object.__ne__"))/\PySem.W.mroIn X.K C (.type "object")=some true
structure oF(K:PySem.W.Frag)(C:Addr):Prop where
 cl:Cls K C
 ha:PySem.W.findIn K (.ref C) "__class__"=some (some (.builtin "object.__class__"))
 ob:PySem.W.mroIn K C (.type "object")=some true
theorem acT(K:PySem.W.Frag):PySem.W.specialIn K (.builtin "object.__class__") "__get__"=some (some (.builtin "getset_descriptor.__get__")):=by kernel_rfl
theorem acU(K:PySem.W.Frag):PySem.W.takesIn K (.builtin "object.__class__")=some true:=by kernel_rfl
theorem oF.ty{K:PySem.W.Frag}{C a bx:Addr}{H:Hp}{fs:List (Str×V)}(t:oF K C)(e:H a=some (.ins C bx fs)):TyX K H (.ref a) (.ref C):=.base (.ins e t.cl t.ha (acT K) (acU K) t.ob)
structure Fe(X:Cx)(tab:List (Str×List Str×List Str)):Prop where
 at_:∀D yes no,tab.lookup D=some (yes,no)->∀eA,X.mg D=some (.ref eA)->((PySem.W.clsIn X.K eA).isSome&&PySem.W.typeIn X.K (.ref eA)==some (.type "type"))=true /\
  (∀c∈yes,∀C,X.mg c=some (.ref C)->oF X.K C/\PySem.W.kitOne X.K (.ref C) (.ref eA)=some true)/\(∀c∈no,∀C,X.mg c=some (.ref C)->oF X.K C/\PySem.W.kitOne X.K (.ref C) (.ref eA)=some false)
def vq(tab:List (Str×List Str×List Str)):aD:=λds S=>match ds with
 |[d,.cls D]=>(match tab.lookup D with
  |some (yes,no)=>(match f' S d with
   |some (c,_,_)=>if c∈yes then .ok (.bl true) S else if c∈no then .ok (.bl false) S else .bad
   |none=>if(i7 S d).isSome=true then .ok (.bl false) S else .bad)
  |none=>.bad)
 |_=>.bad
theorem acV{K:PySem.W.Frag}{eA:Addr}(h:((PySem.W.clsIn K eA).isSome&&PySem.W.typeIn K (.ref eA)==some (.type "type"))=true)(k:lP):PySem.W.kitOne K (.type k.name) (.ref eA)=some false:=by
 unfold PySem.W.kitOne;rw[if_neg (by simp)];unfold PySem.W.kitCls;dsimp only;rw[if_pos h];exact acS K k eA
theorem Tf{tab:List (Str×List Str×List Str)}(ht:Fe X tab):hN X (.builtin "isinstance") (vq tab):=by
 refine⟨_,call_isi,λWp ρ H S ds xs Q w r p=>?_⟩;unfold vq at p;split at p
 .rename_i d D
  split at p
  .rename_i yes no dr
   rw[ay]at r;obtain⟨v,bM,e,h1,h2⟩:=r;rw[ay]at h2;obtain⟨u,r2,e2,aI,bE⟩:=h2;rw[ay]at bE;subst bE e2 e;rw[Rep]at aI;obtain⟨eA,bT,A3⟩:=aI;subst A3;obtain⟨a1,a2,a3⟩:=ht.at_ D yes no dr eA bT;split at p
   .rename_i c ns vs u9
    obtain⟨a,C,bx,fs,ex,hm,ea,hn,cB⟩:=o_ w h1 u9;subst ex;split at p
    .rename_i a6
     obtain⟨t,kk⟩:=a2 c a6 C hm;exact⟨.ref a,.ref eA,_,.ref eA,true,rfl,.own eA,t.ty ea,kk,cj p w gS⟩
    .split at p
     .rename_i a6
      obtain⟨t,kk⟩:=a3 c a6 C hm;exact⟨.ref a,.ref eA,_,.ref eA,false,rfl,.own eA,t.ty ea,kk,cj p w gS⟩
     .exact p.elim
   .split at p
    .rename_i hk
     obtain⟨kk,acW⟩:=Option.isSome_iff_exists.mp hk;exact⟨v,.ref eA,_,.ref eA,false,rfl,.own eA,D9 w h1 acW,acV a1 kk,cj p w gS⟩
    .exact p.elim
  .exact p.elim
 .exact p.elim
end
theorem Fun.d:True:=trivial
section
variable{P:Program}{w:World}{K:PySem.W.Frag}{mg:Str->Option Value}{base:Heap}
theorem acX{N ps:List Str}{qual:Str}{scope:Scope}{f:Addr}{A:Around}{outer:List Env}{s:Shared}{k:Nat}{st:List Stmt}{body:SX}{eR:Value}
  (hb:∀(H:Hp) (E:XK),gu (cxOf (Z.CX P w) P w K mg base N qual scope f eR A outer s H E) (λc d _ H'=>E c d H') st body) {H:Hp} {vs:List V} {Q:VK} {E:XK} (h:g' K mg ps.length (bN N.length body) vs H Q E) :
  ∃t,PSs (cxOf (Z.CX P w) P w K mg base N qual scope f eR A outer s H E) st t/\t { nx:=λ_ H'=>Q .non H',rt:=Q } (L2.start N vs) H:=by
 obtain⟨ρ,S,ds,hl,ei,r,p⟩:=h;refine⟨_,hb H E,ρ,S,_,ei,I8 r,?_⟩;have p:=I7 ei p;cases q:body (ds.map some++List.replicate (N.length - ds.length) none) S with
 |nx sl ak=>rw[q]at p;exact λbD aj H' x aE r1=>p .non aj H' x aE (by rw[Rep])
 |rt d ak=>rw[q]at p;exact p
 |ex e sl ak=>rw[q]at p;exact λC dd bD aj H' x aE _ r1=>p C dd aj H' x aE r1
 |bk sl ak=>rw[q]at p;exact p.elim
 |ct sl ak=>rw[q]at p;exact p.elim
 |bad=>rw[q]at p;exact p.elim
theorem acY{N ps:List Str}{qual:Str}{scope:Scope}{f:Addr}{A:Around}{outer:List Env}{s:Shared}{k:Nat}{st:List Stmt}{body:SX}{eR:Value}
  (hb:∀(H:Hp) (E:XK),gu (cxOf (Z.CX P w) P w K mg base N qual scope f eR A outer s H E) (λc d _ H'=>E c d H') st body) {H:Hp} {vs:List V} {Q:VK} {E:XK} (h:g' K mg ps.length (Ai N.length body) vs H Q E) :
  ∃t,PSs (cxOf (Z.CX P w) P w K mg base N qual scope f eR A outer s H E) st t/\t { nx:=λ_ H'=>Q .non H',rt:=Q } (L2.start N vs) H:=by
 obtain⟨ρ,S,ds,hl,ei,r,p⟩:=h;refine⟨_,hb H E,ρ,S,_,ei,I8 r,?_⟩;have p:aS K mg E ρ H Q (body (ds.map some++List.replicate (N.length - ds.length) none) S).out:=p;cases q:body (ds.map some++List.replicate (N.length - ds.length) none) S with
 |nx sl ak=>rw[q]at p;exact λbD aj H' x aE r1=>p .non aj H' x aE (by rw[Rep])
 |rt d ak=>rw[q]at p;exact p
 |ex e sl ak=>rw[q]at p;exact λC dd bD aj H' x aE _ r1=>p C dd aj H' x aE r1
 |bk sl ak=>rw[q]at p;exact p.elim
 |ct sl ak=>rw[q]at p;exact p.elim
 |bad=>rw[q]at p;exact p.elim
theorem Tg{n:Nat}{g:aD}(vs:List V)(H:Hp)(Q:VK)(E:XK)(h:g' K mg n g vs H Q E):vs.length=n:=by
 obtain⟨ρ,S,ds,hl,_,r,_⟩:=h;rw[<-r.len,hl]
theorem lZ{x qual:Str}{params:Arguments}{stb:List Stmt}{scope:Scope}{dvs:List V}{kws:List (Str×V)}{f:Addr}{fd:FuncData}{N ps:List Str}{k:Nat}{body:SX}(F:FunD K x qual params stb scope dvs kws f fd)(Sc:FnScope N ps scope)
  (hb:∀(A:Around) (outer:List Env) (s:Shared) (H:Hp) (E:XK),Room k (A.deeper (envOfC qual scope s.heap.objs.size f fd.code)) ->
   gu (cxOf (Z.CX P w) P w K mg base N qual scope f fd.code A outer s H E) (λc d _ H'=>E c d H') stb body) :
  FnOk P w K mg base (Z.CX P w) (k+1) f fd ps (g' K mg ps.length (bN N.length body)):=by
 obtain⟨eZ,od,g7,kV,doc,pm,an,eR,ct,il,rfl,lk,jM,_,_⟩:=F.ex;exact fn_of lk jM Sc Tg λA outer s H vs Q E hr h=>acX (ps:=ps) (k:=k) (λH E=>hb A outer s H E hr) h
theorem acZ{x qual:Str}{params:Arguments}{stb:List Stmt}{scope:Scope}{dvs:List V}{kws:List (Str×V)}{f:Addr}{fd:FuncData}{N ps:List Str}{k:Nat}{body:SX}(F:FunD K x qual params stb scope dvs kws f fd)(Sc:FnScope N ps scope)
  (hb:∀(A:Around) (outer:List Env) (s:Shared) (H:Hp) (E:XK),Room k (A.deeper (envOfC qual scope s.heap.objs.size f fd.code)) ->
   gu (cxOf (Z.CX P w) P w K mg base N qual scope f fd.code A outer s H E) (λc d _ H'=>E c d H') stb body) :
  FnOk P w K mg base (Z.CX P w) (k+1) f fd ps (g' K mg ps.length (Ai N.length body)):=by
 obtain⟨eZ,od,g7,kV,doc,pm,an,eR,ct,il,rfl,lk,jM,_,_⟩:=F.ex;exact fn_of lk jM Sc Tg λA outer s H vs Q E hr h=>acY (ps:=ps) (k:=k) (λH E=>hb A outer s H E hr) h
def Ff(n:Nat)(eB:List D)(g:aD):aD:=λds S=>if ds.length=n then g ds S else if ds.length+eB.length=n then g (ds++eB) S else .bad
theorem ac0{f:Addr}{fd:FuncData}{ps:List Str}{k n:Nat}{g:aD}{dvs:List V}{eB:List D}(F:FnOk P w K mg base (Z.CX P w) k f fd ps (g' K mg n g))(h0:Binds K fd ps [])(h1:∃ds,Vals dvs ds/\Binds K fd ps ds)(vr:∀ρ H,ay K mg ρ H eB dvs):a5 P w K mg base k f (Ff n eB g):=by
 obtain⟨dfs,hd,hb⟩:=h1;intro A outer s H us vs Q E hr cG r ⟨ρ,S,ds,ei,rd,p⟩;unfold Ff at p;split at p
 .rename_i hl
  exact(F.raw h0 .nil) A outer s H us vs Q E hr cG r ⟨ρ,S,ds,hl,ei,by grind,p⟩
 .split at p
  .rename_i hl
   exact(F.raw hb hd) A outer s H us vs Q E hr cG r ⟨ρ,S,ds++eB,by grind,ei,rd.append (vr ρ H),p⟩
  .exact p.elim
def ky{α:Type}(ix:List Nat)(xs:List α):List α:=ix.filterMap λi=>xs[i]?
theorem Ti{ρ:List Addr}{H:Hp}{ds:List D}{vs:List V}(r:ay K mg ρ H ds vs):∀ix:List Nat,ay K mg ρ H (ky ix ds) (ky ix vs)
 |[]=>ay.nil
 |i::ix=>by
  have ih:=Ti r ix;unfold ky at ih ⊢;rw[rX,rX];cases e:ds[i]? with
  |some d =>
   obtain⟨v,e2,q⟩:=r.get e;rw[e2];exact ay.cons q ih
  |none =>
   have e2:vs[i]?=none:=by
    rw[List.getElem?_eq_none_iff]at e ⊢;rw[<-r.len];exact e
   grind
theorem Tj{vs:List V}{us:List Value}(r:Vals vs us):∀ix:List Nat,Vals (ky ix vs) (ky ix us)
 |[]=>.nil
 |i::ix=>by
  have ih:=Tj r ix;unfold ky at ih ⊢;rw[rX,rX];cases e:vs[i]? with
  |some d =>
   obtain⟨v,e2,q⟩:=r.get e;rw[e2];exact .cons q ih
  |none =>
   have e2:us[i]?=none:=by
    rw[List.getElem?_eq_none_iff]at e ⊢;rw[<-r.length];exact e
   grind
def Tn(P:Program)(w:World)(K:PySem.W.Frag)(mg:Str->Option Value)(base:Heap)(CX:CXT)(k:Nat)(f:Addr)(n:Nat)(ks:List Str)(sp:Sp):Prop :=
 ∀(A:Around) (outer:List Env) (s:Shared) (H:Hp) (us ws:List Value) (vs zs:List V) (Q:VK) (E:XK),Room k A->Env0 P w K mg base A outer s H->Vals vs us->Vals zs ws->us.length=n->ws.length=ks.length->sp (vs++zs) H Q E ->
  codeAny (model P w) A (.call (.ref f) ⟨us,ks.zip ws⟩) (CR CX outer P w H s Q E) s
abbrev xY(P:Program)(w:World)(K:PySem.W.Frag)(mg:Str->Option Value)(base:Heap)(k:Nat)(f:Addr)(n:Nat)(ks:List Str)(g:aD):Prop:=Tn P w K mg base (Z.CX P w) k f n ks (Ah K mg g)
def A4(n m N:Nat)(ix:List Nat)(eB:List D)(g:aD):aD:=λds S=>if ds.length=n+m/\(ky ix (ds++eB)).length=N then g (ky ix (ds++eB)) S else .bad
theorem To{f:Addr}{fd:FuncData}{ps ks:List Str}{k n N:Nat}{ix:List Nat}{g:aD}{dvs:List V}{eB:List D}{its:List Value}(F:FnOk P w K mg base (Z.CX P w) k f fd ps (g' K mg N g))
  (hb:KBn K fd ps n ks (λus ws=>ky ix (us++ws++its)) (λvs zs=>ky ix (vs++zs++dvs))) (vr:∀ρ H,ay K mg ρ H eB dvs):xY P w K mg base k f n ks (A4 n ks.length N ix eB g):=by
 intro A outer s H us ws vs zs Q E hr cG r ng l1 l2 ⟨ρ,S,ds,ei,rd,p⟩;unfold A4 at p;split at p
 .rename_i hl
  have KX:K.In s.heap:=cG.mod.kin.keeps λb o e=>(cG.bs b o e).1;exact F.run A outer s H ⟨us,ks.zip ws⟩ _ _ Q E hr cG (hb.to s us ws KX l1 l2) (hb.rel r ng) ⟨ρ,S,_,hl.2,ei,Ti (rd.append (vr ρ H)) ix,p⟩
 .exact p.elim
theorem Tp{x qual:Str}{params:Arguments}{stb:List Stmt}{scope:Scope}{kws:List (Str×V)}{f:Addr}{fd:FuncData}{ps ks:List Str}{n:Nat}{ix:List Nat}(F:FunD K x qual params stb scope [] kws f fd)
  (h:∀(kV doc pm:Value) (an:Option Addr) (eR ct:Value) (us ws:List Value),us.length=n->ws.length=ks.length->bindArgs (PySem.W.fnOf x qual params stb scope .none kV doc pm an eR ct) ⟨us,ks.zip ws⟩=pure (ps.zip (ky ix (us++ws++[])))) :
  KBn K fd ps n ks (λus ws=>ky ix (us++ws++[])) (λvs zs=>ky ix (vs++zs++[])):=by
 obtain⟨eZ,od,g7,kV,doc,pm,an,eR,ct,il,rfl,lk,jM,bT,hK⟩:=F.ex;rcases bT with⟨_,rfl⟩|⟨e,_⟩
 .exact⟨λs us ws _ l1 l2=>.of_eq (h kV doc pm an eR ct us ws l1 l2),λr ng=>Tj ((r.append ng).append .nil) ix⟩
 grind
end
section
variable{X:Cx}{W:WX}
def Fg(X:Cx)(W:WX)(kws:List Keyword)(f:cO):Prop:=PK X kws (r7 X.K X.mg W f)
theorem PK.imp{kws:List Keyword}{t t':TA}(h:PK X kws t)(k:∀σ H Q,t' σ H Q->t σ H Q):PK X kws t':=⟨λpos pins s σ H Q I q=>h.run pos pins s σ H Q I (k σ H Q q)⟩
theorem Tq:Fg X W [] ai:=PK.imp pk_nil λσ H Q ⟨ρ,S,sl,w,rs,p⟩=>p [] ρ H Ext.refl w ay.nil
theorem Tr{nm:Option Str}{e:Expr}{ac1:Pos}{kws:List Keyword}{f:aM}{g:cO}(ha:E X W e f)(hr:Fg X W kws g):Fg X W (⟨nm,e,ac1⟩::kws) (ag f g) :=
 PK.imp (pk_cons ha hr) λσ H Q h=>QL h
variable{k n:Nat}{f:Addr}{g:aD}{x m:Str}{p pos:Pos}{e:Expr}{es:List Expr}{fa fk:cO}{ks:List Str}{kws:List Keyword}
theorem ac2{pins:List (Addr×Obj)}{σ:L2.St}{H:Hp}{s:Shared}{Q:VK}{us ws:List Value}{vs zs:List V}{sp:Sp}{E:XK}(F:Tn X.prog X.w X.K X.mg X.base (Z.CX X.prog X.w) k f n ks sp)(hr:Room k X.A)(hx:PassesAt (Z.CX X.prog X.w) X σ E)(I:Inv X pins σ H s)(r:Vals vs us)(ng:Vals zs ws)(l1:us.length=n)(l2:ws.length=ks.length)(h:sp (vs++zs) H Q E) :
  wpAny (model X.prog X.w) X.A (PySem.call (.ref f) us (ks.zip ws)) (EP X pins σ Q) X.xe s:=by
 refine wpAny_call (codeAny_mono (F X.A X.stack s H us ws vs zs Q E hr I.env0 r ng l1 l2 h) λr s' hq=>?_);cases r with
 |error e=>exact hx pins H s e s' I hq
 |ok fl =>
  cases fl with
  |ret u=>exact I.after hq
  |next=>exact False.elim hq
  |brk=>exact False.elim hq
  |cont=>exact False.elim hq
def xZ(n m:Nat)(g:aD)(fa fk:cO):aM:=λsl S=>(fa sl S).bind λds S1=>(fk sl S1).bind λes S2=>if ds.length=n/\es.length=m then g (ds++es) S2 else .bad
theorem Ts(tk:Takes X W)(F:xY X.prog X.w X.K X.mg X.base k f 0 ks g)(hr:Room k X.A)(hm:X.mg x=some (.ref f))(hk:PySem.W.keepIn X.K (.ref f)=true)
  (ac3:Fg X W kws fk) (hg:Gl X x:=by rfl) (ac4:(backToKw pos (keywordEach kws X.env)).all (·.1.isSome)=true:=by rfl) (sP:(backToKw pos (keywordEach kws X.env)).filterMap (·.1)=ks:=by rfl) (g9:(x==("__debug__":Str))=false:=by decide)
  (eQ:((backTo pos (starEach [] X.env)).any (·.1)||(backToKw pos (keywordEach kws X.env)).any (·.1.isNone))=false:=by rfl) :
  E X W (.Call (.Name x p) [] kws pos) (xZ 0 ks.length g ai fk):=by
 refine⟨λpins s σ H Q I h=>?_⟩;obtain⟨ρ,S,sl,w,rs,q⟩:=h;refine wpAny_Call_Name_kw (ld_glob I hg hm ?_ g9);refine PySem.W.callWith_KW0 (h₀:=X.base) I.ok.mod.kin hk ac4 ?_ eQ;refine thn (ac3.run pos pins s σ H _ I ⟨ρ,S,sl,w,rs,eu.e3 q⟩) λws s2 ⟨zs,aH,I2,ng,aP,S2,apO,x2,cD,re,_,p2⟩=>⟨I2.kIn,?_⟩
 rw[sP];split at p2
 .rename_i hl
  exact ac2 (us:=[]) (vs:=[]) F hr (si tk σ) I2 .nil ng rfl (by rw[<-ng.length,<-re.len,hl.2]) ⟨aP,S2,_,cD,re,p2⟩
 .exact p2.elim
end
section
variable{X:Cx}{W:WX}{k n:Nat}{f:Addr}{g:aD}{p pos:Pos}{e:Expr}{es:List Expr}{fe:aM}
def l0:w_:=λd S=>match d with
 | .str y=>if y.length<=1000000 then .ok (.str y) S else .bad
 | .int i=>if i.natAbs.log2<1920 then .ok (.str (toString i)) S else .bad
 |_=>.bad
theorem A5(he:E X W e fe):E X W (.FormattedValue e (-1) none pos) (nW l0 fe):=PE.imp (pe_fmt he) λσ H Q h=>zO (g:=λ_=>l0) h λρ S sl H1 d v w _ aR p=>by
 cases d with
 |str y =>
  unfold l0 at p;dsimp only at p;split at p
  .rename_i hl
   exact .inl ⟨y,eV aR,h7 hl,cj p w mP⟩
  .exact p.elim
 |int i =>
  unfold l0 at p;dsimp only at p;split at p
  .rename_i hl
   exact .inr ⟨i,fX aR,hl,cj p w mP⟩
  .exact p.elim
 |_=>exact p.elim
def q6:List aM->Str->aL->Store->Out D
 |[],acc,_,S=>.ok (.str acc) S
 |f::fs,acc,sl,S=>(f sl S).bind λd S1=>match d with
  | .str y=>if(acc++y).length<=1000000 then q6 fs (acc++y) sl S1 else .bad
  |_=>.bad
def A6(fs:List aM):aM:=λsl S=>q6 fs Str.empty sl S
inductive x3 (X:Cx) (W:WX):List Expr->List aM->Prop where
 |nil:x3 X W [] []
 |cons {e:Expr} {f:aM} {es:List Expr} {fs:List aM} (h:E X W e f) (r:x3 X W es fs):x3 X W (e::es) (f::fs)
theorem x3.ac5{es:List Expr}{fs:List aM}(h:x3 X W es fs):PJ X es (fs.map (fx X.K X.mg W)):=by
 induction h with
 |nil=>exact .nil
 |cons h _ ih=>exact .cons h ih
theorem Tt:∀{fs:List aM} {acc:Str} {σ:L2.St} {H:Hp} {Q:VK},fx X.K X.mg W (q6 fs acc) σ H Q->tJs (fs.map (fx X.K X.mg W)) acc σ H λout H1=>Q (.str out) H1
 |[],acc,σ,H,Q,⟨ρ,S,sl,w,rs,p⟩=>cj (d:=.str acc) p w mP
 |f::fs,acc,σ,H,Q,⟨ρ,S,sl,w,rs,p⟩=>by
  refine⟨ρ,S,sl,w,rs,aS.mono (aS.e3 p) λv H1 ⟨aB,S1,d,x1,aE,r1,_,p1⟩=>?_⟩;cases d with
  |str y =>
   dsimp only at p1;split at p1
   .rename_i hl
    exact⟨y,eV r1,h7 hl,Tt ⟨aB,S1,sl,aE,rs.ext x1,p1⟩⟩
   .exact p1.elim
  |_=>exact p1.elim
theorem K5{v1 v2:Expr}{rest:List Expr}{fs:List aM}(h:x3 X W (v1::v2::rest) fs):E X W (.JoinedStr (v1::v2::rest) pos) (A6 fs):=PE.imp (pe_joined h.ac5) λσ H Q h=>Tt h
def vt(gs:gy):dz:=λd sl S=>match cY S d with
 |some ds=>gs ds sl S
 |none=>.bad
theorem ac6{es:List Expr}{k:Nat}{gs:gy}{n:Nat}(hc:X.calm=true)(h:zQ X W es gs)(hl:∀ds sl S,gs ds sl S≠.bad->ds.length=n)(hn:(assignEach es X.env).length=n:=by rfl)(gR:(assignEach es X.env).findIdx? (·.1)=none:=by rfl):uF X W (.Tuple es k pos) (vt gs) :=
 PG.imp (pg_unl hc h hn gR) λv σ H Q ⟨ρ,S,sl,d,w,rs,aR,p⟩=>by
  unfold vt at p;split at p
  .rename_i ds hd
   obtain⟨a,vs,e,ha,r⟩:=gC w aR hd;exact⟨a,vs,e,.inl (.inl ha),by rw[<-r.len];exact hl ds sl S (λq=>by rw[q]at p;exact p),ρ,S,sl,ds,w,rs,r,p⟩
  .exact p.elim
theorem ac7{gs:gy}(hs:Ao gs):Ew (vt gs):=λd sl S=>by
 unfold vt;split
 .exact hs _ sl S
 simp
end
end Z
namespace ZX
open PySem PySem.W PySem.Calls PyProof.Rows PySem.Spec
open L2 (V Vals RelV RelO)
theorem ac8:∀{ps:List Str} {vs:List V},ps.Nodup->vs.length=ps.length->ps.map (λf=>(f,d_ ps vs f))=ps.zip vs:=by
 have core:∀(ps:List Str) (vs:List V),ps.Nodup->vs.length=ps.length->∀f v,(f,v)∈ps.zip vs->d_ ps vs f=v:=by
  intro ps
  induction ps with
  |nil=>simp
  |cons p ps ih =>
   intro vs hn hl f v h;cases vs with
   |nil=>simp at hl
   |cons u vs =>
    rw[Df]at h;rcases g6.mp h with e|h
    .cases e
     simp[d_,List.lookup]
    .have hf:f∈ps:=(y4 h).1
     have ne:f≠p:=λe=>(ud.mp hn).1 (e▸hf);have r:=ih vs (ud.mp hn).2 (by grind) f v h;unfold d_ at r ⊢;rw[Df,List.lookup_cons,beq_eq_false_iff_ne.mpr ne];exact r
 intro ps vs hn hl;have:∀(l:List Str) (ws:List V),l.length=ws.length->(∀f v,(f,v)∈l.zip ws->d_ ps vs f=v)->l.map (λf=>(f,d_ ps vs f))=l.zip ws:=by
  intro l
  induction l with
  |nil=>simp
  |cons a l ih =>
   intro ws h1 h2;cases ws with
   |nil=>simp at h1
   |cons b ws =>
    rw[c1,Df,h2 a b (by simp),ih ws (by grind) λf v h=>h2 f v (by simp[h])]
 grind
theorem ac9{f:Str->V}:∀(l:List Str) (fs:List (Str×V)),(l.map λp=>(p,p)).foldl (λfs fp=>(fp.1,f fp.2)::fs) fs=(l.map λp=>(p,f p)).reverse++fs
 |[],fs=>rfl
 |a::l,fs=>by simp
theorem pE.cast{prog:Program}{w:World}{base:Heap}{k:Nat}{f C:Addr}{G K6:List V->Option (List (Str×V))}(h:pE prog w base k f C G)(e:∀vs,K6 vs=G vs):pE prog w base k f C K6:=by
 have:K6=G:=funext e;grind
def b_:List V->Option (List (Str×V)):=λvs=>if vs.length=1 then some [("tag",d_ ["tag"] vs "tag")]else none
theorem K7{tag:Str}{bR:List Str}(hn:bR.Nodup)(vs:List V) :
  (if vs.length=bR.length then some (Z.jC tag bR vs)else none)=(if vs.length=bR.length then(b_ [.str tag]).map (λfs=>(bR.map λp=>(p,p)).foldl (λfs fp=>(fp.1,d_ bR vs fp.2)::fs) fs)else none):=by
 by_cases h:vs.length=bR.length
 .rw[if_pos h,if_pos h]
  unfold b_ Z.jC;have au:(if[V.str tag].length=1 then some [(("tag":Str),d_ ["tag"] [V.str tag] "tag")]else none)=some [(("tag":Str),V.str tag)]:=by simp[d_,List.lookup]
  rw[au,rY,ac9,ac8 hn h]
 grind
end ZX
namespace Z
open PySem PySem.Spec L2 PyProof.Rows
section
variable{X:Cx}{W:WX}
theorem ada{cs:List Value}:E' X cs []:=λc b h=>by cases h
theorem K8{cs:List Value}{c:Str}{C:Addr}{b:Bool}{tab:List (Str×Bool)}(hm:X.mg c=some (.ref C))(h:PySem.W.exmAny X.K (.ref C) cs=some b)(r:E' X cs tab):E' X cs ((c,b)::tab):=λbA b' h' dB gF=>by
 rw[List.lookup_cons]at h';cases q:bA==c with
 |true =>
  grind
 |false =>
  rw[q]at h';exact r bA b' h' dB gF
theorem RoomH.q7{k j:Nat}{A:Around}(r:Room k A)(h:j<=k){x:Option Value}:L2H.RoomH j (A.mark x):=⟨by have:=r.dp;show A.depth+3 * j+5<_;omega,by have:=r.un;show A.units+16 * j+200<_;omega⟩
theorem Tv:Fe X []:=⟨λD y n h=>by cases h⟩
theorem Tw{D:Str}{eA:Addr}{yes no:List Str}{tab:List (Str×List Str×List Str)}(hm:X.mg D=some (.ref eA))(h1:((PySem.W.clsIn X.K eA).isSome&&PySem.W.typeIn X.K (.ref eA)==some (.type "type"))=true)
  (h2:∀c∈yes,∀C,X.mg c=some (.ref C)->oF X.K C/\PySem.W.kitOne X.K (.ref C) (.ref eA)=some true) (aI:∀c∈no,∀C,X.mg c=some (.ref C)->oF X.K C/\PySem.W.kitOne X.K (.ref C) (.ref eA)=some false) (r:Fe X tab):Fe X ((D,yes,no)::tab):=⟨λA7 y n h' dB gF=>by
 rw[List.lookup_cons]at h';cases q:A7==D with
 |true =>
  grind
 |false =>
  rw[q]at h';exact r.at_ A7 y n h' dB gF⟩
theorem Fh{eA:Addr}{b:Bool}:∀c∈([]:List Str),∀C,X.mg c=some (.ref C)->oF X.K C/\PySem.W.kitOne X.K (.ref C) (.ref eA)=some b:=λc h=>by cases h
theorem Tx{eA C:Addr}{b:Bool}{c:Str}{l:List Str}(hm:X.mg c=some (.ref C))(t:oF X.K C)(h:PySem.W.kitOne X.K (.ref C) (.ref eA)=some b)(r:∀c∈l,∀C,X.mg c=some (.ref C)->oF X.K C/\PySem.W.kitOne X.K (.ref C) (.ref eA)=some b):∀bA∈c::l,∀C,X.mg bA=some (.ref C)->oF X.K C/\PySem.W.kitOne X.K (.ref C) (.ref eA)=some b:=λbA h' dB gF=>by
 grind
theorem sU{oth:List Str}:pH X oth []:=⟨λc g h=>by cases h⟩
theorem sV{oth:List Str}{c:Str}{C:Addr}{g:aD}{tab:List (Str×aD)}(hm:X.mg c=some (.ref C))(h1:∀bA∈oth,∀dB,X.mg bA=some (.ref dB)->PySem.W.notFirst X.K C (.ref dB)=true)(h2:PySem.W.findIn X.K (.ref C) "__ne__"=some (some (.builtin "object.__ne__")))(aI:PySem.W.mroIn X.K C (.type "object")=some true)(r:pH X oth tab):pH X oth ((c,g)::tab):=⟨λbA fS h' dB gF=>by
 unfold hv at h';rw[List.lookup_cons]at h';cases q:bA==c with
 |true =>
  grind
 |false =>
  rw[q]at h';exact r.at_ bA fS h' dB gF⟩
theorem sW{C:Addr}:∀bA∈([]:List Str),∀dB,X.mg bA=some (.ref dB)->PySem.W.notFirst X.K C (.ref dB)=true:=λc h=>by cases h
theorem sX{C D:Addr}{c:Str}{l:List Str}(hm:X.mg c=some (.ref D))(h:PySem.W.notFirst X.K C (.ref D)=true)(r:∀bA∈l,∀dB,X.mg bA=some (.ref dB)->PySem.W.notFirst X.K C (.ref dB)=true):∀bA∈c::l,∀dB,X.mg bA=some (.ref dB)->PySem.W.notFirst X.K C (.ref dB)=true:=λbA h' dB gF=>by
 grind
end
open PySem PySem.Spec L2
section
theorem adb{A:Around}(h:A.units+64<cLine):A.units<cLine:=by omega
end
open PySem PySem.Spec L2
theorem ade{a b:Char}(h:a.toNat=b.toNat):a=b:=Char.ext (UInt32.toNat_inj.mp h)
@[simp] theorem Tz{a b:String}:Str.ofString a=Str.ofString b↔a=b:=by
 constructor
 .intro h
  rw[Str.ofString_eq_toList,Str.ofString_eq_toList]at h;have h2:a.toList.map Char.toNat=b.toList.map Char.toNat:=by
   have:=congrArg (λs:Str=>s.cps.toList) h;simpa using this
  have aI:a.toList=b.toList:=List.map_inj_right (λx y h=>ade h) |>.mp h2
  exact String.toList_inj.mp aI
 grind
theorem A8(a:String):jU (Str.ofString a).cps.toList:=by
 rw[Str.ofString_eq_toList];intro c hc;simp at hc;obtain⟨d,_,rfl⟩:=hc;have:=d.valid;have h2:d.toNat=d.val.toNat:=rfl;omega
theorem x4(a:String):Str.ofString a=ao (Str.ofString a).cps.toList:=(Ar _).symm
@[simp] theorem apP{neg:Bool}{a b:String}{S:Store}:aU neg (.str (Str.ofString a)) (.str (Str.ofString b)) S=.ok (.bl (if neg=true then !decide (a=b)else decide (a=b))) S:=by
 have e:(ao (Str.ofString a).cps.toList=ao (Str.ofString b).cps.toList)=(a=b):=by rw[<-x4,<-x4];simp
 have e2:((Str.ofString a).cps.toList=(Str.ofString b).cps.toList)=(a=b):=by rw[<-e];simp
 cases neg
 .rw[x4 a,x4 b,vg (A8 a) (A8 b)];grind
 .rw[x4 a,x4 b,vh (A8 a) (A8 b)];grind
section
variable{sl:aL}{S:Store}{P:D->Store->Prop}{X:D->Store->Prop}{Q:iQ}{fa fk:cO}
@[simp] theorem adf{n m:Nat}{g:aD}:We (xZ n m g fa fk sl S) P X=We (fa sl S) (λds S1=>We (fk sl S1) (λes S2=>(ds.length=n/\es.length=m)/\We (g (ds++es) S2) P X) X) X:=by
 unfold xZ;rw[fH];congr 1;funext ds S1;rw[fH];congr 1;funext es S2;by_cases h:ds.length=n/\es.length=m
 .grind
 .rw[if_neg h];simp_all
@[simp] theorem apQ{c d:Str}{g:aD}{tab:List (Str×aD)}:hv ((c,g)::tab) d=if d=c then some g else hv tab d:=by
 unfold hv;grind
@[simp] theorem apR{d:Str}:hv [] d=none:=(rfl)
@[simp] theorem apS{tab:List (Str×List Str×List Str)}{c:Str}{ns:List Str}{vs:List D}{A7:Str}:vq tab [.ins c ns vs,.cls A7] S=match tab.lookup A7 with
  |some (yes,no)=>if c∈yes then .ok (.bl true) S else if c∈no then .ok (.bl false) S else .bad
  |none=>.bad:=(rfl)
@[simp] theorem apT{l:List Nat}:We (l0 (.str (ao l)) S) P X=(l.length<=1000000/\P (.str (ao l)) S):=by
 unfold l0;simp only[m4];by_cases h:l.length<=1000000
 .simp[h]
 .simp[h]
@[simp] theorem apU{gs:gy}{ds:List D}:aV (vt gs (.lst ds) sl S) Q=aV (gs ds sl S) Q:=by rfl
def K9(d:D)(k:Str->List Str->List D->Prop):Prop:=match d with
 | .exc c ns ds=>k c ns ds
 |_=>False
@[simp] theorem apV{c:Str}{ns:List Str}{ds:List D}{k:Str->List Str->List D->Prop}:K9 (.exc c ns ds) k=k c ns ds:=(rfl)
@[simp] theorem TB{f:aM}:aV (ec f sl S) Q=We (f sl S) (λd ak=>K9 d λc ns ds=>Q.ex (.ins c ns ds) sl ak) (λe ak=>Q.ex e sl ak):=by
 unfold ec;cases o:f sl S with
 |ok d S1=>cases d<;>simp[K9]
 |ex e S1=>simp
 |bad=>simp
@[simp] theorem TC{c tag:Str}{bR:List Str}{ds:List D}:We (dU c tag bR ds S) P X=(ds.length=bR.length/\P (.exc c (bR.reverse++[("tag":Str)]) (ds.reverse++[D.str tag])) S):=by
 unfold dU;by_cases h:ds.length=bR.length
 .simp[h]
 .simp[h]
@[simp] theorem apW{i:Nat}{op:Int->Int->Int}{fe:aM}{a:Int}(h:sl[i]?=some (some (.int a))):aV (xJ i op fe sl S) Q=We (fe sl S) (λe S1=>∃b,e=.int b/\Q.nx (sl.set i (some (.int (op a b)))) S1) (λe ak=>Q.ex e sl ak):=by
 unfold xJ;rw[h];dsimp only;rw[qS];congr 1;funext e S1;cases e<;>simp
@[simp] theorem adg{n:Nat}{eB ds:List D}{g:aD}(h:ds.length=n):Ff n eB g ds S=g ds S:=if_pos h
theorem TF{n m N:Nat}{ix:List Nat}{eB ds:List D}{g:aD}(h:ds.length=n+m/\(ky ix (ds++eB)).length=N):A4 n m N ix eB g ds S=g (ky ix (ds++eB)) S:=if_pos h
end
def x5:SX :=
 (aO (mN 0 1 (ag (aw oE (ag (ae 0) ai)) (ag (aw oE (ag (ae 1) ai)) ai)))
 (aO (se (aK (az kg (ae 1) (ah (.int 0))))
 (mN 0 1 (ag (ae 1) (ag (az i6 (ae 0) (ae 1)) ai))))
 (bq (ae 0))))
def A9:aD:=cS 2 (bN 2 x5)
def vu:SX :=
 (bq (iB (aw dS (ag (ae 0) (ag (ah (.ty "int")) ai))) (DP (aw dS (ag (ae 0) (ag (ah (.ty "bool")) ai))))))
def x6:aD:=cS 1 (bN 1 vu)
def sY:SX :=
 (aO (bG (dO (aK (aw x6 (ag (ae 1) ai))))
 (ec (aw (dU "InvalidRatio" "InvalidRatio" ["value"]) (ag (ae 1) ai)))
 bI)
 (aO (bG (e4 (dO (aK (aw x6 (ag (ae 2) ai)))) (aK (az (aU false) (ae 2) (ah (.int 0)))))
 (ec (aw (dU "InvalidRatio" "InvalidRatio" ["value"]) (ag (ae 2) ai)))
 bI)
 (aO (bX (aw A9 (ag (ae 1) (ag (ae 2) ai))) (aX 3))
 (aO (ot ["Ratio"] "own_top" (eT (aK (az kg (ae 2) (ah (.int 0)))) (az i5 (ae 1) (ae 3)) (az i5 (nW D5 (ae 1)) (ae 3))) (ae 0))
 (ot ["Ratio"] "own_bottom" (az i5 (aw oE (ag (ae 2) ai)) (ae 3)) (ae 0))))))
def sZ:aD:=Ff 3 [(.int 1)] (bN 4 sY)
def x7:SX :=
 (aO (mN 2 3 (ag (aw oE (ag (ae 0) ai)) (ag (aw oE (ag (ae 1) ai)) ai)))
 (aO (se (aK (az kg (ae 3) (ah (.int 0))))
 (mN 2 3 (ag (ae 3) (ag (az i6 (aw i9 (ag (ae 2) ai)) (ae 3)) ai))))
 (bq (ae 2))))
def A_:aD:=cS 2 (bN 4 x7)
def x8:SX :=
 (aO (bX (aw A_ (ag (ae 0) (ag (ae 1) ai))) (aX 2))
 (bq (eT (aK (az kg (ae 1) (ah (.int 0)))) (aw b2 (ag (az i5 (ae 0) (ae 2)) (ag (az i5 (ae 1) (ae 2)) ai))) (aw b2 (ag (az mQ (ah (.int 0)) (az i5 (ae 0) (ae 2))) (ag (az mQ (ah (.int 0)) (az i5 (ae 1) (ae 2))) ai))))))
def x9:aD:=cS 2 (bN 3 x8)
def A':SX :=
 (bq (iB (aw (vq [("Ratio",["Ratio"],[])]) (ag (ae 1) (ag (ah (.cls "Ratio")) ai))) (iB (az (aU false) (c4 "own_top" [("Ratio",.fld)] (ae 0)) (c4 "own_top" [("Ratio",.fld)] (ae 1))) (az (aU false) (c4 "own_bottom" [("Ratio",.fld)] (ae 0)) (c4 "own_bottom" [("Ratio",.fld)] (ae 1))))))
def eL:aD:=cS 2 (bN 2 A')
def x':SX :=
 (bq (c' (aw (mZ "Ratio" sZ) (ag (az a7 (ae 0) (ah (.int 0))) (ag (az a7 (ae 0) (ah (.int 1))) ai)))))
def ya:aD:=cS 1 (bN 1 x')
def Bd(n:Nat)(x:Int):Prop:=x.natAbs<2 ^ n
theorem Bd.mono{n m:Nat}{x:Int}(h:Bd n x)(hl:n<=m):Bd m x:=jr h (Nat.pow_le_pow_right (by decide) hl)
theorem Bd.log{n:Nat}{x:Int}(h:Bd n x)(hn:0<n):x.natAbs.log2<n:=by
 by_cases h0:x.natAbs=0
 .simp_all
 .exact(Nat.log2_lt h0).mpr h
theorem Bd.mul{n m:Nat}{x y:Int}(h:Bd n x)(h2:Bd m y):Bd (n+m) (x * y):=by
 unfold Bd at *;rw[Int.natAbs_mul,Nat.pow_add];by_cases q:y.natAbs=0
 .rw[q,Nat.mul_zero];exact Nat.mul_pos (Nat.pow_pos (by decide)) (Nat.pow_pos (by decide))
 .exact Nat.mul_lt_mul_of_lt_of_le h (js h2) (Nat.pow_pos (by decide))
theorem Bd.neg{n:Nat}{x:Int}(h:Bd n x):Bd n (-x):=by unfold Bd at *;omega
theorem Bd.of_le{n:Nat}{x y:Int}(h:Bd n x)(h2:y.natAbs<=x.natAbs):Bd n y:=mF h2 h
theorem adh{a b k:Nat}(hb:0<b)(jZ:b<=a)(h:a * b<2 ^ k):∃j,j<k/\b * (a % b)<2 ^ j:=by
 have hk:0<k:=by
  rcases Nat.eq_zero_or_pos k with rfl|h'
  .have:0<a * b:=Nat.mul_pos (by omega) hb
   omega
  .exact h'
 refine⟨k - 1,by omega,?_⟩;have h1:2 * (a % b)<=a:=by
  have h2:=Nat.mod_lt a hb;have aI:a % b+b<=a:=by
   have:=Nat.div_add_mod a b;have cw:0<a / b:=Nat.div_pos jZ hb;have pI:b * 1<=b * (a / b):=wR b cw;omega
  omega
 have h2:2 * (b * (a % b))<=a * b:=by
  calc 2 * (b * (a % b))=(2 * (a % b)) * b:=by grind
  _<=a * b:=HS b h1
 have aI:2 ^ k=2 * 2 ^ (k - 1):=by
  conv=>lhs;rw[show k=(k - 1)+1 by omega]
  rw[Nat.pow_succ,Nat.mul_comm]
 omega
def oG(g:Nat)(k:Nat)(a b:Int):Prop:=∃m n:Nat,a=m/\b=n/\Nat.gcd m n=g/\((n<=m/\m * n<2 ^ k)\/(1<=k/\m<n/\m * n<2 ^ (k - 1)))
theorem oG.step{g k:Nat}{a b:Int}(h:oG g k a b)(hb:0<b):∃j,j<k/\oG g j b (a % b):=by
 obtain⟨m,n,rfl,rfl,hg,h⟩:=h;have hn:0<n:=by omega
 have e:((m:Int) % (n:Int))=((m % n:Nat):Int):=by simp
 have yb:Nat.gcd n (m % n)=g:=by rw[<-hg,Nat.gcd_comm m n,Nat.gcd_rec n m,Nat.gcd_comm]
 rcases h with⟨h1,h2⟩|⟨h0,h1,h2⟩
 .obtain⟨j,cm,aI⟩:=adh hn h1 h2
  exact⟨j,cm,n,m % n,rfl,e,yb,.inl ⟨js (Nat.mod_lt _ hn),aI⟩⟩
 .refine⟨k - 1,by omega,n,m % n,rfl,e,yb,.inl ⟨js (Nat.mod_lt _ hn),?_⟩⟩
  rw[Nat.mod_eq_of_lt h1,Nat.mul_comm];exact h2
theorem oG.start{n m:Nat}{p q:Int}(h:Bd n p)(h2:Bd m q):oG (Int.gcd p q) (n+m+1) (if p<0 then -p else p) (if q<0 then -q else q):=by
 have e:∀x:Int,(if x<0 then -x else x)=(x.natAbs:Int):=λx=>by omega
 refine⟨p.natAbs,q.natAbs,e p,e q,rfl,?_⟩;have aI:p.natAbs * q.natAbs<2 ^ (n+m):=by have:=h.mul h2;unfold Bd at this;rwa [Int.natAbs_mul]at this
 grind
theorem oG.last{g k:Nat}{a b:Int}(h:oG g k a b)(hb:¬0<b):a=g:=by
 obtain⟨m,n,rfl,rfl,hg,_⟩:=h;simp_all
theorem TH{p q:Int}{n m:Nat}(hp:Bd n p)(hq:Bd m q)(hl:n+m<900000)(S:Store):A9 [.int p,.int q] S=.ok (.int (Int.gcd p q)) S:=by
 refine bO ?_;unfold A9;refine eo rfl ?_;simp[x5,oE];refine Ay (n+m+1) (λk sl S1=>S1=S/\∃a b,sl=[some (.int a),some (.int b)]/\oG (Int.gcd p q) k a b) ⟨rfl,_,_,rfl,oG.start hp hq⟩ (by omega) ?_;rintro k sl S1 ⟨rfl,a,b,rfl,h⟩;by_cases hb:0<b
 .simp[hb,m3 hb]
  obtain⟨j,h1,h2⟩:=h.step hb;grind
 .simp[hb]
  exact h.last hb
theorem adi{p q:Int}{n m:Nat}(hp:Bd n p)(hq:Bd m q)(hl:n+m<900000)(S:Store):A_ [.int p,.int q] S=.ok (.int (Int.gcd p q)) S:=by
 refine bO ?_;unfold A_;refine eo rfl ?_;simp[x7,oE];refine Ay (n+m+1) (λk sl S1=>S1=S/\∃a b,sl=[some (.int p),some (.int q),some (.int a),some (.int b)]/\oG (Int.gcd p q) k a b) ⟨rfl,_,_,rfl,oG.start hp hq⟩ (by omega) ?_;rintro k sl S1 ⟨rfl,a,b,rfl,h⟩;by_cases hb:0<b
 .simp[hb,m3 hb,i9]
  obtain⟨j,h1,h2⟩:=h.step hb;grind
 .simp[hb]
  exact h.last hb
def num(p q:Int):Int:=if 0<q then p / (Int.gcd p q:Int)else(-p) / (Int.gcd p q:Int)
def den(p q:Int):Int:=(q.natAbs:Int) / (Int.gcd p q:Int)
theorem yc{p q:Int}(hq:q≠0):0<(Int.gcd p q:Int):=by
 simp_all
theorem den_pos{p q:Int}(hq:q≠0):0<den p q:=by
 unfold den;have h:=yc (p:=p) hq;refine Int.ediv_pos_of_pos_of_dvd (by omega) (by omega) ?_;have:=Int.gcd_dvd_right p q;exact Int.dvd_natAbs.mpr this
theorem K_{x:Int}{g:Int}(hg:0<g)(hd:g ∣ x):(x / g).natAbs<=x.natAbs:=by
 obtain⟨k,rfl⟩:=hd;rw[Int.mul_ediv_cancel_left _ (by omega),Int.natAbs_mul];exact Nat.le_mul_of_pos_left _ (by omega)
theorem Bd.num{n:Nat}{p q:Int}(h:Bd n p)(hq:q≠0):Bd n (Z.num p q):=by
 unfold Z.num;have hg:=yc (p:=p) hq;have hd:(Int.gcd p q:Int) ∣ p:=Int.gcd_dvd_left p q;split
 .exact h.of_le (K_ hg hd)
 .exact h.neg.of_le (K_ hg (Int.dvd_neg.mpr hd))
theorem Bd.den{n:Nat}{p q:Int}(h:Bd n q)(hq:q≠0):Bd n (Z.den p q):=by
 unfold Z.den;have hg:=yc (p:=p) hq;refine Bd.of_le (x:=q) h ?_;refine Nat.le_trans (K_ hg ?_) (by simp);exact Int.dvd_natAbs.mpr (Int.gcd_dvd_right p q)
theorem TJ{n:Nat}{p q:Int}(h:Bd n q)(hq:q≠0):Bd n (Int.gcd p q:Int):=by
 refine h.of_le ?_;have:=Nat.le_of_dvd (by omega) (Int.gcd_dvd_natAbs_right p q);omega
def Fi(p q:Int):D:=.tup [.int (num p q),.int (den p q)]
theorem adj{p q:Int}{n m:Nat}(hp:Bd n p)(hq:Bd m q)(hl:n+m<8000)(hm:0<m)(h0:q≠0)(S:Store):x9 [.int p,.int q] S=.ok (Fi p q) S:=by
 refine bO ?_;unfold x9;refine eo rfl ?_;have hg:=yc (p:=p) h0;have La:=(TJ (p:=p) hq h0).log hm;have au:∀i S,i5 (.int i) (.int (Int.gcd p q)) S=.ok (.int (i / (Int.gcd p q:Int))) S:=λi S=>vb hg (by omega) S;simp[x8,adi hp hq (by omega)];by_cases lW:0<q
 .have ea:(q.natAbs:Int)=q:=by omega
  simp[lW,au,Fi,num,den,ea];exact dI (by simp) ⟨rfl,rfl⟩
 .have ea:(q.natAbs:Int) = -q:=by omega
  simp[lW,au,Fi,num,den,ea,Dg (Int.gcd_dvd_left p q),Dg (Int.gcd_dvd_right p q)];exact dI (by simp) ⟨rfl,rfl⟩
theorem adk{S1:Store}{c:Str}{ns:List Str}{vs:List D}(h:bC S1.length vs=true):cR (d2 (S1++[.ins c ns vs]) S1.length 6) (.ptr S1.length)=some (.ins c ns vs):=by
 rw[cR,d2,if_neg (kZ _)];rw[List.getElem?_append_right (Nat.le_refl _)];simp only[Nat.sub_self,HL];rw[J7 h];rfl
theorem adl{S S1:Store}{P:D->Store->Prop}{c:Str}{ns:List Str}{vs:List D}(h:fG S S1)(aT:bC S.length vs=true)(p:P (.ins c ns vs) S1):eY S P (.ptr S1.length) (S1++[.ins c ns vs]):=by
 refine Aw h ?_ p;rw[<-h.len]at aT ⊢;exact adk aT
theorem Fj{cs:List Str}{f c:Str}{n:Nat}{v:D}{S:Store}{ns:List Str}{vs:List D}(h:S[n]?=some (.ins c ns vs))(hc:c∈cs)(hn:ns.length<1000):oq cs f (.ptr n) v S=some (S.set n (.ins c (i' f v ns vs).1 (i' f v ns vs).2)):=by
 simp only[oq,h];grind
theorem TM(i:Int)(S:Store):x6 [.int i] S=.ok (.bl true) S:=by
 refine bO ?_;unfold x6;refine eo rfl ?_;simp[vu]
@[simp] theorem apX(i:Int)(S:Store):D5 (.int i) S=.ok (.int (-i)) S:=(rfl)
def hC(p q:Int):D:=.ins "Ratio" ["own_top","own_bottom"] [.int p,.int q]
@[simp] theorem Lb{k:Nat}{p q:Int}:bg k (hC p q)=true:=by simp[hC]
theorem Fl{v:D}:i' "own_top" v [] []=((["own_top"]:List Str),[v]):=by simp[i']
theorem TN{v u:D}:i' "own_bottom" v ["own_top"] [u]=((["own_top","own_bottom"]:List Str),[u,v]):=by
 rfl
theorem adn{p q:Int}{n m:Nat}(hp:Bd n p)(hq:Bd m q)(hl:n+m<8000)(hm:0<m)(h0:q≠0)(S:Store){P X:D->Store->Prop}(bu:P .non (S++[.ins "Ratio" ["own_top","own_bottom"] [.int (num p q),.int (den p q)]])) :
  We (bN 4 sY [.ptr S.length,.int p,.int q] (S++[.ins "Ratio" [] []])) P X:=by
 refine Av.mpr ?_;have hg:=yc (p:=p) h0;have La:=(TJ (p:=p) hq h0).log hm;have au:∀i S,i5 (.int i) (.int (Int.gcd p q)) S=.ok (.int (i / (Int.gcd p q:Int))) S:=λi S=>vb hg (by omega) S;have ea:(if q<0 then -q else q)=(q.natAbs:Int):=by split<;>omega
 have Lc:=fG.set (S:=S++[.ins "Ratio" [] []]) (n:=S.length) (m:=.ins "Ratio" ["own_top","own_bottom"] [.int (num p q),.int (den p q)]) (by simp[iI]);rw[sN rfl]at Lc;by_cases lW:0<q
 .simp[sY,TM,h0,TH hp hq (by omega),lW,au,oE,ea]
  refine⟨_,Fj (c:="Ratio") (ns:=[]) (vs:=[]) (by simp) (by simp) (by simp),_,Fj (c:="Ratio") (ns:=["own_top"]) (vs:=[.int (p / (Int.gcd p q:Int))]) (by simp[Fl]) (by simp) (by simp),?_⟩;rw[sN rfl,sN rfl];simp only[Fl,TN];have:num p q=p / (Int.gcd p q:Int):=by simp[num,lW]
  rw[<-this];exact ox Lc (by simp) bu
 .simp[sY,TM,h0,TH hp hq (by omega),lW,au,oE,ea]
  refine⟨_,Fj (c:="Ratio") (ns:=[]) (vs:=[]) (by simp) (by simp) (by simp),_,Fj (c:="Ratio") (ns:=["own_top"]) (vs:=[.int ((-p) / (Int.gcd p q:Int))]) (by simp[Fl]) (by simp) (by simp),?_⟩;rw[sN rfl,sN rfl];simp only[Fl,TN];have:num p q=(-p) / (Int.gcd p q:Int):=by simp[num,lW]
  rw[<-this];exact ox Lc (by simp) bu
section
variable{S:Store}{P X:D->Store->Prop}{p q:Int}{n m:Nat}
theorem TQ(hp:Bd n p)(hq:Bd m q)(hl:n+m<8000)(hm:0<m)(h0:q≠0)(h:P (hC (num p q) (den p q)) S):We (mZ "Ratio" sZ [.int p,.int q] S) (eY S P) X:=by
 unfold mZ;rw[fH];unfold sZ;rw[adg (by simp)];refine adn hp hq hl hm h0 S ?_;simp;exact adl (fG.refl S) (by simp) h
theorem ado:num p 1=p:=by simp[num]
theorem adp:den p 1=1:=by simp[den]
@[simp] theorem apY:f' S (hC p q)=some (("Ratio":Str),(["own_top","own_bottom"]:List Str),([.int p,.int q]:List D)):=(rfl)
@[simp] theorem apZ{u v:D}:ke "own_top" ["own_top","own_bottom"] [u,v]=some u:=by simp[ke]
@[simp] theorem ap0{u v:D}:ke "own_bottom" ["own_top","own_bottom"] [u,v]=some v:=by
 rfl
@[simp] theorem ap1{t:List (Str×List Str×List Str)}:vq (("Ratio",["Ratio"],[])::t) [hC p q,.cls "Ratio"] S=.ok (.bl true) S:=by
 rfl
end
structure LT(n:Nat)(p q:Int):Prop where
 up:Bd n p
 dn:Bd n q
 pos:0<q
 one:Int.gcd p q=1
theorem LT.num{n:Nat}{p q:Int}(h:LT n p q):Z.num p q=p:=by simp[Z.num,h.pos,h.one]
theorem LT.den{n:Nat}{p q:Int}(h:LT n p q):Z.den p q=q:=by
 have:=h.pos;have e:(q.natAbs:Int)=q:=by omega
 simp[Z.den,h.one,e]
theorem TU{p q:Int}(hq:q≠0):Int.gcd (num p q) (den p q)=1:=by
 have hg:0<Int.gcd p q:=Int.gcd_pos_of_ne_zero_right p hq;have e:=Int.gcd_ediv_gcd_ediv_gcd hg;have h1:(Int.gcd p q:Int) ∣ p:=Int.gcd_dvd_left p q;have h2:(Int.gcd p q:Int) ∣ q:=Int.gcd_dvd_right p q;unfold num den;by_cases lW:0<q
 .grind
 .have ea:(q.natAbs:Int) = -q:=by omega
  rw[if_neg lW,ea,Dg h1,Dg h2,Int.gcd_neg,Int.neg_gcd];exact e
theorem LT.of{n m:Nat}{p q:Int}(hp:Bd n p)(hq:Bd m q)(h0:q≠0):LT (n+m) (Z.num p q) (Z.den p q) :=
 ⟨(hp.num h0).mono (Nat.le_add_right n m),(hq.den h0).mono (Nat.le_add_left m n),den_pos h0,TU h0⟩
theorem LT.adq{n:Nat}{p q:Int}(h:LT n p q):0<n:=by
 rcases Nat.eq_zero_or_pos n with rfl|h'
 .have:=h.dn;have:=h.pos;unfold Bd at *;omega
 .exact h'
section
variable{S:Store}{p q p' q':Int}{n:Nat}
def q8(p q:Int):D:=.tup [.int p,.int q]
@[simp] theorem TV{k:Nat}{p q:Int}:bg k (q8 p q)=true:=by simp[q8]
theorem ads:Fi p q=q8 (num p q) (den p q):=rfl
@[simp] theorem TX:eL [hC p q,hC p' q'] S=.ok (.bl (decide (p=p'/\q=q'))) S:=by
 refine bO ?_;unfold eL;refine eo rfl ?_;by_cases h:p=p'
 .simp[A',h]
 .simp[A',h]
theorem adt(h:LT n p q)(hl:n<=1000):ya [q8 p q] S=.ok (hC p q) S:=by
 refine bO ?_;unfold ya;refine eo rfl ?_;have hn:=h.adq;have hq:=h.pos;simp[x',q8];refine TQ h.up h.dn (by omega) (by omega) (by omega) (dI (by simp) ⟨?_,rfl⟩);rw[h.num,h.den]
end
@[simp] theorem ap2{S:Store}{p q:Int}:a7 (q8 p q) (.int 0) S=.ok (.int p) S:=rfl
@[simp] theorem ap3{S:Store}{p q:Int}:a7 (q8 p q) (.int 1) S=.ok (.int q) S:=rfl
open PySem PySem.Spec L2
structure Ld(K:PySem.W.Frag)(C Cb o2 ab:Addr)(bm:List Value)(R nw it:String)(nx:Value)(fs:List Str):Prop where
 xS:PySem.W.keepIn K (.ref C)=true
 xi:PySem.W.excInitIn K C bm nw=true
 xo:PySem.W.excOver K C bm=true
 ap4:(PySem.W.clsIn K C).isSome=true
 xs:PySem.W.findIn K (.ref C) "__setattr__"=some (some (.builtin "object.__setattr__"))
 ap5:PySem.W.hasDictIn K C=true
 ap6:PySem.W.findIn K (.ref C) "__init__"=some (some (.ref o2))
 uV:PySem.W.typeIn K (.ref o2)=some (.type "function")
 ap7:PySem.W.subIn K (.ref C) (.type "BaseException")=some true
 ap8:PySem.W.subIn K (.ref C) (.type R)=some true
 ap9:PySem.W.typeIn K (.ref C)=some (.type "type")
 aqa:PySem.W.mroIn K C (.ref C)=some true
 aqb:PySem.W.ks_superIn K C C "__init__"=some (some nx)
 aqc:PySem.W.mroIn K C (.ref Cb)=some true
 aqd:PySem.W.ks_superIn K C Cb "__init__"=some (some (.builtin it))
 aqe:(K.lookup ab).map (·.cls)=some (.type "function")
 aqf:PySem.W.fnIn K ab=true
 xe:Px K C=true
 xa:(fs.all λf=>decide (PySem.W.findIn K (.ref C) f=some none))=true
theorem q9{K:PySem.W.Frag}{C Cb o2 ab:Addr}{bm:List Value}{R nw it:String}{nx:Value}{fs:List Str}(h:r4 K C Cb o2 ab bm R nw it nx fs=true):Ld K C Cb o2 ab bm R nw it nx fs:=by
 unfold r4 at h;obtain⟨h1,h⟩:=Bool.and_eq_true_iff.mp h;obtain⟨h2,h⟩:=Bool.and_eq_true_iff.mp h;obtain⟨aI,h⟩:=Bool.and_eq_true_iff.mp h;obtain⟨bE,h⟩:=Bool.and_eq_true_iff.mp h;obtain⟨cw,h⟩:=Bool.and_eq_true_iff.mp h;obtain⟨pI,h⟩:=Bool.and_eq_true_iff.mp h;obtain⟨vv,h⟩:=Bool.and_eq_true_iff.mp h;obtain⟨vw,h⟩:=Bool.and_eq_true_iff.mp h;obtain⟨Ba,h⟩:=Bool.and_eq_true_iff.mp h;obtain⟨vx,h⟩:=Bool.and_eq_true_iff.mp h;obtain⟨adu,h⟩:=Bool.and_eq_true_iff.mp h;obtain⟨Bb,h⟩:=Bool.and_eq_true_iff.mp h;obtain⟨adw,h⟩:=Bool.and_eq_true_iff.mp h;obtain⟨Le,h⟩:=Bool.and_eq_true_iff.mp h;obtain⟨adx,h⟩:=Bool.and_eq_true_iff.mp h;obtain⟨ady,h⟩:=Bool.and_eq_true_iff.mp h;obtain⟨adz,h⟩:=Bool.and_eq_true_iff.mp h;obtain⟨EY,h⟩:=Bool.and_eq_true_iff.mp h;exact⟨h1,h2,aI,bE,of_decide_eq_true cw,pI,of_decide_eq_true vv,of_decide_eq_true vw,of_decide_eq_true Ba,of_decide_eq_true vx,of_decide_eq_true adu,of_decide_eq_true Bb,of_decide_eq_true adw,of_decide_eq_true Le,of_decide_eq_true adx,of_decide_eq_true ady,adz,EY,h⟩
theorem Ld.at_{K:PySem.W.Frag}{C Cb o2 ab:Addr}{bm:List Value}{R nw it:String}{nx:Value}{fs:List Str}(h:Ld K C Cb o2 ab bm R nw it nx fs){f:Str}(hf:fs.contains f=true):PySem.W.findIn K (.ref C) f=some none :=
 of_decide_eq_true (List.all_eq_true.mp h.xa f (List.contains_iff_mem.mp hf))
theorem TY:∀(k uC n:Nat) (ds:List Char),n<2 ^ k->(Nat.toDigitsCore 10 uC n ds).length<=ds.length+(k+1)
 |k,0,n,ds,h=>by simp[Nat.toDigitsCore]
 |k,uC+1,n,ds,h=>by
  unfold Nat.toDigitsCore;simp only;split
  .simp
  .rename_i h0
   match k,h with
   |0,h=>omega
   |k+1,h =>
    have h2:n / 10<2 ^ k:=by rw[Nat.pow_succ]at h;omega
    have:=TY k uC (n / 10) (Nat.digitChar (n % 10)::ds) h2;grind
theorem T2{k n:Nat}(h:n<2 ^ k):(Nat.repr n).length<=k+1:=by
 have:=TY k (n+1) n [] h;simpa[Nat.repr,Nat.toDigits]using this
def e0(i:Int):List Nat:=(Str.ofString (toString i)).cps.toList
theorem yd{k:Nat}{i:Int}(h:Bd k i):(e0 i).length<=k+2:=by
 have e:(e0 i).length=(toString i).length:=by
  have:=PyProof.Rows.ofString_len (toString i);unfold e0;simpa[Str.length]using this
 rw[e];cases i with
 |ofNat m =>
  have:=T2 (k:=k) (n:=m) (by unfold Bd at h;simpa using h);show(Nat.repr m).length<=_;omega
 |negSucc m =>
  have:=T2 (k:=k) (n:=m+1) (by unfold Bd at h;simpa using h);show("-"++Nat.repr (m+1)).length<=_;have h1:"-".length=1:=by decide
  rw[String.length_append];omega
theorem Lf(i:Int):jU (e0 i):=A8 _
def Lg(d:D)(k:List Nat->Prop):Prop:=match d with
 | .str y=>k y.cps.toList
 |_=>False
@[simp] theorem adA{l:List Nat}{k:List Nat->Prop}:Lg (.str (ao l)) k=k l:=by rfl
section
variable{sl:aL}{S:Store}{P X:D->Store->Prop}
theorem Lh{acc:List Nat}:We (q6 [] (ao acc) sl S) P X=P (.str (ao acc)) S:=by rw[q6];simp
theorem Li{f:aM}{fs:List aM}{acc:List Nat}:We (q6 (f::fs) (ao acc) sl S) P X=We (f sl S) (λd S1=>Lg d λl=>acc.length+l.length<=1000000/\We (q6 fs (ao (acc++l)) sl S1) P X) X:=by
 rw[q6,fH];congr 1;funext d S1;cases d with
 |str y =>
  obtain⟨l,rfl⟩:∃l,y=ao l:=⟨_,(Ar y).symm⟩
  rw[adA];simp only[J8,m4,List.length_append];by_cases h:acc.length+l.length<=1000000
  .grind
  .rw[if_neg h];simp[h]
 |_=>simp[Lg]
@[simp] theorem aqg{fs:List aM}:We (A6 fs sl S) P X=We (q6 fs (ao []) sl S) P X:=by rfl
@[simp] theorem aqh:Str.ofString "/"=ao [47]:=by rfl
@[simp] theorem aqi:Str.ofString ")"=ao [41]:=by rfl
def c5(p q:Int):List Nat:=if q=1 then e0 p else e0 p++47::e0 q
def Bc:SX :=
 (bq (eT (aK (az (aU false) (c4 "own_bottom" [("Ratio",.fld)] (ae 0)) (ah (.int 1)))) (aw sR (ag (c4 "own_top" [("Ratio",.fld)] (ae 0)) ai)) (A6 [(nW l0 (c4 "own_top" [("Ratio",.fld)] (ae 0))),(ah (.str "/")),(nW l0 (c4 "own_bottom" [("Ratio",.fld)] (ae 0)))])))
def pJ:aD:=cS 1 (bN 1 Bc)
def vy:SX :=
 (bq (eT (aK (az (aU false) (az a7 (ae 0) (ah (.int 1))) (ah (.int 1)))) (aw sR (ag (az a7 (ae 0) (ah (.int 0))) ai)) (az b7 (az b7 (aw sR (ag (az a7 (ae 0) (ah (.int 0))) ai)) (ah (.str "/"))) (aw sR (ag (az a7 (ae 0) (ah (.int 1))) ai)))))
def ye:aD:=cS 1 (bN 1 vy)
variable{p q:Int}{n:Nat}
theorem adB:jU (c5 p q):=by
 unfold c5;split
 .exact Lf p
 .intro c hc
  simp at hc;rcases hc with hc|rfl|hc
  .exact Lf p c hc
  .decide
  .exact Lf q c hc
theorem Fm{i:Int}(h:Bd n i)(hl:n<=1000):sR [.int i] S=.ok (.str (ao (e0 i))) S:=by
 have:i.natAbs.log2<1920:=by have:=(h.mono (show n<=n+1 by omega)).log (by omega);omega
 unfold sR;simp only[if_pos this];rfl
theorem T3{i:Int}(h:Bd n i)(hl:n<=1000):l0 (.int i) S=.ok (.str (ao (e0 i))) S:=by
 have:i.natAbs.log2<1920:=by have:=(h.mono (show n<=n+1 by omega)).log (by omega);omega
 unfold l0;simp only[if_pos this];rfl
theorem T4(h:LT n p q)(hl:n<=1000):pJ [hC p q] S=.ok (.str (ao (c5 p q))) S:=by
 refine bO ?_;unfold pJ;refine eo rfl ?_;have i1:=yd h.up;have i2:=yd h.dn;by_cases h1:q=1
 .simp[Bc,h1,Fm h.up hl,c5]
 .simp[Bc,h1,Li,Lh,T3 h.up hl,T3 h.dn hl,c5]
  omega
theorem adC(h:LT n p q)(hl:n<=1000):ye [q8 p q] S=.ok (.str (ao (c5 p q))) S:=by
 refine bO ?_;unfold ye;refine eo rfl ?_;have i1:=yd h.up;have i2:=yd h.dn;by_cases h1:q=1
 .simp[vy,h1,Fm h.up hl,c5]
 .simp[vy,h1,Fm h.up hl,Fm h.dn hl,c5]
  omega
theorem T5:True:=trivial
theorem Fn{d:D}(h:Z.plain 11 d):xQ [d,d] S=.ok (.bl true) S:=acf 11 d S h
end
end Z
namespace ZW
structure Al where
 inv:Nat->Nat
 I:Nat->Nat->Bool
 lt:Nat->Nat->Bool
structure Al.Ok(A:Al)(ok:Nat->Prop):Prop where
 adD:∀a,ok a->ok (A.inv a)
 adE:∀a,ok a->A.inv (A.inv a)=a
 adF:∀a,ok a->A.inv a≠a
 sym:∀a b,ok a->ok b->A.I a b=A.I b a
 aqj:∀a b,ok a->ok b->A.I (A.inv a) b=A.I a b
 aqk:∀a,ok a->A.I a a=false
 asym:∀a b,A.lt a b=true->A.lt b a=false
 tri:∀a b,ok a->ok b->A.lt a b=false->A.lt b a=false->a=b
 trans:∀a b c,A.lt a b=true->A.lt b c=true->A.lt a c=true
variable{A:Al}{ok:Nat->Prop}
def put(A:Al):List Nat->Nat->List Nat
 |[],s=>[s]
 |c::w,s =>
  if c=A.inv s then w
  else if A.I c s=true then
   (if put A w s=s::w then(if A.lt c s=true then s::c::w else c::s::w)else c::put A w s)
  else s::c::w
def T(A:Al):List Nat->Nat->Prop
 |[],_=>True
 |c::w,s=>c≠A.inv s/\(A.I c s=true->A.lt c s=true/\T A w s)
def P(A:Al)(ok:Nat->Prop):List Nat->Prop
 |[]=>True
 |c::w=>ok c/\P A ok w/\T A w c
variable{A:Al}{ok:Nat->Prop}
def N(A:Al)(ei w:List Nat):List Nat:=w.foldl (put A) ei
@[simp] theorem aql{ei:List Nat}:N A ei []=ei:=rfl
@[simp] theorem aqm{ei:List Nat}{s:Nat}{w:List Nat}:N A ei (s::w)=N A (put A ei s) w:=rfl
section
variable(h:A.Ok ok)
include h
theorem Sel.free:True:=trivial
end
end ZW
namespace Z
open PySem PySem.Spec L2
def yf(c:Nat):Bool:=decide (97<=c/\c<=122)
def Fo(c:Nat):Bool:=decide (65<=c/\c<=90)
def T6(c:Nat):Prop:=yf c=true\/Fo c=true
def low(c:Nat):Nat:=if Fo c=true then c+32 else c
def inv(c:Nat):Nat:=if yf c=true then c - 32 else c+32
theorem adD:True:=trivial
theorem adE:True:=trivial
theorem adF:True:=trivial
def adG(a b:Nat):Bool:=decide (low a<low b\/(low a=low b/\Fo a=false/\Fo b=true))
def adH(ps:List (Nat×Nat))(a b:Nat):Bool:=decide (low a≠low b/\(min (low a) (low b),max (low a) (low b))∈ps)
def q_(ps:List (Nat×Nat)):ZW.Al:=⟨inv,adH ps,adG⟩
section
variable{S:Store}{c:Nat}
@[simp] theorem aqn:k8 S (hV c)=true:=rfl
end
def adI(ps:List (Nat×Nat)):List D:=ps.map λp=>.str (ao [p.1,p.2])
def adJ(ls:List Nat)(ps:List (Nat×Nat)):D:=.ins "Threads" ["letters","pairs"] [.str (ao ls),.tup (adI ps)]
section
@[simp] theorem aqo{u v:D}:ke "pairs" ["letters","pairs"] [u,v]=some v:=by
 rfl
end
section
variable{s:Nat}{ps:List (Nat×Nat)}{w:List Nat}
def putL(ps:List (Nat×Nat))(w:List Nat)(s:Nat):List Nat:=(ZW.put (q_ ps) w.reverse s).reverse
end
section
variable{ps:List (Nat×Nat)}{w:List Nat}
def adK(ps:List (Nat×Nat))(w:List Nat):List Nat:=w.foldl (putL ps) []
end
section
variable{ls:List Nat}{ps:List (Nat×Nat)}
def adL(ls:List Nat)(aZ:List (Nat×Nat)):Prop:=∀p∈aZ,p.1<p.2/\p.1∈ls/\p.2∈ls
def adM(ps:List (Nat×Nat)):Prop:=ps.Pairwise λp q=>p.1<q.1\/(p.1=q.1/\p.2<q.2)
end
def up(c:Nat):Nat:=if yf c=true then c - 32 else c
end Z
namespace ZK
open PySem PySem.W PySem.Calls PyProof.Rows He He5
theorem dW.sup{prog:Program}{K:Frag}{d:dW}(e:uk K (d.at_ K)=d.val)(hn:d.name="__init__")(c:d.ok K prog.main.file=true):ZX.qW prog K (d.at_ K) (d.cls K) d.qual d.params d.body d.scope:=by
 obtain⟨eX,c2⟩:=ba c;obtain⟨c3,adN⟩:=ba c2;unfold uk at e;cases q:K.lookup (d.at_ K)with
 |none =>
  grind
 |some o =>
  obtain⟨eZ,od,DY,il⟩:=o;rw[q]at eX e;cases DY with
  |func fd =>
   obtain⟨n1,n2,xC,Lj,RH,Ek,RJ,RK,T7,T8,T9,T_,adO,T',adP⟩:=fd;have e2:(some (n1,n2,xC,Lj,RH,Ek,adP,RK):Dm)=some (d.name,d.qual,d.params,.stmts d.body,d.scope,mainGlobals,builtinsNs,.none):=e;simp only[Option.some.injEq,Prod.mk.injEq]at e2;obtain⟨h1,h2,aI,bE,cw,pI,vv,vw⟩:=e2;subst h1 h2 aI bE cw pI vv vw;have adQ:(H3 K (d.cls K) RJ&&H4 K d.qual prog.main.file adO)=true:=eX;obtain⟨c0,b6⟩:=ba adQ;unfold H3 at c0;unfold H4 at b6;split at c0
   .rename_i x cc
    obtain⟨iR,l'⟩:=ba c0;have iR:=of_decide_eq_true iR;subst iR;split at b6
    .rename_i b8
     obtain⟨E4,yg⟩:=ba b6;unfold Py at l';split at l'
     .rename_i qE o' E sl0 hq
      have l':=of_decide_eq_true l';subst l';unfold Pz at yg;split at yg
      .rename_i aqp aqq vs a' adR
       split at yg
       .rename_i f dE bB
        obtain⟨oz,bT⟩:=Option.isSome_iff_exists.mp c3;have bz:K.lookup (d.at_ K)=some ⟨eZ,od,.func (ksFn "__init__" d.qual d.params d.body d.scope .none T7 T8 T9 T_ (.ref b8) T' cc),il⟩:=by rw[q,<-hn]
        have adS:=of_decide_eq_true adN;exact⟨⟨eZ,od,"__init__",T7,T8,T9,T_,b8,cc,T',il,bz,E4,⟨_,_,_,_,_,_,adR,bB,yg⟩,⟨_,_,_,hq⟩⟩,⟨_,bT⟩,adS⟩
       .cases yg
      .cases yg
     .cases l'
    .cases b6
   .cases c0
  |_=>cases eX
abbrev rg:Type:=((Bool×List He.FnW)×List Dm)×Bool
def Ua(fn:List DefA)(fs:List dW)(dE:List Defn)(ex:Frag->Bool)(g:Addr->Option Obj)(K:Frag):rg:=(((fn.all λd=>d.ok K,fn.map λd=>fnA K (d.at_ K)),fs.map λd=>uk K (d.at_ K)),ex K&&tabsB g dE K)
def obsZ(n:um)(fn:List DefA)(fs:List dW)(dE:List Defn)(ex:Frag->Bool)(g:Addr->Option Obj):rg:=Ua fn fs dE ex g (iA n g)
def yh(fn:List DefA)(fs:List dW):rg:=(((true,fn.map DefA.val),fs.map dW.val),true)
structure vz(fn:List DefA)(fs:List dW)(dE:List Defn)(ex:Frag->Bool)(h:Heap)(K:Frag):Prop where
 ok:(fn.all λd=>d.ok K)=true
 at_:(fn.map λd=>fnA K (d.at_ K))=fn.map DefA.val
 sup:(fs.map λd=>uk K (d.at_ K))=fs.map dW.val
 more:ex K=true
 hd:∀p∈dE,codeHdIn K (cT K p).1 (cT K p).2=true
 out:∀p∈dE,K.lookup (cT K p).2=none
 empty:∀p∈dE,h.get? (cT K p).2=some { cls:=.none,data:=.fields #[] }
theorem adT{n:um}{fn:List DefA}{fs:List dW}{dE:List Defn}{ex:Frag->Bool}{h:Heap}(e:obsZ n fn fs dE ex h.get?=yh fn fs):vz fn fs dE ex h (iA n h.get?):=by
 have au:(fn.all λd=>d.ok (iA n h.get?))=true:=congrArg (λz:rg=>z.1.1.1) e;have e2:(fn.map λd=>fnA (iA n h.get?) (d.at_ (iA n h.get?)))=fn.map DefA.val:=congrArg (λz:rg=>z.1.1.2) e;have bj:(fs.map λd=>uk (iA n h.get?) (d.at_ (iA n h.get?)))=fs.map dW.val:=congrArg (λz:rg=>z.1.2) e;have fV:(ex (iA n h.get?)&&tabsB h.get? dE (iA n h.get?))=true:=congrArg (λz:rg=>z.2) e;obtain⟨h1,h2⟩:=ba fV;have key:∀p∈dE,codeHdIn (iA n h.get?) (cT (iA n h.get?) p).1 (cT (iA n h.get?) p).2=true/\∃o,h.get? (cT (iA n h.get?) p).2=some o/\emptyTab o=true:=λp hp=>by
  obtain⟨aI,bE⟩:=ba (List.all_eq_true.mp h2 p hp);grind
 exact⟨au,e2,bj,h1,λp hp=>(key p hp).1,λp hp=>by
  obtain⟨_,o,q,z⟩:=key p hp;exact frT_none q z,λp hp=>by
  obtain⟨_,o,q,z⟩:=key p hp;rw[q,emptyTab_eq z]⟩
def Ub(n:um)(fn:List DefA)(fs:List dW)(dE:List Defn)(ex:Frag->Bool):Hook where
 α:=rg
 obs:=λs=>obsZ n fn fs dE ex s.heap.get?
 val:=λ_=>yh fn fs
 says:=λw h=>∃K:Frag,K.In h/\vz fn fs dE ex h K
 of:=λ_ _ e=>⟨_,frT_in,adT e⟩
 keeps:=λ_ _ _ ⟨K,hK,c⟩ k=>⟨K,Frag.In.keeps hK k,⟨c.ok,c.at_,c.sup,c.more,c.hd,c.out,λp hp=>k _ _ (c.empty p hp)⟩⟩
theorem adU{n:um}{fn:List DefA}{fs:List dW}{dE:List Defn}{ex:Frag->Bool}{g:Addr->Option Obj}{s:Shared}(h:∀a,g a=s.heap.get? a):obsZ n fn fs dE ex g=(Ub n fn fs dE ex).obs s:=by
 have e:g=s.heap.get?:=funext h;rw[e]<;>rfl
theorem vz.def_{fn:List DefA}{fs:List dW}{dE:List Defn}{ex:Frag->Bool}{h:Heap}{K:Frag}(c:vz fn fs dE ex h K)(i:Nat){d:DefA}(hi:fn[i]?=some d:=by rfl):∃fd,L2.FunD K d.name d.qual d.params d.body d.scope (d.dvs K) (d.kws K) (d.at_ K) fd:=by
 have h1:=List.all_eq_true.mp c.ok d (nT hi);have h2:=congrArg (λl=>l[i]?) c.at_;simp only[List.getElem?_map,hi,rY]at h2;exact DefA.funD (Option.some.inj h2) h1
theorem vz.Fp{fn:List DefA}{fs:List dW}{dE:List Defn}{ex:Frag->Bool}{h:Heap}{K:Frag}(c:vz fn fs dE ex h K)(i:Nat){d:dW}(hi:fs[i]?=some d:=by rfl):uk K (d.at_ K)=d.val:=by
 have h2:=congrArg (λl=>l[i]?) c.sup;grind
end ZK
namespace Z
open PySem PySem.Spec L2 PyProof.Rows
theorem adV(z:Str):((Builtin.Str.strSliceIndices none none (-1) z.length).filterMap (z.cps[·]?))=z.cps.toList.reverse:=by
 have e:Builtin.Str.strSliceIndices none none (-1) z.length=sliceRange ((z.length:Int) - 1) (-1) (-1):=by
  unfold Builtin.Str.strSliceIndices;simp
 rw[e,PySem.W.krv_sliceRange,PySem.W.krv_range,List.filterMap_reverse];show((List.range z.cps.size).filterMap (z.cps[·]?)).reverse=_;have h:=PySem.W.krv_all (α:=Value);have go:∀{α:Type} (xs:Array α),(List.range xs.size).filterMap (xs[·]?)=xs.toList:=λxs=>PySem.W.krv_all xs;rw[go]
def Fq(hand:Bool):D->Store->Out D:=λd S=>match d with
 | .str s=>if s.length<=1000000 then .ok (.str ⟨s.cps.toList.reverse.toArray⟩) S else .bad
 | .tup _=>.bad
 | .bS _=>.bad
 |d=>(match c9 S d with
  |some xs=>if hand=true then .ok (.ptr S.length) (S++[.lst xs.reverse])else .ok (.lst xs.reverse) S
  |none=>.bad)
def vA(hand:Bool)(fa:aM):aM:=λsl S=>(fa sl S).bind λd S1=>Fq hand d S1
section
variable{X:Cx}{W:WX}
theorem Uc{hand:Bool}{e:Expr}{fa:aM}{k:Nat}{p1 p2 cu pos:Pos}(ha:E X W e fa):E X W (.Subscript e (.Slice none none (some (.UnaryOp .USub (.Constant (.int 1) k p1) p2)) cu) pos) (vA hand fa):=by
 refine⟨λpins s σ H Q I h=>?_⟩;obtain⟨ρ,S,sl,w,rs,p⟩:=h;refine Subscript_ (thn (ha.run pins s σ H _ I ⟨ρ,S,sl,w,rs,aS.e3 p⟩) λv s1 ⟨x,H1,I1,r1,aB,S1,d,x1,aE,rd,_,ll⟩=>?_);have gR:PO X (some (.UnaryOp .USub (.Constant (.int 1) k p1) p2)) (tPart (tUn (rU λi=>.int (-i)) (tC (.int 1)))):=po_some (pe_un un_neg pe_int);refine wpAny_Slice (thn (po_none.run pins s1 σ H1 (λo aH=>o=none/\aH=H1) I1 ⟨rfl,rfl⟩) λyi s2 ⟨l,aH,I2,pl,el,e2⟩=>?_);subst el e2;refine thn (po_none.run pins s2 σ aH (λo dG=>o=none/\dG=aH) I2 ⟨rfl,rfl⟩) λBe s3 ⟨u,dG,lT,pu,A3,bj⟩=>?_;subst A3 bj;refine thn (gR.run pins s3 σ dG (λo jv=>o=some (-1)/\jv=dG) lT ⟨1,rfl,-1,rfl,rfl,rfl⟩) λvs s4 ⟨o,jv,nh,ps,JO,fV⟩=>?_;subst JO fV;have mb:Inv X pins σ jv { s4 with heap:=s4.heap.push { cls:=.type "slice",data:=.fields #[yi,Be,vs] } }:=nh.kept (t':=s4.toks) λb ob q=>Heap.get?_push_of_some _ q;have Ud:∀xs,c9 S1 d=some xs->(∀ys,d≠.tup ys/\d≠.bS ys)->aS X.K X.mg (λC d H'=>W C d σ H') aB jv Q (if hand=true then .ok (.ptr S1.length) (S1++[.lst xs.reverse])else .ok (.lst xs.reverse) S1) ->
   wpAny (model X.prog X.w) X.A (subscriptTail e (.Slice none none (some (.UnaryOp .USub (.Constant (.int 1) k p1) p2)) cu) v (.ref s4.heap.objs.size)) (EP X pins σ Q) X.xe { s4 with heap:=s4.heap.push { cls:=.type "slice",data:=.fields #[yi,Be,vs] } }:=λxs ex hn p=>by
  obtain⟨a,us,au,h1,cI⟩:=uY aE rd ex hn;subst au;obtain rfl:v=Value.ref a:=r1;obtain⟨its,r,ht,hz⟩:=mb.list h1;have hlen:=r.length;refine tail_any (ops:=[.ref a,.ref s4.heap.objs.size]) ht.isList.typeIs (PySem.slot_list_getitem.lookup) ?_ (by rfl);refine wpAny_getItem_list_slice ht.isList (Heap.IsSliceOf.new _ yi Be vs) pl pu ps (by decide) ?_ (by grind);rw[PySem.W.krv_pick];have hp:jv (s4.heap.push { cls:=.type "slice",data:=.fields #[yi,Be,vs] }).objs.size=none:=mb.hok.fresh (Nat.le_refl _);refine⟨.ref _,_,mb.laid (t':=s4.toks) (o:=.lst us.reverse) (λb ob q=>Heap.get?_push_of_some _ q) (Nat.le_refl _) ?_,rfl,?_⟩
  .exact⟨by grind,_,0,r.reverse,Heap.get?_push_size _ rfl⟩
  .cases hand with
   |true=>rw[if_pos rfl]at p;exact IX p aE (E9 cI) hp
   |false=>rw[if_neg j8]at p;exact xb p aE (E9 cI) hp
 show wpAny (model X.prog X.w) X.A (subscriptTail e (.Slice none none (some (.UnaryOp .USub (.Constant (.int 1) k p1) p2)) cu) v (.ref s4.heap.objs.size)) (EP X pins σ Q) X.xe { s4 with heap:=s4.heap.push { cls:=.type "slice",data:=.fields #[yi,Be,vs] } };cases d with
 |str z =>
  unfold Fq at ll;simp only at ll;split at ll
  .rename_i hl
   have ex:=eV rd;subst ex;obtain⟨t,rfl⟩:=r1;obtain⟨oD,rfl,el⟩:=IsPart.raw pl;obtain⟨uy,rfl,A3⟩:=IsPart.raw pu;obtain⟨s',rfl,es⟩:=IsPart.raw ps;refine tail_any (ops:=[.str z t,.ref s4.heap.objs.size]) (typeIs_str _ _ _) (F.slot_str_getitem.lookup) ?_ (by rfl);cases oD with
   |some _=>cases el
   |none =>
   cases uy with
   |some _=>cases A3
   |none =>
   cases s' with
   |none=>cases es
   |some q =>
   obtain⟨i,Bf⟩:=q;obtain rfl:i = -1:=Option.some.inj es;refine wpAny_getItem_str_slice (l:=none) (u:=none) (st:=some (-1,Bf)) ⟨_,Heap.get?_push_size _ rfl,rfl,rfl⟩ rfl ?_;have hz:(⟨z.cps.toList.reverse.toArray⟩:Str).length<=sizeLine:=by
    have h1:=h7 hl;show z.cps.toList.reverse.toArray.size<=sizeLine;rw[fR,List.length_reverse,Array.length_toList];exact h1
   have hm:sliceMade z t none none (some (-1,Bf))=.str ⟨z.cps.toList.reverse.toArray⟩:=by
    unfold sliceMade slicePicked;rw[if_neg (by simp)];congr 2;exact congrArg List.toArray (adV z)
   rw[hm];exact⟨hz,.str _,jv,mb.tok _,⟨_,rfl⟩,cj ll aE mP⟩
  .exact ll.elim
 |tup xs=>exact ll.elim
 |bS xs=>exact ll.elim
 |lst xs=>exact Ud xs rfl (by simp) ll
 |cy xs=>exact Ud _ rfl (by simp) ll
 |ptr n =>
  have ll:aS X.K X.mg (λC d H'=>W C d σ H') aB jv Q (match c9 S1 (.ptr n)with
   |some xs=>if hand=true then .ok (.ptr S1.length) (S1++[.lst xs.reverse])else .ok (.lst xs.reverse) S1
   |none=>.bad):=ll
  split at ll
  .grind
  .exact ll.elim
 |_=>exact ll.elim
def Bg(S:Store)(d:D):Option (List D):=match d with
 | .tup xs=>some xs
 | .bS xs=>some xs
 |d=>c9 S d
end
open PySem PySem.Spec L2
section
variable{S:Store}{P X:D->Store->Prop}
@[simp] theorem aqr{xs:List D}:We (Fq false (.lst xs) S) P X=P (.lst xs.reverse) S:=by
 have e:Fq false (.lst xs) S=.ok (.lst xs.reverse) S:=rfl;rw[e,bh]
end
end Z
namespace ZM
def bB:Int->Nat->Int×Nat
 |n,0=>(n,0)
 |n,e+1=>if n % 2=0 then bB (n / 2) e else(n,e+1)
def Low(p:Int×Nat):Prop:=p.2=0\/p.1 % 2=1
def w4(p:Int×Nat):Rat:=(p.1:Rat) * 2 ^ (-(p.2:Int))
def adW(n:Int)(e:Nat)(t:Int):Int×Nat:=bB (n * 2 ^ (t - e).toNat) (e - t:Int).toNat
def adX(p q:Int×Nat):Int×Nat:=bB (p.1 * 2 ^ (max p.2 q.2 - p.2)+q.1 * 2 ^ (max p.2 q.2 - q.2)) (max p.2 q.2)
abbrev s6:=Int×(Int×Nat)
def s6.ok(x:s6):Prop:=Low x.2
def adY(x y:s6):s6:=(x.1+y.1,adX x.2 (adW y.2.1 y.2.2 x.1))
def adZ:s6:=(0,(0,0))
structure ad0(v B:Nat)(x:s6):Prop where
 t:x.1.natAbs<=B
 n:x.2.1.natAbs<=2 ^ ((v+1) * B) * 2 ^ x.2.2
 e:x.2.2<=B
abbrev yj:=List (Int×Int)
def val:yj->Int->Int
 |[],_=>0
 |(q,n)::r,p=>if q=p then n else val r p
def ad1(xs:yj):Prop:=xs.Pairwise (λa b=>a.1<b.1)/\∀a∈xs,a.2≠0
def ad2(f:Int->Int)(ks:List Int):yj:=(ks.filter λp=>decide (f p≠0)).map λp=>(p,f p)
def ad3(ks:List Int):List Int:=(ks.mergeSort λa b=>decide (a<=b)).eraseDups
abbrev oH:=Int×yj
def ad4(x:oH):Prop:=ad1 x.2
def pK(x y:oH)(p:Int):Int:=val x.2 p+val y.2 (p - x.1)
def ad5(x y:oH):List Int:=x.2.map (·.1)++y.2.map λa=>a.1+x.1
def ad6(x y:oH):oH:=(x.1+y.1,ad2 (pK x y) (ad3 (ad5 x y)))
def ad7:oH:=(0,[])
structure ad8(v c B:Nat)(x:oH):Prop where
 s:x.1.natAbs<=B
 p:∀a∈x.2,a.1.natAbs<=B/\a.2.natAbs<=B * 2 ^ v
 l:x.2.length<=c
inductive Fs:Nat->List Int->Prop
 |two (a:Int):Fs 2 [a]
 |three (a b c:Int):Fs 3 [a,b,c]
 |four (a b c d e f:Int):Fs 4 [a,b,c,d,e,f]
def ad9:List Int->List Int->List Int
 |[a],[x]=>[a+x]
 |[a,b,c],[x,y,z]=>[a+x,b+a * z+y,c+z]
 |[a,b,c,d,e,f],[x,y,z,u,v,w]=>[a+x,b+a * u+y,c+a * v+b * w+z,d+u,e+d * w+v,f+w]
 |xs,_=>xs
def aea:Nat->List Int
 |2=>[0]
 |3=>[0,0,0]
 |_=>[0,0,0,0,0,0]
variable{x:List Int}
def aeb(B:Nat)(x:List Int):Prop:=∀a∈x,a.natAbs<=2 ^ B
end ZM
namespace Z
open PySem PySem.Spec L2 ZM
section
variable{ps:List (Nat×Nat)}{ls u v w:List Nat}
def aec(ls:List Nat)(ps:List (Nat×Nat))(w:List Nat):Prop:=(∀c∈w,T6 c/\low c∈ls)/\adK ps w=w
def aed(ps:List (Nat×Nat))(u v:List Nat):List Nat:=v.foldl (putL ps) u
end
inductive gY where
 |Bh (ls:List Nat) (ps:List (Nat×Nat))
 |st (n:Nat)
 |s7
 |Bi
 |bo (a b:gY)
inductive fK where
 |w (l:List Nat)
 |s (l:List Int)
 |l (x:oH)
 |d (x:s6)
 |p (a b:fK)
deriving DecidableEq
def gY.ok:gY->Prop
 | .Bh ls ps=>aca ls/\1<=ls.length/\ls.length<=5/\adL ls ps/\adM ps
 | .st n=>2<=n/\n<=4
 | .s7=>True
 | .Bi=>True
 | .bo a b=>a.ok/\b.ok
def gY.dep:gY->Nat
 | .bo a b=>1+max a.dep b.dep
 |_=>0
def Bj:gY->fK->Prop
 | .Bh ls ps,.w l=>aec ls ps l
 | .st n,.s l=>Fs n l
 | .s7,.l x=>ad4 x
 | .Bi,.d x=>s6.ok x
 | .bo A B,.p a b=>Bj A a/\Bj B b
 |_,_=>False
def Lk(v c n:Nat):fK->Prop
 | .w l=>l.length<=c
 | .s l=>aeb ((v+1) * n) l
 | .l x=>ad8 v c n x
 | .d x=>ad0 v n x
 | .p a b=>Lk v c n a/\Lk v c n b
def mul:gY->fK->fK->fK
 | .Bh _ ps,.w u,.w v=>.w (aed ps u v)
 | .st _,.s u,.s v=>.s (ad9 u v)
 | .s7,.l x,.l y=>.l (ad6 x y)
 | .Bi,.d x,.d y=>.d (adY x y)
 | .bo A B,.p a b,.p c d=>.p (mul A a c) (mul B b d)
 |_,e,_=>e
def one:gY->fK
 | .Bh _ _=>.w []
 | .st n=>.s (aea n)
 | .s7=>.l ad7
 | .Bi=>.d adZ
 | .bo A B=>.p (one A) (one B)
def aee(xs:List Int):D:=.tup (xs.map .int)
def Ln(a:Int×Int):D:=.tup [.int a.1,.int a.2]
def fK.D:fK->Z.D
 | .w u=>.str (ao u)
 | .s u=>aee u
 | .l x=>.tup [.int x.1,.bS (x.2.map Ln)]
 | .d x=>.tup [.int x.1,.int x.2.1,.int x.2.2]
 | .p a b=>.tup [a.D,b.D]
def gY.D:gY->Z.D
 | .Bh ls ps=>adJ ls ps
 | .st n=>.ins "Stairs" ["size"] [.int n]
 | .s7=>.ins "Lamps" [] []
 | .Bi=>.ins "Doubler" [] []
 | .bo a b=>.ins "Both" ["one","other"] [a.D,b.D]
open PySem PySem.Spec L2 PyProof.Rows
section
variable{X:Cx}{W:WX}{e:Expr}{es:List Expr}{fe:aM}{p:Pos}
def md(fe:aM)(fr:cO):cO:=λsl S=>(fe sl S).bind λd S1=>match Bg S1 d with
 |some xs=>(fr sl S1).bind λds S2=>.ok (xs++ds) S2
 |none=>.bad
theorem aef{K:PySem.W.Frag}{mg:Str->Option Value}{ρ:List Addr}{H:Hp}{S:Store}{d:D}{v:V}{xs:List D}(w:aF K mg ρ H S)(r:Rep K mg ρ H d v)(dr:Bg S d=some xs):∃t us,v=.ref t/\(SqT K H t us\/SqL K H t us)/\ay K mg ρ H xs us:=by
 cases d with
 |tup zs =>
  cases dr;rw[Rep]at r;obtain⟨t,us,au,tt,cI⟩:=r;exact⟨t,us,au,.inl tt.df,cI⟩
 |bS zs =>
  cases dr;rw[Rep]at r;obtain⟨t,us,au,tt,cI⟩:=r;exact⟨t,us,au,.inl tt.df,cI⟩
 |_ =>
  obtain⟨t,us,au,h1,cI⟩:=uY w r dr (by intros;exact⟨nofun,nofun⟩);exact⟨t,us,au,.inr h1,cI⟩
theorem Lp{fr:cO}(he:E X W e fe)(hr:gq X W es fr)(hs:starEach (.Starred e p::es) X.env=(true,eval e X.env)::starEach es X.env:=by rfl):gq X W (.Starred e p::es) (md fe fr) :=
 PA.imp (StX.pa_star he hr hs) λσ H Q h=>by
  obtain⟨ρ,S,sl,w,rs,p⟩:=h;refine⟨ρ,S,sl,w,rs,aS.mono (aS.qt p) λv H1 ⟨aB,S1,d,x1,aE,r1,_,p1⟩=>?_⟩;split at p1
  .rename_i xs dr
   obtain⟨t,us,au,ht,cI⟩:=aef aE r1 dr;refine⟨t,us,au,ht,aB,S1,sl,aE,rs.ext x1,eu.mono (eu.qt p1) λys aH ⟨aP,S2,ds,x2,cD,r2,_,p2⟩=>?_⟩;exact p2 (us++ys) aP aH Ext.refl cD ((cI.ext x2).append r2)
  .exact p1.elim
end
open PySem PySem.Spec L2 PyProof.Rows
def vB:n':=λd ds S=>match d,ds with
 | .str a,[.str b]=>if b.length≠0/\a.length<=1000000 then .ok (.tup [.str (Txt.partition a b).1,.str (Txt.partition a b).2.1,.str (Txt.partition a b).2.2]) S else .bad
 |_,_=>.bad
section
variable{X:Cx}
theorem aeg:uT X "str.partition" vB:=by
 refine⟨_,mt_partition,λWp ρ H S d ds x xs Q w aC cB p=>?_⟩;unfold vB at p;split at p
 .rename_i a b
  split at p
  .rename_i hl
   obtain⟨v,e2,r2⟩:=kh cB;refine⟨a,b,eV aC,by rw[e2,eV r2],by simp[hl.1],h7 hl.2,λq hq=>w' (ds:=[.str _,.str _,.str _]) p w (JE [_,_,_]) hq⟩
  .exact p.elim
 .exact p.elim
end
inductive mh (h:Heap) (x:Addr):Value->Prop
 |nil:mh h x .none
 |cons {b:Addr} {o:Obj} {vs:Array Value} {c:Value} (ne:x≠b) (h0:h.get? b=some o) (hd:o.data=.fields vs) (hc:vs[2]?=some c) (r:mh h x c):mh h x (.ref b)
inductive oI (h:Heap):Bool->Value->Value->Prop
 |refl {v:Value}:oI h false v v
 |step {b:Addr} {o:Obj} {vs:Array Value} {c v:Value} {t:Bool} (h0:h.get? b=some o) (hd:o.data=.fields vs) (hc:vs[2]?=some c) (hn:c≠.none) (r:oI h t c v):oI h true (.ref b) v
theorem oI.on{h:Heap}{t:Bool}{u v:Value}{b:Addr}{o:Obj}{vs:Array Value}{c:Value}(x:oI h t u v)(ev:v=.ref b)(h0:h.get? b=some o)(hd:o.data=.fields vs)(hc:vs[2]?=some c)(hn:c≠.none):oI h true u c:=by
 induction x with
 |refl=>subst ev;exact .step h0 hd hc hn .refl
 |step h1 Es z4 vf r ih=>exact .step h1 Es z4 vf (ih ev)
section
variable{prog:Program}{w:World}{A:Around}{E:Value->Shared->Prop}{s:Shared}
theorem oI.aeh{h:Heap}{u v:Value}(x:oI h true u v):∃(b:Addr) (o:Obj) (vs:Array Value) (c:Value) (t:Bool),u=.ref b/\h.get? b=some o/\o.data=.fields vs/\vs[2]?=some c/\oI h t c v:=by
 cases x with
 |step h0 hd hc hn r=>grind
theorem aei{x:Addr}{R:Result->Shared->Prop}(d4:R (.ok (.ret .none)) s):∀{o:Value},mh s.heap x o->o≠.none->∀(Bk:Value) (vC t:Bool),oI s.heap t Bk o->(vC=true->t=true) ->
  codeAny (model prog w) A (.builtin "proto.unchain" ⟨[.ref x,o,Bk,.bool vC],[]⟩) R s:=by
 intro o ch
 induction ch with
 |nil=>simp
 | @cons b ob vs c ne h0 hd hc r ih =>
  intro _ Bk vC t hb ht;refine codeAny_builtin HotX.entry_unchain ?_;show wpAny _ _ (field (.ref b) 2 >>= _) _ _ s;refine wpAny_bind (wpAny_field h0 hd hc ?_);by_cases hn:c=.none
  .subst hn
   rw[if_pos (show(Value.none==Value.none)=true from rfl)]
   first
   |exact wpAny_bind (wpAny_pure (wpAny_pure d4))
   |exact wpAny_pure d4
  .rw[if_neg (by grind)]
   have Ue:¬((c==Value.ref x)=true):=λe=>by
    have e:c=.ref x:=by simpa using e
    subst e;cases r with
    |cons ne2 _ _ _ _=>exact ne2 rfl
   have de:=hb.on rfl h0 hd hc hn;have go:∀(Ft:Value),(∃t',oI s.heap t' Ft c/\((!vC)=true->t'=true))->codeAny (model prog w) A (.builtin "proto.unchain" ⟨[.ref x,c,Ft,.bool (!vC)],[]⟩) R s:=λFt ⟨t',h1,h2⟩=>ih hn Ft (!vC) t' h1 h2
   first
   |rw[if_neg Ue]
   |(refine wpAny_bind ?_;rw[if_neg Ue];refine wpAny_pure ?_)
   by_cases hs:(c==Bk)=true
   .rw[if_pos hs]
    first
    |exact wpAny_bind (wpAny_rule (wpAny_bind (wpAny_pure (wpAny_pure d4))))
    |exact wpAny_bind (wpAny_rule (wpAny_pure d4))
   .rw[if_neg hs]
    cases vC with
    |false =>
     refine wpAny_bind (wpAny_pure ?_);exact wpAny_pure ⟨Code.quiet_builtin _ (by simp),go Bk ⟨true,de,λ_=>rfl⟩⟩
    |true =>
     have ht:=ht rfl;subst ht;obtain⟨b',e6,dg,bA,t',rfl,lj,gd,gc,gr⟩:=hb.aeh;refine wpAny_bind (wpAny_field lj gd gc ?_);exact wpAny_pure ⟨Code.quiet_builtin _ (by simp),go bA ⟨true,gr.on rfl h0 hd hc hn,λe=>by cases e⟩⟩
theorem mh.to{h h':Heap}{x:Addr}{v:Value}(c:mh h x v)(k:∀b o,x≠b->h.get? b=some o->h'.get? b=some o):mh h' x v:=by
 induction c with
 |nil=>exact .nil
 |cons ne h0 hd hc r ih=>exact .cons ne (k _ _ ne h0) hd hc ih
theorem Lq{x1 a:Addr}{Q:Value->Shared->Prop}(ch:mh s.heap a (.ref x1))(q:Q .none s) :
  wpAny (model prog w) A (holding [Value.ref a] (runValue (.builtin "proto.unchain" ⟨[.ref a,.ref x1,.ref x1,.bool false],[]⟩))) Q E s :=
 wpAny_holding (wpAny_runValue (aei q ch (by simp) (.ref x1) false false .refl (λe=>by cases e)))
theorem aej{α:Type}{a x1:Addr}{eP:Obj}{vs:Array Value}{Q:α->Shared->Prop}(hh:A.handled=some (.ref x1))(ch:mh s.heap a (.ref x1))(ha:s.heap.get? a=some eP)(k1:eP.data=.fields vs)(hi:2<vs.size)
  (n4:E (.ref a) { s with heap:=s.heap.update a (Obj.mapFields (·.setIfInBounds 2 (.ref x1))) }):wpAny (model prog w) A (raiseNew (.ref a):Sem α) Q E s:=by
 have dA:x1≠a:=by
  cases ch with
  |cons ne _ _ _ _=>grind
 unfold raiseNew;refine wpAny_bind (wpAny_handled ?_);rw[hh];have hb:(Value.ref x1 != Value.ref a)=true:=HotX.ref_bne dA
 first
 |(show wpAny _ _ (if(Value.ref x1 != Value.ref a)=true then _ else _) _ _ _
   rw[if_pos hb]
   first
   |exact wpAny_bind (Lq ch (wpAny_bind (HotX.chained ha k1 hi (wpAny_throw n4))))
   |exact wpAny_bind (wpAny_bind (Lq ch (HotX.chained ha k1 hi (wpAny_throw n4)))))
 |(refine wpAny_bind ?_
   show wpAny _ _ (if(Value.ref x1 != Value.ref a)=true then _ else _) _ _ _;rw[if_pos hb];exact wpAny_bind (Lq ch (HotX.chained ha k1 hi (wpAny_throw n4))))
open HotX in
theorem aek{env:Env}{x c:Sem Value}{Q:Flow->Shared->Prop}{x1:Addr}
  (ja:∀(s:Shared) (ew:Value->Shared->Prop),ew .none s->wpAny (model prog w) A c ew E s)
  (h:wpAny (model prog w) A x (λv s₁=>∃a eP vs cls,v=.ref a/\s₁.heap.get? a=some eP/\eP.cls=cls/\eP.data=.fields vs/\vs[1]?=some .none/\4<vs.size/\A.handled=some (.ref x1)/\mh s₁.heap a (.ref x1) /\
   PySem.W.Looks (model prog w) s₁.heap (isSubtype cls (.type "BaseException")) true/\PySem.W.Looks (model prog w) (noneFrom s₁.heap a) (typeOf cls) (.type "type") /\
   E (.ref a) { s₁ with heap:=(noneFrom s₁.heap a).update a (Obj.mapFields (·.setIfInBounds 2 (.ref x1))) }) E s) :
  wpAny (model prog w) A (raiseStmt env (some x) (some c)) Q E s:=by
 unfold raiseStmt;dsimp only;refine wpAny_bind (wpAny_mono h (λv s₁ h₁=>?_) λ_ _ x=>x);obtain⟨a,eP,vs,cls,rfl,ha,ael,hd,h1,hi,hh,q7,aem,aen,n4⟩:=h₁;have LT:PySem.W.Looks (model prog w) s₁.heap (typeOf (.ref a)) cls:=λA Q E s k q=>wpAny_typeOf_ref (k _ _ ha) (by grind);have aeo:PySem.W.Looks (model prog w) s₁.heap (isInstance (.ref a) (.type "BaseException")) true:=LT.andThen aem;have aep:∀{ew:Bool->Shared->Prop},ew false s₁->wpAny (model prog w) A (isType (.ref a)) ew E s₁:=by
  intro ew hq;simp only[isType,loadHead];refine wpAny_bind (wpAny_loadPart ha ?_);rw[hd];exact wpAny_pure hq
 have Bl:=Obj.data_mapFields hd (·.setIfInBounds 3 .none);have Lr:=Heap.get?_update_self (Obj.mapFields (·.setIfInBounds 3 .none)) ha (Obj.isFreed_of_fields Bl);obtain⟨yk,s8⟩:=noneFrom_at ha hd;have s3:3<vs.size:=by omega
 have s4:4<(vs.setIfInBounds 3 Value.none).size:=by rw[set_size];exact hi
 have s2:2<((vs.setIfInBounds 3 Value.none).setIfInBounds 4 (Value.bool true)).size:=by rw[set_size,set_size];omega
 have Le:((vs.setIfInBounds 3 Value.none).setIfInBounds 4 (Value.bool true))[1]?=some Value.none:=set_other (by decide) (set_other (by decide) h1);have aqs:((eP.mapFields (·.setIfInBounds 3 .none)).mapFields (·.setIfInBounds 4 (.bool true))).cls=cls:=by rw[Obj.cls_mapFields,Obj.cls_mapFields];exact ael
 have aeq:PySem.W.Looks (model prog w) (noneFrom s₁.heap a) (typeOf (.ref a)) cls:=λA Q E s k q=>wpAny_typeOf_ref (k _ _ yk) (by grind);have aer:∀{ew:Bool->Shared->Prop},ew false { s₁ with heap:=noneFrom s₁.heap a }->wpAny (model prog w) A (isType (.ref a)) ew E { s₁ with heap:=noneFrom s₁.heap a }:=by
  intro ew hq;simp only[isType,loadHead];refine wpAny_bind (wpAny_loadPart yk ?_);rw[s8];exact wpAny_pure hq
 have aes:mh (noneFrom s₁.heap a) a (.ref x1):=q7.to λb o ne e=>by rw[noneFrom_other ne];exact e
 have rest:wpAny (model prog w) A (do
   let b <-isType (.ref a)
   if b=true then do
    let e <-holding [.ref a] (raisedFor (.ref a) (.ref a))
    setFlight e none
    raiseNew e
   else do
    let e <-raisedInstance (.ref a)
    setFlight e none
    raiseNew e:Sem Flow) Q E { s₁ with heap:=noneFrom s₁.heap a }:=by
  refine wpAny_bind (aer ?_);simp only[uh,if_false];unfold raisedInstance;refine wpAny_bind (wpAny_bind (aeq.here (wpAny_bind (aen.here ?_))));rw[if_pos (beq_self_eq_true _)];refine wpAny_pure ?_;unfold setFlight;refine wpAny_bind (wpAny_bind (wpAny_field yk s8 Le ?_));rw[if_neg (by decide)];refine wpAny_pure ?_;exact aej hh aes yk s8 s2 n4
 refine wpAny_bind (wpAny_holding (ja _ _ (wpAny_bind (wpAny_pure ?_))));dsimp only;refine wpAny_bind (wpAny_holding ?_);unfold excFromValue isExcClass;refine wpAny_bind (wpAny_bind (aep ?_));simp only[uh,if_false];refine wpAny_pure ?_;simp only[uh,if_false];refine wpAny_bind (aeo.here ?_);simp only[if_true];refine wpAny_pure ?_
 first
 |rw[if_pos (show(Value.none==Value.none)=true from rfl)]
 |(show wpAny _ _ (if(Value.none==Value.none)=true then _ else _) _ _ _;rw[if_pos (show(Value.none==Value.none)=true from rfl)])
 |simp only[beq_self_eq_true,if_true]
 first
 |refine wpAny_bind (wpAny_pure (wpAny_bind (wpAny_setField ha hd s3 (wpAny_bind (wpAny_setField Lr Bl s4 ?_)))))
 |refine wpAny_bind (wpAny_pure (wpAny_bind (wpAny_bind (wpAny_setField ha hd s3 (wpAny_bind (wpAny_setField Lr Bl s4 ?_))))))
 |refine wpAny_bind (wpAny_bind (wpAny_pure (wpAny_bind (wpAny_setField ha hd s3 (wpAny_setField Lr Bl s4 ?_)))))
 first
 |exact rest
 |(dsimp only;exact rest)
 |(refine wpAny_pure ?_;exact rest)
 |(simp only[bind_pure_comp] ;exact rest)
end
inductive ni (pn:List (Addr×Obj)):Value->Prop
 |nil:ni pn .none
 |cons {b:Addr} {o:Obj} {vs:Array Value} {c:Value} (h:(b,o)∈pn) (hd:o.data=.fields vs) (hc:vs[2]?=some c) (r:ni pn c):ni pn (.ref b)
theorem ni.mono{l oD:List (Addr×Obj)}{v:Value}(c:ni l v)(k:∀p∈l,p∈oD):ni oD v:=by
 induction c with
 |nil=>exact .nil
 |cons h hd hc r ih=>exact .cons (k _ h) hd hc ih
theorem aet{B:Heap}{H:Hp}{v:Value}(c:Chain B H v):∃l:List (Addr×Obj),ni l v/\∀p∈l,B.get? p.1=some p.2/\H p.1=none/\∃vs,p.2.data=.fields vs:=by
 induction c with
 |nil=>exact⟨[],.nil,by simp⟩
 | @cons b o vs c h n hd hc r ih =>
  obtain⟨l,h1,h2⟩:=ih;refine⟨(b,o)::l,.cons (by simp) hd hc (h1.mono λp hp=>by simp[hp]),λp hp=>?_⟩;grind
def Bm(X:Cx):Prop:=∃a:Addr,X.A.handled=some (.ref a)/\ni X.pn (.ref a)
section
variable{X:Cx}{pins:List (Addr×Obj)}{σ:L2.St}{H:Hp}{s:Shared}
theorem aeu(I:Inv X pins σ H s){p:Addr×Obj}(hp:p∈X.pn++pins):p.1∉frs X.stack:=λhm=>by
 obtain⟨_,_,h1,h2,_⟩:=I.pin p hp;rcases g6.mp (I.stkSub _ hm)with z|z
 .exact h1 z
 .exact h2 z
theorem ni.aev{x:Addr}{v:Value}(c:ni X.pn v)(I:Inv X pins σ H s)(hx:s.heap.get? x=none):mh s.heap x v:=by
 induction c with
 |nil=>exact .nil
 |cons h hd hc r ih =>
  have P:=(I.pin _ (oZ _ h)).1;exact .cons (λe=>by grind) P hd hc ih
theorem ni.chain{v:Value}(c:ni X.pn v)(I:Inv X pins σ H s):Chain (PySem.W.hideAll s.heap (frs X.stack)) H v:=by
 induction c with
 |nil=>exact .nil
 |cons h hd hc r ih =>
  have P:=I.pin _ (oZ _ h);exact .cons (PySem.W.hideAll_get _ P.1 (aeu I (oZ _ h))) P.2.1 hd hc ih
end
theorem aew{X:Cx}{W:WX}{e:Expr}{t:L2.St->Hp->XK->Prop}{j:Nat}{mS pos:Pos}(hc:Bm X)(tk:Takes X W)(he:L2H.PMk5 X e t) :
  PS X (.Raise (some e) (some (.Constant .none j mS)) pos) (λ_ σ H=>t σ H λcls d H'=>W cls d σ H'):=by
 refine⟨λpins s σ H D I h=>?_⟩;obtain⟨x1,hh,Ug⟩:=hc;show wpAny _ _ (do standAt pos;raiseStmt X.env (some (do let v <-eval e X.env;standAt pos;pure v)) (some (do let v <-eval (.Constant .none j mS) X.env;standAt pos;pure v))) _ _ _;refine wpAny_bind (wpAny_standAt (aek (x1:=x1) (λs2 Q2 bz=>wpAny_bind (Constant_none (wpAny_bind (wpAny_standAt (wpAny_pure bz))))) (wpAny_bind (wpAny_mono (he pins s σ H _ I h) (λu s1 aT=>wpAny_bind (wpAny_standAt (wpAny_pure ?_))) λ_ _ x=>x))));obtain⟨⟨a,eP,vs,dq,H',cls,d,rfl,J,k,dA,ha,hz,hd,h1,na,os,h8,r,q⟩,cw⟩:=aT;have hi:4<vs.size:=cw a eP vs rfl ha hd;have l':∀b u,dq.heap.get? b=some u->(HotX.noneFrom s1.heap a).get? b=some u:=λb u z=>by
  have Ls:a≠b:=λy=>by
   grind
  rw[HotX.noneFrom_other Ls];exact k b u z
 obtain⟨r1,_⟩:=r (model X.prog X.w) s1.heap (J.kIn.keeps k);obtain⟨_,r2⟩:=r (model X.prog X.w) (HotX.noneFrom s1.heap a) (J.kIn.keeps l');have aex:=Ug.aev J dA;have aey:mh s1.heap a (.ref x1):=aex.to λb o _ z=>k b o z;obtain⟨yk,s8⟩:=HotX.noneFrom_at ha hd;have Bb:(((vs.setIfInBounds 3 Value.none).setIfInBounds 4 (Value.bool true)).setIfInBounds 2 (Value.ref x1))[1]?=some Value.none:=HotX.set_other (by decide) (HotX.set_other (by decide) (HotX.set_other (by decide) h1));have aqt:(((vs.setIfInBounds 3 Value.none).setIfInBounds 4 (Value.bool true)).setIfInBounds 2 (Value.ref x1))[2]?=some (Value.ref x1):=by
  rw[Array.getElem?_setIfInBounds_self_of_lt (by grind)]
 have Uh:=Obj.data_mapFields s8 (·.setIfInBounds 2 (Value.ref x1));refine⟨a,eP,vs,cls,rfl,ha,hz.1,hd,h1,hi,hh,aey,r1,r2,tk _ _ (XE.new J (λb u z=>?_) dA (Heap.get?_update_self _ yk (Obj.isFreed_of_fields Uh))
  ⟨by rw[Obj.cls_mapFields,Obj.cls_mapFields,Obj.cls_mapFields];exact hz.1,by rw[HandSPX.dict_mapFields,HandSPX.dict_mapFields,HandSPX.dict_mapFields];exact hz.2.1,λws oi=>⟨.ref x1,by grind,Ug.chain J⟩⟩ Uh Bb na os h8 q)⟩
 have Ls:a≠b:=λy=>by
  grind
 show((HotX.noneFrom s1.heap a).update a (Obj.mapFields (·.setIfInBounds 2 (.ref x1)))).get? b=some u;rw[Heap.get?_update_other _ _ Ls];grind
end Z
namespace L2
open PySem PySem.Spec PyProof.Rows
def Ui(K:PySem.W.Frag)(cs:List Value)(ts:TS)(vD:WX)(D:Ends):WX:=λcls d σ H =>
 ∃b,PySem.W.exmAny K cls cs=some b/\(b=true->ts D σ H)/\(b=false->vD cls d σ H)
section
variable{X:Cx}{pins:List (Addr×Obj)}{σ:St}{H:Hp}{s:Shared}
theorem Inv.aez(I:Inv X pins σ H s)(a:Addr){l:List (Addr×Obj)}(hl:∀p∈l,s.heap.get? p.1=some p.2/\H p.1=none/\p.1≠X.env.locals/\p.1∉X.fs/\∀v,p.2.data≠.cell v):Inv (L2H.suiteX X a (l++(X.pn++pins))) [] σ H s :=
 L2H.suiteX_of (show Inv (X.suite a (l++(X.pn++pins))) [] σ H s from⟨I.ok.suite _ _,I.os,I.bare,I.base,I.loc,I.cell,I.free,I.freeC,λp hp=>by
  have E_:p∈l++(X.pn++pins):=by rw[ug]at hp;exact hp
  rcases mD.mp E_ with h|h
  .exact hl p h
  .exact I.pin p h,I.hok,I.len⟩)
theorem Bn{a:Addr}{l Uj:List (Addr×Obj)}(I:Inv (L2H.suiteX X a (l++(X.pn++pins))) Uj σ H s)(ok:X.Ok):Inv X pins σ H s:=by
 have J:Inv (X.suite a (l++(X.pn++pins))) Uj σ H s:=I.wish λ_ _=>False;exact⟨ok,J.os,J.bare,J.base,J.loc,J.cell,J.free,J.freeC,λp hp=>J.pin p (oZ _ (wU _ hp)),J.hok,J.len⟩
end
section
variable{X:Cx}{cs:List Value}{body suite:List Stmt}{yl:Stmt}{test:Expr}{pos pos':Pos}{tb:WX->TS}{ts:TS}{vD:WX}
theorem aeA(hs:X.stack=X.env::X.outer)(hf:X.env.frame=some X.env.locals)(hc:K0 X test cs)(Bo:∀hd:Option Value,PassesOwnAt (model X.prog X.w) (X.A.mark hd) X.A X.env X.xe)(tk:Z.Takes X vD)
  (hb:∀(W:WX) (pn:List (Addr×Obj)) (xe:Value->Shared->Prop),Z.Takes (X.tr pn xe) W->PassesOwn (model X.prog X.w) X.A X.env xe->PSs (X.tr pn xe) body (tb W))
  (Lv:∀(a:Addr) (pn:List (Addr×Obj)),Z.Takes (L2H.suiteX X a pn) vD->Z.Bm (L2H.suiteX X a pn)->PSs (L2H.suiteX X a pn) (yl::suite) ts) :
  PS X (.Try body [.ExceptHandler (some test) none (yl::suite) pos'] [] [] pos) (λD σ H=>tb (Ui X.K cs ts vD D) D σ H):=by
 refine⟨λpins s σ H D I h=>?_⟩;have ok:=I.ok;have gB:X.A.frames=some (X.env::X.outer):=by rw[ok.frames,hs]
 refine wpAny_Try_except ?_;refine wpAny_mono ((hb (Ui X.K cs ts vD D) (X.pn++pins) (λe s₁=>wpAny (model X.prog X.w) X.A (noteFrame e X.env) (λ_ s₂=>wpAny (model X.prog X.w) X.A (setFlight e none) (λ_ aeB =>
  wpAny (model X.prog X.w) X.A (handleBy e X.env [.ExceptHandler (some test) none (yl::suite) pos']) (SP X pins D) X.xe aeB) X.xe s₂) X.xe s₁) (λu s' xx=>?_) PassesOwn.looking).run [] s σ H D (I.toTry _) h) (λf s1 rh=>?_) (λe s1 he=>he)
 ·
  obtain⟨a,B,dq,aqu,bD,H',cls,d,rfl,nj,nb,up,qv,na,os,h8,b,fI,aeC,Bp⟩:=xx;have J:Inv X pins bD H' dq:=nj.ofTry ok;have aeD:Sky B (X.env::X.outer) a (Z.jx B H' cls d) X.env.locals s'.heap:=by rw[<-hs];exact qv
  show wpAny (model X.prog X.w) X.A (noteFrame (.ref a) X.env) _ _ _;refine L2N.Sky.land Z.jx.steady gB hf aeD λaI Lw Lx=>?_;have aeE:Inv X pins bD H' { s' with heap:=aI }:=J.landed nb Lw.1 (up.trans Lx) os h8;obtain⟨aqv,aqw,aeF,aeG,Bl⟩:=Lw.there;have aW:Inv (X.suite a (X.pn++pins)) [] bD H' { s' with heap:=aI }:=aeE.acJ a;refine wpAny_handleBy_cons (codeAny_handlers_test ?_) (by intro q;cases q);have LT:PySem.W.Looks (model X.prog X.w) aI (typeOf (.ref a)) cls:=λA Q E s k q=>wpAny_typeOf_ref (k _ _ aeF) (by rw[aeG.1];exact q);refine hc a (X.pn++pins) bD H' { s' with heap:=aI } cls b _ _ aW fI LT λc ym aeH aeI iR LM=>?_;have Ly:=acM iR Lw;have Uk:aI.UpToSlots ym.heap:=λb o e _=>⟨o.slots,iR b o e⟩
  have Ul:ym.os=dq.os:=aeH.trans os;have Um:AllBare ym.gens:=by rw[aeI];exact h8
  refine LM.here ?_;cases b with
  |true =>
   refine codeAny_handlers_suite ?_;refine HandSPX.lands_againZ Ly λbE Fu Lz=>?_;have aeJ:Inv X pins bD H' { ym with heap:=bE }:=J.landed nb Fu.1 (((up.trans Lx).trans Uk).trans Lz) Ul Um;obtain⟨LA,aeK,aqx,aeL,s8⟩:=Fu.there;have nofr:∀{b:Addr} {o:Obj} {vs:Array Value},bE.get? b=some o->o.data=.fields vs->b∉frs (X.env::X.outer):=λ{b o vs} e dd hm=>by
    obtain⟨_,e6,cW,I4⟩:=Fu.2.2.1.mem hm;grind
   have aqy:∀{b:Addr} {o:Obj} {vs:Array Value},bE.get? b=some o->o.data=.fields vs->b≠X.env.locals/\b∉X.fs:=λ{b o vs} e dd=>by
    have Bq:=nofr e dd;refine⟨λz=>Bq (y5.mpr ⟨X.env,uf,by rw[hf,z]⟩),λhm=>?_⟩;obtain⟨e2,he,q⟩:=y5.mp hm;exact Bq (y5.mpr ⟨e2,iZ _ he,q⟩)
   have aqz:∀{o:Obj} {vs:Array Value},o.data=.fields vs->∀v,o.data≠.cell v:=λ{o vs} e v z=>by grind
   obtain⟨qq,aeM,aeN⟩:=aeL.2.2 aeK s8;obtain⟨l,du,n_⟩:=Z.aet aeN;have aeO:∀p∈(a,LA)::l,({ ym with heap:=bE }:Shared).heap.get? p.1=some p.2/\H' p.1=none/\p.1≠X.env.locals/\p.1∉X.fs/\∀v,p.2.data≠.cell v:=λp hp=>by
    rcases g6.mp hp with rfl|hp
    .grind
    .obtain⟨bw,bz,vs,fD⟩:=n_ p hp
     have SE:bE.get? p.1=some p.2:=Fu.1 _ _ bw;grind
   have b5:=aeJ.aez a aeO;have q7:Z.Bm (L2H.suiteX X a (((a,LA)::l)++(X.pn++pins))):=⟨a,rfl,.cons (oZ _ uf) s8 aeM (du.mono λp hp=>oZ _ (iZ _ hp))⟩
   have aeP:Z.Takes (L2H.suiteX X a (((a,LA)::l)++(X.pn++pins))) vD:=λu2 s2 x2=>by
    obtain⟨a2,Rl,aeQ,aqA,iH,aH,Uo,qN,e2,I2,aeR,aeS,aeT,aeU,os2,aeV,cD⟩:=x2;exact tk u2 s2 ⟨a2,Rl,aeQ,pins,iH,aH,Uo,qN,e2,Bn I2 ok,aeR,aeS,aeT,aeU,os2,aeV,cD⟩
   refine wpAny_mono ((Lv a _ aeP q7).run [] _ _ H' _ b5 (aeC rfl)) (λf dC rh=>?_) (λLC dC z=>Bo (some (.ref a)) LC dC z);cases f with
   |next =>
    obtain⟨LD,hu,gE,vE⟩:=rh;exact⟨_,_,Bn gE ok,vE⟩
   |brk =>
    obtain⟨LD,hu,gE,vE⟩:=rh;exact⟨_,_,Bn gE ok,vE⟩
   |cont =>
    obtain⟨LD,hu,gE,vE⟩:=rh;exact⟨_,_,Bn gE ok,vE⟩
   |ret u =>
    obtain⟨v6,LD,hu,gE,aeW,vE⟩:=rh;exact⟨_,_,_,Bn gE ok,aeW,vE⟩
  |false =>
   show wpAny _ X.A (handleBy (.ref a) X.env []) _ _ _;refine wpAny_handleBy_nil ?_;obtain⟨c0,b6,aqB,eP,vs,T,Ta,aqC,he,hz,hd,h1,hr⟩:=id Ly;unfold PySem.passOn;refine wpAny_bind (wpAny_field he hd h1 ?_);rw[if_neg (show ¬((Value.ref T==Value.none)=true)from by simp)];have fin:wpAny (model X.prog X.w) X.A (setFlight (.ref a) X.env.frame) (λ_ s4=>wpAny (model X.prog X.w) X.A (throw (.ref a):Sem Flow) (SP X pins D) X.xe s4) X.xe ym:=by
    rw[hf];refine HandSPX.setFlight_upZ Ly λbE aqD Lz=>wpAny_throw (tk _ _ ?_);exact⟨a,B,dq,pins,bD,H',cls,d,rfl,J,nb,((up.trans Lx).trans Uk).trans Lz,.inr (.inr (by grind)),na,Ul,Um,Bp rfl⟩
   first
    |exact wpAny_bind (wpAny_pure (wpAny_bind fin))
    |exact wpAny_bind fin
 .cases f with
  |next =>
   obtain⟨bD,H',nj,q⟩:=rh;exact wpAny_execs_nil ⟨bD,H',nj.ofTry ok,q⟩
  |brk =>
   obtain⟨bD,H',nj,q⟩:=rh;exact⟨bD,H',nj.ofTry ok,q⟩
  |cont =>
   obtain⟨bD,H',nj,q⟩:=rh;exact⟨bD,H',nj.ofTry ok,q⟩
  |ret u =>
   obtain⟨v,bD,H',nj,r,q⟩:=rh;exact⟨v,bD,H',nj.ofTry ok,r,q⟩
end
end L2
namespace Z
open PySem PySem.Spec L2 PyProof.Rows
def yn(tab:List (Str×Bool))(fb fs:SX):SX:=λsl S=>match fb sl S with
 | .ex (.ins c ns ds) a' S1=>(match tab.lookup c with
  |some true=>fs a' S1
  |some false=>.ex (.ins c ns ds) a' S1
  |none=>.bad)
 |o=>o
theorem aeX{X:Cx}{W:WX}{cs:List Value}{tab:List (Str×Bool)}{body suite:List Stmt}{yl:Stmt}{test:Expr}{pos pos':Pos}{fb fs:SX}(hs:X.stack=X.env::X.outer)(hf:X.env.frame=some X.env.locals)(hc:K0 X test cs)(Bo:∀hd:Option Value,PassesOwnAt (model X.prog X.w) (X.A.mark hd) X.A X.env X.xe)(tk:Takes X W)(ht:E' X cs tab)
  (hb:∀(vF:WX) (pn:List (Addr×Obj)) (xe:Value->Shared->Prop),Takes (X.tr pn xe) vF->gu (X.tr pn xe) vF body fb)
  (Lv:∀(a:Addr) (pn:List (Addr×Obj)),Takes (L2H.suiteX X a pn) W->Bm (L2H.suiteX X a pn)->gu (L2H.suiteX X a pn) W (yl::suite) fs) :
  ES X W (.Try body [.ExceptHandler (some test) none (yl::suite) pos'] [] [] pos) (yn tab fb fs):=by
 refine PS.imp (aeA (tb:=λvF=>zN X.K X.mg vF fb) (ts:=zN X.K X.mg W fs) hs hf hc Bo tk (λvF pn xe gL _=>hb vF pn xe gL) Lv) λD σ H ⟨ρ,S,sl,w,rs,p⟩=>?_;refine⟨ρ,S,sl,w,rs,?_⟩;unfold yn at p;cases o:fb sl S with
 |nx a' S1=>rw[o]at p;exact p
 |bk a' S1=>rw[o]at p;exact p
 |ct a' S1=>rw[o]at p;exact p
 |rt d S1=>rw[o]at p;exact p
 |bad=>rw[o]at p;exact p.elim
 |ex e a' S1 =>
  rw[o]at p;intro C dd iF aB H1 x1 aE px r1;obtain⟨c,ns,ds,ux,k1,pL,rfl,hm,rfl,rfl,nd,hd,hn,cB⟩:=r1;dsimp only at p;cases q:tab.lookup c with
  |none=>rw[q]at p;exact p.elim
  |some b =>
   refine⟨b,ht c b q ux hm,λaeY=>?_,λaeZ=>?_⟩
   .subst aeY
    rw[q]at p;exact⟨aB,S1,a',aE,px,bL.from x1 p⟩
   .subst aeZ
    rw[q]at p;exact p _ _ iF aB H1 x1 aE px ⟨c,ns,ds,ux,k1,pL,rfl,hm,rfl,rfl,nd,hd,hn,cB⟩
section
variable{X:Cx}{W:WX}{k:Nat}{C:Addr}{x tag:Str}{bR:List Str}{p pos:Pos}{e:Expr}{es:List Expr}{fa:cO}{pins:List (Addr×Obj)}{σ:L2.St}{H:Hp}{s:Shared}
theorem ae0{c:Str}{us:List Value}{vs:List V}{Q:Value->Shared->Prop}(M:jY X.prog X.w X.K X.mg X.base c C k tag bR)(hr:L2H.RoomH (k+1) X.A)(I:Inv X pins σ H s)(r:Vals vs us)(hl:vs.length=bR.length)(hz:bR.length<=100)
  (h:∀a d h' gL t' m,(∀b o,s.heap.get? b=some o->h'.get? b=some o)->s.heap.objs.size<=a->s.heap.objs.size<=d->a≠d->h'.get? a=some (ZX.exd C t' (some d))->h'.Ns1 d m->(∀g,RelO ((jC tag bR vs).lookup g) (m g))->Q (.ref a) { s with heap:=h',toks:=gL }) :
  wpAny (model X.prog X.w) X.A (call (.ref C) us) Q X.xe s:=by
 obtain⟨B,newId,KQ,gK,AZ,FB,q,KR,KS,F⟩:=M.ex I.ok.mod;obtain⟨nm,SN,hW,bs,bm,SQ,sn,sub,ab,col,dd,oa,c0,b6,iR,E4,g_,eG⟩:=PySem.W.excInit_of I.kIn q;obtain⟨hp,g,sQ,tk,os⟩:=s;have KU:us.length=bR.length:=by rw[<-r.length];exact hl
 have kk:∀b o,hp.get? b=some o->((hp.push (PySem.W.kdv_tup us)).push (PySem.HandSPX.excO C hp.objs.size)).get? b=some o:=λb o e=>Heap.get?_push_of_some _ (Heap.get?_push_of_some _ e);have m7:((hp.push (PySem.W.kdv_tup us)).push (PySem.HandSPX.excO C hp.objs.size)).get? (hp.objs.size+1)=some (PySem.HandSPX.excO C hp.objs.size):=by heap_get
 have e7:hp.objs.size+1+1=((hp.push (PySem.W.kdv_tup us)).push (PySem.HandSPX.excO C hp.objs.size)).objs.size:=by rw[Heap.size_push,Heap.size_push]
 have KW:X.base.get? (hp.objs.size+1)=none:=by
  cases e:X.base.get? (hp.objs.size+1)with
  |none=>rfl
  |some o=>exact absurd (Heap.lt_size (I.bk _ _ e)) (Nat.not_lt.mpr (Nat.le_succ _))
 have dep:=(L2H.RoomH.make hr C us []).dp;refine wpAny_call (PySem.HandSPX.call_own FB eG g_ (PySem.W.looks_findIn I.kIn KR) (λself=>PySem.W.bind_fn I.kIn self KS) (by rw[KU,sizeLine_eq];omega) ?_);refine F _ _ (hp.objs.size+1) hp.objs.size us vs _ _ (by omega) (λb o e=>kk b o (I.bk b o e)) KW m7 r (if_pos hl) λh' gL t' bx m pF AW hx hn rel=>?_;refine⟨rfl,?_⟩;have KY:∀b o,hp.get? b=some o->h'.get? b=some o:=λb o e=>pF b o (hZ (oY (Heap.lt_size e) (qe _))) (kk b o e);grind
theorem ae1{c:Str}{us:List Value}{vs:List V}{Q:XK}(M:jY X.prog X.w X.K X.mg X.base c C k tag bR)(hr:L2H.RoomH (k+1) X.A)(I:Inv X pins σ H s)(r:Vals vs us)(hl:vs.length=bR.length)(hz:bR.length<=100)
  (h:∀d,H d=none->Q (.ref C) (some d) (upd H d (.xd (jC tag bR vs)))) :
  wpAny (model X.prog X.w) X.A (call (.ref C) us) (λu s'=>L2N.MkP X pins σ Q u s'/\L2H.Six u s') X.xe s:=by
 refine ae0 M hr I r hl hz λa d h' gL t' m KY ha hd ne hx hn rel=>?_;have A0:H a=none:=I.hok.fresh ha;have xX:H d=none:=I.hok.fresh hd;obtain⟨G,g1,g2⟩:=restrict h' λb=>decide (b≠a);have A1:∀b,b≠a->G.get? b=h'.get? b:=λb hb=>g1 b (decide_eq_true hb);have ge:G.get? a=none:=g2 a (by simp);have KZ:∀b o,s.heap.get? b=some o->G.get? b=some o:=λb o e=>by rw[A1 b (hZ (jr (Heap.lt_size e) ha))];grind
 have bp:∀b o,G.get? b=some o->h'.get? b=some o:=λb o e=>by
  grind
 have J:Inv X pins σ (upd H d (.xd (jC tag bR vs))) { s with heap:=G,toks:=gL }:=I.laid (t':=gL) KZ hd ⟨m,hn.at λo y=>(A1 d (jq ne)).trans y,rel⟩;refine⟨⟨a,_,_,{ s with heap:=G,toks:=gL },_,.ref C,some d,rfl,J,bp,ge,hx,⟨rfl,rfl,λvs e=>by cases e;rfl⟩,rfl,rfl,by rw[upd_ne ne];exact A0,rfl,J.bare,raises_own M.exC M.tyC,h d xX⟩,λhU eP ws ea hg qL=>?_⟩;cases ea;have hg:h'.get? a=some eP:=hg;rw[hx]at hg;cases hg;cases qL;simp
theorem ae2(tk:Takes X W)(q7:Bm X)(M:jY X.prog X.w X.K X.mg X.base x C k tag bR)(hr:L2H.RoomH (k+1) X.A)(hz:bR.length<=100)(ha:gq X W (e::es) fa){pr mS:Pos}{j:Nat}(hg:Gl X x:=by rfl)
  (g9:(x==("__debug__":Str))=false:=by decide) (he:starEach (e::es) X.env=(false,eval e X.env)::starEach es X.env:=by rfl) (eQ:(backTo pos (starEach es X.env)).any (·.1)=false:=by rfl) :
  ES X W (.Raise (some (.Call (.Name x p) (e::es) [] pos)) (some (.Constant .none j mS)) pr) (ec (aw (dU x tag bR) fa)):=by
 refine PS.imp (aew q7 tk (t:=λσ H Q=>r7 X.K X.mg W fa σ H λvs H1=>vs.length=bR.length/\∀d,H1 d=none->Q (.ref C) (some d) (upd H1 d (.xd (jC tag bR vs)))) ?_) λdY σ H ⟨ρ,S,sl,w,rs,p⟩=>?_
 .intro pins s σ H Q I h
  refine wpAny_Call_Name_kw (ld_glob I hg M.hm ?_ g9);refine rW (h₀:=X.base) I.ok.mod.kin M.keep (thn (ha.run pos pins s σ H _ I h) λus s1 ⟨vs,H1,I1,r,hl,q⟩=>⟨I1.kIn,?_⟩) he eQ;exact ae1 M hr I1 r hl hz q
 .refine⟨ρ,S,sl,w,rs,?_⟩
  unfold ec aw at p;cases o:fa sl S with
  |ok ds S1 =>
   intro vs aB H1 x1 aE r1;have p:bL X.K X.mg W ρ H dY (match dU x tag bR ds S1 with|.ok (.exc c ns ds) ak=>.ex (.ins c ns ds) sl ak|.ok _ _=>.bad|.ex e ak=>.ex e sl ak|.bad=>.bad):=by
    rw[o]at p;exact p
   unfold dU at p;by_cases hl:ds.length=bR.length
   .rw[if_pos hl]at p
    exact⟨by rw[<-r1.len];exact hl,λd hd=>S' M.hm aE (rs.ext x1) r1 hl hd (bL.from x1 p)⟩
   .rw[if_neg hl]at p
    exact p.elim
  |ex e S1 =>
   have p:bL X.K X.mg W ρ H dY (.ex e sl S1):=by rw[o]at p;exact p
   exact λC dd aB H1 x1 aE r1=>p C dd σ aB H1 x1 aE (rs.ext x1) r1
  |bad=>rw[o]at p;exact p.elim
end
def vG:aD:=λds S=>match ds with
 |[.str a]=>(match PySem.intText? a with
  |some n=>if a.length<=640 then .ok (.int n) S else .bad
  |none=>.bad)
 |_=>.bad
theorem ae3{X:Cx}:hN X (.type "int") vG:=by
 refine⟨_,call_int_str,λWp ρ H S ds xs Q w r p=>?_⟩;unfold vG at p;split at p
 .rename_i a
  obtain⟨v,e,h1⟩:=kh r;rw[eV h1]at e;split at p
  .rename_i n en
   split at p
   .rename_i hl
    exact⟨a,n,e,en,hl,cj p w h9⟩
   .exact p.elim
  .exact p.elim
 .exact p.elim
def oJ:aD:=nX i9 vG
theorem Uq{X:Cx}:hN X (.type "int") oJ:=qC.or ae3
def iS(l:List Nat):Nat:=l.foldl (λa c=>a * 10+(c - 48)) 0
section
variable{S:Store}{l:List Nat}
theorem Ur(h:∀c∈l,48<=c/\c<=57)(dA:l≠[])(hl:l.length<=640):oJ [.str (ao l)] S=.ok (.int (iS l)) S:=by
 have e:PySem.intText? (ao l)=some ((iS l:Nat):Int):=PySem.intText_digits (x:=ao l) (λc hc=>h c (by omega)) (by omega) (by rw[m4];omega);have:vG [.str (ao l)] S=.ok (.int (iS l)) S:=by
  unfold vG;simp only[e,m4];rw[if_pos hl]
 unfold oJ nX;rw[this];rfl
theorem ae4(h:∀c∈l,48<=c/\c<=57)(dA:l≠[])(hl:l.length<=600):oJ [.str (ao (45::l))] S=.ok (.int (-(iS l:Int))) S:=by
 have e:PySem.intText? (ao (45::l))=some (-((iS l:Nat):Int)):=PySem.intText_neg (x:=ao (45::l)) (cs:=l) (by simp[ao]) (λc hc=>h c hc) dA (by rw[m4,List.length_cons];omega);have:vG [.str (ao (45::l))] S=.ok (.int (-(iS l:Int))) S:=by
  unfold vG;simp only[e,m4,List.length_cons];rw[if_pos (by omega)]
 unfold oJ nX;rw[this];rfl
end
structure Fv(K:PySem.W.Frag)(C p g:Addr)(m:Str):Prop where
 at_:PySem.W.findCls K (.ref C) (.type "type") m=some (.get (.builtin "staticmethod.__get__") (.ref p) .none (.ref C))
 rc:∃rest,PySem.W.recIn K p "staticmethod"=some (.ref g::rest)
 rd:PySem.W.readsIn K C (.type "type")=true
 ga:PySem.W.specialIn K (.ref C) "__getattribute__"=some (some (.builtin "type.__getattribute__"))
 kp:PySem.W.keepIn K (.ref g)=true
theorem ae5{K:PySem.W.Frag}{C p g:Addr}{m:Str}(h:H5 K C p g m=true):Fv K C p g m:=by
 unfold H5 at h;rw[Bool.and_eq_true,Bool.and_eq_true,Bool.and_eq_true,Bool.and_eq_true]at h;obtain⟨h1,h2,aI,bE,cw⟩:=h;refine⟨?_,?_,aI,of_decide_eq_true bE,cw⟩
 .grind
 grind
section
variable{X:Cx}{W:WX}{k:Nat}{C p g:Addr}{sem:aD}{c m:Str}{p1 apos pos:Pos}{e:Expr}{es:List Expr}{fa:cO}{pl:Sem Bool}
theorem ae6{pins:List (Addr×Obj)}{σ:L2.St}{H:Hp}{s:Shared}{A:Around}{E:Value->Shared->Prop}{Q:Value×List Value->Shared->Prop}(I:Inv X pins σ H s)(M:Fv X.K C p g m)(h:Q (.ref g,[]) { s with toks:=s.toks+1 }) :
  wpAny (model X.prog X.w) A (getMethod (.ref C) m pl) Q E s:=by
 obtain⟨rest,hp⟩:=M.rc;refine PySem.W.method_cls I.kIn M.ga (PySem.W.cls_bind I.kIn M.rd M.at_ ?_);exact wpAny_call (PySem.W.sm_get (s:={ s with toks:=s.toks+1 }) I.kIn hp (PySem.W.handed_on rfl h))
theorem ae7(tk:Takes X W)(F:a5 X.prog X.w X.K X.mg X.base k g sem)(hr:Room k X.A)(hm:X.mg c=some (.ref C))(M:Fv X.K C p g m)(ha:gq X W (e::es) fa)(hg:Gl X c:=by rfl)(g9:(c==("__debug__":Str))=false:=by decide)
  (he:starEach (e::es) X.env=(false,eval e X.env)::starEach es X.env:=by rfl) (eQ:(backTo pos (starEach es X.env)).any (·.1)=false:=by rfl)
  (ht:eval (.Call (.Attribute (.Name c p1) m apos) (e::es) [] pos) X.env=(do
   let fC <-eval (.Name c p1) X.env
   standAt apos.atName
   let (f,first) <-holding [fC] (getMethod fC m pl)
   callWith pos f first (backTo pos (starEach (e::es) X.env)) (backToKw pos (keywordEach [] X.env))):=by rfl) :
  E X W (.Call (.Attribute (.Name c p1) m apos) (e::es) [] pos) (aw sem fa):=by
 refine⟨λpins s σ H Q I h=>?_⟩;refine HJ (pl:=pl) (ld_glob I hg hm ?_ g9) ht;refine ae6 I M ?_;have Br:=I.tok (s.toks+1);have h':=sd (k:=λvs H1=>Ah X.K X.mg sem vs H1 Q (WE W σ)) h λρ S H1 ds vs w r p=>⟨ρ,S,ds,w,r,p⟩
 refine rW (h₀:=X.base) (first:=[]) I.ok.mod.kin M.kp (thn (ha.run pos pins _ σ H _ Br h') λus s1 ⟨vs,H1,I1,r,q⟩=>⟨I1.kIn,?_⟩) he eQ;exact Er F hr (si tk σ) I1 r q
end
def PB(w:World)(S:Store):D->Option (List D×List D)
 | .dX cn ks vs=>open Classical in if cn=w then some (ks,vs)else none
 | .ptr n=>match S[n]? with
  |some (.dX cn ks vs)=>open Classical in if cn=w then some (ks,vs)else none
  |_=>none
 |_=>none
open PySem PySem.Spec L2 ZM
section
variable{S:Store}
theorem Fw{sl:aL}{f:aM}{k:Nat}(h:f sl S=.ok (.int k) S)(hk:k<2 ^ 60):mW (ag f ai) sl S=.ok (jQ 0 k,λ_=>True) S:=by
 have h2:(2:Int) ^ 62=4611686018427387904:=by decide
 have aI:(2:Nat) ^ 60=1152921504606846976:=by decide
 have:=Kn h (by omega) (by omega);grind
end
section
def dv(xs:yj):List D:=xs.map λa=>.int a.2
end
open PySem PySem.Spec L2
mutual
def lq:D->PyData
 | .non=>.none
 | .bl b=>.bool b
 | .int i=>.int i
 | .str s=>.str s
 | .lst xs=>.list (pM xs)
 | .tup xs=>.tuple (pM xs)
 | .bS xs=>.tuple (pM xs)
 |_=>.none
def pM:List D->List PyData
 |[]=>[]
 |d::ds=>lq d::pM ds
end
mutual
theorem LI:∀(k:Nat) (d:D),plain k d->dt d=some (lq d)/\(lq d).canLay0=true/\(lq d).depth<=k
 |k,.non,_=>⟨rfl,rfl,hJ _⟩
 |k,.bl b,_=>⟨rfl,rfl,hJ _⟩
 |k,.int i,_=>⟨rfl,rfl,hJ _⟩
 |k,.str s,h=>by
  have h:jU s.cps.toList:=by cases k<;>simpa[plain]using h
  refine⟨rfl,?_,hJ _⟩;show PyData.strOk s=true;generalize hl:s.cps.toList=l at h;have e:s=ao l:=by rw[<-hl,Ar]
  subst e;unfold PyData.strOk;simp;exact h
 |0,.tup xs,h=>by simp[plain]at h
 |0,.bS xs,h=>by simp[plain]at h
 |0,.lst xs,h=>by simp[plain]at h
 |k+1,.tup xs,h=>by
  rw[plain]at h;obtain⟨h1,h2,aI⟩:=Fx k xs h.1;refine⟨by rw[dt,h1];rfl,?_,?_⟩
  .rw[lq,PyData.canLay0];exact h2
  .rw[lq,PyData.depth];omega
 |k+1,.bS xs,h=>by
  rw[plain]at h;obtain⟨h1,h2,aI⟩:=Fx k xs h.1;refine⟨by rw[dt,h1];rfl,?_,?_⟩
  .rw[lq,PyData.canLay0];exact h2
  .rw[lq,PyData.depth];omega
 |k+1,.lst xs,h=>by
  rw[plain]at h;obtain⟨h1,h2,aI⟩:=Fx k xs h.1;refine⟨by rw[dt,h1];rfl,?_,?_⟩
  .rw[lq,PyData.canLay0];exact h2
  .rw[lq,PyData.depth];omega
 |k,.ty _,h=>by cases k<;>simp[plain]at h
 |k,.cls _,h=>by cases k<;>simp[plain]at h
 |k,.dct _ _,h=>by cases k<;>simp[plain]at h
 |k,.ins _ _ _,h=>by cases k<;>simp[plain]at h
 |k,.ptr _,h=>by cases k<;>simp[plain]at h
 |k,.cy _,h=>by cases k<;>simp[plain]at h
 |k,.exc _ _ _,h=>by cases k<;>simp[plain]at h
 |k,.lam _ _,h=>by cases k<;>simp[plain]at h
 |k,.h4 _ _,h=>by cases k<;>simp[plain]at h
theorem Fx:∀(k:Nat) (ds:List D),lX k ds->gT ds=some (pM ds)/\PyData.canLayAll0 (pM ds)=true/\PyData.depthAll (pM ds)<=k
 |k,[],_=>⟨rfl,rfl,hJ _⟩
 |k,d::ds,h=>by
  rw[lX]at h;obtain⟨a1,a2,a3⟩:=LI k d h.1;obtain⟨b1,de,yo⟩:=Fx k ds h.2;refine⟨by rw[gT,a1,b1,pM],?_,?_⟩
  .rw[pM,PyData.canLayAll0,a2,de];rfl
  .rw[pM,PyData.depthAll];omega
end
theorem Us{k:Nat}{d:D}(h:plain k d)(hk:k<=60):SeqAt.shaped (lq d)=true:=by
 obtain⟨_,h2,aI⟩:=LI k d h;unfold SeqAt.shaped;grind
theorem Ut{k:Nat}{d:D}{S:Store}(h:plain k d):toP S d=some (lq d):=by
 have:=(LI k d h).1;cases d with
 |ptr n=>cases k<;>simp[plain]at h
 |_=>exact this
def eqv(d e:D):Bool:=PyData.eqv (lq d) (lq e)
theorem ae8{j k:Nat}{d e:D}{S:Store}{neg:Bool}(h:plain j d)(h2:plain k e)(cm:j<=60)(hk:k<=60):aU neg d e S=.ok (.bl (if neg=true then !eqv d e else eqv d e)) S:=by
 simp only[aU,Ut h,Ut h2];rw[if_pos ⟨Us h cm,Us h2 hk⟩];rfl
mutual
def sm:D->D->Bool
 | .tup xs,.tup ys=>yp xs ys
 | .tup xs,.bS ys=>yp xs ys
 | .bS xs,.tup ys=>yp xs ys
 | .bS xs,.bS ys=>yp xs ys
 | .lst xs,.lst ys=>yp xs ys
 | .non,.non=>true
 | .bl a,.bl b=>decide (a=b)
 | .int a,.int b=>decide (a=b)
 | .str a,.str b=>decide (a=b)
 |_,_=>false
def yp:List D->List D->Bool
 |[],[]=>true
 |x::xs,y::ys=>sm x y&&yp xs ys
 |_,_=>false
end
open PySem PySem.Spec L2 ZM
section
variable{n:Nat}
theorem ae9{α:Type}[BEq α][LawfulBEq α](l:List α):(List.range l.length).filterMap (λk=>match l[k]? with|some a=>if a∈l.take k then none else some a|none=>none)=l.eraseDups:=by
 have:∀(m r:List α),l=m++r->(List.range m.length).filterMap (λk=>match l[k]? with|some a=>if a∈l.take k then none else some a|none=>none)=m.eraseDups:=λm=>by
  induction hn:m.length generalizing m with
  |zero=>intro r _;have:m=[]:=List.eq_nil_of_length_eq_zero hn;subst this;simp
  |succ n ih =>
   intro r h;have dA:m≠[]:=λe=>by subst e;simp at hn
   obtain⟨eU,a,rfl⟩:∃eU a,m=eU++[a]:=⟨m.dropLast,m.getLast dA,(List.dropLast_concat_getLast dA).symm⟩
   have jy:eU.length=n:=by simpa using hn
   have ih:=ih eU jy ([a]++r) (by rw[h];simp);rw[List.range_succ,List.filterMap_append,ih,List.eraseDups_append];congr 1;have au:l[n]?=some a:=by rw[h,<-jy];simp
   have e2:l.take n=eU:=by rw[h,<-jy];simp
   simp only[rX,List.filterMap_nil,au,e2];by_cases hm:a∈eU
   .rw[if_pos hm]
    simp[List.removeAll,hm]
   .rw[if_neg hm]
    have bj:List.removeAll [a] eU=[a]:=by simp[List.removeAll,hm]
    rw[bj,List.eraseDups_cons];simp
 simpa using this l [] (by simp)
end
open PySem PySem.Spec L2 ZM
section
variable{S:Store}{sl:aL}{G:Store->Prop}{g:dz}{bt:cz}{fe:aM}{it:gQ}{own:List Nat}{xs:List D}
theorem afa(p:D->Bool)(bY:D->D)(hit:it sl S=.ok (xs,G) S)(hl:xs.length<=1000000)(bp:∀acc,G (S++[.lst acc]))
  (step:∀x∈xs,∀acc,∃a',g x (cE sl own) (S++[.lst acc])=.nx a' (S++[.lst acc])/\bt a' (S++[.lst acc])=.ok (p x) (S++[.lst acc])/\(p x=true->fe a' (S++[.lst acc])=.ok (bY x) (S++[.lst acc]))) :
  cK it g bt fe own sl S=.ok (.ptr S.length) (S++[.lst ((xs.filter p).map bY)]):=by
 refine bO (Sh p bY hit hl bp (λx hx acc=>?_) ⟨rfl,rfl⟩);obtain⟨a',au,e2,bj⟩:=step x hx acc;simp_all
theorem Uu{f:aM}{acc:List D}(h:f sl S=.ok (.ptr S.length) (S++[.lst acc]))(aT:bC S.length acc=true):c' f sl S=.ok (.lst acc) S:=by
 refine bO ?_;rw[xO,h,bh];exact Kh (fG.refl S) aT (by simp)
theorem afb(p:D->Bool)(bY:D->D)(hit:it sl S=.ok (xs,G) S)(hl:xs.length<=1000000)(bp:∀acc,G (S++[.lst acc]))
  (step:∀x∈xs,∀acc,∃a',g x (cE sl own) (S++[.lst acc])=.nx a' (S++[.lst acc])/\bt a' (S++[.lst acc])=.ok (p x) (S++[.lst acc])/\(p x=true->fe a' (S++[.lst acc])=.ok (bY x) (S++[.lst acc])))
  (aT:∀x∈xs,p x=true->bg S.length (bY x)=true):c' (cK it g bt fe own) sl S=.ok (.lst ((xs.filter p).map bY)) S:=by
 refine Uu (afa p bY hit hl bp step) ?_;rw[ku];grind
end
section
def jD(x y:oH)(ks:List Int):yj:=ks.map λp=>(p,pK x y p)
theorem afc{x y:oH}{ks:List Int}{p q:Int}:((p,pK x y p)∈jD x y ks)↔p∈ks:=by
 unfold jD;grind
theorem Uv{α β:Type}{f g:α->Option β}:∀{l:List α},(∀x∈l,f x=g x)->l.filterMap f=l.filterMap g
 |[],_=>rfl
 |a::l,h=>by
  rw[rX,rX,h a (by simp),Uv λx hx=>h x (by simp[hx])]
theorem LJ(x y:oH)(ks:List Int):((jQ 0 (jD x y ks).length).filter (λd=>match d with|.int k=>decide (((jD x y ks).getD k.toNat (0,0)).2≠0) && !decide ((jD x y ks).getD k.toNat (0,0)∈(jD x y ks).take k.toNat)|_=>false)).map (λd=>match d with|.int k=>Ln ((jD x y ks).getD k.toNat (0,0))|d=>d)
  = ((ks.eraseDups.filter λp=>decide (pK x y p≠0)).map λp=>(p,pK x y p)).map Ln:=by
 have h0:(jD x y ks).length=ks.length:=by simp[jD]
 have h1:∀(k:Nat) (a:Int),ks[k]?=some a->(jD x y ks).getD k (0,0)=(a,pK x y a):=λk a h=>by simp[jD,List.getD,h]
 have h2:∀(k:Nat) (p:Int),((p,pK x y p)∈(jD x y ks).take k)↔p∈ks.take k:=λk p=>by
  have:(jD x y ks).take k=jD x y (ks.take k):=by simp[jD]
  rw[this];exact afc (q:=0)
 have aI:=ae9 ks;rw[<-aI,List.filter_filterMap,List.map_filterMap,List.map_filterMap];unfold jQ;rw[h0,List.filter_map,mG,<-List.filterMap_eq_map,<-List.filterMap_eq_filter,List.filterMap_filterMap];refine Uv λk hk=>?_;have hk:=List.mem_range.mp hk;obtain⟨a,e⟩:∃a,ks[k]?=some a:=⟨_,iz hk⟩
 have cG:((0:Int)+(k:Int)).toNat=k:=by omega
 have g1:=h1 k a e;have h2:=h2 k a;have LK:(jD x y ks)[k]?.getD (0,0)=(a,pK x y a):=by rw[<-g1];exact(List.getD_eq_getElem?_getD ..).symm
 simp only[Function.comp,cG,g1,e];by_cases hm:a∈ks.take k
 .have:=h2.mpr hm
  simp[hm,this,Option.guard,LK]
 .have:¬(a,pK x y a)∈(jD x y ks).take k:=λq=>hm (h2.mp q)
  by_cases hz:pK x y a=0
  .simp[hm,this,hz,Option.guard,Option.filter,LK]
  .simp[hm,this,hz,Option.guard,Option.filter,LK]
end
section
theorem Uw{α:Type}{f:α->D}{Q:α->Prop}:∀{ys:List D},(∀y∈ys,∃c,y=f c/\Q c)->∃l:List α,ys=l.map f/\∀c∈l,Q c
 |[],_=>⟨[],rfl,by simp⟩
 |y::ys,h=>by
  obtain⟨t,e,ht⟩:=h y (by simp);obtain⟨ts,e2,h2⟩:=Uw (ys:=ys) λy a6=>h y (by simp[a6]);exact⟨t::ts,by grind,λt' aqE=>by
   grind⟩
end
theorem afd:∀(k:Nat) (d:D),plain k d->plain (k+1) d:=λk=>by
 induction k with
 |zero=>intro d h;cases d<;>first|(simp[plain]at h;done)|(simp[plain];done)|(simp[plain]at h ⊢;exact h)
 |succ k ih =>
  have afe:∀xs,lX k xs->lX (k+1) xs:=λxs h=>vi.mpr λx hx=>ih x (vi.mp h x hx);intro d h;cases d<;>first|(simp[plain]at h;done)|(simp[plain];done)|(rw[plain]at h ⊢;exact⟨afe _ h.1,h.2⟩)|(simp[plain]at h ⊢;exact h)
theorem aff{j k:Nat}(h:j<=k){d:D}(hd:plain j d):plain k d:=by
 induction k with
 |zero=>grind
 |succ k ih =>
  by_cases e:j=k+1
  .grind
  .exact afd _ _ (ih (by omega))
section
variable{S S1 S2:Store}{sl:aL}{f f1 f2:aM}{fs:cO}{d e r:D}{ds:List D}{Q:iQ}
theorem a0{i:Nat}(h:sl[i]?=some (some d)):ae i sl S=.ok d S:=Si h
theorem b0:ai sl S=.ok [] S:=rfl
theorem bJ(h:f sl S=.ok d S1)(h2:fs sl S1=.ok ds S2):ag f fs sl S=.ok (d::ds) S2:=by simp only[ag,h,h2,ov]
theorem d5{sem:aD}(h:fs sl S=.ok ds S1)(h2:sem ds S1=.ok r S2):aw sem fs sl S=.ok r S2:=by simp only[aw,h,ov];exact h2
theorem d6{sem:bZ}(h:f1 sl S=.ok d S)(h2:f2 sl S=.ok e S1)(aI:sem d e S1=.ok r S2):az sem f1 f2 sl S=.ok r S2:=by simp only[az,h,h2,ov];exact aI
theorem Fy(h:fs sl S=.ok ds S)(hl:ds.length<=1000000):aw fL fs sl S=.ok (.lst ds) S:=d5 h (by unfold fL;grind)
theorem ri(h:fs sl S=.ok ds S)(hl:ds.length<=1000000):aw b2 fs sl S=.ok (.tup ds) S:=d5 h (by unfold b2;grind)
theorem Ux{r:SX}(h:f sl S=.ok (.bl true) S)(hq:Q.nx sl S):aV (bG (dO (aK f)) r bI sl S) Q:=by
 simp_all
theorem pN{i:Nat}(h:f sl S=.ok d S)(hq:Q.nx (sl.set i (some d)) S):aV (bX f (aX i) sl S) Q:=by
 simp_all
theorem afg{xs:List D}{k:Nat}(h:∀x∈xs,plain k x)(hk:k<=10)(hl:xs.length<=1000):xQ [.lst xs,.lst xs] S=.ok (.bl true) S:=by
 refine Fn ?_;rw[plain];exact⟨vi.mpr λx hx=>aff hk (h x hx),by omega⟩
end
def vH:SX :=
 (bq (aw x9 (ag (aw jV (ag (ae 0) (ag (aw fL (ag (ah (.int 1)) (ag (ah (.int 1)) (ag (ah (.int 1)) (ag (ah (.int 2)) (ag (az mQ (ah (.int 0)) (ah (.int 1))) (ag (az mQ (aw ig (ag (ae 0) (ag (ah (.int 9)) ai))) (ah (.int 4))) ai))))))) ai))) (ag (aw jV (ag (ae 0) (ag (aw fL (ag (ah (.int 1)) (ag (ah (.int 1)) (ag (ah (.int 1)) (ag (ah (.int 2)) (ag (ah (.int 3)) ai)))))) ai))) ai))))
def Bs:aD:=cS 1 (bN 1 vH)
def Uy:SX :=
 (bq (aw dS (ag (ae 0) (ag (aw b2 (ag (ah (.ty "list")) (ag (ah (.ty "tuple")) ai))) ai))))
def Fz:aD:=cS 1 (bN 1 Uy)
end Z
noncomputable section
namespace ZK
open PySem PySem.Spec PySem.W PySem.Calls PyProof.Rows L2 He He5
theorem FA{Uz:Type}{o:Option SharedT}{f:SharedT->Bool}{h:SharedT->Uz}{v:Uz}{n:um}{FC FD:List DefA}{fs:List dW}{dE:List Defn}{ex:Frag->Bool}
  (h1:o.map (λs=>(f s,h s,Dr FC (iA n (HandSHeadRun.getT s))))=some (true,v,(true,FC.map DefA.val)))
  (h2:o.map (λs=>H6 FD fs (iA n (HandSHeadRun.getT s)))=some ((true,FD.map DefA.val),fs.map dW.val))
  (aI:o.map (λs=>H7 dE ex (HandSHeadRun.getT s) (iA n (HandSHeadRun.getT s)))=some true) :
  o.map (λs=>(f s,h s,obsZ n (FC++FD) fs dE ex (HandSHeadRun.getT s)))=some (true,v,yh (FC++FD) fs):=by
 cases o with
 |none=>simp at h1
 |some s =>
  simp only[rY,Option.some.injEq,Prod.mk.injEq,Dr,H6,H7]at h1 h2 aI;obtain⟨a1,a2,a3,rj⟩:=h1;obtain⟨⟨b1,de⟩,yo⟩:=h2;simp only[rY,obsZ,Ua,yh,List.all_append,List.map_append];grind
end ZK
end
namespace Z
open PySem PySem.Spec L2
abbrev dj(K:PySem.W.Frag)(n q:Str)(s:Stmt)(a:Addr)(fd:FuncData):Prop:=FunD K n q (defArgs s) (defBody s) (defScope s) [] [] a fd
end Z
namespace ZK
def LL(R:Prop):List lI->Prop
 |[]=>R
 |x::l=>x.p->LL R l
def UA(R:Prop):List (List lI)->Prop
 |[]=>R
 |x::l=>LL (UA R l) x
theorem UC{R:Prop}:∀{l:List lI},y8 l=true->LL R l->R
 |[],_,r=>r
 |x::l,h,r=>by
  have h:(@decide x.p x.d&&y8 l)=true:=h;rw[Bool.and_eq_true]at h;exact UC h.2 (r (@of_decide_eq_true _ x.d h.1))
theorem UD{R:Prop}:∀{l:List (List lI)},Ds l=true->UA R l->R
 |[],_,r=>r
 |x::l,h,r=>by
  have h:(y8 x&&Ds l)=true:=h;rw[Bool.and_eq_true]at h;exact UD h.2 (UC h.1 r)
end ZK
namespace GQ
open PySem PySem.SeqAt
open AutoSeq1 (wpAny_loadPart')
open MeetsSeq MeetsSeq2 MeetsSeq3 SeqRoads2
section
variable{prog:Program}{w:World}{A:Around}{R:Result->Shared->Prop}
theorem afh(l b:Addr)(N:Nat)(I:Nat->Shared->Prop)(hl:ListI prog w A (λe s'=>R (.error e) s') l b N I)
  (fin:∀s,I N s->R (.ok (.ret (.bool false))) s) (k:Nat) :
  ∀i:Nat,N - i=k->i<=N->∀s,I i s ->
   wpAny (model prog w) A.in1 (Builtin.«list.__eq__.loop» ⟨[.ref l,.ref b,rawInt i,rawInt 3],[]⟩) (FinOf prog w A R) (λe s'=>R (.error e) s') s:=by
 induction k with
 |zero =>
  intro i hk hi s h;obtain⟨items,rk,n,n2,du,fI,rl,rm,_⟩:=hl _ _ h;have vI:i=N:=by omega
  have d4:R (.ok (.ret (.bool false))) s:=fin s (vI▸h);obtain⟨hp,g,d,tk,os⟩:=s
  wp_walk using wpAny_loadPart' du,wpAny_loadPart' fI
  have vJ:items[((i:Nat):Int).toNat]?=none:=by simp;omega
  have vK:rk[((i:Nat):Int).toNat]?=none:=by simp;omega
  rw[vJ,vK]
  wp_walk using wpAny_loadPart' du,wpAny_loadPart' fI
  show R (.ok (.ret (.bool (items.size != rk.size)))) _;grind
 |succ k ih =>
  intro i hk hi s h;obtain⟨items,rk,n,n2,du,fI,rl,rm,turn⟩:=hl _ _ h;have c7:i<items.size:=by omega
  have Bt:i<rk.size:=by omega
  have ht:=turn c7 Bt;obtain⟨hp,g,d,tk,os⟩:=s
  wp_walk using wpAny_loadPart' du,wpAny_loadPart' fI
  have vJ:items[((i:Nat):Int).toNat]?=some items[i]:=by simp[c7]
  have vK:rk[((i:Nat):Int).toNat]?=some rk[i]:=by simp[Bt]
  have hc:((i:Int)+1)=((i+1:Nat):Int):=by omega
  rw[vJ,vK];refine wpAny_bind (wpAny_mono ht (λr s2 h2=>?_) λ_ _ x=>x);obtain⟨hr,h2⟩:=h2;subst hr;have eH:=ih (i+1) (by omega) (by omega) s2 h2;obtain⟨UE,g2,qN,m8,os2⟩:=s2
  wp_walk
  rw[hc];exact⟨plainId_quiet plain_eq_loop _,codeAny_builtin entry_eq_loop (by
   rw[Around.under_plainId plain_eq_loop _];exact eH)⟩
theorem afi(l b:Addr)(N:Nat)(I:Nat->Shared->Prop)(hl:ListI prog w A (λe s'=>R (.error e) s') l b N I)
  (fin:∀s,I N s->R (.ok (.ret (.bool false))) s) {s:Shared} (h:I 0 s) :
  wpAny (model prog w) A.in1 (Builtin.«list.__ne__» ⟨[.ref l,.ref b],[]⟩) (FinOf prog w A R) (λe s'=>R (.error e) s') s:=by
 obtain⟨items,rk,n,n2,du,fI,rl,rm,_⟩:=hl _ _ h;have eH:=afh (A:=A) (R:=R) l b N I hl fin _ 0 rfl (hJ _) s h;obtain⟨hp,g,d,tk,os⟩:=s;have f3:=AutoSeq1.sub_list_list;have dA:¬(items.size != rk.size)=true:=by simp[rl,rm]
 wp_walk using wpAny_loadPart' du,wpAny_loadPart' fI
 exact⟨plainId_quiet plain_eq_loop _,codeAny_builtin entry_eq_loop (by
  rw[Around.under_plainId plain_eq_loop _];exact eH)⟩
end
section
variable{prog:Program}{w:World}{A:Around}{E:Value->Shared->Prop}{s:Shared}
theorem afj{l b:Addr}{N:Nat}{Q:Value->Shared->Prop}(aT:A.units<cLine)(I:Nat->Shared->Prop)(hl:ListI prog w A E l b N I)
  (fin:∀s,I N s->Q (.bool false) s) (h:I 0 s):wpAny (model prog w) A (richCompare .NotEq (.ref l) (.ref b)) Q E s:=by
 obtain⟨items,rk,n,n2,du,fI,_,_,_⟩:=hl _ _ h;refine wpAny_richCompare_same_room (op:=.NotEq) ⟨_,du,rfl⟩ ⟨_,fI,rfl⟩ F.slot_list_ne (call_here F.slot_list_ne ⟨_,du,rfl⟩ F.entry_list_ne (F.args_list_ne_2 _ _) ?_) aT;exact afi (R:=wants (λv s'=>v≠.notImplemented/\Q v s') E) l b N I hl (λs' q=>⟨(λx=>nomatch x),fin s' q⟩) h
end
end GQ
namespace Z
open PySem PySem.Spec L2 PyProof.Rows
def fZ:Nat->Around->Around
 |0,A=>A
 |i+1,A=>(fZ i A).in1
theorem Bu{k:Nat}:∀{i:Nat} {A:Around},Room (k+i) A->Room k (fZ i A)
 |0,_,h=>h
 |i+1,A,h=>Room.in1 (Bu (k:=k+1) (i:=i) (by grind))
section
variable{X:Cx}{W:WX}
theorem UG{pins:List (Addr×Obj)}{σ:L2.St}{H:Hp}{s:Shared}(I:Inv X pins σ H s):∀i,Env0 X.prog X.w X.K X.mg X.base (fZ i X.A) X.stack s H
 |0=>I.env0
 |i+1=>(UG I i).in1
theorem UH{i k:Nat}{f:Addr}{pins:List (Addr×Obj)}{σ:L2.St}{H:Hp}{s:Shared}{Q:VK}{us:List Value}{vs:List V}{sp:Sp}{E:XK}(F:FnR X.prog X.w X.K X.mg X.base (Z.CX X.prog X.w) k f sp)(hr:Room k (fZ i X.A))(hx:PassesAt (Z.CX X.prog X.w) X σ E)(I:Inv X pins σ H s)(r:Vals vs us)(h:sp vs H Q E) :
  wpAny (model X.prog X.w) (fZ i X.A) (PySem.call (.ref f) us) (EP X pins σ Q) X.xe s:=by
 refine wpAny_call (codeAny_mono (F (fZ i X.A) X.stack s H us vs Q E hr (UG I i) r h) λr s' hq=>?_);cases r with
 |error e=>exact hx pins H s e s' I hq
 |ok fl =>
  cases fl<;>first|exact False.elim hq|exact I.after hq
def lr(oth:List Str)(tab:List (Str×aD))(S:Store):Nat->D->D->Prop
 |0,_,_=>False
 |n+1,d,e=>match d,e with
  | .int i,.int j=>i=j
  | .bl i,.bl j=>i=j
  | .str i,.str j=>i=j
  | .non,.non=>True
  | .tup xs,.tup ys=>xs.length=ys.length/\∀(i:Nat) x y,xs[i]?=some x->ys[i]?=some y->lr oth tab S n x y
  | .bS xs,.bS ys=>xs.length=ys.length/\∀(i:Nat) x y,xs[i]?=some x->ys[i]?=some y->lr oth tab S n x y
  | .lst xs,.lst ys=>xs.length=ys.length/\∀(i:Nat) x y,xs[i]?=some x->ys[i]?=some y->lr oth tab S n x y
  | .ins c ns vs,.ins bA jz dg=>bA∈oth/\∃g,hv tab c=some g/\g [.ins c ns vs,.ins bA jz dg] S=.ok (.bl true) S
  |_,_=>False
def Gone(X:Cx)(pins:List (Addr×Obj))(σ:L2.St)(ρ:List Addr)(H:Hp)(S:Store)(s':Shared):Prop:=∃aj H',Inv X pins σ H' s'/\Ext ρ H aj H'/\aF X.K X.mg aj H' S
def LN(X:Cx)(i:Nat)(P:Store->D->D->Prop):Prop :=
 ∀(pins:List (Addr×Obj)) (s:Shared) (σ:L2.St) (ρ:List Addr) (H:Hp) (S:Store) (d e:D) (x y:V) (u v:Value),Inv X pins σ H s->RelV x u->RelV y v->aF X.K X.mg ρ H S->Rep X.K X.mg ρ H d x->Rep X.K X.mg ρ H e y->P S d e ->
  wpAny (model X.prog X.w) (fZ i X.A) (eqBool u v) (λr s'=>r=true/\Gone X pins σ ρ H S s') X.xe s
theorem FE{P:Store->D->D->Prop}{i:Nat}(h:LN X (i+1) P){pins:List (Addr×Obj)}{s:Shared}{σ:L2.St}{ρ:List Addr}{H:Hp}{S:Store}{xs ys:List D}{vs ws:List V}{its dD:List Value}
  (I:Inv X pins σ H s) (w:aF X.K X.mg ρ H S) (aC:ay X.K X.mg ρ H xs vs) (a_:ay X.K X.mg ρ H ys ws) (r:Vals vs its) (r2:Vals ws dD) (p:∀(i:Nat) x y,xs[i]?=some x->ys[i]?=some y->P S x y)
  (j:Nat) (h1:j<its.toArray.size) (h2:j<dD.toArray.size) :
  wpAny (model X.prog X.w) (fZ i X.A).in1 (eqBool its.toArray[j] dD.toArray[j]) (λr s2=>r=true/\Gone X pins σ ρ H S s2) X.xe s:=by
 have g1:its[j]?=some its.toArray[j]:=by
  have jt:j<its.length:=by simpa using h1
  rw[iz jt]<;>simp
 have g2:dD[j]?=some dD.toArray[j]:=by
  have qs:j<dD.length:=by simpa using h2
  rw[iz qs]<;>simp
 have c0:j<vs.length:=by rw[r.length];simpa using h1
 have b6:j<ws.length:=by rw[r2.length];simpa using h2
 obtain⟨u,aT,cv⟩:=r.get (iz c0);obtain⟨v,bB,aR⟩:=r2.get (iz b6);rw[g1]at aT;rw[g2]at bB;rw[Option.some.inj aT,Option.some.inj bB];obtain⟨x,hx,FG⟩:=aC.get' (iz c0);obtain⟨y,a6,FH⟩:=a_.get' (iz b6);exact h pins s σ ρ H S x y _ _ u v I cv aR w FG FH (p j x y hx a6)
theorem Gone.trans{pins:List (Addr×Obj)}{σ:L2.St}{ρ aj:List Addr}{H H':Hp}{S:Store}{s':Shared}(x:Ext ρ H aj H')(g:Gone X pins σ aj H' S s'):Gone X pins σ ρ H S s':=by
 obtain⟨aP,aH,I2,x2,cD⟩:=g;exact⟨aP,aH,I2,x.trans x2,cD⟩
theorem UI{P:Store->D->D->Prop}{i:Nat}(h:LN X (i+1) P){pins:List (Addr×Obj)}{σ:L2.St}{ρ:List Addr}{H:Hp}{S:Store}{xs ys:List D}{d e:D}{a b:Addr}
  (rd:Rep X.K X.mg ρ H d (.ref a)) (re:Rep X.K X.mg ρ H e (.ref b)) (hd:cY S d=some xs) (he:cY S e=some ys) (hl:xs.length=ys.length) (p:∀(i:Nat) x y,xs[i]?=some x->ys[i]?=some y->P S x y) :
  GQ.ListI X.prog X.w (fZ i X.A) X.xe a b xs.length (λ_ s'=>Gone X pins σ ρ H S s'):=by
 intro j s' q;obtain⟨aB,H1,I1,x1,aE⟩:=q;obtain⟨hU,vs,ea,ha,aC⟩:=gC aE (rd.ext x1) hd;obtain⟨b',ws,eb,hb,a_⟩:=gC aE (re.ext x1) he;cases ea;cases eb;obtain⟨z,its,k,r,au⟩:=I1.hok a _ ha;obtain⟨ej,dD,b6,r2,e2⟩:=I1.hok b _ hb;refine⟨its.toArray,dD.toArray,k,b6,au,e2,by rw[fR,<-r.length,aC.len],by rw[fR,<-r2.length,hl,a_.len],λh1 h2=>?_⟩;exact wpAny_mono (FE h I1 aE aC a_ r r2 p j h1 h2) (λr s2 q=>⟨q.1,q.2.trans x1⟩) λ_ _ x=>x
theorem LO{oth:List Str}{tab:List (Str×aD)}{N:Nat}(tk:Takes X W)(d4:Room N X.A)(h1:pG X "__eq__" N tab)(ht:pH X oth tab):∀n i,i+n<=N->LN X i (λS d e=>lr oth tab S n d e)
 |0,i,_=>λpins s σ ρ H S d e x y u v I cv aR w rd re p=>p.elim
 |n+1,i,hi=>λpins s σ ρ H S d e x y u v I cv aR w rd re p=>by
  have aT:(fZ i X.A).units<cLine:=(Bu (k:=0) (d4.mono (by omega))).units0;have ih:=LO tk d4 h1 ht n (i+1) (by omega);unfold lr at p;have flat:∀{x y:V},RelV x u->RelV y v->flatV x=true->flatV y=true->eqV x y=true->wpAny (model X.prog X.w) (fZ i X.A) (eqBool u v) (λr s'=>r=true/\Gone X pins σ ρ H S s') X.xe s:=λaC a_ LQ vL e=>by
   have q:=eqAt_V (A:=fZ i X.A) (s:=s) aC a_ LQ vL;rw[e]at q;exact q X.prog X.w X.xe _ ⟨rfl,ρ,H,I,Ext.refl,w⟩
  have refs:∀{a b:Addr},u=.ref a->v=.ref b->(a≠b->wpAny (model X.prog X.w) (fZ i X.A) (richCompare .Eq (.ref a) (.ref b)) (λr s'=>r=.bool true/\Gone X pins σ ρ H S s') X.xe s)->wpAny (model X.prog X.w) (fZ i X.A) (eqBool u v) (λr s'=>r=true/\Gone X pins σ ρ H S s') X.xe s:=λ{a b} ea eb h=>by
   subst ea eb;by_cases jZ:a=b
   .subst jZ
    exact SeqAt.EqAt.same (A:=fZ i X.A) (s:=s) (.ref a) X.prog X.w X.xe _ ⟨rfl,ρ,H,I,Ext.refl,w⟩
   .exact GQ.eqBool_refG jZ (wpAny_mono (h jZ) (λr s' q=>⟨true,q.1,rfl,q.2⟩) λ_ _ x=>x)
  split at p
  .rename_i a b
   rw[Rep]at rd re;subst rd re p;exact flat cv aR rfl rfl (by simp[eqV])
  .rename_i a b
   rw[Rep]at rd re;subst rd re p;exact flat cv aR rfl rfl (by simp[eqV])
  .rename_i a b
   rw[Rep]at rd re;subst rd re p;exact flat cv aR rfl rfl (by simp[eqV])
  .rw[Rep]at rd re
   subst rd re;exact flat cv aR rfl rfl (by simp[eqV])
  .rename_i xs ys
   rw[Rep]at rd re;obtain⟨a,vs,ea,fz,aC⟩:=rd;obtain⟨b,ws,eb,tb,a_⟩:=re;subst ea eb;refine refs cv aR λjZ=>?_;obtain⟨its,r,e,z⟩:=I.tuple fz.df;obtain⟨dD,r2,e2,ej⟩:=I.tuple tb.df;have e7:its.toArray.size=dD.toArray.size:=by rw[fR,fR,<-r.length,<-r2.length,<-aC.len,<-a_.len];exact p.1
   refine GQ.rc_tupG e7 aT (λ_ s'=>Gone X pins σ ρ H S s') e e2 (λj h1 h2 s' q=>?_) (λs' q=>⟨rfl,q⟩) ⟨ρ,H,I,Ext.refl,w⟩;obtain⟨aB,H1,I1,x1,aE⟩:=q;exact wpAny_mono (FE ih I1 aE (aC.ext x1) (a_.ext x1) r r2 p.2 j h1 h2) (λr s2 q=>⟨q.1,q.2.trans x1⟩) λ_ _ x=>x
  .rename_i xs ys
   rw[Rep]at rd re;obtain⟨a,vs,ea,fz,aC⟩:=rd;obtain⟨b,ws,eb,tb,a_⟩:=re;subst ea eb;refine refs cv aR λjZ=>?_;obtain⟨its,r,e,z⟩:=I.tuple fz.df;obtain⟨dD,r2,e2,ej⟩:=I.tuple tb.df;have e7:its.toArray.size=dD.toArray.size:=by rw[fR,fR,<-r.length,<-r2.length,<-aC.len,<-a_.len];exact p.1
   refine GQ.rc_tupG e7 aT (λ_ s'=>Gone X pins σ ρ H S s') e e2 (λj h1 h2 s' q=>?_) (λs' q=>⟨rfl,q⟩) ⟨ρ,H,I,Ext.refl,w⟩;obtain⟨aB,H1,I1,x1,aE⟩:=q;exact wpAny_mono (FE ih I1 aE (aC.ext x1) (a_.ext x1) r r2 p.2 j h1 h2) (λr s2 q=>⟨q.1,q.2.trans x1⟩) λ_ _ x=>x
  .rename_i xs ys
   have afk:=rd;have afl:=re;rw[Rep]at rd re;obtain⟨a,vs,ea,fz,aC⟩:=rd;obtain⟨b,ws,eb,tb,a_⟩:=re;subst ea eb;refine refs cv aR λjZ=>?_;exact GQ.rc_listG aT (λ_ s'=>Gone X pins σ ρ H S s') (UI ih afk afl (by rfl) (by rfl) p.1 p.2) (λs' q=>⟨rfl,q⟩) ⟨ρ,H,I,Ext.refl,w⟩
  .rename_i c ns vs bA jz dg
   obtain⟨aQ,g,oo,hg⟩:=p;obtain⟨a,C,bx,fs,ex,hm,ea,hn,cB⟩:=o_ w rd (by rfl:f' S (.ins c ns vs)=some (c,ns,vs));obtain⟨b,dB,vM,pL,mV,gF,eb,jy,vN⟩:=o_ w re (by rfl:f' S (.ins bA jz dg)=some (bA,jz,dg));obtain⟨f,k,ko,F,hk⟩:=h1.at_ c g oo C hm;subst ex mV;refine refs cv aR λjZ=>?_;obtain⟨vj,od,J⟩:=Fd I ea;obtain⟨ob,afm,LR⟩:=Fd I eb;obtain⟨jt,_⟩:=ht.at_ c g oo C hm;have hr:Room k (fZ i X.A):=Bu (hk.mono (by omega));refine PySem.W.Tc (op:=.Eq) aT I.kIn J LR.type (jt bA aQ dB gF) ko.at_ ko.fn (wpAny_mono (UH (us:=[.ref a,.ref b]) (vs:=[.ref a,.ref b]) (Q:=λz H'=>z=.bl true/\∃aj,Ext ρ H aj H'/\aF X.K X.mg aj H' S) F hr (si tk σ) I (.cons rfl (.cons rfl .nil)) ⟨ρ,S,[_,_],w,ay.cons rd (ay.cons re ay.nil),by rw[hg];exact λv aj H' x cn bM=>⟨kf bM,aj,x,cn⟩⟩) (λn6 s' ⟨z,H',gb,ng,uP,aj,x,cn⟩=>?_) λ_ _ z=>z);subst uP;cases ng;exact⟨rfl,aj,H',gb,x,cn⟩
  grind
def eqO(neg:Bool)(oth:List Str)(tab:List (Str×aD))(n:Nat):bZ:=λd e S=>match cY S d,cY S e with
 |some xs,some ys=>(open Classical in if xs.length=ys.length then(if ∀(i:Nat) x y,xs[i]?=some x->ys[i]?=some y->lr oth tab S n x y then .ok (.bl (!neg)) S else .bad)else .ok (.bl neg) S)
 |_,_=>.bad
theorem afn{oth:List Str}{tab:List (Str×aD)}{n:Nat}{neg:Bool}(tk:Takes X W)(d4:Room (n+1) X.A)(h1:pG X "__eq__" (n+1) tab)(ht:pH X oth tab):gX X W (compareOp (if neg=true then .NotEq else .Eq)) (eqO neg oth tab n):=⟨λpins s σ ρ H S d e x y v u Q I aR cv w rd re p=>by
 have aT:X.A.units<cLine:=(d4.mono (hJ _)).units0;have ih:=LO tk d4 h1 ht n 1 (by omega);unfold eqO at p;split at p
 .rename_i xs ys ed ee
  obtain⟨a,vs,ea,ha,aC⟩:=gC w rd ed;obtain⟨b,ws,eb,hb,a_⟩:=gC w re ee;subst ea eb;obtain rfl:v=Value.ref a:=aR;obtain rfl:u=Value.ref b:=cv;split at p
  .rename_i hl
   split at p
   .rename_i hp
    have fin:∀s',Gone X pins σ ρ H S s'->EP X pins σ Q (.bool (!neg)) s':=λs' g=>by
     obtain⟨aj,H',gb,x,cn⟩:=g;exact⟨.bl (!neg),H',gb,rfl,p _ aj H' x cn gS⟩
    have li:=UI (i:=0) (pins:=pins) (σ:=σ) ih rd re ed ee hl hp;cases neg with
    |false=>exact GQ.rc_listG aT _ li fin ⟨ρ,H,I,Ext.refl,w⟩
    |true=>exact GQ.afj aT _ li fin ⟨ρ,H,I,Ext.refl,w⟩
   .exact p.elim
  .rename_i hl
   obtain⟨z,its,k,r,au⟩:=I.hok a _ ha;obtain⟨ej,dD,b6,r2,e2⟩:=I.hok b _ hb;have e7:(its.toArray.size != dD.toArray.size)=true:=by
    rw[fR,fR,<-r.length,<-r2.length,<-aC.len,<-a_.len];exact bne_iff_ne.mpr hl
   have fin:EP X pins σ Q (.bool neg) s:=⟨.bl neg,H,I,rfl,p _ ρ H Ext.refl w gS⟩
   have l1:s.heap.IsList a its.toArray:=⟨_,au,rfl,_,rfl⟩
   have l2:s.heap.IsList b dD.toArray:=⟨_,e2,rfl,_,rfl⟩
   cases neg with
   |false=>exact SeqAt.RcAt.lists_lengths l1 l2 e7 aT _ _ _ _ fin
   |true=>exact SeqAt.RcNeAt.lists_lengths l1 l2 e7 aT _ _ _ _ fin
 .exact p.elim⟩
theorem UJ{oth:List Str}{tab:List (Str×aD)}{n:Nat}(tk:Takes X W)(d4:Room (n+1) X.A)(h1:pG X "__eq__" (n+1) tab)(ht:pH X oth tab):gX X W (compareOp .NotEq) (eqO true oth tab n):=afn (neg:=true) tk d4 h1 ht
end
open PySem PySem.Spec L2
section
variable{X:Cx}
def yq:bZ:=λd e S=>match d,e with
 | .tup a,.tup b=>if a.length+b.length<=1000000 then .ok (.tup (a++b)) S else .bad
 |_,_=>.bad
theorem afo:cA X (binaryOp .Add) yq:=by
 refine⟨_,op_catA,λWp ρ H S d e x y Q w aC a_ p=>?_⟩;unfold yq at p;split at p
 .rename_i a b
  split at p
  .rename_i hl
   have UK:=aC;have UL:=a_;rw[Rep]at aC a_;obtain⟨l,vs,au,h1,r1⟩:=aC;obtain⟨l2,qB,e2,h2,r2⟩:=a_;refine⟨l,l2,vs,qB,au,e2,h1.df,h2.df,by rw[<-r1.len,<-r2.len];exact h7 hl,λq=>?_,λ_ q=>?_,λ_ _ q hq=>w' p w (r1.append r2) hq⟩
   .have ha:a=[]:=e1.mp (by rw[r1.len,q];rfl)
    subst ha;rw[e2]at UL;exact cj p w UL
   .have hb:b=[]:=e1.mp (by rw[r2.len,q];rfl)
    subst hb;rw[ug]at p;rw[au]at UK;exact cj p w UK
  .exact p.elim
 .exact p.elim
def rn:bZ:=cX Jb (cX xl (cX qA yq))
theorem UM:cA X (binaryOp .Add) rn:=QZ.or (Q6.or (Q8.or afo))
end
end Z
namespace GQ
open PySem PySem.SeqAt
open AutoSeq1 (wpAny_loadPart')
open MeetsSeq MeetsSeq2 MeetsSeq3 SeqRoads2
section
variable{prog:Program}{w:World}{A:Around}{R:Result->Shared->Prop}
theorem afp{fz tb:Addr}{hD j0:Array Value}{Kw afq:Nat}{k1 db:Option Addr}{s7 lb:Array (Option Value)}{J:Nat->Shared->Prop}{st:Shared}(same:hD.size=j0.size)
  (each:∀i (p:i<hD.size) (q:i<j0.size) t,J i t->wpAny (model prog w) A.in1 (eqBool hD[i] j0[i]) (λr t'=>r=true/\J (i+1) t') (λe t'=>R (.error e) t') t)
  (last:∀t,J hD.size t->R (.ok (.ret (.bool false))) t) (LU:st.heap.get? fz=some { cls:=.type "tuple",dict:=k1,data:=.seq hD Kw,slots:=s7 }) (ob:st.heap.get? tb=some { cls:=.type "tuple",dict:=db,data:=.seq j0 afq,slots:=lb }) (LV:J 0 st) :
  wpAny (model prog w) A.in1 (Builtin.«tuple.__ne__» ⟨[.ref fz,.ref tb],[]⟩) (FinOf prog w A R) (λe t'=>R (.error e) t') st:=by
 have aqF:=AutoSeq1.sub_tuple_tuple;have afr:(hD.toList.zip j0.toList).length=hD.size:=by simp[same]
 have aqG:=LV;obtain⟨hp,g,d,tk,os⟩:=st
 wp_walk using wpAny_loadPart' LU,wpAny_loadPart' ob,wpAny_forIn_list _ (λleft b t=>b.1=none/\∃i,left=(hD.toList.zip j0.toList).drop i/\i<=hD.size/\J i t) _
 case turn =>
  rintro⟨y,x⟩ left b t ⟨bn,i,el,afs,Ad⟩;have UN:i<(hD.toList.zip j0.toList).length:=by
   rcases Nat.lt_or_ge i (hD.toList.zip j0.toList).length with z|z
   .exact z
   .grind
  have p:i<hD.size:=afr▸UN;have q:i<j0.size:=same▸p;rw[wV UN]at el;injection el with dF fF
  have dr:y=hD[i]:=by have:=congrArg Prod.fst dF;simpa using this
  have ex:x=j0[i]:=by have:=congrArg Prod.snd dF;simpa using this
  subst dr ex;refine wpAny_bind (wpAny_mono (each i p q t Ad) (λr lS z=>?_) λ_ _ x=>x);obtain⟨aft,z⟩:=z;subst aft
  wp_walk
  grind
 case fin =>
  rintro⟨b1,de⟩ t ⟨bn,i,el,afs,Ad⟩;simp only at bn;subst bn;have aqH:hD.size<=i:=by
   rcases Nat.lt_or_ge i (hD.toList.zip j0.toList).length with z|z
   .simp_all
   .omega
  have qJ:i=hD.size:=by omega
  have d4:R (.ok (.ret (.bool false))) t:=last t (qJ▸Ad)
  wp_walk
  simpa[Builtin.Tuple.tupleCompareSizes,same]using d4
 grind
end
section
variable{prog:Program}{w:World}{A:Around}{E:Value->Shared->Prop}{st:Shared}
theorem afu{fz tb:Addr}{hD j0:Array Value}{Q:Value->Shared->Prop}{J:Nat->Shared->Prop}(same:hD.size=j0.size)(aT:A.units<cLine)
  (afv:st.heap.IsTuple fz hD) (afw:st.heap.IsTuple tb j0)
  (each:∀i (p:i<hD.size) (q:i<j0.size) t,J i t->wpAny (model prog w) A.in1 (eqBool hD[i] j0[i]) (λr t'=>r=true/\J (i+1) t') E t)
  (last:∀t,J hD.size t->Q (.bool false) t) (LV:J 0 st):wpAny (model prog w) A (richCompare .NotEq (.ref fz) (.ref tb)) Q E st:=by
 obtain⟨⟨eX,k4,x1,l1⟩,z2,au,n1,bw⟩:=id afv;obtain⟨⟨c2,qN,x2,l2⟩,Jy,e2,n2,bz⟩:=id afw;simp only at au bw e2 bz;subst au bw e2 bz;refine wpAny_richCompare_same_room (op:=.NotEq) ⟨_,z2,rfl⟩ ⟨_,Jy,rfl⟩ F.slot_tuple_ne (call_here F.slot_tuple_ne ⟨_,z2,rfl⟩ F.entry_tuple_ne (F.args_tuple_ne_2 _ _) ?_) aT;exact afp (R:=wants (λv t=>v≠.notImplemented/\Q v t) E) same each (λt q=>⟨(λx=>nomatch x),last t q⟩) z2 Jy LV
end
end GQ
namespace Z
open PySem PySem.Spec L2 PyProof.Rows
section
variable{X:Cx}{W:WX}
def eqT(neg:Bool)(oth:List Str)(tab:List (Str×aD))(n:Nat):bZ:=λd e S=>match d,e with
 | .tup xs,.tup ys=>(open Classical in if xs.length=ys.length/\∀(i:Nat) x y,xs[i]?=some x->ys[i]?=some y->lr oth tab S n x y then .ok (.bl (!neg)) S else .bad)
 |_,_=>.bad
theorem afx{oth:List Str}{tab:List (Str×aD)}{n:Nat}{neg:Bool}(tk:Takes X W)(d4:Room (n+1) X.A)(h1:pG X "__eq__" (n+1) tab)(ht:pH X oth tab):gX X W (compareOp (if neg=true then .NotEq else .Eq)) (eqT neg oth tab n):=⟨λpins s σ ρ H S d e x y v u Q I aR cv w rd re p=>by
 have aT:X.A.units<cLine:=(d4.mono (hJ _)).units0;have ih:=LO tk d4 h1 ht n 1 (by omega);unfold eqT at p;split at p
 .rename_i xs ys
  split at p
  .rename_i hp
   rw[Rep]at rd re;obtain⟨a,vs,ea,fz,aC⟩:=rd;obtain⟨b,ws,eb,tb,a_⟩:=re;subst ea eb;obtain rfl:v=Value.ref a:=aR;obtain rfl:u=Value.ref b:=cv;obtain⟨its,r,e,z⟩:=I.tuple fz.df;obtain⟨dD,r2,e2,ej⟩:=I.tuple tb.df;have e7:its.toArray.size=dD.toArray.size:=by rw[fR,fR,<-r.length,<-r2.length,<-aC.len,<-a_.len];exact hp.1
   have fin:∀s',Gone X pins σ ρ H S s'->EP X pins σ Q (.bool (!neg)) s':=λs' g=>by
    obtain⟨aj,H',gb,x,cn⟩:=g;exact⟨.bl (!neg),H',gb,rfl,p _ aj H' x cn gS⟩
   have each:∀j (h1:j<its.toArray.size) (h2:j<dD.toArray.size) s',Gone X pins σ ρ H S s'->wpAny (model X.prog X.w) X.A.in1 (eqBool its.toArray[j] dD.toArray[j]) (λr s2=>r=true/\Gone X pins σ ρ H S s2) X.xe s':=λj h1 h2 s' q=>by
    obtain⟨aB,H1,I1,x1,aE⟩:=q;exact wpAny_mono (FE (i:=0) ih I1 aE (aC.ext x1) (a_.ext x1) r r2 hp.2 j h1 h2) (λr s2 q=>⟨q.1,q.2.trans x1⟩) λ_ _ x=>x
   cases neg with
   |false=>exact GQ.rc_tupG e7 aT (λ_ s'=>Gone X pins σ ρ H S s') e e2 each fin ⟨ρ,H,I,Ext.refl,w⟩
   |true=>exact GQ.afu (J:=λ_ s'=>Gone X pins σ ρ H S s') e7 aT e e2 each fin ⟨ρ,H,I,Ext.refl,w⟩
  .exact p.elim
 .exact p.elim⟩
theorem FI{oth:List Str}{tab:List (Str×aD)}{n:Nat}(tk:Takes X W)(d4:Room (n+1) X.A)(h1:pG X "__eq__" (n+1) tab)(ht:pH X oth tab):gX X W (compareOp .NotEq) (eqT true oth tab n):=afx (neg:=true) tk d4 h1 ht
end
section
variable{X:Cx}{W:WX}
def s9:bZ:=λd e S=>match d,e with
 | .tup xs,.tup []=>.ok (.bl (decide (xs=[]))) S
 |_,_=>.bad
theorem afy(aT:X.A.units<cLine):gX X W (compareOp .Eq) s9:=⟨λpins s σ ρ H S d e x y v u Q I aR cv w rd re p=>by
 unfold s9 at p;split at p
 .rename_i xs
  rw[Rep]at rd re;obtain⟨a,vs,ea,fz,aC⟩:=rd;obtain⟨b,ws,eb,tb,a_⟩:=re;subst ea eb;obtain rfl:v=Value.ref a:=aR;obtain rfl:u=Value.ref b:=cv;obtain⟨its,r,e,z⟩:=I.tuple fz.df;obtain⟨dD,r2,e2,ej⟩:=I.tuple tb.df;have h2:dD.length=0:=by rw[<-r2.length,<-a_.len];rfl
  have h1:its.length=xs.length:=by rw[<-r.length,<-aC.len]
  refine SeqAt.RcAt.tuples (e:=λ_=>true) e e2 aT (λj _ h=>?_) _ _ _ _ ?_
  .rw[fR]at h;omega
  .have:((List.range (min its.toArray.size dD.toArray.size)).all (λ_=>true)&&its.toArray.size==dD.toArray.size)=decide (xs=[]):=by
    rw[fR,fR,h1,h2];cases xs<;>simp
   rw[this];exact⟨.bl (decide (xs=[])),H,I,rfl,p _ ρ H Ext.refl w gS⟩
 .exact p.elim⟩
end
end Z
namespace ZG
open PySem PySem.Spec GenW
open Sem (wp)
def FJ:Frame->Frame
 | .ret _ h g l c p kp=>.ret (λ_=>.unsupported "") h g l c p kp
 | .gen _ _ l c p=>.ret (λ_=>.unsupported "") none false l c p []
def dead:GenState->GenState
 | .suspended _ l c p fs cl=>.suspended (λ_=>.unsupported "") l c p (fs.map FJ) cl
 |x=>x
def kz:GenState->Bool
 | .suspended .. => true
 |_=>false
theorem afz(F:Frame):(FJ F).where_=F.where_:=by cases F<;>rfl
theorem afA(x:GenState):(dead x).seen=x.seen:=by
 cases x with
 |suspended k l c p fs cl =>
  show(GenStatus.suspended,some ((c,p)::(fs.map FJ).map Frame.where_))=(GenStatus.suspended,some ((c,p)::fs.map Frame.where_))
  rw[mG];congr 3;exact List.map_congr_left λF _=>afz F
 |_=>rfl
theorem afB(x:GenState):(dead x).bare=x.bare:=by cases x<;>rfl
def oK:List Frame->Bool
 |[]=>true
 | .gen .. :: _=>false
 |_::fs=>oK fs
theorem UO:∀{fs:List Frame},oK fs=true->splitAtGen fs=none
 |[],_=>rfl
 | .gen .. :: _,h=>by cases h
 | .ret .. :: fs,h=>by
  have:=UO (fs:=fs) h;rw[splitAtGen,this]
  .rfl
  .simp
theorem LW:∀{a b:List Frame},oK a=true->oK b=true->oK (a++b)=true
 |[],_,_,h=>h
 | .gen .. :: _,_,h,_=>by cases h
 | .ret .. :: a,b,h,h2=>LW (a:=a) h h2
theorem LX:∀fs:List Frame,oK (fs.map FJ)=true
 |[]=>rfl
 | .gen .. :: fs=>LX fs
 | .ret .. :: fs=>LX fs
def LY:GenState->Bool
 | .suspended _ _ _ _ fs _=>oK fs
 |_=>true
def UP:End->Bool
 | .ret _=>true
 | .susp _ _ _ _ _ _ fs=>oK fs
theorem FL{e:End}(h:UP e=true):LY e.genState=true:=by cases e<;>first|rfl|exact h
abbrev GM:=Nat->Option GenState
def rest(G:GM)(s:Shared):Shared:={ s with gens:=s.gens.mapIdx λi x=>(G i).getD x }
structure aL(G:GM)(s:Shared):Prop where
 at_:∀i x,G i=some x->kz x=true/\s.gens[i]?=some (dead x)
 mj:∀(i:Nat) (x:GenState),s.gens[i]?=some x->LY x=true
section
variable{M:Model}{dJ:PySem.Ctx}{p:Pos}{G:GM}{s s':Shared}{g:Nat}{x:GenState}
theorem ro{i:Nat}:(rest G s).gens[i]?=(s.gens[i]?).map λx=>(G i).getD x:=by
 show(s.gens.mapIdx _)[i]?=_;rw[Array.getElem?_mapIdx]
theorem nk(h:G g=none):(rest G s).gens[g]?=s.gens[g]?:=by
 rw[ro,h];cases s.gens[g]?<;>rfl
theorem Bv:(rest G s).gens.size=s.gens.size:=by
 show(s.gens.mapIdx _).size=_;simp
theorem LZ{a b:Shared}(h1:a.heap=b.heap)(h2:∀i:Nat,a.gens[i]?=b.gens[i]?)(aI:a.drawn=b.drawn)(bE:a.toks=b.toks)(cw:a.os=b.os):a=b:=by
 obtain⟨h,g,d,t,o⟩:=a;obtain⟨h',fS,d',t',e6⟩:=b;obtain rfl:h=h':=h1;obtain rfl:d=d':=aI;obtain rfl:t=t':=bE;obtain rfl:o=e6:=cw;have:g=fS:=Array.ext_getElem? h2;rw[this]
theorem ta(h:G g=none):rest G (s.setGen g x)=(rest G s).setGen g x:=by
 refine LZ rfl (λi=>?_) rfl rfl rfl;rw[ro];show((s.gens.setIfInBounds g x)[i]?).map _=((rest G s).gens.setIfInBounds g x)[i]?;rw[Dh,Dh,Bv,ro];by_cases e:g=i
 .subst e
  rw[if_pos rfl,if_pos rfl];split
  .rw[h];rfl
  .rfl
 .rw[if_neg e,if_neg e]
theorem aL.afC(h:aL G s):G s.gens.size=none:=by
 cases q:G s.gens.size with
 |none=>rfl
 |some x =>
  have:=(h.at_ _ _ q).2;simp at this
theorem UQ(h:aL G s)(c:Code):rest G { s with gens:=s.gens.push (.fresh c) }={ rest G s with gens:=(rest G s).gens.push (.fresh c) }:=by
 refine LZ rfl (λi=>?_) rfl rfl rfl;rw[ro];show((s.gens.push (.fresh c))[i]?).map _=((rest G s).gens.push (.fresh c))[i]?;rw[Di,Di,Bv];by_cases e:i=s.gens.size
 .rw[if_pos e,if_pos e,e]
  rw[h.afC];rfl
 .rw[if_neg e,if_neg e,ro]
theorem aL.push(h:aL G s)(c:Code):aL G { s with gens:=s.gens.push (.fresh c) } where
 at_:=λi x hx=>by
  obtain⟨a,b⟩:=h.at_ i x hx;refine⟨a,?_⟩;show(s.gens.push (.fresh c))[i]?=_;rw[Di,if_neg,b];intro e;rw[e]at b;simp at b
 mj:=λi x hx=>by
  have hx:(s.gens.push (.fresh c))[i]?=some x:=hx;rw[Di]at hx;split at hx
  .cases hx;rfl
  .exact h.mj i x hx
theorem aL.set(h:aL G s)(hg:G g=none)(hx:LY x=true):aL G (s.setGen g x) where
 at_:=λi y a6=>by
  obtain⟨a,b⟩:=h.at_ i y a6;refine⟨a,?_⟩;show(s.gens.setIfInBounds g x)[i]?=_;rw[Dh,if_neg,b];intro e;subst e;rw[hg]at a6;cases a6
 mj:=λi y a6=>by
  have a6:(s.gens.setIfInBounds g x)[i]?=some y:=a6;rw[Dh]at a6;split at a6
  .split at a6
   .cases a6;exact hx
   .cases a6
  .exact h.mj i y a6
theorem UR{fs:List Frame}{e:End}(h:Runs M dJ p (.unsupported "") fs s e s'):False:=by
 generalize ht:(Sem.unsupported "":Sem PySem.Fin)=t at h
 induction h with
 |segRet _ _ ih _=>exact ih ht
 |segGen _ _ ih _=>exact ih ht
 |segSuspOut _ _ ih=>exact ih ht
 |segSuspGen _ _ _ _ ih _=>exact ih ht
 |_=>cases ht
theorem aL.free_of(h:aL G s)(hs:s.gens[g]?=some x)(hx:∀y,kz y=true->dead y≠x):G g=none:=by
 cases q:G g with
 |none=>rfl
 |some y =>
  obtain⟨a,b⟩:=h.at_ g y q;rw[hs]at b;exact absurd (Option.some.inj b).symm (hx y a)
theorem td{y:GenState}(h:kz y=true):∃l c p fs cl,dead y=.suspended (λ_=>.unsupported "") l c p fs cl:=by
 cases y with
 |suspended k l c p fs cl=>exact⟨l,c,p,_,cl,rfl⟩
 |_=>cases h
theorem UT{st:GenState}(hg:s.gens[g]?=some st)(hs:aL G s):∃sD,(rest G s).gens[g]?=some sD/\sD.seen=st.seen:=by
 cases q:G g with
 |none=>exact⟨st,by rw[nk q];exact hg,rfl⟩
 |some y =>
  obtain⟨h1,h2⟩:=hs.at_ g y q;refine⟨y,by rw[ro,h2,q];rfl,?_⟩;rw[hg]at h2;rw[Option.some.inj h2,afA]
theorem FN{t:Sem PySem.Fin}{fs:List Frame}{e:End}(h:Runs M dJ p t fs s e s'):oK fs=true->aL G s->Runs M dJ p t fs (rest G s) e (rest G s')/\aL G s'/\UP e=true:=by
 induction h with
 |done=>intro _ hs;exact⟨.done,hs,rfl⟩
 |raise=>intro _ hs;exact⟨.raise,hs,rfl⟩
 |again hq _ ih=>intro hn hs;obtain⟨a,b,c⟩:=ih hn hs;exact⟨.again hq a,b,c⟩
 |rule _ ih=>intro hn hs;obtain⟨a,b,c⟩:=ih hn hs;exact⟨.rule a,b,c⟩
 | «at» _ ih=>intro hn hs;obtain⟨a,b,c⟩:=ih hn hs;exact⟨.at a,b,c⟩
 |load aQ _ ih=>intro hn hs;obtain⟨a,b,c⟩:=ih hn hs;exact⟨.load aQ a,b,c⟩
 |update aQ _ ih=>intro hn hs;obtain⟨a,b,c⟩:=ih hn ⟨hs.at_,hs.mj⟩;exact⟨.update aQ a,b,c⟩
 |loadIfAlive _ ih=>intro hn hs;obtain⟨a,b,c⟩:=ih hn hs;exact⟨.loadIfAlive a,b,c⟩
 |point _ ih=>intro hn hs;obtain⟨a,b,c⟩:=ih hn hs;exact⟨.point a,b,c⟩
 |alloc _ ih=>intro hn hs;obtain⟨a,b,c⟩:=ih hn ⟨hs.at_,hs.mj⟩;exact⟨.alloc a,b,c⟩
 |fresh _ ih=>intro hn hs;obtain⟨a,b,c⟩:=ih hn ⟨hs.at_,hs.mj⟩;exact⟨.fresh a,b,c⟩
 |ask _ ih=>intro hn hs;obtain⟨a,b,c⟩:=ih hn hs;exact⟨.ask a,b,c⟩
 |choose h0 _ ih=>intro hn hs;obtain⟨a,b,c⟩:=ih hn ⟨hs.at_,hs.mj⟩;exact⟨.choose h0 a,b,c⟩
 |os _ ih=>intro hn hs;obtain⟨a,b,c⟩:=ih hn ⟨hs.at_,hs.mj⟩;exact⟨.os a,b,c⟩
 |handled _ ih=>intro hn hs;obtain⟨a,b,c⟩:=ih hn hs;exact⟨.handled a,b,c⟩
 |genState hg _ ih =>
  intro hn hs;obtain⟨a,b,c⟩:=ih hn hs;obtain⟨sD,au,e2⟩:=UT hg hs;exact⟨.genState au (by rw[e2];exact a),b,c⟩
 |stack _ ih=>intro hn hs;obtain⟨a,b,c⟩:=ih hn hs;exact⟨.stack a,b,c⟩
 |thread _ ih=>intro hn hs;obtain⟨a,b,c⟩:=ih hn hs;exact⟨.thread a,b,c⟩
 |newGen _ ih =>
  intro hn hs;obtain⟨a,b,c⟩:=ih hn (hs.push _);refine⟨.newGen ?_,b,c⟩;rw[Bv,<-UQ hs];exact a
 |call _ _ vO pO=>intro hn hs;obtain⟨a,b,c⟩:=vO rfl hs;obtain⟨a2,de,c2⟩:=pO hn b;exact⟨.call a a2,de,c2⟩
 |callSusp _ ih=>intro hn hs;obtain⟨a,b,c⟩:=ih rfl hs;exact⟨.callSusp a,b,LW c rfl⟩
 |yield=>intro _ hs;exact⟨.yield,hs,rfl⟩
 | @resumeFresh afD p₀ g l k afE c e₁ s₁ e₂ s₂ hg _ hq _ vO pO =>
  intro hn hs;have bp:G g=none:=hs.free_of hg λy a6=>by
   obtain⟨l,c,p,fs,cl,e⟩:=td a6;rw[e];intro z;cases z
  obtain⟨a,b,c⟩:=vO rfl (hs.set bp rfl);obtain⟨a2,de,c2⟩:=pO hn (b.set bp (FL c));rw[ta bp]at a a2;exact⟨.resumeFresh (by rw[nk bp];exact hg) a hq a2,de,c2⟩
 | @resumeSuspended afD p₀ g r l k afE L0 l₀ c₀ aqI fs cl e₁ s₁ e₂ s₂ hg hr hq _ vO pO =>
  intro hn hs;have bp:G g=none:=by
   cases q:G g with
   |none=>rfl
   |some y =>
    obtain⟨h1,h2⟩:=hs.at_ g y q;obtain⟨l,c,p,pL,afF,e⟩:=td h1;rw[hg,e]at h2;cases h2;exact(UR hr).elim
  have hc:oK fs=true:=hs.mj g _ hg;obtain⟨a,b,c⟩:=vO hc (hs.set bp rfl);obtain⟨a2,de,c2⟩:=pO hn (b.set bp (FL c));rw[ta bp]at a a2;exact⟨.resumeSuspended (by rw[nk bp];exact hg) a hq a2,de,c2⟩
 |resumeJustStarted hg bB _ ih =>
  intro hn hs;have bp:=hs.free_of hg λy a6=>by
   obtain⟨l,c,p,fs,cl,e⟩:=td a6;rw[e];intro z;cases z
  obtain⟨a,b,c⟩:=ih hn hs;exact⟨.resumeJustStarted (by rw[nk bp];exact hg) bB a,b,c⟩
 |resumeThrowFresh hg _ ih =>
  intro hn hs;have bp:=hs.free_of hg λy a6=>by
   obtain⟨l,c,p,fs,cl,e⟩:=td a6;rw[e];intro z;cases z
  obtain⟨a,b,c⟩:=ih hn (hs.set bp rfl);rw[ta bp]at a;exact⟨.resumeThrowFresh (by rw[nk bp];exact hg) a,b,c⟩
 |resumeRunning hg _ ih =>
  intro hn hs;have bp:=hs.free_of hg λy a6=>by
   obtain⟨l,c,p,fs,cl,e⟩:=td a6;rw[e];intro z;cases z
  obtain⟨a,b,c⟩:=ih hn hs;exact⟨.resumeRunning (by rw[nk bp];exact hg) a,b,c⟩
 |resumeFinished hg _ ih =>
  intro hn hs;have bp:=hs.free_of hg λy a6=>by
   obtain⟨l,c,p,fs,cl,e⟩:=td a6;rw[e];intro z;cases z
  obtain⟨a,b,c⟩:=ih hn hs;exact⟨.resumeFinished (by rw[nk bp];exact hg) a,b,c⟩
 |segRet _ _ vO pO=>intro hn hs;obtain⟨a,b,c⟩:=vO rfl hs;obtain⟨a2,de,c2⟩:=pO hn b;exact⟨.segRet a a2,de,c2⟩
 |segGen _ _ _ _=>intro hn;cases hn
 |segSuspOut hq _ ih=>intro hn hs;obtain⟨a,b,c⟩:=ih rfl hs;exact⟨.segSuspOut hq a,b,LW c hn⟩
 |segSuspGen hq _ _ _ _ _=>intro hn;rw[UO hn]at hq;cases hq
end
section
variable{M:Model}{dJ:PySem.Ctx}{p:Pos}{G:GM}{s s':Shared}{g:Nat}{x:GenState}
theorem L1(h:aL G s)(hs:s.gens[g]?=some x)(hx:kz x=false):G g=none:=h.free_of hs λy a6 e=>by
 obtain⟨l,c,p,fs,cl,e2⟩:=td a6;rw[e2]at e;subst e;cases hx
theorem afG{r:Resume}{res:GenResult}(h:Wakes M dJ p g r s res s')(hs:aL G s):Wakes M dJ p g r (rest G s) res (rest G s')/\aL G s':=by
 unfold Wakes at h;split at h
 .exact h.elim
 .rename_i c hg
  have bp:=L1 hs hg rfl;have yb:(rest G s).gens[g]?=some (.fresh c):=by rw[nk bp];exact hg
  unfold Wakes;rw[yb];split at h
  .obtain⟨e₁,s₁,hr,hq,kA,rfl⟩:=h
   obtain⟨a,b,cc⟩:=FN hr rfl (hs.set bp rfl);refine⟨⟨e₁,rest G s₁,?_,hq,kA,ta bp⟩,b.set bp (FL cc)⟩;rw[<-ta bp];exact a
  .rename_i v bB
   obtain⟨h1,rfl⟩:=h;refine⟨?_,hs⟩;dsimp only;cases v with
   |none=>exact absurd rfl bB
   |_=>exact⟨h1,rfl⟩
  .obtain⟨h1,rfl⟩:=h
   exact⟨⟨h1,ta bp⟩,hs.set bp rfl⟩
 .rename_i L0 l₀ c₀ p₀ fs cl hg
  obtain⟨e₁,s₁,hr,hq,kA,rfl⟩:=h;have bp:G g=none:=by
   cases q:G g with
   |none=>rfl
   |some y =>
    obtain⟨h1,h2⟩:=hs.at_ g y q;obtain⟨l,c,p,pL,afF,e⟩:=td h1;rw[hg,e]at h2;cases h2;exact(UR hr).elim
  have hc:oK fs=true:=hs.mj g _ hg;obtain⟨a,b,cc⟩:=FN hr hc (hs.set bp rfl);have yb:(rest G s).gens[g]?=some (.suspended L0 l₀ c₀ p₀ fs cl):=by rw[nk bp];exact hg
  unfold Wakes;rw[yb];refine⟨⟨e₁,rest G s₁,?_,hq,kA,ta bp⟩,b.set bp (FL cc)⟩;rw[<-ta bp];exact a
 .rename_i hg
  have bp:=L1 hs hg rfl;obtain⟨h1,rfl⟩:=h;unfold Wakes;rw[show(rest G s').gens[g]?=some .running by rw[nk bp];exact hg];exact⟨⟨h1,rfl⟩,hs⟩
 .rename_i hg
  have bp:=L1 hs hg rfl;obtain⟨h1,rfl⟩:=h;unfold Wakes;rw[show(rest G s').gens[g]?=some .finished by rw[nk bp];exact hg];exact⟨⟨h1,rfl⟩,hs⟩
theorem afH{r:Result}(h:Returns M dJ p s r s')(hs:aL G s):Returns M dJ p (rest G s) r (rest G s')/\aL G s' :=
 ⟨(FN h rfl hs).1,(FN h rfl hs).2.1⟩
end
theorem aL.Bw{G:GM}{s s':Shared}(h:aL G s)(e:s'.gens=s.gens):aL G s':=⟨λi x hx=>by rw[e];exact h.at_ i x hx,λi x hx=>h.mj i x (by rw[<-e];exact hx)⟩
abbrev UU{α:Type}(G:GM)(Q:α->Pos->Shared->Prop):α->Pos->Shared->Prop:=λa p s2=>∃s1,s2=rest G s1/\aL G s1/\Q a p s1
theorem afI{α:Type}(M:Model)(dJ:PySem.Ctx)(G:GM)(t:Sem α):∀(Q:α->Pos->Shared->Prop) (E:Value->Pos->Shared->Prop) (p:Pos) (s:Shared),aL G s->wp M dJ t Q E p s->wp M dJ t (UU G Q) (UU G E) p (rest G s):=by
 induction t with
 |pure a=>intro Q E p s hn h;exact⟨s,rfl,hn,h⟩
 |raise e=>intro Q E p s hn h;exact⟨s,rfl,hn,h⟩
 |unsupported _=>intro Q E p s _ h;exact h
 |finish _=>intro Q E p s _ h;exact h
 |rule _ k ih=>intro Q E p s hn h;exact ih () Q E p s hn h
 | «at» p' k ih=>intro Q E p s hn h;exact ih () Q E p' s hn h
 |load a _ k ih=>intro Q E p s hn h;obtain⟨o,aQ,h⟩:=h;exact⟨o,aQ,ih o Q E p s hn h⟩
 |update a _ f k ih=>intro Q E p s hn h;exact⟨h.1,ih () Q E p { s with heap:=s.heap.update a f } (hn.Bw rfl) h.2⟩
 |loadIfAlive a k ih=>intro Q E p s hn h;exact ih _ Q E p s hn h
 |point _ k ih=>intro Q E p s hn h;exact ih () Q E p s hn h
 |register _ _=>intro Q E p s _ h;exact h
 |alloc o k ih=>intro Q E p s hn h;exact ih _ Q E p { s with heap:=s.heap.push o } (hn.Bw rfl) h
 |fresh k ih=>intro Q E p s hn h;exact ih _ Q E p { s with toks:=s.toks+1 } (hn.Bw rfl) h
 |ask k ih=>intro Q E p s hn h;exact ih _ Q E p s hn h
 |choose src m k ih=>intro Q E p s hn h;exact⟨h.1,ih _ Q E p { s with drawn:=s.drawn.bump src } (hn.Bw rfl) h.2⟩
 |os q _ k ih=>intro Q E p s hn h;exact ih _ Q E p { s with os:=(Os.step s.os q).1 } (hn.Bw rfl) h
 |call c hd _ _ k ih =>
  intro Q E p s hn h;obtain⟨r,s',hr,h⟩:=h;obtain⟨a,b⟩:=afH hr hn;exact⟨r,rest G s',a,ih r Q E p s' b h⟩
 |handled own k ih=>intro Q E p s hn h;exact ih _ Q E p s hn h
 |genState g k ih =>
  intro Q E p s hn h;obtain⟨st,hs,h⟩:=h;obtain⟨sD,au,e2⟩:=UT hs hn;refine⟨sD,au,?_⟩;rw[e2];exact ih _ Q E p s hn h
 |newGen c k ih =>
  intro Q E p s hn h;have h2:=ih _ Q E p _ (hn.push c) h;rw[UQ hn]at h2;show wp M dJ (k (rest G s).gens.size) _ _ p _;rw[Bv];exact h2
 |resume g r _ k ih =>
  intro Q E p s hn h;obtain⟨res,s',hw,h⟩:=h;obtain⟨a,b⟩:=afG hw hn;exact⟨res,rest G s',a,ih res Q E p s' b h⟩
 |yield _ _ _ _=>intro Q E p s _ h;exact h
 |stack k ih=>intro Q E p s hn h;exact ih _ Q E p s hn h
 |fork _ _=>intro Q E p s _ h;exact h
 |thread k ih=>intro Q E p s hn h;exact ih _ Q E p s hn h
 |await _ _ _ _ _=>intro Q E p s _ h;exact h
def kB(s:Shared):Shared:={ s with gens:=s.gens.map dead }
def j1(s:Shared):GM:=λi=>match s.gens[i]? with
 |some x=>if kz x=true then some x else none
 |none=>none
theorem afJ{x:GenState}(h:kz x=false):dead x=x:=by cases x<;>first|rfl|cases h
theorem L3{s:Shared}{i:Nat}:(kB s).gens[i]?=(s.gens[i]?).map dead:=by
 show(s.gens.map dead)[i]?=_;rw[Array.getElem?_map]
theorem afK(s:Shared):aL (j1 s) (kB s) where
 at_:=λi x h=>by
  unfold j1 at h;split at h
  .rename_i y a6
   split at h
   .rename_i hs
    cases h;exact⟨hs,by rw[L3,a6];rfl⟩
   .cases h
  .cases h
 mj:=λi x h=>by
  rw[L3]at h;cases q:s.gens[i]? with
  |none=>rw[q]at h;cases h
  |some y =>
   rw[q]at h;cases h;cases y with
   |suspended k l c p fs cl=>exact LX fs
   |_=>rfl
theorem afL(s:Shared):rest (j1 s) (kB s)=s:=by
 refine LZ rfl (λi=>?_) rfl rfl rfl;rw[ro,L3];cases q:s.gens[i]? with
 |none=>rfl
 |some y =>
  show some ((j1 s i).getD (dead y))=some y;unfold j1;rw[q];dsimp only;cases h:kz y with
  |true=>rfl
  |false=>rw[if_neg (by simp)];exact congrArg some (afJ h)
structure L4(s s1 s2:Shared):Prop where
 eq:s2=ZG.rest (j1 s) s1
 sl:aL (j1 s) s1
 heap:s2.heap=s1.heap
 os:s2.os=s1.os
 size:s2.gens.size=s1.gens.size
 kept:∀(i:Nat) (x:GenState),s.gens[i]?=some x->kz x=true->s2.gens[i]?=some x
 rest:∀(i:Nat),(∀x,s.gens[i]?=some x->kz x=false)->s2.gens[i]?=s1.gens[i]?
 bare:PyProof.Rows.AllBare s.gens->PyProof.Rows.AllBare s1.gens->PyProof.Rows.AllBare s2.gens
theorem UW{s s1:Shared}(hs:s.gens.size<=s1.gens.size)(hl:aL (j1 s) s1):L4 s s1 (rest (j1 s) s1) where
 eq:=rfl
 sl:=hl
 heap:=rfl
 os:=rfl
 size:=Bv
 kept:=λi x hx hi=>by
  have:i<s1.gens.size:=by
   have:=(Array.getElem?_eq_some_iff.mp hx).1;omega
  rw[ro,Array.getElem?_eq_getElem this];show some ((j1 s i).getD _)=_;unfold j1;rw[hx];dsimp only;rw[if_pos hi];rfl
 rest:=λi h=>by
  refine nk ?_;unfold j1;cases q:s.gens[i]? with
  |none=>rfl
  |some y =>
   dsimp only;rw[if_neg (by rw[h y q];simp)]
 bare:=λh h1 y a6=>by
  obtain⟨i,hi,e⟩:=Array.mem_iff_getElem.mp a6;have q:(ZG.rest (j1 s) s1).gens[i]?=some y:=by rw[Array.getElem?_eq_getElem hi,e]
  rw[ro]at q;cases bw:s1.gens[i]? with
  |none=>rw[bw]at q;cases q
  |some z =>
   rw[bw]at q;have q:(j1 s i).getD z=y:=Option.some.inj q;unfold j1 at q;cases bz:s.gens[i]? with
   |none =>
    rw[bz]at q;exact q▸h1 z (HU bw)
   |some u =>
    rw[bz]at q;dsimp only at q;split at q
    .exact q▸h u (HU bz)
    .exact q▸h1 z (HU bw)
theorem FO{s:Shared}(h:PyProof.Rows.AllBare s.gens):PyProof.Rows.AllBare (kB s).gens:=λy a6=>by
 obtain⟨x,hx,rfl⟩:=Array.mem_map.mp a6;rw[afB];exact h x hx
theorem FP{α:Type}{M:Model}{A:Around}{s:Shared}{t:Sem α}{Q:α->Shared->Prop}{E:Value->Shared->Prop}
  (h:wpAny M A t (λa s1=>∀s2,L4 s s1 s2->Q a s2) (λe s1=>∀s2,L4 s s1 s2->E e s2) (kB s)):wpAny M A t Q E s:=by
 intro dJ p j2;have h1:=wp_gsz M dJ s.gens.size t _ _ p (kB s) (by show s.gens.size<=(s.gens.map dead).size;simp) (h dJ p j2);have h2:=afI M dJ (j1 s) t _ _ p (kB s) (afK s) h1;rw[afL]at h2;refine Sem.wp_mono M dJ t ?_ ?_ p s h2
 .rintro a p' s2 ⟨s1,rfl,hl,hz,hq⟩
  exact hq _ (UW hz hl)
 .rintro a p' s2 ⟨s1,rfl,hl,hz,hq⟩
  exact hq _ (UW hz hl)
abbrev ml:=End->Shared->Prop
def b_(M:Model)(A:Around)(c:Code)(t:Sem PySem.Fin)(fs:List Frame)(s:Shared)(F:ml):Prop :=
 ∀(dJ:PySem.Ctx) (p:Pos),dJ.code=c->dJ.Woken A->∃e s',Runs M dJ p t fs s e s'/\F e s'
section
variable{M:Model}{A:Around}{F:ml}{c:Code}{fs:List Frame}{s:Shared}{env:Env}{K:Flow->Sem PySem.Fin}{J:Value->Sem PySem.Fin}{gd:Bool->Bool}{lv:List Value->List Value}
theorem pP{α:Type}{m:Sem α}{K:α->Sem PySem.Fin}{H:Value->Sem PySem.Fin}{gd lv}
  (h:wpAny M (A.over c fs) m (λa s'=>b_ M A c (K a) fs s' F) (λx s'=>b_ M A c (H x) fs s' F) s):b_ M A c (m.wrap K H gd lv) fs s F:=by
 rintro dJ p rfl j2;exact runs_wrap_of_wp K H gd lv m (h (dJ.over fs) p (j2.over fs)) (λa p' s' h'=>h' dJ p' rfl j2) (λx p' s' h'=>h' dJ p' rfl j2)
theorem L5{p':Pos}{k:Unit->Sem PySem.Fin}(h:b_ M A c (k ()) fs s F):b_ M A c (.at p' k) fs s F :=
 pP (m:=standAt p') (K:=k) (H:=.raise) (gd:=id) (lv:=id) (wpAny_standAt h)
theorem afM{l:List Value}{k:Unit->Sem PySem.Fin}(h:b_ M A c (k ()) fs s F):b_ M A c (.point l k) fs s F :=
 pP (m:=point) (K:=k) (H:=.raise) (gd:=id) (lv:=λ_=>l) (wpAny_point h)
theorem afN{bA:Code}{h g l}{k:Result->Sem PySem.Fin}(hc:∀p,b_ M A bA (M.den bA) (.ret k h g l c p []::fs) s F):b_ M A c (.call bA h g l k) fs s F:=by
 rintro dJ p rfl j2;obtain⟨e,s',hr,he⟩:=hc p (dJ.goto bA) p rfl (j2.goto bA);exact⟨e,s',runs_call_seg hr,he⟩
theorem L6{k h g l c₁ p₁ kp}(r:Result)(hk:b_ M A c₁ (k r) fs s F):b_ M A c (leafOf r) (.ret k h g l c₁ p₁ kp::fs) s F:=by
 rintro dJ p rfl j2;obtain⟨e,s',hr,he⟩:=hk (dJ.goto c₁) p₁ rfl (j2.goto c₁);exact⟨e,s',Runs.pop r hr,he⟩
theorem afO{bA:Code}(hq:bA.quiet=true)(hc:b_ M A bA (M.den bA) fs s F):b_ M A c (.pure (.again bA)) fs s F:=by
 rintro dJ p rfl j2;obtain⟨e,s',hr,he⟩:=hc (dJ.goto bA) p rfl (j2.goto bA);exact⟨e,s',Runs.head (c₁:=bA) (λ_ _ x=>.again hq x) hr,he⟩
theorem UX(r:Result)(h:F (.ret r) s):b_ M A c (leafOf r) [] s F:=by
 rintro dJ p rfl _;exact⟨.ret r,s,Runs.leaf r,h⟩
theorem afP{v g l}{k:Resume->Sem PySem.Fin}(AX:splitAtGen fs=none)(h:∀p,F (.susp v g l k c p fs) s):b_ M A c (.yield v g l k) fs s F:=by
 rintro dJ p rfl _;exact⟨_,s,Runs.yield' fs AX,h p⟩
theorem UY{st:Stmt}{rest:List Stmt}
  (h:b_ M A c ((exec st env).wrap (λf=>match f with|.next=>(execs rest env).wrap K J gd lv|f=>K f) J gd lv) fs s F):b_ M A c ((execs (st::rest) env).wrap K J gd lv) fs s F:=by
 rw[execs_cons_wrap];exact h
theorem afQ{e:Expr}{L7 pos:Pos}(AX:splitAtGen fs=none)(qK:gd false=false)(afR:fs.any Frame.guarded=false)
  (h:wpAny M (A.over c fs) (eval e env) (λv s'=>∀(g:Bool) (l:List Value) (k:Resume->Sem PySem.Fin) (p:Pos),(End.susp v g l k c p fs).quiet=true ->
    (∀x tf k5,(match x with|.ref _=>False|_=>b_ M A c (K .next) fs k5 tf)->b_ M A c (k (.send x)) fs k5 tf)->F (.susp v g l k c p fs) s')
   (λx s'=>b_ M A c (J x) fs s' F) s) (vP:env.scope.isCoroutine=false:=by rfl) (hi:interactive env=false:=by rfl) :
  b_ M A c ((exec (.Expr (.Yield (some e) L7) pos) env).wrap K J gd lv) fs s F:=by
 rw[exec_Expr env _ pos hi rfl];show b_ M A c (.at pos λ_=>((eval e env >>= λv=>(standAt L7 >>= λ_=>yieldOut env v)) >>= λx =>
  dropValue (.Yield (some e) L7) pos x).wrap K J gd lv) fs s F
 have a6:∀v,yieldOut env v=yieldValue v:=λv=>by simp only[yieldOut,vP,uh,if_false]
 simp only[a6];refine L5 ?_;rw[Sem.bind_eq_wrap',Sem.bind_eq_wrap',Sem.wrap_wrap,Sem.wrap_wrap];refine pP (wpAny_mono h (λv s' h'=>?_) λ_ _ x=>x);refine L5 (afP AX λp=>?_);refine h' _ _ _ p (by simp[End.quiet,qK,afR]) λx tf k5 hx=>?_;cases x<;>first|exact hx|exact hx.elim
end
section
variable{prog:Program}{w:World}{A:Around}{F:ml}{fs:List Frame}{s:Shared}{env:Env}
abbrev vQ(env:Env)(e:Value):Sem PySem.Fin:=(do noteFrame e env;theTreesLotGoes e:Sem Unit).wrap (λ_=>.raise e) .raise id id
theorem afS{body:List Stmt}
  (h:b_ (model prog w) A (.func body env) ((execs body env).wrap (λf=>.pure (.done (.ret (match f with|.ret v=>v|_=>.none))))
   (λe=>(leaving env e).wrap (λ_=>.raise e) .raise id id) id id) fs s F) :
  b_ (model prog w) A (.func body env) ((model prog w).den (.func body env)) fs s F:=by
 show b_ _ A _ (.point [] λ_=>((execs body env).onRaise (leaving env)) >>= _) fs s F;refine afM ?_;rw[Sem.onRaise_eq_wrap,Sem.bind_eq_wrap',Sem.wrap_wrap];rw[Sem.wrap_congr (execs body env) _ _ (K':=λf=>.pure (.done (.ret (match f with|.ret v=>v|_=>.none))))
  (H':=λe=>(leaving env e).wrap (λ_=>.raise e) .raise id id) (λf=>by cases f<;>rfl)
  (λe=>by rw[Sem.bind_eq_wrap,Sem.wrap_wrap];rfl)]
 exact h
end
def L8(M:Model)(A:Around)(gs:GenState)(s:Shared)(F:ml):Prop:=match gs with
 | .fresh c=>b_ M A c (M.den c) [] s F
 | .suspended k _ c _ fs _=>b_ M A c (k (.send .none)) fs s F
 |_=>False
theorem afT{M:Model}{A:Around}{F:ml}{E:Value->Shared->Prop}{s:Shared}{g:Nat}{gs:GenState}{l:List Value}{α:Type}{k:GenResult->Sem α}{Q:α->Shared->Prop}(hg:s.gens[g]?=some gs)
  (iq:L8 M A gs (s.setGen g .running) F)
  (hF:∀e s₁,F e s₁->e.quiet=true/\wpAny M A (k e.result) Q E (s₁.setGen g e.genState)) :
  wpAny M A (.resume g (.send .none) l k) Q E s:=by
 intro dJ p j2;rw[Sem.wp_resume];cases gs with
 |fresh c =>
  obtain⟨e₁,s₁,hr,he⟩:=iq (dJ.wake c p) p rfl (j2.wake c p);obtain⟨h1,h2⟩:=hF e₁ s₁ he;exact⟨_,_,by unfold Wakes;rw[hg];exact⟨e₁,s₁,hr,h1,rfl,rfl⟩,h2 dJ p j2⟩
 |suspended L0 l₀ c₀ p₀ aqJ cl =>
  obtain⟨e₁,s₁,hr,he⟩:=iq (dJ.wake c₀ p) p₀ rfl (j2.wake c₀ p);obtain⟨h1,h2⟩:=hF e₁ s₁ he;exact⟨_,_,by unfold Wakes;rw[hg];exact⟨e₁,s₁,hr,h1,rfl,rfl⟩,h2 dJ p j2⟩
 |running=>exact iq.elim
 |finished=>exact iq.elim
open PySem PySem.Spec GenW PyProof.Rows
section
variable{P:Program}{w:World}{A:Around}{E:Value->Shared->Prop}{s:Shared}
theorem L_{a:Addr}{g:Nat}{gs:GenState}{F:ml}{Q:Option Value->Shared->Prop}(hh:A.handled=none)
  (hl:s.heap.NoLimit) (kE:A.depth<recursionLimit) (hg:s.heap.IsGen a g) (je:s.gens[g]?=some gs)
  (iq:L8 (model P w) A.in1 gs (s.setGen g .running) F)
  (kF:∀v g₀ l k c p fs s₁,F (.susp v g₀ l k c p fs) s₁->(End.susp v g₀ l k c p fs).quiet=true/\Q (some v) (s₁.setGen g (End.susp v g₀ l k c p fs).genState))
  (d4:∀r s₁,F (.ret r) s₁->((r=.ok (.ret .none)\/r=.ok .next)/\∀h',(∀b o,s₁.heap.get? b=some o->h'.get? b=some o)->Q none { s₁.setGen g .finished with heap:=h' }) \/
   ∃e,r=.error e/\s₁.heap.IsGen a g/\L2.NotStop (model P w) e s₁.heap/\E e (s₁.setGen g .finished)) :
  wpAny (model P w) A (pyNext (.ref a)) Q E s:=by
 unfold pyNext;refine wpAny_bind (wpAny_attempt (wpAny_callSpecial?_slot (name:=Str.ofString "__next__") hg.typeIs slot_gen_next
  (wpAny_call_entry slot_gen_next hg.typeIs entry_gen_next ?_ (args_gen_next _))))
 show wpAny _ A.in1 (Builtin.Generator.genWake (.ref a) (.send .none)) _ _ s;unfold Builtin.Generator.genWake;refine wpAny_bind (wpAny_holding (wpAny_genNumber hg (wpAny_bind (wpAny_genState je ?_))));cases gs with
 |running=>exact iq.elim
 |finished=>exact iq.elim
 |_ =>
  refine wpAny_bind (wpAny_roomToWake hl kE ?_);show wpAny _ A.in1 (.resume g (.send .none) [] _) _ _ s;refine afT je iq λx s₁ hx=>?_;cases x with
  |susp v g₀ l k c p fs =>
   obtain⟨h1,h2⟩:=kF v g₀ l k c p fs s₁ hx;exact⟨h1,wpAny_pure ⟨v,rfl,wpAny_pure h2⟩⟩
  |ret x =>
   refine⟨rfl,?_⟩;rcases d4 x s₁ hx with⟨hr,hp⟩|⟨e,rfl,afU,fJ,hq⟩
   .have kA:End.result (.ret x)=.returned .none:=by
     rcases hr with hr|hr<;>rw[hr]<;>rfl
    first|rw[kA]|simp only[kA]
    show wpAny _ A.in1 (newExc (.type "StopIteration") [] >>= _) _ _ _;refine wpAny_bind ?_;simp only[newExc,newTuple];refine wpAny_bind (wpAny_newObj_type ?_ (by size_fits));refine wpAny_bind (m:=firstArgMember _ _) (wpAny_of_eq (a:=Value.none) (by first|rfl|(simp only[firstArgMember];rfl)) ?_);refine wpAny_newObj_type ?_ (by size_fits);simp only[raiseNew];refine wpAny_bind (wpAny_bind (wpAny_handled ?_))
    first|rw[show A.in1.handled=none from hh]|rw[hh]
    refine wpAny_throw ?_;refine wpAny_bind (wpAny_isInstance (T:="StopIteration") (b:=true) ⟨_,Heap.get?_push_size _ rfl,rfl⟩ isSubtype_stop ?_);exact wpAny_pure (hp _ λb o hb=>Heap.get?_push_of_some _ (Heap.get?_push_of_some _ hb))
   .obtain⟨o,nm,hW,aQ,hc,hd,mn⟩:=afU
    show wpAny _ A.in1 (Builtin.Generator.genLeft (.ref a) e) _ _ _;unfold Builtin.Generator.genLeft Builtin.Generator.madeByALambda;refine wpAny_bind (wpAny_bind (wpAny_load (o:=o) aQ (wpAny_pure ?_)));refine wpAny_bind (fJ _ _ _ _ rfl ?_);rw[Bool.and_false,if_neg j8];unfold Builtin.Generator.genEscaped
    first
     |refine wpAny_bind (fJ _ _ _ _ rfl ?_)
     |refine wpAny_bind (wpAny_pure (wpAny_bind (fJ _ _ _ _ rfl ?_)))
    rw[if_pos (show(!false)=true from rfl)]
    first
     |refine wpAny_throw ?_
     |refine wpAny_bind (wpAny_throw ?_)
    refine wpAny_bind (fJ _ _ _ _ rfl ?_);rw[if_neg j8];exact wpAny_throw hq
end
open PySem PySem.Spec GenW PyProof.Rows L2
def rq(n:Nat)(h:Heap):Heap:={ h with objs:=h.objs.extract 0 n }
def afV(n:Nat)(s:Shared):Shared:={ s with heap:=rq n s.heap }
theorem afW{objs:Array Obj}{n b:Nat}:(objs.extract 0 n)[b]?=if b<n then objs[b]? else none:=by
 rw[Array.getElem?_extract];by_cases e:b<n
 .rw[if_pos e]
  by_cases e2:b<objs.size
  .rw[if_pos (by omega)]
   simp
  .rw[if_neg (by omega),Array.getElem?_eq_none (by omega)]
 .rw[if_neg e,if_neg (by omega)]
theorem UZ{n:Nat}{h:Heap}{b:Addr}:(rq n h).get? b=if b<n then h.get? b else none:=by
 unfold Heap.get?;show(match(h.objs.extract 0 n)[b]? with|some ⟨_,_,.freed,_⟩=>none|o=>o)=_;rw[afW];by_cases e:b<n
 .rw[if_pos e,if_pos e]
  rfl
 .rw[if_neg e,if_neg e]
theorem L'{n:Nat}{h:Heap}(hn:n<=h.objs.size):(rq n h).objs.size=n:=by
 show(h.objs.extract 0 n).size=n;rw[Array.size_extract];omega
theorem Ma{n:Nat}{h:Heap}{b:Addr}{o:Obj}(e:(rq n h).get? b=some o):b<n/\h.get? b=some o:=by
 rw[UZ]at e;split at e
 .rename_i hb
  exact⟨hb,e⟩
 .cases e
theorem yr{n:Nat}{h:Heap}{b:Addr}{o:Obj}(hb:b<n)(e:h.get? b=some o):(rq n h).get? b=some o:=by
 rw[UZ,if_pos hb,e]
def oL(P:Program)(w:World)(K:PySem.W.Frag)(mg:Str->Option Value)(base:Heap)(N:List Str)(qual:Str)(scope:Scope)(f:Addr)(cd:Value)(A:Around)(outer:List Env)(n:Addr)(s:Shared)(H:Hp)(pn:List (Addr×Obj))(xe:Value->Shared->Prop):Cx where
 prog:=P
 w:=w
 K:=K
 mg:=mg
 base:=base
 A:=A.deeper (envOfC qual scope n f cd)
 N:=N
 s_0:=afV n s
 H_0:=H
 env:=envOfC qual scope n f cd
 outer:=outer
 stack:=envOfC qual scope n f cd::outer
 ex:=[]
 calm:=true
 fn:=λ_=>true
 pn:=pn
 xe:=xe
section
variable{base:Heap}{n:Addr}{s:Shared}
theorem U0:∀{l:List Env},s.heap.FunFrames base l->(∀b∈frs l,b<n)->(rq n s.heap).FunFrames base l
 |[],_,_=>trivial
 |env::l,h,hb=>by
  obtain⟨h1,⟨L,o,hf,hn,aQ,hd⟩,h2⟩:=h;have hm:L∈frs (env::l):=by simp[frs,hf]
  refine⟨h1,⟨L,o,hf,hn,yr (hb L hm) aQ,hd⟩,U0 h2 λb Mb=>hb b ?_⟩;simp only[frs,rX]at Mb ⊢;cases env.frame with
  |none=>exact Mb
  |some x=>exact iZ _ Mb
end
open Classical in
def pQ(n:Addr)(own fs:List Addr)(H:Hp)(h:Heap):List (Addr×Obj):=(List.range h.objs.size).filterMap λb=>match h.get? b with
 |some o=>if n<b/\b∉own/\H b=none/\b∉fs/\(∀v,o.data≠.cell v)then some (b,o)else none
 |none=>none
theorem Md{n:Addr}{own fs:List Addr}{H:Hp}{h:Heap}{p:Addr×Obj}:p∈pQ n own fs H h↔h.get? p.1=some p.2/\n<p.1/\p.1∉own/\H p.1=none/\p.1∉fs/\∀v,p.2.data≠.cell v:=by
 unfold pQ;rw[List.mem_filterMap];constructor
 .rintro⟨b,hb,e⟩
  split at e
  .rename_i o aQ
   split at e
   .rename_i q
    cases e;exact⟨aQ,q⟩
   .cases e
  .cases e
 .rintro⟨h1,h2⟩
  refine⟨p.1,List.mem_range.mpr (Heap.lt_size h1),?_⟩;rw[h1];dsimp only;rw[if_pos h2]
open Classical in
def FQ(n:Addr)(own:List Addr)(H:Hp)(h:Heap):List Addr:=n::own++(List.range h.objs.size).filter λb=>decide (n<=b/\H b=none/\∃o v,h.get? b=some o/\o.data=.cell v)
open Classical in
theorem Bx{n b:Addr}{own:List Addr}{H:Hp}{h:Heap}:b∈FQ n own H h↔b=n\/b∈own\/(n<=b/\H b=none/\∃o v,h.get? b=some o/\o.data=.cell v):=by
 unfold FQ;rw[List.cons_append,List.mem_cons,List.mem_append,List.mem_filter];refine or_congr Iff.rfl (or_congr Iff.rfl ?_);rw[decide_eq_true_iff];exact⟨λh=>h.2,λh=>⟨List.mem_range.mpr (by obtain⟨_,_,o,v,e,_⟩:=h;exact Heap.lt_size e),h⟩⟩
structure rr(X:Cx)(pins:List (Addr×Obj))(n:Addr)(own:List Addr)(H:Hp):Prop where
 s0:∀b,n<=b->H b=none->b∈X.ex\/X.s_0.heap.objs.size<=b
 hn:H n=none
 U1:∀b∈own,H b=none
 loc:X.env.locals≠n/\X.env.locals∉own
 nq:∀x c,X.env.cells.lookup x=some c->c<n
 fs:∀b∈frs X.stack,b<n
 pin:∀p∈X.pn++pins,p.1≠n/\p.1∉own
 own:∀b∈own,n<b
section
variable{X:Cx}{A:Around}{N:List Str}{qual:Str}{scope:Scope}{f:Addr}{cd:Value}{n:Addr}{own:List Addr}{s s1:Shared}{H H1:Hp}{pins:List (Addr×Obj)}{xe:Value->Shared->Prop}{σ gj:L2.St}
theorem U2(I:Inv X pins σ H s)(y:rr X pins n own H){pR:List (Addr×Obj)}(f5:Inv (oL X.prog X.w X.K X.mg X.base N qual scope f cd A X.stack n s H (pQ n own (frs X.stack) H s.heap) xe) pR gj H1 s1)(hk:∀b u,H b=some u->H1 b≠none):Inv X pins σ H1 s1:=by
 have FR:∀b:Addr,b∉(oL X.prog X.w X.K X.mg X.base N qual scope f cd A X.stack n s H (pQ n own (frs X.stack) H s.heap) xe).ex:=λb h=>absurd (show b∈([]:List Addr)from h) (by simp);have above:∀b o,s.heap.get? b=some o->H b=none->b∉frs X.stack->b∉FQ n own H s.heap->¬b<n->s1.heap.get? b=some o/\H1 b=none:=λb o e hn hf hc hb=>by
  have h1:¬b=n/\b∉own/\¬(n<=b/\H b=none/\∃o v,s.heap.get? b=some o/\o.data=.cell v):=by
   rw[Bx]at hc;exact⟨λz=>hc (.inl z),λz=>hc (.inr (.inl z)),λz=>hc (.inr (.inr z))⟩
  have hm:(b,o)∈pQ n own (frs X.stack) H s.heap:=Md.mpr ⟨e,Nat.lt_of_le_of_ne (Nat.le_of_not_lt hb) (λz=>h1.1 z.symm),h1.2.1,hn,hf,λv bB=>h1.2.2 ⟨Nat.le_of_not_lt hb,hn,o,v,e,bB⟩⟩;obtain⟨bw,bz,_⟩:=f5.pin (b,o) (oZ _ hm);exact⟨bw,bz⟩
 refine I.call' (ch:=FQ n own H s.heap) (f5.os.trans rfl) ⟨λb o e hn hf hc=>?_,λb o e hn hf hc=>?_,λb o e hn hc=>?_,λb o e hc=>?_,f5.base.tups,f5.base.frzs,f5.base.tbls⟩ f5.hok f5.bare λb hb=>?_
 .by_cases q:b<n
  .exact f5.base.keep b o (yr q e) hn hf (FR b)
  .exact(above b o e hn hf hc q).1
 .exact f5.base.slot b o (yr (y.fs b hf) e) hn hf (FR b)
 .by_cases q:b<n
  .exact f5.base.free b o (yr q e) hn (FR b)
  .exact(above b o e hn (λz=>q (y.fs b z)) hc q).2
 .by_cases q:b<n
  .exact f5.base.there b o (yr q e) (FR b)
  .cases hh:H b with
   |none=>exact⟨o,(above b o e hh (λz=>q (y.fs b z)) hc q).1⟩
   |some u =>
    cases bz:s1.heap.get? b with
    |some e6=>exact⟨e6,rfl⟩
    |none=>exact absurd (f5.hok.gone bz) (hk b u hh)
 .have U3:n<=b:=by
   rcases Bx.mp hb with h|h|h
   .exact Nat.le_of_eq h.symm
   .exact js (y.own b h)
   .exact h.1
  have afX:H b=none:=by
   rcases Bx.mp hb with h|h|h
   .rw[h];exact y.hn
   .exact y.U1 b h
   .exact h.2.1
  refine⟨y.s0 b U3 afX,λz=>?_,λx c hx z=>?_,λp hp z=>?_⟩
  .rcases Bx.mp hb with h|h|h
   .exact y.loc.1 (z.symm.trans h)
   .exact y.loc.2 (z▸h)
   .obtain⟨_,_,o,v,e,bB⟩:=h
    obtain⟨m,⟨e6,es,dF,ti,k2,_⟩,_⟩:=I.loc;rw[<-z,e]at ti;cases ti;rw[bB]at k2;cases k2
  .exact absurd (jr (z▸y.nq x c hx) U3) (kZ _)
  .obtain⟨p1,p2⟩:=y.pin p hp
   rcases Bx.mp hb with h|h|h
   .exact p1 (z.trans h)
   .exact p2 (z▸h)
   .obtain⟨_,_,o,v,e,bB⟩:=h
    obtain⟨bw,_,_,_,afY⟩:=I.pin p hp;rw[z,e]at bw;cases bw;exact afY v bB
theorem afZ(hn:H n=none):∀p∈pQ n own (frs X.stack) H s.heap,s.heap.get? p.1=some p.2/\H p.1=none/\p.1≠n/\p.1∉frs X.stack/\∀v,p.2.data≠.cell v:=λp hp=>by
 obtain⟨h1,h2,aI,bE,cw,pI⟩:=Md.mp hp;exact⟨h1,bE,qg h2,cw,pI⟩
end
def nr(X:Cx)(W:WX)(u:Value)(s':Shared):Prop :=
 ∃(a:Addr) (B:Heap) (dq:Shared) (pins:List (Addr×Obj)) (σ:L2.St) (H:Hp) (cls:Value) (d:Option Addr),
  u=.ref a/\Inv X pins σ H dq/\(∀b o,dq.heap.get? b=some o->b∉frs X.stack->B.get? b=some o)/\dq.heap.UpToSlots s'.heap /\
   HandSPX.FlyingZ B X.outer a (Z.jx B H cls d) s'.heap/\H a=none/\s'.os=dq.os/\AllBare s'.gens/\W cls d σ H
section
variable{X:Cx}{W:WX}{s':Shared}
theorem af0{h1 h2 aI:Heap}(a:h1.UpToSlots h2)(b:h2.UpToSlots aI):h1.UpToSlots aI:=λx o e hd=>by
 obtain⟨sl,au⟩:=a x o e hd;obtain⟨bH,e2⟩:=b x _ au hd;exact⟨bH,e2⟩
theorem af1(hs:X.stack=X.env::X.outer)(hf:X.env.frame=some X.env.locals){E₁:Value->Shared->Prop}{u:Value}(x:Z.XE X W u s') :
  wpAny (model X.prog X.w) X.A (leaving X.env u) (λ_ k5=>nr X W u k5) E₁ s':=by
 obtain⟨a,B,dq,pins,σ,H,cls,d,rfl,I,nb,up,qv,na,os,h8,w⟩:=x;have gB:X.A.frames=some (X.env::X.outer):=by rw[I.ok.frames,hs]
 have fin:∀h',HandSPX.FlyingZ B X.outer a (Z.jx B H cls d) h'->s'.heap.UpToSlots h'->nr X W (.ref a) { s' with heap:=h' }:=λh' fl I3 =>
  ⟨a,B,dq,pins,σ,H,cls,d,rfl,I,nb,af0 up I3,fl,na,os,h8,w⟩
 rw[hs]at qv;rcases qv with⟨cZ,hn,hl,eP,vs,he,hz,hd,h1⟩|fl|hd
 .exact PXN.leaving_firstZ Z.jx.steady gB hl hf he cZ hn hd h1 hz fin
 .exact PXN.leaves_onZ Z.jx.steady gB hf fl fin
 .exact HandSPX.leaves_heldZ hf hd fin
end
section
variable{X:Cx}{A:Around}{N:List Str}{qual:Str}{scope:Scope}{f:Addr}{cd:Value}{n:Addr}{own:List Addr}{s s':Shared}{H:Hp}{pins:List (Addr×Obj)}{xe:Value->Shared->Prop}{σ:L2.St}{W nu:WX}{u:Value}
def gone(n:Addr)(h:Heap):Heap:=h.update n λo=>{ o with data:=.freed }
theorem Mf{h:Heap}{b:Addr}(hb:b≠n):(gone n h).get? b=h.get? b:=Heap.get?_update_other _ _ (jq hb)
theorem U4{h:Heap}:(gone n h).get? n=none:=by
 unfold gone Heap.get? Heap.update;dsimp only;rw[Array.getElem?_modify,if_pos rfl];cases h.objs[n]?<;>rfl
theorem af2(I:Inv X pins σ H s)(y:rr X pins n own H)(x:nr (oL X.prog X.w X.K X.mg X.base N qual scope f cd A X.stack n s H (pQ n own (frs X.stack) H s.heap) xe) W u s')
  (kd:∀cls d gj hX,W cls d gj hX->(∀b u,H b=some u->hX b≠none)/\nu cls d σ hX):Z.XE X nu u s':=by
 obtain⟨a,B,dq,pR,gj,hX,cls,d,rfl,f5,nb,up,fl,na,os,h8,w⟩:=x;obtain⟨hk,af3⟩:=kd _ _ _ _ w;have af4:Inv X pins σ hX dq:=U2 I y f5 hk;have hn:hX n=none:=f5.free;have af5:Inv X pins σ hX { dq with heap:=gone n dq.heap,toks:=dq.toks }:=af4.turned (it:=n) (λb o hb e=>(Mf hb).trans e) hn (jq y.loc.1) (y.s0 n (Nat.le_refl _) y.hn) (λx c h=>hZ (y.nq x c h)) λp hp=>(y.pin p hp).1;refine⟨a,B,_,pins,σ,hX,cls,d,rfl,af5,λb o e hb=>?_,λb o e hd=>?_,.inr (.inl fl),na,os,h8,af3⟩
 .have yt:b≠n:=λz=>by
   subst z;have e:(gone b dq.heap).get? b=some o:=e;rw[U4]at e;cases e
  refine nb b o ((Mf yt).symm.trans e) λhm=>?_;have hm:b∈frs (envOfC qual scope n f cd::X.stack):=hm;have hm:b∈n::frs X.stack:=hm;rcases g6.mp hm with z|z
  .exact yt z
  .exact hb z
 .have yt:b≠n:=λz=>by
   subst z;have e:(gone b dq.heap).get? b=some o:=e;rw[U4]at e;cases e
  exact up b o ((Mf yt).symm.trans e) hd
end
inductive tj where
 |done
 |ex (e:Z.D)
theorem lu{X:Cx}{pins:List (Addr×Obj)}{σ:L2.St}{H:Hp}{s s':Shared}(I:Inv X pins σ H s)(h:s'.heap=s.heap)(aQ:s'.os=s.os)(hb:AllBare s'.gens):Inv X pins σ H s':=by
 obtain⟨h0,g,d,t,o⟩:=s';obtain rfl:h0=s.heap:=h;obtain rfl:o=s.os:=aQ;exact⟨I.ok,I.os,hb,I.base,I.loc,I.cell,I.free,I.freeC,I.pin,I.hok,I.len⟩
def U5(fp:List Addr)(s s':Shared):Prop:=(∀b∈fp,∀o,s.heap.get? b=some o->s'.heap.get? b=some o)/\∀(j:Nat) (x:GenState),s.gens[j]?=some x->kz x=true->s'.gens[j]?=some x
def mq(fp:List Addr)(h:Heap):List (Addr×Obj):=fp.filterMap λb=>(h.get? b).map λo=>(b,o)
theorem Mg{fp:List Addr}{h:Heap}{p:Addr×Obj}:p∈mq fp h↔p.1∈fp/\h.get? p.1=some p.2:=by
 unfold mq;rw[List.mem_filterMap];constructor
 .rintro⟨b,hb,e⟩
  cases q:h.get? b with
  |none=>rw[q]at e;cases e
  |some o=>rw[q]at e;cases e;exact⟨hb,q⟩
 .rintro⟨hb,e⟩
  exact⟨p.1,hb,by rw[e];rfl⟩
abbrev U6:=Nat->List Addr->List Addr->Hp->Shared->Prop
abbrev aqK:=Z.aL->Z.Store->Z.Out (List Z.D×tj×(Z.Store->Prop))
open PySem PySem.Spec GenW PyProof.Rows L2
section
variable(X:Cx)(N:List Str)(qual:Str)(scope:Scope)(f:Addr)(cd:Value)(n:Addr)(own:List Addr)(s:Shared)(H:Hp)(W:WX)
def ny:Cx:=oL X.prog X.w X.K X.mg X.base N qual scope f cd X.A.in1 X.stack n s H (pQ n own (frs X.stack) H s.heap) (λ_ _=>True)
def eM:Cx:=oL X.prog X.w X.K X.mg X.base N qual scope f cd X.A.in1 X.stack n s H (pQ n own (frs X.stack) H s.heap)
 (λe s'=>wpAny (model X.prog X.w) (X.A.in1.deeper (envOfC qual scope n f cd)) (leaving (envOfC qual scope n f cd) e) (λ_ k5=>nr (ny X N qual scope f cd n own s H) W e k5) (λ_ _=>False) s')
end
section
variable{X:Cx}{N:List Str}{qual:Str}{scope:Scope}{f:Addr}{cd:Value}{n:Addr}{own:List Addr}{s s1:Shared}{H H1:Hp}{W:WX}{pins:List (Addr×Obj)}{σ:L2.St}
theorem FT:Inv (eM X N qual scope f cd n own s H W) pins σ H1 s1↔Inv (ny X N qual scope f cd n own s H) pins σ H1 s1:=by
 have e:eM X N qual scope f cd n own s H W=(ny X N qual scope f cd n own s H).wish (eM X N qual scope f cd n own s H W).xe:=rfl;rw[e];exact⟨λI=>I.unwish,λI=>I.wish _⟩
theorem af6:Z.Takes (eM X N qual scope f cd n own s H W) W:=λu s' x=>by
 refine wpAny_mono (af1 (X:=eM X N qual scope f cd n own s H W) (E₁:=λ_ _=>False) rfl rfl x) (λ_ k5 q=>?_) λ_ _ z=>z;obtain⟨a,B,dq,pins,σ,hX,cls,d,e,I,r⟩:=q;exact⟨a,B,dq,pins,σ,hX,cls,d,e,FT.mp I,r⟩
theorem U7:PassesOwn (model (eM X N qual scope f cd n own s H W).prog (eM X N qual scope f cd n own s H W).w) (eM X N qual scope f cd n own s H W).A (eM X N qual scope f cd n own s H W).env (eM X N qual scope f cd n own s H W).xe :=
 passes_of (X:=eM X N qual scope f cd n own s H W) (K:=λe k5=>nr (ny X N qual scope f cd n own s H) W e k5) (E₁:=λ_ _=>False) rfl
theorem U8{gj:L2.St}{pR:List (Addr×Obj)}(I:Inv X pins σ H s)(y:rr X pins n own H)(f5:Inv (eM X N qual scope f cd n own s H W) pR gj H1 s1)(hk:∀b u,H b=some u->H1 b≠none):Inv X pins σ H1 s1:=U2 I y (FT.mp f5) hk
theorem FU{K:PySem.W.Frag}{mg:Str->Option Value}{ρ aj:List Addr}{ak:Z.Store}(x:Z.Ext ρ H aj H1)(cn:Z.aF K mg aj H1 ak):∀b u,H b=some u->H1 b≠none:=λb u e=>by
 by_cases hb:b∈ρ
 .obtain⟨t,ht⟩:=x.pre
  exact cn.tr b (by rw[ht];exact oZ _ hb)
 .rcases x.keep b u hb e with z|⟨_,od,z⟩
  .rw[z];simp
  .rw[z];simp
end
structure vR where
 pre:List Stmt
 tg:Expr
 iter:Expr
 As:List Stmt
 yu:Expr
 yv:Pos
 pos:Pos
 vS:List Stmt
 af7:Pos
def vR.Mh(h:vR):Stmt:=.Expr (.Yield (some h.yu) h.yv) h.pos
def vR.loop(h:vR):List Stmt:=h.As++h.Mh::h.vS
def vR.body(h:vR):List Stmt:=h.pre++[.For h.tg h.iter h.loop [] h.af7]
abbrev w2:Flow->Sem PySem.Fin:=λfl=>.pure (.done (.ret (match fl with|.ret v=>v|_=>.none)))
abbrev FV(env:Env):Value->Sem PySem.Fin:=λe=>(leaving env e).wrap (λ_=>.raise e) .raise id id
abbrev U9(env:Env):Flow->Sem PySem.Fin:=λfl=>match fl with|.next=>(execs [] env).wrap w2 (FV env) id id|fl=>w2 fl
abbrev U_(env:Env):Result->Sem PySem.Fin:=λr=>((match r with|.ok fl=>(.pure fl:Sem Flow)|.error e=>.raise e).onRaise (L2.cameBack env)).wrap (U9 env) (FV env) id id
abbrev kc(env:Env)(body:List Stmt)(p:Pos):List Frame:=[.ret (U_ env) none (id false) (id []) (.func body env) p []]
section
variable{s:Shared}{F:ml}
theorem U'{M:Model}{A:Around}{c:Code}{fs:List Frame}{env:Env}{K:Flow->Sem PySem.Fin}{J:Value->Sem PySem.Fin}{gd:Bool->Bool}{lv:List Value->List Value}{rest:List Stmt}:∀(As:List Stmt) {s:Shared},
  b_ M A c ((execs As env).wrap (λfl=>match fl with|.next=>(execs rest env).wrap K J gd lv|fl=>K fl) J gd lv) fs s F->b_ M A c ((execs (As++rest) env).wrap K J gd lv) fs s F:=by
 have e:∀As:List Stmt,(execs As env).wrap (λfl=>match fl with|.next=>(execs rest env).wrap K J gd lv|fl=>K fl) J gd lv=(execs (As++rest) env).wrap K J gd lv:=λAs=>by
  induction As with
  |nil=>rfl
  |cons a As ih =>
   rw[List.cons_append,execs_cons_wrap,execs_cons_wrap];refine Sem.wrap_congr _ _ _ (λfl=>?_) λ_=>rfl;cases fl with
   |next=>exact ih
   |_=>rfl
 intro As s h;rw[<-e];exact h
end
structure Old(X:Cx)(ey:Hp)(n a:Addr):Prop where
 s0:∀b,n<=b->ey b=none->b∈X.ex\/X.s_0.heap.objs.size<=b
 loc:X.env.locals≠n/\X.env.locals≠a
 nq:∀x c,X.env.cells.lookup x=some c->c<n
 fs:∀b∈frs X.stack,b<n
 By:∀b∈X.fs,b<n
 bs:X.base.objs.size<=n
 na:n<a
structure Bz where
 N:List Str
 qual:Str
 scope:Scope
 f:Addr
 cd:Value
 n:Addr
 a:Addr
 g:Nat
 sh:vR
abbrev Bz.ev(q:Bz):Env:=envOfC q.qual q.scope q.n q.f q.cd
structure yw where
 xs:List Z.D
 ds:List Z.D
 fin:tj
 slA:Nat->Z.aL
 aqL:Nat->Z.aL
 slY:Nat->Z.aL
 sl0:Z.aL
 d7:Z.Store->Prop
 G:Z.Store->Prop
section
variable{X:Cx}{q:Bz}{iG:List Addr}{ey:Hp}{ρ:List Addr}{H:Hp}{pins:List (Addr×Obj)}{S:Z.Store}
theorem jp1(o:Old X ey q.n q.a)(hx:Z.Ext iG ey ρ H)(w:Z.aF X.K X.mg ρ H S)(hn:H q.n=none){own:List Addr}(hp:∀p∈X.pn++pins,p.1∉q.a::q.n::own)(aQ:∀b∈own,q.n<b/\H b=none/\b≠X.env.locals):rr X pins q.n own H where
 s0:=λb hb yt=>by
  refine o.s0 b hb ?_;cases z:ey b with
  |none=>rfl
  |some u=>exact absurd yt (FU hx w b u z)
 hn:=hn
 U1:=λb hb=>(aQ b hb).2.1
 loc:=⟨o.loc.1,λz=>(aQ _ z).2.2 rfl⟩
 nq:=o.nq
 fs:=o.fs
 pin:=λp hm=>by
  have:=hp p hm;simp only[List.mem_cons,not_or]at this;exact⟨this.2.1,this.2.2⟩
 own:=λb hb=>(aQ b hb).1
end
section
variable{X:Cx}{q:Bz}{ey:Hp}{H:Hp}{s:Shared}
theorem Va{own:List Addr}(o:Old X ey q.n q.a)(jf:s.heap.IsGen q.a q.g)(ha:H q.a=none)(af8:q.a∉own):∃ob nm hW,(q.a,ob)∈pQ q.n own (frs X.stack) H s.heap/\ob.cls=.type "generator"/\ob.data=.fields #[.int q.g 0,nm,hW]/\ob.slots = #[]:=by
 obtain⟨ob,nm,hW,aQ,hc,hd,hs⟩:=jf;refine⟨ob,nm,hW,Md.mpr ⟨aQ,o.na,af8,ha,λz=>absurd (oY o.na (o.fs _ z)) (kZ _),λv z=>?_⟩,hc,hd,hs⟩;have z:ob.data=.cell v:=z;rw[hd]at z;cases z
end
section
variable{X:Cx}{H:Hp}{s:Shared}{pins:List (Addr×Obj)}{σ:L2.St}{W:WX}
theorem af9{X:Cx}{W:WX}{e:Value}{s s':Shared}(x:Z.XE X W e s)(h:s'.heap=s.heap)(aQ:s'.os=s.os)(hb:AllBare s'.gens):Z.XE X W e s':=by
 obtain⟨a,B,dq,pins,σ,H,cls,d,au,I,nb,up,qv,na,os,h8,w⟩:=x;exact⟨a,B,dq,pins,σ,H,cls,d,au,I,nb,by rw[h];exact up,by rw[h];exact qv,na,aQ.trans os,hb,w⟩
end
structure FW(X:Cx)(n a:Addr):Prop where
 s0:X.s_0.heap.objs.size<=n
 loc:X.env.locals<n
 nq:∀x c,X.env.cells.lookup x=some c->c<n
 fs:∀b∈frs X.stack,b<n
 By:∀b∈X.fs,b<n
 bs:X.base.objs.size<=n
 na:n<a
section
variable{X:Cx}{pins:List (Addr×Obj)}{σ:L2.St}{H:Hp}{s:Shared}
theorem aga(I:Inv X pins σ H s){a:Addr}(ha:s.heap.objs.size<a):FW X s.heap.objs.size a where
 s0:=I.sz
 loc:=I.lt
 nq:=λx c h=>by
  obtain⟨v,ob,aQ,_⟩:=I.cell x c h;exact Heap.lt_size aQ
 fs:=λb hb=>by
  rcases g6.mp (I.stkSub b hb)with z|z
  .rw[z];exact I.lt
  .exact Nat.lt_of_not_le λh=>I.nofs h z
 By:=λb hb=>Nat.lt_of_not_le λh=>I.nofs h hb
 bs:=Nat.le_trans I.ok.bsz I.sz
 na:=ha
end
open Classical in
def tn(n:Addr)(H:Hp)(s:Shared):List Addr:=(List.range s.heap.objs.size).filter λb=>decide (n<=b/\H b=none)
open Classical in
theorem Vb{n b:Addr}{H:Hp}{s:Shared}:b∈tn n H s↔b<s.heap.objs.size/\n<=b/\H b=none:=by
 unfold tn;rw[List.mem_filter,List.mem_range,decide_eq_true_iff]
section
theorem Vc:∀(l:List (Str×NameKind)) (a:Addr) (acc:List (Str×Addr)),(l.all λy=>y.2 != .cell)=true->cellsFrom a l acc=acc
 |[],_,_,_=>rfl
 |(nm,bK)::l,a,acc,h=>by
  simp only[List.all_cons,Bool.and_eq_true]at h;rw[cellsFrom,if_neg]
  .exact Vc l a acc h.2
  .intro z
   have h1:=h.1;simp at h1 z;exact h1 z
theorem om{Y:Cx}:Z.Takes Y Z.WF:=λu s' x=>by
 obtain⟨_,_,_,_,_,_,_,_,_,_,_,_,_,_,_,_,z⟩:=x;exact z.elim
end
open PySem PySem.Spec GenW PyProof.Rows L2
abbrev ru(S:Z.Store):Prop:=∀m∈S,Z.iI S.length m=true
theorem Room.Vd{k:Nat}{A:Around}(r:Room k A):A.depth<recursionLimit:=by have:=r.dp;omega
end ZG
namespace GQ
open PySem PySem.SeqAt
open AutoSeq1 (wpAny_loadPart')
open MeetsSeq MeetsSeq2 MeetsSeq3 SeqRoads2
def FX(pr:Program)(w:World)(A:Around)(E:Value->Shared->Prop)(l b:Addr)(N:Nat)(I:Nat->Shared->Prop)(Z:Shared->Prop):Prop :=
 ∀i s,I i s->∃(xs ys:Array Value) (n n2:Nat),s.heap.get? l=some { cls:=.type "list",dict:=none,data:=.seq xs n }/\s.heap.get? b=some { cls:=.type "list",dict:=none,data:=.seq ys n2 }/\xs.size=N/\ys.size=N /\
  ∀(h1:i<xs.size) (h2:i<ys.size),wpAny (model pr w) A.in1 (eqBool xs[i] ys[i]) (λr s'=>(r=true/\I (i+1) s')\/(r=false/\Z s')) E s
def FY(l b:Addr)(N:Nat)(Z:Shared->Prop):Prop :=
 ∀s,Z s->∃(xs ys:Array Value) (n n2:Nat),s.heap.get? l=some { cls:=.type "list",dict:=none,data:=.seq xs n }/\s.heap.get? b=some { cls:=.type "list",dict:=none,data:=.seq ys n2 }/\xs.size=N/\ys.size=N
section
variable{prog:Program}{w:World}{A:Around}{R:Result->Shared->Prop}
theorem agb(l b:Addr)(N:Nat)(I:Nat->Shared->Prop)(Z:Shared->Prop)(hl:FX prog w A (λe s'=>R (.error e) s') l b N I Z)(hz:FY l b N Z)
  (fin:∀s,I N s->R (.ok (.ret (.bool true))) s) (rv:∀s,Z s->R (.ok (.ret (.bool false))) s) (k:Nat) :
  ∀i:Nat,N - i=k->i<=N->∀s,I i s ->
   wpAny (model prog w) A.in1 (Builtin.«list.__eq__.loop» ⟨[.ref l,.ref b,rawInt i,rawInt 2],[]⟩) (FinOf prog w A R) (λe s'=>R (.error e) s') s:=by
 induction k with
 |zero =>
  intro i hk hi s h;obtain⟨xs,ys,n,n2,du,fI,rl,rm,_⟩:=hl _ _ h;have vI:i=N:=by omega
  have d4:R (.ok (.ret (.bool true))) s:=fin s (vI▸h);obtain⟨hp,g,d,tk,os⟩:=s
  wp_walk using wpAny_loadPart' du,wpAny_loadPart' fI
  have vJ:xs[((i:Nat):Int).toNat]?=none:=by simp;omega
  have vK:ys[((i:Nat):Int).toNat]?=none:=by simp;omega
  rw[vJ,vK]
  wp_walk using wpAny_loadPart' du,wpAny_loadPart' fI
  show R (.ok (.ret (.bool (xs.size==ys.size)))) _;grind
 |succ k ih =>
  intro i hk hi s h;obtain⟨xs,ys,n,n2,du,fI,rl,rm,turn⟩:=hl _ _ h;have c7:i<xs.size:=by omega
  have Bt:i<ys.size:=by omega
  have ht:=turn c7 Bt;obtain⟨hp,g,d,tk,os⟩:=s
  wp_walk using wpAny_loadPart' du,wpAny_loadPart' fI
  have vJ:xs[((i:Nat):Int).toNat]?=some xs[i]:=by simp[c7]
  have vK:ys[((i:Nat):Int).toNat]?=some ys[i]:=by simp[Bt]
  have hc:((i:Int)+1)=((i+1:Nat):Int):=by omega
  rw[vJ,vK];refine wpAny_bind (wpAny_mono ht (λr s2 h2=>?_) λ_ _ x=>x);rcases h2 with⟨hr,h2⟩|⟨hr,h2⟩
  .subst hr
   have eH:=ih (i+1) (by omega) (by omega) s2 h2;obtain⟨UE,g2,qN,m8,os2⟩:=s2
   wp_walk
   rw[hc];exact⟨plainId_quiet plain_eq_loop _,codeAny_builtin entry_eq_loop (by
    rw[Around.under_plainId plain_eq_loop _];exact eH)⟩
  .subst hr
   obtain⟨kj,Mi,m,m2,agc,agd,FZ,Mj⟩:=hz _ h2;have d4:=rv _ h2;obtain⟨UE,g2,qN,m8,os2⟩:=s2;have age:i<kj.size:=by omega
   have agf:i<Mi.size:=by omega
   have agg:kj[((i:Nat):Int).toNat]?=some kj[i]:=by simp[age]
   have agh:Mi[((i:Nat):Int).toNat]?=some Mi[i]:=by simp[agf]
   wp_walk using wpAny_loadPart' agc,wpAny_loadPart' agd
   rw[agg,agh]
   wp_walk
   exact d4
theorem agi(l b:Addr)(N:Nat)(I:Nat->Shared->Prop)(Z:Shared->Prop)(hl:FX prog w A (λe s'=>R (.error e) s') l b N I Z)(hz:FY l b N Z)
  (fin:∀s,I N s->R (.ok (.ret (.bool true))) s) (rv:∀s,Z s->R (.ok (.ret (.bool false))) s) {s:Shared} (h:I 0 s) :
  wpAny (model prog w) A.in1 (Builtin.«list.__eq__» ⟨[.ref l,.ref b],[]⟩) (FinOf prog w A R) (λe s'=>R (.error e) s') s:=by
 obtain⟨xs,ys,n,n2,du,fI,rl,rm,_⟩:=hl _ _ h;have eH:=agb (A:=A) (R:=R) l b N I Z hl hz fin rv _ 0 rfl (hJ _) s h;obtain⟨hp,g,d,tk,os⟩:=s;have f3:=AutoSeq1.sub_list_list;have dA:¬(xs.size != ys.size)=true:=by simp[rl,rm]
 wp_walk using wpAny_loadPart' du,wpAny_loadPart' fI
 exact⟨plainId_quiet plain_eq_loop _,codeAny_builtin entry_eq_loop (by
  rw[Around.under_plainId plain_eq_loop _];exact eH)⟩
theorem agj(l b:Addr){xs ys:Array Value}{n n2:Nat}{s:Shared}(du:s.heap.get? l=some { cls:=.type "list",dict:=none,data:=.seq xs n })(fI:s.heap.get? b=some { cls:=.type "list",dict:=none,data:=.seq ys n2 })(hs:xs.size≠ys.size)
  (fin:R (.ok (.ret (.bool false))) s) :
  wpAny (model prog w) A.in1 (Builtin.«list.__eq__» ⟨[.ref l,.ref b],[]⟩) (FinOf prog w A R) (λe s'=>R (.error e) s') s:=by
 obtain⟨hp,g,d,tk,os⟩:=s;have f3:=AutoSeq1.sub_list_list;have dA:(xs.size != ys.size)=true:=by simp[hs]
 wp_walk using wpAny_loadPart' du,wpAny_loadPart' fI
 exact fin
end
section
variable{prog:Program}{w:World}{A:Around}{E:Value->Shared->Prop}{s:Shared}
theorem agk{l b:Addr}{N:Nat}{Q:Value->Shared->Prop}(aT:A.units<cLine)(I:Nat->Shared->Prop)(Z:Shared->Prop)(hl:FX prog w A E l b N I Z)(hz:FY l b N Z)
  (fin:∀s,I N s->Q (.bool true) s) (rv:∀s,Z s->Q (.bool false) s) (h:I 0 s):wpAny (model prog w) A (richCompare .Eq (.ref l) (.ref b)) Q E s:=by
 obtain⟨xs,ys,n,n2,du,fI,_,_,_⟩:=hl _ _ h;refine wpAny_richCompare_same_room (op:=.Eq) ⟨_,du,rfl⟩ ⟨_,fI,rfl⟩ F.slot_list_eq (call_here F.slot_list_eq ⟨_,du,rfl⟩ F.entry_list_eq (F.args_list_eq_2 _ _) ?_) aT;exact agi (R:=wants (λv s'=>v≠.notImplemented/\Q v s') E) l b N I Z hl hz (λs' q=>⟨(λx=>nomatch x),fin s' q⟩) (λs' q=>⟨(λx=>nomatch x),rv s' q⟩) h
theorem agl{l b:Addr}{xs ys:Array Value}{n n2:Nat}{Q:Value->Shared->Prop}(aT:A.units<cLine)(du:s.heap.get? l=some { cls:=.type "list",dict:=none,data:=.seq xs n })(fI:s.heap.get? b=some { cls:=.type "list",dict:=none,data:=.seq ys n2 })(hs:xs.size≠ys.size)
  (fin:Q (.bool false) s):wpAny (model prog w) A (richCompare .Eq (.ref l) (.ref b)) Q E s:=by
 refine wpAny_richCompare_same_room (op:=.Eq) ⟨_,du,rfl⟩ ⟨_,fI,rfl⟩ F.slot_list_eq (call_here F.slot_list_eq ⟨_,du,rfl⟩ F.entry_list_eq (F.args_list_eq_2 _ _) ?_) aT;exact agj (R:=wants (λv s'=>v≠.notImplemented/\Q v s') E) l b du fI hs ⟨(λx=>nomatch x),fin⟩
end
end GQ
namespace Z
open PySem PySem.Spec L2 PyProof.Rows
def vT:D->Option (List D)
 | .tup xs=>some xs
 | .bS xs=>some xs
 |_=>none
def eS(f:D->D->Option Bool):List D->List D->Option Bool
 |x::xs,y::ys=>match f x y with
  |some true=>eS f xs ys
  |r=>r
 |_,_=>some true
mutual
def F0:D->D->Bool
 | .int i,.int j=>decide (i≠j)
 | .str i,.str j => !(i==j)
 | .lst xs,.lst ys=>rx xs ys
 | .tup xs,.tup ys=>rx xs ys
 | .ins _ _ xs,.ins _ _ ys=>rx xs ys
 |_,_=>false
def rx:List D->List D->Bool
 |[],[]=>false
 |x::xs,y::ys=>F0 x y||rx xs ys
 |_,_=>true
end
section
variable{X:Cx}{W:WX}
def Ml(X:Cx)(i:Nat)(f:Store->D->D->Option Bool):Prop :=
 ∀(pins:List (Addr×Obj)) (s:Shared) (σ:L2.St) (ρ:List Addr) (H:Hp) (S:Store) (d e:D) (x y:V) (u v:Value) (b:Bool),Inv X pins σ H s->RelV x u->RelV y v->aF X.K X.mg ρ H S->Rep X.K X.mg ρ H d x->Rep X.K X.mg ρ H e y->f S d e=some b ->
  wpAny (model X.prog X.w) (fZ i X.A) (eqBool u v) (λr s'=>r=b/\Gone X pins σ ρ H S s') X.xe s
theorem agm{f:D->D->Option Bool}{b:Bool}{xs ys:List D}{j:Nat}(h1:j<xs.length)(h2:j<ys.length)(h:eS f (xs.drop j) (ys.drop j)=some b):(f xs[j] ys[j]=some true/\eS f (xs.drop (j+1)) (ys.drop (j+1))=some b)\/(f xs[j] ys[j]=some false/\b=false):=by
 rw[wV h1,wV h2,eS]at h;cases e:f xs[j] ys[j]with
 |none=>rw[e]at h;cases h
 |some r =>
  rw[e]at h;cases r with
  |true=>exact .inl ⟨rfl,h⟩
  |false=>exact .inr ⟨rfl,(Option.some.inj h).symm⟩
theorem agn{f:D->D->Option Bool}{b:Bool}{xs ys:List D}{N:Nat}(h1:xs.length=N)(h:eS f (xs.drop N) (ys.drop N)=some b):b=true:=by
 rw[Dj (by omega),eS]at h
 .exact(Option.some.inj h).symm
 .simp
theorem Mp{f:Store->D->D->Option Bool}{i:Nat}(h:Ml X (i+1) f){pins:List (Addr×Obj)}{s:Shared}{σ:L2.St}{ρ:List Addr}{H:Hp}{S:Store}{xs ys:List D}{vs ws:List V}{its dD:List Value}{b:Bool}
  (I:Inv X pins σ H s) (w:aF X.K X.mg ρ H S) (aC:ay X.K X.mg ρ H xs vs) (a_:ay X.K X.mg ρ H ys ws) (r:Vals vs its) (r2:Vals ws dD)
  (j:Nat) (h1:j<its.toArray.size) (h2:j<dD.toArray.size) (p:eS (f S) (xs.drop j) (ys.drop j)=some b) :
  wpAny (model X.prog X.w) (fZ i X.A).in1 (eqBool its.toArray[j] dD.toArray[j]) (λr s2=>(r=true/\Gone X pins σ ρ H S s2/\eS (f S) (xs.drop (j+1)) (ys.drop (j+1))=some b)\/(r=false/\Gone X pins σ ρ H S s2/\b=false)) X.xe s:=by
 have g1:its[j]?=some its.toArray[j]:=by
  have jt:j<its.length:=by simpa using h1
  rw[iz jt]<;>simp
 have g2:dD[j]?=some dD.toArray[j]:=by
  have qs:j<dD.length:=by simpa using h2
  rw[iz qs]<;>simp
 have c0:j<vs.length:=by rw[r.length];simpa using h1
 have b6:j<ws.length:=by rw[r2.length];simpa using h2
 have l1:j<xs.length:=by rw[aC.len];exact c0
 have l2:j<ys.length:=by rw[a_.len];exact b6
 obtain⟨u,aT,cv⟩:=r.get (iz c0);obtain⟨v,bB,aR⟩:=r2.get (iz b6);rw[g1]at aT;rw[g2]at bB;rw[Option.some.inj aT,Option.some.inj bB];obtain⟨x,hx,FG⟩:=aC.get' (iz c0);obtain⟨y,a6,FH⟩:=a_.get' (iz b6);have ex:xs[j]=x:=by rw[iz l1]at hx;exact Option.some.inj hx
 have dr:ys[j]=y:=by rw[iz l2]at a6;exact Option.some.inj a6
 rcases agm l1 l2 p with⟨q,bz⟩|⟨q,bz⟩
 .rw[ex,dr]at q
  exact wpAny_mono (h pins s σ ρ H S x y _ _ u v true I cv aR w FG FH q) (λr s2 z=>.inl ⟨z.1,z.2,bz⟩) λ_ _ x=>x
 .rw[ex,dr]at q
  exact wpAny_mono (h pins s σ ρ H S x y _ _ u v false I cv aR w FG FH q) (λr s2 z=>.inr ⟨z.1,z.2,bz⟩) λ_ _ x=>x
theorem ago{f:Store->D->D->Option Bool}{i:Nat}(h:Ml X (i+1) f){pins:List (Addr×Obj)}{σ:L2.St}{ρ:List Addr}{H:Hp}{S:Store}{xs ys:List D}{d e:D}{a b:Addr}{r:Bool}
  (rd:Rep X.K X.mg ρ H d (.ref a)) (re:Rep X.K X.mg ρ H e (.ref b)) (hd:cY S d=some xs) (he:cY S e=some ys) (hl:xs.length=ys.length) :
  GQ.FX X.prog X.w (fZ i X.A) X.xe a b xs.length (λj s'=>Gone X pins σ ρ H S s'/\eS (f S) (xs.drop j) (ys.drop j)=some r) (λs'=>Gone X pins σ ρ H S s'/\r=false):=by
 intro j s' q;obtain⟨⟨aB,H1,I1,x1,aE⟩,p⟩:=q;obtain⟨hU,vs,ea,ha,aC⟩:=gC aE (rd.ext x1) hd;obtain⟨b',ws,eb,hb,a_⟩:=gC aE (re.ext x1) he;cases ea;cases eb;obtain⟨z,its,k,r1,au⟩:=I1.hok a _ ha;obtain⟨ej,dD,b6,r2,e2⟩:=I1.hok b _ hb;refine⟨its.toArray,dD.toArray,k,b6,au,e2,by rw[fR,<-r1.length,aC.len],by rw[fR,<-r2.length,hl,a_.len],λh1 h2=>?_⟩;exact wpAny_mono (Mp h I1 aE aC a_ r1 r2 j h1 h2 p) (λr s2 q=>q.imp (λq=>⟨q.1,q.2.1.trans x1,q.2.2⟩) λq=>⟨q.1,q.2.1.trans x1,q.2.2⟩) λ_ _ x=>x
theorem agp{i:Nat}{pins:List (Addr×Obj)}{σ:L2.St}{ρ:List Addr}{H:Hp}{S:Store}{xs ys:List D}{d e:D}{a b:Addr}{r:Bool}
  (rd:Rep X.K X.mg ρ H d (.ref a)) (re:Rep X.K X.mg ρ H e (.ref b)) (hd:cY S d=some xs) (he:cY S e=some ys) (hl:xs.length=ys.length) :
  GQ.FY a b xs.length (λs'=>Gone X pins σ ρ H S s'/\r=false):=by
 intro s' q;obtain⟨⟨aB,H1,I1,x1,aE⟩,p⟩:=q;obtain⟨hU,vs,ea,ha,aC⟩:=gC aE (rd.ext x1) hd;obtain⟨b',ws,eb,hb,a_⟩:=gC aE (re.ext x1) he;cases ea;cases eb;obtain⟨z,its,k,r1,au⟩:=I1.hok a _ ha;obtain⟨ej,dD,b6,r2,e2⟩:=I1.hok b _ hb;exact⟨its.toArray,dD.toArray,k,b6,au,e2,by rw[fR,<-r1.length,aC.len],by rw[fR,<-r2.length,hl,a_.len]⟩
theorem yx{K:PySem.W.Frag}{mg:Str->Option Value}{ρ:List Addr}{H:Hp}{d:D}{x:V}{xs:List D}(h:vT d=some xs)(r:Rep K mg ρ H d x):∃a vs,x=.ref a/\SqT K H a vs/\ay K mg ρ H xs vs:=by
 cases d with
 |tup ys =>
  cases h;rw[Rep]at r;obtain⟨a,vs,e,t,cB⟩:=r;exact⟨a,vs,e,t.df,cB⟩
 |bS ys =>
  cases h;rw[Rep]at r;obtain⟨a,vs,e,t,cB⟩:=r;exact⟨a,vs,e,t.df,cB⟩
 |_=>cases h
theorem F1{K:PySem.W.Frag}{mg:Str->Option Value}{ρ:List Addr}{H:Hp}{d:D}{ds:List D}{v:V}{vs:List V}(h:ay K mg ρ H (d::ds) (v::vs)):Rep K mg ρ H d v/\ay K mg ρ H ds vs:=by
 rw[ay]at h;obtain⟨u,r,e,h1,h2⟩:=h;cases e;exact⟨h1,h2⟩
mutual
theorem agq{K:PySem.W.Frag}{mg:Str->Option Value}{ρ:List Addr}{H:Hp}(cm:∀{a:Addr} {vs ws:List V},SqT K H a vs->SqT K H a ws->vs=ws):∀(d e:D) (x:V),F0 d e=true->Rep K mg ρ H d x->Rep K mg ρ H e x->False
 |d,e,x,h,r,r2=>by
  unfold F0 at h;split at h
  .rw[Rep]at r r2
   rw[r]at r2;cases r2;simp at h
  .rw[Rep]at r r2
   rw[r]at r2;cases r2;simp at h
  .rw[Rep]at r r2
   obtain⟨a,vs,au,h1,cB⟩:=r;obtain⟨a2,qB,e2,h2,tp⟩:=r2;rw[au]at e2;cases e2;obtain⟨_,h1⟩:=h1;obtain⟨_,h2⟩:=h2;rw[h1]at h2;cases h2;exact BA cm _ _ _ h cB tp
  .rw[Rep]at r r2
   obtain⟨a,vs,au,h1,cB⟩:=r;obtain⟨a2,qB,e2,h2,tp⟩:=r2;rw[au]at e2;cases e2;rw[cm h2.df h1.df]at tp;exact BA cm _ _ _ h cB tp
  .rw[Rep]at r r2
   obtain⟨a,C,bx,fs,ex,_,hm,ea,hn,cB⟩:=r;obtain⟨a2,dB,vM,pL,mV,_,gF,eb,jy,vN⟩:=r2;rw[ex]at mV;cases mV;rw[ea]at eb;cases eb;exact BA cm _ _ _ h cB vN
  .cases h
termination_by d=>sizeOf d
theorem BA{K:PySem.W.Frag}{mg:Str->Option Value}{ρ:List Addr}{H:Hp}(cm:∀{a:Addr} {vs ws:List V},SqT K H a vs->SqT K H a ws->vs=ws):∀(xs ys:List D) (vs:List V),rx xs ys=true->ay K mg ρ H xs vs->ay K mg ρ H ys vs->False
 |[],[],vs,h,_,_=>by simp[rx]at h
 |[],y::ys,vs,_,r,r2=>by
  have au:=r.len;have e2:=r2.len;simp only[mH,List.length_cons]at au e2;omega
 |x::xs,[],vs,_,r,r2=>by
  have au:=r.len;have e2:=r2.len;simp only[mH,List.length_cons]at au e2;omega
 |x::xs,y::ys,vs,h,r,r2=>by
  rw[rx,Bool.or_eq_true]at h;cases vs with
  |nil=>have:=r.len;simp at this
  |cons v vs =>
   obtain⟨a,b⟩:=F1 r;obtain⟨a2,de⟩:=F1 r2;rcases h with h|h
   .exact agq cm x y v h a a2
   .exact BA cm xs ys vs h b de
termination_by xs=>sizeOf xs
end
theorem Mq{K:PySem.W.Frag}{mg:Str->Option Value}{ρ:List Addr}{H:Hp}{f:D->D->Option Bool}(h:∀d e x b,Rep K mg ρ H d x->Rep K mg ρ H e x->f d e=some b->b=true):∀{xs ys:List D} {vs:List V} {b:Bool},ay K mg ρ H xs vs->ay K mg ρ H ys vs->eS f xs ys=some b->b=true
 |[],ys,vs,b,_,_,p=>by
  rw[eS]at p
  .exact(Option.some.inj p).symm
  .simp
 |x::xs,[],vs,b,_,_,p=>by
  rw[eS]at p
  .exact(Option.some.inj p).symm
  .simp
 |x::xs,y::ys,vs,b,r,r2,p=>by
  cases vs with
  |nil=>have:=r.len;simp at this
  |cons v vs =>
   obtain⟨a,c⟩:=F1 r;obtain⟨a2,c2⟩:=F1 r2;rw[eS]at p;cases q:f x y with
   |none=>rw[q]at p;cases p
   |some t =>
    have:=h x y v t a a2 q;subst this;rw[q]at p;exact Mq h c c2 p
end
theorem Ve:∀{ss:List Str} {us:List Value},us.map PF=ss.map some->Vals (ss.map V.str) us
 |[],[],_=>.nil
 |s::ss,u::us,h=>by
  simp only[c1,List.cons.injEq]at h;refine .cons ?_ (Ve h.2);cases u with
  |str x t =>
   have e:some x=some s:=h.1;cases e;exact⟨t,rfl⟩
  |_=>exact nomatch (show(none:Option Str)=some s from h.1)
 |[],_::_,h=>by simp at h
 |_::_,[],h=>by simp at h
theorem agr{K:PySem.W.Frag}{a:Addr}{ss:List Str}(h:H8 K a ss=true):DJ K a (ss.map V.str):=by
 unfold H8 at h;split at h
 .rename_i c bx its n sl e
  rw[Bool.and_eq_true,Bool.and_eq_true,decide_eq_true_iff,decide_eq_true_iff,decide_eq_true_iff]at h;exact⟨_,its,n,e,h.1,rfl,h.2.1,Ve h.2.2⟩
 .cases h
section
variable{X:Cx}{W:WX}{x:Str}{pos:Pos}
theorem F2{ss:List Str}{ds:List D}(h:∃a,X.mg x=some (.ref a)/\DJ X.K a (ss.map V.str))(e:ds=ss.map D.str:=by rfl)(hg:Gl X x:=by rfl)(hd:(x==("__debug__":Str))=false:=by decide):E X W (.Name x pos) (ah (.tup ds)):=by
 subst e;obtain⟨a,h,t⟩:=h;exact IW (v:=.ref a) hg h rfl (λρ H=>by rw[Rep];exact⟨a,_,rfl,.inr t,JE ss⟩) hd
end
open PySem PySem.Spec PyProof.Rows L2
def BD(ρ:List Addr)(H:Hp)(aj:List Addr)(H':Hp):Prop:=∀a o,a∉ρ->H a=some (.frz o (.own 0))->a∉aj/\H' a=some (.frz o (.own 0))
section
variable{K:PySem.W.Frag}{mg:Str->Option Value}{ρ aj:List Addr}{H H':Hp}
theorem k0.gM(x:BD ρ H aj H'){da:List (Str×Addr)}:∀{ns:List Str} {vs:List V},k0 ρ H da ns vs->k0 aj H' da ns vs
 |[],_,h=>h
 |n::ns,_,⟨v,r,c,o,u,e,h1,n1,h2,aI,bE,hd,cw⟩=>by
  obtain⟨IV,qs⟩:=x _ _ n1 h2;exact⟨v,r,c,o,u,e,h1,IV,qs,aI,bE,hd,k0.gM x cw⟩
mutual
theorem Rep.gM(x:Kp ρ H aj H'):∀(d:D) (v:V),BD ρ H aj H'->Rep K mg ρ H d v->Rep K mg aj H' d v
 | .non,v,hf,h=>by rw[Rep]at h ⊢;exact h
 | .bl b,v,hf,h=>by rw[Rep]at h ⊢;exact h
 | .int i,v,hf,h=>by rw[Rep]at h ⊢;exact h
 | .str s,v,hf,h=>by rw[Rep]at h ⊢;exact h
 | .ty n,v,hf,h=>by rw[Rep]at h ⊢;exact h
 | .cls c,v,hf,h=>by rw[Rep]at h ⊢;exact h
 | .tup ds,v,hf,h=>by
  rw[Rep]at h ⊢;obtain⟨a,vs,e,t,r⟩:=h;exact⟨a,vs,e,t.kp x,ay.gM x ds vs hf r⟩
 | .bS ds,v,hf,h=>by
  rw[Rep]at h ⊢;obtain⟨a,vs,e,t,r⟩:=h;exact⟨a,vs,e,t.kp x,ay.gM x ds vs hf r⟩
 | .lst ds,v,hf,h=>by
  rw[Rep]at h ⊢;obtain⟨a,vs,e,t,r⟩:=h;exact⟨a,vs,e,t.kp x,ay.gM x ds vs hf r⟩
 | .dct ks ds,v,hf,h=>by
  rw[Rep]at h ⊢;obtain⟨a,bP,vs,e,t,r1,r2⟩:=h;exact⟨a,bP,vs,e,t.kp x,ay.gM x ks bP hf r1,ay.gM x ds vs hf r2⟩
 | .dX w ks ds,v,hf,h=>by
  rw[Rep]at h ⊢;obtain⟨a,bP,vs,e,t,r1,r2⟩:=h;exact⟨a,bP,vs,e,t.kp x,ay.gM x ks bP hf r1,ay.gM x ds vs hf r2⟩
 | .ins c ns ds,v,hf,h=>by
  rw[Rep]at h ⊢;obtain⟨a,C,bx,fs,e,n,hm,ha,hn,r⟩:=h;exact⟨a,C,bx,fs,e,(x.rd a _ (by intros;nofun) (by intros;nofun) n (.inl ha)).1,hm,x.ins a C bx fs n ha,hn,ay.gM x ds _ hf r⟩
 | .ptr n,v,hf,h=>by
  rw[Rep]at h ⊢;obtain⟨a,e,q⟩:=h;exact⟨a,e,x.get n a q⟩
 | .cy xs,v,hf,h=>by
  rw[Rep]at h ⊢;obtain⟨a,e,q⟩:=h;exact⟨a,e,q.kp x⟩
 | .exc c ns ds,v,hf,h=>by
  rw[Rep]at h ⊢;obtain⟨a,C,d,fs,e,n,nd,hm,ha,hd,hn,r⟩:=h;obtain⟨jK,zM⟩:=x.ext _ _ n ha;obtain⟨w9,k2⟩:=x.xd _ _ nd hd;exact⟨a,C,d,fs,e,jK,w9,hm,zM,k2,hn,ay.gM x ds _ hf r⟩
 | .lam T da,v,hf,h=>by
  rw[Rep]at h ⊢;obtain⟨f,e,h⟩:=h;exact⟨f,e,h.kp x⟩
 | .h4 T o4,v,hf,h=>by
  rw[Rep]at h ⊢;obtain⟨f,da,vs,e,h1,h2,r⟩:=h;exact⟨f,da,vs,e,h1.kp x,h2.gM hf,ay.gM x o4 vs hf r⟩
theorem ay.gM(x:Kp ρ H aj H'):∀(ds:List D) (vs:List V),BD ρ H aj H'->ay K mg ρ H ds vs->ay K mg aj H' ds vs
 |[],vs,_,h=>by rw[ay]at h ⊢;exact h
 |d::ds,vs,hf,h=>by
  rw[ay]at h ⊢;obtain⟨v,r,e,h1,h2⟩:=h;exact⟨v,r,e,Rep.gM x d v hf h1,ay.gM x ds r hf h2⟩
end
theorem i3.gM(x:Kp ρ H aj H')(f:BD ρ H aj H'){a:Addr}{m:dk}(e:H' a=H a)(h:i3 K mg ρ H a m):i3 K mg aj H' a m:=by
 cases m with
 |lst ds =>
  obtain⟨vs,h1,h2⟩:=h;exact⟨vs,e.trans h1,ay.gM x _ _ f h2⟩
 |dct lk ks ds =>
  obtain⟨kvs,h1,h2,aI⟩:=h;refine⟨kvs,?_,ay.gM x _ _ f h2,ay.gM x _ _ f aI⟩;cases lk with
  |true =>
   rw[if_pos rfl]at h1 ⊢;rcases h1 with h1|⟨o,h1⟩
   .exact .inl (e.trans h1)
   .exact .inr ⟨o,e.trans h1⟩
  |false =>
   grind
 |dX w ks ds =>
  obtain⟨hs,es,bP,vs,h1,h2,aI,bE⟩:=h;exact⟨hs,es,bP,vs,e.trans h1,h2,ay.gM x _ _ f aI,ay.gM x _ _ f bE⟩
 |ins c ns ds =>
  obtain⟨C,bx,fs,h0,h1,h2,aI⟩:=h;exact⟨C,bx,fs,h0,e.trans h1,h2,ay.gM x _ _ f aI⟩
 |tab P q =>
  obtain⟨bu,ps,h1,h2,aI⟩:=h;refine⟨bu,ps,e.trans h1,h2,λpos qq hc=>?_⟩;obtain⟨c,au,n,e2⟩:=aI pos qq hc;obtain⟨jK,ags⟩:=x.ext _ _ n e2;exact⟨c,au,jK,ags⟩
 |dead=>exact trivial
end
end Z
namespace ZG
open PySem PySem.Spec GenW PyProof.Rows L2
theorem F3:∀(names:List (Str×NameKind)) (n:Nat) (acc:List (Str×Addr)) (p:Str×Addr),p∈cellsFrom n names acc->p∈acc\/(n<=p.2/\∃k,(p.1,k)∈names)
 |[],n,acc,p,h=>.inl h
 |(x,k)::r,n,acc,p,h=>by
  rw[cellsFrom]at h;split at h
  .rcases F3 r (n+1) _ p h with q|⟨q,Mr,hk⟩
   .rcases g6.mp q with q|q
    .subst q;exact .inr ⟨Nat.le_refl _,k,uf⟩
    .exact .inl q
   .exact .inr ⟨by omega,Mr,iZ _ hk⟩
  .rcases F3 r n _ p h with q|⟨q,Mr,hk⟩
   .exact .inl q
   .exact .inr ⟨q,Mr,iZ _ hk⟩
theorem Ms:∀(names:List (Str×NameKind)) (n:Nat) (acc:List (Str×Addr)),(acc.Pairwise λx y=>x.2≠y.2)->(∀p∈acc,p.2<n)->(cellsFrom n names acc).Pairwise λx y=>x.2≠y.2
 |[],n,acc,h,_=>h
 |(x,k)::r,n,acc,h,hl=>by
  rw[cellsFrom];split
  .exact Ms r (n+1) _ (List.pairwise_cons.mpr ⟨λp hp=>qg (hl p hp),h⟩) λp hp=>by
    rcases g6.mp hp with q|q
    .subst q;exact qe n
    .exact Nat.lt_succ_of_lt (hl p q)
  .exact Ms r n _ h hl
structure BE(N:List Str)(scope:Scope):Prop where
 kind:scope.kind=.function
 zL:∀y∈scope.names,y.2≠.free
abbrev xh(scope:Scope)(n:Addr):List (Str×Addr):=cellsFrom (n+1) scope.names []
def gk(scope:Scope)(n:Addr):List Addr:=scope.names.filterMap λy=>(xh scope n).lookup y.1
theorem F4{scope:Scope}{n b:Addr}(h:b∈gk scope n):∃x,(xh scope n).lookup x=some b:=by
 obtain⟨y,_,e⟩:=y5.mp h;exact⟨y.1,e⟩
theorem Mu{scope:Scope}{n b:Addr}{x:Str}(h:(xh scope n).lookup x=some b):b∈gk scope n:=by
 rcases F3 _ _ _ _ (qh h)with q|⟨_,k,hk⟩
 .cases q
 .exact y5.mpr ⟨(x,k),hk,h⟩
theorem Vf{scope:Scope}{n b:Addr}{x:Str}(h:(xh scope n).lookup x=some b):n<b:=by
 rcases F3 _ _ _ _ (qh h)with q|⟨q,_⟩
 .cases q
 .exact q
theorem Mv{scope:Scope}{n b:Addr}(h:b∈gk scope n):n<b:=by
 obtain⟨x,e⟩:=F4 h;exact Vf e
structure yz(N:List Str)(scope:Scope)(env:Env)(n:Addr)(σ:L2.St)(h:Heap):Prop where
 loc:∃m,h.Ns n m/\∀(i:Nat) (x:Str) (v:V),N[i]?=some x->σ[i]?=some (some v)->Vis scope x->∃u,RelV v u/\Look env h m x u
 cell:∀x c,(xh scope n).lookup x=some c->∃v,h.IsCell c v
 len:σ.length=N.length
section
variable{P:Program}{w:World}{K:PySem.W.Frag}{mg:Str->Option Value}{base:Heap}{N:List Str}{qual:Str}{scope:Scope}{f:Addr}{cd:Value}{A:Around}{outer:List Env}{n:Addr}{s s':Shared}{H H':Hp}{pn pins:List (Addr×Obj)}{xe:Value->Shared->Prop}{σ:L2.St}
theorem agt(S:BE N scope)(hd:A.handled=none)(cG:Env0 P w K mg base A outer s H)(hn:n<=s.heap.objs.size)(gB:∀b∈frs outer,b<n)(hb:base.objs.size<=n)(BF:yz N scope (envOfC qual scope n f cd) n σ s.heap)(eK:H n=none)(g_:∀b∈gk scope n,H b=none)
  (BG:∀p∈pn++pins,s.heap.get? p.1=some p.2/\H p.1=none/\p.1≠n/\p.1∉frs outer/\∀v,p.2.data≠.cell v) :
  Inv (oL P w K mg base N qual scope f cd A outer n s H pn xe) pins σ H s where
 ok:={
  mod:=cG.mod
  kind:=S.kind
  glob:=rfl
  blt:=rfl
  above:=by
   show(rq n s.heap).objs.size<=n;rw[L' hn];exact Nat.le_refl _
  inj:=λx y c h1 h2=>name_of_addr (Ms _ _ _ .nil (λp hp=>by cases hp)) (qh h1) (qh h2)
  has:=λx h=>by
   have h:scope.names.lookup x=some .cell\/scope.names.lookup x=some .free:=h;rcases h with h|h
   .exact cell_has h
   .exact absurd rfl (S.zL _ (qh h))
  cab:=λx c _ h=>by
   show(rq n s.heap).objs.size<=c;rw[L' hn];exact js (Vf h)
  hd:=λ_=>hd
  frames:=Around.frames_deeper cG.frames
  stk:=.inr ⟨rfl,rfl⟩
  exf:=λb h=>absurd (show b∈([]:List Addr)from h) (by simp)
  bs:=λb o e=>⟨yr (jr (Heap.lt_size e) hb) (cG.bs b o e).1,(cG.bs b o e).2⟩
  bsz:=by
   show base.objs.size<=(rq n s.heap).objs.size;rw[L' hn];exact hb
  noex:=λb o _ h=>absurd (show b∈([]:List Addr)from h) (by simp)
  exfs:=λb h=>absurd (show b∈([]:List Addr)from h) (by simp)
  funs:=U0 cG.funs gB
  frf:=cG.frf }
 os:=rfl
 bare:=cG.bare
 base:={
  keep:=λb o e _ _ _=>(Ma e).2
  slot:=λb o e _ _ _=>⟨o.slots,(Ma e).2⟩
  free:=λb o _ h _=>h
  there:=λb o e _=>⟨o,(Ma e).2⟩
  tups:=λb xs h=>h
  frzs:=λb o u h=>h
  tbls:=λb ps h=>⟨#[],by rw[Array.append_empty];exact h⟩ }
 loc:=BF.loc
 cell:=BF.cell
 free:=eK
 freeC:=λx c h=>g_ c (Mu h)
 pin:=BG
 hok:=cG.hok
 len:=BF.len
theorem agu(I:Inv (oL P w K mg base N qual scope f cd A outer n s H pn xe) pins σ H' s'):yz N scope (envOfC qual scope n f cd) n σ s'.heap/\H' n=none/\∀b∈gk scope n,H' b=none :=
 ⟨⟨I.loc,I.cell,I.len⟩,I.free,λb hb=>by
  obtain⟨x,e⟩:=F4 hb;exact I.freeC x b e⟩
end
section
variable{X:Cx}{N:List Str}{qual:Str}{scope:Scope}{f:Addr}{cd:Value}{n:Addr}{own:List Addr}{s s1:Shared}{H H1:Hp}{W:WX}{pins:List (Addr×Obj)}{σ:L2.St}
theorem agv{gj:L2.St}{pR:List (Addr×Obj)}(S:BE N scope)(hd:X.A.handled=none)(I:Inv X pins σ H s)(y:rr X pins n own H)(hn:n<=s.heap.objs.size)(hb:X.base.objs.size<=n)(BF:yz N scope (envOfC qual scope n f cd) n gj s.heap)(eK:H n=none)(g_:∀b∈gk scope n,H b=none)
  (BG:∀p∈pR,s.heap.get? p.1=some p.2/\H p.1=none/\p.1≠n/\p.1∉frs X.stack/\∀v,p.2.data≠.cell v):Inv (eM X N qual scope f cd n own s H W) pR gj H s:=by
 refine FT.mpr (agt S hd ?_ hn y.fs hb BF eK g_ λp hp=>?_)
 .have cG:=I.env0
  exact⟨cG.frames,cG.mod,cG.bs,cG.bsz,cG.funs,cG.frf,cG.hok,cG.bare⟩
 .rcases mD.mp hp with z|z
  .exact afZ eK p z
  .exact BG p z
theorem agw{gj:L2.St}{pR:List (Addr×Obj)}(f5:Inv (eM X N qual scope f cd n own s H W) pR gj H1 s1):yz N scope (envOfC qual scope n f cd) n gj s1.heap/\H1 n=none/\∀b∈gk scope n,H1 b=none:=agu (FT.mp f5)
end
def BH(X:Cx)(cl:List Addr)(H:Hp)(h:Heap):Prop:=∀b∈cl,(∃o v,h.get? b=some o/\o.data=.cell v)/\H b=none/\b≠X.env.locals/\(∀x c,X.env.cells.lookup x=some c->c≠b)/\(b∈X.ex\/X.s_0.heap.objs.size<=b)
def lx(H:Hp)(h:Heap)(cl:List Addr):Hp:=λb=>if b∈cl then(h.get? b).map λo=>.frz o (.own 1)else H b
def nz(H:Hp)(cl:List Addr):Hp:=λb=>if b∈cl then none else H b
theorem Vg{H:Hp}{h:Heap}{cl:List Addr}{b:Addr}{o:Obj}(hb:b∈cl)(e:h.get? b=some o):lx H h cl b=some (.frz o (.own 1)):=by
 unfold lx;rw[if_pos hb,e];rfl
theorem kG{H:Hp}{h:Heap}{cl:List Addr}{b:Addr}(hb:b∉cl):lx H h cl b=H b:=if_neg hb
theorem Mw{H:Hp}{cl:List Addr}{b:Addr}(hb:b∈cl):nz H cl b=none:=if_pos hb
theorem ly{H:Hp}{cl:List Addr}{b:Addr}(hb:b∉cl):nz H cl b=H b:=if_neg hb
theorem agx{H:Hp}{cl:List Addr}{b:Addr}{u:HO}(e:nz H cl b=some u):b∉cl/\H b=some u:=by
 unfold nz at e;split at e
 .cases e
 .rename_i hb
  exact⟨hb,e⟩
section
variable{X:Cx}{pins:List (Addr×Obj)}{σ:L2.St}{cl:List Addr}{H dH:Hp}{s BI:Shared}{ρ e9:List Addr}{S ia:Z.Store}{K:PySem.W.Frag}{mg:Str->Option Value}
theorem Vh(a6:∀b∈cl,H b=none):Z.Ext ρ H ρ (lx H s.heap cl):=⟨⟨[],by simp⟩,λa h n=>absurd h n,λa o n e=>by
 refine .inl ?_;rw[kG λhb=>?_]
 .exact e
 .rw[a6 a hb]at e;cases e⟩
theorem agy{H':Hp}(w:Z.aF K mg ρ H S)(x:Z.Ext ρ H ρ H')(e:∀a∈ρ,H' a=H a):Z.aF K mg ρ H' S :=
 ⟨w.len,w.nd,λa ha=>by rw[e a ha];exact w.tr a ha,λn a m au e2=>Z.i3.ext x (e a (nT au)) (w.ob n a m au e2)⟩
theorem agz(w:Z.aF K mg ρ H S)(a6:∀b∈cl,H b=none):Z.aF K mg ρ (lx H s.heap cl) S :=
 agy w (Vh a6) λa ha=>kG λhb=>w.tr a ha (a6 a hb)
theorem agA(I:Inv X pins σ H s)(y:BH X cl H s.heap):Inv X pins σ (lx H s.heap cl) s where
 ok:=I.ok
 os:=I.os
 bare:=I.bare
 base:={
  keep:=I.base.keep
  slot:=I.base.slot
  free:=λb o e n hx=>by
   rw[kG λhb=>?_]
   .exact I.base.free b o e n hx
   .rcases(y b hb).2.2.2.2 with z|z
    .exact hx z
    .exact absurd (jr (Heap.lt_size e) z) (kZ _)
  there:=I.base.there
  tups:=λb xs e=>by
   have:=I.base.tups b xs e;rw[kG λhb=>by rw[(y b hb).2.1]at this;cases this];exact this
  frzs:=λb o u e=>by
   have:=I.base.frzs b o u e;rw[kG λhb=>by rw[(y b hb).2.1]at this;cases this];exact this
  tbls:=λb ps e=>by
   obtain⟨more,this⟩:=I.base.tbls b ps e;exact⟨more,by rw[kG λhb=>by rw[(y b hb).2.1]at this;cases this];exact this⟩ }
 loc:=I.loc
 cell:=I.cell
 free:=by rw[kG λhb=>(y _ hb).2.2.1 rfl];exact I.free
 freeC:=λx c e=>by rw[kG λhb=>(y _ hb).2.2.2.1 x c e rfl];exact I.freeC x c e
 pin:=λp hp=>by
  obtain⟨h1,h2,aI,bE,cw⟩:=I.pin p hp;refine⟨h1,?_,aI,bE,cw⟩;rw[kG λhb=>?_]
  .exact h2
  .obtain⟨⟨o,v,e,bB⟩,_⟩:=y _ hb
   rw[e]at h1;cases h1;exact cw v bB
 hok:=λa o e=>by
  by_cases hb:a∈cl
  .obtain⟨⟨ob,v,au,bB⟩,_⟩:=y a hb
   rw[Vg hb au]at e;cases e;exact⟨au,ob,au⟩
  .rw[kG hb]at e
   exact(I.hok a o e).stay (λ_ _ _ q=>q) (λb q=>by rw[kG λhb=>by rw[(y b hb).2.1]at q;cases q];exact q) λb xs q=>by rw[kG λhb=>by rw[(y b hb).2.1]at q;cases q];exact q
 len:=I.len
theorem agB(y:BH X cl H s.heap)(w:Z.aF K mg ρ H S)(x:Z.Ext ρ (lx H s.heap cl) e9 dH):∀b∈cl,b∉e9/\∃o,s.heap.get? b=some o/\dH b=some (.frz o (.own 1)):=λb hb=>by
 obtain⟨⟨o,v,e,_⟩,hn,_⟩:=y b hb;have Vi:b∉ρ:=λz=>w.tr b z hn;have au:lx H s.heap cl b=some (.frz o (.own 1)):=Vg hb e;exact⟨x.nin Vi au,o,e,x.kept Vi au (by intros;nofun)⟩
theorem agC(a6:∀b∈cl,H b=none)(x:Z.Ext ρ (lx H s.heap cl) e9 dH):Z.Ext ρ H e9 (nz dH cl):=by
 refine⟨x.pre,λa h n=>?_,λa o n e=>?_⟩
 .by_cases hb:a∈cl
  .exact a6 a hb
  .have:=x.new a h n
   rw[kG hb]at this;exact this
 .have hb:a∉cl:=λhb=>by rw[a6 a hb]at e;cases e
  rw[ly hb];exact x.keep a o n (by rw[kG hb];exact e)
theorem agD(t:∀b∈cl,b∉e9/\∃o,dH b=some (.frz o (.own 1))):Z.Kp e9 dH e9 (nz dH cl):=by
 have ne:∀{a:Addr} {u:HO},dH a=some u->(∀o,u≠.frz o (.own 1))->nz dH cl a=some u:=λ{a u} e h=>by
  rw[ly λhb=>?_]
  .exact e
  .obtain⟨_,o,au⟩:=t a hb
   rw[e]at au;exact h o (Option.some.inj au)
 refine⟨λa u h1 h2 n r=>⟨n,?_⟩,λa vs n e=>ne e (by intros;nofun),λa vs n e=>ne e (by intros;nofun),λa C bx fs n e=>ne e (by intros;nofun),λn a e=>e,λa bY n e=>⟨n,ne e (by intros;nofun)⟩,λa fs n e=>⟨n,ne e (by intros;nofun)⟩,λa o vs n e=>⟨n,ne e (by intros;nofun)⟩⟩;rcases r with r|⟨o,r⟩
 .exact .inl (ne r λo=>h1 o _)
 .exact .inr ⟨o,ne r λe6 z=>by cases z;exact h2 1 rfl⟩
theorem agE(t:∀b∈cl,b∉e9/\∃o,dH b=some (.frz o (.own 1))):Z.BD e9 dH e9 (nz dH cl):=λa o n e=>⟨n,by
 rw[ly λhb=>?_]
 .exact e
 .obtain⟨_,e6,au⟩:=t a hb
  rw[e]at au;cases au⟩
theorem agF(w:Z.aF K mg e9 dH ia)(t:∀b∈cl,b∉e9/\∃o,dH b=some (.frz o (.own 1))):Z.aF K mg e9 (nz dH cl) ia:=by
 have eq:∀a∈e9,nz dH cl a=dH a:=λa ha=>ly λhb=>(t a hb).1 ha;exact⟨w.len,w.nd,λa ha=>by rw[eq a ha];exact w.tr a ha,λn a m au e2=>Z.i3.gM (agD t) (agE t) (eq a (nT au)) (w.ob n a m au e2)⟩
theorem agG{s:Shared}(Br:Inv X pins σ H s){jg:L2.St}{Vj:List (Addr×Obj)}(y:BH X cl H s.heap)(I:Inv X Vj jg dH BI)(t:∀b∈cl,∃o,dH b=some (.frz o (.own 1))):Inv X Vj jg (nz dH cl) BI where
 ok:=I.ok
 os:=I.os
 bare:=I.bare
 base:={
  keep:=I.base.keep
  slot:=I.base.slot
  free:=λb o e n hx=>by
   by_cases hb:b∈cl
   .exact Mw hb
   .rw[ly hb];exact I.base.free b o e n hx
  there:=I.base.there
  tups:=λb xs e=>by
   rw[ly λhb=>?_]
   .exact I.base.tups b xs e
   .have:=Br.base.tups b xs e
    rw[(y b hb).2.1]at this;cases this
  frzs:=λb o u e=>by
   rw[ly λhb=>?_]
   .exact I.base.frzs b o u e
   .have:=Br.base.frzs b o u e
    rw[(y b hb).2.1]at this;cases this
  tbls:=λb ps e=>by
   rw[ly λhb=>?_]
   .exact I.base.tbls b ps e
   .obtain⟨_,this⟩:=Br.base.tbls b ps e
    rw[(y b hb).2.1]at this;cases this }
 loc:=I.loc
 cell:=I.cell
 free:=by rw[ly λhb=>(y _ hb).2.2.1 rfl];exact I.free
 freeC:=λx c e=>by rw[ly λhb=>(y _ hb).2.2.2.1 x c e rfl];exact I.freeC x c e
 pin:=λp hp=>by
  obtain⟨h1,h2,aI,bE,cw⟩:=I.pin p hp;refine⟨h1,?_,aI,bE,cw⟩;by_cases hb:p.1∈cl
  .exact Mw hb
  .rw[ly hb];exact h2
 hok:=λa o e=>by
  obtain⟨hb,e⟩:=agx e;have ne:∀b,b∈cl->∀u,dH b=some u->(∀o,u≠.frz o (.own 1))->False:=λb hb u e h=>by
   obtain⟨o,au⟩:=t b hb;rw[e]at au;exact h o (Option.some.inj au)
  exact(I.hok a o e).stay (λ_ _ _ q=>q) (λb q=>by rw[ly λhb=>ne b hb _ q (by intros;nofun)];exact q) λb xs q=>by rw[ly λhb=>ne b hb _ q (by intros;nofun)];exact q
 len:=I.len
theorem agH(I:Inv X pins σ dH BI)(t:∀b∈cl,b∉e9/\∃o,s.heap.get? b=some o/\dH b=some (.frz o (.own 1))):∀b∈cl,∀o,s.heap.get? b=some o->BI.heap.get? b=some o:=λb hb o e=>by
 obtain⟨_,e6,au,e2⟩:=t b hb;rw[e]at au;cases au;exact(I.hok b _ e2).1
structure Mx(X:Cx)(pins:List (Addr×Obj))(σ:L2.St)(H:Hp)(N:List Str)(qual:Str)(scope:Scope)(f:Addr)(cd:Value)(body:List Stmt)(vs:List V)(n a:Addr)(g:Nat)(s':Shared):Prop where
 old:FW X n a
 tq:a<s'.heap.objs.size
 inv:Inv X pins σ H s'
 gen:s'.heap.IsGen a g
 at_:s'.gens[g]?=some (.fresh (.func body (envOfC qual scope n f cd)))
 fr:yz N scope (envOfC qual scope n f cd) n (start N vs) s'.heap
 hn:H n=none
 ha:H a=none
 hc:∀b∈gk scope n,H b=none
 pins:∀p∈X.pn++pins,p.1<n
end
section
variable{X:Cx}{pins:List (Addr×Obj)}{σ:L2.St}{H:Hp}{s:Shared}{f:Addr}{name qual:Str}{params:Arguments}{body:List Stmt}{scope:Scope}{g7 kV doc pm eR ct eZ:Value}{an od:Option Addr}{il:Array (Option Value)}{N ps:List Str}{us:List Value}{vs:List V}{args:Args}
theorem jpg(I:Inv X pins σ H s)(hd:X.A.handled=none)(vU:X.A.depth<recursionLimit)(lk:X.K.lookup f=some ⟨eZ,od,.func (PySem.W.fnOf name qual params body scope g7 kV doc pm an eR ct),il⟩)(jM:PySem.W.codeIn X.K eR qual=true)
  (Sc:GScope N ps scope) (hb:BindsTo s (PySem.W.fnOf name qual params body scope g7 kV doc pm an eR ct) args (ps.zip us)) (r:Vals vs us) (hl:vs.length=ps.length) :
  codeAny (model X.prog X.w) X.A (.call (.ref f) args) (λr s'=>∃(a:Addr) (g:Nat),r=.ok (.ret (.ref a))/\Mx X pins σ H N qual scope f eR body vs s.heap.objs.size a g s') s:=by
 have cG:=I.env0;have KX:X.K.In s.heap:=I.kIn;have lim:s.heap.NoLimit:=I.nolimit;have agI:∀y∈ps.zip us,scope.names.lookup y.1=some .local\/(scope.names.lookup y.1=some .cell/\((cellsFrom (s.heap.objs.size+1) scope.names []).lookup y.1).isSome=true):=fun⟨nn,v⟩ a6=>by
  rcases Sc.par nn (y4 a6).1 with q|q
  .exact .inl q
  .exact .inr ⟨q,PySem.W.cellsFrom_some _ _ _ (.inl q)⟩
 refine codeAny_call_generator vU (KX _ _ lk) rfl Sc.co Sc.gen rfl (PySem.W.codeRec_of KX jM) (hb _ _ _ _ ?_);refine wpAny_newFunctionEnv_cells Sc.kind agI λenv he s1 x=>?_;subst he;have agJ:s1.heap.NoLimit:=lim.keeps x.toInCall.keep;refine⟨agJ,?_⟩;obtain⟨h1,tk,Vk,BJ⟩:=x.done;have os1:s1.os=s.os:=by rw[Vk]
 have agK:s1.gens=s.gens:=by rw[Vk]
 have agL:s.heap.objs.size<s1.heap.objs.size:=x.toInCall.ns.lt;have f5:=inv_startG (E:=λ_ _ _=>False) Sc hd cG hl r x;have I1:Inv X pins σ H s1:=I.call' (ch:=[]) os1 (Un.kept x.toInCall.keep) (I.hok.kept x.toInCall.keep) (by rw[agK];exact I.bare) λb z=>by simp at z
 have main:∀(go:Obj) (nm hW:Value) (m8:Nat),go.cls=.type "generator"->go.data=.fields #[.int s1.gens.size 0,nm,hW]->go.slots = #[]->(∀h:Heap,(h.push go).get? h.objs.size=some go) ->
   Mx X pins σ H N qual scope f eR body vs s.heap.objs.size s1.heap.objs.size s1.gens.size { s1 with gens:=s1.gens.push (.fresh (.func body (envOfC qual scope s.heap.objs.size f eR))),toks:=m8,heap:=s1.heap.push go }:=by
  intro go nm hW m8 agM agN je Vl;have kp:∀b o,s1.heap.get? b=some o->(s1.heap.push go).get? b=some o:=λb o e=>Heap.get?_push_of_some _ e;have xS:∀{c:Addr} {v:Option Value},s1.heap.IsCell c v->(s1.heap.push go).IsCell c v:=λ{c v} ⟨o,e,r⟩=>⟨o,kp _ _ e,r⟩
  refine⟨aga I agL,Heap.lt_size (Vl s1.heap),?_,⟨go,nm,hW,Vl _,agM,agN,je⟩,Array.getElem?_push_size ..,⟨?_,?_,f5.len⟩,I.hok.fresh (Nat.le_refl _),I1.hok.fresh (Nat.le_refl _),λb hb=>I.hok.fresh (js (Mv hb)),λp hp=>?_⟩
  .exact I1.call' (ch:=[]) rfl (Un.kept kp) (I1.hok.kept kp) (AllBare.push I1.bare rfl) λb z=>by simp at z
  .obtain⟨m,⟨o,es,dF,aQ,bW⟩,look⟩:=f5.loc
   refine⟨m,⟨o,es,dF,kp _ _ aQ,bW⟩,λi y v hi bB a6=>?_⟩;obtain⟨u,cv,lk⟩:=look i y v hi bB a6;refine⟨u,cv,?_⟩;rcases lk with e|⟨k,c,hc,ic⟩
   .exact .inl e
   .exact .inr ⟨k,c,hc,xS ic⟩
  .intro y c hc
   obtain⟨v,ic⟩:=f5.cell y c hc;exact⟨v,xS ic⟩
  .exact Heap.lt_size (I.pin p hp).1
 exact⟨_,_,rfl,main _ _ _ _ rfl rfl rfl λh=>Heap.get?_push_size _ rfl⟩
end
structure Vm(X:Cx)(W:WX)(it:Addr)(ds:List Z.D)(fin:tj)(d7:Nat->Z.Store->Prop)(U:Nat->Z.Store->Z.Store)(tu:U6)(cl:List Addr):Prop where
 obj:∀{i fp ρ H s} {pins:List (Addr×Obj)} {σ:L2.St},tu i fp ρ H s->Inv X pins σ H s->(∃g,s.heap.IsGen it g)/\(∀b∈fp,(∃o,s.heap.get? b=some o/\∀v,o.data≠.cell v)/\H b=none/\b≠X.env.locals/\b∉X.fs)/\BH X cl H s.heap
 mem:∀{i fp ρ H s},tu i fp ρ H s->it∈fp
 keep:∀{i fp ρ H s aj H' s'},tu (i+1) fp ρ H s->Z.Ext ρ H aj H'->(∀b∈fp,H' b=none)->U5 fp s s'->(∀b∈cl,H' b=none)->(∀b∈cl,∀o,s.heap.get? b=some o->s'.heap.get? b=some o)->tu (i+1) fp aj H' s'
 item:∀{i fp ρ H s} (pins:List (Addr×Obj)) (σ:L2.St) (S:Z.Store) (hi:i<ds.length),d7 i S->tu i fp ρ H s->Inv X pins σ H s->Z.aF X.K X.mg ρ H S->(∀p∈X.pn++pins,p.1∉fp) ->
  wpAny (model X.prog X.w) X.A (pyNext (.ref it)) (λr s1=>∃u x aj H' BK,r=some u/\RelV x u/\Inv X pins σ H' s1/\Z.Ext ρ H aj H'/\Z.aF X.K X.mg aj H' (U i S)/\Z.Rep X.K X.mg aj H' ds[i] x/\tu (i+1) BK aj H' s1/\∀p∈X.pn++pins,p.1∉BK) X.xe s
 stop:fin=.done->∀{fp ρ H s} (pins:List (Addr×Obj)) (σ:L2.St) (S:Z.Store),d7 ds.length S->tu ds.length fp ρ H s->Inv X pins σ H s->Z.aF X.K X.mg ρ H S->(∀p∈X.pn++pins,p.1∉fp) ->
  wpAny (model X.prog X.w) X.A (pyNext (.ref it)) (λr s1=>r=none/\∃aj H',Inv X pins σ H' s1/\Z.Ext ρ H aj H'/\Z.aF X.K X.mg aj H' (U ds.length S)) X.xe s
 exc:∀{e},fin=.ex e->∀{fp ρ H s} (pins:List (Addr×Obj)) (σ:L2.St) (S:Z.Store),d7 ds.length S->tu ds.length fp ρ H s->Inv X pins σ H s->Z.aF X.K X.mg ρ H S->(∀p∈X.pn++pins,p.1∉fp) ->
  (∀C dd aj H',Z.Ext ρ H aj H'->Z.aF X.K X.mg aj H' S->Z.jJ X.K X.mg aj H' e C dd->W C dd σ H') ->
  wpAny (model X.prog X.w) X.A (pyNext (.ref it)) (λ_ _=>False) X.xe s
abbrev vV:=Z.aL->Z.Store->Z.Out (List Z.D×tj×(Nat->Z.Store->Prop)×(Nat->Z.Store->Z.Store))
section
variable{M:Model}{A:Around}{F:ml}{c:Code}{fs:List Frame}{s:Shared}{env:Env}{K:Flow->Sem PySem.Fin}{J:Value->Sem PySem.Fin}{gd:Bool->Bool}{lv:List Value->List Value}
theorem agO{test:Expr}{body orelse:List Stmt}{pos:Pos}
  (h:∀p,b_ M A (.whileLoop test body orelse env) (M.den (.whileLoop test body orelse env))
   (.ret (λr=>((match r with|.ok f=>(.pure f:Sem Flow)|.error e=>.raise e).onRaise (L2.cameBack env)).wrap K J gd lv) none (gd false) (lv []) c p []::fs) s F) :
  b_ M A c ((exec (.While test body orelse pos) env).wrap K J gd lv) fs s F :=
 L5 (afN h)
end
section
variable{prog:Program}{w:World}{A:Around}{F:ml}{fs:List Frame}{s:Shared}{env:Env}
theorem agP{test:Expr}{body:List Stmt}
  (h:wpAny (model prog w) (A.over (.whileLoop test body [] env) fs) (isTrue test env (eval test env)) (λb s' =>
    if b=true then
     b_ (model prog w) A (.whileLoop test body [] env) ((execs body env).wrap (λf=>match f with
      | .next|.cont=>.pure (.again (.whileLoop test body [] env))
      | .brk=>.pure (.done .next)
      | .ret v=>.pure (.done (.ret v))) (vQ env) id id) fs s' F
    else b_ (model prog w) A (.whileLoop test body [] env) (leafOf (.ok .next)) fs s' F)
   (λx s'=>b_ (model prog w) A (.whileLoop test body [] env) (vQ env x) fs s' F) s) :
  b_ (model prog w) A (.whileLoop test body [] env) ((model prog w).den (.whileLoop test body [] env)) fs s F:=by
 show b_ _ A _ ((whileTurn test body [] env).onRaise (λx=>do noteFrame x env;theTreesLotGoes x)) fs s F;unfold whileTurn;rw[Sem.onRaise_eq_wrap,Sem.bind_eq_wrap',Sem.wrap_wrap];refine pP (wpAny_mono h (λb s' hb=>?_) λx s' hx=>?_)
 .cases b with
  |true =>
   rw[if_pos rfl]at hb;show b_ _ A _ (Sem.wrap _ _ _ _ (if true=true then _ else _)) fs s' F;rw[if_pos rfl,Sem.bind_eq_wrap',Sem.wrap_wrap];rw[Sem.wrap_congr (execs body env) _ _ (K':=λf=>match f with
      | .next|.cont=>.pure (.again (.whileLoop test body [] env))
      | .brk=>.pure (.done .next)
      | .ret v=>.pure (.done (.ret v))) (H':=vQ env)
    (λf=>by cases f<;>rfl)
    (λe=>by first|exact Sem.bind_eq_wrap _ _|(show(do noteFrame e env;theTreesLotGoes e:Sem Unit).bind (λ_=>.raise e)=_;rw[Sem.bind_eq_wrap]))]
   exact hb
  |false =>
   rw[if_neg j8]at hb;show b_ _ A _ (Sem.wrap _ _ _ _ (if false=true then _ else _)) fs s' F;rw[if_neg j8];exact hb
 .show b_ _ A _ ((do noteFrame x env;theTreesLotGoes x:Sem Unit).bind (λ_=>(.raise x:Sem PySem.Fin))) fs s' F
  rw[Sem.bind_eq_wrap];exact hx
end
structure kI where
 pre:List Stmt
 test:Expr
 As:List Stmt
 yu:Expr
 yv:Pos
 pos:Pos
 vS:List Stmt
 Vn:Pos
def kI.Mh(h:kI):Stmt:=.Expr (.Yield (some h.yu) h.yv) h.pos
def kI.loop(h:kI):List Stmt:=h.As++h.Mh::h.vS
def kI.body(h:kI):List Stmt:=h.pre++[.While h.test h.loop [] h.Vn]
abbrev Vo(t:Expr)(body:List Stmt)(env:Env):Flow->Sem PySem.Fin:=λfl=>match fl with
 | .next|.cont=>.pure (.again (.whileLoop t body [] env))
 | .brk=>.pure (.done .next)
 | .ret v=>.pure (.done (.ret v))
structure F5(C:Cx)(W:WX)(sh:kI)(fT:Z.cz)(fA:Z.SX)(fE:Z.aM)(fB:Z.SX):Prop where
 t:Z.jL C W sh.test fT
 A:Z.gu C W sh.As fA
 e:Z.E C W sh.yu fE
 B:Z.gu C W sh.vS fB
def mr(fT:Z.cz)(fA:Z.SX)(fE:Z.aM)(ds:List Z.D)(slA slY:Nat->Z.aL)(j:Nat)(S ak:Z.Store):Prop :=
 if h:j<ds.length then fT (slA j) S=.ok true S/\fA (slA j) S=.nx (slY j) ak/\fE (slY j) ak=.ok ds[j] ak else fT (slA j) S=.ok false S/\ak=S
structure My(d7:Nat->Z.Store->Prop)(U:Nat->Z.Store->Z.Store)(fT:Z.cz)(fA:Z.SX)(fE:Z.aM)(fB:Z.SX)(ds:List Z.D)(slA slY:Nat->Z.aL):Prop where
 b:∀i,i<ds.length->∀S,d7 (i+1) S->∃S1,fB (slY i) S=.nx (slA (i+1)) S1/\mr fT fA fE ds slA slY (i+1) S1 (U (i+1) S)
section
variable{X:Cx}{N:List Str}{qual:Str}{scope:Scope}{f:Addr}{cd:Value}{n:Addr}{own:List Addr}{s s1:Shared}{H H1:Hp}{W:WX}{sh:kI}{F:ml}{p:Pos}
theorem F6:X.A.in1.over (.func sh.body (envOfC qual scope n f cd)) []=X.A.in1.deeper (envOfC qual scope n f cd):=over_func
theorem BL:X.A.in1.over (.whileLoop sh.test sh.loop [] (envOfC qual scope n f cd)) (kc (envOfC qual scope n f cd) sh.body p)=X.A.in1.deeper (envOfC qual scope n f cd):=(over_loop rfl rfl).trans F6
theorem F7(hF:∀e s2,nr (ny X N qual scope f cd n own s H) W e s2->F (.ret (.error e)) s2){e:Value}(h:((eM X N qual scope f cd n own s H W)).xe e s1):b_ (model X.prog X.w) X.A.in1 (.func sh.body (envOfC qual scope n f cd)) (FV (envOfC qual scope n f cd) e) [] s1 F:=by
 refine pP ?_;rw[F6];exact wpAny_mono h (λ_ s2 q=>UX (.error e) (hF e s2 q)) λ_ _ z=>z.elim
theorem Vp(hF:∀e s2,nr (ny X N qual scope f cd n own s H) W e s2->F (.ret (.error e)) s2){e:Value}(h:cameBackBy (model X.prog X.w) (X.A.in1.deeper (envOfC qual scope n f cd)) (envOfC qual scope n f cd) ((eM X N qual scope f cd n own s H W)).xe e s1):b_ (model X.prog X.w) X.A.in1 (.func sh.body (envOfC qual scope n f cd)) (U_ (envOfC qual scope n f cd) (.error e)) [] s1 F:=by
 show b_ _ _ _ (((L2.cameBack (envOfC qual scope n f cd) e).bind λ_=>(Sem.raise e:Sem Flow)).wrap (U9 (envOfC qual scope n f cd)) (FV (envOfC qual scope n f cd)) id id) _ _ _;rw[Sem.bind_eq_wrap,Sem.wrap_wrap];refine pP ?_;rw[F6];exact wpAny_mono h (λ_ s2 hx=>F7 hF hx) λx s2 hx=>F7 hF hx
theorem Vq(hF:∀e s2,nr (ny X N qual scope f cd n own s H) W e s2->F (.ret (.error e)) s2){e:Value}(h:((eM X N qual scope f cd n own s H W)).xe e s1):b_ (model X.prog X.w) X.A.in1 (.whileLoop sh.test sh.loop [] (envOfC qual scope n f cd)) (vQ (envOfC qual scope n f cd) e) (kc (envOfC qual scope n f cd) sh.body p) s1 F:=by
 have hp:PassesOwn (model X.prog X.w) (X.A.in1.deeper (envOfC qual scope n f cd)) (envOfC qual scope n f cd) ((eM X N qual scope f cd n own s H W)).xe:=U7;refine pP ?_;rw[BL];refine wpAny_bind (wpAny_mono (hp e s1 h) (λ_ s2 Mz=>wpAny_theTreesLotGoes ?_) λy s2 Mz=>?_)
 .exact L6 (.error e) (Vp hF Mz)
 .exact L6 (.error y) (Vp hF Mz)
theorem agQ(h:F (.ret (.ok (.ret .none))) s1):b_ (model X.prog X.w) X.A.in1 (.whileLoop sh.test sh.loop [] (envOfC qual scope n f cd)) (leafOf (.ok .next)) (kc (envOfC qual scope n f cd) sh.body p) s1 F :=
 L6 (.ok .next) (UX (.ok (.ret .none)) h)
def Vr(X:Cx)(ry:Env)(sh:kI)(p:Pos)(gs:GenState):Prop :=
 ∃(k:Resume->Sem PySem.Fin) (l:List Value) (p':Pos) (cl:Bool),gs=.suspended k l (.whileLoop sh.test sh.loop [] ry) p' (kc ry sh.body p) cl/\gs.bare=true /\
  ∀(tf:ml) (s2:Shared),b_ (model X.prog X.w) X.A.in1 (.whileLoop sh.test sh.loop [] ry) ((execs sh.vS ry).wrap (Vo sh.test sh.loop ry) (vQ ry) id id) (kc ry sh.body p) s2 tf ->
   b_ (model X.prog X.w) X.A.in1 (.whileLoop sh.test sh.loop [] ry) (k (.send .none)) (kc ry sh.body p) s2 tf
variable{fT:Z.cz}{fA fB:Z.SX}{fE:Z.aM}{ds:List Z.D}{slA slY:Nat->Z.aL}{d7:Nat->Z.Store->Prop}{U:Nat->Z.Store->Z.Store}{ρ aB:List Addr}{S ak:Z.Store}
structure F8(X:Cx)(N:List Str)(qual:Str)(scope:Scope)(f:Addr)(cd:Value)(n:Addr)(own:List Addr)(s:Shared)(H:Hp)(W:WX)(sh:kI)(ds:List Z.D)(slY:Nat->Z.aL)(ρ:List Addr)(ak:Z.Store)(j:Nat)(F:ml):Prop where
 fe:∀e s2,nr (ny X N qual scope f cd n own s H) W e s2->F (.ret (.error e)) s2
 fd:j=ds.length->∀s2 iH aP aH,Inv (eM X N qual scope f cd n own s H W) [] iH aH s2->Z.Ext ρ H aP aH->Z.aF X.K X.mg aP aH ak->F (.ret (.ok (.ret .none))) s2
 vL:∀(hl:j<ds.length) p v g l k c p' fs s2 x iH aP aH,Inv (eM X N qual scope f cd n own s H W) [] iH aH s2->RelV x v->Z.Ext ρ H aP aH->Z.aF X.K X.mg aP aH ak->Z.cq X.K X.mg aP aH iH (slY j)->Z.Rep X.K X.mg aP aH ds[j] x ->
   (End.susp v g l k c p' fs).quiet=true->Vr X (envOfC qual scope n f cd) sh p (End.susp v g l k c p' fs).genState->F (.susp v g l k c p' fs) s2
theorem Vs(hc:F5 (eM X N qual scope f cd n own s H W) W sh fT fA fE fB)(vP:scope.isCoroutine=false)(hint:interactive (envOfC qual scope n f cd)=false)
  {j:Nat} (cm:j<=ds.length) (hh:mr fT fA fE ds slA slY j S ak) (tv:F8 X N qual scope f cd n own s H W sh ds slY ρ ak j F)
  {iF:L2.St} (I1:Inv (eM X N qual scope f cd n own s H W) [] iF H1 s1) (x1:Z.Ext ρ H aB H1) (aE:Z.aF X.K X.mg aB H1 S) (r1:Z.cq X.K X.mg aB H1 iF (slA j)) :
  b_ (model X.prog X.w) X.A.in1 (.whileLoop sh.test sh.loop [] (envOfC qual scope n f cd)) ((model X.prog X.w).den (.whileLoop sh.test sh.loop [] (envOfC qual scope n f cd))) (kc (envOfC qual scope n f cd) sh.body p) s1 F:=by
 have ex:∀{e:Value} {s2:Shared},((eM X N qual scope f cd n own s H W)).xe e s2->b_ (model X.prog X.w) X.A.in1 (.whileLoop sh.test sh.loop [] (envOfC qual scope n f cd)) (vQ (envOfC qual scope n f cd) e) (kc (envOfC qual scope n f cd) sh.body p) s2 F:=λh=>Vq tv.fe h;refine agP ?_;rw[BL];unfold mr at hh;by_cases hl:j<ds.length
 .rw[dif_pos hl]at hh
  obtain⟨h1,h2,aI⟩:=hh;refine wpAny_mono (hc.t.run [] s1 iF H1 (λb H'=>b=true/\∃aj,Z.Ext aB H1 aj H'/\Z.aF X.K X.mg aj H' S) I1 ⟨aB,S,slA j,aE,r1,?_⟩) (λb s4 bE=>?_) λe s4 h=>ex h
  .rw[h1]
   exact λaj H' y cn=>⟨rfl,aj,y,cn⟩
  .obtain⟨jv,nh,rfl,r',dP,qu⟩:=bE
   rw[if_pos rfl];have cI:=r1.ext dP;refine U' sh.As ?_;refine pP ?_;rw[BL];refine wpAny_mono (hc.A.run _ s4 iF jv { nx:=λbD H'=>∃aj,Z.Ext r' jv aj H'/\Z.aF X.K X.mg aj H' ak/\Z.cq X.K X.mg aj H' bD (slY j),rt:=λ_ _=>False } nh ⟨r',S,slA j,qu,cI,?_⟩) (λfl s5 cw=>?_) λe s5 h=>ex h
   .rw[h2]
    exact λbD aj H' y cn bM=>⟨aj,y,cn,bM⟩
   cases fl with
   |next =>
    obtain⟨uJ,o9,mb,lM,fN,lN,hQ⟩:=cw;refine UY ?_;refine afQ rfl rfl rfl ?_ vP hint;rw[BL];refine wpAny_mono (hc.e.run _ s5 uJ o9 (λv H'=>∃aj,Z.Ext lM o9 aj H'/\Z.aF X.K X.mg aj H' ak/\Z.Rep X.K X.mg aj H' ds[j] v) mb ⟨lM,ak,slY j,lN,hQ,?_⟩) (λv dC pI=>?_) λe dC h=>ex h
    .rw[aI]
     exact λv aj H' y cn bM=>⟨aj,y,cn,bM⟩
    .obtain⟨agR,hu,lz,aR,k9,dw,oj,aC⟩:=pI
     intro g l k p' hq kA;exact tv.vL hl p v g l k _ p' _ dC agR uJ k9 hu lz aR (x1.trans (dP.trans (fN.trans dw))) oj (hQ.ext dw) aC hq ⟨k,l,p',_,rfl,End.bare_of_quiet hq,λtf s2 hg=>kA .none tf s2 hg⟩
   |brk=>obtain⟨_,_,_,z⟩:=cw;exact z.elim
   |cont=>obtain⟨_,_,_,z⟩:=cw;exact z.elim
   |ret v=>obtain⟨_,_,_,_,_,z⟩:=cw;exact z.elim
 .rw[dif_neg hl]at hh
  obtain⟨h1,rfl⟩:=hh;have agS:j=ds.length:=by omega
  refine wpAny_mono (hc.t.run [] s1 iF H1 (λb H'=>b=false/\∃aj,Z.Ext aB H1 aj H'/\Z.aF X.K X.mg aj H' ak) I1 ⟨aB,ak,slA j,aE,r1,?_⟩) (λb s4 bE=>?_) λe s4 h=>ex h
  .rw[h1]
   exact λaj H' y cn=>⟨rfl,aj,y,cn⟩
  .obtain⟨jv,nh,rfl,r',dP,qu⟩:=bE
   rw[if_neg j8];exact agQ (tv.fd agS s4 iF r' jv nh (x1.trans dP) qu)
theorem agT(hc:F5 (eM X N qual scope f cd n own s H W) W sh fT fA fE fB)(L:My d7 U fT fA fE fB ds slA slY)(vP:scope.isCoroutine=false)(hint:interactive (envOfC qual scope n f cd)=false){i:Nat}(hi:i<ds.length)(gm:d7 (i+1) S)
  (tv:F8 X N qual scope f cd n own s H W sh ds slY ρ (U (i+1) S) (i+1) F)
  {iF:L2.St} (I1:Inv (eM X N qual scope f cd n own s H W) [] iF H s) (aE:Z.aF X.K X.mg ρ H S) (r1:Z.cq X.K X.mg ρ H iF (slY i)) :
  b_ (model X.prog X.w) X.A.in1 (.whileLoop sh.test sh.loop [] (envOfC qual scope n f cd)) ((execs sh.vS (envOfC qual scope n f cd)).wrap (Vo sh.test sh.loop (envOfC qual scope n f cd)) (vQ (envOfC qual scope n f cd)) id id) (kc (envOfC qual scope n f cd) sh.body p) s F:=by
 obtain⟨S1,hb,hh⟩:=L.b i hi S gm;refine pP ?_;rw[BL];refine wpAny_mono (hc.B.run _ s iF H { nx:=λbD H'=>∃aj,Z.Ext ρ H aj H'/\Z.aF X.K X.mg aj H' S1/\Z.cq X.K X.mg aj H' bD (slA (i+1)),rt:=λ_ _=>False } I1 ⟨ρ,S,slY i,aE,r1,?_⟩) (λfl s5 cw=>?_) λe s5 h=>Vq tv.fe h
 .rw[hb]
  exact λbD aj H' y cn bM=>⟨aj,y,cn,bM⟩
 cases fl with
 |next =>
  obtain⟨uJ,o9,mb,lM,fN,lN,hQ⟩:=cw;refine afO rfl ?_;exact Vs hc vP hint hi hh tv mb fN lN hQ
 |brk=>obtain⟨_,_,_,z⟩:=cw;exact z.elim
 |cont=>obtain⟨_,_,_,z⟩:=cw;exact z.elim
 |ret v=>obtain⟨_,_,_,_,_,z⟩:=cw;exact z.elim
variable{dh:Z.SX}{sl0:Z.aL}
theorem jmp(hpre:Z.gu (eM X N qual scope f cd n own s H W) W sh.pre dh)(hc:F5 (eM X N qual scope f cd n own s H W) W sh fT fA fE fB)(vP:scope.isCoroutine=false)(hint:interactive (envOfC qual scope n f cd)=false)
  (yA:∀e s2,nr (ny X N qual scope f cd n own s H) W e s2->F (.ret (.error e)) s2)
  (tx:(∃S1 S2,dh sl0 S=.nx (slA 0) S1/\mr fT fA fE ds slA slY 0 S1 S2/\F8 X N qual scope f cd n own s H W sh ds slY ρ S2 0 F) \/
   (∃e sl,dh sl0 S=.ex e sl S/\∀C dd iH aP aH,Z.Ext ρ H aP aH->Z.aF X.K X.mg aP aH S->Z.jJ X.K X.mg aP aH e C dd->W C dd iH aH))
  {iF:L2.St} (I1:Inv (eM X N qual scope f cd n own s H W) [] iF H s) (aE:Z.aF X.K X.mg ρ H S) (r1:Z.cq X.K X.mg ρ H iF sl0) :
  b_ (model X.prog X.w) X.A.in1 (.func sh.body (envOfC qual scope n f cd)) ((model X.prog X.w).den (.func sh.body (envOfC qual scope n f cd))) [] s F:=by
 refine afS ?_;refine U' sh.pre ?_;refine pP ?_;rw[F6];rcases tx with⟨S1,S2,au,hh,tv⟩|⟨e,sl,au,kd⟩
 .refine wpAny_mono (hpre.run _ s iF H { nx:=λbD H'=>∃aj,Z.Ext ρ H aj H'/\Z.aF X.K X.mg aj H' S1/\Z.cq X.K X.mg aj H' bD (slA 0),rt:=λ_ _=>False } I1 ⟨ρ,S,sl0,aE,r1,?_⟩) (λfl s5 cw=>?_) λe s5 h=>F7 yA h
  .rw[au]
   exact λbD aj H' y cn bM=>⟨aj,y,cn,bM⟩
  cases fl with
  |next =>
   obtain⟨uJ,o9,mb,lM,fN,lN,hQ⟩:=cw;refine UY ?_;refine agO λp=>?_;exact Vs hc vP hint (hJ _) hh tv mb fN lN hQ
  |brk=>obtain⟨_,_,_,z⟩:=cw;exact z.elim
  |cont=>obtain⟨_,_,_,z⟩:=cw;exact z.elim
  |ret v=>obtain⟨_,_,_,_,_,z⟩:=cw;exact z.elim
 .refine wpAny_mono (hpre.run _ s iF H { nx:=λ_ _=>False,rt:=λ_ _=>False } I1 ⟨ρ,S,sl0,aE,r1,?_⟩) (λfl s5 cw=>?_) λe s5 h=>F7 yA h
  .rw[au]
   exact λC dd bD aj H' y cn bM hx=>kd C dd bD aj H' y cn hx
  .cases fl with
   |next=>obtain⟨_,_,_,z⟩:=cw;exact z.elim
   |brk=>obtain⟨_,_,_,z⟩:=cw;exact z.elim
   |cont=>obtain⟨_,_,_,z⟩:=cw;exact z.elim
   |ret v=>obtain⟨_,_,_,_,_,z⟩:=cw;exact z.elim
end
structure pS where
 N:List Str
 qual:Str
 scope:Scope
 f:Addr
 cd:Value
 n:Addr
 a:Addr
 g:Nat
 sh:kI
abbrev pS.ev(q:pS):Env:=envOfC q.qual q.scope q.n q.f q.cd
abbrev pS.MA(q:pS):Bz:=⟨q.N,q.qual,q.scope,q.f,q.cd,q.n,q.a,q.g,⟨[],q.sh.test,q.sh.test,[],q.sh.yu,q.sh.yv,q.sh.pos,[],q.sh.Vn⟩⟩
structure rz where
 ds:List Z.D
 fin:tj
 slA:Nat->Z.aL
 slY:Nat->Z.aL
 sl0:Z.aL
 d7:Nat->Z.Store->Prop
 U:Nat->Z.Store->Z.Store
def jE(X:Cx)(q:pS)(m:rz)(iG:List Addr)(ey:Hp):U6:=λi fp ρ H s =>
 Z.Ext iG ey ρ H/\H q.n=none/\H q.a=none/\s.heap.IsGen q.a q.g/\fp=[q.a,q.n]/\∃gj,yz q.N q.scope q.ev q.n gj s.heap/\(∀b∈gk q.scope q.n,H b=none/\ey b=none)/\∃gs,s.gens[q.g]?=some gs /\
  ((i=0/\gs=.fresh (.func q.sh.body q.ev)/\Z.cq X.K X.mg ρ H gj m.sl0) \/
   (∃k p,i=k+1/\k<m.ds.length/\Vr X q.ev q.sh p gs/\Z.cq X.K X.mg ρ H gj (m.slY k)))
structure tA(X:Cx)(q:pS)(m:rz)(dh:Z.SX)(fT:Z.cz)(fA:Z.SX)(fE:Z.aM)(fB:Z.SX):Prop where
 sc:BE q.N q.scope
 co:q.scope.isCoroutine=false
 int:interactive q.ev=false
 pre:∀own s H W,Z.gu (eM X q.N q.qual q.scope q.f q.cd q.n own s H W) W q.sh.pre dh
 pc:∀own s H W,F5 (eM X q.N q.qual q.scope q.f q.cd q.n own s H W) W q.sh fT fA fE fB
 pl:((∀S,m.d7 0 S->∃S1,dh m.sl0 S=.nx (m.slA 0) S1/\mr fT fA fE m.ds m.slA m.slY 0 S1 (m.U 0 S))/\My m.d7 m.U fT fA fE fB m.ds m.slA m.slY/\m.fin=.done) \/
  (m.ds=[]/\∃e,m.fin=.ex e/\∀S,m.d7 0 S->∃sl,dh m.sl0 S=.ex e sl S)
section
variable{X:Cx}{q:pS}{m:rz}{iG:List Addr}{ey:Hp}{dh:Z.SX}{fT:Z.cz}{fA:Z.SX}{fE:Z.aM}{fB:Z.SX}{i:Nat}{fp ρ:List Addr}{H:Hp}{s:Shared}{pins:List (Addr×Obj)}{σ:L2.St}{S:Z.Store}{W nu:WX}{F:ml}
theorem MB(d:tA X q m dh fT fA fE fB)(o:Old X ey q.n q.a)(hd:X.A.handled=none)(hi:i<=m.ds.length)(gm:m.d7 i S)(t:jE X q m iG ey i fp ρ H s)(I:Inv X pins σ H s)(w:Z.aF X.K X.mg ρ H S)(hp:∀p∈X.pn++pins,p.1∉fp)
  (yA:rr X pins q.n [] H->∀e s2,nr (ny X q.N q.qual q.scope q.f q.cd q.n [] (s.setGen q.g .running) H) W e s2->F (.ret (.error e)) s2)
  (MC:∀e,m.fin=.ex e->i=m.ds.length->∀C dd iH aP aH,Z.Ext ρ H aP aH->Z.aF X.K X.mg aP aH S->Z.jJ X.K X.mg aP aH e C dd->W C dd iH aH)
  (n4:m.fin=.done->rr X pins q.n [] H->F8 X q.N q.qual q.scope q.f q.cd q.n [] (s.setGen q.g .running) H W q.sh m.ds m.slY ρ (m.U i S) i F) :
  ∃gs,s.gens[q.g]?=some gs/\L8 (model X.prog X.w) X.A.in1 gs (s.setGen q.g .running) F:=by
 obtain⟨nc,hn,ha,jf,rfl,gj,gB,nA,gs,je,tx⟩:=t;refine⟨gs,je,?_⟩;have gb:Inv X pins σ H (s.setGen q.g .running):=lu I rfl rfl (allBare_setGen I.bare rfl);have e7:q.n<=(s.setGen q.g .running).heap.objs.size:=by
  obtain⟨mm,fJ,_⟩:=gB.loc;exact js fJ.lt
 have y:rr X pins q.n [] H:=jp1 (q:=q.MA) o nc w hn hp (by simp);have I1:Inv (eM X q.N q.qual q.scope q.f q.cd q.n [] (s.setGen q.g .running) H W) [] gj H (s.setGen q.g .running):=agv d.sc hd gb y e7 o.bs gB hn (λb hb=>(nA b hb).1) (λp hp=>by cases hp);rcases tx with⟨rfl,rfl,r0⟩|⟨k,p,rfl,hk,kA,MD⟩
 .refine jmp (hpre:=d.pre _ _ _ _) (hc:=d.pc _ _ _ _) (ds:=m.ds) (slA:=m.slA) (slY:=m.slY) d.co d.int (yA y) ?_ I1 w r0
  rcases d.pl with⟨h1,L,hf⟩|⟨h1,e,h2,aI⟩
  .obtain⟨S1,au,hh⟩:=h1 S gm
   exact .inl ⟨S1,_,au,hh,n4 hf y⟩
  .obtain⟨sl,au⟩:=aI S gm
   exact .inr ⟨e,sl,au,λC dd iH aP aH=>MC e h2 (by rw[h1];rfl) C dd iH aP aH⟩
 .obtain⟨kk,l,p',cl,rfl,aqM,iq⟩:=kA
  rcases d.pl with⟨h1,L,hf⟩|⟨h1,_⟩
  .exact iq F _ (agT (d.pc _ _ _ _) L d.co d.int hk gm (n4 hf y) I1 w MD)
  .rw[h1]at hk
   simp at hk
theorem agU(o:Old X ey q.n q.a)(t:jE X q m iG ey i fp ρ H s)(I:Inv X pins σ H s):(∃g,s.heap.IsGen q.a g)/\(∀b∈fp,(∃o,s.heap.get? b=some o/\∀v,o.data≠.cell v)/\H b=none/\b≠X.env.locals/\b∉X.fs)/\BH X (gk q.scope q.n) H s.heap:=by
 obtain⟨nc,hn,ha,jf,rfl,gj,gB,nA,gs,je,tx⟩:=t;have young:∀b,q.n<=b->b∉X.fs:=λb hb=>λz=>absurd (jr (o.By b z) hb) (kZ _);have LU:∃o,s.heap.get? q.a=some o/\∀v,o.data≠.cell v:=by
  obtain⟨o,nm,hW,aQ,_,hd,_⟩:=jf;exact⟨o,aQ,λv z=>by rw[hd]at z;cases z⟩
 have on:∃o,s.heap.get? q.n=some o/\∀v,o.data≠.cell v:=by
  obtain⟨mm,⟨o,es,dF,aQ,hd,_⟩,_⟩:=gB.loc;exact⟨o,aQ,λv z=>by rw[hd]at z;cases z⟩
 refine⟨⟨q.g,jf⟩,λb hb=>?_,λb hb=>?_⟩;rotate_left
 .obtain⟨x,hx⟩:=F4 hb
  obtain⟨v,ob,aQ,bB⟩:=gB.cell x b hx;refine⟨⟨ob,_,aQ,bB⟩,(nA b hb).1,λz=>?_,λy c hc=>hZ (oY (o.nq y c hc) (Mv hb)),o.s0 b (js (Mv hb)) (nA b hb).2⟩;obtain⟨mm,⟨e6,es,dF,ti,k2,_⟩,_⟩:=I.loc;rw[<-z,aQ]at ti;cases ti;rw[bB]at k2;cases k2
 simp only[List.mem_cons,j9,or_false]at hb;rcases hb with rfl|rfl
 .exact⟨LU,ha,jq o.loc.2,young _ (js o.na)⟩
 .exact⟨on,hn,jq o.loc.1,young _ (Nat.le_refl _)⟩
theorem Vt(t:jE X q m iG ey i fp ρ H s):q.a∈fp/\q.n∈fp:=by
 obtain⟨_,_,_,_,rfl,_⟩:=t;simp
theorem agV{aj:List Addr}{H':Hp}{s':Shared}(t:jE X q m iG ey (i+1) fp ρ H s)(x:Z.Ext ρ H aj H')(gv:∀b∈fp,H' b=none)(hk:U5 fp s s')(agW:∀b∈gk q.scope q.n,H' b=none)(F9:∀b∈gk q.scope q.n,∀o,s.heap.get? b=some o->s'.heap.get? b=some o):jE X q m iG ey (i+1) fp aj H' s':=by
 have hm:=Vt t;obtain⟨nc,hn,ha,jf,F_,gj,gB,nA,gs,je,tx⟩:=t;refine⟨nc.trans x,gv _ hm.2,gv _ hm.1,?_,F_,gj,⟨?_,?_,gB.len⟩,λb hb=>⟨agW b hb,(nA b hb).2⟩,?_⟩
 .obtain⟨o,nm,hW,aQ,r⟩:=jf
  exact⟨o,nm,hW,hk.1 _ hm.1 o aQ,r⟩
 .obtain⟨mm,⟨o,es,dF,aQ,r⟩,look⟩:=gB.loc
  refine⟨mm,⟨o,es,dF,hk.1 _ hm.2 o aQ,r⟩,λi x v h1 h2 aI=>?_⟩;obtain⟨u,cv,lk⟩:=look i x v h1 h2 aI;refine⟨u,cv,?_⟩;rcases lk with e|⟨k,c,hc,eZ,fY,vW⟩
  .exact .inl e
  .exact .inr ⟨k,c,hc,eZ,F9 c (Mu hc) eZ fY,vW⟩
 .intro x c hc
  obtain⟨v,eZ,fY,vW⟩:=gB.cell x c hc;exact⟨v,eZ,F9 c (Mu hc) eZ fY,vW⟩
 .rcases tx with⟨z,_⟩|⟨k,p,e,c7,kA,MD⟩
  .omega
  .refine⟨gs,?_,.inr ⟨k,p,e,c7,kA,MD.ext x⟩⟩
   obtain⟨kk,l,p',cl,rfl,_⟩:=kA;exact hk.2 _ _ je rfl
theorem agX(d:tA X q m dh fT fA fE fB)(o:Old X ey q.n q.a)(hd:X.A.handled=none)(kE:X.A.depth<recursionLimit)(hi:i<m.ds.length)(gm:m.d7 i S)(t:jE X q m iG ey i fp ρ H s)(I:Inv X pins σ H s)(w:Z.aF X.K X.mg ρ H S)(hp:∀p∈X.pn++pins,p.1∉fp) :
  wpAny (model X.prog X.w) X.A (pyNext (.ref q.a)) (λr s1=>∃u x aj H' BK,r=some u/\RelV x u/\Inv X pins σ H' s1/\Z.Ext ρ H aj H'/\Z.aF X.K X.mg aj H' (m.U i S)/\Z.Rep X.K X.mg aj H' m.ds[i] x/\jE X q m iG ey (i+1) BK aj H' s1/\∀p∈X.pn++pins,p.1∉BK) X.xe s:=by
 have jf:=t.2.2.2.1;have ha:=t.2.2.1;have nc:=t.1;have F_:=t.2.2.2.2.1;have ME:∀b∈gk q.scope q.n,ey b=none:=λb hb=>by
  obtain⟨_,_,_,_,_,_,_,nA,_⟩:=t;exact(nA b hb).2
 have gb:Inv X pins σ H (s.setGen q.g .running):=lu I rfl rfl (allBare_setGen I.bare rfl);obtain⟨gs,je,iq⟩:=MB (W:=λ_ _ _ _=>False) (F:=λe s2=>match e with
   | .susp v lj l k c p' fs=>(End.susp v lj l k c p' fs).quiet=true/\∃x aj H',RelV x v/\Inv X pins σ H' s2/\Z.Ext ρ H aj H'/\Z.aF X.K X.mg aj H' (m.U i S)/\Z.Rep X.K X.mg aj H' m.ds[i] x/\(q.g<s2.gens.size->jE X q m iG ey (i+1) fp aj H' (s2.setGen q.g (End.susp v lj l k c p' fs).genState))
   | .ret _=>False) d o hd (js hi) gm t I w hp (λy e s2 h=>by obtain⟨_,_,_,_,_,_,_,_,_,_,_,_,_,_,_,_,z⟩:=h;exact z.elim) (λe _ z=>by omega) (λ_ y=>{
    fe:=λe s2 h=>by obtain⟨_,_,_,_,_,_,_,_,_,_,_,_,_,_,_,_,z⟩:=h;exact z.elim
    fd:=λz=>by omega
    vL:=λhl p v g l k c p' fs s2 x iH aP aH vX aR x2 cD r2 aC hq kA=>by
     have MF:=agw vX;obtain⟨ob,nm,hW,hr,hc,MG,mn⟩:=Va (q:=q.MA) (s:=s.setGen q.g .running) (own:=[]) o jf ha (by simp);obtain⟨a1,a2,_⟩:=vX.pin (q.a,ob) (oZ _ hr);exact⟨hq,x,aP,aH,aR,U8 gb y vX (FU x2 cD),x2,cD,aC,λe7=>⟨nc.trans x2,MF.2.1,a2,⟨ob,nm,hW,a1,hc,MG,mn⟩,F_,iH,MF.1,λb hb=>⟨MF.2.2 b hb,ME b hb⟩,_,setGen_at e7,.inr ⟨i,p,rfl,hl,kA,r2⟩⟩⟩ })
 have La:q.g<s.gens.size:=(Array.getElem?_eq_some_iff.mp je).1;refine wpAny_gsz (n:=q.g+1) La (L_ hd I.nolimit kE jf je iq (λv g₀ l k c p fs s₁ h=>?_) λr s₁ h=>h.elim);obtain⟨hq,x,aj,H',aR,I1,x1,aE,aC,t1⟩:=h;refine⟨hq,λe7=>⟨v,x,aj,H',fp,rfl,aR,lu I1 rfl rfl (allBare_setGen I1.bare (End.bare_of_quiet hq)),x1,aE,aC,t1 ?_,hp⟩⟩;have e:(s₁.setGen q.g (End.susp v g₀ l k c p fs).genState).gens.size=s₁.gens.size:=setGen_size _ _ _;have e7:q.g+1<=(s₁.setGen q.g (End.susp v g₀ l k c p fs).genState).gens.size:=e7;omega
theorem agY(d:tA X q m dh fT fA fE fB)(o:Old X ey q.n q.a)(hd:X.A.handled=none)(kE:X.A.depth<recursionLimit)(mw:m.fin=.done)(gm:m.d7 m.ds.length S)(t:jE X q m iG ey m.ds.length fp ρ H s)(I:Inv X pins σ H s)(w:Z.aF X.K X.mg ρ H S)(hp:∀p∈X.pn++pins,p.1∉fp) :
  wpAny (model X.prog X.w) X.A (pyNext (.ref q.a)) (λr s1=>r=none/\∃aj H',Inv X pins σ H' s1/\Z.Ext ρ H aj H'/\Z.aF X.K X.mg aj H' (m.U m.ds.length S)) X.xe s:=by
 have jf:=t.2.2.2.1;have gb:Inv X pins σ H (s.setGen q.g .running):=lu I rfl rfl (allBare_setGen I.bare rfl);obtain⟨gs,je,iq⟩:=MB (W:=λ_ _ _ _=>False) (F:=λe s2=>e=.ret (.ok (.ret .none))/\∃aj H',Inv X pins σ H' s2/\Z.Ext ρ H aj H'/\Z.aF X.K X.mg aj H' (m.U m.ds.length S)) d o hd (Nat.le_refl _) gm t I w hp (λy e s2 h=>by obtain⟨_,_,_,_,_,_,_,_,_,_,_,_,_,_,_,_,z⟩:=h;exact z.elim) (λe z _=>by rw[mw]at z;cases z) (λ_ y=>{
    fe:=λe s2 h=>by obtain⟨_,_,_,_,_,_,_,_,_,_,_,_,_,_,_,_,z⟩:=h;exact z.elim
    fd:=λ_ s2 iH aP aH vX x2 cD=>⟨rfl,aP,aH,U8 gb y vX (FU x2 cD),x2,cD⟩
    vL:=λhl=>absurd hl (kZ _) })
 refine L_ hd I.nolimit kE jf je iq (λv g₀ l k c p fs s₁ h=>?_) λr s₁ h=>?_
 .cases h.1
 .obtain⟨e,aj,H',I1,x1,aE⟩:=h
  cases e;refine .inl ⟨.inl rfl,λh' hk=>⟨rfl,aj,H',?_,x1,aE⟩⟩;exact(lu (s':=s₁.setGen q.g .finished) I1 rfl rfl (allBare_setGen I1.bare rfl)).kept (h':=h') (t':=s₁.toks) hk
theorem agZ(d:tA X q m dh fT fA fE fB)(o:Old X ey q.n q.a)(hd:X.A.handled=none)(kE:X.A.depth<recursionLimit)(tk:Z.Takes X nu){e:Z.D}(mw:m.fin=.ex e)
  (fJ:∀C dd aj H',Z.jJ X.K X.mg aj H' e C dd->PySem.W.subIn X.K C (.type "StopIteration")=some false) (gm:m.d7 m.ds.length S) (t:jE X q m iG ey m.ds.length fp ρ H s) (I:Inv X pins σ H s) (w:Z.aF X.K X.mg ρ H S) (hp:∀p∈X.pn++pins,p.1∉fp)
  (kd:∀C dd aj H',Z.Ext ρ H aj H'->Z.aF X.K X.mg aj H' S->Z.jJ X.K X.mg aj H' e C dd->nu C dd σ H') :
  wpAny (model X.prog X.w) X.A (pyNext (.ref q.a)) (λ_ _=>False) X.xe s:=by
 have jf:=t.2.2.2.1;have ha:=t.2.2.1;have gb:Inv X pins σ H (s.setGen q.g .running):=lu I rfl rfl (allBare_setGen I.bare rfl);have yA:rr X pins q.n [] H->∀x s2,nr (ny X q.N q.qual q.scope q.f q.cd q.n [] (s.setGen q.g .running) H) (λC dd _ hX=>((∀b u,H b=some u->hX b≠none)/\nu C dd σ hX)/\PySem.W.subIn X.K C (.type "StopIteration")=some false:WX) x s2->Z.XE X nu x s2/\s2.heap.IsGen q.a q.g/\NotStop (model X.prog X.w) x s2.heap/\AllBare s2.gens:=λy x s2 h=>by
  refine⟨af2 gb y h λcls dd gj hX z=>z.1,?_⟩;obtain⟨a,B,dq,pR,gj,hX,cls,dd,rfl,f5,nb,up,fl,na,os,h8,ww⟩:=h;obtain⟨ob,nm,hW,hr,hc,MG,mn⟩:=Va (q:=q.MA) (s:=s.setGen q.g .running) (own:=[]) o jf ha (by simp);obtain⟨a1,_⟩:=f5.pin (q.a,ob) (oZ _ hr);have Bq:∀b,b≠q.n->b∉frs X.stack->b∉frs (ny X q.N q.qual q.scope q.f q.cd q.n [] (s.setGen q.g .running) H).stack:=λb h1 h2 z=>by
   have z:b∈q.n::frs X.stack:=z;rcases g6.mp z with u|u
   .exact h1 u
   .exact h2 u
  have cZ:B.get? q.a=some ob:=nb _ _ a1 (Bq _ (qg o.na) λz=>absurd (oY o.na (o.fs _ z)) (kZ _));refine⟨⟨ob,nm,hW,fl.1 _ _ cZ,hc,MG,mn⟩,?_,h8⟩;have kin:X.K.In s2.heap:=I.ok.mod.kin.keeps λb MH eb=>fl.1 b MH (nb b MH (f5.bs b MH eb).1 (Bq b (hZ (jr (Heap.lt_size eb) o.bs)) λhm=>by
   rcases g6.mp (I.stkSub b hm)with z|z
   .have h1:=Heap.lt_size eb
    have h2:=Nat.le_trans I.ok.bsz I.ok.above;rw[z]at h1;exact absurd (jr h1 h2) (kZ _)
   .exact I.ok.nofr eb z))
  obtain⟨eP,vs,he,hz,_⟩:=fl.there;have ag0:=PySem.W.looks_subIn (M:=model X.prog X.w) kin ww.2;intro A Q J3 s3 hs hq;simp only[isInstance];refine wpAny_bind (wpAny_typeOf_ref (o:=eP) (by rw[hs];exact he) ?_);rw[hz.1];exact ag0 A Q J3 s3 (λb o z=>by rw[hs];exact z) hq
 have MC:∀cW,m.fin=.ex cW->m.ds.length=m.ds.length->∀C dd iH aP aH,Z.Ext ρ H aP aH->Z.aF X.K X.mg aP aH S->Z.jJ X.K X.mg aP aH cW C dd->(λC dd _ hX=>((∀b u,H b=some u->hX b≠none)/\nu C dd σ hX)/\PySem.W.subIn X.K C (.type "StopIteration")=some false:WX) C dd iH aH:=λcW z _ C dd iH aP aH x2 cD hx=>by
  rw[mw]at z;cases z;exact⟨⟨FU x2 cD,kd C dd aP aH x2 cD hx⟩,fJ C dd aP aH hx⟩
 obtain⟨gs,je,iq⟩:=MB (W:=(λC dd _ hX=>((∀b u,H b=some u->hX b≠none)/\nu C dd σ hX)/\PySem.W.subIn X.K C (.type "StopIteration")=some false:WX))
   (F:=λe s2=>∃x,e=.ret (.error x)/\Z.XE X nu x s2/\s2.heap.IsGen q.a q.g/\NotStop (model X.prog X.w) x s2.heap/\AllBare s2.gens) d o hd (Nat.le_refl _) gm t I w hp (λy x s2 h=>⟨x,rfl,yA y x s2 h⟩) MC (λVu _=>by rw[mw]at Vu;cases Vu)
 refine L_ hd I.nolimit kE jf je iq (λv g₀ l k c p fs s₁ h=>?_) λr s₁ h=>?_
 .obtain⟨_,h,_⟩:=h
  cases h
 .obtain⟨x,au,hx,hg,gR,hb⟩:=h
  cases au;exact .inr ⟨x,rfl,hg,gR,tk _ _ (af9 hx rfl rfl (allBare_setGen hb rfl))⟩
theorem ag1(d:tA X q m dh fT fA fE fB)(o:Old X ey q.n q.a)(hd:X.A.handled=none)(kE:X.A.depth<recursionLimit)(tk:Z.Takes X nu)
  (fJ:∀e,m.fin=.ex e->∀C dd aj H',Z.jJ X.K X.mg aj H' e C dd->PySem.W.subIn X.K C (.type "StopIteration")=some false):Vm X nu q.a m.ds m.fin m.d7 m.U (jE X q m iG ey) (gk q.scope q.n) where
 obj:=λt I=>agU o t I
 mem:=λt=>(Vt t).1
 keep:=λt x gv hk hc F9=>agV t x gv hk hc F9
 item:=λpins σ S hi gm t I w hp=>agX d o hd kE hi gm t I w hp
 stop:=λmw _ _ _ _ pins σ S gm t I w hp=>agY d o hd kE mw gm t I w hp
 exc:=λmw _ _ _ _ pins σ S gm t I w hp kd=>agZ d o hd kE tk mw (fJ _ mw) gm t I w hp kd
end
abbrev vY:=Nat->List Z.D->Option rz
def vZ(off n:Nat)(eB:List Z.D)(pT:vY)(fa:Z.cO):vV:=λsl S=>(fa sl S).bind λds S1 =>
 if ds.length=n then(match pT (S1.length+off) (ds++eB)with
  |some M=>.ok (M.ds,M.fin,M.d7,M.U) S1
  |none=>.bad)else .bad
def BM(X:Cx)(W:WX)(iter:Expr)(ge:vV):Prop :=
 ∀(pins:List (Addr×Obj)) (s:Shared) (σ:L2.St) (ρ:List Addr) (H:Hp) (S:Z.Store) (sl:Z.aL),Inv X pins σ H s->Z.aF X.K X.mg ρ H S->Z.cq X.K X.mg ρ H σ sl->match ge sl S with
 | .bad=>True
 | .ex e S1=>(∀C dd aj H',Z.Ext ρ H aj H'->Z.aF X.K X.mg aj H' S1->Z.jJ X.K X.mg aj H' e C dd->W C dd σ H')->wpAny (model X.prog X.w) X.A (eval iter X.env) (λ_ _=>False) X.xe s
 | .ok p S1=>wpAny (model X.prog X.w) X.A (eval iter X.env) (λv s1=>∃(q:pS) (m:rz) (aB:List Addr) (H1:Hp) (dh:Z.SX) (fT:Z.cz) (fA:Z.SX) (fE:Z.aM) (fB:Z.SX),v=.ref q.a/\p=(m.ds,m.fin,m.d7,m.U)/\Inv X pins σ H1 s1/\Z.Ext ρ H aB H1/\Z.aF X.K X.mg aB H1 S1 /\
   tA X q m dh fT fA fE fB/\FW X q.n q.a/\q.a<s1.heap.objs.size/\jE X q m aB H1 0 [q.a,q.n] aB H1 s1/\(∀lW∈X.pn++pins,lW.1<q.n) /\
   ∀e,m.fin=.ex e->∀C dd aj H',Z.jJ X.K X.mg aj H' e C dd->PySem.W.subIn X.K C (.type "StopIteration")=some false) X.xe s
theorem ag2{X:Cx}{pins:List (Addr×Obj)}{σ:L2.St}{H:Hp}{q:pS}{m:rz}{ρ:List Addr}{s':Shared}{vs:List V}(h:Mx X pins σ H q.N q.qual q.scope q.f q.cd q.sh.body vs q.n q.a q.g s')(r:Z.cq X.K X.mg ρ H (start q.N vs) m.sl0):jE X q m ρ H 0 [q.a,q.n] ρ H s' :=
 ⟨Z.Ext.refl,h.hn,h.ha,h.gen,rfl,_,h.fr,λb hb=>⟨h.hc b hb,h.hc b hb⟩,_,h.at_,.inl ⟨rfl,rfl,r⟩⟩
section
variable{X:Cx}{W:WX}{f:Addr}{name qual:Str}{params:Arguments}{body:List Stmt}{scope:Scope}{g7 kV doc pm eR ct eZ:Value}{an od:Option Addr}{il:Array (Option Value)}{N ps:List Str}{n off:Nat}{dfs:List Value}{dvs:List V}{eB:List Z.D}{x:Str}{p pos:Pos}{e:Expr}{es:List Expr}{fa:Z.cO}{pT:vY}{sh:kI}{dh:Z.SX}{fT:Z.cz}{fA:Z.SX}{fE:Z.aM}{fB:Z.SX}
theorem ag3(hc:X.A.handled=none)(vU:X.A.depth<recursionLimit)(lk:X.K.lookup f=some ⟨eZ,od,.func (PySem.W.fnOf name qual params sh.body scope g7 kV doc pm an eR ct),il⟩)(jM:PySem.W.codeIn X.K eR qual=true)
  (Sc:GScope N ps scope) (hb:Binds X.K (PySem.W.fnOf name qual params sh.body scope g7 kV doc pm an eR ct) ps dfs) (hd:Vals dvs dfs) (vr:∀ρ H,Z.ay X.K X.mg ρ H eB dvs)
  (ag4:∀h args M,pT h args=some M->args.length=ps.length/\M.sl0=args.map some++List.replicate (N.length - ps.length) none/\(∀n a g,tA X ⟨N,qual,scope,f,eR,n,a,g,sh⟩ M dh fT fA fE fB) /\
   ∀e,M.fin=.ex e->∀C dd aj H',Z.jJ X.K X.mg aj H' e C dd->PySem.W.subIn X.K C (.type "StopIteration")=some false)
  (hm:X.mg x=some (.ref f)) (hk:PySem.W.keepIn X.K (.ref f)=true) (ha:Z.gq X W (e::es) fa) (hg:Gl X x:=by rfl) (g9:(x==("__debug__":Str))=false:=by decide)
  (he:starEach (e::es) X.env=(false,eval e X.env)::starEach es X.env:=by rfl) (eQ:(backTo pos (starEach es X.env)).any (·.1)=false:=by rfl) :
  BM X W (.Call (.Name x p) (e::es) [] pos) (vZ off n eB pT fa):=by
 intro pins s σ ρ H S sl I w rs;unfold vZ;cases bw:fa sl S with
 |bad=>trivial
 |ex au S1 =>
  intro kd;refine wpAny_Call_Name_kw (ld_glob I hg hm ?_ g9);refine rW (h₀:=X.base) I.ok.mod.kin hk (thn (ha.run pos pins s σ H (λ_ _=>False) I ⟨ρ,S,sl,w,rs,?_⟩) λus s1 ⟨vs,H1,_,_,z⟩=>z.elim) he eQ;rw[bw];exact λC dd aj H' y cn r=>kd C dd aj H' y cn r
 |ok ds S1 =>
  dsimp only[Z.Out.bind];by_cases hl:ds.length=n
  .rw[if_pos hl]
   cases fD:pT (S1.length+off) (ds++eB)with
   |none=>trivial
   |some M =>
    obtain⟨hlen,mn,ag5,fJ⟩:=ag4 _ _ _ fD;show wpAny _ _ _ _ _ _;refine wpAny_Call_Name_kw (ld_glob I hg hm ?_ g9);refine rW (h₀:=X.base) I.ok.mod.kin hk (thn (ha.run pos pins s σ H (λvs H1=>∃aB,Z.Ext ρ H aB H1/\Z.aF X.K X.mg aB H1 S1/\Z.ay X.K X.mg aB H1 ds vs) I ⟨ρ,S,sl,w,rs,?_⟩) λus s1 ⟨vs,H1,I1,r,aB,x1,aE,rd⟩=>⟨I1.kIn,?_⟩) he eQ
    .rw[bw]
     exact λvs aB H1 y cn r=>⟨aB,y,cn,r⟩
    have MI:Z.ay X.K X.mg aB H1 (ds++eB) (vs++dvs):=rd.append (vr aB H1);have ul:(us++dfs).length=ps.length:=by rw[<-(r.append hd).length,<-MI.len,hlen]
    refine wpAny_call (codeAny_mono (jpg (pins:=pins) (σ:=σ) (H:=H1) (us:=us++dfs) (vs:=vs++dvs) I1 hc vU lk jM Sc (hb s1 us I1.kIn ul) (r.append hd) (by rw[<-MI.len,hlen])) λbW s3 ⟨a,g,fF,yw⟩=>?_);subst fF;refine⟨⟨N,qual,scope,f,eR,s1.heap.objs.size,a,g,sh⟩,M,aB,H1,dh,fT,fA,fE,fB,rfl,rfl,yw.inv,x1,aE,ag5 _ _ _,yw.old,yw.tq,ag2 (q:=⟨N,qual,scope,f,eR,s1.heap.objs.size,a,g,sh⟩) yw ?_,yw.pins,fJ⟩;rw[mn];have h0:=Z.I8 (N:=N) MI;rw[hlen]at h0;exact h0
  .rw[if_neg hl]
   trivial
end
def nB(h:Nat)(aZ:Nat->List Z.D)(i:Nat)(S:Z.Store):Prop:=ru S/\(i=0->S.length=h)/\(0<i->S[h]?=some (.lst (aZ (i - 1))))
def gZ(h:Nat)(aZ:Nat->List Z.D)(i:Nat)(S:Z.Store):Z.Store:=if i=0 then S++[.lst (aZ 0)]else S.set h (.lst (aZ i))
structure nC(np my h:Nat)(dh:Z.SX)(fT:Z.cz)(fA:Z.SX)(fE:Z.aM)(fB:Z.SX)(args:List Z.D)(M:rz)(aZ:Nat->List Z.D):Prop where
 len:args.length=np
 sl0:M.sl0=args.map some++List.replicate (my - np) none
 fin:M.fin=.done
 F':M.d7=nB h aZ
 u:M.U=gZ h aZ
 st:∀S,nB h aZ 0 S->∃S1,dh M.sl0 S=.nx (M.slA 0) S1/\mr fT fA fE M.ds M.slA M.slY 0 S1 (gZ h aZ 0 S)
 lp:My (nB h aZ) (gZ h aZ) fT fA fE fB M.ds M.slA M.slY
 cl:∀i,i<=M.ds.length->Z.bC 0 (aZ i)=true
open Classical in
def v5(np my:Nat)(dh:Z.SX)(fT:Z.cz)(fA:Z.SX)(fE:Z.aM)(fB:Z.SX):vY:=λh args =>
 if q:∃M aZ,nC np my h dh fT fA fE fB args M aZ then some q.choose else none
section
variable{np my h:Nat}{dh:Z.SX}{fT:Z.cz}{fA:Z.SX}{fE:Z.aM}{fB:Z.SX}{args:List Z.D}{M hE:rz}{aZ qs':Nat->List Z.D}
theorem ag6(q:v5 np my dh fT fA fE fB h args=some M):∃aZ,nC np my h dh fT fA fE fB args M aZ:=by
 unfold v5 at q;split at q
 .rename_i z
  cases q;exact z.choose_spec
 .cases q
theorem MJ{sl d1:Z.aL}{S ak:Z.Store}{o:Z.SO}(a:o=.nx sl S)(b:o=.nx d1 ak):sl=d1/\S=ak:=by
 rw[a]at b;cases b;exact⟨rfl,rfl⟩
def pU(h:Nat)(aZ:Nat->List Z.D):Nat->Z.Store
 |0=>List.replicate h (.lst [])
 |i+1=>gZ h aZ i (pU h aZ i)
theorem BO:∀i,(pU h aZ (i+1)).length=h+1
 |0=>by simp[pU,gZ]
 |i+1=>by
  show(gZ h aZ (i+1) (pU h aZ (i+1))).length=_;unfold gZ;rw[if_neg (by omega),List.length_set,BO i]
theorem ag7{m:Nat}{l:List Z.D}(q:Z.bC 0 l=true):Z.bC m l=true:=Z.hA (hJ m) l q
theorem MK(hc:∀i,i<=M.ds.length->Z.bC 0 (aZ i)=true):∀i,i<=M.ds.length+1->ru (pU h aZ i)
 |0,_=>λm hm=>by
  rw[(List.mem_replicate.mp hm).2];rfl
 |i+1,hi=>λm hm=>by
  have ih:=MK hc i (by omega);have hm:m∈gZ h aZ i (pU h aZ i):=hm;have hq:∀k,Z.iI k (.lst (aZ i))=true:=λk=>ag7 (hc i (by omega));unfold gZ at hm;rw[BO];split at hm
  .rename_i e
   subst e;rcases mD.mp hm with hm|hm
   .rw[(List.mem_replicate.mp hm).2]
    rfl
   .rw[rV.mp hm]
    exact hq _
  .rename_i e
   rcases List.mem_or_eq_of_mem_set hm with hm|rfl
   .obtain⟨j,rfl⟩:∃j,i=j+1:=⟨i - 1,by omega⟩
    have:=ih m hm;rw[BO]at this;exact this
   .exact hq _
theorem Vv(hc:∀i,i<=M.ds.length->Z.bC 0 (aZ i)=true):∀i,i<=M.ds.length+1->nB h aZ i (pU h aZ i)
 |0,hi=>⟨MK hc 0 hi,λ_=>by simp[pU],λz=>by omega⟩
 |i+1,hi=>⟨MK hc (i+1) hi,λz=>by omega,λ_=>by
  show(gZ h aZ i (pU h aZ i))[h]?=_;rw[Nat.add_sub_cancel];unfold gZ;split
  .rename_i e
   subst e;simp[pU]
  .rename_i e
   obtain⟨j,rfl⟩:∃j,i=j+1:=⟨i - 1,by omega⟩
   rw[mE (by rw[BO];omega)]⟩
theorem Vw{S:Z.Store}{i:Nat}(e:∀j,j<i->aZ j=qs' j)(q:nB h aZ i S):nB h qs' i S:=⟨q.1,q.2.1,λz=>by rw[<-e (i - 1) (by omega)];exact q.2.2 z⟩
theorem Vx{i:Nat}{S:Z.Store}(eI:i=0\/h<S.length)(e:gZ h aZ i S=gZ h qs' i S):aZ i=qs' i:=by
 unfold gZ at e;split at e
 .rename_i z
  subst z;have:=List.append_cancel_left e;injection this with this _
  injection this
 .rename_i z
  have hh:h<S.length:=eI.resolve_left z;have:=congrArg (λl:Z.Store=>l[h]?) e;simp only[mE hh]at this;injection this with this
  injection this
theorem Vy{ds n5:List Z.D}{slA Vz slY VA:Nat->Z.aL}{j:Nat}{S S1 S2:Z.Store}(ea:slA j=Vz j)(a:mr fT fA fE ds slA slY j S S1)(b:mr fT fA fE n5 Vz VA j S S2):(j<ds.length↔j<n5.length)/\S1=S2/\∀(h1:j<ds.length) (h2:j<n5.length),slY j=VA j/\ds[j]=n5[j]:=by
 unfold mr at a b;by_cases h1:j<ds.length
 .rw[dif_pos h1]at a
  by_cases h2:j<n5.length
  .rw[dif_pos h2,<-ea]at b
   obtain⟨au,e2⟩:=MJ a.2.1 b.2.1;refine⟨⟨λ_=>h2,λ_=>h1⟩,e2,λ_ _=>⟨au,?_⟩⟩;have bw:=a.2.2;rw[au,e2,b.2.2]at bw;exact(Z.Out.ok.inj bw).1.symm
  .rw[dif_neg h2,<-ea]at b
   have:=a.1.symm.trans b.1;cases this
 .rw[dif_neg h1]at a
  by_cases h2:j<n5.length
  .rw[dif_pos h2,<-ea]at b
   have:=a.1.symm.trans b.1;cases this
  .rw[dif_neg h2]at b
   exact⟨⟨λz=>absurd z h1,λz=>absurd z h2⟩,a.2.trans b.2.symm,λz=>absurd z h1⟩
theorem nC.step(F:nC np my h dh fT fA fE fB args M aZ)(G:nC np my h dh fT fA fE fB args hE qs'):∀i,i<=M.ds.length->i<=hE.ds.length->(i<M.ds.length↔i<hE.ds.length)/\(∀j,j<=i->aZ j=qs' j)/\∀(h1:i<M.ds.length) (h2:i<hE.ds.length),M.slY i=hE.slY i/\M.ds[i]=hE.ds[i]
 |0,_,_=>by
  have p1:=Vv (h:=h) F.cl 0 (by omega);obtain⟨S1,au,ML⟩:=F.st _ p1;obtain⟨S2,e2,MN⟩:=G.st _ (Vw (qs':=qs') (λj cm=>by omega) p1);rw[F.sl0]at au;rw[G.sl0]at e2;obtain⟨ea,es⟩:=MJ au e2;subst es;obtain⟨r1,r2,bU⟩:=Vy ea ML MN;exact⟨r1,λj cm=>by rw[Nat.le_zero.mp cm];exact Vx (.inl rfl) r2,bU⟩
 |i+1,h1,h2=>by
  obtain⟨_,eq,r⟩:=nC.step F G i (by omega) (by omega);obtain⟨dr,_⟩:=r (by omega) (by omega);have p1:=Vv (h:=h) F.cl (i+1) (by omega);obtain⟨S1,au,ML⟩:=F.lp.b i (by omega) _ p1;obtain⟨S2,e2,MN⟩:=G.lp.b i (by omega) _ (Vw (qs':=qs') (λj cm=>eq j (by omega)) p1);rw[dr]at au;obtain⟨ea,es⟩:=MJ au e2;subst es;obtain⟨r1,r2,bU⟩:=Vy ea ML MN;have bj:aZ (i+1)=qs' (i+1):=Vx (.inr (by rw[BO];omega)) r2;refine⟨r1,λj cm=>?_,bU⟩;by_cases z:j=i+1
  .rw[z];exact bj
  .exact eq j (by omega)
theorem nC.same(F:nC np my h dh fT fA fE fB args M aZ)(G:nC np my h dh fT fA fE fB args hE qs'):M.ds=hE.ds/\∀j,j<=M.ds.length->aZ j=qs' j:=by
 have hl:M.ds.length=hE.ds.length:=by
  rcases Nat.lt_trichotomy M.ds.length hE.ds.length with z|z|z
  .have:=(F.step G M.ds.length (Nat.le_refl _) (by omega)).1
   omega
  .exact z
  .have:=(F.step G hE.ds.length (by omega) (Nat.le_refl _)).1
   omega
 refine⟨List.ext_getElem hl λj h1 h2=>((F.step G j (by omega) (by omega)).2.2 h1 h2).2,(F.step G M.ds.length (Nat.le_refl _) (by omega)).2.1⟩
theorem ag8(F:nC np my h dh fT fA fE fB args M aZ):∃hE qs',v5 np my dh fT fA fE fB h args=some hE/\hE.ds=M.ds/\hE.fin=.done/\hE.d7=nB h qs'/\hE.U=gZ h qs'/\∀j,j<=M.ds.length->qs' j=aZ j:=by
 unfold v5;have q:∃M aZ,nC np my h dh fT fA fE fB args M aZ:=⟨M,aZ,F⟩
 rw[dif_pos q];obtain⟨qs',G⟩:=q.choose_spec;obtain⟨au,e2⟩:=F.same G;exact⟨_,qs',rfl,au.symm,G.fin,G.F',G.u,λj cm=>(e2 j cm).symm⟩
end
end ZG
namespace ZJ
section
variable{α β:Type}[DecidableEq α][DecidableEq β]
def cs:List (α×Rat)->α->Rat
 |[],_=>0
 |(b,r)::l,a=>(if b=a then r else 0)+cs l a
def VB(d:List (α×Rat)):List α:=d.map (·.1)
def look:List (α×Rat)->α->Option Rat
 |[],_=>none
 |(b,r)::d,a=>if b=a then some r else look d a
def put(d:List (α×Rat))(a:α)(r:Rat):List (α×Rat):=if a∈VB d then d.map (λp=>if p.1=a then(p.1,r)else p)else d++[(a,r)]
def out(le:α->α->Bool)(d:List (α×Rat)):List (α×Rat):=(((VB d).mergeSort le).filter λa=>decide (cs d a≠0)).map λa=>(a,cs d a)
end
section
variable{α β:Type}[DecidableEq α][DecidableEq β]
def jh(D n:Nat)(r:Rat):Prop:=∃z:Int,r * (D:Rat)=(z:Rat)/\z.natAbs<=n
theorem MO(z:Int):Rat.divInt z 1=(z:Rat):=by
 have:=Rat.divInt_ofNat z 1;rw[Rat.mkRat_one]at this;exact this
theorem jh.size{D n:Nat}{r:Rat}(h:jh D n r)(bT:0<D):r.num.natAbs<=n/\r.den<=D:=by
 obtain⟨z,e,l⟩:=h;have T5:r.num * (D:Int)=z * (r.den:Int):=by
  have au:r * (D:Rat)=Rat.divInt (r.num * (D:Int)) (r.den:Int):=by
   conv=>lhs;rw[<-HV r]
   rw[show((D:Nat):Rat)=Rat.divInt (D:Int) 1 by rw[MO,Rat.intCast_natCast],Rat.divInt_mul_divInt,Int.mul_one]
  rw[au,<-MO z]at e;have:=(HW (by have:=r.den_nz;omega) (by decide)).mp e;simpa using this
 have hd:r.den ∣ D:=by
  have h1:(r.den:Int) ∣ r.num * (D:Int):=⟨z,by grind⟩
  have h2:r.den ∣ r.num.natAbs * D:=by
   have:=Int.natAbs_dvd_natAbs.mpr h1;rwa [Int.natAbs_mul,ui,ui]at this
  exact(Nat.Coprime.symm r.reduced).dvd_of_dvd_mul_left h2
 have hle:=Nat.le_of_dvd bT hd;refine⟨?_,hle⟩;have aI:r.num.natAbs * D=z.natAbs * r.den:=by
  have:=congrArg Int.natAbs T5;rwa [Int.natAbs_mul,Int.natAbs_mul,ui,ui]at this
 have bE:z.natAbs * r.den<=z.natAbs * D:=wR _ hle;have cw:r.num.natAbs * D<=z.natAbs * D:=by omega
 have:=Nat.le_of_mul_le_mul_right cw bT;omega
end
end ZJ
namespace Z
open PySem PySem.Spec L2 ZM
section
variable{S:Store}{sl:aL}{f1:aM}
theorem ag9{x:D}(h:f1 sl S=.ok (.lst [x]) S):az hy f1 (ah (.int 5)) sl S=.ok (.lst [x,x,x,x,x]) S:=by
 refine d6 h rfl ?_;rfl
end
def ek:fK->NestedKey
 | .w u=>.text (ao u)
 | .s u=>.tup (u.map .num)
 | .l x=>.tup [.num x.1,.tup (x.2.map λy=>.tup [.num y.1,.num y.2])]
 | .d x=>.tup [.num x.1,.num x.2.1,.num x.2.2]
 | .p a b=>.tup [ek a,ek b]
def aN(r:Rat):D:=hC r.num r.den
def cg(r:Rat):D:=q8 r.num r.den
@[simp] theorem aqN{k:Nat}{r:Rat}:bg k (aN r)=true:=Lb
@[simp] theorem aha{k:Nat}{r:Rat}:bg k (cg r)=true:=TV
abbrev pV(n:Nat)(r:Rat):Prop:=LT n r.num r.den
theorem pV.of{n:Nat}{r:Rat}(h1:r.num.natAbs<2 ^ n)(h2:r.den<2 ^ n):pV n r :=
 ⟨h1,by unfold Bd;omega,by have:=r.den_pos;omega,by show Nat.gcd r.num.natAbs (Int.natAbs (r.den:Int))=1;rw[ui];exact r.reduced⟩
theorem VC{P Q:Int}(eC:0<Q)(x:Rat)(h:x=Rat.divInt P Q):num P Q=x.num/\den P Q=x.den:=by
 have hq:Q≠0:=by omega
 have hp:=den_pos (p:=P) hq;have hg:=yc (p:=P) hq;have eX:=TU (p:=P) hq;have au:num P Q * (Int.gcd P Q:Int)=P:=by
  unfold num;rw[if_pos eC];exact Int.ediv_mul_cancel (Int.gcd_dvd_left ..)
 have e2:den P Q * (Int.gcd P Q:Int)=Q:=by
  unfold den;rw[show(Q.natAbs:Int)=Q by omega];exact Int.ediv_mul_cancel (Int.gcd_dvd_right ..)
 have hn:((den P Q).toNat:Int)=den P Q:=by omega
 let y:Rat:=⟨num P Q,(den P Q).toNat,by omega,by
  have eX:Nat.gcd (num P Q).natAbs (den P Q).natAbs=1:=eX;grind⟩
 have a6:y=Rat.divInt (num P Q) (den P Q):=by
  rw[<-hn];exact(HV y).symm
 have ahb:y=x:=by
  rw[a6,h,HW (by omega) hq]
  calc num P Q * Q=num P Q * (den P Q * (Int.gcd P Q:Int)):=congrArg (num P Q * ·) e2.symm
   _=(num P Q * (Int.gcd P Q:Int)) * den P Q:=by rw[Int.mul_comm (den P Q),Int.mul_assoc]
   _=P * den P Q:=congrArg (· * den P Q) au
 rw[<-ahb];exact⟨rfl,hn.symm⟩
section
variable{S:Store}{n:Nat}{r:Rat}
theorem ahc(h:pV n r)(hl:n<=1000):ya [cg r] S=.ok (aN r) S:=adt h hl
end
theorem VD{α:Type}{row:α->D}{l:List α}{sl:aL}{S ak:Store}{Q:iQ}{G:Store->Prop}{g:dz}{body:SX}{it:gQ}(hit:it sl S=.ok (l.map row,G) ak)(I:List α->aL->Store->Prop)(h0:I [] sl ak)
  (step:∀p x post sl S,l=p++x::post->I p sl S->G S/\aV (g (row x) sl S) ⟨λa' S1=>aV (body a' S1) ⟨λbH S2=>I (p++[x]) bH S2,Q.nx,λbH S2=>I (p++[x]) bH S2,Q.rt,Q.ex⟩,λ_ _=>False,λ_ _=>False,λ_ _=>False,λ_ _ _=>False⟩)
  (gU:∀sl S,I l sl S->G S/\Q.nx sl S):aV (uD it g body sl S) Q:=by
 refine abu hit (λpre sl S=>∃p q,l=p++q/\pre=p.map row/\I p sl S) ⟨[],l,rfl,rfl,h0⟩ ?_ ?_
 .rintro pre x post sl S he ⟨p,q,hl,rfl,hi⟩
  rw[hl,List.map_append,List.append_cancel_left_eq]at he;cases q with
  |nil=>cases he
  |cons y q =>
   rw[c1]at he;injection he with h1 h2
   subst h1;obtain⟨hg,hw⟩:=step p y q sl S hl hi;refine⟨hg,hw.mono (λa' S1 h=>h.mono ?_ (λ_ _ h=>h) ?_ (λ_ _ h=>h) (λ_ _ _ h=>h)) (λ_ _ h=>h) (λ_ _ h=>h) (λ_ _ h=>h) (λ_ _ _ h=>h)⟩
   .exact λbH S2 h=>⟨p++[y],q,by rw[hl];simp,by simp,h⟩
   .exact λbH S2 h=>⟨p++[y],q,by rw[hl];simp,by simp,h⟩
 .rintro sl S ⟨p,q,hl,he,hi⟩
  have:q=[]:=by
   have:=congrArg List.length he;rw[hl]at this;simp at this;exact this
  grind
section
variable{α:Type}{S S0:Store}{sl sl0:aL}{G:Store->Prop}{g:dz}{bt:cz}{fe:aM}{it:gQ}{own:List Nat}{row:α->D}
theorem MP(p:α->Bool)(bY:α->D)(bp:∀acc,G (S0++[.lst acc])):∀(l:List α) (acc:List D),acc.length+l.length<=1000000 ->
  (∀a∈l,∀acc,∃a',g (row a) sl0 (S0++[.lst acc])=.nx a' (S0++[.lst acc])/\bt a' (S0++[.lst acc])=.ok (p a) (S0++[.lst acc])/\(p a=true->fe a' (S0++[.lst acc])=.ok (bY a) (S0++[.lst acc]))) ->
  iL G g bt fe S0.length sl0 (l.map row) (S0++[.lst acc])=.ok () (S0++[.lst (acc++(l.filter p).map bY)])
 |[],acc,_,_=>by
  show iL G g bt fe S0.length sl0 [] _=_;rw[iL,if_pos (bp acc)];simp
 |a::l,acc,hl,h=>by
  obtain⟨a',au,e2,bj⟩:=h a (by simp) acc;have c7:acc.length<1000000:=by simp at hl;omega
  show iL G g bt fe S0.length sl0 (row a::l.map row) _=_;rw[iL,if_pos (bp acc),au];dsimp only;rw[e2];cases hp:p a with
  |false =>
   dsimp only;rw[MP p bY bp l acc (by grind) λb hb=>h b (by simp[hb]),List.filter_cons_of_neg (by simp[hp])]
  |true =>
   dsimp only;rw[bj hp];dsimp only;rw[show(S0++[dk.lst acc])[S0.length]?=some (.lst acc)by simp];dsimp only;rw[if_pos c7,show(S0++[dk.lst acc]).set S0.length (.lst (acc++[bY a]))=S0++[.lst (acc++[bY a])]by simp,MP p bY bp l (acc++[bY a]) (by grind) λb hb=>h b (by simp[hb]),List.filter_cons_of_pos (by simp[hp])];simp
theorem ahd{l:List α}(p:α->Bool)(bY:α->D)(hit:it sl S=.ok (l.map row,G) S)(hl:l.length<=1000000)(bp:∀acc,G (S++[.lst acc]))
  (step:∀a∈l,∀acc,∃a',g (row a) (cE sl own) (S++[.lst acc])=.nx a' (S++[.lst acc])/\bt a' (S++[.lst acc])=.ok (p a) (S++[.lst acc])/\(p a=true->fe a' (S++[.lst acc])=.ok (bY a) (S++[.lst acc]))) :
  cK it g bt fe own sl S=.ok (.ptr S.length) (S++[.lst ((l.filter p).map bY)]):=by
 have h:=MP (sl0:=cE sl own) p bY bp l [] (by grind) step;unfold cK;simp_all
theorem ahe{l:List α}(p:α->Bool)(bY:α->D)(hit:it sl S=.ok (l.map row,G) S)(hl:l.length<=1000000)(bp:∀acc,G (S++[.lst acc]))
  (step:∀a∈l,∀acc,∃a',g (row a) (cE sl own) (S++[.lst acc])=.nx a' (S++[.lst acc])/\bt a' (S++[.lst acc])=.ok (p a) (S++[.lst acc])/\(p a=true->fe a' (S++[.lst acc])=.ok (bY a) (S++[.lst acc])))
  (aT:∀a∈l,p a=true->bg S.length (bY a)=true):c' (cK it g bt fe own) sl S=.ok (.lst ((l.filter p).map bY)) S:=by
 refine Uu (ahd p bY hit hl bp step) ?_;rw[ku];grind
theorem rA{l:List α}(bY:α->D)(hit:it sl S=.ok (l.map row,G) S)(hl:l.length<=1000000)(bp:∀acc,G (S++[.lst acc]))
  (step:∀a∈l,∀acc,∃a',g (row a) (cE sl own) (S++[.lst acc])=.nx a' (S++[.lst acc])/\fe a' (S++[.lst acc])=.ok (bY a) (S++[.lst acc]))
  (aT:∀a∈l,bg S.length (bY a)=true):c' (cK it g di fe own) sl S=.ok (.lst (l.map bY)) S:=by
 have:=ahe (bt:=di) (fe:=fe) (own:=own) (sl:=sl) (g:=g) (λ_=>true) bY hit hl bp (λa ha acc=>by
  obtain⟨a',h1,h2⟩:=step a ha acc;exact⟨a',h1,rfl,λ_=>h2⟩) λa ha _=>aT a ha
 rw[this,HM.mpr λa _=>rfl]
end
end Z
namespace ZG
open PySem PySem.Spec GenW PyProof.Rows L2
structure MQ(C:Cx)(W:WX)(sh:kI)(dh:Z.SX)(fT:Z.cz)(fA:Z.SX)(fE:Z.aM)(fB:Z.SX):Prop where
 pre:Z.gu C W sh.pre dh
 t:Z.jL C W sh.test fT
 A:Z.gu C W sh.As fA
 e:Z.E C W sh.yu fE
 B:Z.gu C W sh.vS fB
def VE(k j:Nat)(b:List Stmt):kI:=match b.drop k with
 | .While t l _ p::_=>(match l.drop j with
  | .Expr (.Yield (some e) yv) ps::r=>⟨b.take k,t,l.take j,e,yv,ps,r,p⟩
  |_=>⟨[],t,[],t,p,p,[],p⟩)
 |_=>⟨[],.Name "" ⟨0,0,0,0⟩,[],.Name "" ⟨0,0,0,0⟩,⟨0,0,0,0⟩,⟨0,0,0,0⟩,[],⟨0,0,0,0⟩⟩
structure Ga(P:Program)(w:World)(K:PySem.W.Frag)(mg:Str->Option Value)(base:Heap)(k:Nat)(f:Addr)(n:Nat)(eB:List Z.D)(pT:vY):Prop where
 run:∀{X:Cx} {W:WX} {x:Str} {p pos:Pos} {e:Expr} {es:List Expr} {fa:Z.cO} (off:Nat),X.prog=P->X.w=w->X.K=K->X.mg=mg->X.base=base->Room k X.A->mg x=some (.ref f)->PySem.W.keepIn K (.ref f)=true ->
  Z.gq X W (e::es) fa->Gl X x->(x==("__debug__":Str))=false ->
  starEach (e::es) X.env=(false,eval e X.env)::starEach es X.env->(backTo pos (starEach es X.env)).any (·.1)=false ->
  BM X W (.Call (.Name x p) (e::es) [] pos) (vZ off n eB pT fa)
section
variable{P:Program}{w:World}{K:PySem.W.Frag}{mg:Str->Option Value}{base:Heap}{k:Nat}{f:Addr}{n:Nat}{eB:List Z.D}{x qual:Str}{params:Arguments}{stb:List Stmt}{scope:Scope}{dvs:List V}{kws:List (Str×V)}{fd:FuncData}{N ps:List Str}{its:List Value}{dfs:List V}{sh:kI}{dh:Z.SX}{fT:Z.cz}{fA:Z.SX}{fE:Z.aM}{fB:Z.SX}
theorem ahf(F:FunD K x qual params stb scope dvs kws f fd)(ahg:stb=sh.body)(Sc:GScope N ps scope)(af:BE N scope)
  (hb:Binds K fd ps its) (ahh:Vals dfs its) (vr:∀ρ H,Z.ay K mg ρ H eB dfs)
  (hint:∀n cd,interactive (envOfC qual scope n f cd)=false)
  (hd:∀(cd:Value) (A:Around) (outer:List Env) (n:Addr) (s:Shared) (H:Hp) (pn:List (Addr×Obj)) (xe:Value->Shared->Prop) (W:WX),Z.Takes (oL P w K mg base N qual scope f cd A outer n s H pn xe) W->PassesOwn (model P w) (A.deeper (envOfC qual scope n f cd)) (envOfC qual scope n f cd) xe ->
   Room k (A.deeper (envOfC qual scope n f cd))->MQ (oL P w K mg base N qual scope f cd A outer n s H pn xe) W sh dh fT fA fE fB) :
  Ga P w K mg base (k+2) f n eB (v5 ps.length N.length dh fT fA fE fB):=by
 subst ahg;refine⟨λ{X W y p pos e es fa} off bu hw hK hm ahi hr MR xV ha hg g9 he eQ=>?_⟩;subst bu hw hK hm ahi;obtain⟨eZ,od,g7,kV,doc,pm,an,eR,ct,il,rfl,lk,jM,bT,aqO⟩:=F.ex;refine ag3 (dh:=dh) (fT:=fT) (fA:=fA) (fE:=fE) (fB:=fB) hr.hd (Room.Vd hr) lk jM Sc hb ahh vr (λh args M ko=>?_) MR xV ha hg g9 he eQ;obtain⟨aZ,FM⟩:=ag6 ko;refine⟨FM.len,by rw[FM.sl0],λn a g=>?_,λe he=>by rw[FM.fin]at he;cases he⟩;have pc:∀own s H W,MQ (eM X N qual scope f eR n own s H W) W sh dh fT fA fE fB:=λown s H W =>
  hd eR X.A.in1 X.stack n s H _ _ W af6 U7 ((hr.in1).deeper _)
 exact⟨af,Sc.co,hint n eR,λown s H W=>(pc own s H W).pre,λown s H W=>⟨(pc own s H W).t,(pc own s H W).A,(pc own s H W).e,(pc own s H W).B⟩,
  .inl ⟨λS q=>by rw[FM.F']at q;rw[FM.u];exact FM.st S q,by rw[FM.F',FM.u];exact FM.lp,FM.fin⟩⟩
end
section
variable{X:Cx}{W:WX}{k off:Nat}{f:Addr}{n:Nat}{eB:List Z.D}{pT:vY}{x:Str}{p pos:Pos}{e:Expr}{es:List Expr}{fa:Z.cO}
theorem ahj(F:Ga X.prog X.w X.K X.mg X.base k f n eB pT)(hr:Room k X.A)(hm:X.mg x=some (.ref f))(hk:PySem.W.keepIn X.K (.ref f)=true)(ha:Z.gq X W (e::es) fa)(hg:Gl X x:=by rfl)(g9:(x==("__debug__":Str))=false:=by decide)(he:starEach (e::es) X.env=(false,eval e X.env)::starEach es X.env:=by rfl)
  (eQ:(backTo pos (starEach es X.env)).any (·.1)=false:=by rfl):BM X W (.Call (.Name x p) (e::es) [] pos) (vZ off n eB pT fa) :=
 F.run off rfl rfl rfl rfl rfl hr hm hk ha hg g9 he eQ
end
def tj.ahk(fin:tj)(u:Z.Store->Z.Store):Z.Store->Z.Out Unit:=match fin with
 | .done=>λS=>.ok () (u S)
 | .ex _=>λ_=>.bad
def kJ(d7:Nat->Z.Store->Prop)(U:Nat->Z.Store->Z.Store)(fin:tj)(g:Z.dz)(bt:Z.cz)(fe:Z.aM)(n:Nat)(sl:Z.aL):Nat->List Z.D->Z.Store->Z.Out Unit
 |i,[],S=>open Classical in if d7 i S then fin.ahk (U i) S else .bad
 |i,x::xs,S=>open Classical in if d7 i S then(match g x sl (U i S)with
  | .nx a' S1=>(match bt a' S1 with
   | .ok true S2=>(match fe a' S2 with
    | .ok d aW=>(match aW[n]? with
     |some (.lst acc)=>if acc.length<1000000 then kJ d7 U fin g bt fe n sl (i+1) xs (aW.set n (.lst (acc++[d])))else .bad
     |_=>.bad)
    |_=>.bad)
   | .ok false S2=>kJ d7 U fin g bt fe n sl (i+1) xs S2
   |_=>.bad)
  |_=>.bad)else .bad
def yB(ge:vV)(g:Z.dz)(bt:Z.cz)(fe:Z.aM)(own:List Nat):Z.aM:=λsl S=>(ge sl S).bind λp S1=>(kJ p.2.2.1 p.2.2.2 p.2.1 g bt fe S1.length (Z.cE sl own) 0 p.1 (S1++[.lst []])).bind λ_ S2=>.ok (.ptr S1.length) S2
section
variable{X:Cx}{W:WX}{pos:Pos}{elt tg iter:Expr}{ifs:List Expr}{scope:Scope}{own:List (Str×Nat)}{ge:vV}{g:Z.dz}{bt:Z.cz}{fe:Z.aM}
theorem ahl{q:pS}{s3:Shared}{dG:Hp}{pins:List (Addr×Obj)}{σ:L2.St}(o:FW X q.n q.a)(tq:q.a<s3.heap.objs.size)(I:Inv X pins σ dG s3)(ok:BlkOk X.N X.env.scope scope own)(BP:(scope.names.all λy=>y.2 != .cell)=true) :
  Old (X.blk s3 dG scope (compEnvC scope (cellsFrom (s3.heap.objs.size+1) scope.names (cloFrom X.env.cells scope.names [])) s3.heap.objs.size X.env) (tn q.n dG s3)) dG q.n q.a where
 s0:=λb hb hn=>by
  by_cases h:b<s3.heap.objs.size
  .exact .inl (Vb.mpr ⟨h,hb,hn⟩)
  .exact .inr (Nat.le_of_not_lt h)
 loc:=⟨qg (oY o.na tq),qg tq⟩
 nq:=λx c h=>by
  have h:(cellsFrom (s3.heap.objs.size+1) scope.names (cloFrom X.env.cells scope.names [])).lookup x=some c:=h;rw[Vc _ _ _ BP]at h;rcases cloFrom_mem (qh h)with hm|⟨h1,e⟩
  .cases hm
  .have:∃c,X.env.cells.lookup x=some c:=by
    rcases ok.free _ h1 rfl with k|k
    .exact I.ok.has _ (.inl k)
    .exact I.ok.has _ (.inr k)
   obtain⟨bA,u6⟩:=this;rw[u6]at e;have e:c=bA:=e;rw[e];exact o.nq x bA u6
 fs:=o.fs
 By:=o.fs
 bs:=o.bs
 na:=o.na
theorem ahm{pins:List (Addr×Obj)}{s:Shared}{σ:L2.St}{H:Hp}{Q:VK}{pos':Pos}{use:Option (Value->Sem Unit)}{Gb:Value->Shared->Prop}(hc:X.calm=true)(gv:X.N.Nodup)(hd:X.A.handled=none)(kE:X.A.depth<recursionLimit)(ok:BlkOk X.N X.env.scope scope own)(BP:(scope.names.all λy=>y.2 != .cell)=true)(I:Inv X pins σ H s)(hi:BM X W iter ge)
  (hg:∀(s:Shared) (H:Hp) (C:Addr) (cl:List (Str×Addr)) (fp:List Addr),Z.qP (X.blk s H scope (compEnvC scope cl C X.env) fp) Z.WF (own.map (·.2)) tg g) (ht:∀(s:Shared) (H:Hp) (C:Addr) (cl:List (Str×Addr)) (fp:List Addr),Z.Af (X.blk s H scope (compEnvC scope cl C X.env) fp) Z.WF ifs bt)
  (he:∀(s:Shared) (H:Hp) (C:Addr) (cl:List (Str×Addr)) (fp:List Addr),Z.E (X.blk s H scope (compEnvC scope cl C X.env) fp) Z.WF elt fe) (hs:∀x,foldedSetIterable iter X.env x=pure x) (h:Z.fx X.K X.mg W (yB ge g bt fe (own.map (·.2))) σ H Q)
  (ahn:∀D C s' m H',Inv X pins σ H' s'->Q (.ref D) H'->s'.heap.Ns C m->FpOk X pins H' C->compPost (model X.prog X.w) X.A X.xe use Gb (.ref D) C (.ok .next) s') :
  wpAny (model X.prog X.w) X.A (comprehension (.ListComp elt [⟨tg,iter,ifs,0⟩] scope pos) scope X.env pos' (newList []) false (eval iter X.env) use) Gb X.xe s:=by
 obtain⟨ρ,S,sl,w,rs,p⟩:=h;have aho:∀y∈scope.names,y.2=.free->∃c,X.env.cells.lookup y.1=some c:=λy a6 e=>by
  rcases ok.free y a6 e with k|k
  .exact I.ok.has _ (.inl k)
  .exact I.ok.has _ (.inr k)
 have p:Z.aS X.K X.mg (λC d H'=>W C d σ H') ρ H Q ((ge sl S).bind λp S1=>(kJ p.2.2.1 p.2.2.2 p.2.1 g bt fe S1.length (Z.cE sl (own.map (·.2))) 0 p.1 (S1++[.lst []])).bind λ_ S2=>.ok (.ptr S1.length) S2):=p;have h0:=hi pins s σ ρ H S sl I w rs;refine wpAny_comprehension_free (use:=use) rfl hs (closure_ok aho) ok.kind (λy a6 e=>by rw[ok.uniq y a6,e]) ?_;cases hq:ge sl S with
 |bad=>rw[hq]at p;exact p.elim
 |ex e S1 =>
  rw[hq]at p h0;exact thn (h0 λC dd aj H' y cn r=>p C dd aj H' y cn r) λ_ _ z=>z.elim
 |ok pr S1 =>
  rw[hq]at p h0;refine thn h0 λv s1 ⟨q,m,aB,H1,dh,fT,fA,fE,fB,au,e2,I1,x1,aE,sQ,o,tq,t,BG,fJ⟩=>?_;subst au e2;have p1:Z.aS X.K X.mg (λC d H'=>W C d σ H') aB H1 Q ((kJ m.d7 m.U m.fin g bt fe S1.length (Z.cE sl (own.map (·.2))) 0 m.ds (S1++[.lst []])).bind λ_ S2=>.ok (.ptr S1.length) S2):=Z.aS.from x1 p;obtain⟨nc,ahp,ahq,jf,aqP,gj,gB,ME,gs,je,tx⟩:=t;have ahr:∀b∈gk q.scope q.n,b<s1.heap.objs.size:=λb hb=>by
   obtain⟨x,hx⟩:=F4 hb;obtain⟨v,ob,aQ,_⟩:=gB.cell x b hx;exact Heap.lt_size aQ
  refine wpAny_pyIter_gen jf ?_;refine wpAny_newObj_type (newEnv_comp ?_) (by show 0<=sizeLine;decide);generalize bT:s1.heap.objs.size=D;have Ag:H1 D=none:=I1.hok.fresh (Nat.le_of_eq bT);generalize FZ:({ s1 with heap:=s1.heap.push { cls:=.type "list",data:=.seq ([]:List Value).toArray } }:Shared)=s3;have lT:Inv X pins σ (upd H1 D (.lst [])) s3:=by
   rw[<-FZ];refine I1.laid (t':=s1.toks) (λb o e=>Heap.get?_push_of_some _ e) (Nat.le_of_eq bT) ⟨hJ _,[],0,.nil,?_⟩;rw[<-bT];exact Heap.get?_push_size _ rfl
  have aI:s3.heap=s1.heap.push { cls:=.type "list",data:=.seq ([]:List Value).toArray }:=by rw[<-FZ]
  have g3:s3.gens=s1.gens:=by rw[<-FZ]
  have iR:∀b o,s1.heap.get? b=some o->s3.heap.get? b=some o:=λb o e=>by rw[aI];exact Heap.get?_push_of_some _ e
  have dc:Z.Ext aB H1 (aB++[D]) (upd H1 D (.lst [])):=Z.Ext.hand Ag;have g8:Z.aF X.K X.mg (aB++[D]) (upd H1 D (.lst [])) (S1++[.lst []]):=aE.hand Ag ⟨[],upd_same,Z.ay.nil⟩;have MS:(aB++[D])[S1.length]?=some D:=by rw[<-aE.len];simp
  have ahs:q.a<s3.heap.objs.size:=by rw[aI,Heap.size_push];exact Nat.lt_succ_of_lt tq
  have f3:∀b∈tn q.n (upd H1 D (.lst [])) s3,FpOk X pins (upd H1 D (.lst [])) b/\b<s3.heap.objs.size:=λb hb=>by
   obtain⟨b1,de,yo⟩:=Vb.mp hb;exact⟨⟨yo,qg (jr o.loc de),λz=>absurd (jr (o.By b z) de) (kZ _),.inr (Nat.le_trans o.s0 de),λx c e=>hZ (jr (o.nq x c e) de),λp hp=>hZ (jr (BG p hp) de)⟩,b1⟩
  have nh:=block_start lT ok gv f3;have BQ:=ahl (q:=q) o ahs lT ok BP;have pg:=hg s3 (upd H1 D (.lst [])) s3.heap.objs.size (cellsFrom (s3.heap.objs.size+1) scope.names (cloFrom X.env.cells scope.names [])) (tn q.n (upd H1 D (.lst [])) s3);have pt:=ht s3 (upd H1 D (.lst [])) s3.heap.objs.size (cellsFrom (s3.heap.objs.size+1) scope.names (cloFrom X.env.cells scope.names [])) (tn q.n (upd H1 D (.lst [])) s3);have BR:=he s3 (upd H1 D (.lst [])) s3.heap.objs.size (cellsFrom (s3.heap.objs.size+1) scope.names (cloFrom X.env.cells scope.names [])) (tn q.n (upd H1 D (.lst [])) s3);show codeAny _ _ (.compStart (.ListComp elt [⟨tg,iter,ifs,0⟩] scope pos) 0 (.ref q.a) (.ref D) (compEnvC scope (cellsFrom (s3.heap.objs.size+1) scope.names (cloFrom X.env.cells scope.names [])) s3.heap.objs.size X.env)) (compPost (model X.prog X.w) X.A X.xe use Gb (.ref D) s3.heap.objs.size) { s3 with heap:=pushCells (s3.heap.push { cls:=.type "dict",data:=.dict #[] }) scope.names };generalize aht:compEnvC scope (cellsFrom (s3.heap.objs.size+1) scope.names (cloFrom X.env.cells scope.names [])) s3.heap.objs.size X.env=ce at nh pg pt BR BQ ⊢;have VF:ce.locals=s3.heap.objs.size:=by subst aht;rfl
  generalize ahu:upd H1 D (.lst [])=dG at lT nh pg pt BR f3 BQ dc g8;generalize aqQ:aB++[D]=hO at dc g8 MS;generalize F_:tn q.n dG s3=VG at nh pg pt BR f3 BQ;generalize Mj:({ s3 with heap:=pushCells (s3.heap.push { cls:=.type "dict",data:=.dict #[] }) scope.names }:Shared)=s4 at nh ⊢;have l':∀b o,s1.heap.get? b=some o->s4.heap.get? b=some o:=λb o e=>by rw[<-Mj];exact pushCells_keeps _ _ _ _ (Heap.get?_push_of_some _ (iR b o e))
  have VH:s4.gens=s1.gens:=by rw[<-Mj];exact g3
  have MT:∀b,b<D->dG b=H1 b:=λb hb=>by rw[<-ahu];exact upd_ne (hZ hb)
  generalize kF:X.blk s3 dG scope ce VG=Y at nh pg pt BR BQ;have ahv:tA Y q m dh fT fA fE fB:=by rw[<-kF];exact⟨sQ.sc,sQ.co,sQ.int,sQ.pre,sQ.pc,sQ.pl⟩
  have tD:Y.A=X.A:=by rw[<-kF]
  have tE:Y.K=X.K:=by rw[<-kF]
  have tF:Y.mg=X.mg:=by rw[<-kF]
  have yC:Y.prog=X.prog:=by rw[<-kF]
  have yD:Y.w=X.w:=by rw[<-kF]
  have ahw:Y.pn=[]:=by rw[<-kF]
  have BU:Y.xe=λ_ _=>False:=by rw[<-kF]
  have bU:Z.cq X.K X.mg hO dG (L2.wipe σ (own.map (·.2))) (Z.cE sl (own.map (·.2))):=((rs.ext x1).ext dc).wipe _;have VI:jE Y q m hO dG 0 [q.a,q.n] hO dG s4:=by
   refine⟨Z.Ext.refl,?_,?_,?_,rfl,gj,⟨?_,?_,gB.len⟩,?_,gs,by rw[VH];exact je,?_⟩
   .rw[MT _ (by rw[<-bT];exact oY o.na tq)];exact ahp
   .rw[MT _ (by rw[<-bT];exact tq)];exact ahq
   .obtain⟨ob,nm,hW,aQ,r⟩:=jf
    exact⟨ob,nm,hW,l' _ _ aQ,r⟩
   .obtain⟨mm,⟨ob,es,dF,aQ,r⟩,look⟩:=gB.loc
    refine⟨mm,⟨ob,es,dF,l' _ _ aQ,r⟩,λi x v h1 h2 aI=>?_⟩;obtain⟨u,cv,lk⟩:=look i x v h1 h2 aI;refine⟨u,cv,?_⟩;rcases lk with e|⟨k,c,hc,eZ,fY,vW⟩
    .exact .inl e
    .exact .inr ⟨k,c,hc,eZ,l' _ _ fY,vW⟩
   .intro x c hc
    obtain⟨v,eZ,fY,vW⟩:=gB.cell x c hc;exact⟨v,eZ,l' _ _ fY,vW⟩
   .intro b hb
    have e:dG b=none:=by rw[MT _ (by rw[<-bT];exact ahr b hb)];exact(ME b hb).1
    exact⟨e,e⟩
   .rcases tx with⟨_,e,r0⟩|⟨k,p,e,_⟩
    .refine .inl ⟨rfl,e,?_⟩
     rw[tE,tF];exact r0.ext dc
    .omega
  have T:Vm Y Z.WF q.a m.ds m.fin m.d7 m.U (jE Y q m hO dG) (gk q.scope q.n):=ag1 ahv BQ (by rw[tD];exact hd) (by rw[tD];exact kE) om (by rw[tE,tF];exact fJ);have loop:codeAny (model X.prog X.w) X.A (.compLoop (.ListComp elt [⟨tg,iter,ifs,0⟩] scope pos) 0 (.ref q.a) (.ref D) ce) (compPost (model X.prog X.w) X.A X.xe use Gb (.ref D) s3.heap.objs.size) s4:=by
   refine compLoop_any (λn s'=>∃i aj H' ak fp,i+n=m.ds.length/\Inv Y [] (L2.wipe σ (own.map (·.2))) H' s'/\Z.Ext hO dG aj H'/\Z.aF X.K X.mg aj H' ak/\jE Y q m hO dG i fp aj H' s' /\
    Z.aS X.K X.mg (λC d H'=>W C d σ H') aj H' Q ((kJ m.d7 m.U m.fin g bt fe S1.length (Z.cE sl (own.map (·.2))) i (m.ds.drop i) ak).bind λ_ S2=>.ok (.ptr S1.length) S2)) ?_ m.ds.length ⟨0,hO,dG,S1++[.lst []],[q.a,q.n],by omega,nh,Z.Ext.refl,g8,VI,Z.aS.from dc (by simpa using p1)⟩
   rintro n s5 ⟨i,lM,o9,eg,ahx,aqR,mb,fN,lN,VJ,d3⟩;have VL:∀p∈Y.pn++([]:List (Addr×Obj)),p.1∉ahx:=by rw[ahw];simp
   have VM:Z.aF Y.K Y.mg lM o9 eg:=by rw[tE,tF];exact lN
   cases n with
   |zero =>
    have hi:i=m.ds.length:=by omega
    subst hi;rw[List.drop_length,kJ]at d3;by_cases gm:m.d7 m.ds.length eg
    .rw[if_pos gm]at d3
     cases mw:m.fin with
     |ex e=>rw[mw]at d3;exact d3.elim
     |done =>
      rw[mw]at d3;have d3:Z.aS X.K X.mg (λC d H'=>W C d σ H') lM o9 Q (.ok (.ptr S1.length) (m.U m.ds.length eg)):=d3;have sC:=T.stop mw [] _ eg gm VJ mb VM VL;rw[yC,yD,tD,BU]at sC;refine thnF sC λr dC ⟨hr,k9,hu,lz,dw,oj⟩=>?_;subst hr;rw[tE,tF]at oj;subst kF;have tG:Inv X pins σ hu dC:=lT.call' (ch:=VG) lz.os lz.base lz.hok lz.bare λb hb=>⟨(f3 b hb).1.2.2.2.1,(f3 b hb).1.2.1,(f3 b hb).1.2.2.2.2.1,(f3 b hb).1.2.2.2.2.2⟩
      have ahy:hu s3.heap.objs.size=none:=by
       have z:hu ce.locals=none:=lz.free;rw[VF]at z;exact z
      obtain⟨mm,Ge,_⟩:=lz.loc;have Ge:dC.heap.Ns ce.locals mm:=Ge;rw[VF]at Ge;have eW:=Z.aS.from dw d3;exact ahn D s3.heap.objs.size dC mm hu tG (Z.cj (d:=.ptr S1.length) eW oj (by rw[Z.Rep];exact⟨D,rfl,(fN.trans dw).get MS⟩)) Ge (lT.fpOk (H':=hu) (Nat.le_refl s3.heap.objs.size) ahy)
    .rw[if_neg gm]at d3
     exact d3.elim
   |succ n =>
    have c7:i<m.ds.length:=by omega
    rw[(HG c7).symm,kJ]at d3;by_cases gm:m.d7 i eg
    .rw[if_pos gm]at d3
     have Bf:=T.item [] _ eg c7 gm VJ mb VM VL;rw[yC,yD,tD,BU]at Bf;refine thnF Bf λr dC ⟨u,x,k9,hu,jF,hr,cv,lz,dw,oj,aC,VN,aqS⟩=>?_;subst hr;obtain⟨⟨aqT,aqU,nm,hW,ahz,ahA,ahB,_⟩,Gf,BV⟩:=T.obj VN lz;have VO:∀b∈jF,b∉gk q.scope q.n:=λb hb hc=>by
      obtain⟨⟨o,aQ,q4⟩,_⟩:=Gf b hb;obtain⟨⟨e6,v,ti,bB⟩,_⟩:=BV b hc;rw[aQ]at ti;cases ti;exact q4 v bB
     have MU:∀b∈gk q.scope q.n,hu b=none:=λb hb=>(BV b hb).2.1;refine go_of ahz ahA ahB (by decide) ?_;have pinned:∀{bD:L2.St} {H':Hp} {s':Shared},Inv Y [] bD H' s'->(∀b∈jF,∀o,dC.heap.get? b=some o->s'.heap.get? b=some o)->(∀b∈jF,H' b=none)->Inv Y ([]++mq jF dC.heap) bD H' s':=λ{bD H' s'} J hk hn=>J.pins_of λp hp=>by
      rcases mD.mp hp with z|z
      .exact J.pin p (wU _ z)
      .obtain⟨hj,ej⟩:=Mg.mp z
       obtain⟨⟨o,aQ,q4⟩,_,aI,bE⟩:=Gf p.1 hj;rw[aQ]at ej;cases ej;exact⟨hk p.1 hj _ aQ,hn p.1 hj,aI,bE,q4⟩
     have kept:∀{bD:L2.St} {H':Hp} {s':Shared},Inv Y ([]++mq jF dC.heap) bD H' s'->Inv Y [] bD H' s'/\(∀b∈jF,∀o,dC.heap.get? b=some o->s'.heap.get? b=some o)/\∀b∈jF,H' b=none:=λ{bD H' s'} J=>by
      refine⟨J.unpinned,λb hb o aQ=>(J.pin (b,o) (wU _ (wU _ (Mg.mpr ⟨hb,aQ⟩)))).1,λb hb=>?_⟩;obtain⟨⟨o,aQ,_⟩,_⟩:=Gf b hb;exact(J.pin (b,o) (wU _ (wU _ (Mg.mpr ⟨hb,aQ⟩)))).2.1
     have uV:Z.Ext k9 hu k9 (lx hu dC.heap (gk q.scope q.n)):=Vh MU;have ahC:=pinned (agA (s:=kB dC) (lu (s':=kB dC) lz rfl rfl (FO lz.bare)) BV) (λb _ o aQ=>aQ) (λb hb=>(kG (VO b hb)).trans (Gf b hb).2.1);have eW:=Z.aS.from dw d3;have ahD:Z.aF Y.K Y.mg k9 hu (m.U i eg):=oj;rw[tE,tF]at oj aC;have ahE:=agz (s:=dC) oj MU;have fin:∀{s':Shared} {bD:L2.St} {H':Hp} {aj:List Addr} {ak:Z.Store},Inv Y ([]++mq jF dC.heap) bD H' s'->L2.wipe bD (own.map (·.2))=L2.wipe σ (own.map (·.2))->(∀(j:Nat) (x:GenState),dC.gens[j]?=some x->kz x=true->s'.gens[j]?=some x) ->
       Z.Ext k9 (lx hu dC.heap (gk q.scope q.n)) aj H'->Z.aF X.K X.mg aj H' ak->Z.aS X.K X.mg (λC d H'=>W C d σ H') k9 hu Q ((kJ m.d7 m.U m.fin g bt fe S1.length (Z.cE sl (own.map (·.2))) (i+1) (m.ds.drop (i+1)) ak).bind λ_ S2=>.ok (.ptr S1.length) S2) ->
       ∃k,k<n+1/\∃i aj H' ak fp,i+k=m.ds.length/\Inv Y [] (L2.wipe σ (own.map (·.2))) H' s'/\Z.Ext hO dG aj H'/\Z.aF X.K X.mg aj H' ak/\jE Y q m hO dG i fp aj H' s' /\
        Z.aS X.K X.mg (λC d H'=>W C d σ H') aj H' Q ((kJ m.d7 m.U m.fin g bt fe S1.length (Z.cE sl (own.map (·.2))) i (m.ds.drop i) ak).bind λ_ S2=>.ok (.ptr S1.length) S2):=λ{s' bD H' aj ak} J hw ahF hx ahG hp=>by
      obtain⟨nj,ahH,ahI⟩:=kept J;have hl:(L2.wipe σ (own.map (·.2))).length=bD.length:=by rw[<-hw,wipe_length]
      have tr:=agB (s:=dC) BV ahD hx;have MV:=agC (s:=dC) MU hx;have tk:∀b∈gk q.scope q.n,∃o,H' b=some (.frz o (.own 1)):=λb hb=>by
       obtain⟨_,o,_,e⟩:=tr b hb;exact⟨o,e⟩
      have vX:=agG lz BV nj tk;refine⟨n,qe n,i+1,aj,nz H' (gk q.scope q.n),ak,jF,by omega,vX.weak hl (λj v e=>?_),(fN.trans dw).trans MV,agF ahG (λb hb=>⟨(tr b hb).1,tk b hb⟩),T.keep VN MV (λb hb=>(ly (VO b hb)).trans (ahI b hb)) ⟨ahH,ahF⟩ (λb hb=>Mw hb) (agH nj tr),Z.aS.from MV hp⟩;rw[<-hw]at e;exact(wipe_some e).1
     cases bw:g m.ds[i] (Z.cE sl (own.map (·.2))) (m.U i eg)with
     |nx yE ia =>
      rw[bw]at eW;simp only at eW;have MX:=(pg (L2.wipe σ (own.map (·.2)))).run _ (kB dC) _ (lx hu dC.heap (gk q.scope q.n)) x u (λbD H'=>L2.wipe bD (own.map (·.2))=L2.wipe σ (own.map (·.2))/\∃aj,Z.Ext k9 (lx hu dC.heap (gk q.scope q.n)) aj H'/\Z.aF X.K X.mg aj H' ia/\Z.cq X.K X.mg aj H' bD yE) ahC cv ?_;rotate_left
      .unfold Z.En
       rw[tE,tF];refine⟨k9,m.U i eg,Z.cE sl (own.map (·.2)),m.ds[i],ahE,bU.ext ((fN.trans dw).trans uV),aC.ext uV,Z.Em (λ_ h=>h),?_⟩;rw[bw];exact λbD aj H' y cn bM oi=>⟨oi,aj,y,cn,bM⟩
      rw[yC,yD,tD,BU]at MX;have MY:Y.env=ce:=by rw[<-kF]
      rw[MY]at MX;refine thnF (FP (wpAny_mono MX (λ_ BI vv BW Gg=>?_) λ_ _ z=>z.elim)) λ_ BW (vv:∃jg dH e9,Inv Y ([]++mq jF dC.heap) jg dH BW/\L2.wipe jg (own.map (·.2))=L2.wipe σ (own.map (·.2))/\(∀(j:Nat) (x:GenState),dC.gens[j]?=some x->kz x=true->BW.gens[j]?=some x)/\Z.Ext k9 (lx hu dC.heap (gk q.scope q.n)) e9 dH/\Z.aF X.K X.mg e9 dH ia/\Z.cq X.K X.mg e9 dH jg yE)=>?_
      .obtain⟨jg,dH,tG,Gh,e9,gi,xF,xG⟩:=vv
       exact⟨jg,dH,e9,lu tG Gg.heap Gg.os (Gg.bare lz.bare tG.bare),Gh,Gg.kept,gi,xF,xG⟩
      .obtain⟨jg,dH,e9,tG,Gh,ahJ,gi,xF,xG⟩:=vv
       have ahK:Inv Y ([]++mq jF dC.heap) jg dH (kB BW):=lu tG rfl rfl (FO tG.bare);have iM:=eW;cases bz:bt yE ia with
       |bad=>rw[bz]at iM;exact iM.elim
       |ex e rB=>rw[bz]at iM;exact iM.elim
       |ok b rB =>
        rw[bz]at iM;have VP:=pt.run _ (kB BW) jg dH (λb' H'=>b'=b/\∃aj,Z.Ext e9 dH aj H'/\Z.aF X.K X.mg aj H' rB) ahK ?_;rotate_left
        .unfold Z.r9
         rw[tE,tF];refine⟨e9,ia,yE,xF,xG,?_⟩;rw[bz];exact λaj H' y cn=>⟨rfl,aj,y,cn⟩
        rw[yC,yD,tD,BU,MY]at VP;refine thnF (FP (wpAny_mono VP (λb' aqV vw BX Gi=>?_) λ_ _ z=>z.elim)) λb' BX (vw:b'=b/\∃pW tH,Inv Y ([]++mq jF dC.heap) jg pW BX/\(∀(j:Nat) (x:GenState),dC.gens[j]?=some x->kz x=true->BX.gens[j]?=some x)/\Z.Ext e9 dH tH pW/\Z.aF X.K X.mg tH pW rB)=>?_
        .obtain⟨pW,v7,eb,tH,kK,Gj⟩:=vw
         exact⟨eb,pW,tH,lu v7 Gi.heap Gi.os (Gi.bare tG.bare v7.bare),λj x h1 h2=>Gi.kept j x (ahJ j x h1 h2) h2,kK,Gj⟩
        .obtain⟨rfl,pW,tH,v7,VQ,kK,Gj⟩:=vw
         have m9:=iM;cases b' with
         |false =>
          simp only[uh,if_false]at m9 ⊢;exact fin v7 Gh VQ (gi.trans kK) Gj m9
         |true =>
          simp only[if_true]at m9 ⊢;have ahL:Inv Y ([]++mq jF dC.heap) jg pW (kB BX):=lu v7 rfl rfl (FO v7.bare);cases fD:fe yE rB with
          |bad=>rw[fD]at m9;exact m9.elim
          |ex e v8=>rw[fD]at m9;exact m9.elim
          |ok MZ v8 =>
           rw[fD]at m9;have FA:=BR.run _ (kB BX) jg pW (λv H'=>∃aj,Z.Ext tH pW aj H'/\Z.aF X.K X.mg aj H' v8/\Z.Rep X.K X.mg aj H' MZ v) ahL ?_;rotate_left
           .unfold Z.fx
            rw[tE,tF];refine⟨tH,rB,yE,Gj,xG.ext kK,?_⟩;rw[fD];exact λv aj H' y cn r=>⟨aj,y,cn,r⟩
           rw[yC,yD,tD,BU,MY]at FA;refine thnF (FP (wpAny_mono FA (λVR aqW Ba Gk Gm=>?_) λ_ _ z=>z.elim)) λVR Gk (Ba:∃pX nD tI,RelV pX VR/\Inv Y ([]++mq jF dC.heap) jg nD Gk/\(∀(j:Nat) (x:GenState),dC.gens[j]?=some x->kz x=true->Gk.gens[j]?=some x)/\Z.Ext tH pW tI nD/\Z.aF X.K X.mg tI nD v8/\Z.Rep X.K X.mg tI nD MZ pX)=>?_
           .obtain⟨pX,nD,yF,a_,tI,lA,Gn,M0⟩:=Ba
            exact⟨pX,nD,tI,a_,lu yF Gm.heap Gm.os (Gm.bare v7.bare yF.bare),λj x h1 h2=>Gm.kept j x (VQ j x h1 h2) h2,lA,Gn,M0⟩
           .obtain⟨pX,nD,tI,a_,yF,ahM,lA,Gn,M0⟩:=Ba
            have m_:=m9;simp only at m_;have ahN:=(((((fN.trans dw).trans uV).trans gi).trans kK).trans lA)
            have M3:=ahN.get MS;split at m_
            .rename_i acc ea
             split at m_
             .rename_i hl
              obtain⟨us,h1,ra⟩:=Gn.ob S1.length D _ M3 ea;have ahO:Inv Y ([]++mq jF dC.heap) jg nD (kB Gk):=lu yF rfl rfl (FO yF.bare);have hx:Z.Ext tI nD tI (upd nD D (.lst (us++[pX]))):=Z.Ext.putL M3;have ap:=app_ok (E:=λ_ _=>False) (Q:=λ_ s'=>Inv Y ([]++mq jF dC.heap) jg (upd nD D (.lst (us++[pX]))) s') ahO h1 (by rw[<-ra.len];have:=Z.h7 (n:=acc.length+1) (by omega);omega) a_ λs' J=>J;rw[yC,yD,tD]at ap;refine thnF (FP (wpAny_mono ap (λ_ aqX vx M4 Gp=>?_) λ_ _ z=>z.elim)) λ_ M4 (vx:Inv Y ([]++mq jF dC.heap) jg (upd nD D (.lst (us++[pX]))) M4/\∀(j:Nat) (x:GenState),dC.gens[j]?=some x->kz x=true->M4.gens[j]?=some x)=>?_
              .exact⟨lu vx Gp.heap Gp.os (Gp.bare yF.bare vx.bare),λj x h1 h2=>Gp.kept j x (ahM j x h1 h2) h2⟩
              .exact fin vx.1 Gh vx.2 (((gi.trans kK).trans lA).trans hx) (Gn.put (m:=.lst (acc++[MZ])) M3 ⟨_,upd_same,(ra.append (Z.ay.cons M0 Z.ay.nil)).ext hx⟩) m_
             .exact m_.elim
            .exact m_.elim
     |bk n3 b5=>rw[bw]at eW;exact eW.elim
     |ct n3 b5=>rw[bw]at eW;exact eW.elim
     |rt QO b5=>rw[bw]at eW;exact eW.elim
     |ex fV n3 b5=>rw[bw]at eW;exact eW.elim
     |bad=>rw[bw]at eW;exact eW.elim
    .rw[if_neg gm]at d3
     exact d3.elim
  exact codeAny_compStart_list loop (wpAny_pyIter_gen VI.2.2.2.1 loop)
theorem ahP(hc:X.calm=true)(gv:X.N.Nodup)(hd:X.A.handled=none)(kE:X.A.depth<recursionLimit)(ok:BlkOk X.N X.env.scope scope own)(BP:(scope.names.all λy=>y.2 != .cell)=true)(hi:BM X W iter ge)
  (hg:∀(s:Shared) (H:Hp) (C:Addr) (cl:List (Str×Addr)) (fp:List Addr),Z.qP (X.blk s H scope (compEnvC scope cl C X.env) fp) Z.WF (own.map (·.2)) tg g) (ht:∀(s:Shared) (H:Hp) (C:Addr) (cl:List (Str×Addr)) (fp:List Addr),Z.Af (X.blk s H scope (compEnvC scope cl C X.env) fp) Z.WF ifs bt)
  (he:∀(s:Shared) (H:Hp) (C:Addr) (cl:List (Str×Addr)) (fp:List Addr),Z.E (X.blk s H scope (compEnvC scope cl C X.env) fp) Z.WF elt fe) (hs:∀x,foldedSetIterable iter X.env x=pure x:=by intro _;rfl) :
  Z.E X W (.ListComp elt [⟨tg,iter,ifs,0⟩] scope pos) (yB ge g bt fe (own.map (·.2))):=by
 refine⟨λpins s σ H Q I h=>?_⟩;rw[eval_ListComp];refine ahm hc gv hd kE ok BP I hi hg ht he hs h λD C s' m H' gb q hn f=>⟨m,hn,λsu sb=>?_⟩
 obtain⟨f0,f1,f2,f3,f4,uS⟩:=f;exact⟨.ref D,H',gb.turned (t':=s'.toks) (λb o hb e=>(sb.2 b hb).trans e) f0 f1 f3 f4 uS,rfl,q⟩
end
end ZG
namespace Z
open PySem PySem.Spec L2 ZM
section
variable{α:Type}[DecidableEq α]
theorem aqY.pos:True:=trivial
end
def oM(i:Nat):D:=.int (i:Int)
abbrev FS:=List (fK×Rat)
structure nE where
 ends:List Rat
 starts:List ((Nat×fK)×Rat)
 yG:List ((Nat×Nat×fK)×Rat)
def Sm(W:gY)(s:Nat)(a:fK):Prop:=1<=s/\Bj W a/\Lk 0 (2 * s) (10 * s - 2) a
section
theorem g3:True:=trivial
theorem VH:True:=trivial
theorem g2:True:=trivial
end
section
variable{S:Store}{sl:aL}{Q:iQ}{d:D}{xs:List D}{f1:aM}{eX c2:cz}{b b':Bool}{r:SX}
theorem yH(h:f1 sl S=.ok (.bl b) S):aK f1 sl S=.ok b S:=bO (by simp_all)
theorem VS(h:eX sl S=.ok b S):dO eX sl S=.ok (!b) S:=bO (by simp_all)
theorem M5(h:eX sl S=.ok false S)(h2:c2 sl S=.ok b S):e4 eX c2 sl S=.ok b S:=bO (by simp_all)
theorem M6{g:SX}(h:eX sl S=.ok true S)(hq:aV (r sl S) Q):aV (bG eX r g sl S) Q:=by
 simp_all
theorem v9{g:SX}(h:eX sl S=.ok false S)(hq:aV (g sl S) Q):aV (bG eX r g sl S) Q:=by
 simp_all
theorem v'(h:Q.nx sl S):aV (bI sl S) Q:=by simp_all
theorem ahQ{k:lP}(h:i7 S d=some k)(hb:cC k "list"=some b)(hc:cC k "tuple"=some b'):Fz [d] S=.ok (.bl (b||b')) S:=by
 refine bO ?_;unfold Fz;refine eo rfl ?_;simp[Uy,h,pd,hb,hc]
theorem ahR:Fz [.lst xs] S=.ok (.bl true) S:=ahQ (b:=true) (b':=false) rfl rfl rfl
end
structure M7(S:Store)(d:D)(xs:List D):Prop where
 s:∀T,d9 (S++T) d=some xs
 k:∀T,Fz [d] (S++T)=.ok (.bl true) (S++T)
 l:∀T,cM [d] (S++T)=.ok (.int xs.length) (S++T)
theorem M7.lst{S:Store}{xs:List D}:M7 S (.lst xs) xs:=⟨λ_=>rfl,λ_=>ahR,λ_=>EI⟩
theorem M7.ptr:True:=trivial
section
variable{S:Store}{n:Nat}{cs:List Int}
theorem M8{α:Type}{f:α->D}{Q:α->Prop}{ys xs:List D}{E:D->D->Prop}(h:∀y∈ys,∃x∈xs,E x y)(n4:∀x y,E x y->∃c,y=f c/\Q c):∃l:List α,ys=l.map f/\∀c∈l,Q c:=Uw λy a6=>by
 grind
theorem M9{p q z:Int}(hq:q≠0)(h:p * 6=z * q)(hz:z.natAbs<=24):ZJ.jh 6 24 (Rat.divInt p q):=by
 refine⟨z,?_,hz⟩;rw[show(((6:Nat):Rat))=Rat.divInt 6 1 by rfl,Rat.divInt_mul_divInt,<-ZJ.MO z,Int.mul_one];exact(HW hq (by decide)).mpr (by omega)
theorem ahS{p q:Int}(h1 : -4<=p)(h2:p<=4)(aI:q=1\/q=2\/q=3):x9 [.int p,.int q] S=.ok (cg (Rat.divInt p q)) S/\ZJ.jh 6 24 (Rat.divInt p q):=by
 have b1:Bd 4 p:=by unfold Bd;have:(2:Nat) ^ 4=16:=by decide
                    omega
 have de:Bd 4 q:=by unfold Bd;have:(2:Nat) ^ 4=16:=by decide
                    omega
 have hq:0<q:=by omega
 constructor
 .rw[adj b1 de (by decide) (by decide) (by omega),ads]
  obtain⟨au,e2⟩:=VC (P:=p) hq _ rfl;rw[au,e2];rfl
 .rcases aI with rfl|rfl|rfl
  .exact M9 (z:=p * 6) (by decide) (by omega) (by omega)
  .exact M9 (z:=p * 3) (by decide) (by omega) (by omega)
  .exact M9 (z:=p * 2) (by decide) (by omega) (by omega)
theorem ahT:kv n cs (Bs [.ptr n]) (λd=>∃r:Rat,d=cg r/\ZJ.jh 6 24 r):=λS cZ=>by
 unfold Bs;refine eo rfl ?_;show aV (vH [some (.ptr n)] S) _;simp[vH];refine(pC (by omega) (by omega)).jd cZ λd S1 ⟨j,cm,e⟩ gW=>?_;subst e;simp;refine(AF (by simp) (by simp) (by simp)).jd gW.1 λd S2 hd kx=>?_;refine(AF (by simp) (by simp) (by simp)).jd kx.1 λd' aW k2 rC=>?_;have VU:=(gW.trans kx).trans rC;obtain⟨p,rfl,h1,h2⟩:∃p:Int,d=.int p /\ -4<=p/\p<=4:=by
  grind
 obtain⟨q,rfl,aI⟩:∃q:Int,d'=.int q/\(q=1\/q=2\/q=3):=by
  grind
 obtain⟨au,e2⟩:=ahS (S:=aW) h1 h2 aI;rw[au,bh];exact sM VU aha ⟨VU,_,rfl,e2⟩
end
section
variable{α β:Type}
def wa(f:α->Rat):List α->Rat
 |[]=>0
 |x::l=>f x+wa f l
variable[DecidableEq α][DecidableEq β]
end
section
variable{S:Store}{k:Nat}
def Cl(G:Store):Prop:=∀m∈G,∀k,iI k m=true
theorem Cl.ok(h:Cl S):∀m∈S,iI S.length m=true:=λm hm=>h m hm _
end
structure aqZ where
 aq0:List (Str×aD)
 aq1:List (Str×aD)
 lp:aD
 le:aD
 aq2:aD
 lm:aD
section
variable{W:gY}{l m:FS}
def qq(W:gY)(l m:FS):FS:=l.flatMap λp=>m.map λq=>(mul W p.1 q.1,p.2 * q.2)
theorem aq3.symm:True:=trivial
end
def oN:SX :=
 (aO (bG (e4 (dO (aK (nY k6 k6 (ah (.int 1)) (aw cM (ag (ae 0) ai)) (ah (.int 30))))) (dO (aK (aw pe (ag (c' (cK (ho (ae 0)) (aX 1) di (az e' (ae 1) (ah (.str "0123456789"))) [1])) ai)))))
 (bq (ah (.bl false)))
 bI)
 (bq (uz (az (aU false) (ae 0) (ah (.str "0"))) (az (aU true) (az a7 (ae 0) (ah (.int 0))) (ah (.str "0"))))))
def nF:aD:=cS 1 (bN 2 oN)
open PySem PySem.Spec L2 ZM TL
section
variable{S:Store}{sl:aL}
theorem ahU{f:aM}{d:D}{xs:List D}(h:f sl S=.ok d S)(hs:Bg S d=some xs):md f ai sl S=.ok xs S:=by
 unfold md;rw[h];show(match Bg S d with
  |some xs=>(ai sl S).bind λds S2=>.ok (xs++ds) S2
  |none=>.bad)=_
 rw[hs];show Out.ok (xs++[]) S=_;simp
theorem BZ{l:List Nat}(h:∀c∈l,c<128):jU l:=λc hc=>by
 grind
end
open PySem PySem.Spec L2 ZM
section
variable{S:Store}{r:Rat}
theorem ahV{n:Nat}:lr ["Ratio"] [("Ratio",eL)] S (n+1) (aN r) (aN r):=by
 unfold aN hC lr;refine⟨by simp,eL,by rfl,?_⟩;have:=TX (S:=S) (p:=r.num) (q:=(r.den:Int)) (p':=r.num) (q':=(r.den:Int));unfold hC at this;grind
theorem ahW{neg:Bool}{d:D}:aU neg d d S=.bad\/aU neg d d S=.ok (.bl (!neg)) S:=by
 unfold aU;cases toP S d with
 |none=>simp
 |some p =>
  dsimp only;by_cases h:SeqAt.shaped p=true
  .rw[if_pos ⟨h,h⟩]
   have hc:PyData.eqv p p=true:=by
    unfold SeqAt.shaped at h;rw[Bool.and_eq_true]at h;exact SeqAt.eqv_refl p h.1
   grind
  grind
end
open PySem PySem.Spec L2 ZM
def ahX(g:Nat)(p:(Nat×fK)×Rat):(Nat×fK)×Rat:=((p.1.1+g,p.1.2),p.2)
def ahY(g:Nat)(q:(Nat×Nat×fK)×Rat):(Nat×Nat×fK)×Rat:=((q.1.1+g,q.1.2.1+g,q.1.2.2),q.2)
def ahZ(P Q:nE):nE:=⟨P.ends++Q.ends,P.starts++Q.starts.map (ahX P.ends.length),P.yG++Q.yG.map (ahY P.ends.length)⟩
section
theorem E7:True:=trivial
end
theorem M_{o:SO}{sl:aL}{S:Store}(h:aV o ⟨λd1 ak=>d1=sl/\ak=S,λ_ _=>False,λ_ _=>False,λ_ _=>False,λ_ _ _=>False⟩):o=.nx sl S:=by
 cases o<;>simp_all
section
theorem VW{j k:Nat}(h:j<=k):∀m,iI j m=true->iI k m=true
 | .lst xs,q=>hA h xs q
 | .dct _ ks vs,q=>by
  simp only[iI,Bool.and_eq_true]at q ⊢;exact⟨hA h _ q.1,hA h _ q.2⟩
 | .dX _ ks vs,q=>by
  simp only[iI,Bool.and_eq_true]at q ⊢;exact⟨hA h _ q.1,hA h _ q.2⟩
 | .ins _ _ vs,q=>hA h vs q
 | .tab _ _,_=>rfl
 | .dead,_=>rfl
end
abbrev Gq:bZ:=cX (aU true) (eqO true ["Ratio"] [("Ratio",eL)] 12)
inductive aG where
 |go (x:List Nat)
 |stay
 |none
 |loop
 |scale (r:Rat)
 |seq
 |alt
inductive af where
 |nd (k:aG) (cs:List af)
def aG.word:aG->String
 | .go _=>"go"
 | .stay=>"stay"
 | .none=>"none"
 | .loop=>"loop"
 | .scale _=>"scale"
 | .seq=>"seq"
 | .alt=>"alt"
def aG.pay(f:Rat->D):aG->List D
 | .go x=>[.str (ao x)]
 | .scale r=>[f r]
 |_=>[]
structure tJ(x:List Nat):Prop where
 pos:1<=x.length
 le:x.length<=8
 abc:∀c∈x,c∈abc
 ns:x≠[115,116,97,121]
 nn:x≠[110,111,110,101]
def aG.fit(b:Rat->Prop):aG->Nat->Prop
 | .go x,n=>n=0/\tJ x
 | .stay,n=>n=0
 | .none,n=>n=0
 | .loop,n=>n=1
 | .scale r,n=>n=1/\b r
 | .seq,n=>2<=n/\n<=6
 | .alt,n=>2<=n/\n<=6
theorem aG.fit_le{b:Rat->Prop}{k:aG}{n:Nat}(h:k.fit b n):n<=6:=by
 cases k<;>simp only[aG.fit]at h<;>omega
mutual
def af.dat(f:Rat->D):af->D
 | .nd k cs=>.tup (.str (Str.ofString k.word)::(k.pay f++af.B1 f cs))
def af.B1(f:Rat->D):List af->List D
 |[]=>[]
 |c::cs=>af.dat f c::af.B1 f cs
def af.size:af->Nat
 | .nd _ cs=>af.sizes cs+1
def af.sizes:List af->Nat
 |[]=>0
 |c::cs=>af.size c+af.sizes cs
def af.dep:af->Nat
 | .nd _ cs=>af.deps cs+1
def af.deps:List af->Nat
 |[]=>0
 |c::cs=>max (af.dep c) (af.deps cs)
def af.ok(b:Rat->Prop):af->Prop
 | .nd k cs=>k.fit b cs.length/\af.yI b cs
def af.yI(b:Rat->Prop):List af->Prop
 |[]=>True
 |c::cs=>af.ok b c/\af.yI b cs
def af.pre:List Nat->af->List (List Nat×af)
 |s,.nd k cs=>(s,.nd k cs)::af.gN s 0 cs
def af.gN:List Nat->Nat->List af->List (List Nat×af)
 |_,_,[]=>[]
 |s,i,c::cs=>af.pre (s++[i]) c++af.gN s (i+1) cs
end
def af.bK:af->aG|.nd k _=>k
def af.cs:af->List af|.nd _ cs=>cs
theorem af.VX{f:Rat->D}:∀cs:List af,af.B1 f cs=cs.map (af.dat f)
 |[]=>by rw[af.B1];rfl
 |c::cs=>by rw[af.B1,af.VX cs];rfl
theorem af.ep{f:Rat->D}(k:aG)(cs:List af):af.dat f (.nd k cs)=.tup (.str (Str.ofString k.word)::(k.pay f++cs.map (af.dat f))):=by rw[af.dat,af.VX]
theorem af.M'{b:Rat->Prop}:∀{cs:List af},af.yI b cs↔∀c∈cs,af.ok b c
 |[]=>by simp[af.yI]
 |c::cs=>by rw[af.yI,af.M' (cs:=cs)];simp
theorem af.fg{b:Rat->Prop}{k:aG}{cs:List af}:af.ok b (.nd k cs)↔k.fit b cs.length/\∀c∈cs,af.ok b c:=by rw[af.ok,af.M']
theorem af.ind{motive:af->Prop}(h:∀k cs,(∀c∈cs,motive c)->motive (.nd k cs)):∀P,motive P:=λP =>
 af.rec (motive_1:=motive) (motive_2:=λcs=>∀c∈cs,motive c) (λk cs ih=>h k cs ih) (λc hc=>by cases hc) (λc cs h1 h2 d hd=>by
  rcases g6.mp hd with rfl|hd
  .exact h1
  .exact h2 d hd) P
theorem af.tK{k:aG}{cs:List af}{c:af}(hc:c∈cs):c.dep+1<=(af.nd k cs).dep:=by
 rw[af.dep.eq_def (af.nd k cs)];simp only
 induction cs with
 |nil=>cases hc
 |cons d cs ih =>
  rw[af.deps];rcases g6.mp hc with rfl|hc
  .omega
  .have:=ih hc;omega
theorem af.rD(P:af):1<=P.dep:=by cases P;rw[af.dep];omega
theorem af.size_pos(P:af):1<=P.size:=by cases P;rw[af.size];omega
def iu(s:List Nat):Nat->List af->List (List Nat×af)
 |_,[]=>[]
 |i,c::cs=>(s++[i],c)::iu s (i+1) cs
def af.rE(t:List (List Nat×af)):List (List Nat×af):=t.flatMap λp=>af.pre p.1 p.2
theorem VY(s:List Nat):∀(i:Nat) (cs:List af),af.rE (iu s i cs)=af.gN s i cs
 |i,[]=>by rw[af.gN];rfl
 |i,c::cs=>by
  rw[af.gN,iu];rw[<-VY s (i+1) cs];rfl
def VZ:List (List Nat×af)->List (List Nat×af)
 |[]=>[]
 |(s,.nd _ cs)::r=>iu s 0 cs++r
def f6(P:af):Nat->List (List Nat×af)
 |0=>[([],P)]
 |i+1=>VZ (f6 P i)
theorem ah0:∀t:List (List Nat×af),af.rE (VZ t)=(af.rE t).tail
 |[]=>rfl
 |(s,.nd k cs)::r=>by
  show af.rE (iu s 0 cs++r)=(af.pre s (.nd k cs)++af.rE r).tail;rw[af.pre,List.cons_append,List.tail_cons,<-VY];show List.flatMap _ _=_;rw[List.flatMap_append];rfl
theorem Gr(P:af):∀i,af.rE (f6 P i)=(af.pre [] P).drop i
 |0=>by show af.pre [] P++[]=_;simp
 |i+1=>by rw[f6,ah0,Gr P i,List.tail_drop]
theorem V0(s:List Nat)(p:af)(r:List (List Nat×af)):∃t,af.rE ((s,p)::r)=(s,p)::t:=by
 obtain⟨k,cs⟩:=p;exact⟨_,by show af.pre s (.nd k cs)++_=_;rw[af.pre,List.cons_append]⟩
theorem Nb{P:af}{i:Nat}(h:i<(af.pre [] P).length):∃r,f6 P i=(af.pre [] P)[i]::r:=by
 have e:=Gr P i;rw[wV h]at e;cases q:f6 P i with
 |nil=>rw[q]at e;cases e
 |cons x r =>
  obtain⟨s,p⟩:=x;rw[q]at e;obtain⟨t,e2⟩:=V0 s p r;rw[e2]at e;injection e with e _
  exact⟨r,by rw[e]⟩
theorem V1{P:af}{i:Nat}(h:(af.pre [] P).length<=i):f6 P i=[]:=by
 have e:=Gr P i;rw[List.drop_eq_nil_of_le h]at e;cases q:f6 P i with
 |nil=>rfl
 |cons x r =>
  obtain⟨s,p⟩:=x;rw[q]at e;obtain⟨t,e2⟩:=V0 s p r;rw[e2]at e;cases e
mutual
theorem af.wc:∀(s:List Nat) (P:af),(af.pre s P).length=P.size
 |s,.nd k cs=>by rw[af.pre,af.size,List.length_cons,af.Nc s 0 cs]
theorem af.Nc:∀(s:List Nat) (i:Nat) (cs:List af),(af.gN s i cs).length=af.sizes cs
 |s,i,[]=>by rw[af.gN,af.sizes];rfl
 |s,i,c::cs=>by rw[af.gN,af.sizes,List.length_append,af.wc (s++[i]) c,af.Nc s (i+1) cs]
end
theorem af.Nf{b:Rat->Prop}:∀(P:af) (s:List Nat),P.ok b->∀p∈af.pre s P,p.2.ok b/\p.1.length+p.2.dep<=s.length+P.dep:=by
 refine af.ind λk cs ih s h p hp=>?_;rw[af.pre]at hp;rcases g6.mp hp with rfl|hp
 .exact⟨h,Nat.le_refl _⟩
 .have hc:=(af.fg.mp h).2
  have key:∀(l:List af) (i:Nat),(∀c∈l,c∈cs)->p∈af.gN s i l->p.2.ok b/\p.1.length+p.2.dep<=s.length+(af.nd k cs).dep:=by
   intro l
   induction l with
   |nil=>intro i _ hp;rw[af.gN]at hp;cases hp
   |cons c l ah1 =>
    intro i hl hp;rw[af.gN]at hp;rcases mD.mp hp with hp|hp
    .have sv:=hl c (by simp)
     obtain⟨h1,h2⟩:=ih c sv (s++[i]) (hc c sv) p hp;have:=af.tK (k:=k) sv;rw[List.length_append,List.length_singleton]at h2;exact⟨h1,by omega⟩
    .exact ah1 (i+1) (λd hd=>hl d (by simp[hd])) hp
  exact key cs 0 (λc hc=>hc) hp
theorem V2{P:af}{i:Nat}:(f6 P i).length<=P.size:=by
 have h1:(f6 P i).length<=(af.rE (f6 P i)).length:=by
  generalize f6 P i=t
  induction t with
  |nil=>exact hJ _
  |cons x t ih =>
   obtain⟨s,q⟩:=x;show _<=(af.pre s q++af.rE t).length;rw[List.length_append,af.wc];have:=q.size_pos;simp only[List.length_cons];omega
 rw[Gr,List.length_drop,af.wc]at h1;omega
def eD(s:List Nat):D:=.tup (s.map fun(i:Nat)=>.int (i:Int))
def d8(f:Rat->D)(p:List Nat×af):D:=.tup [eD p.1,p.2.dat f]
theorem Ng{k:Nat}(s:List Nat):bg k (eD s)=true:=by
 unfold eD;rw[Ki];exact Sb (by
  rw[ku];intro d hd;obtain⟨i,_,rfl⟩:=hL.mp hd;rfl)
theorem mz{f:Rat->D}(hf:∀k r,bg k (f r)=true):∀(P:af) (k:Nat),bg k (P.dat f)=true:=by
 refine af.ind λbK cs ih k=>?_;rw[af.ep,Ki,EC,R_];have h1:bC k (bK.pay f)=true:=by cases bK<;>simp[aG.pay,hf]
 have h2:bC k (cs.map (af.dat f))=true:=by
  rw[ku];intro d hd;obtain⟨c,hc,rfl⟩:=hL.mp hd;exact ih c hc k
 rw[h1,h2];simp
theorem Gu{f:Rat->D}(hf:∀k r,bg k (f r)=true)(p:List Nat×af)(k:Nat):bg k (d8 f p)=true:=by
 unfold d8;rw[Ki,EC,EC,Ng,mz hf];simp
open PySem PySem.Spec L2
def kL:SX :=
 (aO (bG (aK (az e' (az a7 (ae 0) (ah (.int 0))) (aw b2 (ag (ah (.str "seq")) (ag (ah (.str "alt")) ai)))))
 (bq (aw ph (ag (gD false (ae 0) (e8 (ah (.int 1))) hT) ai)))
 bI)
 (bq (eT (aK (az e' (az a7 (ae 0) (ah (.int 0))) (aw b2 (ag (ah (.str "loop")) (ag (ah (.str "scale")) ai))))) (aw fL (ag (az a7 (ae 0) (az mQ (aw cM (ag (ae 0) ai)) (ah (.int 1)))) ai)) (aw fL ai))))
def nG:aD:=cS 1 (bN 1 kL)
def tL(again:aD):SX :=
 (aO (mN 2 3 (ag (aw fL (ag (aw b2 (ag (ae 1) (ag (ae 0) ai))) ai)) (ag (aw nG (ag (ae 0) ai)) ai)))
 (aO (uD (mW (ag (aw cM (ag (ae 3) ai)) ai)) (aX 4)
 (bX (az rn (ae 2) (aw again (ag (az a7 (ae 3) (ae 4)) (ag (az rn (ae 1) (aw b2 (ag (ae 4) ai))) ai)))) (aX 2)))
 (bq (ae 2))))
def yJ:Nat->aD
 |0=>λ_ _=>.bad
 |k+1=>cS 2 (bN 5 (tL (yJ k)))
def V3:aD:=yJ 9
def wd:SX :=
 (aO (bX (ah (.str "abcdefghijklmnopqrstuvwxyz")) (aX 2))
 (aO (bX (dR k8 kl (ah (.str "")) (ag (c' (cK (mW (ag (aw ig (ag (ae 0) (ag (ah (.int 8)) ai))) ai)) (aX 4) di (aw jV (ag (ae 0) (ag (ae 2) ai))) [4])) ai)) (aX 3))
 (aO (bX (aw b2 (ag (aw ig (ag (ae 0) (ag (az b7 (aw cM (ag (ae 3) ai)) (ah (.int 1))) ai))) (ag (aw ig (ag (ae 0) (ag (ah (.int 26)) ai))) ai))) (hP (cP (aX 5) (cP (aX 6) gA))))
 (aO (bX (c' (cK (mW (ag (ae 1) ai)) (aX 4) di (az b7 (az b7 (gD false (ae 3) hT (e8 (ae 5))) (az a7 (ae 2) (az i6 (aw i9 (ag (az b7 (ae 6) (az hy (ah (.int 3)) (ae 4))) ai)) (ah (.int 26))))) (gD false (ae 3) (e8 (ae 5)) hT)) [4])) (aX 7))
 (bq (c' (cK (ho (ae 7)) (aX 8) di (eT (aK (az e' (ae 8) (aw b2 (ag (ah (.str "stay")) (ag (ah (.str "none")) ai))))) (az b7 (ae 8) (ah (.str "q"))) (ae 8)) [8])))))))
def B2:aD:=cS 2 (bN 9 wd)
def pY(again:aD):SX :=
 (aO (bX (aw ig (ag (ae 0) (ag (ah (.int 9)) ai))) (aX 3))
 (aO (bG (e4 (aK (az k' (ae 2) (ah (.int 2)))) (aK (az k' (ae 3) (ah (.int 2)))))
 (bq (aw jV (ag (ae 0) (ag (az b7 (az hy (aw fL (ag (aw b2 (ag (ah (.str "go")) (ag (aw jV (ag (ae 0) (ag (ae 1) ai))) ai))) ai)) (ah (.int 5))) (aw fL (ag (aw b2 (ag (ah (.str "stay")) ai)) (ag (aw b2 (ag (ah (.str "none")) ai)) ai)))) ai))))
 bI)
 (aO (bG (aK (az k' (ae 3) (ah (.int 4))))
 (bq (aw b2 (ag (ah (.str "loop")) (ag (aw again (ag (ae 0) (ag (ae 1) (ag (az mQ (ae 2) (ah (.int 1))) ai)))) ai))))
 bI)
 (aO (bG (aK (az (aU false) (ae 3) (ah (.int 4))))
 (bq (aw b2 (ag (ah (.str "scale")) (ag (aw Bs (ag (ae 0) ai)) (ag (aw again (ag (ae 0) (ag (ae 1) (ag (az mQ (ae 2) (ah (.int 1))) ai)))) ai)))))
 bI)
 (aO (bX (az b7 (ah (.int 2)) (aw ig (ag (ae 0) (ag (eT (aK (az kg (ae 2) (ah (.int 3)))) (ah (.int 2)) (ah (.int 1))) ai)))) (aX 4))
 (aO (bX (c' (cK (mW (ag (ae 4) ai)) (aX 6) di (aw again (ag (ae 0) (ag (ae 1) (ag (az i5 (az mQ (ae 2) (ah (.int 1))) (ae 4)) ai)))) [6])) (aX 5))
 (bq (az b7 (aw b2 (ag (aw jV (ag (ae 0) (ag (aw fL (ag (ah (.str "seq")) (ag (ah (.str "alt")) ai))) ai))) ai)) (aw z1 (ag (ae 5) ai))))))))))
def we:Nat->aD
 |0=>λ_ _=>.bad
 |k+1=>cS 3 (bN 7 (pY (we k)))
def V4:aD:=we 9
def rF(again:aD):SX :=
 (aO (bX (aw z1 (ag (c' (cK (ho (aw nG (ag (ae 0) ai))) (aX 2) di (aw again (ag (ae 2) ai)) [2])) ai)) (aX 1))
 (aO (bG (aK (az (aU false) (az a7 (ae 0) (ah (.int 0))) (ah (.str "scale"))))
 (bq (aw b2 (ag (ah (.str "scale")) (ag (aw ya (ag (az a7 (ae 0) (ah (.int 1))) ai)) (ag (az a7 (ae 1) (ah (.int 0))) ai)))))
 bI)
 (bq (eT (aK (az (cX (aU false) s9) (ae 1) (aw b2 ai))) (ae 0) (az b7 (aw b2 (ag (az a7 (ae 0) (ah (.int 0))) ai)) (ae 1))))))
def tM:Nat->aD
 |0=>λ_ _=>.bad
 |k+1=>cS 1 (bN 3 (rF (tM k)))
def Gv:aD:=tM 9
def wg:SX :=
 (aO (bG (e4 (dO (aK (aw dS (ag (ae 0) (ag (ah (.ty "str")) ai))))) (e4 (dO (aK (nY k6 k6 (ah (.int 1)) (aw cM (ag (ae 0) ai)) (ah (.int 8))))) (aK (az e' (ae 0) (ah (.tup [.str "stay",.str "none"]))))))
 (bq (ah (.bl false)))
 bI)
 (bq (aw pe (ag (c' (cK (ho (ae 0)) (aX 1) di (az e' (ae 1) (ah (.str "abcdefghijklmnopqrstuvwxyz"))) [1])) ai))))
def yK:aD:=cS 1 (bN 2 wg)
def lB:SX :=
 (aO (bG (aK (az e' (az a7 (ae 0) (ah (.int 0))) (aw b2 (ag (ah (.str "seq")) (ag (ah (.str "alt")) ai)))))
 (bq (aw ph (ag (gD false (ae 0) (e8 (ah (.int 1))) hT) ai)))
 bI)
 (bq (eT (aK (az e' (az a7 (ae 0) (ah (.int 0))) (aw b2 (ag (ah (.str "loop")) (ag (ah (.str "scale")) ai))))) (aw fL (ag (az a7 (ae 0) (nW D5 (ah (.int 1)))) ai)) (aw fL ai))))
def nH:aD:=cS 1 (bN 1 lB)
def rG(isr:aD):SX :=
 (aO (bG (e4 (dO (aK (aw dS (ag (ae 0) (ag (ah (.ty "tuple")) ai))))) (e4 (aK (az (aU false) (aw cM (ag (ae 0) ai)) (ah (.int 0)))) (dO (aK (aw dS (ag (az a7 (ae 0) (ah (.int 0))) (ag (ah (.ty "str")) ai)))))))
 (bq (ah (.bl false)))
 bI)
 (aO (bG (aK (az e' (az a7 (ae 0) (ah (.int 0))) (ah (.tup [.str "stay",.str "none"]))))
 (bq (az (aU false) (aw cM (ag (ae 0) ai)) (ah (.int 1))))
 bI)
 (aO (bG (aK (az (aU false) (az a7 (ae 0) (ah (.int 0))) (ah (.str "go"))))
 (bq (iB (az (aU false) (aw cM (ag (ae 0) ai)) (ah (.int 2))) (aw yK (ag (az a7 (ae 0) (ah (.int 1))) ai))))
 bI)
 (aO (bG (aK (az e' (az a7 (ae 0) (ah (.int 0))) (aw b2 (ag (ah (.str "seq")) (ag (ah (.str "alt")) ai)))))
 (bq (nY k6 k6 (ah (.int 2)) (az mQ (aw cM (ag (ae 0) ai)) (ah (.int 1))) (ah (.int 6))))
 bI)
 (aO (bG (aK (az (aU false) (az a7 (ae 0) (ah (.int 0))) (ah (.str "loop"))))
 (bq (az (aU false) (aw cM (ag (ae 0) ai)) (ah (.int 2))))
 bI)
 (bq (iB (az (aU false) (az a7 (ae 0) (ah (.int 0))) (ah (.str "scale"))) (iB (az (aU false) (aw cM (ag (ae 0) ai)) (ah (.int 3))) (aw isr (ag (az a7 (ae 0) (ah (.int 1))) (ag (ah (.cls "Ratio")) ai)))))))))))
def Nh(isr:aD):aD:=cS 1 (bN 1 (rG isr))
def Ni(isr:aD):SX :=
 (aO (mN 1 2 (ag (aw mM (ag (aw b2 (ag (aw b2 ai) (ag (ae 0) ai))) ai)) (ag (ah (.int 0)) ai)))
 (se (aK (az (cX (aU true) (eqO true ["Ratio"] [("Ratio",eL)] 12)) (ae 1) (aw fL ai)))
 (aO (bX (dR hS qH (ae 1) ai) (hP (cP (aX 3) (cP (aX 4) gA))))
 (aO (xJ 2 (λi j=>i+j) (ah (.int 1)))
 (aO (bG (e4 (aK (az kg (ae 2) (ah (.int 40)))) (e4 (aK (az zV (aw cM (ag (ae 3) ai)) (ah (.int 8)))) (dO (aK (aw (Nh isr) (ag (ae 4) ai))))))
 (ec (aw (dU "InvalidPlan" "InvalidPlan" ["path"]) (ag (ae 3) ai)))
 bI)
 (aO (bX (c' (cK (qO (ag (aw nH (ag (ae 4) ai)) ai)) (hP (cP (aX 6) (cP (aX 7) gA))) di (aw b2 (ag (aw b2 (md (ae 3) (ag (ae 6) ai))) (ag (ae 7) ai))) [6,7])) (aX 5))
 (jw (dR hS sy (ae 1) (ag (vA false (ae 5)) ai)))))))))
def B3(isr:aD):aD:=cS 1 (bN 8 (Ni isr))
def Nj(isr:aD):SX :=
 (aO (jw (aw (B3 isr) (ag (ae 0) ai)))
 (bX (aw mM (ag (aw b2 (ag (aw b2 ai) (ag (ae 0) ai))) ai)) (aX 1)))
def Gx(isr:aD):cz :=
 (aK (az (cX (aU true) (eqO true ["Ratio"] [("Ratio",eL)] 12)) (ae 1) (aw fL ai)))
def Nk(isr:aD):SX :=
 (bX (dR hS qH (ae 1) ai) (hP (cP (aX 2) (cP (aX 3) gA))))
def Nm(isr:aD):aM :=
 (aw b2 (ag (ae 2) (ag (ae 3) ai)))
def Gy(isr:aD):SX :=
 (aO (bX (c' (cK (qO (ag (aw nH (ag (ae 3) ai)) ai)) (hP (cP (aX 5) (cP (aX 6) gA))) di (aw b2 (ag (aw b2 (md (ae 2) (ag (ae 5) ai))) (ag (ae 6) ai))) [5,6])) (aX 4))
 (jw (dR hS sy (ae 1) (ag (vA false (ae 4)) ai))))
def V5(isr:aD):ZG.vY:=ZG.v5 1 7 (Nj isr) (Gx isr) (Nk isr) (Nm isr) (Gy isr)
def Nn(isr:aD)(off:Nat):cO->ZG.vV:=ZG.vZ off 1 [] (V5 isr)
open PySem PySem.Spec L2
def Gz(S:Store)(n:Nat):Option Str:=match S[n]? with
 |some (.ins c _ _)=>some c
 |_=>none
def B4(cs:List Str)(f:Str)(op:Int->Int->Int)(fo fe:aM):SX:=λsl S=>(fo sl S).toS sl λo S1=>match o with
 | .ptr n=>(match S1[n]? with
  |some (.ins c ns vs)=>if c∈cs then(match ke f ns vs with
   |some (.int i)=>(fe sl S1).toS sl λe S2=>(match e with
    | .int j=>if Gz S2 n=some c then(match oq cs f (.ptr n) (.int (op i j)) S2 with
     |some aW=>.nx sl aW
     |none=>.bad)else .bad
    |_=>.bad)
   |_=>.bad)else .bad
  |_=>.bad)
 |_=>.bad
theorem j3{X:Cx}{f:Str}{C:Addr}(h:NoAttr X.K C f):J2 X f C .fld:=h
section
variable{X:Cx}{W:WX}{o e:Expr}{fo fe:aM}{pos mR:Pos}
theorem V6{cs:List Str}{fl:Str}(hc:∀c∈cs,∀C,X.mg c=some (.ref C)->Cls X.K C/\NoAttr X.K C fl)(aQ:E X W o fo)(he:E X W e fe):ES X W (.AugAssign (.Attribute o fl mR) .Add e pos) (B4 cs fl (λi j=>i+j) fo fe):=by
 refine PS.imp (ps_fldaug aQ he in_add) λD σ H ⟨ρ,S,sl,w,rs,p⟩=>?_;refine⟨ρ,S,sl,w,rs,aS.mono (bL.Ab rs p) λx H1 ⟨aB,S1,e6,x1,aE,px,r1,p1⟩=>?_⟩;split at p1
 .rename_i n
  split at p1
  .rename_i c ns vs en
   split at p1
   .rename_i ja
    rw[Rep]at r1;obtain⟨a,ea,q⟩:=r1;obtain⟨C,bx,fs,hm,h1,hn,cB⟩:=aE.ob n a _ q en;obtain⟨c0,b6⟩:=hc c ja C hm;split at p1
    .rename_i i qJ
     obtain⟨v,bB,aR⟩:=I9 hn cB qJ;rw[Rep]at aR;subst aR;refine⟨a,C,bx,fs,_,ea,h1,c0,b6,bB,aB,S1,sl,aE,px,aS.mono (bL.Ab px p1) λy aH ⟨aP,S2,cW,x2,cD,Ee,r2,p2⟩=>?_⟩;split at p2
     .rename_i j
      rw[Rep]at r2;subst r2;split at p2
      .rename_i nA
       split at p2
       .rename_i aW bj
        unfold oq at bj;simp only at bj;split at bj
        .rename_i bA jz dg V7
         have ah2:bA=c:=by
          unfold Gz at nA;rw[V7]at nA;exact Option.some.inj nA
         subst ah2;split at bj
         .rename_i aq4
          cases bj;have bz:=x2.get q;obtain⟨dB,vM,pL,gF,jt,jy,vN⟩:=cD.ob n a _ bz V7;have ah3:dB=C:=by
           rw[hm]at gF;injection gF with z
           injection z with z
           exact z.symm
          subst ah3;have xp:Ext aP aH aP (upd aH a (.ins dB vM (putF fl (.int (i+j)) pL))):=Ext.putL bz;obtain⟨hj,ej⟩:=J1 (f:=fl) (d:=.int (i+j)) (v:=.int (i+j)) (ρ:=aP) (H:=aH) (by rw[Rep]) jy vN;refine⟨i,j,rfl,rfl,vM,pL,jt,by grind,?_⟩;exact p2 _ aP _ xp (cD.put (m:=.ins bA (i' fl (.int (i+j)) jz dg).1 (i' fl (.int (i+j)) jz dg).2) bz ⟨dB,vM,_,hm,upd_same,hj,ej.ext xp⟩) (Ee.ext xp)
         .cases bj
        .cases bj
       .exact p2.elim
      .exact p2.elim
     .exact p2.elim
    .exact p1.elim
   .exact p1.elim
  .exact p1.elim
 .exact p1.elim
end
def tN(again:aD):SX :=
 (aO (bG (aK (az (aU false) (az a7 (ae 0) (ah (.int 0))) (ah (.str "go"))))
 (bq (az a7 (ae 0) (ah (.int 1))))
 bI)
 (aO (bX (c' (cK (ho (aw nG (ag (ae 0) ai))) (aX 2) di (aw again (ag (ae 2) ai)) [2])) (aX 1))
 (aO (bG (aK (az (aU false) (az a7 (ae 0) (ah (.int 0))) (ah (.str "loop"))))
 (bq (az b7 (az b7 (ah (.str "[")) (az a7 (ae 1) (ah (.int 0)))) (ah (.str "]"))))
 bI)
 (aO (bG (aK (az (aU false) (az a7 (ae 0) (ah (.int 0))) (ah (.str "scale"))))
 (bq (az b7 (az b7 (aw ye (ag (az a7 (ae 0) (ah (.int 1))) ai)) (ah (.str ":"))) (az a7 (ae 1) (ah (.int 0)))))
 bI)
 (bq (eT (aK (az (aU false) (ae 1) (aw fL ai))) (az a7 (ae 0) (ah (.int 0))) (az b7 (az b7 (ah (.str "(")) (dR k8 kl (eT (aK (az (aU false) (az a7 (ae 0) (ah (.int 0))) (ah (.str "seq")))) (ah (.str ", ")) (ah (.str " | "))) (ag (ae 1) ai))) (ah (.str ")")))))))))
def tO:Nat->aD
 |0=>λ_ _=>.bad
 |k+1=>cS 1 (bN 3 (tN (tO k)))
def Np:aD:=tO 9
def j4(again:aD):SX :=
 (aO (bG (aK (az (aU false) (az a7 (ae 0) (ah (.int 0))) (ah (.str "go"))))
 (bq (az a7 (ae 0) (ah (.int 1))))
 bI)
 (aO (bG (aK (az e' (az a7 (ae 0) (ah (.int 0))) (ah (.tup [.str "stay",.str "none"]))))
 (bq (az a7 (ae 0) (ah (.int 0))))
 bI)
 (aO (bG (aK (az (aU false) (az a7 (ae 0) (ah (.int 0))) (ah (.str "loop"))))
 (bq (A6 [(ah (.str "[")),(nW l0 (aw again (ag (az a7 (ae 0) (ah (.int 1))) ai))),(ah (.str "]"))]))
 bI)
 (aO (bG (aK (az (aU false) (az a7 (ae 0) (ah (.int 0))) (ah (.str "scale"))))
 (bq (A6 [(nW l0 (cL "text" [("Ratio",pJ)] (az a7 (ae 0) (ah (.int 1))) ai)),(ah (.str ":")),(nW l0 (aw again (ag (az a7 (ae 0) (ah (.int 2))) ai)))]))
 bI)
 (aO (bX (eT (aK (az (aU false) (az a7 (ae 0) (ah (.int 0))) (ah (.str "seq")))) (ah (.str ", ")) (ah (.str " | "))) (aX 1))
 (bq (az b7 (az b7 (ah (.str "(")) (dR k8 kl (ae 1) (ag (c' (cK (ho (gD false (ae 0) (e8 (ah (.int 1))) hT)) (aX 2) di (aw again (ag (ae 2) ai)) [2])) ai))) (ah (.str ")")))))))))
def oO:Nat->aD
 |0=>λ_ _=>.bad
 |k+1=>cS 1 (bN 3 (j4 (oO k)))
def Nq:aD:=oO 9
def rH:SX :=
 (bq (uz (aw nF (ag (ae 0) ai)) (iB (az (aU false) (gD false (ae 0) hT (e8 (ah (.int 1)))) (ah (.str "-"))) (iB (az (aU true) (ae 0) (ah (.str "-0"))) (aw nF (ag (gD false (ae 0) (e8 (ah (.int 1))) hT) ai))))))
def wh:aD:=cS 1 (bN 1 rH)
def wi:SX :=
 (aO (bG (dO (aK (aw dS (ag (ae 0) (ag (ah (.ty "str")) ai)))))
 (ec (aw (dU "InvalidText" "InvalidText" ["given"]) (ag (ae 0) ai)))
 bI)
 (aO (bX (dR k8 vB (ae 0) (ag (ah (.str "/")) ai)) (hP (cP (aX 1) (cP (aX 2) (cP (aX 3) gA)))))
 (aO (bG (e4 (dO (aK (aw wh (ag (ae 1) ai)))) (mL (aK (az (aU true) (ae 2) (ah (.str "")))) (e4 (dO (aK (aw nF (ag (ae 3) ai)))) (aK (az (aU false) (ae 3) (ah (.str "0")))))))
 (ec (aw (dU "InvalidText" "InvalidText" ["given"]) (ag (ae 0) ai)))
 bI)
 (aO (bX (c' (aw (mZ "Ratio" sZ) (ag (aw oJ (ag (ae 1) ai)) (ag (eT (aK (az (aU true) (ae 2) (ah (.str "")))) (aw oJ (ag (ae 3) ai)) (ah (.int 1))) ai)))) (aX 4))
 (aO (bG (aK (az (aU true) (cL "text" [("Ratio",pJ)] (ae 4) ai) (ae 0)))
 (ec (aw (dU "InvalidText" "InvalidText" ["given"]) (ag (ae 0) ai)))
 bI)
 (bq (ae 4)))))))
def rJ:aD:=cS 1 (bN 5 wi)
def B5:SX :=
 (aO (ot ["TextReader"] "whole" (ae 1) (ae 0))
 (ot ["TextReader"] "at" (ah (.int 0)) (ae 0)))
def wj:aD:=cS 2 (bN 2 B5)
def B6:SX :=
 (aO (bX (az (aU false) (gD false (c4 "whole" [("TextReader",.fld)] (ae 0)) (e8 (c4 "at" [("TextReader",.fld)] (ae 0))) (e8 (az b7 (c4 "at" [("TextReader",.fld)] (ae 0)) (aw cM (ag (ae 1) ai))))) (ae 1)) (aX 2))
 (aO (B4 ["TextReader"] "at" (λi j=>i+j) (ae 0) (eT (aK (ae 2)) (aw cM (ag (ae 1) ai)) (ah (.int 0))))
 (bq (ae 2))))
def hG:aD:=cS 2 (bN 3 B6)
def wk(again:aD):SX :=
 (aO (bX (aw mM (ag (cL "plan" [("TextReader",again)] (ae 0) (ag (az b7 (ae 1) (ah (.int 1))) ai)) ai)) (aX 2))
 (aO (bX (eT (aK (cL "taken" [("TextReader",hG)] (ae 0) (ag (ah (.str ", ")) ai))) (ah (.str "seq")) (ah (.str "alt"))) (aX 3))
 (aO (bG (mL (aK (az (aU false) (ae 3) (ah (.str "alt")))) (dO (aK (cL "taken" [("TextReader",hG)] (ae 0) (ag (ah (.str " | ")) ai)))))
 (ec (aw (dU "InvalidText" "InvalidText" ["given"]) (ag (c4 "whole" [("TextReader",.fld)] (ae 0)) ai)))
 bI)
 (aO (jw (dR hS qG (ae 2) (ag (cL "plan" [("TextReader",again)] (ae 0) (ag (az b7 (ae 1) (ah (.int 1))) ai)) ai)))
 (aO (se (aK (cL "taken" [("TextReader",hG)] (ae 0) (ag (eT (aK (az (aU false) (ae 3) (ah (.str "seq")))) (ah (.str ", ")) (ah (.str " | "))) ai)))
 (jw (dR hS qG (ae 2) (ag (cL "plan" [("TextReader",again)] (ae 0) (ag (az b7 (ae 1) (ah (.int 1))) ai)) ai))))
 (aO (bG (dO (aK (cL "taken" [("TextReader",hG)] (ae 0) (ag (ah (.str ")")) ai))))
 (ec (aw (dU "InvalidText" "InvalidText" ["given"]) (ag (c4 "whole" [("TextReader",.fld)] (ae 0)) ai)))
 bI)
 (bq (aw b2 (ag (ae 3) (md (ae 2) ai))))))))))
def B7(again:aD):aD:=cS 2 (bN 4 (wk again))
def B9:SX :=
 (aO (bX (c4 "at" [("TextReader",.fld)] (ae 0)) (aX 2))
 (aO (se (mL (aK (az k' (c4 "at" [("TextReader",.fld)] (ae 0)) (aw cM (ag (c4 "whole" [("TextReader",.fld)] (ae 0)) ai)))) (aK (az e' (az a7 (c4 "whole" [("TextReader",.fld)] (ae 0)) (c4 "at" [("TextReader",.fld)] (ae 0))) (ae 1))))
 (B4 ["TextReader"] "at" (λi j=>i+j) (ae 0) (ah (.int 1))))
 (bq (gD false (c4 "whole" [("TextReader",.fld)] (ae 0)) (e8 (ae 2)) (e8 (c4 "at" [("TextReader",.fld)] (ae 0)))))))
def pZ:aD:=cS 2 (bN 3 B9)
def p3(again:aD):SX :=
 (aO (bG (aK (az kg (ae 1) (ah (.int 8))))
 (ec (aw (dU "InvalidText" "InvalidText" ["given"]) (ag (c4 "whole" [("TextReader",.fld)] (ae 0)) ai)))
 bI)
 (aO (bG (aK (cL "taken" [("TextReader",hG)] (ae 0) (ag (ah (.str "[")) ai)))
 (aO (bX (aw b2 (ag (ah (.str "loop")) (ag (cL "plan" [("TextReader",again)] (ae 0) (ag (az b7 (ae 1) (ah (.int 1))) ai)) ai))) (aX 2))
 (aO (bG (dO (aK (cL "taken" [("TextReader",hG)] (ae 0) (ag (ah (.str "]")) ai))))
 (ec (aw (dU "InvalidText" "InvalidText" ["given"]) (ag (c4 "whole" [("TextReader",.fld)] (ae 0)) ai)))
 bI)
 (bq (ae 2))))
 bI)
 (aO (bG (aK (cL "taken" [("TextReader",hG)] (ae 0) (ag (ah (.str "(")) ai)))
 (bq (cL "row" [("TextReader",(B7 again))] (ae 0) (ag (ae 1) ai)))
 bI)
 (aO (bX (cL "run_of" [("TextReader",pZ)] (ae 0) (ag (ah (.str "abcdefghijklmnopqrstuvwxyz")) ai)) (aX 3))
 (aO (bG (aK (az e' (ae 3) (ah (.tup [.str "stay",.str "none"]))))
 (bq (aw b2 (ag (ae 3) ai)))
 bI)
 (aO (bG (aK (az (aU true) (ae 3) (ah (.str ""))))
 (bq (aw b2 (ag (ah (.str "go")) (ag (ae 3) ai))))
 bI)
 (aO (bX (aw rJ (ag (cL "run_of" [("TextReader",pZ)] (ae 0) (ag (ah (.str "-/0123456789")) ai)) ai)) (aX 4))
 (aO (bG (dO (aK (cL "taken" [("TextReader",hG)] (ae 0) (ag (ah (.str ":")) ai))))
 (ec (aw (dU "InvalidText" "InvalidText" ["given"]) (ag (c4 "whole" [("TextReader",.fld)] (ae 0)) ai)))
 bI)
 (bq (aw b2 (ag (ah (.str "scale")) (ag (ae 4) (ag (cL "plan" [("TextReader",again)] (ae 0) (ag (az b7 (ae 1) (ah (.int 1))) ai)) ai)))))))))))))
def lC:Nat->aD
 |0=>λ_ _=>.bad
 |k+1=>cS 2 (bN 5 (p3 (lC k)))
def GA:aD:=lC 9
def GB(isr:aD):SX :=
 (aO (jw (aw (B3 isr) (ag (ae 0) ai)))
 (bq (aw Nq (ag (ae 0) ai))))
def GD(isr:aD):SX :=
 (aO (bG (dO (aK (aw dS (ag (ae 0) (ag (ah (.ty "str")) ai)))))
 (ec (aw (dU "InvalidText" "InvalidText" ["given"]) (ag (ae 0) ai)))
 bI)
 (aO (bX (aw (mZ "TextReader" wj) (ag (ae 0) ai)) (aX 1))
 (aO (yn [("InvalidRatio",true),("InvalidText",true),("InvalidPlan",true)]
 (aO (bX (cL "plan" [("TextReader",GA)] (ae 1) (ag (ah (.int 1)) ai)) (aX 2))
 (jw (aw (B3 isr) (ag (ae 2) ai))))
 (ec (aw (dU "InvalidText" "InvalidText" ["given"]) (ag (ae 0) ai))))
 (aO (bG (aK (az k' (c4 "at" [("TextReader",.fld)] (ae 1)) (aw cM (ag (ae 0) ai))))
 (ec (aw (dU "InvalidText" "InvalidText" ["given"]) (ag (ae 0) ai)))
 bI)
 (bq (ae 2))))))
end Z
namespace GQ
open PySem PySem.SeqAt
open AutoSeq1 (wpAny_loadPart')
open MeetsSeq MeetsSeq2 MeetsSeq3 SeqRoads2
section
variable{prog:Program}{w:World}{A:Around}{R:Result->Shared->Prop}
theorem ah4(l b:Addr)(xs ys:Array Value)(n n2:Nat)(dd Nr:Option Addr)(sl bH:Array (Option Value))(I:Nat->Shared->Prop)(Z:Shared->Prop)
  (turn:∀i (h1:i<xs.size) (h2:i<ys.size) s,I i s->wpAny (model prog w) A.in1 (eqBool xs[i] ys[i]) (λr s'=>(r=true/\I (i+1) s')\/(r=false/\Z s')) (λe s'=>R (.error e) s') s)
  (fin:∀s,I (min xs.size ys.size) s->R (.ok (.ret (.bool (xs.size==ys.size)))) s) (rv:∀s,Z s->R (.ok (.ret (.bool false))) s) {s:Shared} (du:s.heap.get? l=some { cls:=.type "tuple",dict:=dd,data:=.seq xs n,slots:=sl }) (fI:s.heap.get? b=some { cls:=.type "tuple",dict:=Nr,data:=.seq ys n2,slots:=bH }) (h:I 0 s) :
  wpAny (model prog w) A.in1 (Builtin.«tuple.__eq__» ⟨[.ref l,.ref b],[]⟩) (FinOf prog w A R) (λe s'=>R (.error e) s') s:=by
 have f2:=AutoSeq1.sub_tuple_tuple;have V8:(xs.toList.zip ys.toList).length=min xs.size ys.size:=by simp
 have h0:=h;obtain⟨hp,g,d,tk,os⟩:=s
 wp_walk using wpAny_loadPart' du,wpAny_loadPart' fI,wpAny_forIn_list _ (λrest b s'=>b.1=none/\∃i,rest=(xs.toList.zip ys.toList).drop i/\i<=min xs.size ys.size/\I i s') _
 case turn =>
  rintro⟨y,x⟩ rest b s' ⟨z5,i,hz,hi,jT⟩;have c7:i<(xs.toList.zip ys.toList).length:=by
   rcases Nat.lt_or_ge i (xs.toList.zip ys.toList).length with h'|h'
   .exact h'
   .rw[Dj h']at hz;cases hz
  have Bb:i<min xs.size ys.size:=V8▸c7;have h1:i<xs.size:=by omega
  have h2:i<ys.size:=by omega
  rw[wV c7]at hz;injection hz with V9 ah5
  have a6:y=xs[i]:=by have:=congrArg Prod.fst V9;simpa using this
  have hx:x=ys[i]:=by have:=congrArg Prod.snd V9;simpa using this
  subst a6 hx;refine wpAny_bind (wpAny_mono (turn i h1 h2 s' jT) (λr s2 bz=>?_) λ_ _ x=>x);rcases bz with⟨hr,bz⟩|⟨hr,bz⟩
  .subst hr
   wp_walk
   exact⟨rfl,i+1,ah5,Bb,bz⟩
  .subst hr
   have d4:=rv _ bz
   wp_walk
   exact d4
 case fin =>
  rintro⟨b1,de⟩ s' ⟨z5,i,hz,hi,jT⟩;simp only at z5;subst z5;have V_:min xs.size ys.size<=i:=by
   rcases Nat.lt_or_ge i (xs.toList.zip ys.toList).length with h'|h'
   .rw[wV h']at hz;cases hz
   .exact V8▸h'
  have vI:i=min xs.size ys.size:=by omega
  have d4:R (.ok (.ret (.bool (xs.size==ys.size)))) s':=fin s' (vI▸jT)
  wp_walk
  simpa[Builtin.Tuple.tupleCompareSizes]using d4
 case h =>
  exact⟨rfl,0,rfl,hJ _,h0⟩
end
section
variable{prog:Program}{w:World}{A:Around}{E:Value->Shared->Prop}{s:Shared}
theorem V'{l b:Addr}{xs ys:Array Value}{Q:Value->Shared->Prop}(aT:A.units<cLine)(I:Nat->Shared->Prop)(Z:Shared->Prop)
  (hl:s.heap.IsTuple l xs) (hb:s.heap.IsTuple b ys)
  (turn:∀i (h1:i<xs.size) (h2:i<ys.size) s,I i s->wpAny (model prog w) A.in1 (eqBool xs[i] ys[i]) (λr s'=>(r=true/\I (i+1) s')\/(r=false/\Z s')) E s)
  (fin:∀s,I (min xs.size ys.size) s->Q (.bool (xs.size==ys.size)) s) (rv:∀s,Z s->Q (.bool false) s) (h:I 0 s):wpAny (model prog w) A (richCompare .Eq (.ref l) (.ref b)) Q E s:=by
 obtain⟨⟨cls,dd,data,sl⟩,aQ,hc,n,hd⟩:=id hl;obtain⟨⟨Uo,Nr,data2,bH⟩,Wa,lQ,n2,hd2⟩:=id hb;simp only at hc hd lQ hd2;subst hc hd lQ hd2;refine wpAny_richCompare_same_room (op:=.Eq) ⟨_,aQ,rfl⟩ ⟨_,Wa,rfl⟩ F.slot_tuple_eq (call_here F.slot_tuple_eq ⟨_,aQ,rfl⟩ F.entry_tuple_eq (F.args_tuple_eq_2 _ _) ?_) aT;exact ah4 (R:=wants (λv s'=>v≠.notImplemented/\Q v s') E) l b xs ys n n2 dd Nr sl bH I Z turn (λs' q=>⟨(λx=>nomatch x),fin s' q⟩) (λs' q=>⟨(λx=>nomatch x),rv s' q⟩) aQ Wa h
end
end GQ
namespace Z
open PySem PySem.Spec L2 PyProof.Rows
open Classical in
def wm(oth:List Str)(tab:List (Str×aD))(S:Store)(f:D->D->Option Bool)(d e:D):Option Bool:=match vT d,vT e with
 |some xs,some ys=>(eS f xs ys).map (λr=>r&&(xs.length==ys.length))
 |none,none=>(match d,e with
  | .int i,.int j=>some (decide (i=j))
  | .bl i,.bl j=>some (decide (i=j))
  | .str i,.str j=>some (i==j)
  | .non,.non=>some true
  | .lst xs,.lst ys=>if xs.length=ys.length then eS f xs ys else some false
  | .ins c ns vs,.ins bA jz dg=>if bA∈oth then(match hv tab c with
   |some g=>(match g [.ins c ns vs,.ins bA jz dg] S with
    | .ok (.bl b) ak=>if ak=S/\(b=true\/rx vs dg=true)then some b else none
    |_=>none)
   |none=>none)else none
  |_,_=>none)
 |_,_=>none
def oP(oth:List Str)(tab:List (Str×aD))(S:Store):Nat->D->D->Option Bool
 |0=>λ_ _=>none
 |n+1=>wm oth tab S (oP oth tab S n)
section
variable{X:Cx}{W:WX}
theorem Wb{f:D->D->Option Bool}{b:Bool}{xs ys:List D}{N:Nat}(h1:N=min xs.length ys.length)(h:eS f (xs.drop N) (ys.drop N)=some b):b=true:=by
 rcases Nat.le_total xs.length ys.length with hl|hl
 .rw[Dj (by omega),eS]at h
  .exact(Option.some.inj h).symm
  .simp
 .rw[Dj (l:=ys) (by omega),eS]at h
  .exact(Option.some.inj h).symm
  .simp
theorem Wc{K:PySem.W.Frag}{mg:Str->Option Value}{ρ:List Addr}{H:Hp}{S:Store}(w:aF K mg ρ H S)(cm:∀{a:Addr} {vs ws:List V},SqT K H a vs->SqT K H a ws->vs=ws){oth:List Str}{tab:List (Str×aD)}:∀n d e x b,Rep K mg ρ H d x->Rep K mg ρ H e x->oP oth tab S n d e=some b->b=true
 |0,d,e,x,b,_,_,p=>by cases p
 |n+1,d,e,x,b,rd,re,p=>by
  have ih:=Wc w cm (oth:=oth) (tab:=tab) n;show b=true;have p:wm oth tab S (oP oth tab S n) d e=some b:=p;unfold wm at p;split at p
  .rename_i xs ys ed ee
   obtain⟨a,vs,ea,t,cB⟩:=yx ed rd;obtain⟨a2,qB,Wd,lS,tp⟩:=yx ee re;rw[ea]at Wd;cases Wd;rw[cm lS t]at tp;have hl:xs.length=ys.length:=by rw[cB.len,tp.len]
   obtain⟨r,pr,fF⟩:=fq.mp p;rw[Mq ih cB tp pr,hl]at fF;rw[<-fF];simp
  .split at p
   .rw[Rep]at rd re
    rw[rd]at re;cases re;simpa using p.symm
   .rw[Rep]at rd re
    rw[rd]at re;cases re;simpa using p.symm
   .rw[Rep]at rd re
    rw[rd]at re;cases re;simpa using p.symm
   .cases p
    rfl
   .rename_i xs ys _ _ _
    obtain⟨a,vs,ea,ha,aC⟩:=gC w rd (show cY S (.lst xs)=some xs from rfl);obtain⟨b',ws,eb,hb,a_⟩:=gC w re (show cY S (.lst ys)=some ys from rfl);rw[ea]at eb;cases eb;rw[ha]at hb;cases hb;rw[if_pos (by rw[aC.len,a_.len])]at p;exact Mq ih aC a_ p
   .rename_i c ns vs bA jz dg _ _ _
    split at p
    .split at p
     .split at p
      .split at p
       .rename_i hq
        cases p;rcases hq.2 with h|aI
        .exact h
        .exfalso
         obtain⟨a,C,bx,fs,ex,hm,ea,hn,cB⟩:=o_ w rd (by rfl:f' S (.ins c ns vs)=some (c,ns,vs));obtain⟨a2,dB,vM,pL,mV,gF,eb,jy,vN⟩:=o_ w re (by rfl:f' S (.ins bA jz dg)=some (bA,jz,dg));rw[ex]at mV;cases mV;rw[ea]at eb;cases eb;exact BA cm _ _ _ aI cB vN
       .cases p
      .cases p
     .cases p
    .cases p
   .cases p
  .cases p
theorem Wf{oth:List Str}{tab:List (Str×aD)}{N:Nat}(tk:Takes X W)(d4:Room N X.A)(h1:pG X "__eq__" N tab)(ht:pH X oth tab):∀n i,i+n<=N->Ml X i (λS d e=>oP oth tab S n d e)
 |0,i,_=>λpins s σ ρ H S d e x y u v b I cv aR w rd re p=>by cases p
 |n+1,i,hi=>λpins s σ ρ H S d e x y u v b I cv aR w rd re p=>by
  have aT:(fZ i X.A).units<cLine:=(Bu (k:=0) (d4.mono (by omega))).units0;have ih:=Wf tk d4 h1 ht n (i+1) (by omega);have flat:∀{x y:V} {b:Bool},RelV x u->RelV y v->flatV x=true->flatV y=true->eqV x y=b->wpAny (model X.prog X.w) (fZ i X.A) (eqBool u v) (λr s'=>r=b/\Gone X pins σ ρ H S s') X.xe s:=λaC a_ LQ vL e=>by
   have q:=eqAt_V (A:=fZ i X.A) (s:=s) aC a_ LQ vL;rw[e]at q;exact q X.prog X.w X.xe _ ⟨rfl,ρ,H,I,Ext.refl,w⟩
  have refs:∀{a b':Addr},x=.ref a->y=.ref b'->(a≠b'->wpAny (model X.prog X.w) (fZ i X.A) (richCompare .Eq (.ref a) (.ref b')) (λr s'=>r=.bool b/\Gone X pins σ ρ H S s') X.xe s)->wpAny (model X.prog X.w) (fZ i X.A) (eqBool u v) (λr s'=>r=b/\Gone X pins σ ρ H S s') X.xe s:=λ{a b'} ex dr h=>by
   subst ex dr;obtain rfl:u=Value.ref a:=cv;obtain rfl:v=Value.ref b':=aR;by_cases jZ:a=b'
   .subst jZ
    have hb:=Wc w (λh h'=>I.tuple_inj h h') (n+1) d e _ b rd re p;exact SeqAt.EqAt.same (A:=fZ i X.A) (s:=s) (.ref a) X.prog X.w X.xe _ ⟨hb.symm,ρ,H,I,Ext.refl,w⟩
   .exact GQ.eqBool_refG jZ (wpAny_mono (h jZ) (λr s' q=>⟨b,q.1,rfl,q.2⟩) λ_ _ x=>x)
  have p:wm oth tab S (oP oth tab S n) d e=some b:=p;unfold wm at p;split at p
  .rename_i xs ys ed ee
   obtain⟨r,pr,fF⟩:=fq.mp p;obtain⟨a,vs,ea,fz,aC⟩:=yx ed rd;obtain⟨b',ws,eb,tb,a_⟩:=yx ee re;refine refs ea eb λjZ=>?_;obtain⟨its,bw,au,z⟩:=I.tuple fz;obtain⟨dD,bz,e2,ej⟩:=I.tuple tb;have vm:its.toArray.size=xs.length:=by rw[fR,<-bw.length,aC.len]
   have u':dD.toArray.size=ys.length:=by rw[fR,<-bz.length,a_.len]
   refine GQ.V' aT (λj s'=>Gone X pins σ ρ H S s'/\eS (oP oth tab S n) (xs.drop j) (ys.drop j)=some r) (λs'=>Gone X pins σ ρ H S s'/\r=false) au e2 (λj h1 h2 s' q=>?_) (λs' q=>⟨?_,q.1⟩) (λs' q=>⟨by rw[<-fF,q.2];rfl,q.1⟩) ⟨⟨ρ,H,I,Ext.refl,w⟩,by simpa using pr⟩
   .obtain⟨⟨aB,H1,I1,x1,aE⟩,p1⟩:=q
    exact wpAny_mono (Mp ih I1 aE (aC.ext x1) (a_.ext x1) bw bz j h1 h2 p1) (λr s2 q=>q.imp (λq=>⟨q.1,q.2.1.trans x1,q.2.2⟩) λq=>⟨q.1,q.2.1.trans x1,q.2.2⟩) λ_ _ x=>x
   .have hr:=Wb (by rw[vm,u']) q.2
    rw[<-fF,hr,vm,u'];rfl
  .split at p
   .rw[Rep]at rd re
    subst rd re;cases p;exact flat cv aR rfl rfl (by first|rfl|(simp only[eqV];exact beq_eq_decide))
   .rw[Rep]at rd re
    subst rd re;cases p;exact flat cv aR rfl rfl (by first|rfl|(simp only[eqV];exact beq_eq_decide))
   .rw[Rep]at rd re
    subst rd re;cases p;exact flat cv aR rfl rfl (by first|rfl|(simp only[eqV];exact beq_eq_decide))
   .rw[Rep]at rd re
    subst rd re;cases p;exact flat cv aR rfl rfl (by first|rfl|(simp only[eqV];exact beq_eq_decide))
   .rename_i xs ys _ _ _
    obtain⟨a,vs,ea,ha,aC⟩:=gC w rd (show cY S (.lst xs)=some xs from rfl);obtain⟨b',ws,eb,hb,a_⟩:=gC w re (show cY S (.lst ys)=some ys from rfl);refine refs ea eb λjZ=>?_;subst ea eb;split at p
    .rename_i hl
     exact GQ.agk aT _ _ (ago (r:=b) (i:=i) (pins:=pins) (σ:=σ) ih rd re (by rfl) (by rfl) hl) (agp (X:=X) (i:=i) rd re (by rfl) (by rfl) hl) (λs' q=>⟨by rw[agn rfl q.2],q.1⟩) (λs' q=>⟨by rw[q.2],q.1⟩) ⟨⟨ρ,H,I,Ext.refl,w⟩,by simpa using p⟩
    .rename_i hl
     cases p;obtain⟨z,its,k,r,au⟩:=I.hok a _ ha;obtain⟨ej,dD,b6,r2,e2⟩:=I.hok b' _ hb;exact GQ.agl aT au e2 (by rw[fR,fR,<-r.length,<-r2.length,<-aC.len,<-a_.len];exact hl) ⟨rfl,ρ,H,I,Ext.refl,w⟩
   .rename_i c ns vs bA jz dg _ _ _
    split at p
    .rename_i aQ
     split at p
     .rename_i g oo
      split at p
      .rename_i de ak hg
       split at p
       .rename_i hq
        cases p;obtain⟨eI,_⟩:=hq;subst eI;obtain⟨a,C,bx,fs,ex,hm,ea,hn,cB⟩:=o_ w rd (by rfl:f' ak (.ins c ns vs)=some (c,ns,vs));obtain⟨b',dB,vM,pL,mV,gF,eb,jy,vN⟩:=o_ w re (by rfl:f' ak (.ins bA jz dg)=some (bA,jz,dg));obtain⟨f,k,ko,F,hk⟩:=h1.at_ c g oo C hm;refine refs ex mV λjZ=>?_;subst ex mV;obtain⟨vj,od,J⟩:=Fd I ea;obtain⟨ob,afm,LR⟩:=Fd I eb;obtain⟨jt,_⟩:=ht.at_ c g oo C hm;have hr:Room k (fZ i X.A):=Bu (hk.mono (by omega));refine PySem.W.Tc (op:=.Eq) aT I.kIn J LR.type (jt bA aQ dB gF) ko.at_ ko.fn (wpAny_mono (UH (us:=[.ref a,.ref b']) (vs:=[.ref a,.ref b']) (Q:=λz H'=>z=.bl b/\∃aj,Ext ρ H aj H'/\aF X.K X.mg aj H' ak) F hr (si tk σ) I (.cons rfl (.cons rfl .nil)) ⟨ρ,ak,[_,_],w,ay.cons rd (ay.cons re ay.nil),by rw[hg];exact λv aj H' x cn bM=>⟨kf bM,aj,x,cn⟩⟩) (λn6 s' ⟨z,H',gb,ng,uP,aj,x,cn⟩=>?_) λ_ _ z=>z);subst uP;cases ng;exact⟨rfl,aj,H',gb,x,cn⟩
       .cases p
      .cases p
     .cases p
    .cases p
   .cases p
  .cases p
def rK(neg:Bool)(oth:List Str)(tab:List (Str×aD))(n:Nat):bZ:=λd e S=>match vT d,vT e with
 |some xs,some ys=>(match eS (oP oth tab S n) xs ys with
  |some b=>.ok (.bl (b&&(xs.length==ys.length))) S
  |none=>.bad)
 |_,_=>.bad
theorem Wg{oth:List Str}{tab:List (Str×aD)}{n:Nat}(tk:Takes X W)(d4:Room (n+1) X.A)(h1:pG X "__eq__" (n+1) tab)(ht:pH X oth tab):gX X W (compareOp .Eq) (rK false oth tab n):=⟨λpins s σ ρ H S d e x y u v Q I cv aR w rd re p=>by
 have aT:X.A.units<cLine:=(d4.mono (hJ _)).units0;have ih:=Wf tk d4 h1 ht n 1 (by omega);unfold rK at p;split at p
 .rename_i xs ys ed ee
  obtain⟨a,vs,ea,fz,aC⟩:=yx ed rd;obtain⟨b,ws,eb,tb,a_⟩:=yx ee re;subst ea eb;obtain rfl:v=Value.ref b:=aR;obtain rfl:u=Value.ref a:=cv;split at p
  .rename_i r hp
   have fin:∀s',Gone X pins σ ρ H S s'->EP X pins σ Q (.bool (r&&(xs.length==ys.length))) s':=λs' g=>by
    obtain⟨aj,H',gb,x,cn⟩:=g;exact⟨.bl (r&&(xs.length==ys.length)),H',gb,rfl,p _ aj H' x cn gS⟩
   obtain⟨its,bw,au,z⟩:=I.tuple fz;obtain⟨dD,bz,e2,ej⟩:=I.tuple tb;have vm:its.toArray.size=xs.length:=by rw[fR,<-bw.length,aC.len]
   have u':dD.toArray.size=ys.length:=by rw[fR,<-bz.length,a_.len]
   refine GQ.V' aT (λj s'=>Gone X pins σ ρ H S s'/\eS (oP oth tab S n) (xs.drop j) (ys.drop j)=some r) (λs'=>Gone X pins σ ρ H S s'/\r=false) au e2 (λj h1 h2 s' q=>?_) (λs' q=>?_) (λs' q=>?_) ⟨⟨ρ,H,I,Ext.refl,w⟩,by simpa using hp⟩
   .obtain⟨⟨aB,H1,I1,x1,aE⟩,p1⟩:=q
    exact wpAny_mono (Mp (i:=0) (f:=λS d e=>oP oth tab S n d e) ih I1 aE (aC.ext x1) (a_.ext x1) bw bz j h1 h2 p1) (λr s2 q=>q.imp (λq=>⟨q.1,q.2.1.trans x1,q.2.2⟩) λq=>⟨q.1,q.2.1.trans x1,q.2.2⟩) λ_ _ x=>x
   .have hr:=Wb (by rw[vm,u']) q.2
    have:=fin s' q.1;rw[hr,Dk]at this;rw[vm,u'];exact this
   .have:=fin s' q.1
    rw[q.2]at this;exact this
  .exact p.elim
 .exact p.elim⟩
end
end Z
namespace TR
open PySem PySem.Spec L2 Z TL
def f7(n:Nat):List Nat:=(Nat.toDigits 10 n).map Char.toNat
theorem LJ(s:String):(Str.ofString s).cps.toList=s.toList.map Char.toNat:=by rw[Str.ofString_eq_toList]
theorem Wh(n:Nat):e0 (n:Int)=f7 n:=by
 unfold e0 f7;rw[LJ];show(Nat.repr n).toList.map Char.toNat=_;rw[Nat.toList_repr]
theorem ah6(n:Nat):e0 (-((n+1:Nat):Int))=45::f7 (n+1):=by
 unfold e0 f7;rw[LJ];show("-"++Nat.repr (n+1)).toList.map Char.toNat=_;rw[String.toList_append,List.map_append,Nat.toList_repr];rfl
theorem GF{n c:Nat}(h:c∈f7 n):48<=c/\c<=57:=by
 obtain⟨d,hd,rfl⟩:=hL.mp h;have:=Nat.isDigit_of_mem_toDigits (by omega) (by omega) hd;unfold Char.isDigit at this;simp only[Bool.and_eq_true,decide_eq_true_eq]at this;have h1:d.toNat=d.val.toNat:=rfl;obtain⟨a,b⟩:=this;have hU:(48:UInt32).toNat<=d.val.toNat:=UInt32.le_iff_toNat_le.mp a;have b':d.val.toNat<=(57:UInt32).toNat:=UInt32.le_iff_toNat_le.mp b;rw[h1];exact⟨hU,b'⟩
theorem Nt(n:Nat):f7 n≠[]:=by
 unfold f7;simp
theorem Nu{n:Nat}(h:n<10):f7 n=[48+n]:=by
 unfold f7;rw[Nat.toDigits_of_lt_base h];simp[Nat.toNat_digitChar_of_lt_ten h]
theorem Wi{n:Nat}(h:10<=n):f7 n=f7 (n / 10)++[48+n % 10]:=by
 unfold f7;rw[Nat.toDigits_of_base_le (by omega) h,List.map_append];simp[Nat.toNat_digitChar_of_lt_ten (Nat.mod_lt n (by omega:10>0))]
theorem ah7(l:List Nat)(c:Nat):iS (l++[c])=iS l * 10+(c - 48):=by
 unfold iS;rw[List.foldl_append];rfl
theorem Nv(n:Nat):iS (f7 n)=n:=by
 induction n using Nat.strongRecOn with
 |ind n ih =>
  by_cases h:n<10
  .rw[Nu h]
   simp[iS]
  .rw[Wi (by omega),ah7,ih (n / 10) (by omega)]
   omega
theorem Nw{n:Nat}(h:n≠0):(f7 n).headD 0≠48:=by
 induction n using Nat.strongRecOn with
 |ind n ih =>
  by_cases h2:n<10
  .rw[Nu h2]
   show 48+n≠48;omega
  .rw[Wi (by omega)]
   have:=ih (n / 10) (by omega) (by omega);cases e:f7 (n / 10)with
   |nil=>exact absurd e (Nt _)
   |cons c r =>
    rw[e]at this;exact this
theorem ah8{n k:Nat}(h:n<10 ^ k)(hk:0<k):(f7 n).length<=k:=by
 unfold f7;rw[List.length_map];exact(Nat.length_toDigits_le_iff (by omega) hk).mpr h
theorem ah9:f7 0=[48]:=Nu (by omega)
theorem aia(l:List Nat)(h:∀c∈l,48<=c/\c<=57):iS l<10 ^ l.length:=by
 have key:∀(l:List Nat) (a:Nat),(∀c∈l,48<=c/\c<=57)->l.foldl (λa c=>a * 10+(c - 48)) a<(a+1) * 10 ^ l.length:=λl=>by
  induction l with
  |nil=>intro a _;simp
  |cons c l ih =>
   intro a h;have hc:=h c (by simp);have:=ih (a * 10+(c - 48)) λd hd=>h d (by simp[hd]);rw[List.foldl_cons,List.length_cons,Nat.pow_succ];refine jr this ?_;have e:(a+1) * (10 ^ l.length * 10)=((a+1) * 10) * 10 ^ l.length:=by
    rw[Nat.mul_assoc,Nat.mul_comm 10]
   rw[e];exact HS _ (by omega)
 have:=key l 0 h;unfold iS;simpa using this
def ji(l:List Nat):Bool:=decide (1<=l.length/\l.length<=30)&&(l.all (λc=>decide (48<=c/\c<=57))&&(decide (l=[48])||decide (l.headD 0≠48)))
def nI(l:List Nat):Bool:=ji l||(decide (l.take 1=[45])&&(decide (l≠[45,48])&&ji (l.drop 1)))
def fP(l:List Nat):Int:=if ji l=true then iS l else -(iS (l.drop 1):Int)
def j5:List Nat->Option (List Nat×List Nat)
 |[]=>none
 |x::l=>if x=47 then some ([],l)else(j5 l).map λp=>(x::p.1,p.2)
theorem GH:∀{l a b:List Nat},j5 l=some (a,b)->l=a++47::b/\47∉a
 |[],a,b,h=>by cases h
 |x::l,a,b,h=>by
  unfold j5 at h;split at h
  .rename_i e
   cases h;subst e;exact⟨rfl,by simp⟩
  .rename_i e
   obtain⟨p,hp,he⟩:=fq.mp h;obtain⟨p1,p2⟩:=p;cases he;obtain⟨bw,bz⟩:=GH hp;refine⟨by rw[bw];rfl,λhm=>?_⟩;rcases g6.mp hm with h|h
   .exact e h.symm
   .exact bz h
theorem Wj:∀{l:List Nat},j5 l=none->47∉l
 |[],h=>by simp
 |x::l,h=>by
  unfold j5 at h;split at h
  .cases h
  .rename_i e
   have:=Wj (Option.map_eq_none_iff.mp h);intro hm;rcases g6.mp hm with h|h
   .exact e h.symm
   .exact this h
theorem Wk:∀(a b:List Nat),47∉a->j5 (a++47::b)=some (a,b)
 |[],b,_=>rfl
 |x::a,b,h=>by
  simp only[List.mem_cons,not_or]at h;rw[List.cons_append,j5,if_neg (λe=>h.1 e.symm),Wk a b h.2];rfl
theorem Wl:∀(a:List Nat),47∉a->j5 a=none
 |[],_=>rfl
 |x::a,h=>by
  simp only[List.mem_cons,not_or]at h;rw[j5,if_neg (λe=>h.1 e.symm),Wl a h.2];rfl
def cN(l:List Nat):List Nat:=match j5 l with
 |some (a,_)=>a
 |none=>l
def fh(l:List Nat):List Nat:=match j5 l with
 |some _=>[47]
 |none=>[]
def eN(l:List Nat):List Nat:=match j5 l with
 |some (_,b)=>b
 |none=>[]
theorem aib(l:List Nat):Txt.partition (ao l) (ao [47])=(ao (cN l),ao (fh l),ao (eN l)):=by
 unfold cN fh eN;cases h:j5 l with
 |none=>exact partition_none (y:=ao [47]) (s:=47) (S:=[]) rfl (Wj h)
 |some p =>
  obtain⟨a,b⟩:=p;obtain⟨e,h2⟩:=GH h;have e2:ao l=ao a++ao [47]++ao b:=by
   rw[e,Z.J8,Z.J8];simp
  rw[e2];exact partition_app (y:=ao [47]) (s:=47) (S:=[]) rfl h2
def kM(l:List Nat):Bool:=nI (cN l)&&(decide (fh l=[])||(ji (eN l)&&decide (eN l≠[48])))
def fj(l:List Nat):Nat:=if fh l=[]then 1 else iS (eN l)
def hY(l:List Nat):Option (Int×Int):=if kM l=true/\c5 (num (fP (cN l)) (fj l)) (den (fP (cN l)) (fj l))=l then some (num (fP (cN l)) (fj l),den (fP (cN l)) (fj l))else none
theorem aic{l:List Nat}{r:Int×Int}(h:hY l=some r):c5 r.1 r.2=l/\kM l=true/\r=(num (fP (cN l)) (fj l),den (fP (cN l)) (fj l)):=by
 unfold hY at h;split at h
 .rename_i hc
  cases h;exact⟨hc.2,hc.1,rfl⟩
 .cases h
theorem B_{l:List Nat}(h:ji l=true):(∀c∈l,48<=c/\c<=57)/\1<=l.length/\l.length<=30/\(l=[48]\/l.headD 0≠48):=by
 unfold ji at h;simp only[Bool.and_eq_true,Bool.or_eq_true,decide_eq_true_eq]at h;obtain⟨h1,h2,aI⟩:=h;exact⟨λc hc=>by simpa using List.all_eq_true.mp h2 c hc,h1.1,h1.2,aI⟩
theorem aid:(10:Nat) ^ 30<2 ^ 100:=by decide
theorem Nx{l:List Nat}(h:ji l=true):Bd 100 (iS l):=by
 obtain⟨h1,_,aI,_⟩:=B_ h;have:=aia l h1;have bE:10 ^ l.length<=10 ^ 30:=Nat.pow_le_pow_right (by omega) aI;have:=aid;unfold Bd;rw[ui];omega
theorem aie{l:List Nat}(h:ji l=true)(h0:l≠[48]):0<iS l:=by
 obtain⟨h1,h2,_,bE⟩:=B_ h;have bE:=bE.resolve_left h0;have key:∀(r:List Nat) (a:Nat),0<a->0<r.foldl (λa c=>a * 10+(c - 48)) a:=λr=>by
  induction r with
  |nil=>exact λa h=>h
  |cons c r ih =>
   intro a h;rw[List.foldl_cons];refine ih _ ?_;omega
 cases l with
 |nil=>simp at h2
 |cons c r =>
  have hc:=h1 c (by simp);have bE:c≠48:=bE;unfold iS;rw[List.foldl_cons];refine key r _ ?_;omega
theorem Wm{l:List Nat}(h:nI l=true):Bd 100 (fP l):=by
 unfold fP;split
 .rename_i hd
  exact Nx hd
 .rename_i hd
  unfold nI at h;simp only[Bool.or_eq_true,Bool.and_eq_true]at h;exact(Nx (h.resolve_left hd).2.2).neg
theorem Wn{l:List Nat}(h:kM l=true):Bd 100 (fj l)/\(fj l:Int)≠0:=by
 unfold kM at h;simp only[Bool.and_eq_true,Bool.or_eq_true,decide_eq_true_eq]at h;unfold fj;split
 .exact⟨by unfold Bd;decide,by decide⟩
 .rename_i hb
  obtain⟨h1,h2⟩:=h.2.resolve_left hb;have:=aie h1 h2;exact⟨Nx h1,by omega⟩
theorem Ny{l:List Nat}(h:kM l=true):nI (cN l)=true:=by
 unfold kM at h;simp only[Bool.and_eq_true]at h;exact h.1
theorem aif{l:List Nat}{p q:Int}(h:hY l=some (p,q)):LT 200 p q:=by
 obtain⟨_,hf,e⟩:=aic h;cases e;obtain⟨hb,h0⟩:=Wn hf;exact LT.of (n:=100) (m:=100) (Wm (Ny hf)) hb h0
theorem Nz{n:Nat}(h:n<10 ^ 30):ji (f7 n)=true:=by
 unfold ji;simp only[Bool.and_eq_true,Bool.or_eq_true,decide_eq_true_eq];refine⟨⟨List.length_pos_iff.mpr (Nt n),ah8 h (by omega)⟩,List.all_eq_true.mpr λc hc=>by simpa using GF hc,?_⟩;by_cases h0:n=0
 .subst h0
  exact .inl ah9
 .exact .inr (Nw h0)
theorem Wo{n:Nat}:47∉f7 n:=λh=>by
 have:=GF h;omega
theorem NA(p:Int):(∃n:Nat,p=n/\e0 p=f7 n)\/∃n:Nat,p = -((n+1:Nat):Int)/\e0 p=45::f7 (n+1):=by
 cases p with
 |ofNat n=>exact .inl ⟨n,rfl,Wh n⟩
 |negSucc n=>exact .inr ⟨n,rfl,ah6 n⟩
theorem aih{p:Int}(h:p.natAbs<10 ^ 30):nI (e0 p)=true/\fP (e0 p)=p/\47∉e0 p:=by
 rcases NA p with⟨n,rfl,e⟩|⟨n,rfl,e⟩
 .rw[e]
  have hd:=Nz (n:=n) (by omega);refine⟨by unfold nI;rw[hd];rfl,?_,Wo⟩;unfold fP;rw[if_pos hd,Nv]
 .rw[e]
  have hd:=Nz (n:=n+1) (by omega);have xX:ji (45::f7 (n+1))=false:=by
   unfold ji;simp
  have dA:f7 (n+1)≠[48]:=λe2=>by
   have:=Nw (n:=n+1) (by omega);rw[e2]at this;exact this rfl
  refine⟨?_,?_,?_⟩
  .unfold nI
   rw[xX,List.drop_succ_cons,List.drop_zero,hd];simp[dA]
  .unfold fP
   rw[xX,if_neg (by simp),List.drop_succ_cons,List.drop_zero,Nv]
  .simp only[List.mem_cons,not_or]
   exact⟨by omega,Wo⟩
theorem aii{n:Nat}{p q:Int}(h:LT n p q)(hp:p.natAbs<10 ^ 30)(hq:q.natAbs<10 ^ 30):hY (c5 p q)=some (p,q):=by
 obtain⟨s1,s2,s3⟩:=aih hp;by_cases h1:q=1
 .subst h1
  have e:c5 p 1=e0 p:=by unfold c5;rw[if_pos rfl]
  rw[e];have hc:=Wl _ s3;have au:cN (e0 p)=e0 p:=by unfold cN;rw[hc]
  have e2:fh (e0 p)=[]:=by unfold fh;rw[hc]
  have bj:fj (e0 p)=1:=by unfold fj;rw[if_pos e2]
  unfold hY kM;rw[au,e2,bj,s1,s2];have n1:num p ((1:Nat):Int)=p:=ado;have k4:den p ((1:Nat):Int)=1:=adp;rw[n1,k4,e];simp
 .have e:c5 p q=e0 p++47::e0 q:=by unfold c5;rw[if_neg h1]
  obtain⟨m,rfl⟩:∃m:Nat,q=m:=⟨q.toNat,by have:=h.pos;omega⟩
  have hm:m<10 ^ 30:=by omega
  have aq5:=h.pos;have hd:=Nz hm;have hc:j5 (c5 p m)=some (e0 p,e0 m):=by rw[e];exact Wk _ _ s3
  have au:cN (c5 p m)=e0 p:=by unfold cN;rw[hc]
  have e2:fh (c5 p m)=[47]:=by unfold fh;rw[hc]
  have fV:eN (c5 p m)=f7 m:=by unfold eN;rw[hc,<-Wh]
  have bj:fj (c5 p m)=m:=by unfold fj;rw[e2,if_neg (by simp),fV,Nv]
  have dA:f7 m≠[48]:=λe2=>by
   have:=Nw (n:=m) (by omega);rw[e2]at this;exact this rfl
  unfold hY kM;rw[au,e2,bj,fV,s1,s2,h.num,h.den,hd];simp[dA]
open PySem PySem.Spec L2 Z ZM TL
section
variable{S:Store}{v d:D}{sl:aL}{Q:iQ}{l:List Nat}
def Lo(l:List Nat):Prop:=∀c∈l,c<128
theorem p4(h:Lo l):jU l:=BZ h
theorem B'{c:Nat}(h:c<128):jU [c]:=BZ λd hd=>by simp at hd;omega
theorem oQ{f:aM}{d:D}{S1:Store}(h:f sl S=.ok d S1)(hq:Q.rt d S1):aV (bq f sl S) Q:=by
 rw[sF,h,bh];exact hq
theorem GJ{f1:aM}{fl fu:uX}{lo hi:Option Int}{r:List Nat}(h:f1 sl S=.ok (.str (ao l)) S)(h1:fl sl S=.ok lo S)(h2:fu sl S=.ok hi S)(hl:l.length<=1000000)(hr:cutS (ao l) lo hi=ao r):gD false f1 fl fu sl S=.ok (.str (ao r)) S:=bO (by
 rw[abl,h,bh,h1,bh,h2,bh,abL,hr];exact⟨hl,rfl,rfl⟩)
theorem yL{f:aM}{i:Int}(h:f sl S=.ok (.int i) S):e8 f sl S=.ok (some i) S:=by
 unfold e8;rw[h];rfl
theorem Lo.take(h:Lo l)(n:Nat):Lo (l.take n):=λc hc=>h c (List.mem_of_mem_take hc)
theorem Lo.drop(h:Lo l)(n:Nat):Lo (l.drop n):=λc hc=>h c (List.mem_of_mem_drop hc)
def rL:List Nat:=[48,49,50,51,52,53,54,55,56,57]
theorem aij{c:Nat}:c∈rL↔48<=c/\c<=57:=by
 simp only[rL,List.mem_cons,j9,or_false];omega
theorem NB(jj:Lo l)(hl:l.length<=1000):nF [.str (ao l)] S=.ok (.bl (ji l)) S:=by
 refine bO ?_;unfold nF;refine eo rfl ?_;show aV (oN [some (.str (ao l)),none] S) _;unfold oN;have NC:l.length<=1000000:=by omega
 have h2:nY k6 k6 (ah (.int 1)) (aw cM (ag (ae 0) ai)) (ah (.int 30)) [some (.str (ao l)),none] S=.ok (.bl (decide (1<=l.length/\l.length<=30))) S:=bO (by
  by_cases q:1<=(l.length:Int)
  .have:(1:Nat)<=l.length:=by omega
   simp[q,NC,this];omega
  .have:¬(1:Nat)<=l.length:=by omega
   simp[q,NC,this])
 have hlit:("0123456789":Str)=ao rL:=by decide +kernel
 have p1:=afb (S:=S) (sl:=[some (.str (ao l)),none]) (it:=ho (ae 0)) (g:=aX 1) (bt:=di) (fe:=az e' (ae 1) (ah (.str "0123456789"))) (own:=[1]) (xs:=l.map hV) (λ_=>true) (λd=>match d with|.str s=>.bl (decide (s.cps.toList.headD 0∈rL))|d=>d) (sI (Si rfl) (by simp)) (by simp;omega) (λacc=>by simp) (λd hd acc=>by
   obtain⟨a,ha,rfl⟩:=hL.mp hd;exact⟨_,rfl,rfl,λ_=>bO (by rw[hlit];simp[cE])⟩) (λd hd _=>by
   obtain⟨a,ha,rfl⟩:=hL.mp hd;simp)
 have e2:((l.map hV).filter (λ_=>true)).map (λd=>match d with|.str s=>D.bl (decide (s.cps.toList.headD 0∈rL))|d=>d)=l.map λc=>.bl (decide (c∈rL)):=by
  rw[abx,mG];rfl
 rw[e2]at p1;have aI:=d5 (bJ p1 b0) abN;have aik:(l.all λc=>decide (48<=c/\c<=57))=l.all λc=>decide (c∈rL):=by
  congr 1;funext c;exact decide_eq_decide.mpr aij.symm
 unfold ji;rw[aik];by_cases bw:1<=l.length/\l.length<=30
 .by_cases bz:(l.all λc=>decide (c∈rL))=true
  .refine jar (λsl S1=>S1=S/\sl=[some (.str (ao l)),none]) ?_ ?_
   .rw[jb,Au,ow,fO,h2,bh,eJ,decide_eq_true bw,rZ,if_neg (by simp),ow,fO,aI,bh,eJ,bz,rZ,if_neg (by simp),kr]
    exact⟨rfl,rfl⟩
   rintro sl S1 ⟨rfl,rfl⟩;rw[decide_eq_true bw,bz,Dk,Dk];obtain⟨c,r,rfl⟩:∃c r,l=c::r:=by
    cases l with
    |nil=>simp at bw
    |cons c r=>exact⟨c,r,rfl⟩
   have hc:c<128:=jj c (by simp);have a1:az (aU false) (ae 0) (ah (.str "0")) [some (.str (ao (c::r))),none] S1=.ok (.bl (decide (c::r=[48]))) S1:=d6 (a0 rfl) rfl (vg (b:=[48]) (p4 jj) (B' (by omega)));have sL:az a7 (ae 0) (ah (.int 0)) [some (.str (ao (c::r))),none] S1=.ok (hV c) S1:=bO (by
    have i4:r.length<=999999:=by simp at NC;omega
    simp[i4])
   have a2:az (aU true) (az a7 (ae 0) (ah (.int 0))) (ah (.str "0")) [some (.str (ao (c::r))),none] S1=.ok (.bl (!decide (c=48))) S1:=d6 sL rfl (by
    have:=vh (S:=S1) (B' hc) (B' (c:=48) (by omega));rw[show hV c=D.str (ao [c])from rfl,show D.str (Str.ofString "0")=D.str (ao [48])from rfl,this];simp)
   rw[sF,R6,a1,bh];by_cases h:c::r=[48]
   .rw[decide_eq_true h,eJ,if_pos rfl,jS]
    exact dI rfl ⟨rfl,rfl⟩
   .rw[decide_eq_false h,eJ,if_neg (by simp),a2,bh,jS]
    refine dI rfl ⟨?_,rfl⟩;simp
  .have bz:(l.all λc=>decide (c∈rL))=false:=by simpa using bz
   refine jar (λ_ _=>False) ?_ (λ_ _ h=>h.elim);rw[jb,Au,ow,fO,h2,bh,eJ,decide_eq_true bw,rZ,if_neg (by simp),ow,fO,aI,bh,eJ,bz,qi,if_pos rfl];refine oQ rfl ?_;rw[jS];exact dI rfl ⟨by simp,rfl⟩
 .refine jar (λ_ _=>False) ?_ (λ_ _ h=>h.elim)
  rw[jb,Au,ow,fO,h2,bh,eJ,decide_eq_false bw,qi,if_pos rfl,if_pos rfl];refine oQ rfl ?_;rw[jS];exact dI rfl ⟨by simp,rfl⟩
def mA(v:D):D:=.ins "InvalidText" ["given","tag"] [v,.str "InvalidText"]
theorem ail{k:Nat}(h:bg k d=true):bg k (mA d)=true:=by simp[mA,h]
theorem aim{i:Nat}(h:sl[i]?=some (some d))(hq:Q.ex (mA d) sl S):aV (ec (aw (dU "InvalidText" "InvalidText" ["given"]) (ag (ae i) ai)) sl S) Q:=by
 rw[TB,lg,bJ (a0 h) b0,bh,TC];refine⟨rfl,?_⟩;exact hq
theorem ain{o R:Out D}(h:We o (λd ak=>R=.ok d ak) (λe ak=>R=.ex e ak)):o=R:=by
 unfold We at h;cases o with
 |ok d T=>exact h.symm
 |ex e T=>exact h.symm
 |bad=>exact h.elim
theorem aio(jj:Lo l)(hl:l.length<=1000):wh [.str (ao l)] S=.ok (.bl (nI l)) S:=by
 refine bO ?_;unfold wh;refine eo rfl ?_;show aV (rH [some (.str (ao l))] S) _;unfold rH nI;have a1:=d5 (bJ (a0 (sl:=[some (.str (ao l))]) (i:=0) rfl) b0) (NB (S:=S) jj hl);have a2:az (aU false) (gD false (ae 0) hT (e8 (ah (.int 1)))) (ah (.str "-")) [some (.str (ao l))] S=.ok (.bl (decide (l.take 1=[45]))) S :=
  d6 (GJ (a0 rfl) rfl (yL rfl) (by omega) (abK l)) rfl (vg (b:=[45]) (p4 (jj.take 1)) (B' (by omega)))
 have a3:az (aU true) (ae 0) (ah (.str "-0")) [some (.str (ao l))] S=.ok (.bl (decide (l≠[45,48]))) S:=d6 (a0 rfl) rfl (by
  have:=vh (S:=S) (b:=[45,48]) (p4 jj) (BZ λc hc=>by simp at hc;omega);rw[show Str.ofString "-0"=ao [45,48]from rfl,this];simp)
 have rj:=d5 (bJ (GJ (sl:=[some (.str (ao l))]) (S:=S) (f1:=ae 0) (fl:=e8 (ah (.int 1))) (fu:=hT) (a0 rfl) (yL rfl) rfl (by omega) (abJ l)) b0) (NB (S:=S) (jj.drop 1) (by simp;omega));rw[sF,R6,a1,bh,eJ];cases ji l
 .rw[if_neg (by simp),R5,a2,bh,eJ]
  by_cases h1:l.take 1=[45]
  .rw[decide_eq_true h1,if_pos rfl,R5,a3,bh,eJ]
   by_cases h2:l≠[45,48]
   .rw[decide_eq_true h2,if_pos rfl,rj,bh,jS]
    exact dI rfl ⟨by simp,rfl⟩
   .rw[decide_eq_false h2,if_neg (by simp),jS]
    exact dI rfl ⟨by simp,rfl⟩
  .rw[decide_eq_false h1,if_neg (by simp),jS]
   exact dI rfl ⟨by simp,rfl⟩
 .rw[if_pos rfl,jS]
  exact dI rfl ⟨rfl,rfl⟩
theorem aip(h:nI l=true):oJ [.str (ao l)] S=.ok (.int (fP l)) S:=by
 unfold fP;split
 .rename_i hd
  obtain⟨h1,h2,aI,_⟩:=B_ hd;exact Ur h1 (by intro e;subst e;simp at h2) (by omega)
 .rename_i hd
  unfold nI at h;simp only[Bool.or_eq_true,Bool.and_eq_true,decide_eq_true_eq]at h;obtain⟨h1,h2,aI⟩:=h.resolve_left hd;obtain⟨c0,b6,iR,_⟩:=B_ aI;cases l with
  |nil=>cases h1
  |cons c r =>
   have hc:c=45:=by simpa using h1
   subst hc;have iR:r.length<=30:=by simpa using iR
   exact ae4 c0 (by intro e;subst e;simp at b6) (by omega)
theorem aiq(h:Lo l):Lo (cN l)/\Lo (fh l)/\Lo (eN l):=by
 unfold cN fh eN;cases e:j5 l with
 |none=>exact⟨h,(λc hc=>by cases hc),λc hc=>by cases hc⟩
 |some p =>
  obtain⟨a,b⟩:=p;obtain⟨rfl,_⟩:=GH e;exact⟨λc hc=>h c (by simp[hc]),(λc hc=>by simp at hc;omega),λc hc=>h c (by simp[hc])⟩
theorem air:(cN l).length<=l.length/\(eN l).length<=l.length:=by
 unfold cN eN;cases e:j5 l with
 |none=>exact⟨Nat.le_refl _,by simp⟩
 |some p =>
  obtain⟨a,b⟩:=p;obtain⟨rfl,_⟩:=GH e;exact⟨by simp,by simp;omega⟩
def ND(o:Option (Int×Int))(l:List Nat)(S:Store):Out D:=match o with
 |some r=>.ok (hC r.1 r.2) S
 |none=>.ex (mA (.str (ao l))) S
theorem ais{i j k:Nat}{d e f:D}:aV (hP (cP (aX i) (cP (aX j) (cP (aX k) gA))) (.tup [d,e,f]) sl S) Q=Q.nx (((sl.set i (some d)).set j (some e)).set k (some f)) S:=by
 rw[abh,Kc,ie];dsimp only;rw[Kc,ie];dsimp only;rw[Kc,ie];dsimp only;rw[abi]
theorem ait(jj:Lo l)(hl:l.length<=1000):rJ [.str (ao l)] S=ND (hY l) l S:=by
 refine ain ?_;unfold rJ;refine eo rfl ?_;show aV (wi [some (.str (ao l)),none,none,none,none] S) _;unfold wi;obtain⟨lo1,Wq,Wr⟩:=aiq jj;obtain⟨len1,aq6⟩:=air (l:=l);have raised:∀(sl:aL) (Q:iQ),hY l=none->sl[0]?=some (some (.str (ao l)))->Q.ex=(sG S (λd ak=>ND (hY l) l S=.ok d ak) (λe ak=>ND (hY l) l S=.ex e ak)).ex->aV (ec (aw (dU "InvalidText" "InvalidText" ["given"]) (ag (ae 0) ai)) sl S) Q:=λsl Q h h0 eC=>by
  refine aim h0 ?_;rw[eC,qT];refine dI (ail rfl) ?_;rw[h];rfl
 refine jar (λsl S1=>S1=S/\sl=[some (.str (ao l)),none,none,none,none]) ?_ ?_
 .have e:aw dS (ag (ae 0) (ag (ah (.ty "str")) ai)) [some (.str (ao l)),none,none,none,none] S=.ok (.bl true) S:=bO (by simp)
  exact Ux e ⟨rfl,rfl⟩
 rintro sl S1 ⟨rfl,rfl⟩;refine jar (λsl S2=>S2=S1/\sl=[some (.str (ao l)),some (.str (ao (cN l))),some (.str (ao (fh l))),some (.str (ao (eN l))),none]) ?_ ?_
 .have au:dR k8 vB (ae 0) (ag (ah (.str "/")) ai) [some (.str (ao l)),none,none,none,none] S1=.ok (.tup [.str (ao (cN l)),.str (ao (fh l)),.str (ao (eN l))]) S1:=by
   refine bO ?_;rw[Kg,a0 rfl,bh,if_pos (by rfl),bJ (d:=.str (ao [47])) rfl b0,bh];have:vB (.str (ao l)) [.str (ao [47])] S1=.ok (.tup [.str (ao (cN l)),.str (ao (fh l)),.str (ao (eN l))]) S1:=by
    unfold vB;dsimp only;have hc:(ao [47]).length≠0/\(ao l).length<=1000000:=⟨by decide,by rw[m4];omega⟩
    rw[if_pos hc,aib]
   rw[this,bh];exact⟨rfl,rfl⟩
  rw[jR,au,bh,ais];exact⟨rfl,rfl⟩
 rintro sl S2 ⟨rfl,rfl⟩;refine jar (λsl aW=>aW=S2/\kM l=true/\sl=[some (.str (ao l)),some (.str (ao (cN l))),some (.str (ao (fh l))),some (.str (ao (eN l))),none]) ?_ ?_
 .have a1:=d5 (bJ (a0 (sl:=[some (.str (ao l)),some (.str (ao (cN l))),some (.str (ao (fh l))),some (.str (ao (eN l))),none]) (i:=1) rfl) b0) (aio (S:=S2) lo1 (by omega))
  have a2:az (aU true) (ae 2) (ah (.str "")) [some (.str (ao l)),some (.str (ao (cN l))),some (.str (ao (fh l))),some (.str (ao (eN l))),none] S2=.ok (.bl (!decide (fh l=[]))) S2:=d6 (a0 rfl) rfl (vh (b:=[]) (p4 Wq) (by intro c hc;cases hc));have a3:=d5 (bJ (a0 (sl:=[some (.str (ao l)),some (.str (ao (cN l))),some (.str (ao (fh l))),some (.str (ao (eN l))),none]) (i:=3) rfl) b0) (NB (S:=S2) Wr (by omega));have rj:az (aU false) (ae 3) (ah (.str "0")) [some (.str (ao l)),some (.str (ao (cN l))),some (.str (ao (fh l))),some (.str (ao (eN l))),none] S2=.ok (.bl (decide (eN l=[48]))) S2:=d6 (a0 rfl) rfl (vg (b:=[48]) (p4 Wr) (B' (by omega)));have nf:kM l=false->hY l=none:=λh=>by
   unfold hY;rw[if_neg];rintro⟨h1,_⟩;rw[h]at h1;cases h1
  rw[jb,Au,ow,fO,a1,bh,eJ];cases h1:nI (cN l)
  .rw[qi,if_pos rfl,if_pos rfl]
   refine raised _ _ (nf ?_) rfl rfl;unfold kM;rw[h1];rfl
  .rw[rZ,if_neg (by simp),Ez,fO,a2,bh,eJ]
   by_cases h2:fh l=[]
   .rw[decide_eq_true h2,rZ,if_neg (by simp),if_neg (by simp),kr]
    refine⟨rfl,?_,rfl⟩;unfold kM;rw[h1,decide_eq_true h2];rfl
   .rw[decide_eq_false h2,qi,if_pos rfl,Au,ow,fO,a3,bh,eJ]
    have hf:kM l=(ji (eN l)&&decide (eN l≠[48])):=by
     unfold kM;rw[h1,decide_eq_false h2];rfl
    cases aI:ji (eN l)
    .rw[qi,if_pos rfl,if_pos rfl]
     refine raised _ _ (nf ?_) rfl rfl;rw[hf,aI];rfl
    .rw[rZ,if_neg (by simp),fO,rj,bh,eJ]
     by_cases bE:eN l=[48]
     .rw[decide_eq_true bE,if_pos rfl]
      refine raised _ _ (nf ?_) rfl rfl;rw[hf,aI,bE];rfl
     .rw[decide_eq_false bE,if_neg (by simp),kr]
      refine⟨rfl,?_,rfl⟩;rw[hf,aI,decide_eq_true bE];rfl
 rintro sl aW ⟨rfl,hf,rfl⟩;obtain⟨hb,h0⟩:=Wn hf;have hs:=Wm (Ny hf);have c7:LT 200 (num (fP (cN l)) (fj l)) (den (fP (cN l)) (fj l)):=LT.of (n:=100) (m:=100) hs hb h0;refine jar (λsl b5=>b5=aW/\sl=[some (.str (ao l)),some (.str (ao (cN l))),some (.str (ao (fh l))),some (.str (ao (eN l))),some (hC (num (fP (cN l)) (fj l)) (den (fP (cN l)) (fj l)))]) ?_ ?_
 .have a2:az (aU true) (ae 2) (ah (.str "")) [some (.str (ao l)),some (.str (ao (cN l))),some (.str (ao (fh l))),some (.str (ao (eN l))),none] aW=.ok (.bl (!decide (fh l=[]))) aW:=d6 (a0 rfl) rfl (vh (b:=[]) (p4 Wq) (by intro c hc;cases hc))
  have b1:=d5 (bJ (a0 (sl:=[some (.str (ao l)),some (.str (ao (cN l))),some (.str (ao (fh l))),some (.str (ao (eN l))),none]) (i:=1) rfl) b0) (aip (S:=aW) (Ny hf));have de:eT (aK (az (aU true) (ae 2) (ah (.str "")))) (aw oJ (ag (ae 3) ai)) (ah (.int 1)) [some (.str (ao l)),some (.str (ao (cN l))),some (.str (ao (fh l))),some (.str (ao (eN l))),none] aW=.ok (.int (fj l)) aW:=bO (by
   rw[Kf,fO,a2,bh,eJ];unfold fj;by_cases h2:fh l=[]
   .rw[decide_eq_true h2,rZ,if_neg (by simp),if_pos h2,show ah (.int 1) [some (.str (ao l)),some (.str (ao (cN l))),some (.str (ao (fh l))),some (.str (ao (eN l))),none] aW=.ok (.int 1) aW from rfl,bh]
    exact⟨rfl,rfl⟩
   .have hd:ji (eN l)=true:=by
     unfold kM at hf;simp only[Bool.and_eq_true,Bool.or_eq_true,decide_eq_true_eq]at hf;exact(hf.2.resolve_left h2).1
    obtain⟨c0,b6,iR,_⟩:=B_ hd;rw[decide_eq_false h2,qi,if_pos rfl,if_neg h2,d5 (bJ (a0 rfl) b0) (Ur c0 (by intro e;rw[e]at b6;simp at b6) (by omega)),bh];exact⟨rfl,rfl⟩)
  rw[jR,xO,lg,bJ b1 (bJ de b0),bh];refine TQ hs hb (by omega) (by omega) h0 ?_;rw[ie];exact⟨rfl,rfl⟩
 rintro sl b5 ⟨rfl,rfl⟩;have ht:cL "text" [("Ratio",pJ)] (ae 4) ai [some (.str (ao l)),some (.str (ao (cN l))),some (.str (ao (fh l))),some (.str (ao (eN l))),some (hC (num (fP (cN l)) (fj l)) (den (fP (cN l)) (fj l)))] b5=.ok (.str (ao (c5 (num (fP (cN l)) (fj l)) (den (fP (cN l)) (fj l))))) b5:=bO (by
  have:=T4 (S:=b5) c7 (by omega);simp[this])
 have a1:=d6 (sem:=aU true) ht (a0 (i:=0) rfl) (vh adB (p4 jj));by_cases h:c5 (num (fP (cN l)) (fj l)) (den (fP (cN l)) (fj l))=l
 .have hr:hY l=some (num (fP (cN l)) (fj l),den (fP (cN l)) (fj l)):=by
   unfold hY;rw[if_pos ⟨hf,h⟩]
  refine jar (λsl eg=>eg=b5/\sl=[some (.str (ao l)),some (.str (ao (cN l))),some (.str (ao (fh l))),some (.str (ao (eN l))),some (hC (num (fP (cN l)) (fj l)) (den (fP (cN l)) (fj l)))]) ?_ ?_
  .rw[jb,fO,a1,bh,eJ,decide_eq_true h,rZ,if_neg (by simp),kr]
   exact⟨rfl,rfl⟩
  rintro sl eg ⟨rfl,rfl⟩;refine oQ (a0 rfl) ?_;rw[jS];refine dI Lb ?_;rw[hr];rfl
 .have hr:hY l=none:=by
   unfold hY;rw[if_neg λq=>h q.2]
  refine jar (λ_ _=>False) ?_ (λ_ _ h=>h.elim);rw[jb,fO,a1,bh,eJ,decide_eq_false h,qi,if_pos rfl];exact raised _ _ hr rfl rfl
end
end TR
namespace Z
open PySem PySem.Spec L2 ZM
section
variable{b:Bool}
theorem NF:∀{xs:List D} {ps:List PyData},gT xs=some ps->ps.length=xs.length
 |[],ps,h=>by rw[gT]at h;cases h;rfl
 |x::xs,ps,h=>by
  rw[gT]at h;split at h
  .rename_i a b ea eb
   cases h;rw[List.length_cons,List.length_cons,NF eb]
  .cases h
end
section
variable{W:gY}{a:fK}
def t0(W:gY)(j:Nat):FS:=if j=0 then[(one W,1)]else[]
def t1(a:fK)(j:Nat):FS:=if j=1 then[(a,1)]else[]
end
section
variable{k:Nat}
theorem tri(g:Nat->Nat->Nat->Rat)(hk:k<=3):wa (λi=>wa (λh=>g h (i - h) (k - i)) (List.range (i+1))) (List.range (k+1))=wa (λi=>wa (λh=>g i h (k - i - h)) (List.range (k - i+1))) (List.range (k+1)):=by
 have bE:k=0\/k=1\/k=2\/k=3:=by omega
 have r1:List.range 1=[0]:=rfl;have r2:List.range 2=[0,1]:=rfl;have bU:List.range 3=[0,1,2]:=rfl;have cI:List.range 4=[0,1,2,3]:=rfl;rcases bE with rfl|rfl|rfl|rfl
 all_goals simp[r1,r2,bU,cI,wa,Rat.add_zero,Rat.add_assoc,Rat.add_comm,Rat.add_left_comm]
end
section
theorem d3:True:=trivial
theorem xR:True:=trivial
end
section
variable{W:gY}{P:nE}
def yh(W:gY)(P:nE)(a:fK):Nat->Nat×fK->Rat
 |0,x=>if x.2=a then P.ends.getD x.1 0 else 0
 |m+1,x=>wa (λq=>if q.1.1=x.1 then q.2 * yh W P a m (q.1.2.1,mul W x.2 q.1.2.2)else 0) P.yG
end
structure PW(W:gY)(P:nE):Prop where
 st:∀p∈P.starts,p.1.1<P.ends.length/\Bj W p.1.2
 rd:∀q∈P.yG,q.1.1<P.ends.length/\q.1.2.1<P.ends.length/\Bj W q.1.2.2
section
variable{W:gY}{P:nE}{e:Rat}
def aiu(W:gY)(e:Rat):Option fK->nE
 |none=>⟨[e],[((0,one W),1)],[]⟩
 |some a=>⟨[0,e],[((0,one W),1)],[((0,1,a),1)]⟩
variable{v:Option fK}
def aiv(W:gY)(e:Rat)(v:Option fK)(P:nE):nE:=ahZ P (aiu W e v)
end
section
variable{S:Store}{W:gY}{P:nE}{sl:aL}{f g:aM}
section
variable{u:D}
theorem aiw{c:cz}{g:aM}{b:Bool}(h:c sl S=.ok b S)(h1:b=true->f sl S=.ok u S)(h2:b=false->g sl S=.ok u S):eT c f g sl S=.ok u S:=by
 refine bO ?_;rw[Kf,h,bh];cases b with
 |true=>rw[if_pos rfl,h1 rfl,bh];exact⟨rfl,rfl⟩
 |false=>rw[if_neg (by simp),h2 rfl,bh];exact⟨rfl,rfl⟩
end
variable{e:Rat}{v:Option fK}
structure Lt(W:gY)(P Q:nE)(e:Rat)(v:Option fK):Prop where
 eq:Q=aiv W e v P
 cG:e≠0
 aq7:ZJ.jh 6 24 e
 sm:∀a,v=some a->Sm W 1 a
end
open PySem PySem.Spec L2 ZW
section
variable{ps:List (Nat×Nat)}{c x:Nat}{u v:List Nat}{f:List Nat->Int}
def Ws(v:List Nat):Prop:=∀c∈v,yf c=true
def bw(ps:List (Nat×Nat))(x:Nat)(v:List Nat):Option (List Nat):=if(put (q_ ps) v (inv x)).length<v.length then some (put (q_ ps) v (inv x))else none
def alt(ps:List (Nat×Nat))(x:Nat)(f:List Nat->Int):Nat->List Nat->Int
 |0,v=>f v
 |n+1,v=>f v - ((bw ps x v).elim 0 (alt ps x f n))
def oC(ps:List (Nat×Nat))(v:List Nat):Prop:=∀u x y,Ws u->P (q_ ps) T6 u->yf x=true->Ws y->v≠N (q_ ps) (put (q_ ps) (put (q_ ps) u x) x) y
end
abbrev Tab:=List (List Nat×Int)
def getT:Tab->List Nat->Int
 |[],_=>0
 |p::t,u=>if p.1=u then p.2 else getT t u
section
variable{u v:List Nat}{ps:List (Nat×Nat)}{x n:Nat}{neg:Bool}
def one?(u v:List Nat):Int:=if u=v then 1 else 0
def hh(ps:List (Nat×Nat))(neg:Bool)(x:Nat):Nat->List Nat->List Nat->Int
 |0,_,_=>0
 |n+1,u,v=>if neg=true then -(one? (putL ps u x) v+hh ps neg x n (putL ps u x) v)else one? (putL ps u x) v
end
section
variable{ps:List (Nat×Nat)}{x:Nat}{v:List Nat}
def l1(ps:List (Nat×Nat))(x:Nat)(v:List Nat):Option (List Nat):=if(N (q_ ps) [inv x] v.reverse).length<v.length then some (N (q_ ps) [inv x] v.reverse)else none
end
open ZM
section
theorem gr:True:=trivial
end
open ZM
def zs{Wt:Type}(f:Wt->Int):List Wt->Int
 |[]=>0
 |a::l=>f a+zs f l
open PySem PySem.Spec L2 ZM
section
theorem aq8.s7:True:=trivial
end
end Z
namespace ZSg
open PySem PySem.Spec L2 Z ZM
section
variable{u v:List Nat}{d c:Nat}{ps:List (Nat×Nat)}
def hF(ps:List (Nat×Nat))(c d:Nat)(v u:List Nat):Int:=hh ps (!yf c) (low c) (d - u.length) u v
end
section
theorem aq9.inv:True:=trivial
end
end ZSg
namespace ZRw
open Z ZM
abbrev NI:=Nat×fK
abbrev Ent:=List (NI×Rat)
def yi(l:Ent)(a:NI):Rat:=(ZJ.look l a).getD 0
abbrev aix(r:Rat):Nat:=r.num.toNat
abbrev aiy:=Ent×List (List Rat)
def nq(t:aiy)(a:NI):Nat:=aix ((ZJ.look t.1 a).getD (t.2.length:Rat))
section
theorem t0:True:=trivial
end
end ZRw
namespace Z
open PySem PySem.Spec L2 ZM ZRw
section
variable{i:Nat}
theorem Wu{α:Type}(f:α->D):∀(i:Nat) (l:List α),oh i (l.map f)=(l.zipIdx i).map λq=>.tup [oM q.2,f q.1]
 |_,[]=>rfl
 |i,x::l=>by
  rw[c1,oh,List.zipIdx_cons,c1,Wu f (i+1) l];rfl
end
end Z
namespace ZL2
open Z
abbrev Row:=List Rat
abbrev at_(r:Row)(c:Nat):Rat:=r.getD c 0
abbrev St:=List Row×List (Nat×Row)
end ZL2
set_option exponentiation.threshold 2000
namespace Z
open PySem PySem.Spec L2 ZM
instance ara:DecidableEq nE:=λP Q=>if h:P.ends=Q.ends/\P.starts=Q.starts/\P.yG=Q.yG then isTrue (by cases P;cases Q;simp_all)else isFalse λe=>h (by rw[e];exact⟨rfl,rfl,rfl⟩)
section
variable{S:Store}{b:Rat->Prop}{f:Rat->D}{P:af}{isr:aD}
theorem Wv{a:String}:∀{l:List String},inD (.str (Str.ofString a)) (l.map λx=>.str (Str.ofString x))=decide (a∈l)
 |[]=>by simp[inD]
 |x::l=>by
  have ih:=Wv (a:=a) (l:=l);unfold inD at ih ⊢;rw[c1,List.any_cons,ih];have:xm (.str (Str.ofString x)) (.str (Str.ofString a))=decide (x=a):=by
   show(Str.ofString x==Str.ofString a)=_;by_cases h:x=a
   .subst h;simp
   .have:¬Str.ofString x=Str.ofString a:=λe=>h (Tz.mp e)
    simp[h,this]
  rw[this];by_cases h:x=a
  .subst h;simp
  .have h2:¬a=x:=λe=>h e.symm
   simp[h,h2]
theorem fQ{a x y:String}:e' (.str (Str.ofString a)) (.tup [.str (Str.ofString x),.str (Str.ofString y)]) S=.ok (.bl (decide (a=x\/a=y))) S:=by
 rw[Sq (xs:=[x,y].map λx=>.str (Str.ofString x)) rfl rfl (by simp[n8]),Wv];simp
theorem yM{k:aG}{cs:List af}:a7 ((af.nd k cs).dat f) (.int 0) S=.ok (.str (Str.ofString k.word)) S:=by
 rw[af.ep];refine bO ?_;simp
theorem yN{x:D}{xs:List D}:h_ (x::xs) (some 1) none=xs:=abH (x::xs) 1
variable(aT:∀k r,bg k (f r)=true)
include aT
theorem Ww{n:Nat}{cs:List af}:bC n (cs.map (af.dat f))=true:=by
 rw[ku];intro d hd;obtain⟨c,hc,rfl⟩:=hL.mp hd;exact mz aT c n
theorem aiz(h:P.ok b):nH [P.dat f] S=.ok (.lst (P.cs.map (af.dat f))) S:=by
 obtain⟨k,cs⟩:=P;have hf:=(af.fg.mp h).1;refine bO ?_;unfold nH;refine eo rfl ?_;have hd:=yM (f:=f) (k:=k) (cs:=cs) (S:=S);rw[af.ep]at hd ⊢;have hH:bg S.length (.lst (cs.map (af.dat f)))=true:=Ww aT;have hl:cs.length<=1000:=by have:=aG.fit_le hf;omega
 show aV (lB [_] S) _;cases k with
 |go x =>
  have e:cs=[]:=e1.mp hf.1;subst e;simp[lB,hd,fQ,aG.word,aG.pay,af.cs];exact dI hH ⟨rfl,rfl⟩
 |stay =>
  have e:cs=[]:=e1.mp hf;subst e;simp[lB,hd,fQ,aG.word,aG.pay,af.cs];exact dI hH ⟨rfl,rfl⟩
 |none =>
  have e:cs=[]:=e1.mp hf;subst e;simp[lB,hd,fQ,aG.word,aG.pay,af.cs];exact dI hH ⟨rfl,rfl⟩
 |loop =>
  obtain⟨c,rfl⟩:=j_.mp hf;simp[lB,hd,fQ,aG.word,aG.pay,af.cs,Sj];exact dI hH ⟨rfl,rfl⟩
 |scale r =>
  obtain⟨c,rfl⟩:=j_.mp hf.1;simp[lB,hd,fQ,aG.word,aG.pay,af.cs,Sj];exact dI hH ⟨rfl,rfl⟩
 |seq =>
  simp[lB,hd,fQ,aG.word,aG.pay,af.cs,yN,ph];exact dI hH ⟨rfl,rfl⟩
 |alt =>
  simp[lB,hd,fQ,aG.word,aG.pay,af.cs,yN,ph];exact dI hH ⟨rfl,rfl⟩
theorem NK(h:P.ok b):nG [P.dat f] S=.ok (.lst (P.cs.map (af.dat f))) S:=by
 obtain⟨k,cs⟩:=P;have hf:=(af.fg.mp h).1;refine bO ?_;unfold nG;refine eo rfl ?_;have hd:=yM (f:=f) (k:=k) (cs:=cs) (S:=S);rw[af.ep]at hd ⊢;have hH:bg S.length (.lst (cs.map (af.dat f)))=true:=Ww aT;have hl:cs.length<=1000:=by have:=aG.fit_le hf;omega
 show aV (kL [_] S) _;cases k with
 |go x =>
  have e:cs=[]:=e1.mp hf.1;subst e;simp[kL,hd,fQ,aG.word,aG.pay,af.cs];exact dI hH ⟨rfl,rfl⟩
 |stay =>
  have e:cs=[]:=e1.mp hf;subst e;simp[kL,hd,fQ,aG.word,aG.pay,af.cs];exact dI hH ⟨rfl,rfl⟩
 |none =>
  have e:cs=[]:=e1.mp hf;subst e;simp[kL,hd,fQ,aG.word,aG.pay,af.cs];exact dI hH ⟨rfl,rfl⟩
 |loop =>
  obtain⟨c,rfl⟩:=j_.mp hf;simp[kL,hd,fQ,aG.word,aG.pay,af.cs];exact dI hH ⟨rfl,rfl⟩
 |scale r =>
  obtain⟨c,rfl⟩:=j_.mp hf.1;simp[kL,hd,fQ,aG.word,aG.pay,af.cs];exact dI hH ⟨rfl,rfl⟩
 |seq =>
  simp[kL,hd,fQ,aG.word,aG.pay,af.cs,yN,ph];exact dI hH ⟨rfl,rfl⟩
 |alt =>
  simp[kL,hd,fQ,aG.word,aG.pay,af.cs,yN,ph];exact dI hH ⟨rfl,rfl⟩
omit aT
theorem NM{x:List Nat}:e' (.str (ao x)) (.tup [.str (Str.ofString "stay"),.str (Str.ofString "none")]) S=.ok (.bl (decide (x=[115,116,97,121]\/x=[110,111,110,101]))) S:=by
 have au:Str.ofString "stay"=ao [115,116,97,121]:=rfl;have e2:Str.ofString "none"=ao [110,111,110,101]:=rfl;rw[au,e2,Sq (xs:=[.str (ao [115,116,97,121]),.str (ao [110,111,110,101])]) rfl rfl (by simp[n8])];have go:∀y:List Nat,xm (.str (ao y)) (.str (ao x))=decide (x=y):=λy=>by
  show(ao y==ao x)=_;by_cases h:x=y
  .subst h;simp
  .have h2:¬y=x:=λe=>h e.symm
   simp[h,h2]
 have:inD (.str (ao x)) [.str (ao [115,116,97,121]),.str (ao [110,111,110,101])]=decide (x=[115,116,97,121]\/x=[110,111,110,101]):=by
  unfold inD;simp only[List.any_cons,List.any_nil,go];simp
 rw[this]
theorem aiA{x:List Nat}(h:tJ x):yK [.str (ao x)] S=.ok (.bl true) S:=by
 refine bO ?_;unfold yK;refine eo rfl ?_;have h1:=h.pos;have h2:=h.le;have aI:=NM (S:=S) (x:=x);have bE:¬(x=[115,116,97,121]\/x=[110,111,110,101]):=λz=>z.elim h.ns h.nn;have e:c' (cK (ho (ae 0)) (aX 1) di (az e' (ae 1) (ah (.str "abcdefghijklmnopqrstuvwxyz"))) [1]) [some (.str (ao x)),none] S=.ok (.lst (x.map λ_=>.bl true)) S :=
  rA (l:=x) (row:=hV) (λ_=>.bl true) (sI (d:=.str (ao x)) (a0 (i:=0) rfl) (by simp[RX])) (by omega) (λacc=>by simp[RX]) (λc hc acc=>⟨_,rfl,d6 (a0 (i:=1) rfl) rfl (by
   rw[SG,Sn];simp[h.abc c hc])⟩) λc hc=>rfl
 show aV (wg [some (.str (ao x)),none] S) _;have bj:((x.length:Int)<=8):=by omega
 have fV:((1:Int)<=x.length):=by omega
 unfold wg;generalize c' (cK (ho (ae 0)) (aX 1) di (az e' (ae 1) (ah (.str "abcdefghijklmnopqrstuvwxyz"))) [1])=F at e ⊢;simp[aI,bE,bj,fV,e,Sv];omega
def wo(isr:aD)(b:Rat->Prop)(f:Rat->D):Prop:=∀r S,b r->isr [f r,.cls "Ratio"] S=.ok (.bl true) S
theorem aiB(hi:wo isr b f)(h:P.ok b):Nh isr [P.dat f] S=.ok (.bl true) S:=by
 obtain⟨k,cs⟩:=P;have hf:=(af.fg.mp h).1;refine bO ?_;unfold Nh;refine eo rfl ?_;have hd:=yM (f:=f) (k:=k) (cs:=cs) (S:=S);rw[af.ep]at hd ⊢;have hl:cs.length<=1000:=by have:=aG.fit_le hf;omega
 show aV (rG isr [_] S) _;cases k with
 |go x =>
  have e:cs=[]:=e1.mp hf.1;subst e;have hn:=aiA (S:=S) hf.2;simp[rG,hd,fQ,aG.word,aG.pay,af.cs,hn]
 |stay =>
  have e:cs=[]:=e1.mp hf;subst e;simp[rG,hd,fQ,aG.word,aG.pay,af.cs]
 |none =>
  have e:cs=[]:=e1.mp hf;subst e;simp[rG,hd,fQ,aG.word,aG.pay,af.cs]
 |loop =>
  obtain⟨c,rfl⟩:=j_.mp hf;simp[rG,hd,fQ,aG.word,aG.pay,af.cs]
 |scale r =>
  obtain⟨c,rfl⟩:=j_.mp hf.1;have hr:=hi r S hf.2;simp[rG,hd,fQ,aG.word,aG.pay,af.cs,hr]
 |seq =>
  have bj:((2:Int)<=cs.length):=by have:=hf.1;omega
  have fV:((cs.length:Int)<=6):=by have:=hf.2;omega
  simp[rG,hd,fQ,aG.word,aG.pay,af.cs,bj,fV];omega
 |alt =>
  have bj:((2:Int)<=cs.length):=by have:=hf.1;omega
  have fV:((cs.length:Int)<=6):=by have:=hf.2;omega
  simp[rG,hd,fQ,aG.word,aG.pay,af.cs,bj,fV];omega
end
section
variable{S:Store}{b:Rat->Prop}{f:Rat->D}
theorem aiC{n:Nat}{xs:List D}(h:S[n]?=some (.lst xs)):Gq (.ptr n) (.lst []) S=.ok (.bl (!decide (xs=[]))) S:=by
 have h1:cY S (.ptr n)=some xs:=by simp[cY,h]
 have aQ:eqO true ["Ratio"] [("Ratio",eL)] 12 (.ptr n) (.lst []) S=.ok (.bl (!decide (xs=[]))) S:=by
  unfold eqO;rw[h1];simp only[EG];cases xs with
  |nil=>rw[if_pos rfl,if_pos (by intro i x y e;simp at e)];rfl
  |cons x xs=>rw[if_neg (by simp)];simp
 have key:aU true (.ptr n) (.lst []) S=.bad\/aU true (.ptr n) (.lst []) S=.ok (.bl (!decide (xs=[]))) S:=by
  unfold aU;have e2:toP S (.lst [])=some (.list []):=rfl;rw[e2];have au:toP S (.ptr n)=(gT xs).map .list:=by
   show(match S[n]? with
    |some (.lst ds)=>(gT ds).map PyData.list
    |_=>none)=_
   rw[h]
  rw[au];cases q:gT xs with
  |none=>exact .inl rfl
  |some ps =>
   have hl:=NF q;simp only[rY];split
   .right
    have:PyData.eqv (.list ps) (.list [])=decide (xs=[]):=by
     cases ps with
     |nil =>
      cases xs with
      |nil=>rfl
      |cons x xs=>simp at hl
     |cons p ps =>
      cases xs with
      |nil=>simp at hl
      |cons x xs=>simp[PyData.eqv,PyData.eqvAll]
    rw[this];rfl
   .exact .inl rfl
 unfold Gq;rcases key with e|e
 .rw[gV e];exact aQ
 .rw[oy e]
def dM(f:Rat->D)(t:List (List Nat×af)):List D:=(t.map (d8 f)).reverse
theorem aiD:dM f []=[]:=rfl
theorem NP{p:List Nat×af}{t:List (List Nat×af)}:dM f (p::t)=dM f t++[d8 f p]:=by simp[dM]
theorem Wx{t u:List (List Nat×af)}:dM f (t++u)=dM f u++(t.map (d8 f)).reverse:=by simp[dM]
theorem aiE{n:Nat}{p:List Nat×af}{t:List (List Nat×af)}(h:S[n]?=some (.lst (dM f (p::t)))):qH (.ptr n) [] S=.ok (d8 f p) (S.set n (.lst (dM f t))):=by
 unfold qH;simp only[h];rw[NP];simp
theorem aiF{sl:aL}{fe:aM}{fr:cO}{d:D}{xs ds:List D}(h:fe sl S=.ok d S)(hs:Bg S d=some xs)(h2:fr sl S=.ok ds S):md fe fr sl S=.ok (xs++ds) S:=by
 unfold md;simp only[h,ov,hs,h2]
theorem GL(s:List Nat):∀(i:Nat) (cs:List af),iu s i cs=(cs.zipIdx i).map λq=>(s++[q.2],q.1)
 |i,[]=>rfl
 |i,c::cs=>by rw[iu,List.zipIdx_cons,c1,GL s (i+1) cs]
theorem Wy{sl:aL}{s:List Nat}{p:af}{i j k l:Nat}(aT:∀k r,bg k (f r)=true)(hp:p.ok b)(hs:s.length<=1000)(hi:sl[i]?=some (some (eD s)))(cm:sl[j]?=some (some (p.dat f)))(hk:k<sl.length)(hl:l<sl.length)(h1:i≠k)(h2:i≠l)(aI:k≠l) :
  c' (cK (qO (ag (aw nH (ag (ae j) ai)) ai)) (hP (cP (aX k) (cP (aX l) gA))) di (aw b2 (ag (aw b2 (md (ae i) (ag (ae k) ai))) (ag (ae l) ai))) [k,l]) sl S=.ok (.lst ((iu s 0 p.cs).map (d8 f))) S:=by
 have hc:p.cs.length<=6:=by
  obtain⟨bK,cs⟩:=p;exact aG.fit_le (af.fg.mp hp).1
 have hit:qO (ag (aw nH (ag (ae j) ai)) ai) sl S=.ok ((p.cs.zipIdx 0).map λq=>.tup [oM q.2,q.1.dat f],λS2=>d9 S2 (.lst (p.cs.map (af.dat f)))=some (p.cs.map (af.dat f))) S:=by
  rw[abz (d5 (bJ (a0 cm) b0) (aiz aT hp)) (qU _),Wu]
 rw[rA (l:=p.cs.zipIdx 0) (row:=λq=>.tup [oM q.2,q.1.dat f]) (λq=>d8 f (s++[q.2],q.1)) hit (by simp;omega) (λacc=>by simp) (λq hq acc=>?_) (λq hq=>Gu aT _ _),GL,mG]
 .rfl
 .refine⟨((cE sl [k,l]).set k (some (oM q.2))).set l (some (q.1.dat f)),?_,?_⟩
  .simp[hP,cP,gA,aX]
  .have jT:(((cE sl [k,l]).set k (some (oM q.2))).set l (some (q.1.dat f)))[i]?=some (some (eD s)):=by
    simp only[cE];rw[qd (jq h2),qd (jq h1),qd (jq h1),qd (jq h2)];exact hi
   have hK:(((cE sl [k,l]).set k (some (oM q.2))).set l (some (q.1.dat f)))[k]?=some (some (oM q.2)):=by
    simp only[cE];rw[qd (jq aI),mE (by simpa using hk)]
   have eK:(((cE sl [k,l]).set k (some (oM q.2))).set l (some (q.1.dat f)))[l]?=some (some (q.1.dat f)):=by
    simp only[cE];rw[mE (by simpa using hl)]
   have au:md (ae i) (ag (ae k) ai) (((cE sl [k,l]).set k (some (oM q.2))).set l (some (q.1.dat f))) (S++[.lst acc])=.ok ((s.map fun(i:Nat)=>D.int (i:Int))++[oM q.2]) (S++[.lst acc]):=by
    exact aiF (a0 jT) rfl (bJ (a0 hK) b0)
   have e2:eD (s++[q.2])=.tup ((s.map fun(i:Nat)=>D.int (i:Int))++[oM q.2]):=by
    unfold eD;rw[List.map_append];rfl
   unfold d8;rw[e2];exact ri (bJ (ri au (by simp;omega)) (bJ (a0 eK) b0)) (by simp)
end
section
variable{S:Store}{b:Rat->Prop}{f:Rat->D}{P:af}{isr:aD}
theorem Wz{sl:aL}{ty:Store->D->Bool}{g:n'}{fo:aM}{fs:cO}{d r:D}{ds:List D}{S1:Store}(h:fo sl S=.ok d S)(hd:fs sl S=.ok ds S)(ht:ty S d=true)(h2:g d ds S=.ok r S1):dR ty g fo fs sl S=.ok r S1:=by
 unfold dR;simp only[h,hd,ov];simp[ht,h2]
theorem WB{sl:aL}{i n:Nat}{xs:List D}(hi:sl[i]?=some (some (.ptr n)))(h:S[n]?=some (.lst xs)):aK (az Gq (ae i) (aw fL ai)) sl S=.ok (!decide (xs=[])) S:=by
 have:az Gq (ae i) (aw fL ai) sl S=.ok (.bl (!decide (xs=[]))) S:=d6 (a0 hi) (Fy b0 (by simp)) (aiC h);unfold aK;rw[this];rfl
theorem WC{sl a':aL}{S1 S2:Store}{Q:iQ}{fe:aM}{g:dz}{d:D}(h:fe sl S=.ok d S1)(hg:g d sl S1=.nx a' S2)(hq:Q.nx a' S2):aV (bX fe g sl S) Q:=by
 simp[h,hg,hq]
theorem Ca{sl:aL}{S1:Store}{Q:iQ}{fe:aM}{d:D}(h:fe sl S=.ok d S1)(hq:Q.nx sl S1):aV (jw fe sl S) Q:=by
 simp[h,hq]
theorem WD{sl:aL}{i n:Nat}{fe:aM}{xs ys:List D}(hi:sl[i]?=some (some (.ptr n)))(h:S[n]?=some (.lst xs))(he:fe sl S=.ok (.lst ys) S)(hl:xs.length+ys.length<=1000000):dR hS sy (ae i) (ag fe ai) sl S=.ok .non (S.set n (.lst (xs++ys))):=by
 refine Wz (a0 hi) (bJ he b0) (E2 h) ?_;unfold sy;simp only[h,EG];rw[if_pos hl]
theorem WG{sl:aL}{i n:Nat}{p:List Nat×af}{t:List (List Nat×af)}(hi:sl[i]?=some (some (.ptr n)))(h:S[n]?=some (.lst (dM f (p::t)))):dR hS qH (ae i) ai sl S=.ok (d8 f p) (S.set n (.lst (dM f t))) :=
 Wz (a0 hi) b0 (E2 h) (aiE h)
theorem WH{sl:aL}{fe:aM}{xs:List D}(h:fe sl S=.ok (.lst xs) S):vA false fe sl S=.ok (.lst xs.reverse) S:=by
 unfold vA;simp only[h,ov];rfl
theorem WK{t:List (List Nat×af)}:(dM f t).length=t.length:=by simp[dM]
theorem NQ(aT:∀k r,bg k (f r)=true)(hi:wo isr b f)(h:P.ok b)(hs:P.size<=40)(hd:P.dep<=8):B3 isr [P.dat f] S=.ok .non S:=by
 refine bO ?_;unfold B3;refine eo rfl ?_;show aV (Ni isr ([some (P.dat f)]++List.replicate 7 none) S) _;unfold Ni;refine jar (λsl S1=>S1=S++[.lst (dM f [([],P)])]/\sl=[some (P.dat f),some (.ptr S.length),some (.int 0),none,none,none,none,none]) ?_ ?_
 .simp
  rfl
 rintro sl S1 ⟨rfl,rfl⟩;refine Ay P.size (λk sl S1=>∃i dc dP fN dw gi,k+i=P.size/\S1=S++[.lst (dM f (f6 P i))]/\sl=[some (P.dat f),some (.ptr S.length),some (.int ((i:Nat):Int)),dc,dP,fN,dw,gi]) ⟨0,none,none,none,none,none,rfl,rfl,rfl⟩ (by omega) ?_;rintro k sl S1 ⟨i,dc,dP,fN,dw,gi,hk,rfl,rfl⟩;have hg:(S++[dk.lst (dM f (f6 P i))])[S.length]?=some (.lst (dM f (f6 P i))):=Ku rfl;rw[WB (i:=1) (n:=S.length) rfl hg,bh];have hlen:=af.wc [] P;by_cases c7:i<(af.pre [] P).length
 .obtain⟨r,fF⟩:=Nb c7
  generalize hp:(af.pre [] P)[i]=p at fF;obtain⟨s,p⟩:=p;have qR:(s,p)∈af.pre [] P:=by rw[<-hp];exact wQ _
  obtain⟨hok,AQ⟩:=af.Nf P [] h _ qR;have vU:=p.rD;simp only[mH,Nat.zero_add]at AQ;have mn:s.length<8:=by omega
  rw[fF]at hg ⊢;have dA:(dM f ((s,p)::r)=[])=False:=by rw[NP];simp
  simp only[dA,decide_false,qi,if_true];have aiG:r.length<=40:=by
   have:=V2 (P:=P) (i:=i);rw[fF]at this;simp at this;omega
  refine jar (λsl S2=>S2=S++[.lst (dM f r)]/\sl=[some (P.dat f),some (.ptr S.length),some (.int ((i:Nat):Int)),some (eD s),some (p.dat f),fN,dw,gi]) (WC (WG (i:=1) rfl hg) rfl ⟨sN rfl,rfl⟩) ?_;rintro sl S2 ⟨rfl,rfl⟩;refine jar (λsl S2=>S2=S++[.lst (dM f r)]/\sl=[some (P.dat f),some (.ptr S.length),some (.int ((i+1:Nat):Int)),some (eD s),some (p.dat f),fN,dw,gi]) ?_ ?_
  .simp
  rintro sl S2 ⟨rfl,rfl⟩;refine jar (λsl S2=>S2=S++[.lst (dM f r)]/\sl=[some (P.dat f),some (.ptr S.length),some (.int ((i+1:Nat):Int)),some (eD s),some (p.dat f),fN,dw,gi]) ?_ ?_
  .have au:¬((i:Int)+1>40):=by omega
   have e2:¬((s.length:Int)>=8):=by omega
   have bj:=aiB (S:=S++[.lst (dM f r)]) hi hok;simp[au,e2,bj,eD]
  rintro sl S2 ⟨rfl,rfl⟩;refine jar (λsl S2=>S2=S++[.lst (dM f r)]/\sl=[some (P.dat f),some (.ptr S.length),some (.int ((i+1:Nat):Int)),some (eD s),some (p.dat f),some (.lst ((iu s 0 p.cs).map (d8 f))),dw,gi]) (pN (Wy aT hok (by omega) (i:=3) (j:=4) rfl rfl (by simp) (by simp) (by omega) (by omega) (by omega)) ⟨rfl,rfl⟩) ?_;rintro sl S2 ⟨rfl,rfl⟩;have aiH:(iu s 0 p.cs).length<=6:=by
   rw[GL];obtain⟨bK,cs⟩:=p;simp;exact aG.fit_le (af.fg.mp hok).1
  refine Ca (WD (i:=1) (ys:=((iu s 0 p.cs).map (d8 f)).reverse) rfl (Ku rfl) (WH (a0 (i:=5) rfl)) (by rw[WK];simp;omega)) ⟨k - 1,by omega,i+1,some (eD s),some (p.dat f),_,dw,gi,by omega,?_,rfl⟩;rw[sN rfl,f6,fF];obtain⟨bK,cs⟩:=p;show _=S++[dk.lst (dM f (iu s 0 cs++r))]
  rw[Wx];rfl
 .rw[V1 (by omega)]
  simp[aiD];exact Ax (fG.refl S) rfl ⟨rfl,rfl⟩
def GN(f:Rat->D)(L:List (List Nat×af)):Nat->Option D
 |0=>none
 |j+1=>(L[j]?).map λp=>.lst ((iu p.1 0 p.2.cs).map (d8 f))
def wq(f:Rat->D)(P:af)(h:Nat)(i:Nat):aL:=[some (P.dat f),some (.ptr h),((af.pre [] P)[i]?).map λp=>eD p.1,((af.pre [] P)[i]?).map λp=>p.2.dat f,GN f (af.pre [] P) i,none,none]
def wt(f:Rat->D)(P:af)(h:Nat):Nat->aL
 |0=>[some (P.dat f),some (.ptr h),none,none,none,none,none]
 |i+1=>[some (P.dat f),some (.ptr h),((af.pre [] P)[i]?).map λp=>eD p.1,((af.pre [] P)[i]?).map λp=>p.2.dat f,GN f (af.pre [] P) (i+1),none,none]
def tP(f:Rat->D)(P:af)(i:Nat):List D:=dM f (f6 P i).tail
def GO(f:Rat->D)(P:af)(h:Nat):ZG.rz where
 ds:=(af.pre [] P).map (d8 f)
 fin:=.done
 slA:=wt f P h
 slY:=wq f P h
 sl0:=[some (P.dat f)]++List.replicate 6 none
 d7:=ZG.nB h (tP f P)
 U:=ZG.gZ h (tP f P)
theorem WL{h j:Nat}(cm:j<=(af.pre [] P).length)(hg:S[h]?=some (.lst (dM f (f6 P j)))):ZG.mr (Gx isr) (Nk isr) (Nm isr) ((af.pre [] P).map (d8 f)) (wt f P h) (wq f P h) j S (S.set h (.lst (tP f P j))):=by
 have aiI:∃x2 dc dP,wt f P h j=[some (P.dat f),some (.ptr h),x2,dc,dP,none,none]/\dP=GN f (af.pre [] P) j:=by
  cases j with
  |zero=>exact⟨_,_,_,rfl,rfl⟩
  |succ i=>exact⟨_,_,_,rfl,rfl⟩
 obtain⟨x2,dc,dP,GP,fV⟩:=aiI;have eG:Gx isr (wt f P h j) S=.ok (!decide (dM f (f6 P j)=[])) S:=by
  rw[GP];exact WB (i:=1) rfl hg
 unfold ZG.mr;by_cases c7:j<(af.pre [] P).length
 .rw[dif_pos (by simpa using c7)]
  obtain⟨r,fF⟩:=Nb c7;have lR:(af.pre [] P)[j]?=some (af.pre [] P)[j]:=iz c7;have kF:wq f P h j=[some (P.dat f),some (.ptr h),some (eD (af.pre [] P)[j].1),some ((af.pre [] P)[j].2.dat f),dP,none,none]:=by
   unfold wq;rw[lR,fV];rfl
  refine⟨?_,?_,?_⟩
  .rw[eG,fF]
   have:(dM f ((af.pre [] P)[j]::r)=[])=False:=by rw[NP];simp
   simp only[this,decide_false,qi]
  .rw[GP,kF]
   rw[fF]at hg;refine M_ ?_;refine WC (WG (i:=1) rfl hg) rfl ⟨rfl,?_⟩;unfold tP;rw[fF];rfl
  .rw[kF,List.getElem_map]
   exact ri (bJ (a0 (i:=2) rfl) (bJ (a0 (i:=3) rfl) b0)) (by simp)
 .rw[dif_neg (by simpa using c7)]
  have e:=V1 (P:=P) (i:=j) (by omega);rw[e]at hg;refine⟨by rw[eG,e];rfl,?_⟩;unfold tP;rw[e];obtain⟨hn,e2⟩:=List.getElem?_eq_some_iff.mp hg;show S.set h (.lst (dM f []))=S;rw[<-e2,y3]
theorem aiJ{h:Nat}(aT:∀k r,bg k (f r)=true)(hi:wo isr b f)(bu:P.ok b)(hs:P.size<=40)(hd:P.dep<=8):ZG.nC 1 7 h (Nj isr) (Gx isr) (Nk isr) (Nm isr) (Gy isr) [P.dat f] (GO f P h) (tP f P) where
 len:=rfl
 sl0:=rfl
 fin:=rfl
 F':=rfl
 u:=rfl
 st:=λS ⟨_,hl,_⟩=>by
  have hl:=hl rfl;refine⟨S++[.lst (dM f (f6 P 0))],?_,?_⟩
  .refine M_ ?_
   unfold Nj;show aV (aO _ _ ([some (P.dat f)]++List.replicate 6 none) S) _;refine jar (λsl S1=>sl=[some (P.dat f)]++List.replicate 6 none/\S1=S) (Ca (d5 (bJ (a0 (i:=0) rfl) b0) (NQ aT hi bu hs hd)) ⟨rfl,rfl⟩) ?_;rintro sl S1 ⟨rfl,rfl⟩;rw[<-hl];simp[GO,wt,f6];rfl
  .have:=WL (S:=S++[.lst (dM f (f6 P 0))]) (isr:=isr) (P:=P) (f:=f) (h:=h) (j:=0) (hJ _) (Ku hl)
   rw[sN hl]at this;show ZG.mr _ _ _ _ _ _ 0 _ (if 0=0 then _ else _);rw[if_pos rfl];exact this
 lp:=⟨λi vI S ⟨hc,_,hq⟩=>by
  have hq:=hq (by omega);have c7:i<(af.pre [] P).length:=by simpa[GO]using vI
  obtain⟨r,fF⟩:=Nb c7;have qJ:(af.pre [] P)[i]?=some (af.pre [] P)[i]:=iz c7;generalize hp:(af.pre [] P)[i]=p at fF qJ;obtain⟨s,p⟩:=p;have qR:(s,p)∈af.pre [] P:=by rw[<-hp];exact wQ _
  obtain⟨hok,AQ⟩:=af.Nf P [] bu _ qR;have vU:=p.rD;simp only[mH,Nat.zero_add]at AQ;have hh:h<S.length:=(List.getElem?_eq_some_iff.mp hq).1;have hq:S[h]?=some (.lst (dM f r)):=by
   rw[hq];show some (dk.lst (dM f (f6 P (i+1 - 1)).tail))=_;rw[Nat.add_sub_cancel,fF];rfl
  have aiG:r.length<=40:=by
   have:=V2 (P:=P) (i:=i);rw[fF]at this;simp at this;omega
  have aiH:(iu s 0 p.cs).length<=6:=by
   rw[GL];obtain⟨bK,cs⟩:=p;simp;exact aG.fit_le (af.fg.mp hok).1
  have et:dM f (f6 P (i+1))=dM f r++((iu s 0 p.cs).map (d8 f)).reverse:=by
   rw[f6,fF];obtain⟨bK,cs⟩:=p;show dM f (iu s 0 cs++r)=_;rw[Wx];rfl
  refine⟨S.set h (.lst (dM f (f6 P (i+1)))),?_,?_⟩
  .refine M_ ?_
   have aiK:wq f P h i=[some (P.dat f),some (.ptr h),some (eD s),some (p.dat f),GN f (af.pre [] P) i,none,none]:=by
    unfold wq;rw[qJ];rfl
   have GP:wt f P h (i+1)=[some (P.dat f),some (.ptr h),some (eD s),some (p.dat f),some (.lst ((iu s 0 p.cs).map (d8 f))),none,none]:=by
    show[some (P.dat f),some (.ptr h),((af.pre [] P)[i]?).map λp=>eD p.1,((af.pre [] P)[i]?).map λp=>p.2.dat f,((af.pre [] P)[i]?).map λp=>.lst ((iu p.1 0 p.2.cs).map (d8 f)),none,none]=_;rw[qJ];rfl
   show aV (Gy isr (wq f P h i) S) _;show aV _ ⟨λd1 ak=>d1=wt f P h (i+1)/\_,_,_,_,_⟩;rw[aiK,GP];unfold Gy;refine jar (λsl S2=>S2=S/\sl=[some (P.dat f),some (.ptr h),some (eD s),some (p.dat f),some (.lst ((iu s 0 p.cs).map (d8 f))),none,none]) (pN (Wy aT hok (by omega) (i:=2) (j:=3) rfl rfl (by simp) (by simp) (by omega) (by omega) (by omega)) ⟨rfl,rfl⟩) ?_;rintro sl S2 ⟨rfl,rfl⟩;refine Ca (WD (i:=1) (ys:=((iu s 0 p.cs).map (d8 f)).reverse) rfl hq (WH (a0 (i:=4) rfl)) (by rw[WK];simp;omega)) ⟨rfl,?_⟩;rw[et]
  .have:=WL (S:=S.set h (.lst (dM f (f6 P (i+1))))) (isr:=isr) (P:=P) (f:=f) (h:=h) (j:=i+1) c7 (mE hh)
   rw[r3]at this;show ZG.mr _ _ _ _ _ _ (i+1) _ (if i+1=0 then _ else _);rw[if_neg (by omega)];exact this⟩
 cl:=λi _=>by
  rw[ku];intro d hd;obtain⟨p,_,rfl⟩:=hL.mp (List.mem_reverse.mp hd);exact Gu aT p 0
end
def cU(x:List Nat):D:=.str (ao x)
def aiL(acc:List (List Nat))(p:List Nat×af):List (List Nat):=match p.2 with
 | .nd (.go x) _=>if x∈acc then acc else acc++[x]
 |_=>acc
def af.names(P:af):List (List Nat):=(af.pre [] P).foldl aiL []
section
variable{S S1:Store}{b:Rat->Prop}{f:Rat->D}{P:af}{isr:aD}
structure WM(isr:aD)(b:Rat->Prop)(f:Rat->D)(P:af):Prop where
 aT:∀k r,bg k (f r)=true
 hi:wo isr b f
 ok:P.ok b
 sz:P.size<=40
 dp:P.dep<=8
theorem Cd{off:Nat}{fa:cO}{sl:aL}(A:WM isr b f P)(h:fa sl S=.ok [P.dat f] S1):∃qs',Nn isr off fa sl S=.ok ((af.pre [] P).map (d8 f),.done,ZG.nB (S1.length+off) qs',ZG.gZ (S1.length+off) qs') S1/\∀j,j<=(af.pre [] P).length->qs' j=tP f P j:=by
 obtain⟨hE,qs',au,e2,bj,fV,e5,LC⟩:=ZG.ag8 (aiJ (h:=S1.length+off) A.aT A.hi A.ok A.sz A.dp);refine⟨qs',?_,λj cm=>LC j (by simpa[GO]using cm)⟩;unfold Nn ZG.vZ V5;rw[h];simp only[ov];rw[if_pos (show[P.dat f].length=1 from rfl),show[P.dat f]++([]:List D)=[P.dat f]from rfl,au];show Out.ok (hE.ds,hE.fin,hE.d7,hE.U) S1=_;rw[e2,bj,fV,e5];rfl
theorem aiM{S1 T:Store}{acc:List D}(h:bC S1.length acc=true):cR (d2 (S1++.lst acc::T) S1.length 6) (.ptr S1.length)=some (.lst acc):=by
 rw[cR,d2,if_neg (kZ _)];rw[List.getElem?_append_right (Nat.le_refl _)];simp only[Nat.sub_self,HL];rw[J7 h];rfl
theorem aiN{sl:aL}{fe:aM}{acc:List D}{T:Store}(h:fe sl S=.ok (.ptr S.length) (S++.lst acc::T))(aT:bC S.length acc=true):c' fe sl S=.ok (.lst acc) S:=by
 refine bO ?_;rw[xO,h,bh];exact Aw (fG.refl S) (aiM aT) (by simp)
def oR(S:Store)(acc:List D)(i:Nat)(aZ:Nat->List D):Store:=match i with
 |0=>S++[.lst acc]
 |i+1=>S++[.lst acc,.lst (aZ i)]
theorem aiO{acc q:List D}(h:ZG.ru S)(ha:bC 0 acc=true)(hq:bC 0 q=true):ZG.ru (S++[.lst acc,.lst q]):=λm hm=>by
 rcases mD.mp hm with z|z
 .exact VW (by simp) m (h m z)
 .simp only[List.mem_cons,j9,or_false]at z
  rcases z with rfl|rfl
  .exact hA (hJ _) _ ha
  .exact hA (hJ _) _ hq
theorem aiP{acc:List D}(h:ZG.ru S)(ha:bC 0 acc=true):ZG.ru (S++[.lst acc]):=λm hm=>by
 rcases mD.mp hm with z|z
 .exact VW (by simp) m (h m z)
 .rw[rV.mp z]
  exact hA (hJ _) _ ha
theorem WN{acc:List D}{i:Nat}{aZ:Nat->List D}(h:ZG.ru S)(ha:bC 0 acc=true)(hq:∀j,j<i->bC 0 (aZ j)=true):ZG.nB (S.length+1) aZ i (oR S acc i aZ):=by
 cases i with
 |zero=>exact⟨aiP h ha,λ_=>by simp[oR],λz=>absurd z (kZ _)⟩
 |succ i=>exact⟨aiO h ha (hq i (qe i)),λz=>by omega,λ_=>by simp[oR]⟩
theorem WO{acc:List D}{i:Nat}{aZ:Nat->List D}:ZG.gZ (S.length+1) aZ i (oR S acc i aZ)=S++[.lst acc,.lst (aZ i)]:=by
 cases i with
 |zero=>simp[ZG.gZ,oR]
 |succ i=>simp[ZG.gZ,oR]
section
variable{α:Type}{row:α->D}{aZ:Nat->List D}{g:dz}{bt:cz}{fe:aM}{own:List Nat}{sl sl0:aL}{ge:ZG.vV}
theorem NR(p:α->Bool)(bY:α->D)(g_:ZG.ru S)(aT:∀a,p a=true->bg 0 (bY a)=true):∀(l:List α) (i:Nat) (acc:List D),(∀j,j<=i+l.length->bC 0 (aZ j)=true)->acc.length+l.length<=1000000->bC 0 acc=true ->
  (∀a∈l,∀T,∃a',g (row a) sl0 T=.nx a' T/\bt a' T=.ok (p a) T/\(p a=true->fe a' T=.ok (bY a) T)) ->
  ∃T,ZG.kJ (ZG.nB (S.length+1) aZ) (ZG.gZ (S.length+1) aZ) .done g bt fe S.length sl0 i (l.map row) (oR S acc i aZ)=.ok () (S++.lst (acc++(l.filter p).map bY)::T)
 |[],i,acc,hq,_,ha,_=>by
  refine⟨[.lst (aZ i)],?_⟩;show ZG.kJ _ _ _ g bt fe _ sl0 i [] _=_;rw[ZG.kJ,if_pos (WN g_ ha λj cm=>hq j (by omega))];show Out.ok () (ZG.gZ _ _ _ _)=_;rw[WO];simp
 |a::l,i,acc,hq,hl,ha,h=>by
  obtain⟨a',au,e2,bj⟩:=h a (by simp) (S++[.lst acc,.lst (aZ i)]);have c7:acc.length<1000000:=by simp at hl;omega
  show ∃T,ZG.kJ _ _ _ g bt fe _ sl0 i (row a::l.map row) _=_;rw[ZG.kJ,if_pos (WN g_ ha λj cm=>hq j (by omega)),WO,au];dsimp only;rw[e2];cases hp:p a with
  |true =>
   have zM:bC 0 (acc++[bY a])=true:=by
    rw[R_,ha,EC,aT a hp];rfl
   obtain⟨T,NS⟩:=NR p bY g_ aT l (i+1) (acc++[bY a]) (λj cm=>hq j (by simp;omega)) (by simp at hl ⊢;omega) zM λb hb=>h b (by simp[hb]);refine⟨T,?_⟩;dsimp only;rw[bj hp];dsimp only;rw[show(S++[dk.lst acc,.lst (aZ i)])[S.length]?=some (.lst acc)by simp];dsimp only;rw[if_pos c7,show(S++[dk.lst acc,.lst (aZ i)]).set S.length (.lst (acc++[bY a]))=oR S (acc++[bY a]) (i+1) aZ by simp[oR],NS];simp[hp]
  |false =>
   obtain⟨T,NS⟩:=NR p bY g_ aT l (i+1) acc (λj cm=>hq j (by simp;omega)) (by simp at hl ⊢;omega) ha λb hb=>h b (by simp[hb]);refine⟨T,?_⟩;dsimp only;rw[show S++[dk.lst acc,.lst (aZ i)]=oR S acc (i+1) aZ from rfl,NS];simp[hp]
theorem aiQ{l:List α}(p:α->Bool)(bY:α->D)(V_:ge sl S=.ok (l.map row,.done,ZG.nB (S.length+1) aZ,ZG.gZ (S.length+1) aZ) S)(g_:ZG.ru S)(hq:∀j,j<=l.length->bC 0 (aZ j)=true)(hl:l.length<=1000000)(aT:∀a,p a=true->bg 0 (bY a)=true)
  (step:∀a∈l,∀T,∃a',g (row a) (cE sl own) T=.nx a' T/\bt a' T=.ok (p a) T/\(p a=true->fe a' T=.ok (bY a) T)):c' (ZG.yB ge g bt fe own) sl S=.ok (.lst ((l.filter p).map bY)) S:=by
 obtain⟨T,e⟩:=NR (sl0:=cE sl own) (g:=g) (bt:=bt) (fe:=fe) (row:=row) p bY g_ aT l 0 [] (λj cm=>hq j (by omega)) (by simpa using hl) rfl step;refine aiN (T:=T) ?_ ?_
 .unfold ZG.yB
  rw[V_];simp only[ov];rw[show S++[dk.lst []]=oR S [] 0 aZ from rfl,e];simp
 .rw[ku]
  intro d hd;obtain⟨x,hx,rfl⟩:=hL.mp hd;exact R' (aT x (List.mem_filter.mp hx).2)
end
theorem aiR(aT:∀k r,bg k (f r)=true){i:Nat}:bC 0 (tP f P i)=true:=by
 rw[ku];intro d hd;obtain⟨p,_,rfl⟩:=hL.mp (List.mem_reverse.mp hd);exact Gu aT p 0
end
section
theorem aiS{l:List (List Nat)}{n:Nat}:bC n (l.map cU)=true:=by
 rw[ku];intro d hd;obtain⟨x,_,rfl⟩:=hL.mp hd;rfl
end
section
variable{S S1:Store}{b:Rat->Prop}{f:Rat->D}{P:af}
theorem tQ:∀(k:Nat) (r:Rat),bg k (cg r)=true:=λk r=>TV
theorem p5:∀(k:Nat) (r:Rat),bg k (aN r)=true:=λk r=>Lb
theorem aiT{xs:List D}:cX (aU false) s9 (.tup xs) (.tup []) S=.ok (.bl (decide (xs=[]))) S:=by
 have aQ:s9 (.tup xs) (.tup []) S=.ok (.bl (decide (xs=[]))) S:=rfl;have key:aU false (.tup xs) (.tup []) S=.bad\/aU false (.tup xs) (.tup []) S=.ok (.bl (decide (xs=[]))) S:=by
  unfold aU;have e2:toP S (.tup [])=some (.tuple []):=rfl;rw[e2];have au:toP S (.tup xs)=(gT xs).map .tuple:=rfl;rw[au];cases q:gT xs with
  |none=>exact .inl rfl
  |some ps =>
   have hl:=NF q;simp only[rY];split
   .right
    have:PyData.eqv (.tuple ps) (.tuple [])=decide (xs=[]):=by
     cases ps with
     |nil =>
      cases xs with
      |nil=>rfl
      |cons x xs=>simp at hl
     |cons p ps =>
      cases xs with
      |nil=>simp at hl
      |cons x xs=>simp[PyData.eqv,PyData.eqvAll]
    rw[this];rfl
   .exact .inl rfl
 rcases key with e|e
 .rw[gV e];exact aQ
 .rw[oy e]
theorem WQ{x:D}{xs:List D}(h:xs≠[])(hl:xs.length<=1000):b7 (.tup [x]) (.tup xs) S=.ok (.tup (x::xs)) S:=by
 have e:b7 (.tup [x]) (.tup xs) S=zY (.tup [x]) (.tup xs) S:=gV (by rfl);rw[e];unfold zY;simp only;rw[if_pos ⟨by simp,h,by simp;omega⟩];rfl
theorem aiU{L:Nat}(hb:∀r,b r->pV L r)(eK:L<=1000):∀(P:af) (k:Nat),P.ok b->P.dep<=k->∀S,tM k [P.dat cg] S=.ok (P.dat aN) S:=by
 refine af.ind λbK cs ih k h hk S=>?_;cases k with
 |zero=>have:=(af.nd bK cs).rD;omega
 |succ k =>
  have hf:=(af.fg.mp h).1;have ja:=(af.fg.mp h).2;have kO:=aG.fit_le hf;have fY:c' (cK (ho (aw nG (ag (ae 0) ai))) (aX 2) di (aw (tM k) (ag (ae 2) ai)) [2]) [some ((af.nd bK cs).dat cg),none,none] S=.ok (.lst (cs.map (af.dat aN))) S :=
   rA (l:=cs) (row:=af.dat cg) (af.dat aN) (sI (d5 (bJ (a0 (i:=0) rfl) b0) (NK tQ h)) (qU _)) (by omega) (λacc=>qU _) (λc hc acc=>⟨[some ((af.nd bK cs).dat cg),none,some (c.dat cg)],rfl,d5 (bJ (a0 (i:=2) rfl) b0) (ih c hc k (ja c hc) (by have:=af.tK (k:=bK) hc;omega) _)⟩) λc hc=>mz p5 c _
  have et:aw z1 (ag (c' (cK (ho (aw nG (ag (ae 0) ai))) (aX 2) di (aw (tM k) (ag (ae 2) ai)) [2])) ai) [some ((af.nd bK cs).dat cg),none,none] S=.ok (.tup (cs.map (af.dat aN))) S:=d5 (bJ fY b0) abO;refine bO ?_;rw[tM];refine eo rfl ?_;show aV (rF _ ([some ((af.nd bK cs).dat cg)]++List.replicate 2 none) S) _;unfold rF;refine jar (λsl S1=>S1=S/\sl=[some ((af.nd bK cs).dat cg),some (.tup (cs.map (af.dat aN))),none]) (pN et ⟨rfl,rfl⟩) ?_;rintro sl S1 ⟨rfl,rfl⟩;have hd:=yM (f:=cg) (k:=bK) (cs:=cs) (S:=S1);have ht:=aiT (S:=S1) (xs:=cs.map (af.dat aN));have hH:bg S1.length ((af.nd bK cs).dat aN)=true:=mz p5 _ _;have dA:bK.fit b cs.length->(∀x,bK≠.go x)->bK≠.stay->bK≠.none->cs.map (af.dat aN)≠[]:=λh1 h2 aI bE e=>by
   have e:cs=[]:=List.map_eq_nil_iff.mp e;subst e;cases bK<;>simp[aG.fit]at h1 h2 aI bE
  rw[af.ep]at hd hH ⊢;cases bK with
  |scale r =>
   obtain⟨c,rfl⟩:=j_.mp hf.1;have hr:=ahc (S:=S1) (hb r hf.2) eK;simp[hd,aG.word,aG.pay,hr];refine dI ?_ ⟨?_,rfl⟩
   .simpa[aG.word,aG.pay]using hH
   .rw[af.ep];rfl
  |go x =>
   have e:cs=[]:=e1.mp hf.1;subst e;have ht:cX (aU false) s9 (.tup []) (.tup []) S1=.ok (.bl true) S1:=ht;simp[hd,aG.word,aG.pay,ht];refine dI ?_ ⟨?_,rfl⟩
   .simpa[aG.word,aG.pay]using hH
   .rw[af.ep];rfl
  |stay =>
   have e:cs=[]:=e1.mp hf;subst e;have ht:cX (aU false) s9 (.tup []) (.tup []) S1=.ok (.bl true) S1:=ht;simp[hd,aG.word,aG.pay,ht];refine dI ?_ ⟨?_,rfl⟩
   .simpa[aG.word,aG.pay]using hH
   .rw[af.ep];rfl
  |none =>
   have e:cs=[]:=e1.mp hf;subst e;have ht:cX (aU false) s9 (.tup []) (.tup []) S1=.ok (.bl true) S1:=ht;simp[hd,aG.word,aG.pay,ht];refine dI ?_ ⟨?_,rfl⟩
   .simpa[aG.word,aG.pay]using hH
   .rw[af.ep];rfl
  |_ =>
   have hn:=dA hf (by simp) (by simp) (by simp);rw[decide_eq_false hn]at ht;have ha:∀x:D,b7 (.tup [x]) (.tup (cs.map (af.dat aN))) S1=.ok (.tup (x::cs.map (af.dat aN))) S1:=λx=>WQ hn (by simp;omega);simp[hd,aG.word,aG.pay,ht,ha];refine dI ?_ ⟨?_,rfl⟩
   .simpa[aG.word,aG.pay]using hH
   .rw[af.ep];rfl
theorem af.Ce{k:aG}{cs:List af}{c:af}(hc:c∈cs):c.size+1<=(af.nd k cs).size:=by
 rw[af.size.eq_def (af.nd k cs)];simp only
 induction cs with
 |nil=>cases hc
 |cons d cs ih =>
  rw[af.sizes];rcases g6.mp hc with rfl|hc
  .omega
  .have:=ih hc;omega
theorem af.aiV{k:aG}{cs:List af}{n:Nat}:af.sizes (cs.take n)+1<=(af.nd k cs).size:=by
 rw[af.size]
 induction cs generalizing n with
 |nil=>simp
 |cons d cs ih =>
  cases n with
  |zero=>rw[List.take_zero,af.sizes];omega
  |succ n =>
   rw[List.take_succ_cons,af.sizes,af.sizes];have:=ih (n:=n);omega
theorem WR(s:List Nat):∀(i:Nat) (a c:List af),af.gN s i (a++c)=af.gN s i a++af.gN s (i+a.length) c
 |i,[],c=>by rw[show af.gN s i []=[]by rw[af.gN]];simp
 |i,x::a,c=>by
  rw[List.cons_append,af.gN,af.gN,WR s (i+1) a c,wW,List.length_cons,show i+1+a.length=i+(a.length+1)by omega]
theorem aiW{n i:Nat}{p q:List Nat}(h:List.range n=p++i::q):i=p.length/\i<n:=by
 have h2:=congrArg List.length h;simp at h2;have h1:(List.range n)[p.length]?=(p++i::q)[p.length]?:=by rw[h]
 rw[List.getElem?_range (by omega),List.getElem?_append_right (Nat.le_refl _),Nat.sub_self]at h1;simp at h1;omega
theorem aiX{xs ys:List D}(h:xs.length+ys.length<=1000000):rn (.lst xs) (.lst ys) S=.ok (.lst (xs++ys)) S:=by
 have e:rn (.lst xs) (.lst ys) S=cX qA yq (.lst xs) (.lst ys) S:=by
  unfold rn;rw[gV (by rfl),gV (by rfl)]
 have e2:qA (.lst xs) (.lst ys) S=.ok (.lst (xs++ys)) S:=by
  unfold qA;simp only[EG];rw[if_pos h]
 rw[e,oy e2]
theorem aiY{xs ys:List D}(h:xs.length+ys.length<=1000000):rn (.tup xs) (.tup ys) S=.ok (.tup (xs++ys)) S:=by
 have e:rn (.tup xs) (.tup ys) S=yq (.tup xs) (.tup ys) S:=by
  unfold rn;rw[gV (by rfl),gV (by rfl),gV (by rfl)]
 rw[e];unfold yq;simp only;rw[if_pos h]
theorem aiZ(aT:∀k r,bg k (f r)=true):∀(P:af) (k:Nat) (s:List Nat),P.ok b->P.dep<=k->P.size<=1000->s.length+P.dep<=1000->∀S,yJ k [P.dat f,eD s] S=.ok (.lst ((af.pre s P).map (d8 f))) S:=by
 refine af.ind λbK cs ih k s h hk e7 hs S=>?_;cases k with
 |zero=>have:=(af.nd bK cs).rD;omega
 |succ k =>
  have hf:=(af.fg.mp h).1;have ja:=(af.fg.mp h).2;have kO:=aG.fit_le hf;have ai0:=NK aT h (S:=S);refine bO ?_;rw[yJ];refine eo rfl ?_;show aV (tL _ ([some ((af.nd bK cs).dat f),some (eD s)]++List.replicate 3 none) S) _;unfold tL;refine jar (λsl S1=>S1=S/\sl=[some ((af.nd bK cs).dat f),some (eD s),some (.lst [d8 f (s,.nd bK cs)]),some (.lst (cs.map (af.dat f))),none]) ?_ ?_
  .simp[ai0]
   exact⟨rfl,rfl⟩
  rintro sl S1 ⟨rfl,rfl⟩;refine jar (λsl S2=>S2=S1/\∃dP,sl=[some ((af.nd bK cs).dat f),some (eD s),some (.lst ((af.pre s (.nd bK cs)).map (d8 f))),some (.lst (cs.map (af.dat f))),dP]) ?_ ?_
  .have hit:=Kn (sl:=[some ((af.nd bK cs).dat f),some (eD s),some (.lst [d8 f (s,.nd bK cs)]),some (.lst (cs.map (af.dat f))),none]) (S:=S1) (S1:=S1) (f:=aw cM (ag (ae 3) ai)) (j:=(cs.length:Int)) (bO (by simp)) (by omega) (by omega)
   rw[Int.toNat_natCast]at hit;refine VD (l:=List.range cs.length) (row:=fun(i:Nat)=>.int (0+(i:Int))) hit (λp sl S2=>S2=S1/\∃dP,sl=[some ((af.nd bK cs).dat f),some (eD s),some (.lst (d8 f (s,.nd bK cs)::(af.gN s 0 (cs.take p.length)).map (d8 f))),some (.lst (cs.map (af.dat f))),dP]) ⟨rfl,none,by rw[mH,List.take_zero,af.gN];rfl⟩ ?_ ?_
   .rintro p i post sl S2 he ⟨rfl,dP,rfl⟩
    obtain⟨rfl,hi⟩:=aiW he;refine⟨trivial,?_⟩;show aV (SO.nx [some ((af.nd bK cs).dat f),some (eD s),some (.lst (d8 f (s,.nd bK cs)::(af.gN s 0 (cs.take p.length)).map (d8 f))),some (.lst (cs.map (af.dat f))),some (.int (0+(p.length:Int)))] S2) _;rw[la];have hc:cs[p.length]∈cs:=wQ _;have vU:=af.tK (k:=bK) hc;have arb:=af.Ce (k:=bK) hc;have p6:=ih _ hc k (s++[p.length]) (ja _ hc) (by omega) (by omega) (by rw[List.length_append,List.length_singleton];omega) S2;have bj:List.take (p.length+1) cs=cs.take p.length++[cs[p.length]]:=by rw[List.take_succ_eq_append_getElem hi]
    have eQ:(af.gN s 0 (cs.take p.length)).length<=1000:=by
     rw[af.Nc];have:=af.aiV (k:=bK) (n:=p.length) (cs:=cs);omega
    have arc:(af.pre (s++[p.length]) cs[p.length]).length<=1000:=by rw[af.wc];omega
    refine pN (d:=.lst ((d8 f (s,.nd bK cs)::(af.gN s 0 (cs.take p.length)).map (d8 f))++(af.pre (s++[p.length]) cs[p.length]).map (d8 f))) ?_ ⟨rfl,some (.int (0+(p.length:Int))),?_⟩
    .refine d6 (a0 (i:=2) rfl) (d5 (bJ (S1:=S2) (d:=cs[p.length].dat f) ?_ (bJ (S1:=S2) (d:=eD (s++[p.length])) ?_ b0)) p6) (aiX (by simp;omega))
     .refine d6 (a0 (i:=3) rfl) (a0 (i:=4) rfl) ?_
      refine bO ?_;simp[hi]
     .have e5:eD (s++[p.length])=.tup ((s.map fun(i:Nat)=>D.int (i:Int))++[.int (0+(p.length:Int))]):=by
       unfold eD;rw[List.map_append];simp
      rw[e5];exact d6 (a0 (i:=1) rfl) (ri (bJ (a0 (i:=4) rfl) b0) (by simp)) (aiY (by simp;omega))
    .rw[List.length_append,List.length_singleton,bj,WR]
     simp[af.gN,Nat.min_eq_left (js hi)]
   .rintro sl S2 ⟨rfl,dP,rfl⟩
    refine⟨trivial,rfl,dP,?_⟩;rw[List.length_range,List.take_length,af.pre];rfl
  .rintro sl S2 ⟨rfl,dP,rfl⟩
   simp;refine dI ?_ ⟨rfl,rfl⟩;show bC _ _=true;rw[ku];intro d hd;obtain⟨p,_,rfl⟩:=hL.mp hd;exact Gu aT p _
end
section
variable{n:Nat}{cs:List Int}{S:Store}{P:D->Store->Prop}{X:D->Store->Prop}
theorem ai1{sl:aL}(cZ:ik S n cs)(h0:sl[0]?=some (some (.ptr n)))(h2:sl[2]?=some (some (.str (ao abc))))(hl:sl.length=9)(h:∀(l:List Nat) ak,l.length<=7->(∀c∈l,c∈abc)->Drawn n cs S ak->P (.lst (l.map hV)) ak) :
  We (cK (mW (ag (aw ig (ag (ae 0) (ag (ah (.int 8)) ai))) ai)) (aX 4) di (aw jV (ag (ae 0) (ag (ae 2) ai))) [4] sl S) (eY S P) X:=by
 obtain⟨c,S0,hc,lQ,AG⟩:∃(c:Nat) (S0:Store),aw ig (ag (ae 0) (ag (ah (.int 8)) ai)) sl S=.ok (.int (c:Int)) S0/\c<=7/\Drawn n cs S S0:=by
  have hw:We (aw ig (ag (ae 0) (ag (ah (.int 8)) ai)) sl S) (λd S0=>∃c:Nat,d=.int (c:Int)/\c<=7/\Drawn n cs S S0) (λ_ _=>False):=by
   simp[h0];refine(pC (by omega) (by omega)).jd cZ λd S1 ⟨j,cm,e⟩ gW=>?_;subst e;exact⟨j,rfl,by omega,gW⟩
  obtain⟨d,S0,e,c,rfl,bw,bz⟩:=hw.get;exact⟨c,S0,e,bw,bz⟩
 have hit:=Kn hc (by omega) (by omega);refine Kt (S:=S) (S0:=S0) AG hit (by simp[jQ];omega) (λ_ _ _=>trivial) (λ_ d=>∃c∈abc,d=hV c) (λx hx ak acc bT=>?_) (λ_ d ⟨c,_,e⟩=>by simp_all) λys ak hl a6 bT=>?_
 .rw[ie]
  have g:∀i,i≠4->((cE sl [4]).set 4 (some x))[i]?=sl[i]?:=λi hi=>by
   rw[qd (jq hi)];show(sl.set 4 none)[i]?=_;grind
  have lj:=(g 0 (by decide)).trans h0;have g2:=(g 2 (by decide)).trans h2;generalize (cE sl [4]).set 4 (some x)=a' at lj g2;simp[lj,g2];exact(ab7 (l:=abc) (by decide) (by decide)).app bT.1 λd b5 hd GU=>⟨b5,rfl,GU,hd⟩
 .obtain⟨l,rfl,n_⟩:=M8 (f:=hV) (Q:=λc=>c∈abc) a6 λx y ⟨c,h1,h2⟩=>⟨c,h2,h1⟩
  refine h l ak ?_ n_ (AG.trans bT);have:l.length=c:=by simpa[jQ]using hl
  omega
def iT(l:List Nat)(at_ first k:Nat):List Nat:=l.take at_++[97+(first+3 * k) % 26]++l.drop at_
def wu(x:List Nat):List Nat:=if x=[115,116,97,121]\/x=[110,111,110,101]then x++[113]else x
theorem ai2{l:List Nat}{a b k:Nat}(hl:l.length<=7)(ha:∀c∈l,c∈abc):tJ (wu (iT l a b k)):=by
 have hm:∀c∈iT l a b k,c∈abc:=λc hc=>by
  unfold iT at hc;simp only[List.mem_append,List.mem_singleton]at hc;rcases hc with(h|h)|h
  .exact ha c (List.mem_of_mem_take h)
  .rw[E1];omega
  .exact ha c (List.mem_of_mem_drop h)
 have hlen:(iT l a b k).length=l.length+1:=by
  unfold iT;simp only[List.length_append,List.length_take,List.length_drop,List.length_singleton];omega
 unfold wu;split
 .rename_i h
  rcases h with h|h<;>rw[h]<;>exact⟨by decide,by decide,by decide,by decide,by decide⟩
 .rename_i h
  exact⟨by omega,by omega,hm,λe=>h (.inl e),λe=>h (.inr e)⟩
theorem ai3{many:Nat}(hm:many<=20):kv n cs (B2 [.ptr n,.int many]) (λd=>∃l:List (List Nat),d=.lst (l.map cU)/\l.length=many/\∀x∈l,tJ x):=λS cZ=>by
 unfold B2;refine eo rfl ?_;show aV (wd [some (.ptr n),some (.int many),none,none,none,none,none,none,none] S) _;unfold wd;rw[Kb,jR,Kd,ie];refine jar (λsl S1=>∃l:List Nat,l.length<=7/\(∀c∈l,c∈abc)/\Drawn n cs S S1/\sl=[some (.ptr n),some (.int many),some (.str (ao abc)),some (.str (ao l)),none,none,none,none,none]) ?_ ?_
 .rw[jR,abm,Kd]
  refine⟨rfl,?_⟩;rw[jc,xO];refine ai1 cZ rfl rfl rfl λl S1 h1 h2 bT=>?_;rw[pz,ab9,abR (l:=l) rfl];refine⟨by omega,?_⟩;rw[ie];exact⟨l,h1,h2,bT,rfl⟩
 rintro sl S1 ⟨l,hl,ai4,gW,rfl⟩;refine jar (λsl S2=>∃a b:Nat,a<=l.length/\b<26/\Drawn n cs S S2/\sl=[some (.ptr n),some (.int many),some (.str (ao abc)),some (.str (ao l)),none,some (.int a),some (.int b),none,none]) ?_ ?_
 .simp
  refine⟨by omega,?_⟩;refine(pC (many:=(l.length:Int)+1) (by omega) (by omega)).jd gW.1 λd S2 ⟨a,ha,e⟩ kx=>?_;subst e;refine(pC (many:=26) (by omega) (by omega)).jd kx.1 λd aW ⟨b,hb,e⟩ rC=>?_;subst e;exact⟨a,by omega,b,by omega,(gW.trans kx).trans rC,rfl,rfl⟩
 rintro sl S2 ⟨a,b,ha,hb,kx,rfl⟩;have ai5:c' (cK (mW (ag (ae 1) ai)) (aX 4) di (az b7 (az b7 (gD false (ae 3) hT (e8 (ae 5))) (az a7 (ae 2) (az i6 (aw i9 (ag (az b7 (ae 6) (az hy (ah (.int 3)) (ae 4))) ai)) (ah (.int 26))))) (gD false (ae 3) (e8 (ae 5)) hT)) [4]) [some (.ptr n),some (.int many),some (.str (ao abc)),some (.str (ao l)),none,some (.int a),some (.int b),none,none] S2=.ok (.lst ((List.range many).map λk=>cU (iT l a b k))) S2:=by
  refine(rA (l:=List.range many) (row:=fun(i:Nat)=>D.int (0+(i:Int))) (λk=>cU (iT l a b k)) (Fw (a0 (i:=1) rfl) (mF hm (by decide))) (by simp;omega) (λacc=>trivial) (λk hk acc=>?_) (λk hk=>rfl)).trans rfl;have EZ:k<many:=List.mem_range.mp hk;refine⟨[some (.ptr n),some (.int many),some (.str (ao abc)),some (.str (ao l)),some (.int (0+(k:Int))),some (.int a),some (.int b),none,none],rfl,?_⟩;refine bO ?_;have ea:atI abc (((b:Int)+3 * (k:Int)) % 26)=some (97+(b+3 * k) % 26):=by
   have au:((b:Int)+3 * (k:Int)) % 26=(((b+3 * k) % 26:Nat):Int):=by omega
   rw[au];have NT:(b+3 * k) % 26<26:=Nat.mod_lt _ (by decide);generalize (b+3 * k) % 26=m at NT;have:m<abc.length:=by simpa[abc]using NT
   simp[atI,ixN,abc];rw[if_pos (by omega)];simp[NT]
  simp;refine⟨by omega,?_⟩;rw[qV _ (by decide) (by omega),bh];simp[m3 (show(0:Int)<26 by decide),ea];exact⟨by simp[abc],by omega,by omega,by omega,by simp[iT,cU]⟩
 refine jar (λsl aW=>aW=S2/\sl=[some (.ptr n),some (.int many),some (.str (ao abc)),some (.str (ao l)),none,some (.int a),some (.int b),some (.lst ((List.range many).map λk=>cU (iT l a b k))),none]) (pN ai5 ⟨rfl,rfl⟩) ?_;rintro sl aW ⟨rfl,rfl⟩;have ai6:c' (cK (ho (ae 7)) (aX 8) di (eT (aK (az e' (ae 8) (aw b2 (ag (ah (.str "stay")) (ag (ah (.str "none")) ai))))) (az b7 (ae 8) (ah (.str "q"))) (ae 8)) [8]) [some (.ptr n),some (.int many),some (.str (ao abc)),some (.str (ao l)),none,some (.int a),some (.int b),some (.lst ((List.range many).map λk=>cU (iT l a b k))),none] aW=.ok (.lst ((List.range many).map λk=>cU (wu (iT l a b k)))) aW:=by
  refine rA (l:=List.range many) (row:=λk=>cU (iT l a b k)) (λk=>cU (wu (iT l a b k))) (sI (a0 (i:=7) rfl) (qU _)) (by simp;omega) (λacc=>qU _) (λk hk acc=>?_) (λk hk=>rfl);refine⟨[some (.ptr n),some (.int many),some (.str (ao abc)),some (.str (ao l)),none,some (.int a),some (.int b),some (.lst ((List.range many).map λk=>cU (iT l a b k))),some (cU (iT l a b k))],rfl,?_⟩;have hlen:(iT l a b k).length<=8:=by
   unfold iT;simp only[List.length_append,List.length_take,List.length_drop,List.length_singleton];omega
  generalize iT l a b k=x at hlen;refine aiw (b:=decide (x=[115,116,97,121]\/x=[110,111,110,101])) ?_ (λhb=>?_) (λhb=>?_)
  .unfold aK
   rw[d6 (a0 (i:=8) rfl) (ri (bJ rfl (bJ rfl b0)) (by simp)) NM];rfl
  .have hx:x=[115,116,97,121]\/x=[110,111,110,101]:=of_decide_eq_true hb
   unfold wu;rw[if_pos hx];refine d6 (a0 (i:=8) rfl) rfl (bO ?_);show We (b7 (.str (ao x)) (.str (ao [113])) _) _ _;simp;exact⟨by omega,rfl⟩
  .have hx:¬(x=[115,116,97,121]\/x=[110,111,110,101]):=of_decide_eq_false hb
   unfold wu;rw[if_neg hx];exact a0 (i:=8) rfl
 rw[sF,ai6,bh];rw[jS];refine sM kx ?_ ⟨kx,(List.range many).map λk=>wu (iT l a b k),by rw[mG];rfl,by simp,λx hx=>?_⟩
 .show bg _ (D.lst _)=true
  rw[abt,ku];intro d hd;obtain⟨k,_,rfl⟩:=hL.mp hd;rfl
 .obtain⟨k,_,rfl⟩:=hL.mp hx
  exact ai2 hl ai4
theorem af.WT{c:Nat}:∀{Ps:List af},(∀P∈Ps,P.size<=c)->af.sizes Ps<=Ps.length * c
 |[],_=>by rw[af.sizes];omega
 |P::Ps,h=>by
  rw[af.sizes,List.length_cons,Nat.succ_mul];have:=h P (by simp);have:=af.WT (Ps:=Ps) λQ eC=>h Q (by simp[eC]);omega
theorem af.WU{c:Nat}:∀{Ps:List af},(∀P∈Ps,P.dep<=c)->af.deps Ps<=c
 |[],_=>by rw[af.deps];omega
 |P::Ps,h=>by
  rw[af.deps];have:=h P (by simp);have:=af.WU (Ps:=Ps) λQ eC=>h Q (by simp[eC]);omega
theorem WV{names:List (List Nat)}(dA:names≠[])(hn:∀x∈names,tJ x)(hl:names.length<=100):∀(k room:Nat),room<=k->1<=k->room<=100->kv n cs (we k [.ptr n,.lst (names.map cU),.int room]) (λd=>∃P:af,d=P.dat cg/\P.ok (ZJ.jh 6 24)/\P.size<=3 * room+1/\P.dep<=max 1 room)
 |0,room,_,h,_=>absurd h (by omega)
 |k+1,room,hr,_,iw=>λS cZ=>by
  have ih:=WV dA hn hl k;rw[we];refine eo rfl ?_;show aV (pY (we k) [some (.ptr n),some (.lst (names.map cU)),some (.int room),none,none,none,none] S) _;unfold pY;refine jar (λsl S1=>∃w:Nat,w<9/\Drawn n cs S S1/\sl=[some (.ptr n),some (.lst (names.map cU)),some (.int room),some (.int w),none,none,none]) ?_ ?_
  .simp
   refine(pC (by omega) (by omega)).jd cZ λd S1 ⟨w,hw,e⟩ bT=>?_;subst e;exact⟨w,by omega,bT,rfl⟩
  rintro sl S1 ⟨w,hw,gW,rfl⟩;have ai7:kv n cs (jV [.ptr n,.lst (names.map cU)]) (λd=>∃x∈names,d=cU x):=(AF (by simpa using dA) (by simp;omega) aiS).imp λd hd=>by
   obtain⟨x,hx,rfl⟩:=hL.mp hd;exact⟨x,hx,rfl⟩
  have z4:e4 (aK (az k' (ae 2) (ah (D.int 2)))) (aK (az k' (ae 3) (ah (D.int 2)))) [some (D.ptr n),some (D.lst (List.map cU names)),some (D.int (room:Int)),some (D.int (w:Int)),none,none,none] S1=.ok (decide (room<2\/w<2)) S1:=bO (by
   simp;by_cases h:room<2
   .have:(room:Int)<2:=by omega
    simp[h,this]
   .have:¬(room:Int)<2:=by omega
    simp[h,this];omega)
  by_cases eX:room<2\/w<2
  .refine jar (λ_ _=>False) ?_ (λ_ _ h=>h.elim)
   refine M6 (by rw[z4,decide_eq_true eX]) ?_;rw[sF];rw[lg,jc,a0 (i:=0) rfl,bh,jc];rw[Ke,Ke,lg,jc,lg,jc,Kd,jc,lg,jc,a0 (i:=0) rfl,bh,jc,a0 (i:=1) rfl,bh,pz];refine ai7.jd gW.1 λd S2 ⟨x,hx,e⟩ kx=>?_;subst e;have em:hy (.lst [.tup [.str (Str.ofString "go"),cU x]]) (.int 5) S2=.ok (.lst [.tup [.str (Str.ofString "go"),cU x],.tup [.str (Str.ofString "go"),cU x],.tup [.str (Str.ofString "go"),cU x],.tup [.str (Str.ofString "go"),cU x],.tup [.str (Str.ofString "go"),cU x]]) S2:=ag9 (sl:=[]) (f1:=ah (.lst [.tup [.str (Str.ofString "go"),cU x]])) (S:=S2) rfl;simp[em];refine(AF (by simp) (by simp) (by simp[cU])).jd kx.1 λd aW hd rC=>?_;have bu:∃P:af,d=P.dat cg/\P.ok (ZJ.jh 6 24)/\P.size=1/\P.dep=1:=by
    simp at hd;rcases hd with rfl|rfl|rfl
    .exact⟨.nd (.go x) [],rfl,⟨⟨rfl,hn x hx⟩,trivial⟩,rfl,rfl⟩
    .exact⟨.nd .stay [],rfl,⟨rfl,trivial⟩,rfl,rfl⟩
    .exact⟨.nd .none [],rfl,⟨rfl,trivial⟩,rfl,rfl⟩
   obtain⟨P,rfl,h1,h2,aI⟩:=bu;exact sM ((gW.trans kx).trans rC) (mz tQ P _) ⟨(gW.trans kx).trans rC,P,rfl,h1,by omega,by omega⟩
  refine jar (λsl S2=>S2=S1/\sl=[some (.ptr n),some (.lst (names.map cU)),some (.int room),some (.int w),none,none,none]) (v9 (by rw[z4,decide_eq_false eX]) (v' ⟨rfl,rfl⟩)) ?_;rintro sl S2 ⟨rfl,rfl⟩;have ard:2<=room:=by omega
  have fF:(room:Int) - 1=((room - 1:Nat):Int):=by omega
  have lQ:aK (az k' (ae 3) (ah (D.int 4))) [some (D.ptr n),some (D.lst (List.map cU names)),some (D.int (room:Int)),some (D.int (w:Int)),none,none,none] S2=.ok (decide (w<4)) S2:=bO (by
   simp;omega)
  by_cases c2:w<4
  .refine jar (λ_ _=>False) ?_ (λ_ _ h=>h.elim)
   refine M6 (by rw[lQ,decide_eq_true c2]) ?_;simp;rw[fF];refine(ih (room - 1) (by omega) (by omega) (by omega)).jd gW.1 λd aW ⟨P,e,h1,h2,aI⟩ rC=>?_;subst e;refine sM (gW.trans rC) ?_ ⟨gW.trans rC,.nd .loop [P],rfl,⟨rfl,h1,trivial⟩,?_,?_⟩
   .exact mz tQ (.nd .loop [P]) _
   .show P.size+0+1<=_
    omega
   .show max P.dep 0+1<=_
    omega
  refine jar (λsl aW=>aW=S2/\sl=[some (.ptr n),some (.lst (names.map cU)),some (.int room),some (.int w),none,none,none]) (v9 (by rw[lQ,decide_eq_false c2]) (v' ⟨rfl,rfl⟩)) ?_;rintro sl aW ⟨rfl,rfl⟩;have WW:aK (az (aU false) (ae 3) (ah (D.int 4))) [some (D.ptr n),some (D.lst (List.map cU names)),some (D.int (room:Int)),some (D.int (w:Int)),none,none,none] aW=.ok (decide (w=4)) aW:=bO (by
   simp;omega)
  by_cases c3:w=4
  .refine jar (λ_ _=>False) ?_ (λ_ _ h=>h.elim)
   refine M6 (by rw[WW,decide_eq_true c3]) ?_;simp;refine ahT.jd gW.1 λd b5 ⟨r,e,hr⟩ GU=>?_;subst e;rw[fF];refine(ih (room - 1) (by omega) (by omega) (by omega)).jd GU.1 λd eg ⟨P,e,h1,h2,aI⟩ tR=>?_;subst e;have bT:=(gW.trans GU).trans tR;refine sM bT ?_ ⟨bT,.nd (.scale r) [P],rfl,⟨⟨rfl,hr⟩,h1,trivial⟩,?_,?_⟩
   .exact mz tQ (.nd (.scale r) [P]) _
   .show P.size+0+1<=_
    omega
   .show max P.dep 0+1<=_
    omega
  refine jar (λsl b5=>b5=aW/\sl=[some (.ptr n),some (.lst (names.map cU)),some (.int room),some (.int w),none,none,none]) (v9 (by rw[WW,decide_eq_false c3]) (v' ⟨rfl,rfl⟩)) ?_;rintro sl b5 ⟨rfl,rfl⟩;refine jar (λsl eg=>∃m:Nat,2<=m/\m<=3/\Drawn n cs S eg/\sl=[some (.ptr n),some (.lst (names.map cU)),some (.int room),some (.int w),some (.int m),none,none]) ?_ ?_
  .by_cases aI:3<room
   .have NU:(3:Int)<(room:Int):=by omega
    simp[NU];refine(pC (many:=2) (by omega) (by omega)).jd gW.1 λd eg ⟨j,cm,e⟩ tR=>?_;subst e;simp;exact⟨j+2,by omega,by omega,gW.trans tR,by omega⟩
   .have NU:¬(3:Int)<(room:Int):=by omega
    simp[NU];refine(pC (many:=1) (by omega) (by omega)).jd gW.1 λd eg ⟨j,cm,e⟩ tR=>?_;subst e;simp;exact⟨j+2,by omega,by omega,gW.trans tR,by omega⟩
  rintro sl eg ⟨m,pB,arf,tR,rfl⟩;have hq:(room - 1) / m+1<=room:=by
   have:=Nat.div_le_self (room - 1) m;omega
  have arh:m * ((room - 1) / m)<=room - 1:=Nat.mul_div_le _ _;refine jar (λsl gE=>∃Ps:List af,Ps.length=m/\(∀P∈Ps,P.ok (ZJ.jh 6 24)/\P.size<=3 * ((room - 1) / m)+1/\P.dep<=max 1 ((room - 1) / m))/\Drawn n cs S gE/\sl=[some (.ptr n),some (.lst (names.map cU)),some (.int room),some (.int w),some (.int m),some (.lst (Ps.map (af.dat cg))),none]) ?_ ?_
  .rw[jR,xO]
   refine Kt (S:=eg) (S0:=eg) (Drawn.refl tR.1) (Fw (a0 (i:=4) rfl) (by omega)) (by simp[jQ];omega) (λ_ _ _=>trivial) (λ_ d=>∃P:af,d=P.dat cg/\(P.ok (ZJ.jh 6 24)/\P.size<=3 * ((room - 1) / m)+1/\P.dep<=max 1 ((room - 1) / m))) (λx hx ak acc bT=>?_) (λ_ d ⟨P,e,_⟩=>by rw[e];exact mz tQ P _) λys ak hl a6 bT=>?_
   .rw[ie]
    have ed:i5 (.int ((room:Int) - 1)) (.int m) (ak++[.lst acc])=.ok (.int (((room - 1) / m:Nat):Int)) (ak++[.lst acc]):=by
     rw[vb (by omega) (by have:=EK (i:=(m:Int)) (by omega);omega),fF];rfl
    simp[cE];rw[ed,bh];refine(ih ((room - 1) / m) (by omega) (by omega) (by omega)).app bT.1 λd gE hd tS=>?_;exact⟨gE,rfl,tS,hd⟩
   .obtain⟨Ps,rfl,bu⟩:=M8 a6 λx y h=>h
    rw[ie];exact⟨Ps,by simpa[jQ]using hl,bu,tR.trans bT,rfl⟩
  rintro sl gE ⟨Ps,hl,bu,tS,rfl⟩;simp;refine(AF (by simp) (by simp) (by simp)).jd tS.1 λd ia hd GV=>?_;have SR:Ps.map (af.dat cg)≠[]:=by
   intro h;rw[List.map_eq_nil_iff]at h;rw[h]at hl;simp at hl;omega
  rw[WQ SR (by simp;omega),bh];have e7:=af.WT λP h=>(bu P h).2.1;have vU:=af.WU λP h=>(bu P h).2.2;rw[hl]at e7;have bj:m * (3 * ((room - 1) / m)+1)=3 * (m * ((room - 1) / m))+m:=by rw[Nat.mul_add,Nat.mul_one,Nat.mul_left_comm]
  rw[bj]at e7;have ari:(room - 1) / m<=(room - 1) / 2:=Nat.div_le_div_left pB (by decide);have hok:af.yI (ZJ.jh 6 24) Ps:=af.M'.mpr λP h=>(bu P h).1;have ai8:∃P:af,D.tup (d::Ps.map (af.dat cg))=P.dat cg/\P.ok (ZJ.jh 6 24)/\P.size=af.sizes Ps+1/\P.dep=af.deps Ps+1:=by
   simp at hd;rcases hd with rfl|rfl
   .exact⟨.nd .seq Ps,by rw[af.ep];rfl,⟨⟨by omega,by omega⟩,hok⟩,rfl,rfl⟩
   .exact⟨.nd .alt Ps,by rw[af.ep];rfl,⟨⟨by omega,by omega⟩,hok⟩,rfl,rfl⟩
  obtain⟨P,e,h1,h2,aI⟩:=ai8;rw[e];exact sM (tS.trans GV) (mz tQ P _) ⟨tS.trans GV,P,rfl,h1,by omega,by omega⟩
end
open PySem PySem.Spec L2 ZM TL
def iU(s:List Nat):List (List Nat)->List Nat
 |[]=>[]
 |[x]=>x
 |x::y::r=>x++(s++iU s (y::r))
def cV:List Nat:=[44,32]
def eE:List Nat:=[32,124,32]
def aG.wrap:aG->List (List Nat)->List Nat
 | .go x,_=>x
 | .stay,_=>[115,116,97,121]
 | .none,_=>[110,111,110,101]
 | .loop,ts=>[91]++ts.headD []++[93]
 | .scale r,ts=>c5 r.num r.den++[58]++ts.headD []
 | .seq,ts=>[40]++iU cV ts++[41]
 | .alt,ts=>[40]++iU eE ts++[41]
mutual
def af.txt:af->List Nat
 | .nd k cs=>k.wrap (af.Cg cs)
def af.Cg:List af->List (List Nat)
 |[]=>[]
 |c::cs=>af.txt c::af.Cg cs
end
theorem af.WY:∀cs:List af,af.Cg cs=cs.map af.txt
 |[]=>by rw[af.Cg];rfl
 |c::cs=>by rw[af.Cg,af.WY cs];rfl
theorem af.Ci(k:aG)(cs:List af):(af.nd k cs).txt=k.wrap (cs.map af.txt):=by rw[af.txt,af.WY]
theorem yO(s:List Nat):∀xs:List (List Nat),(iU s xs).length<=(xs.map List.length).sum+xs.length * s.length
 |[]=>by simp[iU]
 |[x]=>by simp[iU]
 |x::y::r=>by
  have ih:=yO s (y::r);rw[iU];simp only[List.length_append,c1,y6,List.length_cons]at ih ⊢;rw[Nat.add_mul,Nat.one_mul];omega
theorem WZ{B:Nat}:∀cs:List af,(∀c∈cs,c.txt.length<=B * c.size)->((cs.map af.txt).map List.length).sum<=B * af.sizes cs
 |[],_=>by simp
 |c::cs,h=>by
  have h1:=h c (by simp);have h2:=WZ cs λd hd=>h d (by simp[hd]);rw[af.sizes,Nat.mul_add];simp only[c1,y6];omega
theorem af.NV{b:Rat->Prop}{B:Nat}(hb:∀r,b r->(c5 r.num r.den).length+1<=B)(cZ:20<=B):∀P:af,P.ok b->P.txt.length<=B * P.size:=by
 refine af.ind λbK cs ih h=>?_;have hf:=(af.fg.mp h).1;have hs:=WZ cs λc hc=>ih c hc ((af.fg.mp h).2 c hc);rw[af.Ci,af.size,Nat.mul_add,Nat.mul_one];cases bK with
 |go x=>have:=hf.2.le;simp only[aG.wrap];omega
 |stay=>simp only[aG.wrap,List.length_cons,mH];omega
 |none=>simp only[aG.wrap,List.length_cons,mH];omega
 |loop =>
  obtain⟨c,rfl⟩:=j_.mp hf;simp only[aG.wrap,c1,List.headD_cons,List.length_append,List.length_cons,mH,qf,y6,List.sum_nil]at hs ⊢;omega
 |scale r =>
  obtain⟨c,rfl⟩:=j_.mp hf.1;have:=hb r hf.2;simp only[aG.wrap,c1,List.headD_cons,List.length_append,List.length_cons,mH,qf,y6,List.sum_nil]at hs ⊢;omega
 |seq =>
  have pI:=hf.2;have:=yO cV (cs.map af.txt);rw[List.length_map]at this;simp only[aG.wrap,List.length_append,List.length_cons,mH];have e:cV.length=2:=rfl;rw[e]at this;omega
 |alt =>
  have pI:=hf.2;have:=yO eE (cs.map af.txt);rw[List.length_map]at this;simp only[aG.wrap,List.length_append,List.length_cons,mH];have e:eE.length=3:=rfl;rw[e]at this;omega
theorem W0(p q:Int):∀c∈c5 p q,c=45\/c=47\/(48<=c/\c<=57):=by
 have d:∀p:Int,∀c∈e0 p,c=45\/(48<=c/\c<=57):=λp c hc=>by
  rcases TR.NA p with⟨n,_,e⟩|⟨n,_,e⟩
  .rw[e]at hc
   exact .inr (TR.GF hc)
  .rw[e]at hc
   rcases g6.mp hc with h|h
   .exact .inl h
   .exact .inr (TR.GF h)
 intro c hc;unfold c5 at hc;split at hc
 .rcases d p c hc with h|h
  .exact .inl h
  .exact .inr (.inr h)
 .rcases mD.mp hc with hc|hc
  .rcases d p c hc with h|h
   .exact .inl h
   .exact .inr (.inr h)
  .rcases g6.mp hc with h|h
   .exact .inr (.inl h)
   .rcases d q c h with h|h
    .exact .inl h
    .exact .inr (.inr h)
theorem W2{s:List Nat}{c:Nat}:∀{xs:List (List Nat)},c∈iU s xs->c∈s\/∃x∈xs,c∈x
 |[],h=>by simp[iU]at h
 |[x],h=>.inr ⟨x,by simp,h⟩
 |x::y::r,h=>by
  rw[iU,List.mem_append,List.mem_append]at h;rcases h with h|h|h
  .exact .inr ⟨x,by simp,h⟩
  .exact .inl h
  .rcases W2 h with h|⟨z,hz,h⟩
   .exact .inl h
   .exact .inr ⟨z,iZ _ hz,h⟩
theorem af.NW{b:Rat->Prop}:∀P:af,P.ok b->∀c∈P.txt,c<128:=by
 refine af.ind λbK cs ih h=>?_;have hf:=(af.fg.mp h).1;have pO:∀x∈cs.map af.txt,∀c∈x,c<128:=λx hx c hc=>by
  obtain⟨p,hp,rfl⟩:=hL.mp hx;exact ih p hp ((af.fg.mp h).2 p hp) c hc
 have hh:∀c∈(cs.map af.txt).headD [],c<128:=λc hc=>by
  cases e:cs.map af.txt with
  |nil=>rw[e]at hc;cases hc
  |cons x r=>rw[e]at hc;exact pO x (by rw[e];simp) c hc
 have cm:∀s:List Nat,(∀c∈s,c<128)->∀c∈iU s (cs.map af.txt),c<128:=λs hs c hc=>by
  rcases W2 hc with h|⟨x,hx,h⟩
  .exact hs c h
  .exact pO x hx c h
 intro c hc;rw[af.Ci]at hc;cases bK with
 |go x=>have:=E1.mp (hf.2.abc c hc);omega
 |stay=>simp only[aG.wrap,List.mem_cons,j9,or_false]at hc;omega
 |none=>simp only[aG.wrap,List.mem_cons,j9,or_false]at hc;omega
 |loop =>
  simp only[aG.wrap,List.mem_append,List.mem_cons,j9,or_false]at hc;rcases hc with(h|h)|h
  .omega
  .exact hh c h
  .omega
 |scale r =>
  simp only[aG.wrap,List.mem_append,List.mem_cons,j9,or_false]at hc;rcases hc with(h|h)|h
  .have:=W0 _ _ c h;omega
  .omega
  .exact hh c h
 |seq =>
  simp only[aG.wrap,List.mem_append,List.mem_cons,j9,or_false]at hc;rcases hc with(h|h)|h
  .omega
  .exact cm cV (by decide) c h
  .omega
 |alt =>
  simp only[aG.wrap,List.mem_append,List.mem_cons,j9,or_false]at hc;rcases hc with(h|h)|h
  .omega
  .exact cm eE (by decide) c h
  .omega
section
variable{S:Store}{sl:aL}
theorem W3(s:List Nat):∀xs:List (List Nat),tl (Str.join (ao s) (xs.map ao))=iU s xs
 |[]=>rfl
 |[p]=>by rfl
 |p::q::r=>by
  have ih:=W3 s (q::r);rw[tl_join]at ih ⊢;rw[iU,<-ih];rfl
theorem ai9(s:List Nat)(xs:List (List Nat)):Txt.join (ao s) (xs.map ao)=ao (iU s xs):=by
 refine ext_tl ?_;rw[join_eq,W3]
theorem NX{s:List Nat}{g:aM}{f:cO}{xs:List (List Nat)}(hg:g sl S=.ok (.str (ao s)) S)(h:f sl S=.ok [.lst (xs.map λl=>.str (ao l))] S)(hl:(xs.map List.length).sum+xs.length * s.length<=1000000):dR k8 kl g f sl S=.ok (.str (ao (iU s xs))) S:=by
 refine bO ?_;rw[Kg,hg,bh,if_pos (by rfl),h,bh];have h0:c9 S (.lst (xs.map λl=>.str (ao l)))=some (xs.map λl=>.str (ao l)):=rfl;simp only[kl,h0,Sw];have e:(List.map (λx=>x.length) (List.map ao xs)).sum+(List.map ao xs).length * (ao s).length<=1000000:=by
  have h1:(List.map (λx=>x.length) (List.map ao xs)).sum=(xs.map List.length).sum:=by
   rw[mG];congr 1
  rw[h1,m4,List.length_map];exact hl
 rw[if_pos e,bh,ai9];simp
end
section
variable{S S1:Store}{b:Rat->Prop}{sl:aL}
theorem W4:Str.ofString "["=ao [91]:=by rfl
theorem W5:Str.ofString "]"=ao [93]:=by rfl
theorem GW:Str.ofString "("=ao [40]:=by rfl
theorem GX:Str.ofString ")"=ao [41]:=by rfl
theorem W6:Str.ofString ":"=ao [58]:=by rfl
theorem GZ:Str.ofString ", "=ao cV:=by rfl
theorem G0:Str.ofString " | "=ao eE:=by rfl
theorem G1{N:Nat}{cs:List af}(h:∀c∈cs,c.txt.length<=N)(hl:cs.length<=6):((cs.map af.txt).map List.length).sum<=6 * N:=by
 have:∀ds:List af,(∀c∈ds,c.txt.length<=N)->((ds.map af.txt).map List.length).sum<=ds.length * N:=λds=>by
  induction ds with
  |nil=>intro _;simp
  |cons d ds ih =>
   intro h;have h1:=h d (by simp);have h2:=ih λc hc=>h c (by simp[hc]);simp only[c1,y6,List.length_cons];rw[Nat.add_mul,Nat.one_mul];omega
 have h1:=this cs h;have h2:cs.length * N<=6 * N:=HS _ hl;omega
theorem aja{L B:Nat}(hb:∀r,b r->pV L r)(eK:L<=1000)(vk:∀r,b r->(c5 r.num r.den).length+1<=B)(cZ:20<=B):∀(P:af) (k:Nat),P.ok b->P.dep<=k->B * P.size<=100000->∀S,oO k [P.dat aN] S=.ok (.str (ao P.txt)) S:=by
 refine af.ind λbK cs ih k h hk hz S=>?_;cases k with
 |zero=>have:=(af.nd bK cs).rD;omega
 |succ k =>
  have hf:=(af.fg.mp h).1;have ja:=(af.fg.mp h).2;have kO:=aG.fit_le hf;have hlen:∀c∈cs,c.txt.length<=100000:=λc hc=>by
   have h1:=af.NV vk cZ c (ja c hc);have h2:=wR B (js (af.Ce (k:=bK) hc));omega
  have mB:∀c∈cs,∀S,oO k [c.dat aN] S=.ok (.str (ao c.txt)) S:=λc hc S=>ih c hc k (ja c hc) (by have:=af.tK (k:=bK) hc;omega) (by have:=wR B (js (af.Ce (k:=bK) hc));omega) S;have hd:=yM (f:=aN) (k:=bK) (cs:=cs) (S:=S);refine bO ?_;rw[oO];refine eo rfl ?_;show aV (j4 _ [some ((af.nd bK cs).dat aN),none,none] S) _;rw[af.ep]at hd ⊢;rw[af.Ci];cases bK with
  |go x =>
   have e:cs=[]:=e1.mp hf.1;subst e;simp[j4,hd,aG.word,aG.pay,aG.wrap]
  |stay =>
   have e:cs=[]:=e1.mp hf;subst e;simp[j4,hd,fQ,aG.word,aG.pay,aG.wrap];rfl
  |none =>
   have e:cs=[]:=e1.mp hf;subst e;simp[j4,hd,fQ,aG.word,aG.pay,aG.wrap];rfl
  |loop =>
   obtain⟨c,rfl⟩:=j_.mp hf;have hc:=mB c (by simp);have hl:=hlen c (by simp);simp[j4,hd,fQ,aG.word,aG.pay,aG.wrap,hc,Li,Lh,W4,W5];omega
  |scale r =>
   obtain⟨c,rfl⟩:=j_.mp hf.1;have hc:=mB c (by simp);have hl:=hlen c (by simp);have hr:=T4 (S:=S) (hb r hf.2) eK;have iw:=vk r hf.2;have p7:pJ [aN r] S=.ok (.str (ao (c5 r.num r.den))) S:=hr;have NY:=(af.nd (.scale r) [c]).size_pos;have xt:B<=100000:=Nat.le_trans (Nat.le_mul_of_pos_right B NY) hz;have rl:f' S (aN r)=some (Str.ofString "Ratio",[Str.ofString "own_top",Str.ofString "own_bottom"],[D.int r.num,D.int r.den]):=by rfl
   simp[j4,hd,fQ,aG.word,aG.pay,aG.wrap,hc,Li,Lh,W6,p7,rl,hv];omega
  |seq =>
   have ajb:cs.length<=6:=kO;have fY:∀(w:D),c' (cK (ho (gD false (ae 0) (e8 (ah (.int 1))) hT)) (aX 2) di (aw (oO k) (ag (ae 2) ai)) [2]) [some (.tup (.str (Str.ofString "seq")::cs.map (af.dat aN))),some w,none] S=.ok (.lst (cs.map λc=>.str (ao c.txt))) S:=λw =>
    rA (l:=cs) (row:=af.dat aN) (λc=>.str (ao c.txt)) (sI (d:=.tup (cs.map (af.dat aN))) (bO (by simp[yN])) (EF _)) (by omega) (λacc=>EF _) (λc hc acc=>⟨[some (.tup (.str (Str.ofString "seq")::cs.map (af.dat aN))),some w,some (c.dat aN)],rfl,d5 (bJ (a0 (i:=2) rfl) b0) (mB c hc _)⟩) λc hc=>rfl
   have hsum:=G1 hlen kO;have lR:=NX (s:=cV) (g:=ae 1) (S:=S) (sl:=[some (.tup (.str (Str.ofString "seq")::cs.map (af.dat aN))),some (.str (ao cV)),none]) (xs:=cs.map af.txt) (a0 (i:=1) rfl) (bJ (by rw[mG];exact fY (.str (ao cV))) b0) (by rw[List.length_map];have:=wX kO (show cV.length<=3 by decide);omega);have yP:=yO cV (cs.map af.txt);have mn:cV.length<=3:=by decide
   have NZ:=wX kO mn;rw[List.length_map]at yP;unfold j4;generalize dR k8 kl (ae 1) (ag (c' (cK (ho (gD false (ae 0) (e8 (ah (D.int 1))) hT)) (aX 2) di (aw (oO k) (ag (ae 2) ai)) [2])) ai)=J at lR ⊢;simp[hd,fQ,aG.word,aG.pay,aG.wrap,GW,GX,GZ,G0,lR];omega
  |alt =>
   have ajb:cs.length<=6:=kO;have fY:∀(w:D),c' (cK (ho (gD false (ae 0) (e8 (ah (.int 1))) hT)) (aX 2) di (aw (oO k) (ag (ae 2) ai)) [2]) [some (.tup (.str (Str.ofString "alt")::cs.map (af.dat aN))),some w,none] S=.ok (.lst (cs.map λc=>.str (ao c.txt))) S:=λw =>
    rA (l:=cs) (row:=af.dat aN) (λc=>.str (ao c.txt)) (sI (d:=.tup (cs.map (af.dat aN))) (bO (by simp[yN])) (EF _)) (by omega) (λacc=>EF _) (λc hc acc=>⟨[some (.tup (.str (Str.ofString "alt")::cs.map (af.dat aN))),some w,some (c.dat aN)],rfl,d5 (bJ (a0 (i:=2) rfl) b0) (mB c hc _)⟩) λc hc=>rfl
   have hsum:=G1 hlen kO;have lR:=NX (s:=eE) (g:=ae 1) (S:=S) (sl:=[some (.tup (.str (Str.ofString "alt")::cs.map (af.dat aN))),some (.str (ao eE)),none]) (xs:=cs.map af.txt) (a0 (i:=1) rfl) (bJ (by rw[mG];exact fY (.str (ao eE))) b0) (by rw[List.length_map];have:=wX kO (show eE.length<=3 by decide);omega);have yP:=yO eE (cs.map af.txt);have mn:eE.length<=3:=by decide
   have NZ:=wX kO mn;rw[List.length_map]at yP;unfold j4;generalize dR k8 kl (ae 1) (ag (c' (cK (ho (gD false (ae 0) (e8 (ah (D.int 1))) hT)) (aX 2) di (aw (oO k) (ag (ae 2) ai)) [2])) ai)=J at lR ⊢;simp[hd,fQ,aG.word,aG.pay,aG.wrap,GW,GX,GZ,G0,lR];omega
theorem ajc{l:List (List Nat)}(hl:l.length<=1000000)(aQ:∀u∈l,jU u):aU false (.lst (l.map λl=>.str (ao l))) (.lst []) S=.ok (.bl (decide (l=[]))) S:=by
 have hp:plain 2 (.lst (l.map λl=>.str (ao l))):=by
  rw[plain];refine⟨vi.mpr λy h=>?_,by grind⟩;obtain⟨p,hp,rfl⟩:=hL.mp h;simpa[plain]using aQ p hp
 rw[ae8 hp (by simp[plain,lX]:plain 2 (.lst [])) (by omega) (by omega)];cases l<;>rfl
theorem ajd{L B:Nat}(hb:∀r,b r->pV L r)(eK:L<=1000)(vk:∀r,b r->(c5 r.num r.den).length+1<=B)(cZ:20<=B):∀(P:af) (k:Nat),P.ok b->P.dep<=k->B * P.size<=100000->∀S,tO k [P.dat cg] S=.ok (.str (ao P.txt)) S:=by
 refine af.ind λbK cs ih k h hk hz S=>?_;cases k with
 |zero=>have:=(af.nd bK cs).rD;omega
 |succ k =>
  have hf:=(af.fg.mp h).1;have ja:=(af.fg.mp h).2;have kO:=aG.fit_le hf;have hlen:∀c∈cs,c.txt.length<=100000:=λc hc=>by
   have h1:=af.NV vk cZ c (ja c hc);have h2:=wR B (js (af.Ce (k:=bK) hc));omega
  have mB:∀c∈cs,∀S,tO k [c.dat cg] S=.ok (.str (ao c.txt)) S:=λc hc S=>ih c hc k (ja c hc) (by have:=af.tK (k:=bK) hc;omega) (by have:=wR B (js (af.Ce (k:=bK) hc));omega) S;have hd:=yM (f:=cg) (k:=bK) (cs:=cs) (S:=S);have fY:c' (cK (ho (aw nG (ag (ae 0) ai))) (aX 2) di (aw (tO k) (ag (ae 2) ai)) [2]) [some ((af.nd bK cs).dat cg),none,none] S=.ok (.lst (cs.map λc=>.str (ao c.txt))) S :=
   rA (l:=cs) (row:=af.dat cg) (λc=>.str (ao c.txt)) (sI (d5 (bJ (a0 (i:=0) rfl) b0) (NK tQ h)) (qU _)) (by omega) (λacc=>qU _) (λc hc acc=>⟨[some ((af.nd bK cs).dat cg),none,some (c.dat cg)],rfl,d5 (bJ (a0 (i:=2) rfl) b0) (mB c hc _)⟩) λc hc=>rfl
  refine bO ?_;rw[tO];refine eo rfl ?_;show aV (tN _ [some ((af.nd bK cs).dat cg),none,none] S) _;rw[af.Ci];unfold tN;by_cases iq:∃x,bK=.go x
  .obtain⟨x,rfl⟩:=iq
   have e:cs=[]:=e1.mp hf.1;subst e;rw[af.ep]at hd ⊢;simp[hd,aG.word,aG.pay,aG.wrap]
  have hw:¬bK.word="go":=λe=>by cases bK<;>first|exact iq ⟨_,rfl⟩|simp[aG.word]at e
  refine jar (λsl S1=>S1=S/\sl=[some ((af.nd bK cs).dat cg),none,none]) ?_ ?_
  .simp[hd,hw]
  rintro sl S1 ⟨rfl,rfl⟩;refine jar (λsl S2=>S2=S1/\sl=[some ((af.nd bK cs).dat cg),some (.lst (cs.map λc=>.str (ao c.txt))),none]) (pN fY ⟨rfl,rfl⟩) ?_;rintro sl S2 ⟨rfl,rfl⟩;clear fY;have he:=ajc (S:=S2) (l:=cs.map af.txt) (by simp;omega) (λu aT=>by
   obtain⟨c,hc,rfl⟩:=hL.mp aT;exact BZ (af.NW c (ja c hc)))
  rw[mG]at he;have aQ:((λl=>D.str (ao l)) ∘ af.txt)=λc=>D.str (ao c.txt):=rfl;rw[aQ]at he;have lR:∀s:List Nat,s.length<=3->∀g:aM,g [some ((af.nd bK cs).dat cg),some (.lst (cs.map λc=>.str (ao c.txt))),none] S2=.ok (.str (ao s)) S2->dR k8 kl g (ag (ae 1) ai) [some ((af.nd bK cs).dat cg),some (.lst (cs.map λc=>.str (ao c.txt))),none] S2=.ok (.str (ao (iU s (cs.map af.txt)))) S2:=λs hs g hg=>by
   have hsum:=G1 hlen kO;have NZ:=wX kO hs;refine NX (xs:=cs.map af.txt) hg (bJ (a0 (i:=1) ?_) b0) (by rw[List.length_map];omega);rw[mG];rfl
  have yP:∀s:List Nat,s.length<=3->(iU s (cs.map af.txt)).length<=700000:=λs hs=>by
   have hsum:=G1 hlen kO;have NZ:=wX kO hs;have:=yO s (cs.map af.txt);rw[List.length_map]at this;omega
  rw[af.ep]at hd lR ⊢;cases bK with
  |go x=>exact(iq ⟨x,rfl⟩).elim
  |stay =>
   have e:cs=[]:=e1.mp hf;subst e;have he:aU false (.lst []) (.lst []) S2=.ok (.bl true) S2:=he;simp[hd,he,aG.word,aG.pay,aG.wrap];rfl
  |none =>
   have e:cs=[]:=e1.mp hf;subst e;have he:aU false (.lst []) (.lst []) S2=.ok (.bl true) S2:=he;simp[hd,he,aG.word,aG.pay,aG.wrap];rfl
  |loop =>
   obtain⟨c,rfl⟩:=j_.mp hf;have hl:=hlen c (by simp);simp[hd,aG.word,aG.pay,aG.wrap,W4,W5];omega
  |scale r =>
   obtain⟨c,rfl⟩:=j_.mp hf.1;have hl:=hlen c (by simp);have hr:=adC (S:=S2) (hb r hf.2) eK;have iw:=vk r hf.2;have p7:ye [cg r] S2=.ok (.str (ao (c5 r.num r.den))) S2:=hr;have NY:=(af.nd (.scale r) [c]).size_pos;have xt:B<=100000:=Nat.le_trans (Nat.le_mul_of_pos_right B NY) hz;simp[hd,aG.word,aG.pay,aG.wrap,W6,p7];omega
  |seq =>
   have dA:cs≠[]:=λe=>by subst e;simp[aG.fit]at hf
   have au:=lR cV (by decide) (eT (aK (az (aU false) (az a7 (ae 0) (ah (.int 0))) (ah (.str "seq")))) (ah (.str ", ")) (ah (.str " | "))) (bO (by simp[hd,aG.word,GZ]));have cm:=yP cV (by decide);generalize dR k8 kl (eT (aK (az (aU false) (az a7 (ae 0) (ah (.int 0))) (ah (.str "seq")))) (ah (.str ", ")) (ah (.str " | "))) (ag (ae 1) ai)=J at au ⊢;simp[hd,he,dA,aG.word,aG.pay,aG.wrap,GW,GX]at au ⊢;simp[au];omega
  |alt =>
   have dA:cs≠[]:=λe=>by subst e;simp[aG.fit]at hf
   have au:=lR eE (by decide) (eT (aK (az (aU false) (az a7 (ae 0) (ah (.int 0))) (ah (.str "seq")))) (ah (.str ", ")) (ah (.str " | "))) (bO (by simp[hd,aG.word,G0]));have cm:=yP eE (by decide);generalize dR k8 kl (eT (aK (az (aU false) (az a7 (ae 0) (ah (.int 0))) (ah (.str "seq")))) (ah (.str ", ")) (ah (.str " | "))) (ag (ae 1) ai)=J at au ⊢;simp[hd,he,dA,aG.word,aG.pay,aG.wrap,GW,GX]at au ⊢;simp[au];omega
end
open PySem PySem.Spec L2 ZM TL TR
section
variable{S:Store}{sl:aL}{w r v:List Nat}{n i:Nat}
def a4(w r:List Nat):dk:=.ins "TextReader" ["whole","at"] [.str (ao w),.int ((w.length - r.length:Nat):Int)]
theorem G2(h:S[n]?=some (a4 w r)):f' S (.ptr n)=some ((Str.ofString "TextReader"),[Str.ofString "whole",Str.ofString "at"],[D.str (ao w),.int ((w.length - r.length:Nat):Int)]):=by
 unfold a4 at h;simp[f',h]
theorem G3(hx:sl[i]?=some (some (.ptr n)))(h:S[n]?=some (a4 w r)):c4 "whole" [("TextReader",.fld)] (ae i) sl S=.ok (.str (ao w)) S:=by
 unfold c4;rw[a0 hx];show(match f' S (.ptr n)with|some (c,ns,vs)=>_|none=>_)=_;rw[G2 h];rfl
theorem yQ(hx:sl[i]?=some (some (.ptr n)))(h:S[n]?=some (a4 w r)):c4 "at" [("TextReader",.fld)] (ae i) sl S=.ok (.int ((w.length - r.length:Nat):Int)) S:=by
 unfold c4;rw[a0 hx];show(match f' S (.ptr n)with|some (c,ns,vs)=>_|none=>_)=_;rw[G2 h];rfl
theorem N0(h:r <:+ w):w.drop (w.length - r.length)=r:=by
 obtain⟨p,rfl⟩:=h;simp
theorem G4{k:Nat}:iI k (a4 w r)=true:=rfl
theorem nJ(h:S[n]?=some (a4 w r)){r2:List Nat}:(S.set n (a4 w r2))[n]?=some (a4 w r2):=mE (List.getElem?_eq_some_iff.mp h).1
theorem W7{fe:aM}{k:Nat}{r2:List Nat}(hx:sl[0]?=some (some (.ptr n)))(h:S[n]?=some (a4 w r))(hf:fe sl S=.ok (.int (k:Int)) S)(hr:w.length - r2.length=w.length - r.length+k):B4 ["TextReader"] "at" (λi j=>i+j) (ae 0) fe sl S=.nx sl (S.set n (a4 w r2)):=by
 have h0:=h;unfold a4 at h0;unfold B4;rw[a0 hx];show(match S[n]? with|some (.ins c ns vs)=>_|_=>_)=_;rw[h0];dsimp only;rw[if_pos (by decide)];have au:ke "at" [Str.ofString "whole",Str.ofString "at"] [D.str (ao w),.int ((w.length - r.length:Nat):Int)]=some (.int ((w.length - r.length:Nat):Int)):=rfl;rw[au];dsimp only;rw[hf];rw[Aq];dsimp only;have e2:Gz S n=some (Str.ofString "TextReader"):=by unfold Gz;rw[h0]
 rw[if_pos e2];unfold oq;dsimp only;rw[h0];dsimp only;rw[if_pos (by decide)];dsimp only;have bj:((w.length - r.length:Nat):Int)+(k:Int)=((w.length - r2.length:Nat):Int):=by omega
 rw[bj];rfl
theorem aje{n:Nat}(hn:n=S.length):wj [.ptr n,.str (ao w)] (S++[.ins "TextReader" [] []])=.ok .non (S++[a4 w w]):=by
 subst hn;have lj:(S++[dk.ins "TextReader" [] []])[S.length]?=some (.ins "TextReader" [] []):=by simp
 have au:ot ["TextReader"] "whole" (ae 1) (ae 0) [some (.ptr S.length),some (.str (ao w))] (S++[.ins "TextReader" [] []])=.nx [some (.ptr S.length),some (.str (ao w))] (S++[.ins "TextReader" [Str.ofString "whole"] [.str (ao w)]]):=by
  unfold ot;rw[a0 (i:=1) rfl,Aq,a0 (i:=0) rfl,Aq];unfold oq;dsimp only;rw[lj];dsimp only;rw[if_pos (by decide)];dsimp only[i'];rw[List.set_append_right _ _ (Nat.le_refl _),Nat.sub_self];rfl
 have g1:(S++[dk.ins "TextReader" [Str.ofString "whole"] [.str (ao w)]])[S.length]?=some (.ins "TextReader" [Str.ofString "whole"] [.str (ao w)]):=by simp
 have e2:ot ["TextReader"] "at" (ah (.int 0)) (ae 0) [some (.ptr S.length),some (.str (ao w))] (S++[.ins "TextReader" [Str.ofString "whole"] [.str (ao w)]])=.nx [some (.ptr S.length),some (.str (ao w))] (S++[a4 w w]):=by
  unfold ot;rw[show ah (.int 0) [some (.ptr S.length),some (.str (ao w))] (S++[.ins "TextReader" [Str.ofString "whole"] [.str (ao w)]])=.ok (.int 0) (S++[.ins "TextReader" [Str.ofString "whole"] [.str (ao w)]])from rfl];rw[Aq,a0 (i:=0) rfl,Aq];unfold oq;dsimp only;rw[g1];dsimp only;rw[if_pos (by decide)];dsimp only;have bj:i' "at" (D.int 0) [Str.ofString "whole"] [D.str (ao w)]=([Str.ofString "whole",Str.ofString "at"],[D.str (ao w),.int 0]):=rfl;rw[bj];dsimp only;rw[List.set_append_right _ _ (Nat.le_refl _),Nat.sub_self];unfold a4;rw[Nat.sub_self];rfl
 refine bO ?_;unfold wj;refine eo rfl ?_;show aV (B5 [some (.ptr S.length),some (.str (ao w))] _) _;unfold B5;rw[Kb,au,la];dsimp only;rw[e2,la,abr];have hk:fG (S++[dk.ins "TextReader" [] []]) (S++[a4 w w]):=by
  have:=fG.set (S:=S++[dk.ins "TextReader" [] []]) (n:=S.length) (m:=a4 w w) G4;rwa [List.set_append_right _ _ (Nat.le_refl _),Nat.sub_self]at this
 exact ox hk rfl ⟨rfl,rfl⟩
theorem ajf:mZ "TextReader" wj [.str (ao w)] S=.ok (.ptr S.length) (S++[a4 w w]):=by
 unfold mZ;rw[aje rfl];rfl
theorem ajg(h:S[n]?=some (a4 w r))(hs:r <:+ w)(hw:w.length<=100000)(hl:Lo w)(bB:Lo v)(yR:v.length<=100):hG [.ptr n,.str (ao v)] S=.ok (.bl (decide (r.take v.length=v))) (S.set n (a4 w (if r.take v.length=v then r.drop v.length else r))):=by
 have ajh:=hs.length_le;have yS:Lo r:=λc hc=>hl c (hs.subset hc);refine bO ?_;unfold hG;refine eo rfl ?_;show aV (B6 [some (.ptr n),some (.str (ao v)),none] S) _;unfold B6;have aji:aw cM (ag (ae 1) ai) [some (.ptr n),some (.str (ao v)),none] S=.ok (.int (v.length:Int)) S:=bO (by simp;omega);have es:gD false (c4 "whole" [("TextReader",.fld)] (ae 0)) (e8 (c4 "at" [("TextReader",.fld)] (ae 0))) (e8 (az b7 (c4 "at" [("TextReader",.fld)] (ae 0)) (aw cM (ag (ae 1) ai)))) [some (.ptr n),some (.str (ao v)),none] S=.ok (.str (ao (r.take v.length))) S:=by
  refine GJ (G3 (i:=0) rfl h) (yL (yQ (i:=0) rfl h)) (yL (d6 (yQ (i:=0) rfl h) aji (RU _ _ _))) (by omega) ?_;have e:((w.length - r.length:Nat):Int)+(v.length:Int)=((w.length - r.length+v.length:Nat):Int):=by omega
  rw[e,Sr];congr 1;rw[List.drop_take,N0 hs];congr 1;omega
 have eb:=d6 (sem:=aU false) es (a0 (i:=1) (d:=.str (ao v)) rfl) (vg (p4 (yS.take v.length)) (p4 bB));refine jar (λsl S2=>S2=S/\sl=[some (.ptr n),some (.str (ao v)),some (.bl (decide (r.take v.length=v)))]) (pN eb ⟨rfl,rfl⟩) ?_;rintro sl S2 ⟨rfl,rfl⟩;have ek:eT (aK (ae 2)) (aw cM (ag (ae 1) ai)) (ah (.int 0)) [some (.ptr n),some (.str (ao v)),some (.bl (decide (r.take v.length=v)))] S2=.ok (.int ((if r.take v.length=v then v.length else 0:Nat):Int)) S2:=bO (by
  by_cases q:r.take v.length=v
  .simp[q];omega
  .simp[q])
 have ha:=W7 (sl:=[some (.ptr n),some (.str (ao v)),some (.bl (decide (r.take v.length=v)))]) (r2:=if r.take v.length=v then r.drop v.length else r) rfl h ek (by
  by_cases q:r.take v.length=v
  .rw[if_pos q,if_pos q,List.length_drop]
   have:=congrArg List.length q;rw[List.length_take]at this;omega
  .rw[if_neg q,if_neg q];omega)
 refine jar (λsl aW=>aW=S2.set n (a4 w (if r.take v.length=v then r.drop v.length else r))/\sl=[some (.ptr n),some (.str (ao v)),some (.bl (decide (r.take v.length=v)))]) ?_ ?_
 .rw[ha,la]
  exact⟨rfl,rfl⟩
 rintro sl aW ⟨rfl,rfl⟩;refine oQ (a0 (i:=2) rfl) ?_;rw[jS];exact ox (fG.set G4) rfl ⟨rfl,rfl⟩
theorem W8{p q:List Nat}(hp:∀c∈p,c∈v)(hq:∀c∈q.head?,c∉v):(p++q).takeWhile (λc=>decide (c∈v))=p/\(p++q).dropWhile (λc=>decide (c∈v))=q:=by
 rw[List.takeWhile_append_of_pos (by simpa using hp),List.dropWhile_append_of_pos (by simpa using hp)];cases q with
 |nil=>simp
 |cons c t =>
  have:=hq c (by simp);simp[this]
theorem ajj(h:S[n]?=some (a4 w r))(hs:r <:+ w)(hw:w.length<=100000):pZ [.ptr n,.str (ao v)] S=.ok (.str (ao (r.takeWhile (λc=>decide (c∈v))))) (S.set n (a4 w (r.dropWhile (λc=>decide (c∈v))))):=by
 have ajh:=hs.length_le;refine bO ?_;unfold pZ;refine eo rfl ?_;show aV (B9 [some (.ptr n),some (.str (ao v)),none] S) _;unfold B9;refine jar (λsl S2=>S2=S/\sl=[some (.ptr n),some (.str (ao v)),some (.int ((w.length - r.length:Nat):Int))]) (pN (yQ (i:=0) rfl h) ⟨rfl,rfl⟩) ?_;rintro sl S2 ⟨rfl,rfl⟩;refine jar (λsl aW=>∃p q,r=p++q/\(∀c∈p,c∈v)/\(∀c∈q.head?,c∉v)/\aW=S2.set n (a4 w q)/\sl=[some (.ptr n),some (.str (ao v)),some (.int ((w.length - r.length:Nat):Int))]) ?_ ?_
 .refine Ay r.length (λk sl aW=>∃p q,r=p++q/\(∀c∈p,c∈v)/\k=q.length/\aW=S2.set n (a4 w q)/\sl=[some (.ptr n),some (.str (ao v)),some (.int ((w.length - r.length:Nat):Int))]) ⟨[],r,rfl,by simp,rfl,?_,rfl⟩ (by omega) ?_
  .have:=(List.getElem?_eq_some_iff.mp h)
   obtain⟨hn,e⟩:=this;rw[<-e,y3]
  rintro k sl aW ⟨p,q,rfl,hp,rfl,rfl,rfl⟩;have hq:q <:+ w:=List.IsSuffix.trans (List.suffix_append _ _) hs;have hg:=nJ h (r2:=q);have a1:=yQ (i:=0) (sl:=[some (.ptr n),some (.str (ao v)),some (.int ((w.length - (p++q).length:Nat):Int))]) rfl hg;have a2:=G3 (i:=0) (sl:=[some (.ptr n),some (.str (ao v)),some (.int ((w.length - (p++q).length:Nat):Int))]) rfl hg;have a3:aw cM (ag (c4 "whole" [("TextReader",.fld)] (ae 0)) ai) [some (.ptr n),some (.str (ao v)),some (.int ((w.length - (p++q).length:Nat):Int))] (S2.set n (a4 w q))=.ok (.int (w.length:Int)) (S2.set n (a4 w q)):=by
   refine d5 (bJ a2 b0) ?_;exact bO (by simp;omega)
  have eX:=d6 (sem:=k') a1 a3 (RV _ _ _);rw[Ez,fO,eX,bh,eJ];cases q with
  |nil =>
   rw[decide_eq_false (by simp),if_neg (by simp),if_neg (by simp)];exact⟨p,[],rfl,hp,by simp,rfl,rfl⟩
  |cons c t =>
   have c7:w.length - (c::t).length<w.length:=by have:=hq.length_le;simp at this ⊢;omega
   have hd:=N0 hq;rw[decide_eq_true (by omega),if_pos rfl];have hc:w[w.length - (c::t).length]?=some c:=by
    have:=congrArg (λl=>l[0]?) hd;simpa using this
   have rj:az a7 (c4 "whole" [("TextReader",.fld)] (ae 0)) (c4 "at" [("TextReader",.fld)] (ae 0)) [some (.ptr n),some (.str (ao v)),some (.int ((w.length - (p++c::t).length:Nat):Int))] (S2.set n (a4 w (c::t)))=.ok (hV c) (S2.set n (a4 w (c::t))):=by
    refine d6 a2 a1 (bO ?_);rw[abA];refine⟨by omega,c,?_,rfl,rfl⟩;unfold atI ixN;rw[if_pos (by omega),if_pos (by omega)];simpa using hc
   have c2:=d6 (sem:=e') rj (a0 (i:=1) (d:=.str (ao v)) rfl) Sn;rw[fO,c2,bh,eJ];by_cases bB:c∈v
   .rw[decide_eq_true bB,if_pos rfl]
    have ha:=W7 (sl:=[some (.ptr n),some (.str (ao v)),some (.int ((w.length - (p++c::t).length:Nat):Int))]) (S:=S2.set n (a4 w (c::t))) (fe:=ah (.int 1)) (k:=1) (r2:=t) rfl hg rfl (by have:=hq.length_le;simp at this ⊢;omega);rw[ha,la,r3];refine⟨t.length,by simp,p++[c],t,by simp,?_,rfl,rfl,by simp⟩;intro d hd;rcases mD.mp hd with h|h
    .exact hp d h
    .rw[rV.mp h];exact bB
   .rw[decide_eq_false bB,if_neg (by simp)]
    exact⟨p,c::t,rfl,hp,by simpa using bB,rfl,rfl⟩
 rintro sl aW ⟨p,q,rfl,hp,hq,rfl,rfl⟩;have arj:q <:+ w:=List.IsSuffix.trans (List.suffix_append _ _) hs;obtain⟨au,e2⟩:=W8 hp hq;rw[au,e2];have hg:=nJ h (r2:=q);have es:=GJ (l:=w) (r:=p) (lo:=some ((w.length - (p++q).length:Nat):Int)) (hi:=some ((w.length - q.length:Nat):Int)) (G3 (i:=0) (sl:=[some (.ptr n),some (.str (ao v)),some (.int ((w.length - (p++q).length:Nat):Int))]) rfl hg) (yL (a0 (i:=2) rfl)) (yL (yQ (i:=0) rfl hg)) (by omega) (by
  rw[Sr,List.drop_take,N0 hs];have:=hs.length_le;congr 1;have e:w.length - q.length - (w.length - (p++q).length)=p.length:=by simp at this ⊢;omega
  rw[e];simp)
 refine oQ es ?_;rw[jS];exact ox (fG.set G4) rfl ⟨rfl,rfl⟩
end
def wx:List Nat:=[115,116,97,121]
def wy:List Nat:=[110,111,110,101]
def gn:List Nat:=[45,47,48,49,50,51,52,53,54,55,56,57]
def er(v r:List Nat):List Nat:=r.takeWhile (λc=>decide (c∈v))
def ef(v r:List Nat):List Nat:=r.dropWhile (λc=>decide (c∈v))
abbrev jk:=List Nat->Option (af×List Nat)
def iV(P:jk)(s:List Nat):Nat->List Nat->Option (List af×List Nat)
 |0,r=>some ([],r)
 |m+1,r=>if r.take s.length=s then(match P (r.drop s.length)with
  |some (p,r2)=>(iV P s m r2).map λx=>(p::x.1,x.2)
  |none=>none)else some ([],r)
def nK(P:jk)(k:aG)(s:List Nat)(p1:af)(r:List Nat):Option (af×List Nat):=match P r with
 |some (p2,r2)=>(match iV P s r2.length r2 with
  |some (ps,bU)=>if bU.take 1=[41]then some (.nd k (p1::p2::ps),bU.drop 1)else none
  |none=>none)
 |none=>none
def jl(P:jk)(l:List Nat):Option (af×List Nat):=match P l with
 |some (p1,r1)=>if r1.take cV.length=cV then nK P .seq cV p1 (r1.drop cV.length)else if r1.take eE.length=eE then nK P .alt eE p1 (r1.drop eE.length)else none
 |none=>none
def Cj(P:jk)(rest:List Nat):Option (af×List Nat):=match hY (er gn rest)with
 |some q=>if(ef gn rest).take 1=[58]then(match P ((ef gn rest).drop 1)with
  |some (p,r)=>some (.nd (.scale (Rat.divInt q.1 q.2)) [p],r)
  |none=>none)else none
 |none=>none
def oS(P:jk)(l:List Nat):Option (af×List Nat) :=
 if er abc l=wx then some (.nd .stay [],ef abc l)else if er abc l=wy then some (.nd .none [],ef abc l)
 else if er abc l≠[]then some (.nd (.go (er abc l)) [],ef abc l)else Cj P (ef abc l)
def wz(P:jk)(l:List Nat):Option (af×List Nat):=match P l with
 |some (p,r)=>if r.take 1=[93]then some (.nd .loop [p],r.drop 1)else none
 |none=>none
def iW:Nat->jk
 |0,_=>none
 |k+1,l=>if l.take 1=[91]then wz (iW k) (l.drop 1)else if l.take 1=[40]then jl (iW k) (l.drop 1)else oS (iW k) l
def Suf(P:jk):Prop:=∀l p r,P l=some (p,r)->r <:+ l
theorem wA{v r:List Nat}:ef v r <:+ r:=List.dropWhile_suffix _
theorem W9{P:jk}(bu:Suf P){s:List Nat}:∀{m:Nat} {l r:List Nat} {ps:List af},iV P s m l=some (ps,r)->r <:+ l
 |0,l,r,ps,h=>by cases h;exact List.suffix_refl _
 |m+1,l,r,ps,h=>by
  rw[iV]at h;split at h
  .split at h
   .rename_i p r2 e
    obtain⟨⟨x,y⟩,hx,a6⟩:=fq.mp h;cases a6;exact((W9 bu hx).trans (bu _ _ _ e)).trans (jH _ _)
   .cases h
  .cases h;exact List.suffix_refl _
theorem W_{P:jk}(bu:Suf P){k:aG}{s:List Nat}{p1 p:af}{l r:List Nat}(h:nK P k s p1 l=some (p,r)):r <:+ l:=by
 unfold nK at h;split at h
 .rename_i p2 r2 e
  split at h
  .rename_i ps bU e2
   split at h
   .cases h
    exact((jH _ _).trans (W9 bu e2)).trans (bu _ _ _ e)
   .cases h
  .cases h
 .cases h
theorem ajk{P:jk}(bu:Suf P):Suf (jl P):=λl p r h=>by
 unfold jl at h;split at h
 .rename_i p1 r1 e
  split at h
  .exact((W_ bu h).trans (jH _ _)).trans (bu _ _ _ e)
  .split at h
   .exact((W_ bu h).trans (jH _ _)).trans (bu _ _ _ e)
   .cases h
 .cases h
theorem ajl{P:jk}(bu:Suf P):Suf (Cj P):=λl p r h=>by
 unfold Cj at h;split at h
 .split at h
  .split at h
   .rename_i e
    cases h;exact((bu _ _ _ e).trans (jH _ _)).trans wA
   .cases h
  .cases h
 .cases h
theorem W':∀k,Suf (iW k)
 |0=>λl p r h=>by cases h
 |k+1=>λl p r h=>by
  have ih:=W' k;rw[iW]at h;split at h
  .unfold wz at h
   split at h
   .rename_i e
    split at h
    .cases h
     exact((jH _ _).trans (ih _ _ _ e)).trans (jH _ _)
    .cases h
   .cases h
  .split at h
   .exact(ajk ih _ _ _ h).trans (jH _ _)
   .unfold oS at h
    split at h
    .cases h;exact wA
    .split at h
     .cases h;exact wA
     .split at h
      .cases h;exact wA
      .exact(ajl ih _ _ _ h).trans wA
theorem Ck{v x rest:List Nat}(hx:∀c∈x,c∈v)(hr:∀c∈rest.head?,c∉v):er v (x++rest)=x/\ef v (x++rest)=rest:=W8 hx hr
theorem N1{s r:List Nat}:(s++r).take s.length=s:=by simp
theorem N2{s r:List Nat}:(s++r).drop s.length=r:=by simp
def jm(s:List Nat):List (List Nat)->List Nat
 |[]=>[]
 |x::r=>s++(x++jm s r)
theorem N3{s:List Nat}:∀{x:List Nat} {r:List (List Nat)},iU s (x::r)=x++jm s r
 |x,[]=>by rw[jm,ug];rfl
 |x,y::r=>by rw[iU,N3,jm]
theorem Xa{P:jk}{s rest:List Nat}(hs:∀c∈s.head?,c∉abc)(wB:s≠[])(hr:∀c∈rest.head?,c∉abc)(iw:rest.take s.length≠s):∀(cs:List af) (m:Nat),(∀c∈cs,∀t:List Nat,(∀c∈t.head?,c∉abc)->P (c.txt++t)=some (c,t))->cs.length<=m->iV P s m (jm s (cs.map af.txt)++rest)=some (cs,rest)
 |[],0,_,_=>rfl
 |[],m+1,_,_=>by
  rw[iV];show(if rest.take s.length=s then _ else some ([],rest))=some ([],rest);rw[if_neg iw]
 |c::cs,0,_,h=>by simp at h
 |c::cs,m+1,h,hm=>by
  have pB:cs.length<=m:=by simpa using hm
  have ih:=Xa hs wB hr iw cs m (λd hd=>h d (iZ _ hd)) pB;rw[c1,jm,iV,wW,wW,N1,if_pos rfl,N2];have hh:∀x∈(jm s (cs.map af.txt)++rest).head?,x∉abc:=by
   cases cs with
   |nil=>exact hr
   |cons d ds =>
    rw[c1,jm];cases s with
    |nil=>exact(wB rfl).elim
    |cons a s=>simpa using hs a rfl
  rw[h c (by simp) _ hh];dsimp only;rw[ih];rfl
theorem Xb{P:jk}{k:aG}{s rest:List Nat}(hs:∀c∈s.head?,c∉abc)(wB:s≠[])(rm:∀c∈s.head?,c≠41){p1 p2:af}{cs:List af}(h:∀c∈p2::cs,∀t:List Nat,(∀c∈t.head?,c∉abc)->P (c.txt++t)=some (c,t)):nK P k s p1 (p2.txt++(jm s (cs.map af.txt)++(41::rest)))=some (.nd k (p1::p2::cs),rest):=by
 unfold nK;have hr:∀c∈(41::rest).head?,c∉abc:=λc hc=>by
  have:c=41:=by simpa using hc.symm
  subst this;decide
 have iw:(41::rest).take s.length≠s:=λe=>by
  cases s with
  |nil=>exact wB rfl
  |cons a s =>
   rw[List.length_cons,List.take_succ_cons]at e;injection e with e _
   exact rm a rfl e.symm
 have hh:∀x∈(jm s (cs.map af.txt)++(41::rest)).head?,x∉abc:=by
  cases cs with
  |nil=>exact hr
  |cons d ds =>
   rw[c1,jm];cases s with
   |nil=>exact(wB rfl).elim
   |cons a s=>simpa using hs a rfl
 rw[h p2 (by simp) _ hh];dsimp only;have hl:cs.length<=(jm s (cs.map af.txt)++(41::rest)).length:=by
  have:∀xs:List (List Nat),xs.length<=(jm s xs).length:=λxs=>by
   induction xs with
   |nil=>simp
   |cons x xs ih =>
    rw[jm];have:1<=s.length:=List.length_pos_iff.mpr wB;simp only[List.length_cons,List.length_append];omega
  have:=this (cs.map af.txt);rw[List.length_map]at this;rw[List.length_append];omega
 rw[Xa hs wB hr iw cs _ (λc hc=>h c (iZ _ hc)) hl];dsimp only;rw[if_pos (by rfl)];rfl
theorem Cm{a:Nat}{l:List Nat}:(a::l).take 1=[a]:=rfl
theorem ajm(t:List Nat):∀c∈(93::t).head?,c∉abc:=λc hc=>by
 have:c=93:=by simpa using hc.symm
 subst this;decide
theorem Xc(p q:Int):c5 p q≠[]:=λe=>by
 unfold c5 at e;have d:e0 p≠[]:=λh=>by
  rcases TR.NA p with⟨n,_,e⟩|⟨n,_,e⟩
  .rw[e]at h;exact TR.Nt n h
  .rw[e]at h;cases h
 split at e
 .exact d e
 .simp at e
theorem N4{b:Rat->Prop}(hb:∀r,b r->hY (c5 r.num r.den)=some (r.num,(r.den:Int))):∀(P:af) (k:Nat),P.ok b->P.dep<=k->∀t:List Nat,(∀c∈t.head?,c∉abc)->iW k (P.txt++t)=some (P,t):=by
 have ajn:∀l:List Nat,∀c∈(cV++l).head?,c∉abc:=λl c hc=>by
  have:c=44:=by simpa[cV]using hc.symm
  subst this;decide
 have ajo:∀l:List Nat,∀c∈(eE++l).head?,c∉abc:=λl c hc=>by
  have:c=32:=by simpa[eE]using hc.symm
  subst this;decide
 refine af.ind λbK cs ih k h hk t ht=>?_;cases k with
 |zero=>have:=(af.nd bK cs).rD;omega
 |succ k =>
  have hf:=(af.fg.mp h).1;have ja:=(af.fg.mp h).2;have mB:∀c∈cs,∀t:List Nat,(∀c∈t.head?,c∉abc)->iW k (c.txt++t)=some (c,t):=λc hc t ht=>ih c hc k (ja c hc) (by have:=af.tK (k:=bK) hc;omega) t ht;rw[af.Ci,iW];cases bK with
  |go x =>
   have e:cs=[]:=e1.mp hf.1;subst e;have hx:=hf.2;obtain⟨au,e2⟩:=Ck (v:=abc) (rest:=t) hx.abc ht;have dA:x≠[]:=λe=>by have:=hx.pos;rw[e]at this;simp at this
   cases x with
   |nil=>exact(dA rfl).elim
   |cons a x =>
    have ha:=E1.mp (hx.abc a (by simp));have cG:aG.wrap (.go (a::x)) ([].map af.txt)++t=a::(x++t):=rfl;rw[cG];have n1:¬[a]=[91]:=λe=>by injection e with e _;omega
    have n2:¬[a]=[40]:=λe=>by injection e with e _;omega
    rw[Cm,if_neg n1,if_neg n2];show oS _ ((a::x)++t)=_;unfold oS;have xC:¬a::x=wx:=hx.ns;have Lj:¬a::x=wy:=hx.nn;rw[au,e2,if_neg xC,if_neg Lj,if_pos dA]
  |stay =>
   have e:cs=[]:=e1.mp hf;subst e;obtain⟨au,e2⟩:=Ck (v:=abc) (x:=wx) (rest:=t) (by decide) ht;show oS _ (wx++t)=_;unfold oS;rw[au,e2,if_pos rfl]
  |none =>
   have e:cs=[]:=e1.mp hf;subst e;obtain⟨au,e2⟩:=Ck (v:=abc) (x:=wy) (rest:=t) (by decide) ht;show oS _ (wy++t)=_;unfold oS;rw[au,e2,if_neg (by decide),if_pos rfl]
  |loop =>
   obtain⟨c,rfl⟩:=j_.mp hf;have hc:=mB c (by simp) (93::t) (ajm t);show wz (iW k) ((c.txt++[93])++t)=_;rw[wW];unfold wz;rw[show[93]++t=93::t from rfl,hc];dsimp only;rw[Cm,if_pos rfl];rfl
  |scale r =>
   obtain⟨c,rfl⟩:=j_.mp hf.1;have hc:=mB c (by simp) t ht;have hr:=hb r hf.2;have jj:=W0 r.num r.den;have ajp:∀c∈c5 r.num r.den,c∈gn:=λc hc=>by
    have:=jj c hc;simp only[gn,List.mem_cons,j9,or_false];omega
   have cG:aG.wrap (.scale r) ([c].map af.txt)++t=c5 r.num r.den++(58::(c.txt++t)):=by simp[aG.wrap]
   rw[cG];obtain⟨au,e2⟩:=Ck (v:=gn) (x:=c5 r.num r.den) (rest:=58::(c.txt++t)) ajp (by
    intro d hd;have:d=58:=by simpa using hd.symm
    subst this;decide)
   have A0:∀d∈(c5 r.num r.den++(58::(c.txt++t))).head?,d∉abc:=λd hd=>by
    cases e:c5 r.num r.den with
    |nil=>exact(Xc _ _ e).elim
    |cons a x =>
     rw[e]at hd jj;have hd:a=d:=by simpa using hd
     have:=jj a (by simp);rw[<-hd,E1];omega
   obtain⟨bj,fV⟩:=Ck (v:=abc) (x:=[]) (rest:=c5 r.num r.den++(58::(c.txt++t))) (by simp) A0;rw[wY]at bj fV;have Xd:∀z,z=91\/z=40->(c5 r.num r.den++(58::(c.txt++t))).take 1≠[z]:=λz hz e=>by
    cases e5:c5 r.num r.den with
    |nil=>exact(Xc _ _ e5).elim
    |cons a x =>
     rw[e5]at e jj;have e:a=z:=by simpa using e
     have:=jj a (by simp);omega
   rw[if_neg (Xd 91 (.inl rfl)),if_neg (Xd 40 (.inr rfl))];unfold oS;rw[bj,fV,if_neg (by decide),if_neg (by decide),if_neg (by simp)];unfold Cj;rw[au,e2,hr];dsimp only;rw[Cm,if_pos rfl];show(match iW k (c.txt++t)with|some (p,ark)=>_|none=>_)=_;rw[hc];dsimp only;rw[HV]
  |seq =>
   cases cs with
   |nil=>simp[aG.fit]at hf
   |cons p1 cs =>
    cases cs with
    |nil=>simp[aG.fit]at hf
    |cons p2 cs =>
     have cG:aG.wrap .seq ((p1::p2::cs).map af.txt)++t=40::(p1.txt++(cV++(p2.txt++(jm cV (cs.map af.txt)++(41::t))))):=by
      simp only[aG.wrap,c1,N3,jm,wW,List.cons_append,wY]
     rw[cG,Cm,if_neg (by decide),if_pos rfl];show jl (iW k) (p1.txt++_)=_;unfold jl;rw[mB p1 (by simp) _ (ajn _)];dsimp only;rw[N1,if_pos rfl,N2];exact Xb (by decide) (by decide) (by decide) λc hc=>mB c (iZ _ hc)
  |alt =>
   cases cs with
   |nil=>simp[aG.fit]at hf
   |cons p1 cs =>
    cases cs with
    |nil=>simp[aG.fit]at hf
    |cons p2 cs =>
     have cG:aG.wrap .alt ((p1::p2::cs).map af.txt)++t=40::(p1.txt++(eE++(p2.txt++(jm eE (cs.map af.txt)++(41::t))))):=by
      simp only[aG.wrap,c1,N3,jm,wW,List.cons_append,wY]
     rw[cG,Cm,if_neg (by decide),if_pos rfl];show jl (iW k) (p1.txt++_)=_;unfold jl;rw[mB p1 (by simp) _ (ajo _)];dsimp only;rw[if_neg (by simp[eE,cV]),N1,if_pos rfl,N2];exact Xb (by decide) (by decide) (by decide) λc hc=>mB c (iZ _ hc)
open PySem PySem.Spec L2 ZM TL TR
def nL(S:Store)(n:Nat)(w:List Nat)(o:Option (af×List Nat))(out:Out D):Prop :=
 We out (λd ak=>∃p r,o=some (p,r)/\d=p.dat aN/\r <:+ w/\ak=S.set n (a4 w r)) (λe ak=>o=none/\(∃t,e=mA (.str (ao t)))/\∃r,ak=S.set n (a4 w r))
section
variable{S S1:Store}{sl:aL}{w r v:List Nat}{n i:Nat}
theorem G5{m:Str}{g:aD}{fa:cO}{ds:List D}(hm:m∉[Str.ofString "whole",Str.ofString "at"])(hx:sl[0]?=some (some (.ptr n)))(h:S[n]?=some (a4 w r))(ha:fa sl S=.ok ds S):cL m [("TextReader",g)] (ae 0) fa sl S=g (.ptr n::ds) S:=by
 unfold cL;rw[a0 hx];show(match f' S (.ptr n)with|some (c,ns,_)=>_|none=>_)=_;rw[G2 h];dsimp only;rw[if_neg hm];have e:hv [(Str.ofString "TextReader",g)] (Str.ofString "TextReader")=some g:=by simp[hv]
 rw[e];dsimp only;rw[ha];rfl
theorem Xe{fa:aM}(hx:sl[0]?=some (some (.ptr n)))(h:S[n]?=some (a4 w r))(ha:fa sl S=.ok (.str (ao v)) S)(hs:r <:+ w)(hw:w.length<=100000)(hl:Lo w)(bB:Lo v)(yR:v.length<=100) :
  cL "taken" [("TextReader",hG)] (ae 0) (ag fa ai) sl S=.ok (.bl (decide (r.take v.length=v))) (S.set n (a4 w (if r.take v.length=v then r.drop v.length else r))):=by
 rw[G5 (by decide) hx h (bJ ha b0)];exact ajg h hs hw hl bB yR
theorem N5{Q:iQ}(hx:sl[0]?=some (some (.ptr n)))(h:S[n]?=some (a4 w r))(hq:Q.ex (mA (.str (ao w))) sl S):aV (ec (aw (dU "InvalidText" "InvalidText" ["given"]) (ag (c4 "whole" [("TextReader",.fld)] (ae 0)) ai)) sl S) Q:=by
 rw[TB,lg,bJ (G3 hx h) b0,bh,TC];exact⟨rfl,hq⟩
def cH(S:Store)(n:Nat)(w r:List Nat)(ps:List af):Store:=S.set n (a4 w r)++[.lst (ps.map (af.dat aN))]
theorem G6(h:S[n]?=some (a4 w v)){ps:List af}:(cH S n w r ps)[n]?=some (a4 w r):=by
 have hn:=(List.getElem?_eq_some_iff.mp h).1;unfold cH;rw[uc (by simpa using hn)];exact nJ h
theorem G7{ps:List af}:(cH S n w r ps)[S.length]?=some (.lst (ps.map (af.dat aN))):=by
 unfold cH;rw[List.getElem?_append_right (by simp)];simp
theorem N6(h:S[n]?=some (a4 w v)){ps:List af}{r2:List Nat}:(cH S n w r ps).set n (a4 w r2)=cH S n w r2 ps:=by
 have hn:=(List.getElem?_eq_some_iff.mp h).1;unfold cH;rw[HQ _ _ (by simpa using hn),r3]
theorem ajq{ps:List af}{p:af}:(cH S n w r ps).set S.length (.lst (ps.map (af.dat aN)++[p.dat aN]))=cH S n w r (ps++[p]):=by
 unfold cH;rw[List.set_append_right _ _ (by simp)];simp
theorem yT{r:List Nat}:fG S (S.set n (a4 w r)):=fG.set G4
theorem N7{P:D->Store->Prop}{ps:List af}{e:D}(he:∃t,e=mA (.str (ao t)))(p:P e (S.set n (a4 w r))):eY S P e (cH S n w r ps):=by
 obtain⟨t,rfl⟩:=he;exact Ax yT rfl p
theorem ajr{fe:aM}{ps:List af}{p:af}{r2:List Nat}{sl:aL}(h:S[n]?=some (a4 w v))(hx:sl[2]?=some (some (.ptr S.length)))(hf:fe sl (cH S n w r ps)=.ok (p.dat aN) (cH S n w r2 ps))(hl:ps.length<=100000) :
  dR hS qG (ae 2) (ag fe ai) sl (cH S n w r ps)=.ok .non (cH S n w r2 (ps++[p])):=by
 unfold dR;rw[a0 hx];show(if hS (cH S n w r ps) (.ptr S.length)=true then _ else _)=_;rw[if_pos (E2 G7)];have ha:ag fe ai sl (cH S n w r ps)=.ok [p.dat aN] (cH S n w r2 ps):=by
  unfold ag;rw[hf];rfl
 rw[ha];show qG (.ptr S.length) [p.dat aN] (cH S n w r2 ps)=_;unfold qG;dsimp only;rw[G7];dsimp only;rw[if_pos (by rw[List.length_map];omega),ajq]
theorem G8{again:aD}{d:Int}{S2:Store}(h0:sl[0]?=some (some (.ptr n)))(h1:sl[1]?=some (some (.int d)))(h:S2[n]?=some (a4 w r)):cL "plan" [("TextReader",again)] (ae 0) (ag (az b7 (ae 1) (ah (.int 1))) ai) sl S2=again [.ptr n,.int (d+1)] S2 :=
 G5 (by decide) h0 h (bJ (d6 (a0 h1) rfl (RU _ _ _)) b0)
theorem ajs{P:jk}{s:List Nat}{m:Nat}{r:List Nat}(hq:r.take s.length=s)(hs:s≠[])(hm:r.length<=m):∃k,m=k+1/\(r.drop s.length).length<=k/\(∀p r2,P (r.drop s.length)=some (p,r2)->iV P s m r=(iV P s k r2).map λx=>(p::x.1,x.2))/\(P (r.drop s.length)=none->iV P s m r=none):=by
 have hl:s.length<=r.length:=by
  have:=congrArg List.length hq;rw[List.length_take]at this;omega
 have h1:1<=s.length:=List.length_pos_iff.mpr hs;cases m with
 |zero=>omega
 |succ k =>
  refine⟨k,rfl,by rw[List.length_drop];omega,λp r2 e=>?_,λe=>?_⟩
  .rw[iV,if_pos hq,e]
  .rw[iV,if_pos hq,e]
theorem ajt{P:jk}{s:List Nat}{m:Nat}{r:List Nat}(hq:r.take s.length≠s):iV P s m r=some ([],r):=by
 cases m with
 |zero=>rfl
 |succ k=>rw[iV,if_neg hq]
theorem aju{fe:aM}{fa:cO}{e:D}{S2:Store}(h:fe sl S=.ex e S2):ag fe fa sl S=.ex e S2:=by
 unfold ag;rw[h];rfl
theorem Xf{P:jk}{again:aD}{d:Int}{ps:List af}{Q:iQ}{sl:aL}(p6:∀(S:Store) (r:List Nat),r <:+ w->S[n]?=some (a4 w r)->nL S n w (P r) (again [.ptr n,.int (d+1)] S))(h:S[n]?=some (a4 w v))(hs:r <:+ w)(hl:ps.length<=100000)(h0:sl[0]?=some (some (.ptr n)))(h1:sl[1]?=some (some (.int d)))(h2:sl[2]?=some (some (.ptr S.length)))
  (hok:∀p r2,P r=some (p,r2)->r2 <:+ w->Q.nx sl (cH S n w r2 (ps++[p]))) (Bp:P r=none->∀t r2,Q.ex (mA (.str (ao t))) sl (cH S n w r2 ps)) :
  aV (jw (dR hS qG (ae 2) (ag (cL "plan" [("TextReader",again)] (ae 0) (ag (az b7 (ae 1) (ah (.int 1))) ai)) ai)) sl (cH S n w r ps)) Q:=by
 have hp:=G8 (again:=again) (sl:=sl) (d:=d) (S2:=cH S n w r ps) h0 h1 (G6 h);have hg:=p6 (cH S n w r ps) r hs (G6 h);rw[<-hp]at hg;unfold nL at hg;cases aQ:cL "plan" [("TextReader",again)] (ae 0) (ag (az b7 (ae 1) (ah (.int 1))) ai) sl (cH S n w r ps)with
 |ok x S2 =>
  rw[aQ,bh]at hg;obtain⟨p,r2,e,rfl,iw,rfl⟩:=hg;rw[N6 h]at aQ;rw[R3,ajr h h2 aQ hl,bh];exact hok p r2 e iw
 |ex e S2 =>
  rw[aQ,xN]at hg;obtain⟨hn,⟨t,rfl⟩,r2,rfl⟩:=hg;rw[N6 h]at aQ;have ee:dR hS qG (ae 2) (ag (cL "plan" [("TextReader",again)] (ae 0) (ag (az b7 (ae 1) (ah (.int 1))) ai)) ai) sl (cH S n w r ps)=.ex (mA (.str (ao t))) (cH S n w r2 ps):=by
   unfold dR;rw[a0 h2];show(if hS (cH S n w r ps) (.ptr S.length)=true then _ else _)=_;rw[if_pos (E2 G7)];have ha:=aju (fa:=ai) aQ;rw[ha];rfl
  rw[R3,ee,xN];exact Bp hn t r2
 |bad=>rw[aQ,J9]at hg;exact hg.elim
theorem ajv{P:jk}{again:aD}{d:Int}(bu:Suf P)(hw:w.length<=1000)(hl:Lo w)(p6:∀(S:Store) (r:List Nat),r <:+ w->S[n]?=some (a4 w r)->nL S n w (P r) (again [.ptr n,.int (d+1)] S))(h:S[n]?=some (a4 w r))(hs:r <:+ w):nL S n w (jl P r) (B7 again [.ptr n,.int d] S):=by
 unfold B7 nL;refine eo rfl ?_;show aV (wk again [some (.ptr n),some (.int d),none,none] S) _;unfold wk;have arl:=(List.getElem?_eq_some_iff.mp h).1;have Xg:Lo cV:=λc hc=>by simp[cV]at hc;omega
 have Xh:Lo eE:=λc hc=>by simp[eE]at hc;omega
 have ajw:Lo [41]:=λc hc=>by simp at hc;omega
 refine jar (λsl S1=>∃p1 r1,P r=some (p1,r1)/\r1 <:+ w/\S1=cH S n w r1 [p1]/\sl=[some (.ptr n),some (.int d),some (.ptr S.length),none]) ?_ ?_
 .rw[jR,lg,jc,G8 (S2:=S) rfl rfl h]
  refine(p6 S r hs h).mono ?_ ?_
  .rintro x S1 ⟨p1,r1,e,rfl,m',rfl⟩
   rw[pz];have:mM [p1.dat aN] (S.set n (a4 w r1))=.ok (.ptr S.length) (cH S n w r1 [p1]):=by
    unfold mM;rw[if_pos (by simp),List.length_set];rfl
   rw[this,bh,ie];exact⟨p1,r1,e,m',rfl,rfl⟩
  .rintro e S1 ⟨aQ,he,r1,rfl⟩
   obtain⟨t,rfl⟩:=he;dsimp only;rw[qT];refine ox yT rfl ⟨?_,⟨t,rfl⟩,r1,rfl⟩;unfold jl;rw[aQ]
 rintro sl S1 ⟨p1,r1,ajx,m',rfl,rfl⟩;have oT:jl P r=if r1.take cV.length=cV then nK P .seq cV p1 (r1.drop cV.length)else if r1.take eE.length=eE then nK P .alt eE p1 (r1.drop eE.length)else none:=by
  unfold jl;rw[ajx]
 have hex:∀{sl:aL} {bW:List Nat} {ps:List af} {Q:iQ},jl P r=none->sl[0]?=some (some (.ptr n))->Q.ex=(sG S (λd ak=>∃p bM,jl P r=some (p,bM)/\d=p.dat aN/\bM <:+ w/\ak=S.set n (a4 w bM)) (λe ak=>jl P r=none/\(∃t,e=mA (.str (ao t)))/\∃bM,ak=S.set n (a4 w bM))).ex->aV (ec (aw (dU "InvalidText" "InvalidText" ["given"]) (ag (c4 "whole" [("TextReader",.fld)] (ae 0)) ai)) sl (cH S n w bW ps)) Q:=λ{sl bW ps Q} aQ hx eC=>by
  refine N5 hx (G6 h) ?_;rw[eC,qT];exact N7 ⟨w,rfl⟩ ⟨aQ,⟨w,rfl⟩,bW,rfl⟩
 have htk:∀{sl:aL} {bW:List Nat} {ps:List af} {fa:aM} (v:List Nat),sl[0]?=some (some (.ptr n))->bW <:+ w->Lo v->v.length<=100->fa sl (cH S n w bW ps)=.ok (.str (ao v)) (cH S n w bW ps)->cL "taken" [("TextReader",hG)] (ae 0) (ag fa ai) sl (cH S n w bW ps)=.ok (.bl (decide (bW.take v.length=v))) (cH S n w (if bW.take v.length=v then bW.drop v.length else bW) ps):=λ{sl bW ps fa} v hx hr bB yR hf=>by
  rw[Xe hx (G6 h) hf hr (by omega) hl bB yR,N6 h]
 refine jar (λsl S1=>S1=cH S n w (if r1.take cV.length=cV then r1.drop cV.length else r1) [p1]/\sl=[some (.ptr n),some (.int d),some (.ptr S.length),some (.str (Str.ofString (if r1.take cV.length=cV then "seq" else "alt")))]) ?_ ?_
 .have au:=htk (ps:=[p1]) (fa:=ah (.str ", ")) (sl:=[some (.ptr n),some (.int d),some (.ptr S.length),none]) cV rfl m' Xg (by decide) rfl
  have e2:eT (aK (cL "taken" [("TextReader",hG)] (ae 0) (ag (ah (.str ", ")) ai))) (ah (.str "seq")) (ah (.str "alt")) [some (.ptr n),some (.int d),some (.ptr S.length),none] (cH S n w r1 [p1])=.ok (.str (Str.ofString (if r1.take cV.length=cV then "seq" else "alt"))) (cH S n w (if r1.take cV.length=cV then r1.drop cV.length else r1) [p1]):=by
   refine bO ?_;rw[Kf,fO,au,bh,eJ];by_cases q:r1.take cV.length=cV
   .rw[decide_eq_true q,if_pos rfl,if_pos q,if_pos q]
    simp
   .rw[decide_eq_false q,if_neg (by simp),if_neg q,if_neg q]
    simp
  rw[jR,e2,bh,ie];exact⟨rfl,rfl⟩
 rintro sl S1 ⟨rfl,rfl⟩;refine jar (λsl S1=>∃(k:aG) (s r2:List Nat),(k=.seq/\s=cV\/k=.alt/\s=eE)/\jl P r=nK P k s p1 r2/\r2 <:+ w/\S1=cH S n w r2 [p1]/\sl=[some (.ptr n),some (.int d),some (.ptr S.length),some (.str (Str.ofString k.word))]) ?_ ?_
 .by_cases q:r1.take cV.length=cV
  .rw[if_pos q]at oT ⊢
   rw[if_pos q,jb,Ez,fO];have fY:az (aU false) (ae 3) (ah (.str "alt")) [some (.ptr n),some (.int d),some (.ptr S.length),some (.str (Str.ofString "seq"))] (cH S n w (r1.drop cV.length) [p1])=.ok (.bl false) (cH S n w (r1.drop cV.length) [p1]):=d6 (a0 (i:=3) rfl) rfl (bO (by simp));rw[fY,bh,eJ,if_neg (by simp),if_neg (by simp),kr];exact⟨.seq,cV,_,.inl ⟨rfl,rfl⟩,oT,(jH _ _).trans m',rfl,rfl⟩
  .rw[if_neg q]at oT ⊢
   rw[if_neg q,jb,Ez,fO];have fY:az (aU false) (ae 3) (ah (.str "alt")) [some (.ptr n),some (.int d),some (.ptr S.length),some (.str (Str.ofString "alt"))] (cH S n w r1 [p1])=.ok (.bl true) (cH S n w r1 [p1]):=d6 (a0 (i:=3) rfl) rfl (bO (by simp));have au:=htk (ps:=[p1]) (fa:=ah (.str " | ")) (sl:=[some (.ptr n),some (.int d),some (.ptr S.length),some (.str (Str.ofString "alt"))]) eE rfl m' Xh (by decide) rfl;rw[fY,bh,eJ,if_pos rfl,ow,fO,au,bh,eJ];by_cases bz:r1.take eE.length=eE
   .rw[if_pos bz]at oT ⊢
    rw[decide_eq_true bz,if_neg (by simp),kr];exact⟨.alt,eE,_,.inr ⟨rfl,rfl⟩,oT,(jH _ _).trans m',rfl,rfl⟩
   .rw[if_neg bz]at oT ⊢
    rw[decide_eq_false bz,if_pos (by simp)];exact hex oT rfl rfl
 rintro sl S1 ⟨k,s,r2,hk,N8,iw,rfl,rfl⟩;have sP:Lo s/\s≠[]/\s.length<=100:=by
  rcases hk with⟨_,rfl⟩|⟨_,rfl⟩
  .exact⟨Xg,by decide,by decide⟩
  .exact⟨Xh,by decide,by decide⟩
 have ajy:∀S2,eT (aK (az (aU false) (ae 3) (ah (.str "seq")))) (ah (.str ", ")) (ah (.str " | ")) [some (.ptr n),some (.int d),some (.ptr S.length),some (.str (Str.ofString k.word))] S2=.ok (.str (ao s)) S2:=λS2=>by
  rcases hk with⟨rfl,rfl⟩|⟨rfl,rfl⟩
  .exact bO (by simp[aG.word,GZ])
  .exact bO (by simp[aG.word,G0])
 refine jar (λsl S1=>∃p2 bU,P r2=some (p2,bU)/\bU <:+ w/\S1=cH S n w bU [p1,p2]/\sl=[some (.ptr n),some (.int d),some (.ptr S.length),some (.str (Str.ofString k.word))]) ?_ ?_
 .refine Xf p6 h iw (by simp) rfl rfl rfl (λp2 bU e p7=>⟨p2,bU,e,p7,rfl,rfl⟩) λe t bU=>?_
  dsimp only;rw[qT];refine N7 ⟨t,rfl⟩ ⟨?_,⟨t,rfl⟩,bU,rfl⟩;rw[N8];unfold nK;rw[e]
 rintro sl S1 ⟨p2,bU,Xi,p7,rfl,rfl⟩;have yU:∀ps cI,iV P s bU.length bU=some (ps,cI)->jl P r=if cI.take 1=[41]then some (.nd k (p1::p2::ps),cI.drop 1)else none:=λps cI e=>by
  rw[N8];unfold nK;rw[Xi];dsimp only;rw[e]
 have ajz:iV P s bU.length bU=none->jl P r=none:=λe=>by
  rw[N8];unfold nK;rw[Xi];dsimp only;rw[e]
 have arn:=p7.length_le;refine jar (λsl S1=>∃aZ cI,iV P s bU.length bU=some (aZ,cI)/\aZ.length<=1000/\cI <:+ w/\S1=cH S n w cI (p1::p2::aZ)/\sl=[some (.ptr n),some (.int d),some (.ptr S.length),some (.str (Str.ofString k.word))]) ?_ ?_
 .refine Ay bU.length (λm sl S1=>∃aZ bW,iV P s bU.length bU=(iV P s m bW).map (λx=>(aZ++x.1,x.2))/\bW.length<=m/\aZ.length+m<=1000/\bW <:+ w/\S1=cH S n w bW (p1::p2::aZ)/\sl=[some (.ptr n),some (.int d),some (.ptr S.length),some (.str (Str.ofString k.word))]) ⟨[],bU,by simp,Nat.le_refl _,by simp;omega,p7,rfl,rfl⟩ (by omega) ?_
  rintro m sl S1 ⟨aZ,bW,Cp,hm,hq,N9,rfl,rfl⟩;have au:=htk (ps:=p1::p2::aZ) (sl:=[some (.ptr n),some (.int d),some (.ptr S.length),some (.str (Str.ofString k.word))]) s rfl N9 sP.1 sP.2.2 (ajy _);rw[fO,au,bh,eJ];by_cases q:bW.take s.length=s
  .obtain⟨eU,rfl,gF,ajA,Bp⟩:=ajs (P:=P) q sP.2.1 hm
   rw[decide_eq_true q,if_pos rfl,if_pos q];refine Xf p6 h ((jH _ _).trans N9) (by simp;omega) rfl rfl rfl (λp hQ e ajB=>⟨eU,by omega,aZ++[p],hQ,?_,?_,?_,ajB,rfl,rfl⟩) λe t hQ=>?_
   .rw[Cp,ajA p hQ e,Option.map_map]
    congr 1;funext x;simp
   .have:=(bu _ _ _ e).length_le
    omega
   .rw[List.length_append,List.length_singleton];omega
   .dsimp only
    rw[qT];refine N7 ⟨t,rfl⟩ ⟨?_,⟨t,rfl⟩,hQ,rfl⟩;refine ajz ?_;rw[Cp,Bp e];rfl
  .rw[decide_eq_false q,if_neg (by simp),if_neg q]
   refine⟨aZ,bW,?_,by omega,N9,rfl,rfl⟩;rw[Cp,ajt q];simp
 rintro sl S1 ⟨aZ,cI,Cp,hq,Xj,rfl,rfl⟩;have yU:=yU aZ cI Cp;have au:=htk (ps:=p1::p2::aZ) (fa:=ah (.str ")")) (sl:=[some (.ptr n),some (.int d),some (.ptr S.length),some (.str (Str.ofString k.word))]) [41] rfl Xj ajw (by decide) rfl;refine jar (λsl S1=>cI.take 1=[41]/\S1=cH S n w (cI.drop 1) (p1::p2::aZ)/\sl=[some (.ptr n),some (.int d),some (.ptr S.length),some (.str (Str.ofString k.word))]) ?_ ?_
 .rw[jb,ow,fO,au,bh,eJ]
  by_cases q:cI.take 1=[41]
  .have q':cI.take [41].length=[41]:=q
   rw[if_pos q',decide_eq_true q',if_neg (by simp),kr];exact⟨q,rfl,rfl⟩
  .have q':¬cI.take [41].length=[41]:=q
   rw[if_neg q',decide_eq_false q',if_pos (by simp)];rw[if_neg q]at yU;exact hex yU rfl rfl
 rintro sl S1 ⟨q,rfl,rfl⟩;rw[if_pos q]at yU;have gR:md (ae 2) ai [some (.ptr n),some (.int d),some (.ptr S.length),some (.str (Str.ofString k.word))] (cH S n w (cI.drop 1) (p1::p2::aZ))=.ok ((p1::p2::aZ).map (af.dat aN)) (cH S n w (cI.drop 1) (p1::p2::aZ)):=by
  refine ahU (a0 (i:=2) rfl) ?_;show c9 _ (.ptr S.length)=_;simp[c9,cY,G7]
 have ajC:(af.nd k (p1::p2::aZ)).dat aN=.tup (.str (Str.ofString k.word)::(p1::p2::aZ).map (af.dat aN)):=by
  rw[af.ep];rcases hk with⟨rfl,rfl⟩|⟨rfl,rfl⟩<;>rfl
 have ht:=ri (bJ (a0 (i:=3) (sl:=[some (.ptr n),some (.int d),some (.ptr S.length),some (.str (Str.ofString k.word))]) rfl) gR) (by simp;omega);refine oQ ht ?_;rw[jS,<-ajC];exact Ax yT (mz p5 _ _) ⟨_,_,yU,rfl,(jH _ _).trans Xj,rfl⟩
end
section
variable{S S1:Store}{sl:aL}{w r v:List Nat}{n i:Nat}
theorem G9{a:Nat}(h:a<128):Lo [a]:=λc hc=>by simp at hc;omega
theorem ajD{m:Nat}{p q:Int}(h:LT m p q):aN (Rat.divInt p q)=hC p q:=by
 obtain⟨h1,h2⟩:=VC h.pos (Rat.divInt p q) rfl;unfold aN;rw[<-h1,<-h2,h.num,h.den]
theorem Xk{v:List Nat}{fa:aM}(hx:sl[0]?=some (some (.ptr n)))(h:S[n]?=some (a4 w r))(hs:r <:+ w)(hw:w.length<=100000)(ha:fa sl S=.ok (.str (ao v)) S) :
  cL "run_of" [("TextReader",pZ)] (ae 0) (ag fa ai) sl S=.ok (.str (ao (er v r))) (S.set n (a4 w (ef v r))):=by
 rw[G5 (by decide) hx h (bJ ha b0)];exact ajj h hs hw
theorem ajE:Str.ofString "-/0123456789"=ao gn:=by decide +kernel
theorem Xl(h:Lo r){v:List Nat}:Lo (er v r):=λc hc=>h c (List.takeWhile_subset _ hc)
theorem Xm(h:Lo w)(hs:r <:+ w):Lo r:=λc hc=>h c (hs.subset hc)
theorem Xn(hw:w.length<=1000)(hl:Lo w):∀k,k<=8->∀(S:Store) (r:List Nat),r <:+ w->S[n]?=some (a4 w r)->nL S n w (iW k r) (lC (k+1) [.ptr n,.int (9 - (k:Int))] S)
 |0,_,S,r,hs,h=>by
  unfold nL;rw[lC];refine eo rfl ?_;show aV (p3 (lC 0) [some (.ptr n),some (.int 9),none,none,none] S) _;unfold p3;refine jar (λ_ _=>False) ?_ (λ_ _ h=>h.elim);rw[jb];have e:aK (az kg (ae 1) (ah (.int 8))) [some (.ptr n),some (.int 9),none,none,none] S=.ok true S:=by rfl
  rw[e,bh,if_pos rfl];refine N5 rfl h ?_;dsimp only;rw[qT];refine dI rfl ⟨rfl,⟨w,rfl⟩,r,?_⟩;obtain⟨hn,e⟩:=List.getElem?_eq_some_iff.mp h;rw[<-e,y3]
 |k+1,hk,S,r,hs,h=>by
  have ih:=Xn hw hl k (by omega);have hd:(9 - ((k+1:Nat):Int))+1=9 - (k:Int):=by omega
  rw[<-hd]at ih;have Xo:¬(8:Int)<9 - ((k+1:Nat):Int):=by omega
  generalize (9 - ((k+1:Nat):Int))=d at ih Xo ⊢;unfold nL;rw[lC];generalize lC (k+1)=again at ih ⊢;refine eo rfl ?_;show aV (p3 again [some (.ptr n),some (.int d),none,none,none] S) _;unfold p3;have bu:=W' k;have eO:iW (k+1) r=if r.take 1=[91]then wz (iW k) (r.drop 1)else if r.take 1=[40]then jl (iW k) (r.drop 1)else oS (iW k) r:=rfl
  generalize iW (k+1) r=o at eO ⊢;generalize iW k=P at ih bu eO;have hex:∀{sl:aL} {bW:List Nat} {Q:iQ},o=none->sl[0]?=some (some (.ptr n))->Q.ex=(sG S (λd ak=>∃p bM,o=some (p,bM)/\d=p.dat aN/\bM <:+ w/\ak=S.set n (a4 w bM)) (λe ak=>o=none/\(∃t,e=mA (.str (ao t)))/\∃bM,ak=S.set n (a4 w bM))).ex->aV (ec (aw (dU "InvalidText" "InvalidText" ["given"]) (ag (c4 "whole" [("TextReader",.fld)] (ae 0)) ai)) sl (S.set n (a4 w bW))) Q:=λ{sl bW Q} aQ hx eC=>by
   refine N5 hx (nJ h) ?_;rw[eC,qT];exact ox yT rfl ⟨aQ,⟨w,rfl⟩,bW,rfl⟩
  have htk:∀{sl:aL} {bW:List Nat} {fa:aM} (v:List Nat),sl[0]?=some (some (.ptr n))->bW <:+ w->Lo v->v.length<=100->fa sl (S.set n (a4 w bW))=.ok (.str (ao v)) (S.set n (a4 w bW))->cL "taken" [("TextReader",hG)] (ae 0) (ag fa ai) sl (S.set n (a4 w bW))=.ok (.bl (decide (bW.take v.length=v))) (S.set n (a4 w (if bW.take v.length=v then bW.drop v.length else bW))):=λ{sl bW fa} v hx hr bB yR hf=>by
   rw[Xe hx (nJ h) hf hr (by omega) hl bB yR,r3]
  have p6:∀{bW:List Nat},bW <:+ w->nL S n w (P bW) (again [.ptr n,.int (d+1)] (S.set n (a4 w bW))):=λ{bW} hr=>by
   have:=ih (S.set n (a4 w bW)) bW hr (nJ h);unfold nL at this ⊢;simpa only[r3]using this
  have yV:∀{p:af} {bW:List Nat},o=some (p,bW)->bW <:+ w->eY S (λd ak=>∃p bM,o=some (p,bM)/\d=p.dat aN/\bM <:+ w/\ak=S.set n (a4 w bM)) (p.dat aN) (S.set n (a4 w bW)):=λ{p bW} aQ hr=>ox yT (mz p5 p _) ⟨p,bW,aQ,rfl,hr,rfl⟩;have G_:∀{t bW:List Nat},o=none->eY S (λe ak=>o=none/\(∃t,e=mA (.str (ao t)))/\∃bM,ak=S.set n (a4 w bM)) (mA (.str (ao t))) (S.set n (a4 w bW)):=λ{t bW} aQ=>ox yT rfl ⟨aQ,⟨t,rfl⟩,bW,rfl⟩;have eI:S=S.set n (a4 w r):=by
   obtain⟨hn,e⟩:=List.getElem?_eq_some_iff.mp h;rw[<-e,y3]
  refine jar (λsl S1=>S1=S.set n (a4 w r)/\sl=[some (.ptr n),some (.int d),none,none,none]) ?_ ?_
  .rw[jb]
   have e:aK (az kg (ae 1) (ah (.int 8))) [some (.ptr n),some (.int d),none,none,none] S=.ok false S:=by
    have:az kg (ae 1) (ah (.int 8)) [some (.ptr n),some (.int d),none,none,none] S=.ok (.bl (decide (8<d))) S:=d6 (a0 (i:=1) rfl) rfl (aa9 _ _ _);unfold aK;rw[this,decide_eq_false Xo];rfl
   rw[e,bh,if_neg (by simp),kr];exact⟨eI,rfl⟩
  rintro sl S1 ⟨rfl,rfl⟩;refine jar (λsl S1=>r.take 1≠[91]/\S1=S.set n (a4 w r)/\sl=[some (.ptr n),some (.int d),none,none,none]) ?_ ?_
  .have au:=htk (fa:=ah (.str "[")) (sl:=[some (.ptr n),some (.int d),none,none,none]) [91] rfl hs (G9 (by decide)) (by decide) rfl
   rw[jb,fO,au,bh,eJ];by_cases q:r.take 1=[91]
   .have q':r.take [91].length=[91]:=q
    rw[if_pos q]at eO;rw[decide_eq_true q',if_pos rfl,if_pos q'];have m':r.drop 1 <:+ w:=(jH _ _).trans hs;show aV (aO _ _ _ (S.set n (a4 w (r.drop 1)))) _;refine jar (λsl S1=>∃p r2,P (r.drop 1)=some (p,r2)/\r2 <:+ w/\S1=S.set n (a4 w r2)/\sl=[some (.ptr n),some (.int d),some ((af.nd .loop [p]).dat aN),none,none]) ?_ ?_
    .rw[jR,lg,jc]
     show We (Out.ok _ _) _ _;rw[bh,jc,G8 (S2:=S.set n (a4 w (r.drop 1))) rfl rfl (nJ h)];refine(p6 m').mono ?_ ?_
     .rintro x S1 ⟨p,r2,e,rfl,iw,rfl⟩
      rw[pz,Ss];refine⟨by simp,?_⟩;rw[ie];refine⟨p,r2,e,iw,rfl,?_⟩;rw[af.ep];rfl
     .rintro e S1 ⟨aQ,⟨t,rfl⟩,r2,rfl⟩
      dsimp only;rw[qT];refine G_ ?_;rw[eO];unfold wz;rw[aQ]
    rintro sl S1 ⟨p,r2,dF,iw,rfl,rfl⟩;have BJ:o=if r2.take 1=[93]then some (.nd .loop [p],r2.drop 1)else none:=by
     rw[eO];unfold wz;rw[dF]
    have e2:=htk (fa:=ah (.str "]")) (sl:=[some (.ptr n),some (.int d),some ((af.nd .loop [p]).dat aN),none,none]) [93] rfl iw (G9 (by decide)) (by decide) rfl;refine jar (λsl S1=>r2.take 1=[93]/\S1=S.set n (a4 w (r2.drop 1))/\sl=[some (.ptr n),some (.int d),some ((af.nd .loop [p]).dat aN),none,none]) ?_ ?_
    .rw[jb,ow,fO,e2,bh,eJ]
     by_cases bz:r2.take 1=[93]
     .have Cq:r2.take [93].length=[93]:=bz
      rw[if_pos Cq,decide_eq_true Cq,if_neg (by simp),kr];exact⟨bz,rfl,rfl⟩
     .have Cq:¬r2.take [93].length=[93]:=bz
      rw[if_neg Cq,decide_eq_false Cq,if_pos (by simp)];rw[if_neg bz]at BJ;exact hex BJ rfl rfl
    rintro sl S1 ⟨bz,rfl,rfl⟩;rw[if_pos bz]at BJ;refine oQ (a0 (i:=2) rfl) ?_;exact yV BJ ((jH _ _).trans iw)
   .have q':¬r.take [91].length=[91]:=q
    rw[decide_eq_false q',if_neg (by simp),if_neg q',kr];exact⟨q,rfl,rfl⟩
  rintro sl S1 ⟨bw,rfl,rfl⟩;rw[if_neg bw]at eO;refine jar (λsl S1=>r.take 1≠[40]/\S1=S.set n (a4 w r)/\sl=[some (.ptr n),some (.int d),none,none,none]) ?_ ?_
  .have au:=htk (fa:=ah (.str "(")) (sl:=[some (.ptr n),some (.int d),none,none,none]) [40] rfl hs (G9 (by decide)) (by decide) rfl
   rw[jb,fO,au,bh,eJ];by_cases q:r.take 1=[40]
   .have q':r.take [40].length=[40]:=q
    rw[if_pos q]at eO;rw[decide_eq_true q',if_pos rfl,if_pos q'];have m':r.drop 1 <:+ w:=(jH _ _).trans hs;have oT:=ajv (n:=n) (S:=S.set n (a4 w (r.drop 1))) (d:=d) bu hw hl (λS r hr h=>ih S r hr h) (nJ h) m';unfold nL at oT;simp only[r3]at oT;rw[sF,G5 (ds:=[.int d]) (by decide) rfl (nJ h) (bJ (a0 (i:=1) rfl) b0)];refine oT.mono ?_ ?_
    .rintro x S1 ⟨p,r2,e,rfl,iw,rfl⟩
     exact yV (eO.trans e) iw
    .rintro e S1 ⟨aQ,⟨t,rfl⟩,r2,rfl⟩
     exact G_ (eO.trans aQ)
   .have q':¬r.take [40].length=[40]:=q
    rw[decide_eq_false q',if_neg (by simp),if_neg q',kr];exact⟨q,rfl,rfl⟩
  rintro sl S1 ⟨bz,rfl,rfl⟩;rw[if_neg bz]at eO;have ajF:=Xm hl hs;have du:ef abc r <:+ w:=wA.trans hs;refine jar (λsl S1=>S1=S.set n (a4 w (ef abc r))/\sl=[some (.ptr n),some (.int d),none,some (.str (ao (er abc r))),none]) ?_ ?_
  .have au:=Xk (v:=abc) (fa:=ah (.str "abcdefghijklmnopqrstuvwxyz")) (sl:=[some (.ptr n),some (.int d),none,none,none]) rfl (nJ h) hs (by omega) (by rw[SG];rfl)
   rw[r3]at au;rw[jR,au,bh,ie];exact⟨rfl,rfl⟩
  rintro sl S1 ⟨rfl,rfl⟩;unfold oS at eO;refine jar (λsl S1=>(er abc r≠wx/\er abc r≠wy)/\S1=S.set n (a4 w (ef abc r))/\sl=[some (.ptr n),some (.int d),none,some (.str (ao (er abc r))),none]) ?_ ?_
  .have au:az e' (ae 3) (ah (.tup [.str "stay",.str "none"])) [some (.ptr n),some (.int d),none,some (.str (ao (er abc r))),none] (S.set n (a4 w (ef abc r)))=.ok (.bl (decide (er abc r=wx\/er abc r=wy))) (S.set n (a4 w (ef abc r))):=d6 (a0 (i:=3) rfl) rfl NM
   rw[jb,fO,au,bh,eJ];by_cases q:er abc r=wx\/er abc r=wy
   .rw[decide_eq_true q,if_pos rfl]
    have et:aw b2 (ag (ae 3) ai) [some (.ptr n),some (.int d),none,some (.str (ao (er abc r))),none] (S.set n (a4 w (ef abc r)))=.ok (.tup [.str (ao (er abc r))]) (S.set n (a4 w (ef abc r))):=ri (bJ (a0 (i:=3) rfl) b0) (by simp);refine oQ et ?_;rcases q with q|q
    .rw[if_pos q]at eO
     have:=yV eO du;rw[af.ep]at this;rw[q];exact this
    .rw[if_neg (by rw[q];decide),if_pos q]at eO
     have:=yV eO du;rw[af.ep]at this;rw[q];exact this
   .rw[decide_eq_false q,if_neg (by simp),kr]
    exact⟨⟨λz=>q (.inl z),λz=>q (.inr z)⟩,rfl,rfl⟩
  rintro sl S1 ⟨⟨n1,n2⟩,rfl,rfl⟩;rw[if_neg n1,if_neg n2]at eO;refine jar (λsl S1=>er abc r=[]/\S1=S.set n (a4 w (ef abc r))/\sl=[some (.ptr n),some (.int d),none,some (.str (ao (er abc r))),none]) ?_ ?_
  .have au:az (aU true) (ae 3) (ah (.str "")) [some (.ptr n),some (.int d),none,some (.str (ao (er abc r))),none] (S.set n (a4 w (ef abc r)))=.ok (.bl (!decide (er abc r=[]))) (S.set n (a4 w (ef abc r))):=d6 (a0 (i:=3) rfl) rfl (vh (b:=[]) (p4 (Xl ajF)) (by intro c hc;cases hc))
   rw[jb,fO,au,bh,eJ];by_cases q:er abc r=[]
   .rw[decide_eq_true q,if_neg (by simp),kr]
    exact⟨q,rfl,rfl⟩
   .rw[decide_eq_false q,if_pos (by simp)]
    rw[if_pos q]at eO;have et:aw b2 (ag (ah (.str "go")) (ag (ae 3) ai)) [some (.ptr n),some (.int d),none,some (.str (ao (er abc r))),none] (S.set n (a4 w (ef abc r)))=.ok (.tup [.str "go",.str (ao (er abc r))]) (S.set n (a4 w (ef abc r))):=ri (bJ rfl (bJ (a0 (i:=3) rfl) b0)) (by simp);refine oQ et ?_;have:=yV eO du;rw[af.ep]at this;exact this
  rintro sl S1 ⟨xC,rfl,rfl⟩;rw[if_neg (by simp[xC])]at eO;have n_:ef gn (ef abc r) <:+ w:=wA.trans du;have Km:=Xm hl du;generalize d4:ef abc r=R at eO du n_ Km;have aro:=du.length_le;have mn:(er gn R).length<=1000:=by
   have:=(List.takeWhile_prefix (l:=R) (λc=>decide (c∈gn))).length_le;unfold er;omega
  have au:=Xk (v:=gn) (fa:=ah (.str "-/0123456789")) (sl:=[some (.ptr n),some (.int d),none,some (.str (ao (er abc r))),none]) rfl (nJ h) du (by omega) (by rw[ajE];rfl);rw[r3]at au;have e2:=ait (S:=S.set n (a4 w (ef gn R))) (Xl (v:=gn) Km) mn;unfold Cj at eO;cases hq:hY (er gn R)with
  |none =>
   rw[hq]at e2 eO;refine jar (λ_ _=>False) ?_ (λ_ _ h=>h.elim);rw[jR,lg,jc,au,bh,pz,e2];show We (Out.ex _ _) _ _;rw[xN];dsimp only;rw[qT];exact G_ eO
  |some tT =>
   rw[hq]at e2 eO;dsimp only at eO;have e2:rJ [.str (ao (er gn R))] (S.set n (a4 w (ef gn R)))=.ok (aN (Rat.divInt tT.1 tT.2)) (S.set n (a4 w (ef gn R))):=by
    rw[e2,ajD (aif hq)];rfl
   refine jar (λsl S1=>S1=S.set n (a4 w (ef gn R))/\sl=[some (.ptr n),some (.int d),none,some (.str (ao (er abc r))),some (aN (Rat.divInt tT.1 tT.2))]) ?_ ?_
   .rw[jR,lg,jc,au,bh,pz,e2,bh,ie]
    exact⟨rfl,rfl⟩
   rintro sl S1 ⟨rfl,rfl⟩;have bj:=htk (fa:=ah (.str ":")) (sl:=[some (.ptr n),some (.int d),none,some (.str (ao (er abc r))),some (aN (Rat.divInt tT.1 tT.2))]) [58] rfl n_ (G9 (by decide)) (by decide) rfl;refine jar (λsl S1=>(ef gn R).take 1=[58]/\S1=S.set n (a4 w ((ef gn R).drop 1))/\sl=[some (.ptr n),some (.int d),none,some (.str (ao (er abc r))),some (aN (Rat.divInt tT.1 tT.2))]) ?_ ?_
   .rw[jb,ow,fO,bj,bh,eJ]
    by_cases fD:(ef gn R).take 1=[58]
    .have Cr:(ef gn R).take [58].length=[58]:=fD
     rw[if_pos Cr,decide_eq_true Cr,if_neg (by simp),kr];exact⟨fD,rfl,rfl⟩
    .have Cr:¬(ef gn R).take [58].length=[58]:=fD
     rw[if_neg Cr,decide_eq_false Cr,if_pos (by simp)];rw[if_neg fD]at eO;exact hex eO rfl rfl
   rintro sl S1 ⟨fD,rfl,rfl⟩;rw[if_pos fD]at eO;have p7:(ef gn R).drop 1 <:+ w:=(jH _ _).trans n_;rw[sF,lg,jc];show We (Out.ok _ _) _ _;rw[bh,jc,a0 (i:=4) rfl,bh,jc,G8 (S2:=S.set n (a4 w ((ef gn R).drop 1))) rfl rfl (nJ h)];refine(p6 p7).mono ?_ ?_
   .rintro x S1 ⟨p,r2,e,rfl,iw,rfl⟩
    rw[pz,Ss];refine⟨by simp,?_⟩;rw[e]at eO;have:=yV eO iw;rw[af.ep]at this;exact this
   .rintro e S1 ⟨aQ,⟨t,rfl⟩,r2,rfl⟩
    rw[aQ]at eO;exact G_ eO
end
section
variable{S S1:Store}{sl:aL}{w r:List Nat}{n i:Nat}{b:Rat->Prop}{P:af}{isr:aD}{L B:Nat}
structure N_(b:Rat->Prop)(L B:Nat):Prop where
 yS:∀r,b r->pV L r
 eK:L<=1000
 len:∀r,b r->(c5 r.num r.den).length+1<=B
 cZ:20<=B
 rd:∀r,b r->hY (c5 r.num r.den)=some (r.num,(r.den:Int))
theorem ajG(R:N_ b L B)(hi:wo isr b aN)(h:P.ok b)(hs:P.size<=40)(hd:P.dep<=8)(hz:B * P.size<=100000):bN 1 (GB isr) [P.dat aN] S=.ok (.str (ao P.txt)) S:=by
 refine bO ?_;rw[Av];show aV (GB isr [some (P.dat aN)] S) _;unfold GB;refine jar (λsl S1=>S1=S/\sl=[some (P.dat aN)]) (Ca (d5 (bJ (a0 (i:=0) rfl) b0) (NQ p5 hi h hs hd)) ⟨rfl,rfl⟩) ?_;rintro sl S1 ⟨rfl,rfl⟩;refine oQ (d5 (bJ (a0 (i:=0) rfl) b0) (aja R.yS R.eK R.len R.cZ P 9 h (by omega) hz S1)) ?_;rw[jS];exact dI rfl ⟨rfl,rfl⟩
theorem ajH{m:Str}{g:aD}{fa:cO}{ds:List D}(hm:m∉[Str.ofString "whole",Str.ofString "at"])(hx:sl[i]?=some (some (.ptr n)))(h:S[n]?=some (a4 w r))(ha:fa sl S=.ok ds S):cL m [("TextReader",g)] (ae i) fa sl S=g (.ptr n::ds) S:=by
 unfold cL;rw[a0 hx];show(match f' S (.ptr n)with|some (c,ns,_)=>_|none=>_)=_;rw[G2 h];dsimp only;rw[if_neg hm];have e:hv [(Str.ofString "TextReader",g)] (Str.ofString "TextReader")=some g:=by simp[hv]
 rw[e];dsimp only;rw[ha];rfl
theorem ajI{tab:List (Str×Bool)}{fb fs:SX}{Q:iQ}(h:aV (fb sl S) { Q with ex:=λ_ _ _=>False }):aV (yn tab fb fs sl S) Q:=by
 unfold yn;cases e:fb sl S with
 |nx bH S2=>rw[e]at h;simpa using h
 |ct bH S2=>rw[e]at h;simpa using h
 |bk bH S2=>rw[e]at h;simpa using h
 |rt d S2=>rw[e]at h;simpa using h
 |ex d bH S2=>rw[e]at h;simp at h
 |bad=>rw[e]at h;simp at h
theorem ajJ(R:N_ b L B)(hi:wo isr b aN)(h:P.ok b)(hs:P.size<=40)(hd:P.dep<=8)(hz:P.txt.length<=1000):bN 3 (GD isr) [.str (ao P.txt)] S=.ok (P.dat aN) S:=by
 refine bO ?_;rw[Av];show aV (GD isr [some (.str (ao P.txt)),none,none] S) _;unfold GD;have jj:Lo P.txt:=af.NW P h;refine jar (λsl S1=>S1=S/\sl=[some (.str (ao P.txt)),none,none]) ?_ ?_
 .have e:aw dS (ag (ae 0) (ag (ah (.ty "str")) ai)) [some (.str (ao P.txt)),none,none] S=.ok (.bl true) S:=bO (by simp)
  exact Ux e ⟨rfl,rfl⟩
 rintro sl S1 ⟨rfl,rfl⟩;refine jar (λsl S2=>S2=S1++[a4 P.txt P.txt]/\sl=[some (.str (ao P.txt)),some (.ptr S1.length),none]) ?_ ?_
 .rw[jR,d5 (bJ (a0 (i:=0) rfl) b0) ajf,bh,ie]
  exact⟨rfl,rfl⟩
 rintro sl S2 ⟨rfl,rfl⟩;have hg:∀r,(S1++[a4 P.txt r])[S1.length]?=some (a4 P.txt r):=λr=>by simp
 have gR:∀r,(S1++[a4 P.txt P.txt]).set S1.length (a4 P.txt r)=S1++[a4 P.txt r]:=λr=>by
  rw[List.set_append_right _ _ (Nat.le_refl _),Nat.sub_self];rfl
 have hb:=N4 R.rd P 8 h hd [] (by simp);rw[ug]at hb;refine jar (λsl aW=>aW=S1++[a4 P.txt []]/\sl=[some (.str (ao P.txt)),some (.ptr S1.length),some (P.dat aN)]) ?_ ?_
 .refine ajI ?_
  refine jar (λsl aW=>aW=S1++[a4 P.txt []]/\sl=[some (.str (ao P.txt)),some (.ptr S1.length),some (P.dat aN)]) ?_ ?_
  .have hw:=Xn (n:=S1.length) (w:=P.txt) hz jj 8 (Nat.le_refl _) (S1++[a4 P.txt P.txt]) P.txt (List.suffix_refl _) (hg _)
   rw[jR,ajH (i:=1) (ds:=[.int 1]) (by decide) rfl (hg _) (bJ rfl b0)];unfold nL at hw;refine(We.mono (P':=λd aW=>d=P.dat aN/\aW=S1++[a4 P.txt []]) (X':=λ_ _=>False) hw ?_ ?_).mono ?_ ?_
   .rintro d aW ⟨p,r,e,rfl,hr,rfl⟩
    rw[hb]at e;cases e;exact⟨rfl,gR _⟩
   .rintro e aW ⟨aQ,_⟩
    rw[hb]at aQ;cases aQ
   .rintro d aW ⟨rfl,rfl⟩
    rw[ie];exact⟨rfl,rfl⟩
   .exact λ_ _ h=>h
  rintro sl aW ⟨rfl,rfl⟩;exact Ca (d5 (bJ (a0 (i:=2) rfl) b0) (NQ p5 hi h hs hd)) ⟨rfl,rfl⟩
 rintro sl aW ⟨rfl,rfl⟩;refine jar (λsl aW=>aW=S1++[a4 P.txt []]/\sl=[some (.str (ao P.txt)),some (.ptr S1.length),some (P.dat aN)]) ?_ ?_
 .have e:az k' (c4 "at" [("TextReader",.fld)] (ae 1)) (aw cM (ag (ae 0) ai)) [some (.str (ao P.txt)),some (.ptr S1.length),some (P.dat aN)] (S1++[a4 P.txt []])=.ok (.bl false) (S1++[a4 P.txt []]):=by
   have cG:aw cM (ag (ae 0) ai) [some (.str (ao P.txt)),some (.ptr S1.length),some (P.dat aN)] (S1++[a4 P.txt []])=.ok (.int (P.txt.length:Int)) (S1++[a4 P.txt []]):=bO (by simp;omega);refine d6 (yQ (i:=1) rfl (hg _)) cG ?_;rw[RV,decide_eq_false (by simp)]
  rw[jb,fO,e,bh,eJ,if_neg (by simp),kr];exact⟨rfl,rfl⟩
 rintro sl aW ⟨rfl,rfl⟩;refine oQ (a0 (i:=2) rfl) ?_;rw[jS];exact Ax (fG.refl _) (mz p5 P _) ⟨rfl,rfl⟩
end
open PySem PySem.Spec L2 ZM
abbrev tU(S:Store)(n:Nat):D->D->Option Bool:=oP ["Ratio"] [("Ratio",eL)] S n
section
variable{S:Store}{n:Nat}
theorem Xp{xs ys:List D}:tU S (n+1) (.tup xs) (.tup ys)=(eS (tU S n) xs ys).map (λr=>r&&(xs.length==ys.length)):=rfl
theorem Xq{i j:Str}:tU S (n+1) (.str i) (.str j)=some (i==j):=rfl
theorem ajK{r s:Rat}:tU S (n+1) (aN r) (aN s)=some (decide (r=s)):=by
 show wm _ _ S _ _ _=_;unfold wm aN hC;simp only[vT];have h:eL [hC r.num r.den,hC s.num s.den] S=.ok (.bl (decide (r.num=s.num/\(r.den:Int)=s.den))) S:=TX;unfold hC at h;rw[if_pos (by simp),show hv [("Ratio",eL)] (Str.ofString "Ratio")=some eL by simp[hv,List.lookup]];dsimp only;rw[h];dsimp only;have e:decide (r.num=s.num/\(r.den:Int)=s.den)=decide (r=s):=decide_eq_decide.mpr ⟨fun⟨h1,h2⟩=>Rat.ext h1 (by omega),λh=>by subst h;exact⟨rfl,rfl⟩⟩;rw[if_pos,e];refine⟨rfl,?_⟩;by_cases q:r.num=s.num/\(r.den:Int)=s.den
 .exact .inl (decide_eq_true q)
 .refine .inr ?_
  simp only[rx,F0,Bool.or_false,Bool.or_eq_true,decide_eq_true_eq];by_cases bw:r.num=s.num
  .exact .inr λz=>q ⟨bw,z⟩
  .exact .inl bw
theorem Xr{k l:aG}(h:k.word=l.word):(k=l/\k.pay (f:=aN)=[])\/(∃x y,k=.go x/\l=.go y)\/∃r s,k=.scale r/\l=.scale s:=by
 cases k<;>cases l<;>simp[aG.word]at h<;>simp[aG.pay]
theorem Xt{a b:String}:(Str.ofString a==Str.ofString b)=decide (a=b):=by
 by_cases h:a=b
 .subst h;simp
 .have:¬Str.ofString a=Str.ofString b:=λe=>h (Tz.mp e)
  simp[h,this]
theorem Xu{x y:List Nat}:(ao x==ao y)=decide (x=y):=by
 by_cases h:x=y
 .subst h;simp
 .simp[h]
open Classical in
theorem Xv{f:D->D->Option Bool}:∀{cs ds:List af},(∀c∈cs,∀d∈ds,f (c.dat aN) (d.dat aN)=some (decide (c=d)))->∃b,eS f (cs.map (af.dat aN)) (ds.map (af.dat aN))=some b/\(b&&(cs.length==ds.length))=decide (cs=ds)
 |[],[],_=>⟨true,rfl,by simp⟩
 |[],d::ds,_=>⟨true,rfl,by simp⟩
 |c::cs,[],_=>⟨true,rfl,by simp⟩
 |c::cs,d::ds,h=>by
  obtain⟨b,au,e2⟩:=Xv (cs:=cs) (ds:=ds) λx hx y a6=>h x (iZ _ hx) y (iZ _ a6);rw[c1,c1,eS,h c (by simp) d (by simp)];by_cases q:c=d
  .subst q
   refine⟨b,by simpa using au,?_⟩;simp only[List.length_cons,List.cons.injEq,true_and];rw[<-e2];congr 1;by_cases z:cs.length=ds.length<;>simp[z]
  .refine⟨false,by simp[q],?_⟩
   simp[q]
theorem N'{f:D->D->Option Bool}{x y:D}{xs ys:List D}{b:Bool}(h:f x y=some b):eS f (x::xs) (y::ys)=if b=true then eS f xs ys else some false:=by
 rw[eS,h];cases b<;>rfl
open Classical in
theorem ajL{b:Rat->Prop}:∀(P Q:af) (n:Nat),P.ok b->Q.ok b->P.dep+1<=n->tU S n (P.dat aN) (Q.dat aN)=some (decide (P=Q)):=by
 refine af.ind λk cs ih Q n bu eC hn=>?_;have hp:=(af.nd k cs).rD;obtain⟨m,rfl⟩:∃m,n=m+2:=⟨n - 2,by omega⟩
 obtain⟨l,ds⟩:=Q;have hf:=(af.fg.mp bu).1;have hg:=(af.fg.mp eC).1;rw[af.ep,af.ep,Xp,N' (Xq.trans (congrArg some Xt))];have hc:∀c∈cs,∀d∈ds,tU S (m+1) (c.dat aN) (d.dat aN)=some (decide (c=d)):=λc hc d hd=>ih c hc d (m+1) ((af.fg.mp bu).2 c hc) ((af.fg.mp eC).2 d hd) (by have:=af.tK (k:=k) hc;omega);obtain⟨de,au,e2⟩:=Xv hc;by_cases hw:k.word=l.word
 .rw[decide_eq_true hw,if_pos rfl]
  rcases Xr hw with⟨rfl,Oa⟩|⟨x,y,rfl,rfl⟩|⟨r,s,rfl,rfl⟩
  .rw[Oa,wY,wY,au]
   simp only[rY,List.length_cons,List.length_map,af.nd.injEq,true_and];rw[<-e2];congr 1;congr 1;by_cases z:cs.length=ds.length<;>simp[z]
  .have hj:cs=[]:=e1.mp hf.1
   have ej:ds=[]:=e1.mp hg.1;subst hj ej;show Option.map _ (eS (tU S (m+1)) [.str (ao x)] [.str (ao y)])=_;rw[N' (Xq.trans (congrArg some Xu))];by_cases q:x=y<;>simp[q,eS,aG.pay]
  .show Option.map _ (eS (tU S (m+1)) (aN r::cs.map (af.dat aN)) (aN s::ds.map (af.dat aN)))=_
   rw[N' ajK,au];by_cases q:r=s
   .subst q
    simp only[decide_true,if_true,rY,List.length_cons,aG.pay,List.length_append,List.length_map,af.nd.injEq,true_and];rw[<-e2];congr 1;congr 1;by_cases z:cs.length=ds.length
    .simp[z]
    .simp[z]
     rw[Bool.eq_iff_iff];simp
   .simp[q]
 .rw[decide_eq_false hw,if_neg (by simp)]
  have:¬k=l:=λe=>hw (by rw[e]);simp[this]
theorem rM{x:D}{xs:List D}{ps:List PyData}(h:gT (x::xs)=some ps):∃p aZ,ps=p::aZ/\dt x=some p/\gT xs=some aZ:=by
 rw[gT]at h;split at h
 .rename_i a b au e2
  cases h;exact⟨a,b,rfl,au,e2⟩
 .cases h
open Classical in
theorem Xw:∀{cs ds:List af} {ps aZ:List PyData},gT (cs.map (af.dat aN))=some ps->gT (ds.map (af.dat aN))=some aZ->(∀c∈cs,∀d∈ds,∀p q,dt (c.dat aN)=some p->dt (d.dat aN)=some q->PyData.eqv p q=decide (c=d))->PyData.eqvAll ps aZ=decide (cs=ds)
 |[],[],ps,aZ,h1,h2,_=>by cases h1;cases h2;simp[PyData.eqvAll]
 |[],d::ds,ps,aZ,h1,h2,_=>by
  cases h1;obtain⟨q,qs',rfl,_,_⟩:=rM h2;simp[PyData.eqvAll]
 |c::cs,[],ps,aZ,h1,h2,_=>by
  cases h2;obtain⟨p,ajM,rfl,_,_⟩:=rM h1;simp[PyData.eqvAll]
 |c::cs,d::ds,ps,aZ,h1,h2,h=>by
  obtain⟨p,ajM,rfl,a1,a2⟩:=rM h1;obtain⟨q,qs',rfl,b1,de⟩:=rM h2;rw[PyData.eqvAll,h c (by simp) d (by simp) p q a1 b1,Xw a2 de λx hx y a6=>h x (iZ _ hx) y (iZ _ a6),<-Bool.decide_and];simp
open Classical in
theorem ajN{b:Rat->Prop}:∀(P Q:af) (p q:PyData),P.ok b->Q.ok b->dt (P.dat aN)=some p->dt (Q.dat aN)=some q->PyData.eqv p q=decide (P=Q):=by
 refine af.ind λk cs ih Q p q bu eC h1 h2=>?_;obtain⟨l,ds⟩:=Q;have hf:=(af.fg.mp bu).1;have hg:=(af.fg.mp eC).1;rw[af.ep,dt]at h1 h2;obtain⟨ps,au,rfl⟩:=fq.mp h1;obtain⟨aZ,e2,rfl⟩:=fq.mp h2;obtain⟨a,as,rfl,a1,a2⟩:=rM au;obtain⟨c,bs,rfl,b1,de⟩:=rM e2;rw[dt]at a1 b1;cases a1;cases b1;have hc:∀c∈cs,∀d∈ds,∀p q,dt (c.dat aN)=some p->dt (d.dat aN)=some q->PyData.eqv p q=decide (c=d):=λc hc d hd p q=>ih c hc d p q ((af.fg.mp bu).2 c hc) ((af.fg.mp eC).2 d hd);rw[PyData.eqv,PyData.eqvAll,PyData.eqv,Xt];by_cases hw:k.word=l.word
 .rw[decide_eq_true hw,Dk]
  rcases Xr hw with⟨rfl,Oa⟩|⟨x,y,rfl,rfl⟩|⟨r,s,rfl,rfl⟩
  .rw[Oa,wY]at a2 de
   rw[Xw a2 de hc];simp
  .have hj:cs=[]:=e1.mp hf.1
   have ej:ds=[]:=e1.mp hg.1;subst hj ej;obtain⟨a,as,rfl,a3,rj⟩:=rM a2;obtain⟨c,bs,rfl,yo,b4⟩:=rM de;rw[dt]at a3 yo;cases a3;cases yo;cases rj;cases b4;rw[PyData.eqvAll,PyData.eqv,PyData.eqvAll,Xu];simp
  .obtain⟨a,as,rfl,a3,rj⟩:=rM a2
   cases a3
 .rw[decide_eq_false hw,Bool.false_and]
  have:¬k=l:=λe=>hw (by rw[e]);simp[this]
open Classical in
theorem ajO{b:Rat->Prop}{P Q:af}(bu:P.ok b)(eC:Q.ok b)(hd:P.dep<=11):cX (aU false) (rK false ["Ratio"] [("Ratio",eL)] 12) (P.dat aN) (Q.dat aN) S=.ok (.bl (decide (P=Q))) S:=by
 have h2:rK false ["Ratio"] [("Ratio",eL)] 12 (P.dat aN) (Q.dat aN) S=.ok (.bl (decide (P=Q))) S:=by
  have:=ajL (S:=S) P Q 13 bu eC (by omega);obtain⟨k,cs⟩:=P;obtain⟨l,ds⟩:=Q;rw[af.ep,af.ep,Xp]at this;obtain⟨r,au,e2⟩:=fq.mp this;rw[af.ep,af.ep];unfold rK vT;dsimp only;rw[show eS (oP ["Ratio"] [("Ratio",eL)] S 12) (.str (Str.ofString k.word)::(k.pay aN++cs.map (af.dat aN))) (.str (Str.ofString l.word)::(l.pay aN++ds.map (af.dat aN)))=some r from au];dsimp only;rw[e2]
 have h1:aU false (P.dat aN) (Q.dat aN) S=.bad\/aU false (P.dat aN) (Q.dat aN) S=.ok (.bl (decide (P=Q))) S:=by
  have t1:toP S (P.dat aN)=dt (P.dat aN):=by cases P;rw[af.ep];rfl
  have lS:toP S (Q.dat aN)=dt (Q.dat aN):=by cases Q;rw[af.ep];rfl
  unfold aU;rw[t1,lS];cases au:dt (P.dat aN)with
  |none=>exact .inl rfl
  |some p =>
   cases e2:dt (Q.dat aN)with
   |none=>exact .inl rfl
   |some q =>
    dsimp only;split
    .right
     rw[if_neg (by simp),ajN P Q p q bu eC au e2]
    .exact .inl rfl
 rcases h1 with e|e
 .rw[gV e];exact h2
 .exact oy e
theorem ajP{b:Rat->Prop}(hb:∀r,b r->TR.hY (c5 r.num r.den)=some (r.num,(r.den:Int))){P Q:af}(bu:P.ok b)(eC:Q.ok b)(h1:P.dep<=8)(h2:Q.dep<=8):P.txt=Q.txt↔P=Q:=by
 refine⟨λe=>?_,λe=>by rw[e]⟩;have a:=N4 hb P 8 bu h1 [] (by simp);have c:=N4 hb Q 8 eC h2 [] (by simp);rw[e]at a;rw[a]at c;cases c;rfl
end
open PySem PySem.Spec L2
theorem scp{N P:List Str}{sc:Scope}(a:sc.kind=.function:=by rfl)(b:sc.isCoroutine=false:=by rfl)(c:sc.isGenerator=false:=by rfl)(d:N.Nodup:=by decide +kernel)(e:List.take P.length N=P:=by rfl)
  (f:∀x∈P,List.lookup x sc.names=some NameKind.local\/List.lookup x sc.names=some NameKind.cell:=by decide +kernel) (g:∀y∈sc.names,y.snd≠NameKind.free:=by decide +kernel):FnScope N P sc:=⟨a,b,c,d,e,f,g⟩
theorem lD{X:Cx}{W:WX}{sts:List Stmt}{f:SX}(h:Z.Takes X W->PassesOwn (model X.prog X.w) X.A X.env X.xe->gu X W sts f)(t:Z.Takes X W:=by exact Z.takes_of rfl rfl rfl rfl)(p:PassesOwn (model X.prog X.w) X.A X.env X.xe:=by exact passes_of rfl):gu X W sts f:=h t p
theorem a9{j k:Nat}{A:Around}(r:Room k A)(h:j<=k:=by omega):Room j A:=r.mono h
theorem aC{X:Cx}{W:WX}{a b:Expr}{fa fb:aM}{pos:Pos}{k:Nat}(hr:Room k X.A)(ha:E X W a fa)(hb:E X W b fb)(hs:PlainIx b:=by exact λ_ _=>rfl):E X W (.Subscript a b pos) (az a7 fa fb):=ZY (aa2 hr.units) ha hb hs
theorem g0{P:Program}{w:World}{K:PySem.W.Frag}{mg:Str->Option Value}{base:Heap}{x qual:Str}{params:Arguments}{stb:List Stmt}{scope:Scope}{dvs:List V}{kws:List (Str×V)}{f:Addr}{fd:FuncData}{N ps:List Str}{k:Nat}{body:SX}(F:FunD K x qual params stb scope dvs kws f fd)(Sc:FnScope N ps scope)(hd:Binds K fd ps [])
  (hb:∀{A:Around} {outer:List Env} {s:Shared} {H:Hp} {E:XK},Room k (A.deeper (PyProof.Rows.envOfC qual scope s.heap.objs.size f fd.code))->Z.Takes (cxOf (Z.CX P w) P w K mg base N qual scope f fd.code A outer s H E) (λc d _ H'=>E c d H') ->
   PassesOwn (model (cxOf (Z.CX P w) P w K mg base N qual scope f fd.code A outer s H E).prog (cxOf (Z.CX P w) P w K mg base N qual scope f fd.code A outer s H E).w) (cxOf (Z.CX P w) P w K mg base N qual scope f fd.code A outer s H E).A (cxOf (Z.CX P w) P w K mg base N qual scope f fd.code A outer s H E).env (cxOf (Z.CX P w) P w K mg base N qual scope f fd.code A outer s H E).xe ->
   gu (cxOf (Z.CX P w) P w K mg base N qual scope f fd.code A outer s H E) (λc d _ H'=>E c d H') stb body):a5 P w K mg base (k+1) f (cS ps.length (bN N.length body)) :=
 mY (lZ F Sc λA outer s H E hr=>lD (hb hr)) hd
section
variable{K:PySem.W.Frag}{x qual:Str}{params:Arguments}{body:List Stmt}{scope:Scope}{kws:List (Str×V)}{f:Addr}{fd:FuncData}{a b c:Str}(F:FunD K x qual params body scope [] kws f fd)
abbrev Ob(qual:Str)(x:Str)(params:Arguments)(body:List Stmt)(scope:Scope)(ps:List Str)(us:List Value):Prop:=∀(kV doc pm:Value) (an:Option Addr) (eR ct:Value),bindArgs (W.fnOf x qual params body scope Value.none kV doc pm an eR ct) { pos:=us }=pure (ps.zip us)
include F
theorem iy(h:∀u,Ob qual x params body scope [a] [u]:=by exact λ_ _ _ _ _ _ _=>rfl):Binds K fd [a] []:=F.bindsN λ_ _ _ _ _ _ us hl=>match us,hl with|[u],_=>h u ..
theorem lE(h:∀u v,Ob qual x params body scope [a,b] [u,v]:=by exact λ_ _ _ _ _ _ _ _=>rfl):Binds K fd [a,b] []:=F.bindsN λ_ _ _ _ _ _ us hl=>match us,hl with|[u,v],_=>h u v ..
theorem ajQ(h:∀u v w,Ob qual x params body scope [a,b,c] [u,v,w]:=by exact λ_ _ _ _ _ _ _ _ _=>rfl):Binds K fd [a,b,c] []:=F.bindsN λ_ _ _ _ _ _ us hl=>match us,hl with|[u,v,w],_=>h u v w ..
end
end Z
namespace K31
open PySem PySem.Spec L2 Z PyProof.Rows
def Cu:SX :=
 (aO (bG (e4 (dO (aK (aw dS (ag (ae 0) (ag (ah (.ty "tuple")) ai))))) (e4 (aK (az (aU false) (aw cM (ag (ae 0) ai)) (ah (.int 0)))) (dO (aK (aw dS (ag (az a7 (ae 0) (ah (.int 0))) (ag (ah (.ty "str")) ai)))))))
 (bq (ah (.bl false)))
 bI)
 (aO (bG (aK (az e' (az a7 (ae 0) (ah (.int 0))) (ah (.tup [.str "stay",.str "none"]))))
 (bq (az (aU false) (aw cM (ag (ae 0) ai)) (ah (.int 1))))
 bI)
 (aO (bG (aK (az (aU false) (az a7 (ae 0) (ah (.int 0))) (ah (.str "go"))))
 (bq (iB (az (aU false) (aw cM (ag (ae 0) ai)) (ah (.int 2))) (aw yK (ag (az a7 (ae 0) (ah (.int 1))) ai))))
 bI)
 (aO (bG (aK (az e' (az a7 (ae 0) (ah (.int 0))) (aw b2 (ag (ah (.str "seq")) (ag (ah (.str "alt")) ai)))))
 (bq (nY k6 k6 (ah (.int 2)) (az mQ (aw cM (ag (ae 0) ai)) (ah (.int 1))) (ah (.int 6))))
 bI)
 (aO (bG (aK (az (aU false) (az a7 (ae 0) (ah (.int 0))) (ah (.str "loop"))))
 (bq (az (aU false) (aw cM (ag (ae 0) ai)) (ah (.int 2))))
 bI)
 (bq (iB (az (aU false) (az a7 (ae 0) (ah (.int 0))) (ah (.str "scale"))) (iB (az (aU false) (aw cM (ag (ae 0) ai)) (ah (.int 3))) (aw (vq [("Ratio",["Ratio"],[])]) (ag (az a7 (ae 0) (ah (.int 1))) (ag (ah (.cls "Ratio")) ai)))))))))))
def Oc:aD:=cS 1 (bN 1 Cu)
def wC:SX :=
 (aO (mN 1 2 (ag (aw mM (ag (aw b2 (ag (aw b2 ai) (ag (ae 0) ai))) ai)) (ag (ah (.int 0)) ai)))
 (se (aK (az (cX (aU true) (eqO true ["Ratio"] [("Ratio",eL)] 12)) (ae 1) (aw fL ai)))
 (aO (bX (dR hS qH (ae 1) ai) (hP (cP (aX 3) (cP (aX 4) gA))))
 (aO (xJ 2 (λi j=>i+j) (ah (.int 1)))
 (aO (bG (e4 (aK (az kg (ae 2) (ah (.int 40)))) (e4 (aK (az zV (aw cM (ag (ae 3) ai)) (ah (.int 8)))) (dO (aK (aw Oc (ag (ae 4) ai))))))
 (ec (aw (dU "InvalidPlan" "InvalidPlan" ["path"]) (ag (ae 3) ai)))
 bI)
 (aO (bX (c' (cK (qO (ag (aw nH (ag (ae 4) ai)) ai)) (hP (cP (aX 6) (cP (aX 7) gA))) di (aw b2 (ag (aw b2 (md (ae 3) (ag (ae 6) ai))) (ag (ae 7) ai))) [6,7])) (aX 5))
 (jw (dR hS sy (ae 1) (ag (vA false (ae 5)) ai)))))))))
def tV:aD:=cS 1 (bN 8 wC)
def Od:SX :=
 (aO (jw (aw tV (ag (ae 0) ai)))
 (bX (aw mM (ag (aw b2 (ag (aw b2 ai) (ag (ae 0) ai))) ai)) (aX 1)))
def Oe:cz :=
 (aK (az (cX (aU true) (eqO true ["Ratio"] [("Ratio",eL)] 12)) (ae 1) (aw fL ai)))
def Og:SX :=
 (bX (dR hS qH (ae 1) ai) (hP (cP (aX 2) (cP (aX 3) gA))))
def Oh:aM :=
 (aw b2 (ag (ae 2) (ag (ae 3) ai)))
def Oi:SX :=
 (aO (bX (c' (cK (qO (ag (aw nH (ag (ae 3) ai)) ai)) (hP (cP (aX 5) (cP (aX 6) gA))) di (aw b2 (ag (aw b2 (md (ae 2) (ag (ae 5) ai))) (ag (ae 6) ai))) [5,6])) (aX 4))
 (jw (dR hS sy (ae 1) (ag (vA false (ae 4)) ai))))
def Oj:ZG.vY:=ZG.v5 1 7 Od Oe Og Oh Oi
def Cd(off:Nat):cO->ZG.vV:=ZG.vZ off 1 [] Oj
def kP:SX :=
 (aO (jw (aw tV (ag (ae 0) ai)))
 (bq (aw Nq (ag (ae 0) ai))))
def wD:aD:=cS 1 (bN 1 kP)
def Cv:aD:=A4 0 1 1 [0] [] (bN 1 kP)
def oN:SX :=
 (aO (bG (e4 (dO (aK (nY k6 k6 (ah (.int 1)) (aw cM (ag (ae 0) ai)) (ah (.int 30))))) (dO (aK (aw pe (ag (c' (cK (ho (ae 0)) (aX 1) di (az e' (ae 1) (ah (.str "0123456789"))) [1])) ai)))))
 (bq (ah (.bl false)))
 bI)
 (bq (uz (az (aU false) (ae 0) (ah (.str "0"))) (az (aU true) (az a7 (ae 0) (ah (.int 0))) (ah (.str "0"))))))
def nF:aD:=cS 1 (bN 2 oN)
def rH:SX :=
 (bq (uz (aw nF (ag (ae 0) ai)) (iB (az (aU false) (gD false (ae 0) hT (e8 (ah (.int 1)))) (ah (.str "-"))) (iB (az (aU true) (ae 0) (ah (.str "-0"))) (aw nF (ag (gD false (ae 0) (e8 (ah (.int 1))) hT) ai))))))
def wh:aD:=cS 1 (bN 1 rH)
def wi:SX :=
 (aO (bG (dO (aK (aw dS (ag (ae 0) (ag (ah (.ty "str")) ai)))))
 (ec (aw (dU "InvalidText" "InvalidText" ["given"]) (ag (ae 0) ai)))
 bI)
 (aO (bX (dR k8 vB (ae 0) (ag (ah (.str "/")) ai)) (hP (cP (aX 1) (cP (aX 2) (cP (aX 3) gA)))))
 (aO (bG (e4 (dO (aK (aw wh (ag (ae 1) ai)))) (mL (aK (az (aU true) (ae 2) (ah (.str "")))) (e4 (dO (aK (aw nF (ag (ae 3) ai)))) (aK (az (aU false) (ae 3) (ah (.str "0")))))))
 (ec (aw (dU "InvalidText" "InvalidText" ["given"]) (ag (ae 0) ai)))
 bI)
 (aO (bX (c' (aw (mZ "Ratio" sZ) (ag (aw oJ (ag (ae 1) ai)) (ag (eT (aK (az (aU true) (ae 2) (ah (.str "")))) (aw oJ (ag (ae 3) ai)) (ah (.int 1))) ai)))) (aX 4))
 (aO (bG (aK (az (aU true) (cL "text" [("Ratio",pJ)] (ae 4) ai) (ae 0)))
 (ec (aw (dU "InvalidText" "InvalidText" ["given"]) (ag (ae 0) ai)))
 bI)
 (bq (ae 4)))))))
def rJ:aD:=cS 1 (bN 5 wi)
def p3(again:aD):SX :=
 (aO (bG (aK (az kg (ae 1) (ah (.int 8))))
 (ec (aw (dU "InvalidText" "InvalidText" ["given"]) (ag (c4 "whole" [("TextReader",.fld)] (ae 0)) ai)))
 bI)
 (aO (bG (aK (cL "taken" [("TextReader",hG)] (ae 0) (ag (ah (.str "[")) ai)))
 (aO (bX (aw b2 (ag (ah (.str "loop")) (ag (cL "plan" [("TextReader",again)] (ae 0) (ag (az b7 (ae 1) (ah (.int 1))) ai)) ai))) (aX 2))
 (aO (bG (dO (aK (cL "taken" [("TextReader",hG)] (ae 0) (ag (ah (.str "]")) ai))))
 (ec (aw (dU "InvalidText" "InvalidText" ["given"]) (ag (c4 "whole" [("TextReader",.fld)] (ae 0)) ai)))
 bI)
 (bq (ae 2))))
 bI)
 (aO (bG (aK (cL "taken" [("TextReader",hG)] (ae 0) (ag (ah (.str "(")) ai)))
 (bq (cL "row" [("TextReader",(B7 again))] (ae 0) (ag (ae 1) ai)))
 bI)
 (aO (bX (cL "run_of" [("TextReader",pZ)] (ae 0) (ag (ah (.str "abcdefghijklmnopqrstuvwxyz")) ai)) (aX 3))
 (aO (bG (aK (az e' (ae 3) (ah (.tup [.str "stay",.str "none"]))))
 (bq (aw b2 (ag (ae 3) ai)))
 bI)
 (aO (bG (aK (az (aU true) (ae 3) (ah (.str ""))))
 (bq (aw b2 (ag (ah (.str "go")) (ag (ae 3) ai))))
 bI)
 (aO (bX (aw rJ (ag (cL "run_of" [("TextReader",pZ)] (ae 0) (ag (ah (.str "-/0123456789")) ai)) ai)) (aX 4))
 (aO (bG (dO (aK (cL "taken" [("TextReader",hG)] (ae 0) (ag (ah (.str ":")) ai))))
 (ec (aw (dU "InvalidText" "InvalidText" ["given"]) (ag (c4 "whole" [("TextReader",.fld)] (ae 0)) ai)))
 bI)
 (bq (aw b2 (ag (ah (.str "scale")) (ag (ae 4) (ag (cL "plan" [("TextReader",again)] (ae 0) (ag (az b7 (ae 1) (ah (.int 1))) ai)) ai)))))))))))))
def lC:Nat->aD
 |0=>λ_ _=>.bad
 |k+1=>cS 2 (bN 5 (p3 (lC k)))
def GA:aD:=lC 9
def kQ:SX :=
 (aO (bG (dO (aK (aw dS (ag (ae 0) (ag (ah (.ty "str")) ai)))))
 (ec (aw (dU "InvalidText" "InvalidText" ["given"]) (ag (ae 0) ai)))
 bI)
 (aO (bX (aw (mZ "TextReader" wj) (ag (ae 0) ai)) (aX 1))
 (aO (yn [("InvalidRatio",true),("InvalidText",true),("InvalidPlan",true)]
 (aO (bX (cL "plan" [("TextReader",GA)] (ae 1) (ag (ah (.int 1)) ai)) (aX 2))
 (jw (aw tV (ag (ae 2) ai))))
 (ec (aw (dU "InvalidText" "InvalidText" ["given"]) (ag (ae 0) ai))))
 (aO (bG (aK (az k' (c4 "at" [("TextReader",.fld)] (ae 1)) (aw cM (ag (ae 0) ai))))
 (ec (aw (dU "InvalidText" "InvalidText" ["given"]) (ag (ae 0) ai)))
 bI)
 (bq (ae 2))))))
def yW:aD:=cS 1 (bN 3 kQ)
def Cw:aD:=A4 0 1 1 [0] [] (bN 3 kQ)
def rN:SX :=
 (aO (bX (aw Az (ag (ae 0) ai)) (aX 1))
 (aO (bX (az b7 (aw B2 (ag (ae 1) (ag (ah (.int 5)) ai))) (aw fL (ag (ah (.str "a")) (ag (ah (.str "stays")) ai)))) (aX 2))
 (aO (uD (mW (ag (ah (.int 8)) ai)) (aX 3)
 (aO (bX (c' (cK (mW (ag (ah (.int 2)) ai)) (aX 6) di (aw V4 (ag (ae 1) (ag (ae 2) (ag (az b7 (ah (.int 1)) (aw ig (ag (ae 1) (ag (ah (.int 8)) ai)))) ai)))) [6])) (vt (cP (aX 4) (cP (aX 5) gA))))
 (aO (mN 7 8 (ag (aw Gv (ag (ae 4) ai)) (ag (aw Gv (ag (ae 5) ai)) ai)))
 (aO (bX (aw Np (ag (ae 4) ai)) (aX 9))
 (aO (bG (dO (aK (aw xQ (ag (aw fL (ag (aw wD (ag (ae 7) ai)) (ag (xZ 0 1 Cv ai (ag (ae 7) ai)) ai))) (ag (aw fL (ag (ae 9) (ag (ae 9) ai))) ai)))))
 (bq (ah (.bl false)))
 bI)
 (aO (bG (e4 (aK (az (cX (aU true) (eqT true ["Ratio"] [("Ratio",eL)] 12)) (aw yW (ag (ae 9) ai)) (ae 7))) (e4 (aK (az (cX (aU true) (eqT true ["Ratio"] [("Ratio",eL)] 12)) (xZ 0 1 Cw ai (ag (ae 9) ai)) (ae 7))) (aK (az (cX (aU true) (eqT true ["Ratio"] [("Ratio",eL)] 12)) (aw yW (ag (aw wD (ag (ae 8) ai)) ai)) (ae 8)))))
 (bq (ah (.bl false)))
 bI)
 (aO (bG (aK (az (cX (aU true) (eqT true ["Ratio"] [("Ratio",eL)] 12)) (az (cX (aU false) (rK false ["Ratio"] [("Ratio",eL)] 12)) (aw wD (ag (ae 8) ai)) (ae 9)) (az (cX (aU false) (rK false ["Ratio"] [("Ratio",eL)] 12)) (ae 8) (ae 7))))
 (bq (ah (.bl false)))
 bI)
 (aO (bX (aw yW (ag (ae 9) ai)) (aX 10))
 (bG (e4 (dO (aK (aw dS (ag (ae 10) (ag (ah (.ty "tuple")) ai))))) (dO (aK (aw xQ (ag (c' (ZG.yB (Cd 1 (ag (ae 10) ai)) (aX 11) di (az a7 (ae 11) (ah (.int 0))) [11])) (ag (c' (cK (ho (aw V3 (ag (ae 7) (ag (aw b2 ai) ai)))) (aX 11) di (az a7 (ae 11) (ah (.int 0))) [11])) ai))))))
 (bq (ah (.bl false)))
 bI)))))))))
 (bq (ah (.bl true))))))
theorem ajR:FnScope ["self","other"] ["self","other"] (defScope s_0):=scp
theorem ajS:FnScope ["_law_script"] ["_law_script"] (defScope s_1):=scp
theorem ajT:FnScope ["_law_plan_z"] ["_law_plan_z"] (defScope y9):=scp
theorem G':FnScope ["_law_plan_z","_law_spot","_law_found","_law_inner_here","_law_at"] ["_law_plan_z","_law_spot"] (defScope y_):=scp
theorem Ha:FnScope ["_law_bag_here","_law_many","_law_cell","_law_digit","_law_seed"] ["_law_bag_here","_law_many"] (defScope y'):=scp
theorem ajU:FnScope ["_law_bag_here","_law_some"] ["_law_bag_here","_law_some"] (defScope za):=scp
theorem oU:FnScope ["_law_bag_here","_law_many","_law_letters","_law_stem","_law_k","_law_at","_law_first","_law_found","_law_one"] ["_law_bag_here","_law_many"] (defScope zb):=scp
theorem Ol:FnScope ["_law_one","_law_other","_law_high","_law_low"] ["_law_one","_law_other"] (defScope zf):=scp
theorem Xx:FnScope ["_law_up","_law_down","_law_share"] ["_law_up","_law_down"] (defScope zg):=scp
theorem ajV:FnScope ["_law_bag_here"] ["_law_bag_here"] (defScope zh):=scp
theorem Cy:FnScope ["_law_bag_here","_law_names","_law_room","_law_way","_law_many","_law_inner_here","_law_k"] ["_law_bag_here","_law_names","_law_room"] (defScope zi):=scp
theorem Om:FnScope ["one","other"] ["one","other"] (defScope zj):=scp
theorem ajW:FnScope ["value"] ["value"] (defScope zk):=scp
theorem Xy:FnScope ["self","top","bottom","share"] ["self","top","bottom"] (defScope o3):=scp
theorem ajX:FnScope ["_law_pair"] ["_law_pair"] (defScope zl):=scp
theorem Hb:FnScope ["_law_plan_z","_law_inner_here","_law_one"] ["_law_plan_z"] (defScope zm):=scp
theorem ajY:FnScope ["_law_pair"] ["_law_pair"] (defScope zp):=scp
theorem Oo:FnScope ["_law_plan_z","_law_rows","_law_one"] ["_law_plan_z"] (defScope zq):=scp
theorem Hc:FnScope ["_law_found","_law_due","_law_a","_law_b"] ["_law_found","_law_due"] (defScope zr):=scp
theorem Oq:FnScope ["value","sign"] ["value"] (defScope zt):=scp
theorem ajZ:FnScope ["value"] ["value"] (defScope zu):=scp
theorem aj0:FnScope ["plan"] ["plan"] (defScope zv):=scp
theorem tW:FnScope ["value","queue","many","path","part","rows","at","one"] ["value"] (defScope zx):=scp
theorem wF:GScope ["plan","queue","path","part","rows","at","one"] ["plan"] (defScope ka):=⟨rfl,rfl,rfl,by decide +kernel,rfl,by decide +kernel,by decide +kernel⟩
theorem aj1:ZG.BE ["plan","queue","path","part","rows","at","one"] (defScope ka):=⟨rfl,by decide +kernel⟩
theorem aj2:FnScope ["self"] ["self"] (defScope zy):=scp
theorem Hf:FnScope ["plan","between","one"] ["plan"] (defScope zA):=scp
theorem aj3:FnScope ["plan"] ["plan"] (defScope uo):=scp
theorem aj4:FnScope ["self","text"] ["self","text"] (defScope zB):=scp
theorem Ot:FnScope ["text","sign"] ["text"] (defScope zC):=scp
theorem aj5:FnScope ["text"] ["text"] (defScope zD):=scp
theorem Cz:FnScope ["text","head","bar","tail","found"] ["text"] (defScope zE):=scp
theorem Xz:FnScope ["self","word","found"] ["self","word"] (defScope zF):=scp
theorem Ou:FnScope ["self","depth","found","word"] ["self","depth"] (defScope mI):=scp
theorem XA:FnScope ["self","signs","begin"] ["self","signs"] (defScope zG):=scp
theorem Hg:FnScope ["self","depth","found","word","ratio"] ["self","depth"] (defScope w3):=scp
theorem Ov:FnScope ["text","reader","found"] ["text"] (defScope uq):=scp
theorem kR:FnScope ["_law_script","_law_bag_here","_law_names","_law_turn","_law_own","_law_late","_law_k","_law_plan_z","_law_other","_law_shown","_law_found","_law_row"] ["_law_script"] (defScope zH):=scp
structure XB where
 (a_1 wG CA rO wH CB CD CF CG CH CI CJ CK CL CM CN CO CP CQ wI tX p8 CT nM yX CU nN Hh jn p9 wJ tY CV Hi CW yY tZ CY t2 aj6 kS iX kW p_:Addr)
structure dx(K:PySem.W.Frag)(mg:Str->Option Value)(ad:XB):Prop where
 xP:mg "_law_bag"=some (.ref ad.a_1)
 aj7:PySem.W.keepIn K (.ref ad.a_1)=true
 kL:mg "_law_inner"=some (.ref ad.wG)
 Ow:PySem.W.keepIn K (.ref ad.wG)=true
 tL:mg "_law_listed"=some (.ref ad.CA)
 XC:PySem.W.keepIn K (.ref ad.CA)=true
 hB:mg "_law_pick"=some (.ref ad.rO)
 t4:PySem.W.keepIn K (.ref ad.rO)=true
 m6:mg "_law_of"=some (.ref ad.wH)
 yZ:PySem.W.keepIn K (.ref ad.wH)=true
 wd:mg "_law_name"=some (.ref ad.CB)
 aj8:PySem.W.keepIn K (.ref ad.CB)=true
 x7:mg "_law_gcd"=some (.ref ad.CD)
 aj9:PySem.W.keepIn K (.ref ad.CD)=true
 x8:mg "_law_frac"=some (.ref ad.CF)
 aka:PySem.W.keepIn K (.ref ad.CF)=true
 vH:mg "_law_small_frac"=some (.ref ad.CG)
 akb:PySem.W.keepIn K (.ref ad.CG)=true
 pY:mg "_law_plan"=some (.ref ad.CH)
 Hj:PySem.W.keepIn K (.ref ad.CH)=true
 x5:mg "common_divisor"=some (.ref ad.CI)
 akc:PySem.W.keepIn K (.ref ad.CI)=true
 vu:mg "is_whole"=some (.ref ad.CJ)
 XD:PySem.W.keepIn K (.ref ad.CJ)=true
 x':mg "_law_ratio"=some (.ref ad.CK)
 akd:PySem.W.keepIn K (.ref ad.CK)=true
 rF:mg "_law_plan_made"=some (.ref ad.CL)
 Ox:PySem.W.keepIn K (.ref ad.CL)=true
 vy:mg "_law_frac_text"=some (.ref ad.CM)
 ake:PySem.W.keepIn K (.ref ad.CM)=true
 tN:mg "_law_plan_text"=some (.ref ad.CN)
 XF:PySem.W.keepIn K (.ref ad.CN)=true
 lh:mg "_law_same"=some (.ref ad.CO)
 Oy:PySem.W.keepIn K (.ref ad.CO)=true
 wg:mg "is_name"=some (.ref ad.CP)
 akf:PySem.W.keepIn K (.ref ad.CP)=true
 Cu:mg "has_form"=some (.ref ad.CQ)
 akg:PySem.W.keepIn K (.ref ad.CQ)=true
 lB:mg "inside"=some (.ref ad.wI)
 XG:PySem.W.keepIn K (.ref ad.wI)=true
 wC:mg "check_plan"=some (.ref ad.tX)
 Oz:PySem.W.keepIn K (.ref ad.tX)=true
 akh:mg "parts"=some (.ref ad.p8)
 aki:PySem.W.keepIn K (.ref ad.p8)=true
 j4:mg "text_from"=some (.ref ad.CT)
 Hk:PySem.W.keepIn K (.ref ad.CT)=true
 kP:mg "plan_text"=some (.ref ad.nM)
 Hl:PySem.W.keepIn K (.ref ad.nM)=true
 oN:mg "is_digits"=some (.ref ad.yX)
 OA:PySem.W.keepIn K (.ref ad.yX)=true
 rH:mg "is_signed"=some (.ref ad.CU)
 akj:PySem.W.keepIn K (.ref ad.CU)=true
 kQ:mg "read_plan"=some (.ref ad.nN)
 Hm:PySem.W.keepIn K (.ref ad.nN)=true
 rN:mg "law"=some (.ref ad.Hh)
 arp:PySem.W.keepIn K (.ref ad.Hh)=true
 c6:mg "Ratio"=some (.ref ad.jn)
 nO:Cls K ad.jn
 Hn:Mk K ad.jn ad.tY
 wK:NoAttr K ad.jn "own_bottom"
 wL:NoAttr K ad.jn "own_top"
 t5:Meth K ad.jn "__eq__" ad.wJ
 XH:Meth K ad.jn "text" ad.CV
 XI:oF K ad.jn
 qa:PySem.W.findIn K (.ref ad.jn) "__ne__"=some (some (.builtin "object.__ne__"))
 oV:PySem.W.mroIn K ad.jn (.type "object")=some true
 qb:PySem.W.notFirst K ad.jn (.ref ad.jn)=true
 XJ:PySem.W.notFirst K ad.jn (.ref ad.p9)=true
 dN:mg "TextReader"=some (.ref ad.p9)
 dV:Cls K ad.p9
 OB:Mk K ad.p9 ad.Hi
 nP:NoAttr K ad.p9 "at"
 nQ:NoAttr K ad.p9 "whole"
 y0:Meth K ad.p9 "plan" ad.t2
 akk:Meth K ad.p9 "row" ad.tZ
 XM:Meth K ad.p9 "run_of" ad.CY
 t6:Meth K ad.p9 "taken" ad.yY
 akl:Fv K ad.jn ad.aj6 ad.CW "read"
 Ho:PySem.W.kitOne K (.ref ad.jn) (.ref ad.jn)=some true
 XN:((PySem.W.clsIn K ad.jn).isSome&&PySem.W.typeIn K (.ref ad.jn)==some (.type "type"))=true
 XO:mg "InvalidRatio"=some (.ref ad.kS)
 XP:mg "InvalidText"=some (.ref ad.iX)
 XQ:mg "InvalidPlan"=some (.ref ad.kW)
 arq:mg "WayError"=some (.ref ad.p_)
 OC:PySem.W.exmAny K (.ref ad.kW) [.ref ad.iX,.ref ad.kW,.ref ad.kS]=some true
 OD:PySem.W.exmAny K (.ref ad.kS) [.ref ad.iX,.ref ad.kW,.ref ad.kS]=some true
 OG:PySem.W.exmAny K (.ref ad.iX) [.ref ad.iX,.ref ad.kW,.ref ad.kS]=some true
 akm:∃t,mg "DIGITS"=some (.str "0123456789" t)
 XR:∃t,mg "LETTERS"=some (.str "abcdefghijklmnopqrstuvwxyz" t)
 XS:∃t,mg "MOST_DEPTH"=some (.int 8 t)
 akn:∃t,mg "MOST_DIGITS"=some (.int 30 t)
 ako:∃t,mg "MOST_INSIDE"=some (.int 6 t)
 akp:∃t,mg "MOST_NAME"=some (.int 8 t)
 akq:∃t,mg "MOST_PARTS"=some (.int 40 t)
 Hq:∃a,mg "WORDS"=some (.ref a)/\DJ K a ((["stay","none"]:List Str).map V.str)
 wM:mg "abs"=none
 CZ:mg "all"=none
 C0:mg "bool"=none
 Hr:mg "enumerate"=none
 kX:mg "int"=none
 g4:mg "isinstance"=none
 hI:mg "len"=none
 t7:mg "list"=none
 t8:mg "range"=none
 nR:mg "str"=none
 rP:mg "tuple"=none
 OH:mg "zip"=none
section
variable{P:Program}{w:World}{K:PySem.W.Frag}{mg:Str->Option Value}{base:Heap}{ad:XB}
theorem akr(T:dx K mg ad){fd:FuncData}(F:dj K "__eq__" "Ratio.__eq__" s_0 ad.wJ fd)  : a5 P w K mg base 1 ad.wJ eL:=by
 refine g0 (N:=["self","other"]) (k:=0) (body:=A') F ajR (lE F) λhr tk hp=>?_;unfold A';exact(bf (bV (nZ (cF (Tf (Tw T.c6 T.XN (Tx T.c6 T.XI T.Ho Fh) Fh Tv)) rfl T.g4 hM (av aq (av (QG rfl T.c6) aA))) (nZ (iC (dQ hr.units) (gI (gH T.c6 T.nO T.wL gG) aq) (gI (gH T.c6 T.nO T.wL gG) aq)) (o6 (iC (dQ hr.units) (gI (gH T.c6 T.nO T.wK gG) aq) (gI (gH T.c6 T.nO T.wK gG) aq)))))))
theorem aks(T:dx K mg ad){fd:FuncData}(F:dj K "_law_bag" "_law_bag" s_1 ad.a_1 fd)  : a5 P w K mg base 1 ad.a_1 Az:=by
 refine mY (acZ (N:=["_law_script"]) F ajS (k:=0) (body:=xP) λA outer s H E hr=>?_) (iy F);refine lD λtk hp=>?_;unfold xP;exact(bf (bV (DV (av (iE Ji rfl T.t7 wZ (av (pq aq sA (mU aJ)) aA)) (av aJ (av aJ (av aJ aA)))))))
theorem akt(T:dx K mg ad){fd:FuncData}(F:dj K "_law_inner" "_law_inner" y9 ad.wG fd)  : a5 P w K mg base 1 ad.wG nG:=by
 refine g0 (N:=["_law_plan_z"]) (k:=0) (body:=kL) F ajT (iy F) λhr tk hp=>?_;unfold kL;exact(a8 (cJ (ck (lU hr.units) (aC hr aq aJ) (d0 (av bF (av bF aA))))
 (bf (bV (iE Ji rfl T.t7 wZ (av (pq aq (mU aJ) sA) aA))))
 cQ)
 (bf (bV (jN (ck (lU hr.units) (aC hr aq aJ) (d0 (av bF (av bF aA)))) (jO (av (aC hr aq (bQ qx (cF ib rfl T.hI h3 (av aq aA)) aJ)) aA)) (jO aA)))))
theorem XT(T:dx K mg ad){fd:FuncData}(F:dj K "_law_listed" "_law_listed" y_ ad.CA fd)(nS:a5 P w K mg base 1 ad.wG nG):∀k,a5 P w K mg base (k+2) ad.CA (yJ k)
 |0=>va
 |k+1=>by
  have g5:=XT T F nS k;have eH:k+2<=k+2:=Nat.le_refl _;refine mY (lZ (N:=["_law_plan_z","_law_spot","_law_found","_law_inner_here","_law_at"]) F G' (k:=k+2) (body:=tL (yJ k)) λA outer s H E hr=>?_) (lE F);refine lD λtk hp=>?_;unfold tL;exact(a8 (uG (j:=3) rfl G'.nd (av (jO (av (d0 (av aq (av aq aA))) aA)) (av (b3 tk nS (a9 hr) T.kL T.Ow (av aq aA)) aA)))
  (a8 (QN hp rfl (xD (av (cF ib rfl T.hI h3 (av aq aA)) aA) rfl T.t8) (lL G'.nd)
  (bf (fM G'.nd (bQ UM aq (b3 tk g5 (hr.mono eH) T.tL T.XC (av (aC hr aq aq) (av (bQ UM aq (d0 (av aq aA))) aA)))))))
  (bf (bV aq))))
theorem aku(T:dx K mg ad){fd:FuncData}(F:dj K "_law_pick" "_law_pick" y' ad.rO fd)  : a5 P w K mg base 1 ad.rO ig:=by
 refine g0 (N:=["_law_bag_here","_law_many","_law_cell","_law_digit","_law_seed"]) (k:=0) (body:=hB) F Ha (lE F) λhr tk hp=>?_;unfold hB;exact(a8 (cJ (f9.eb (DU (ck (dQ hr.units) (aC hr aq aJ) aJ) (DT (ck xH (aC hr aq aJ) (cF ib rfl T.hI h3 (av (aC hr aq aJ) aA))))))
 (a8 (fM Ha.nd (aC hr (aC hr aq aJ) (aC hr aq aJ)))
 (a8 (o7 (bQ ez (aC hr aq aJ) aJ) (Aa (Am hr.units) aq aJ) (z' _ _))
 (bf (cJ (ck Q0 aq (bQ ZC aJ aJ))
 (bf (o7 aq (Aa (Am hr.units) aq aJ) (z' _ _)))
 (bf (o7 (bQ qy (iE qC rfl T.kX lH (av (bQ ez (bQ ez (bQ u_ (aC hr aq aJ) aJ) (bQ u_ (bQ qy (iE qC rfl T.kX lH (av aq aA)) aJ) aJ)) aJ) aA)) aJ) (Aa (Am hr.units) aq aJ) (z' _ _)))))))
 cQ)
 (a8 (cJ (ck sk (aC hr aq aJ) aJ)
 (a8 (fM Ha.nd (bQ qy (iE qC rfl T.kX lH (av (aC hr aq aJ) aA)) aq))
 (a8 (o7 (bQ pa (aC hr aq aJ) aq) (Aa (Am hr.units) aq aJ) (z' _ _))
 (bf (bV aq))))
 cQ)
 (a8 (fM Ha.nd (aC hr aq aJ))
 (a8 (o7 (bQ qy (iE qC rfl T.kX lH (av (bQ ez (bQ ez (bQ u_ aq aq) (bQ u_ aq aJ)) aJ) aA)) aJ) (Aa (Am hr.units) aq aJ) (z' _ _))
 (bf (bV (bQ qy (iE qC rfl T.kX lH (av (bQ ez (bQ pa (aC hr aq aJ) aJ) (bQ u_ (bQ qy (iE qC rfl T.kX lH (av (aC hr aq aJ) aA)) aJ) aJ)) aA)) aq)))))))
theorem akv(T:dx K mg ad){fd:FuncData}(F:dj K "_law_of" "_law_of" za ad.wH fd)(iY:a5 P w K mg base 1 ad.rO ig):a5 P w K mg base 2 ad.wH jV:=by
 refine g0 (N:=["_law_bag_here","_law_some"]) (k:=1) (body:=m6) F ajU (lE F) λhr tk hp=>?_;unfold m6;exact(bf (bV (aC hr aq (b3 tk iY (a9 hr) T.hB T.t4 (av aq (av (cF ib rfl T.hI h3 (av aq aA)) aA))))))
theorem akw(T:dx K mg ad){fd:FuncData}(F:dj K "_law_name" "_law_name" zb ad.CB fd)(mC:a5 P w K mg base 2 ad.wH jV)(iY:a5 P w K mg base 1 ad.rO ig):a5 P w K mg base 3 ad.CB B2:=by
 refine g0 (N:=["_law_bag_here","_law_many","_law_letters","_law_stem","_law_k","_law_at","_law_first","_law_found","_law_one"]) (k:=2) (body:=wd) F oU (lE F) λhr tk hp=>?_;unfold wd;exact(a8 (fM oU.nd bF)
 (a8 (fM oU.nd (sx JF (λ_ _ _ _ _=>Ed) Dl HX HY bF (av (mX (qQ (own:=[("_law_k",4)]) rfl oU.nd (blkOk_by (by rfl)) (xD (av (b3 tk iY (a9 hr) T.hB T.t4 (av aq (av aJ aA))) aA) rfl T.t8) (λ_ _ _ _ _=>(i_ oU.nd)) (λ_ _ _ _ _=>kn) (λ_ _ _ _ _=>(b3 om mC (a9 hr) T.m6 T.yZ (av aq (av aq aA)))))) aA)))
 (a8 (o7 (d0 (av (b3 tk iY (a9 hr) T.hB T.t4 (av aq (av (bQ ez (cF ib rfl T.hI h3 (av aq aA)) aJ) aA))) (av (b3 tk iY (a9 hr) T.hB T.t4 (av aq (av aJ aA))) aA))) (DX rfl (n0 (lL oU.nd) (n0 (lL oU.nd) zR)) (jB (fy 5) (jB (fy 6) sg))) (Ex (ou (fy 5) (ou (fy 6) Ap))))
 (a8 (An (own:=[("_law_k",4)]) rfl oU.nd (blkOk_by (by rfl)) (sw_true rfl rfl rfl rfl) (xD (av aq aA) rfl T.t8) (λ_ _ _ _ _=>(i_ oU.nd)) (λ_ _ _ _ _=>kn) (λ_ _ _ _ _=>(bQ ez (bQ ez (pq aq sA (mU aq)) (aC hr aq (bQ qy (iE qC rfl T.kX lH (av (bQ ez aq (bQ u_ aJ aq)) aA)) aJ))) (pq aq (mU aq) sA))))
 (bf (bV (mX (qQ (own:=[("_law_one",8)]) rfl oU.nd (blkOk_by (by rfl)) (u3 aq) (λ_ _ _ _ _=>(i_ oU.nd)) (λ_ _ _ _ _=>kn) (λ_ _ _ _ _=>(jN (ck (lU hr.units) aq (d0 (av bF (av bF aA)))) (bQ ez aq bF) aq))))))))))
theorem akx(T:dx K mg ad){fd:FuncData}(F:dj K "_law_gcd" "_law_gcd" zf ad.CD fd)  : a5 P w K mg base 1 ad.CD A_:=by
 refine g0 (N:=["_law_one","_law_other","_law_high","_law_low"]) (k:=0) (body:=x7) F Ol (lE F) λhr tk hp=>?_;unfold x7;exact(a8 (uG (j:=3) rfl Ol.nd (av (cF A2 rfl T.wM y7 (av aq aA)) (av (cF A2 rfl T.wM y7 (av aq aA)) aA)))
 (a8 (zS hp (ck sk aq aJ)
 (bf (uG (j:=3) rfl Ol.nd (av aq (av (bQ qy (iE qC rfl T.kX lH (av aq aA)) aq) aA)))))
 (bf (bV aq))))
theorem aky(T:dx K mg ad){fd:FuncData}(F:dj K "_law_frac" "_law_frac" zg ad.CF fd)(OI:a5 P w K mg base 1 ad.CD A_):a5 P w K mg base 2 ad.CF x9:=by
 refine g0 (N:=["_law_up","_law_down","_law_share"]) (k:=1) (body:=x8) F Xx (lE F) λhr tk hp=>?_;unfold x8;exact(a8 (fM Xx.nd (b3 tk OI (a9 hr) T.x7 T.aj9 (av aq (av aq aA))))
 (bf (bV (jN (ck sk aq aJ) (d0 (av (bQ pa aq aq) (av (bQ pa aq aq) aA))) (d0 (av (bQ qx aJ (bQ pa aq aq)) (av (bQ qx aJ (bQ pa aq aq)) aA)))))))
theorem akz(T:dx K mg ad){fd:FuncData}(F:dj K "_law_small_frac" "_law_small_frac" zh ad.CG fd)(OJ:a5 P w K mg base 2 ad.CF x9)(mC:a5 P w K mg base 2 ad.wH jV)(iY:a5 P w K mg base 1 ad.rO ig):a5 P w K mg base 3 ad.CG Bs:=by
 refine g0 (N:=["_law_bag_here"]) (k:=2) (body:=vH) F ajV (iy F) λhr tk hp=>?_;unfold vH;exact(bf (bV (b3 tk OJ (a9 hr) T.x8 T.aka (av (b3 tk mC (a9 hr) T.m6 T.yZ (av aq (av (jO (av aJ (av aJ (av aJ (av aJ (av (bQ qx aJ aJ) (av (bQ qx (b3 tk iY (a9 hr) T.hB T.t4 (av aq (av aJ aA))) aJ) aA))))))) aA))) (av (b3 tk mC (a9 hr) T.m6 T.yZ (av aq (av (jO (av aJ (av aJ (av aJ (av aJ (av aJ aA)))))) aA))) aA)))))
theorem XU(T:dx K mg ad){fd:FuncData}(F:dj K "_law_plan" "_law_plan" zi ad.CH fd)(mC:a5 P w K mg base 2 ad.wH jV)(iY:a5 P w K mg base 1 ad.rO ig)(Hs:a5 P w K mg base 3 ad.CG Bs):∀k,a5 P w K mg base (k+4) ad.CH (we k)
 |0=>va
 |k+1=>by
  have g5:=XU T F mC iY Hs k;have eH:k+4<=k+4:=Nat.le_refl _;refine mY (lZ (N:=["_law_bag_here","_law_names","_law_room","_law_way","_law_many","_law_inner_here","_law_k"]) F Cy (k:=k+4) (body:=pY (we k)) λA outer s H E hr=>?_) (ajQ F);refine lD λtk hp=>?_;unfold pY;exact(a8 (fM Cy.nd (b3 tk iY (a9 hr) T.hB T.t4 (av aq (av aJ aA))))
  (a8 (cJ (f9.eb (ju (ck xH aq aJ) (lK (ck xH aq aJ))))
  (bf (bV (b3 tk mC (a9 hr) T.m6 T.yZ (av aq (av (bQ ez (bQ u_ (jO (av (d0 (av bF (av (b3 tk mC (a9 hr) T.m6 T.yZ (av aq (av aq aA))) aA))) aA)) aJ) (jO (av (d0 (av bF aA)) (av (d0 (av bF aA)) aA)))) aA)))))
  cQ)
  (a8 (cJ (ck xH aq aJ)
  (bf (bV (d0 (av bF (av (b3 tk g5 (hr.mono eH) T.pY T.Hj (av aq (av aq (av (bQ qx aq aJ) aA)))) aA)))))
  cQ)
  (a8 (cJ (ck (dQ hr.units) aq aJ)
  (bf (bV (d0 (av bF (av (b3 tk Hs (a9 hr) T.vH T.akb (av aq aA)) (av (b3 tk g5 (hr.mono eH) T.pY T.Hj (av aq (av aq (av (bQ qx aq aJ) aA)))) aA))))))
  cQ)
  (a8 (fM Cy.nd (bQ ez aJ (b3 tk iY (a9 hr) T.hB T.t4 (av aq (av (jN (ck sk aq aJ) aJ aJ) aA)))))
  (a8 (An (own:=[("_law_k",6)]) rfl Cy.nd (blkOk_by (by rfl)) (sw_true rfl rfl rfl rfl) (xD (av aq aA) rfl T.t8) (λ_ _ _ _ _=>(i_ Cy.nd)) (λ_ _ _ _ _=>kn) (λ_ _ _ _ _=>(b3 om g5 (hr.mono eH) T.pY T.Hj (av aq (av aq (av (bQ pa (bQ qx aq aJ) aq) aA))))))
  (bf (bV (bQ ez (d0 (av (b3 tk mC (a9 hr) T.m6 T.yZ (av aq (av (jO (av bF (av bF aA))) aA))) aA)) (iE Rf rfl T.rP uj (av aq aA)))))))))))
theorem akA(T:dx K mg ad){fd:FuncData}(F:dj K "common_divisor" "common_divisor" zj ad.CI fd)  : a5 P w K mg base 1 ad.CI A9:=by
 refine g0 (N:=["one","other"]) (k:=0) (body:=x5) F Om (lE F) λhr tk hp=>?_;unfold x5;exact(a8 (uG (j:=1) rfl Om.nd (av (cF A2 rfl T.wM y7 (av aq aA)) (av (cF A2 rfl T.wM y7 (av aq aA)) aA)))
 (a8 (zS hp (ck sk aq aJ)
 (bf (uG (j:=1) rfl Om.nd (av aq (av (bQ qy aq aq) aA)))))
 (bf (bV aq))))
theorem akB(T:dx K mg ad){fd:FuncData}(F:dj K "is_whole" "is_whole" zk ad.CJ fd)  : a5 P w K mg base 1 ad.CJ x6:=by
 refine g0 (N:=["value"]) (k:=0) (body:=vu) F ajW (iy F) λhr tk hp=>?_;unfold vu;exact(bf (bV (nZ (cF iP rfl T.g4 hM (av aq (av (h5 rfl T.kX lH) aA))) (o6 (Zf (cF iP rfl T.g4 hM (av aq (av (h5 rfl T.C0 HZ) aA))))))))
theorem akC(T:dx K mg ad){fd:FuncData}(F:FunD K "__init__" "Ratio.__init__" (defArgs o3) (defBody o3) (defScope o3) [(V.int 1)] [] ad.tY fd)(OL:a5 P w K mg base 1 ad.CI A9)(Ht:a5 P w K mg base 1 ad.CJ x6)(Hu:jY P w K mg base "InvalidRatio" ad.kS 2 "InvalidRatio" ["value"]):FnOk P w K mg base (Z.CX P w) 4 ad.tY fd ["self","top","bottom"] (g' K mg 3 (bN 4 (sY))):=by
 refine lZ (N:=["self","top","bottom","share"]) F Xy (k:=3) (body:=sY) λA outer s H E hr=>?_;refine lD λtk hp=>?_;unfold sY;exact(a8 (cJ (h6 (gx (b3 tk Ht (a9 hr) T.vu T.XD (av aq aA))))
 (bf (lY tk rfl Hu (a9 hr) (by decide) (av aq aA)))
 cQ)
 (a8 (cJ (f9.eb (ju (h6 (gx (b3 tk Ht (a9 hr) T.vu T.XD (av aq aA)))) (lK (ck (dQ hr.units) aq aJ))))
 (bf (lY tk rfl Hu (a9 hr) (by decide) (av aq aA)))
 cQ)
 (a8 (fM Xy.nd (b3 tk OL (a9 hr) T.x5 T.akc (av aq (av aq aA))))
 (a8 (Et (xM T.c6 T.nO T.wL xK) aq (jN (ck sk aq aJ) (bQ pa aq aq) (bQ pa (QH Q5 aq) aq)))
 (bf (Et (xM T.c6 T.nO T.wK xK) aq (bQ pa (cF A2 rfl T.wM y7 (av aq aA)) aq)))))))
theorem akD{fd:FuncData}(F:FunD K "__init__" "Ratio.__init__" (defArgs o3) (defBody o3) (defScope o3) [(V.int 1)] [] ad.tY fd)(O:FnOk P w K mg base (Z.CX P w) 4 ad.tY fd ["self","top","bottom"] (g' K mg 3 (bN 4 (sY)))):a5 P w K mg base 4 ad.tY sZ:=by
 have h0:Binds K fd ["self","top","bottom"] []:=by
  obtain⟨ds,hd,hb⟩:=(F.binds1 (ps:=["self","top","bottom"]) 3 1 (by simp) rfl λ_ _ _ _ _ _ _ us its hl hd=>match us,hl,its,hd with|[_,_,_],_,[_],_=>⟨_,rfl,rfl⟩)
  cases hd;exact hb
 have h1:=(F.binds1 (ps:=["self","top","bottom"]) 2 0 (by simp) rfl λ_ _ _ _ _ _ _ us its hl hd=>match us,hl,its,hd with|[_,_],_,[_],_=>⟨_,rfl,rfl⟩)
 exact ac0 O h0 h1 (λρ H=>ay.cons h9 (ay.nil))
theorem akE(T:dx K mg ad){fd:FuncData}(F:dj K "_law_ratio" "_law_ratio" zl ad.CK fd)(y2:a5 P w K mg base 4 ad.tY sZ):a5 P w K mg base 6 ad.CK ya:=by
 refine g0 (N:=["_law_pair"]) (k:=5) (body:=x') F ajX (iy F) λhr tk hp=>?_;unfold x';exact(bf (bV (mX (J0 tk T.Hn y2 (a9 hr) T.c6 (av (aC hr aq aJ) (av (aC hr aq aJ) aA))))))
theorem XW(T:dx K mg ad){fd:FuncData}(F:dj K "_law_plan_made" "_law_plan_made" zm ad.CL fd)(nS:a5 P w K mg base 1 ad.wG nG)(Hv:a5 P w K mg base 6 ad.CK ya):∀k,a5 P w K mg base (k+7) ad.CL (tM k)
 |0=>va
 |k+1=>by
  have g5:=XW T F nS Hv k;have eH:k+7<=k+7:=Nat.le_refl _;refine mY (lZ (N:=["_law_plan_z","_law_inner_here","_law_one"]) F Hb (k:=k+7) (body:=rF (tM k)) λA outer s H E hr=>?_) (iy F);refine lD λtk hp=>?_;unfold rF;exact(a8 (fM Hb.nd (iE Rf rfl T.rP uj (av (mX (qQ (own:=[("_law_one",2)]) rfl Hb.nd (blkOk_by (by rfl)) (u3 (b3 tk nS (a9 hr) T.kL T.Ow (av aq aA))) (λ_ _ _ _ _=>(i_ Hb.nd)) (λ_ _ _ _ _=>kn) (λ_ _ _ _ _=>(b3 om g5 (hr.mono eH) T.rF T.Ox (av aq aA))))) aA)))
  (a8 (cJ (ck (dQ hr.units) (aC hr aq aJ) bF)
  (bf (bV (d0 (av bF (av (b3 tk Hv (a9 hr) T.x' T.akd (av (aC hr aq aJ) aA)) (av (aC hr aq aJ) aA))))))
  cQ)
  (bf (bV (jN (vp (gX.or (cA.w (dQ hr.units)) (afy (adb hr.units))) aq (d0 aA)) aq (bQ ez (d0 (av (aC hr aq aJ) aA)) aq))))))
theorem akF(T:dx K mg ad){fd:FuncData}(F:dj K "_law_frac_text" "_law_frac_text" zp ad.CM fd)  : a5 P w K mg base 1 ad.CM ye:=by
 refine g0 (N:=["_law_pair"]) (k:=0) (body:=vy) F ajY (iy F) λhr tk hp=>?_;unfold vy;exact(bf (bV (jN (ck (dQ hr.units) (aC hr aq aJ) aJ) (iE Fc rfl T.nR o1 (av (aC hr aq aJ) aA)) (bQ ez (bQ ez (iE Fc rfl T.nR o1 (av (aC hr aq aJ) aA)) bF) (iE Fc rfl T.nR o1 (av (aC hr aq aJ) aA))))))
theorem XY(T:dx K mg ad){fd:FuncData}(F:dj K "_law_plan_text" "_law_plan_text" zq ad.CN fd)(Hw:a5 P w K mg base 1 ad.CM ye)(nS:a5 P w K mg base 1 ad.wG nG):∀k,a5 P w K mg base (k+2) ad.CN (tO k)
 |0=>va
 |k+1=>by
  have g5:=XY T F Hw nS k;have eH:k+2<=k+2:=Nat.le_refl _;refine mY (lZ (N:=["_law_plan_z","_law_rows","_law_one"]) F Oo (k:=k+2) (body:=tN (tO k)) λA outer s H E hr=>?_) (iy F);refine lD λtk hp=>?_;unfold tN;exact(a8 (cJ (ck (dQ hr.units) (aC hr aq aJ) bF)
  (bf (bV (aC hr aq aJ)))
  cQ)
  (a8 (An (own:=[("_law_one",2)]) rfl Oo.nd (blkOk_by (by rfl)) (sw_true rfl rfl rfl rfl) (u3 (b3 tk nS (a9 hr) T.kL T.Ow (av aq aA))) (λ_ _ _ _ _=>(i_ Oo.nd)) (λ_ _ _ _ _=>kn) (λ_ _ _ _ _=>(b3 om g5 (hr.mono eH) T.tN T.XF (av aq aA))))
  (a8 (cJ (ck (dQ hr.units) (aC hr aq aJ) bF)
  (bf (bV (bQ ez (bQ ez bF (aC hr aq aJ)) bF)))
  cQ)
  (a8 (cJ (ck (dQ hr.units) (aC hr aq aJ) bF)
  (bf (bV (bQ ez (bQ ez (b3 tk Hw (a9 hr) T.vy T.ake (av (aC hr aq aJ) aA)) bF) (aC hr aq aJ))))
  cQ)
  (bf (bV (jN (ck (dQ hr.units) aq (jO aA)) (aC hr aq aJ) (bQ ez (bQ ez bF (sx JF (λ_ _ _ _ _=>Ed) Dl HX HY (jN (ck (dQ hr.units) (aC hr aq aJ) bF) bF bF) (av aq aA))) bF))))))))
theorem XZ(T:dx K mg ad){fd:FuncData}(F:dj K "_law_same" "_law_same" zr ad.CO fd)  : ∀k,a5 P w K mg base (k+1) ad.CO (pA k)
 |0=>va
 |k+1=>by
  have g5:=XZ T F  k;have eH:k+1<=k+1:=Nat.le_refl _;refine mY (lZ (N:=["_law_found","_law_due","_law_a","_law_b"]) F Hc (k:=k+1) (body:=lh (pA k)) λA outer s H E hr=>?_) (lE F);refine lD λtk hp=>?_;unfold lh;exact(a8 (cJ (gx (cF iP rfl T.g4 hM (av aq (av (d0 (av (h5 rfl T.t7 wZ) (av (h5 rfl T.rP uj) aA))) aA))))
  (a8 (cJ (f9.eb (ju (ck (jP hr.units) (cF iP rfl T.g4 hM (av aq (av (h5 rfl T.t7 wZ) aA))) (cF iP rfl T.g4 hM (av aq (av (h5 rfl T.t7 wZ) aA)))) (lK (ck (jP hr.units) (cF iP rfl T.g4 hM (av aq (av (h5 rfl T.rP uj) aA))) (cF iP rfl T.g4 hM (av aq (av (h5 rfl T.rP uj) aA)))))))
  (bf (bV o5))
  cQ)
  (bf (bV (nZ (iC (dQ hr.units) (cF ib rfl T.hI h3 (av aq aA)) (cF ib rfl T.hI h3 (av aq aA))) (o6 (cF (Jh rfl) rfl T.CZ H0 (av (mX (qQ (own:=[("_law_a",2),("_law_b",3)]) rfl Hc.nd (blkOk_by (by rfl)) (aaP (av aq (av aq aA)) rfl T.OH) (λ_ _ _ _ _=>(JX rfl (xE (i_ Hc.nd) (xE (i_ Hc.nd) JW)) (jB (fy 2) (jB (fy 3) sg)))) (λ_ _ _ _ _=>kn) (λ_ _ _ _ _=>(b3 om g5 (hr.mono eH) T.lh T.Oy (av aq (av aq aA)))))) aA)))))))
  cQ)
  (a8 (cJ (f9.eb (ju (ck D7 aq DQ) (lK (ck D7 aq DQ))))
  (bf (bV (nZ (iC D7 aq DQ) (o6 (iC D7 aq DQ)))))
  cQ)
  (a8 (cJ (f9.eb (ju (ck (jP hr.units) (cF iP rfl T.g4 hM (av aq (av (h5 rfl T.C0 HZ) aA))) (cF iP rfl T.g4 hM (av aq (av (h5 rfl T.C0 HZ) aA)))) (lK (ck (jP hr.units) (cF iP rfl T.g4 hM (av aq (av (h5 rfl T.kX lH) aA))) (cF iP rfl T.g4 hM (av aq (av (h5 rfl T.kX lH) aA)))))))
  (bf (bV o5))
  cQ)
  (bf (bV (nZ (iC (dQ hr.units) (cF iP rfl T.g4 hM (av aq (av (h5 rfl T.nR o1) aA))) (cF iP rfl T.g4 hM (av aq (av (h5 rfl T.nR o1) aA)))) (o6 (iC (dQ hr.units) aq aq))))))))
theorem akG(T:dx K mg ad){fd:FuncData}(F:dj K "is_name" "is_name" zt ad.CP fd)  : a5 P w K mg base 1 ad.CP yK:=by
 refine g0 (N:=["value","sign"]) (k:=0) (body:=wg) F Oq (iy F) λhr tk hp=>?_;unfold wg;exact(a8 (cJ (f9.eb (ju (h6 (gx (cF iP rfl T.g4 hM (av aq (av (h5 rfl T.nR o1) aA))))) (ju (h6 (QK xk xk aJ (cF ib rfl T.hI h3 (av aq aA)) (xI T.akp))) (lK (ck (lU hr.units) aq (F2 T.Hq))))))
 (bf (bV o5))
 cQ)
 (bf (bV (cF (Jh rfl) rfl T.CZ H0 (av (mX (qQ (own:=[("sign",1)]) rfl Oq.nd (blkOk_by (by rfl)) (u3 aq) (λ_ _ _ _ _=>(i_ Oq.nd)) (λ_ _ _ _ _=>kn) (λ_ _ _ _ _=>(iC (lU hr.units) aq (J4 T.XR))))) aA)))))
theorem akH(T:dx K mg ad){fd:FuncData}(F:dj K "has_form" "has_form" zu ad.CQ fd)(OM:a5 P w K mg base 1 ad.CP yK):a5 P w K mg base 2 ad.CQ Oc:=by
 refine g0 (N:=["value"]) (k:=1) (body:=Cu) F ajZ (iy F) λhr tk hp=>?_;unfold Cu;exact(a8 (cJ (f9.eb (ju (h6 (gx (cF iP rfl T.g4 hM (av aq (av (h5 rfl T.rP uj) aA))))) (ju (ck (dQ hr.units) (cF ib rfl T.hI h3 (av aq aA)) aJ) (lK (h6 (gx (cF iP rfl T.g4 hM (av (aC hr aq aJ) (av (h5 rfl T.nR o1) aA)))))))))
 (bf (bV o5))
 cQ)
 (a8 (cJ (ck (lU hr.units) (aC hr aq aJ) (F2 T.Hq))
 (bf (bV (iC (dQ hr.units) (cF ib rfl T.hI h3 (av aq aA)) aJ)))
 cQ)
 (a8 (cJ (ck (dQ hr.units) (aC hr aq aJ) bF)
 (bf (bV (nZ (iC (dQ hr.units) (cF ib rfl T.hI h3 (av aq aA)) aJ) (o6 (b3 tk OM (a9 hr) T.wg T.akf (av (aC hr aq aJ) aA))))))
 cQ)
 (a8 (cJ (ck (lU hr.units) (aC hr aq aJ) (d0 (av bF (av bF aA))))
 (bf (bV (Zg xk xk aJ (bQ qx (cF ib rfl T.hI h3 (av aq aA)) aJ) (xI T.ako))))
 cQ)
 (a8 (cJ (ck (dQ hr.units) (aC hr aq aJ) bF)
 (bf (bV (iC (dQ hr.units) (cF ib rfl T.hI h3 (av aq aA)) aJ)))
 cQ)
 (bf (bV (nZ (iC (dQ hr.units) (aC hr aq aJ) bF) (nZ (iC (dQ hr.units) (cF ib rfl T.hI h3 (av aq aA)) aJ) (o6 (cF (Tf (Tw T.c6 T.XN (Tx T.c6 T.XI T.Ho Fh) Fh Tv)) rfl T.g4 hM (av (aC hr aq aJ) (av (QG rfl T.c6) aA)))))))))))))
theorem akI(T:dx K mg ad){fd:FuncData}(F:dj K "inside" "inside" zv ad.wI fd)  : a5 P w K mg base 1 ad.wI nH:=by
 refine g0 (N:=["plan"]) (k:=0) (body:=lB) F aj0 (iy F) λhr tk hp=>?_;unfold lB;exact(a8 (cJ (ck (lU hr.units) (aC hr aq aJ) (d0 (av bF (av bF aA))))
 (bf (bV (iE Ji rfl T.t7 wZ (av (pq aq (mU aJ) sA) aA))))
 cQ)
 (bf (bV (jN (ck (lU hr.units) (aC hr aq aJ) (d0 (av bF (av bF aA)))) (jO (av (aC hr aq (QH Q5 aJ)) aA)) (jO aA)))))
theorem akJ(T:dx K mg ad){fd:FuncData}(F:dj K "check_plan" "check_plan" zx ad.tX fd)(j6:a5 P w K mg base 1 ad.wJ eL)(OO:a5 P w K mg base 2 ad.CQ Oc)(t9:a5 P w K mg base 1 ad.wI nH)(OQ:jY P w K mg base "InvalidPlan" ad.kW 2 "InvalidPlan" ["path"]):a5 P w K mg base 18 ad.tX tV:=by
 refine g0 (N:=["value","queue","many","path","part","rows","at","one"]) (k:=17) (body:=wC) F tW (iy F) λhr tk hp=>?_;unfold wC;exact(a8 (uG (j:=2) rfl tW.nd (av (DV (av (d0 (av (d0 aA) (av aq aA))) aA)) (av aJ aA)))
 (bf (zS hp (vp (gX.or (cA.w (jP hr.units)) (UJ (n:=12) tk (a9 hr) (sT T.c6 T.t5 j6 (a9 hr) sS) (sV T.c6 (sX T.c6 T.qb sW) T.qa T.oV sU))) aq (jO aA))
 (a8 (o7 (Rp Ru (λ_ _ _ _ _=>xu) PySem.F.plainAttrs_list PySem.F.slot_list_pop PySem.F.type_list_pop aq) (DX rfl (n0 (lL tW.nd) (n0 (lL tW.nd) zR)) (jB (fy 3) (jB (fy 4) sg))) (Ex (ou (fy 3) (ou (fy 4) Ap))))
 (a8 (aa4 tW.nd ip_add aJ)
 (a8 (cJ (f9.eb (ju (ck sk aq (xI T.akq)) (ju (ck Q0 (cF ib rfl T.hI h3 (av aq aA)) (xI T.XS)) (lK (h6 (gx (b3 tk OO (a9 hr) T.Cu T.akg (av aq aA))))))))
 (bf (lY tk rfl OQ (a9 hr) (by decide) (av aq aA)))
 cQ)
 (a8 (An (own:=[("at",6),("one",7)]) rfl tW.nd (blkOk_by (by rfl)) (sw_true rfl rfl rfl rfl) (RM (av (b3 tk t9 (a9 hr) T.lB T.XG (av aq aA)) aA) rfl T.Hr) (λ_ _ _ _ _=>(JX rfl (xE (i_ tW.nd) (xE (i_ tW.nd) JW)) (jB (fy 6) (jB (fy 7) sg)))) (λ_ _ _ _ _=>kn) (λ_ _ _ _ _=>(d0 (av (d0 (Lp aq (av aq aA))) (av aq aA)))))
 (bf (uE (sx Rr (λ_ _ _ _ _=>xu) PySem.F.plainAttrs_list PySem.F.slot_list_extend PySem.F.type_list_extend aq (av (Uc aq) aA)))))))))))
theorem akK(T:dx K mg ad)(j6:a5 P w K mg base 1 ad.wJ eL)(oW:a5 P w K mg base 18 ad.tX tV)(t9:a5 P w K mg base 1 ad.wI nH){cd:Value}{A:Around}{outer:List Env}{n:Addr}{s:Shared}{H:Hp}{pn:List (Addr×Obj)}{xe:Value->Shared->Prop}{W:WX}(tk:Z.Takes (ZG.oL P w K mg base ["plan","queue","path","part","rows","at","one"] "parts" (defScope ka) ad.p8 cd A outer n s H pn xe) W)(hp:PassesOwn (model P w) (A.deeper (envOfC "parts" (defScope ka) n ad.p8 cd)) (envOfC "parts" (defScope ka) n ad.p8 cd) xe)(hr:Room 18 (A.deeper (envOfC "parts" (defScope ka) n ad.p8 cd))):ZG.MQ (ZG.oL P w K mg base ["plan","queue","path","part","rows","at","one"] "parts" (defScope ka) ad.p8 cd A outer n s H pn xe) W (ZG.VE 2 1 (defBody ka)) Od Oe Og Oh Oi where
 pre:=by
  unfold Od;exact(a8 (uE (b3 tk oW (a9 hr) T.wC T.Oz (av aq aA)))
 (bf (fM wF.nd (DV (av (d0 (av (d0 aA) (av aq aA))) aA)))))
 t:=by
  unfold Oe;exact(vp (gX.or (cA.w (jP hr.units)) (UJ (n:=12) tk (a9 hr) (sT T.c6 T.t5 j6 (a9 hr) sS) (sV T.c6 (sX T.c6 T.qb sW) T.qa T.oV sU))) aq (jO aA))
 A:=by
  unfold Og;exact(bf (o7 (Rp Ru (λ_ _ _ _ _=>xu) PySem.F.plainAttrs_list PySem.F.slot_list_pop PySem.F.type_list_pop aq) (DX rfl (n0 (lL wF.nd) (n0 (lL wF.nd) zR)) (jB (fy 2) (jB (fy 3) sg))) (Ex (ou (fy 2) (ou (fy 3) Ap)))))
 e:=by
  unfold Oh;exact(d0 (av aq (av aq aA)))
 B:=by
  unfold Oi;exact(a8 (An (own:=[("at",5),("one",6)]) rfl wF.nd (blkOk_by (by rfl)) (sw_true rfl rfl rfl rfl) (RM (av (b3 tk t9 (a9 hr) T.lB T.XG (av aq aA)) aA) rfl T.Hr) (λ_ _ _ _ _=>(JX rfl (xE (i_ wF.nd) (xE (i_ wF.nd) JW)) (jB (fy 5) (jB (fy 6) sg)))) (λ_ _ _ _ _=>kn) (λ_ _ _ _ _=>(d0 (av (d0 (Lp aq (av aq aA))) (av aq aA)))))
 (bf (uE (sx Rr (λ_ _ _ _ _=>xu) PySem.F.plainAttrs_list PySem.F.slot_list_extend PySem.F.type_list_extend aq (av (Uc aq) aA)))))
theorem akL(T:dx K mg ad){fd:FuncData}(F:FunD K "parts" "parts" (defArgs ka) (defBody ka) (defScope ka) [] [] ad.p8 fd)(j6:a5 P w K mg base 1 ad.wJ eL)(oW:a5 P w K mg base 18 ad.tX tV)(t9:a5 P w K mg base 1 ad.wI nH):ZG.Ga P w K mg base 20 ad.p8 1 [] Oj :=
 ZG.ahf (N:=["plan","queue","path","part","rows","at","one"]) (ps:=["plan"]) (k:=18) (its:=[]) (dfs:=[]) F (sh:=(ZG.VE 2 1 (defBody ka))) rfl wF aj1 (iy F) .nil (λρ H=>ay.nil) (λ_ _=>rfl) λcd A outer n s H pn xe W tk hp hr=>akK T j6 oW t9 tk hp hr
theorem akM(T:dx K mg ad){fd:FuncData}(F:dj K "text" "Ratio.text" zy ad.CV fd)  : a5 P w K mg base 1 ad.CV pJ:=by
 refine g0 (N:=["self"]) (k:=0) (body:=Bc) F aj2 (iy F) λhr tk hp=>?_;unfold Bc;exact(bf (bV (jN (ck (dQ hr.units) (gI (gH T.c6 T.nO T.wK gG) aq) aJ) (iE Fc rfl T.nR o1 (av (gI (gH T.c6 T.nO T.wL gG) aq) aA)) (K5 (.cons (A5 (gI (gH T.c6 T.nO T.wL gG) aq)) (.cons bF (.cons (A5 (gI (gH T.c6 T.nO T.wK gG) aq)) .nil)))))))
theorem X0(T:dx K mg ad){fd:FuncData}(F:dj K "text_from" "text_from" zA ad.CT fd)(wN:a5 P w K mg base 1 ad.CV pJ):∀k,a5 P w K mg base (k+2) ad.CT (oO k)
 |0=>va
 |k+1=>by
  have g5:=X0 T F wN k;have eH:k+2<=k+2:=Nat.le_refl _;refine mY (lZ (N:=["plan","between","one"]) F Hf (k:=k+2) (body:=j4 (oO k)) λA outer s H E hr=>?_) (iy F);refine lD λtk hp=>?_;unfold j4;exact(a8 (cJ (ck (dQ hr.units) (aC hr aq aJ) bF)
  (bf (bV (aC hr aq aJ)))
  cQ)
  (a8 (cJ (ck (lU hr.units) (aC hr aq aJ) (F2 T.Hq))
  (bf (bV (aC hr aq aJ)))
  cQ)
  (a8 (cJ (ck (dQ hr.units) (aC hr aq aJ) bF)
  (bf (bV (K5 (.cons bF (.cons (A5 (b3 tk g5 (hr.mono eH) T.j4 T.Hk (av (aC hr aq aJ) aA))) (.cons bF .nil))))))
  cQ)
  (a8 (cJ (ck (dQ hr.units) (aC hr aq aJ) bF)
  (bf (bV (K5 (.cons (A5 (RR tk (iO T.c6 T.nO T.XH wN (a9 hr) iN) (aC hr aq aJ))) (.cons bF (.cons (A5 (b3 tk g5 (hr.mono eH) T.j4 T.Hk (av (aC hr aq aJ) aA))) .nil))))))
  cQ)
  (a8 (fM Hf.nd (jN (ck (dQ hr.units) (aC hr aq aJ) bF) bF bF))
  (bf (bV (bQ ez (bQ ez bF (sx JF (λ_ _ _ _ _=>Ed) Dl HX HY aq (av (mX (qQ (own:=[("one",2)]) rfl Hf.nd (blkOk_by (by rfl)) (u3 (pq aq (mU aJ) sA)) (λ_ _ _ _ _=>(i_ Hf.nd)) (λ_ _ _ _ _=>kn) (λ_ _ _ _ _=>(b3 om g5 (hr.mono eH) T.j4 T.Hk (av aq aA))))) aA))) bF))))))))
theorem akN(T:dx K mg ad){fd:FuncData}(F:dj K "plan_text" "plan_text" uo ad.nM fd)(oW:a5 P w K mg base 18 ad.tX tV)(OS:a5 P w K mg base 11 ad.CT Nq):FnOk P w K mg base (Z.CX P w) 19 ad.nM fd ["plan"] (g' K mg 1 (bN 1 (kP))):=by
 refine lZ (N:=["plan"]) F aj3 (k:=18) (body:=kP) λA outer s H E hr=>?_;refine lD λtk hp=>?_;unfold kP;exact(a8 (uE (b3 tk oW (a9 hr) T.wC T.Oz (av aq aA)))
 (bf (bV (b3 tk OS (a9 hr) T.j4 T.Hk (av aq aA)))))
theorem akO{fd:FuncData}(F:dj K "plan_text" "plan_text" uo ad.nM fd)(O:FnOk P w K mg base (Z.CX P w) 19 ad.nM fd ["plan"] (g' K mg 1 (bN 1 (kP)))):a5 P w K mg base 19 ad.nM wD:=mY O (iy F)
theorem akP{fd:FuncData}(F:dj K "plan_text" "plan_text" uo ad.nM fd)(O:FnOk P w K mg base (Z.CX P w) 19 ad.nM fd ["plan"] (g' K mg 1 (bN 1 (kP)))):xY P w K mg base 19 ad.nM 0 ["plan"] Cv :=
 To (ix:=[0]) (dvs:=[]) (its:=[]) O (Tp F λ_ _ _ _ _ _ us ws h1 h2=>match us,h1,ws,h2 with|[],_,[_],_=>rfl) λρ H=>ay.nil
theorem akQ(T:dx K mg ad){fd:FuncData}(F:dj K "__init__" "TextReader.__init__" zB ad.Hi fd)  : a5 P w K mg base 1 ad.Hi wj:=by
 refine g0 (N:=["self","text"]) (k:=0) (body:=B5) F aj4 (lE F) λhr tk hp=>?_;unfold B5;exact(a8 (Et (xM T.dN T.dV T.nQ xK) aq aq)
 (bf (Et (xM T.dN T.dV T.nP xK) aq aJ)))
theorem akR(T:dx K mg ad){fd:FuncData}(F:dj K "is_digits" "is_digits" zC ad.yX fd)  : a5 P w K mg base 1 ad.yX nF:=by
 refine g0 (N:=["text","sign"]) (k:=0) (body:=oN) F Ot (iy F) λhr tk hp=>?_;unfold oN;exact(a8 (cJ (f9.eb (ju (h6 (QK xk xk aJ (cF ib rfl T.hI h3 (av aq aA)) (xI T.akn))) (lK (h6 (gx (cF (Jh rfl) rfl T.CZ H0 (av (mX (qQ (own:=[("sign",1)]) rfl Ot.nd (blkOk_by (by rfl)) (u3 aq) (λ_ _ _ _ _=>(i_ Ot.nd)) (λ_ _ _ _ _=>kn) (λ_ _ _ _ _=>(iC (lU hr.units) aq (J4 T.akm))))) aA)))))))
 (bf (bV o5))
 cQ)
 (bf (bV (QI (iC (dQ hr.units) aq bF) (o6 (iC (jP hr.units) (aC hr aq aJ) bF))))))
theorem akS(T:dx K mg ad){fd:FuncData}(F:dj K "is_signed" "is_signed" zD ad.CU fd)(wO:a5 P w K mg base 1 ad.yX nF):a5 P w K mg base 2 ad.CU wh:=by
 refine g0 (N:=["text"]) (k:=1) (body:=rH) F aj5 (iy F) λhr tk hp=>?_;unfold rH;exact(bf (bV (QI (b3 tk wO (a9 hr) T.oN T.OA (av aq aA)) (o6 (nZ (iC (dQ hr.units) (pq aq sA (mU aJ)) bF) (nZ (iC (jP hr.units) aq bF) (o6 (b3 tk wO (a9 hr) T.oN T.OA (av (pq aq (mU aJ) sA) aA)))))))))
theorem akT(T:dx K mg ad){fd:FuncData}(F:dj K "read" "Ratio.read" zE ad.CW fd)(y2:a5 P w K mg base 4 ad.tY sZ)(wN:a5 P w K mg base 1 ad.CV pJ)(wO:a5 P w K mg base 1 ad.yX nF)(OT:a5 P w K mg base 2 ad.CU wh)(gO:jY P w K mg base "InvalidText" ad.iX 2 "InvalidText" ["given"]):a5 P w K mg base 6 ad.CW rJ:=by
 refine g0 (N:=["text","head","bar","tail","found"]) (k:=5) (body:=wi) F Cz (iy F) λhr tk hp=>?_;unfold wi;exact(a8 (cJ (h6 (gx (cF iP rfl T.g4 hM (av aq (av (h5 rfl T.nR o1) aA)))))
 (bf (lY tk rfl gO (a9 hr) (by decide) (av aq aA)))
 cQ)
 (a8 (o7 (sx aeg (λ_ _ _ _ _=>Ed) Dl PySem.F.slot_str_partition PySem.F.type_str_partition aq (av bF aA)) (DX rfl (n0 (lL Cz.nd) (n0 (lL Cz.nd) (n0 (lL Cz.nd) zR))) (jB (fy 1) (jB (fy 2) (jB (fy 3) sg)))) (Ex (ou (fy 1) (ou (fy 2) (ou (fy 3) Ap)))))
 (a8 (cJ (f9.eb (ju (h6 (gx (b3 tk OT (a9 hr) T.rH T.akj (av aq aA)))) (lK (f9.eb (DU (ck (jP hr.units) aq bF) (DT (f9.eb (ju (h6 (gx (b3 tk wO (a9 hr) T.oN T.OA (av aq aA)))) (lK (ck (dQ hr.units) aq bF))))))))))
 (bf (lY tk rfl gO (a9 hr) (by decide) (av aq aA)))
 cQ)
 (a8 (fM Cz.nd (mX (J0 tk T.Hn y2 (a9 hr) T.c6 (av (iE Uq rfl T.kX lH (av aq aA)) (av (jN (ck (jP hr.units) aq bF) (iE Uq rfl T.kX lH (av aq aA)) aJ) aA)))))
 (a8 (cJ (ck (jP hr.units) (RR tk (iO T.c6 T.nO T.XH wN (a9 hr) iN) aq) aq)
 (bf (lY tk rfl gO (a9 hr) (by decide) (av aq aA)))
 cQ)
 (bf (bV aq)))))))
theorem akU(T:dx K mg ad){fd:FuncData}(F:dj K "taken" "TextReader.taken" zF ad.yY fd)  : a5 P w K mg base 1 ad.yY hG:=by
 refine g0 (N:=["self","word","found"]) (k:=0) (body:=B6) F Xz (lE F) λhr tk hp=>?_;unfold B6;exact(a8 (fM Xz.nd (iC (dQ hr.units) (pq (gI (gH T.dN T.dV (j3 T.nQ) gG) aq) (mU (gI (gH T.dN T.dV (j3 T.nP) gG) aq)) (mU (bQ ez (gI (gH T.dN T.dV (j3 T.nP) gG) aq) (cF ib rfl T.hI h3 (av aq aA))))) aq))
 (a8 (V6 (xM T.dN T.dV T.nP xK) aq (jN (gx aq) (cF ib rfl T.hI h3 (av aq aA)) aJ))
 (bf (bV aq))))
theorem akV(T:dx K mg ad){fd:FuncData}(F:dj K "row" "TextReader.row" mI ad.tZ fd)(jG:a5 P w K mg base 1 ad.yY hG)(gO:jY P w K mg base "InvalidText" ad.iX 2 "InvalidText" ["given"]){j:Nat}{again:aD}(g5:a5 P w K mg base (j+7) ad.t2 again):FnOk P w K mg base (Z.CX P w) (j+7+1) ad.tZ fd ["self","depth"] (g' K mg 2 (bN 4 (wk again))):=by
 have eH:j+7<=j+7:=Nat.le_refl _;refine lZ (N:=["self","depth","found","word"]) F Ou (k:=j+7) (body:=wk again) λA outer s H E hr=>?_;refine lD λtk hp=>?_;unfold wk;exact(a8 (fM Ou.nd (DV (av (jA tk (iO T.dN T.dV T.y0 g5 (hr.mono eH) iN) aq (av (bQ ez aq aJ) aA)) aA)))
 (a8 (fM Ou.nd (jN (gx (jA tk (iO T.dN T.dV T.t6 jG (a9 hr) iN) aq (av bF aA))) bF bF))
 (a8 (cJ (f9.eb (DU (ck (dQ hr.units) aq bF) (DT (h6 (gx (jA tk (iO T.dN T.dV T.t6 jG (a9 hr) iN) aq (av bF aA)))))))
 (bf (lY tk rfl gO (a9 hr) (by decide) (av (gI (gH T.dN T.dV (j3 T.nQ) gG) aq) aA)))
 cQ)
 (a8 (uE (sx Rq (λ_ _ _ _ _=>xu) PySem.F.plainAttrs_list PySem.F.slot_list_append PySem.F.type_list_append aq (av (jA tk (iO T.dN T.dV T.y0 g5 (hr.mono eH) iN) aq (av (bQ ez aq aJ) aA)) aA)))
 (a8 (zS hp (gx (jA tk (iO T.dN T.dV T.t6 jG (a9 hr) iN) aq (av (jN (ck (dQ hr.units) aq bF) bF bF) aA)))
 (bf (uE (sx Rq (λ_ _ _ _ _=>xu) PySem.F.plainAttrs_list PySem.F.slot_list_append PySem.F.type_list_append aq (av (jA tk (iO T.dN T.dV T.y0 g5 (hr.mono eH) iN) aq (av (bQ ez aq aJ) aA)) aA)))))
 (a8 (cJ (h6 (gx (jA tk (iO T.dN T.dV T.t6 jG (a9 hr) iN) aq (av bF aA))))
 (bf (lY tk rfl gO (a9 hr) (by decide) (av (gI (gH T.dN T.dV (j3 T.nQ) gG) aq) aA)))
 cQ)
 (bf (bV (d0 (av aq (Lp aq aA)))))))))))
theorem akW{fd:FuncData}(F:dj K "row" "TextReader.row" mI ad.tZ fd){j:Nat}{again:aD}(O:FnOk P w K mg base (Z.CX P w) (j+7+1) ad.tZ fd ["self","depth"] (g' K mg 2 (bN 4 (wk again)))):a5 P w K mg base (j+7+1) ad.tZ (B7 again):=mY O (lE F)
theorem akX(T:dx K mg ad){fd:FuncData}(F:dj K "run_of" "TextReader.run_of" zG ad.CY fd)  : a5 P w K mg base 1 ad.CY pZ:=by
 refine g0 (N:=["self","signs","begin"]) (k:=0) (body:=B9) F XA (lE F) λhr tk hp=>?_;unfold B9;exact(a8 (fM XA.nd (gI (gH T.dN T.dV (j3 T.nP) gG) aq))
 (a8 (zS hp (f9.eb (DU (ck xH (gI (gH T.dN T.dV (j3 T.nP) gG) aq) (cF ib rfl T.hI h3 (av (gI (gH T.dN T.dV (j3 T.nQ) gG) aq) aA))) (DT (ck (lU hr.units) (aC hr (gI (gH T.dN T.dV (j3 T.nQ) gG) aq) (gI (gH T.dN T.dV (j3 T.nP) gG) aq)) aq))))
 (bf (V6 (xM T.dN T.dV T.nP xK) aq aJ)))
 (bf (bV (pq (gI (gH T.dN T.dV (j3 T.nQ) gG) aq) (mU aq) (mU (gI (gH T.dN T.dV (j3 T.nP) gG) aq)))))))
theorem X1(T:dx K mg ad){fd:FuncData}(F:dj K "plan" "TextReader.plan" w3 ad.t2 fd)(t_:a5 P w K mg base 6 ad.CW rJ)(rQ:a5 P w K mg base 1 ad.CY pZ)(jG:a5 P w K mg base 1 ad.yY hG)(gO:jY P w K mg base "InvalidText" ad.iX 2 "InvalidText" ["given"]){OU:FuncData}(C1:FunD K "row" "TextReader.row" (defArgs mI) (defBody mI) (defScope mI) [] [] ad.tZ OU)(k:Nat)(g5:a5 P w K mg base (2 * k+7) ad.t2 (lC k)):FnOk P w K mg base (Z.CX P w) (2 * k+7+1+1) ad.t2 fd ["self","depth"] (g' K mg 2 (bN 5 (p3 (lC k)))):=by
 have eH:2 * k+7<=2 * k+7+1:=by omega
 have akY:=akW C1 (akV T C1 jG gO g5);refine lZ (N:=["self","depth","found","word","ratio"]) F Hg (k:=2 * k+7+1) (body:=p3 (lC k)) λA outer s H E hr=>?_;refine lD λtk hp=>?_;unfold p3;exact(a8 (cJ (ck sk aq (xI T.XS))
 (bf (lY tk rfl gO (a9 hr) (by decide) (av (gI (gH T.dN T.dV (j3 T.nQ) gG) aq) aA)))
 cQ)
 (a8 (cJ (gx (jA tk (iO T.dN T.dV T.t6 jG (a9 hr) iN) aq (av bF aA)))
 (a8 (fM Hg.nd (d0 (av bF (av (jA tk (iO T.dN T.dV T.y0 g5 (hr.mono eH) iN) aq (av (bQ ez aq aJ) aA)) aA))))
 (a8 (cJ (h6 (gx (jA tk (iO T.dN T.dV T.t6 jG (a9 hr) iN) aq (av bF aA))))
 (bf (lY tk rfl gO (a9 hr) (by decide) (av (gI (gH T.dN T.dV (j3 T.nQ) gG) aq) aA)))
 cQ)
 (bf (bV aq))))
 cQ)
 (a8 (cJ (gx (jA tk (iO T.dN T.dV T.t6 jG (a9 hr) iN) aq (av bF aA)))
 (bf (bV (jA tk (iO T.dN T.dV T.akk akY (a9 hr) iN) aq (av aq aA))))
 cQ)
 (a8 (fM Hg.nd (jA tk (iO T.dN T.dV T.XM rQ (a9 hr) iN) aq (av (J4 T.XR) aA)))
 (a8 (cJ (ck (lU hr.units) aq (F2 T.Hq))
 (bf (bV (d0 (av aq aA))))
 cQ)
 (a8 (cJ (ck (jP hr.units) aq bF)
 (bf (bV (d0 (av bF (av aq aA)))))
 cQ)
 (a8 (fM Hg.nd (ae7 tk t_ (a9 hr) T.c6 T.akl (av (jA tk (iO T.dN T.dV T.XM rQ (a9 hr) iN) aq (av bF aA)) aA)))
 (a8 (cJ (h6 (gx (jA tk (iO T.dN T.dV T.t6 jG (a9 hr) iN) aq (av bF aA))))
 (bf (lY tk rfl gO (a9 hr) (by decide) (av (gI (gH T.dN T.dV (j3 T.nQ) gG) aq) aA)))
 cQ)
 (bf (bV (d0 (av bF (av aq (av (jA tk (iO T.dN T.dV T.y0 g5 (hr.mono eH) iN) aq (av (bQ ez aq aJ) aA)) aA))))))))))))))
theorem OV(T:dx K mg ad){fd:FuncData}(F:dj K "plan" "TextReader.plan" w3 ad.t2 fd)(t_:a5 P w K mg base 6 ad.CW rJ)(rQ:a5 P w K mg base 1 ad.CY pZ)(jG:a5 P w K mg base 1 ad.yY hG)(gO:jY P w K mg base "InvalidText" ad.iX 2 "InvalidText" ["given"]){OU:FuncData}(C1:FunD K "row" "TextReader.row" (defArgs mI) (defBody mI) (defScope mI) [] [] ad.tZ OU):∀k,a5 P w K mg base (2 * k+7) ad.t2 (lC k)
 |0=>va
 |k+1=>mY (X1 T F t_ rQ jG gO C1 k (OV T F t_ rQ jG gO C1 k)) (lE F)
theorem akZ(T:dx K mg ad){fd:FuncData}(F:dj K "read_plan" "read_plan" uq ad.nN fd)(OW:a5 P w K mg base 1 ad.Hi wj)(OX:a5 P w K mg base 25 ad.t2 GA)(oW:a5 P w K mg base 18 ad.tX tV)(gO:jY P w K mg base "InvalidText" ad.iX 2 "InvalidText" ["given"]):FnOk P w K mg base (Z.CX P w) 26 ad.nN fd ["text"] (g' K mg 1 (bN 3 (kQ))):=by
 refine lZ (N:=["text","reader","found"]) F Ov (k:=25) (body:=kQ) λA outer s H E hr=>?_;refine lD λtk hp=>?_;unfold kQ;exact(a8 (cJ (h6 (gx (cF iP rfl T.g4 hM (av aq (av (h5 rfl T.nR o1) aA)))))
 (bf (lY tk rfl gO (a9 hr) (by decide) (av aq aA)))
 cQ)
 (a8 (fM Ov.nd (J0 tk T.OB OW (a9 hr) T.dN (av aq aA)))
 (a8 (aeX (tab:=[("InvalidRatio",true),("InvalidText",true),("InvalidPlan",true)]) rfl rfl (acK rfl T.XP rfl T.XQ rfl T.XO) (L2H.passesAt_of rfl) tk (K8 T.XO T.OD (K8 T.XP T.OG (K8 T.XQ T.OC ada))) (λvF pn xe tk =>
 (a8 (fM Ov.nd (jA tk (iO T.dN T.dV T.y0 OX (a9 hr) iN) aq (av aJ aA)))
 (bf (uE (b3 tk oW (a9 hr) T.wC T.Oz (av aq aA)))))) (λa pn ak0 q7 =>
 (bf (ae2 ak0 q7 gO (RoomH.q7 hr (by omega)) (by decide) (av aq aA)))))
 (a8 (cJ (ck xH (gI (gH T.dN T.dV (j3 T.nP) gG) aq) (cF ib rfl T.hI h3 (av aq aA)))
 (bf (lY tk rfl gO (a9 hr) (by decide) (av aq aA)))
 cQ)
 (bf (bV aq))))))
theorem ak1{fd:FuncData}(F:dj K "read_plan" "read_plan" uq ad.nN fd)(O:FnOk P w K mg base (Z.CX P w) 26 ad.nN fd ["text"] (g' K mg 1 (bN 3 (kQ)))):a5 P w K mg base 26 ad.nN yW:=mY O (iy F)
theorem ak2{fd:FuncData}(F:dj K "read_plan" "read_plan" uq ad.nN fd)(O:FnOk P w K mg base (Z.CX P w) 26 ad.nN fd ["text"] (g' K mg 1 (bN 3 (kQ)))):xY P w K mg base 26 ad.nN 0 ["text"] Cw :=
 To (ix:=[0]) (dvs:=[]) (its:=[]) O (Tp F λ_ _ _ _ _ _ us ws h1 h2=>match us,h1,ws,h2 with|[],_,[_],_=>rfl) λρ H=>ay.nil
theorem ak3(T:dx K mg ad){fd:FuncData}(F:dj K "law" "law" zH ad.Hh fd)(j6:a5 P w K mg base 1 ad.wJ eL)(OY:a5 P w K mg base 1 ad.a_1 Az)(OZ:a5 P w K mg base 11 ad.CA V3)(O0:a5 P w K mg base 3 ad.CB B2)(iY:a5 P w K mg base 1 ad.rO ig)(O1:a5 P w K mg base 13 ad.CH V4)(Hx:a5 P w K mg base 16 ad.CL Gv)(O2:a5 P w K mg base 11 ad.CN Np)(Hy:a5 P w K mg base 13 ad.CO xQ)(C2:a5 P w K mg base 19 ad.nM wD)(C3:a5 P w K mg base 26 ad.nN yW)(O3:ZG.Ga P w K mg base 20 ad.p8 1 [] Oj)(O4:xY P w K mg base 19 ad.nM 0 ["plan"] Cv)(O5:xY P w K mg base 26 ad.nN 0 ["text"] Cw):FnOk P w K mg base (Z.CX P w) 27 ad.Hh fd ["_law_script"] (g' K mg 1 (bN 12 (rN))):=by
 refine lZ (N:=["_law_script","_law_bag_here","_law_names","_law_turn","_law_own","_law_late","_law_k","_law_plan_z","_law_other","_law_shown","_law_found","_law_row"]) F kR (k:=26) (body:=rN) λA outer s H E hr=>?_;refine lD λtk hp=>?_;unfold rN;exact(a8 (fM kR.nd (b3 tk OY (a9 hr) T.xP T.aj7 (av aq aA)))
 (a8 (fM kR.nd (bQ ez (b3 tk O0 (a9 hr) T.wd T.aj8 (av aq (av aJ aA))) (jO (av bF (av bF aA)))))
 (a8 (QN hp rfl (xD (av aJ aA) rfl T.t8) (lL kR.nd)
 (a8 (o7 (mX (qQ (own:=[("_law_k",6)]) rfl kR.nd (blkOk_by (by rfl)) (xD (av aJ aA) rfl T.t8) (λ_ _ _ _ _=>(i_ kR.nd)) (λ_ _ _ _ _=>kn) (λ_ _ _ _ _=>(b3 om O1 (a9 hr) T.pY T.Hj (av aq (av aq (av (bQ ez aJ (b3 om iY (a9 hr) T.hB T.t4 (av aq (av aJ aA)))) aA))))))) (ac6 rfl (n0 (lL kR.nd) (n0 (lL kR.nd) zR)) (jB (fy 4) (jB (fy 5) sg))) (ac7 (ou (fy 4) (ou (fy 5) Ap))))
 (a8 (uG (j:=8) rfl kR.nd (av (b3 tk Hx (a9 hr) T.rF T.Ox (av aq aA)) (av (b3 tk Hx (a9 hr) T.rF T.Ox (av aq aA)) aA)))
 (a8 (fM kR.nd (b3 tk O2 (a9 hr) T.tN T.XF (av aq aA)))
 (a8 (cJ (h6 (gx (b3 tk Hy (a9 hr) T.lh T.Oy (av (jO (av (b3 tk C2 (a9 hr) T.kP T.Hl (av aq aA)) (av (Ts tk O4 (a9 hr) T.kP T.Hl (Tr aq Tq)) aA))) (av (jO (av aq (av aq aA))) aA)))))
 (bf (bV o5))
 cQ)
 (a8 (cJ (f9.eb (ju (vp (gX.or (cA.w (jP hr.units)) (FI (n:=12) tk (a9 hr) (sT T.c6 T.t5 j6 (a9 hr) sS) (sV T.c6 (sX T.c6 T.qb sW) T.qa T.oV sU))) (b3 tk C3 (a9 hr) T.kQ T.Hm (av aq aA)) aq) (ju (vp (gX.or (cA.w (jP hr.units)) (FI (n:=12) tk (a9 hr) (sT T.c6 T.t5 j6 (a9 hr) sS) (sV T.c6 (sX T.c6 T.qb sW) T.qa T.oV sU))) (Ts tk O5 (a9 hr) T.kQ T.Hm (Tr aq Tq)) aq) (lK (vp (gX.or (cA.w (jP hr.units)) (FI (n:=12) tk (a9 hr) (sT T.c6 T.t5 j6 (a9 hr) sS) (sV T.c6 (sX T.c6 T.qb sW) T.qa T.oV sU))) (b3 tk C3 (a9 hr) T.kQ T.Hm (av (b3 tk C2 (a9 hr) T.kP T.Hl (av aq aA)) aA)) aq)))))
 (bf (bV o5))
 cQ)
 (a8 (cJ (vp (gX.or (cA.w (jP hr.units)) (FI (n:=12) tk (a9 hr) (sT T.c6 T.t5 j6 (a9 hr) sS) (sV T.c6 (sX T.c6 T.qb sW) T.qa T.oV sU))) (Te (gX.or (cA.w (dQ hr.units)) (Wg (n:=12) tk (a9 hr) (sT T.c6 T.t5 j6 (a9 hr) sS) (sV T.c6 (sX T.c6 T.qb sW) T.qa T.oV sU))) (b3 tk C2 (a9 hr) T.kP T.Hl (av aq aA)) aq) (Te (gX.or (cA.w (dQ hr.units)) (Wg (n:=12) tk (a9 hr) (sT T.c6 T.t5 j6 (a9 hr) sS) (sV T.c6 (sX T.c6 T.qb sW) T.qa T.oV sU))) aq aq))
 (bf (bV o5))
 cQ)
 (a8 (fM kR.nd (b3 tk C3 (a9 hr) T.kQ T.Hm (av aq aA)))
 (bf (cJ (f9.eb (ju (h6 (gx (cF iP rfl T.g4 hM (av aq (av (h5 rfl T.rP uj) aA))))) (lK (h6 (gx (b3 tk Hy (a9 hr) T.lh T.Oy (av (mX (ZG.ahP (own:=[("_law_row",11)]) rfl kR.nd hr.hd (ZG.Room.Vd hr) (blkOk_by (by rfl)) (by rfl) (ZG.ahj (off:=1) O3 (a9 hr) T.akh T.aki (av aq aA)) (λ_ _ _ _ _=>(i_ kR.nd)) (λ_ _ _ _ _=>kn) (λ_ _ _ _ _=>(aC hr aq aJ)))) (av (mX (qQ (own:=[("_law_row",11)]) rfl kR.nd (blkOk_by (by rfl)) (u3 (b3 tk OZ (a9 hr) T.tL T.XC (av aq (av (d0 aA) aA)))) (λ_ _ _ _ _=>(i_ kR.nd)) (λ_ _ _ _ _=>kn) (λ_ _ _ _ _=>(aC hr aq aJ)))) aA))))))))
 (bf (bV o5))
 cQ))))))))))
 (bf (bV o5)))))
end
theorem ak4:ZX.q2 (defScope qj) "self":=⟨rfl,rfl,rfl,rfl,rfl,rfl,by decide +kernel⟩
theorem ak5:ZX.xW (defArgs qj) (defScope qj) "self" ["value"]:=⟨rfl,by decide +kernel,by decide +kernel,by decide +kernel,λfd us h hd hl=>by
 obtain⟨⟩:=fd;cases h;cases hd;exact match us,hl with|[_,_],_=>rfl⟩
theorem O6:ZX.q2 (defScope kb) "self":=⟨rfl,rfl,rfl,rfl,rfl,rfl,by decide +kernel⟩
theorem O7:ZX.xW (defArgs kb) (defScope kb) "self" ["tag"]:=⟨rfl,by decide +kernel,by decide +kernel,by decide +kernel,λfd us h hd hl=>by
 obtain⟨⟩:=fd;cases h;cases hd;exact match us,hl with|[_,_],_=>rfl⟩
theorem ak6:ZX.q2 (defScope ql) "self":=⟨rfl,rfl,rfl,rfl,rfl,rfl,by decide +kernel⟩
theorem ak7:ZX.xW (defArgs ql) (defScope ql) "self" ["given"]:=⟨rfl,by decide +kernel,by decide +kernel,by decide +kernel,λfd us h hd hl=>by
 obtain⟨⟩:=fd;cases h;cases hd;exact match us,hl with|[_,_],_=>rfl⟩
theorem ak8:ZX.q2 (defScope qm) "self":=⟨rfl,rfl,rfl,rfl,rfl,rfl,by decide +kernel⟩
theorem ak9:ZX.xW (defArgs qm) (defScope qm) "self" ["path"]:=⟨rfl,by decide +kernel,by decide +kernel,by decide +kernel,λfd us h hd hl=>by
 obtain⟨⟩:=fd;cases h;cases hd;exact match us,hl with|[_,_],_=>rfl⟩
theorem ala{l:PySem.W.OpenLaw}{w:World}{K:PySem.W.Frag}{h:Heap}{mg:Str->Option Value}{base:Heap}
  {O8:Addr} {lF:Addr} {kS:Addr} {p_:Addr}
  (X:K.In h) (G:h.Ns mainGlobals mg)
  (Hz:PySem.W.nsIn K mainGlobals "InvalidRatio"=some (some (.ref kS)))
  (C4:ZX.qW l.prog K O8 kS "InvalidRatio.__init__" (defArgs qj) (defBody qj) (defScope qj))
  (oX:ZX.qW l.prog K lF p_ "WayError.__init__" (defArgs kb) (defBody kb) (defScope kb))
  (C5:r4 K kS p_ O8 lF [.type "ValueError",.type "Exception",.type "BaseException",.type "object"] "ValueError" "ValueError.__new__" "ValueError.__init__" (.ref lF) ["tag","value"]=true)
  (rR:PySem.W.nsIn K mainGlobals "super"=some none)
  (rS:PySem.W.nsIn K cStatics "thirdparty.any"=some none)
  (rT:(l.prog.main.scope.names.lookup ("super":Str)).isSome=false)
  : jY l.prog w K mg base "InvalidRatio" kS 2 "InvalidRatio" ["value"]:=by
 have ua:L2.Mod K mg base->ZX.sO l.prog K mg base:=λM=>⟨M,j' X G rR,rT,rS⟩
 obtain⟨alb,X2,alc,ald,ale,X3,alf,alg,alh,ali,alj,alk,alm,aln,alo,C6,C7,_,_⟩:=q9 C5;have alp:PySem.W.findIn K (.ref kS) "tag"=some none:=(q9 C5).at_ (by decide +kernel);have alq:PySem.W.findIn K (.ref kS) "value"=some none:=(q9 C5).at_ (by decide +kernel);have X4:ZX.pD K kS [.type "ValueError",.type "Exception",.type "BaseException",.type "object"] "ValueError.__new__":=⟨X2,alc,ald,ale⟩
 refine⟨dy X G Hz,alb,λM=>⟨"ValueError","ValueError.__new__","ValueError.__init__",_,O8,w0,X2,alf,alg,?_⟩,alh,alj⟩;have vo:ZX.pE l.prog w base 1 lF kS ZX.b_:=ZX.KC H2 w0 w1 (ua M) oX O6 X4 X3 O7 aln alo ali alp rfl (λenv=>⟨rfl,rfl,⟨_,rfl⟩⟩) (λenv=>rfl) (r0:=(λv=>v "tag")) (r1:=(λv=>v "tag")) (λenv vof h=>ZX.jX.par (by show env.scope.names.lookup _=_;rw[h];rfl) rfl) (λenv vof h=>ZX.jX.par (by show env.scope.names.lookup _=_;rw[h];rfl) rfl) (λv1 v2 h=>h "tag" (by simp));have C9:=ZX.KO (l:=(["value"]:List Str).map λp=>(p,p)) vo w1 (ua M) C4 ak4 X4 X3 ak5 alk alm C6 C7 rfl (λenv=>⟨rfl,rfl,⟨_,rfl⟩⟩) (r0:=λ_=>V.str "InvalidRatio") (λenv vof h=>ZX.jX.txt) (λv1 v2 h=>rfl) (λenv h=>.cons rfl (by show env.scope.names.lookup _=_;rw[h];rfl) rfl (.nil)) (λfp hm=>by
  simp only[c1,qf,List.mem_cons,j9,or_false]at hm;subst hm;exact⟨alq,by simp⟩) (by simp) (λvs fs h=>by unfold ZX.b_ at h;split at h<;>cases h;simp)
 exact C9.cast (λvs=>ZX.K7 (by decide) vs)
theorem alr{l:PySem.W.OpenLaw}{w:World}{K:PySem.W.Frag}{h:Heap}{mg:Str->Option Value}{base:Heap}
  {lF:Addr} {O9:Addr} {iX:Addr} {p_:Addr}
  (X:K.In h) (G:h.Ns mainGlobals mg)
  (HA:PySem.W.nsIn K mainGlobals "InvalidText"=some (some (.ref iX)))
  (oX:ZX.qW l.prog K lF p_ "WayError.__init__" (defArgs kb) (defBody kb) (defScope kb))
  (C_:ZX.qW l.prog K O9 iX "InvalidText.__init__" (defArgs ql) (defBody ql) (defScope ql))
  (C':r4 K iX p_ O9 lF [.type "ValueError",.type "Exception",.type "BaseException",.type "object"] "ValueError" "ValueError.__new__" "ValueError.__init__" (.ref lF) ["tag","given"]=true)
  (rR:PySem.W.nsIn K mainGlobals "super"=some none)
  (rS:PySem.W.nsIn K cStatics "thirdparty.any"=some none)
  (rT:(l.prog.main.scope.names.lookup ("super":Str)).isSome=false)
  : jY l.prog w K mg base "InvalidText" iX 2 "InvalidText" ["given"]:=by
 have ua:L2.Mod K mg base->ZX.sO l.prog K mg base:=λM=>⟨M,j' X G rR,rT,rS⟩
 obtain⟨als,X5,alu,alv,alw,X6,alx,aly,alz,alA,alB,alC,alD,alE,alF,C6,C7,_,_⟩:=q9 C';have alG:PySem.W.findIn K (.ref iX) "tag"=some none:=(q9 C').at_ (by decide +kernel);have alH:PySem.W.findIn K (.ref iX) "given"=some none:=(q9 C').at_ (by decide +kernel);have X7:ZX.pD K iX [.type "ValueError",.type "Exception",.type "BaseException",.type "object"] "ValueError.__new__":=⟨X5,alu,alv,alw⟩
 refine⟨dy X G HA,als,λM=>⟨"ValueError","ValueError.__new__","ValueError.__init__",_,O9,w0,X5,alx,aly,?_⟩,alz,alB⟩;have vo:ZX.pE l.prog w base 1 lF iX ZX.b_:=ZX.KC H2 w0 w1 (ua M) oX O6 X7 X6 O7 alE alF alA alG rfl (λenv=>⟨rfl,rfl,⟨_,rfl⟩⟩) (λenv=>rfl) (r0:=(λv=>v "tag")) (r1:=(λv=>v "tag")) (λenv vof h=>ZX.jX.par (by show env.scope.names.lookup _=_;rw[h];rfl) rfl) (λenv vof h=>ZX.jX.par (by show env.scope.names.lookup _=_;rw[h];rfl) rfl) (λv1 v2 h=>h "tag" (by simp));have C9:=ZX.KO (l:=(["given"]:List Str).map λp=>(p,p)) vo w1 (ua M) C_ ak6 X7 X6 ak7 alC alD C6 C7 rfl (λenv=>⟨rfl,rfl,⟨_,rfl⟩⟩) (r0:=λ_=>V.str "InvalidText") (λenv vof h=>ZX.jX.txt) (λv1 v2 h=>rfl) (λenv h=>.cons rfl (by show env.scope.names.lookup _=_;rw[h];rfl) rfl (.nil)) (λfp hm=>by
  simp only[c1,qf,List.mem_cons,j9,or_false]at hm;subst hm;exact⟨alH,by simp⟩) (by simp) (λvs fs h=>by unfold ZX.b_ at h;split at h<;>cases h;simp)
 exact C9.cast (λvs=>ZX.K7 (by decide) vs)
theorem alI{l:PySem.W.OpenLaw}{w:World}{K:PySem.W.Frag}{h:Heap}{mg:Str->Option Value}{base:Heap}
  {lF:Addr} {O_:Addr} {kW:Addr} {p_:Addr}
  (X:K.In h) (G:h.Ns mainGlobals mg)
  (HB:PySem.W.nsIn K mainGlobals "InvalidPlan"=some (some (.ref kW)))
  (oX:ZX.qW l.prog K lF p_ "WayError.__init__" (defArgs kb) (defBody kb) (defScope kb))
  (Dc:ZX.qW l.prog K O_ kW "InvalidPlan.__init__" (defArgs qm) (defBody qm) (defScope qm))
  (Dd:r4 K kW p_ O_ lF [.type "ValueError",.type "Exception",.type "BaseException",.type "object"] "ValueError" "ValueError.__new__" "ValueError.__init__" (.ref lF) ["tag","path"]=true)
  (rR:PySem.W.nsIn K mainGlobals "super"=some none)
  (rS:PySem.W.nsIn K cStatics "thirdparty.any"=some none)
  (rT:(l.prog.main.scope.names.lookup ("super":Str)).isSome=false)
  : jY l.prog w K mg base "InvalidPlan" kW 2 "InvalidPlan" ["path"]:=by
 have ua:L2.Mod K mg base->ZX.sO l.prog K mg base:=λM=>⟨M,j' X G rR,rT,rS⟩
 obtain⟨alJ,X8,alK,alL,alM,X9,alN,alO,alP,alQ,alR,alS,alT,alU,alV,C6,C7,_,_⟩:=q9 Dd;have alW:PySem.W.findIn K (.ref kW) "tag"=some none:=(q9 Dd).at_ (by decide +kernel);have alX:PySem.W.findIn K (.ref kW) "path"=some none:=(q9 Dd).at_ (by decide +kernel);have X_:ZX.pD K kW [.type "ValueError",.type "Exception",.type "BaseException",.type "object"] "ValueError.__new__":=⟨X8,alK,alL,alM⟩
 refine⟨dy X G HB,alJ,λM=>⟨"ValueError","ValueError.__new__","ValueError.__init__",_,O_,w0,X8,alN,alO,?_⟩,alP,alR⟩;have vo:ZX.pE l.prog w base 1 lF kW ZX.b_:=ZX.KC H2 w0 w1 (ua M) oX O6 X_ X9 O7 alU alV alQ alW rfl (λenv=>⟨rfl,rfl,⟨_,rfl⟩⟩) (λenv=>rfl) (r0:=(λv=>v "tag")) (r1:=(λv=>v "tag")) (λenv vof h=>ZX.jX.par (by show env.scope.names.lookup _=_;rw[h];rfl) rfl) (λenv vof h=>ZX.jX.par (by show env.scope.names.lookup _=_;rw[h];rfl) rfl) (λv1 v2 h=>h "tag" (by simp));have C9:=ZX.KO (l:=(["path"]:List Str).map λp=>(p,p)) vo w1 (ua M) Dc ak8 X_ X9 ak9 alS alT C6 C7 rfl (λenv=>⟨rfl,rfl,⟨_,rfl⟩⟩) (r0:=λ_=>V.str "InvalidPlan") (λenv vof h=>ZX.jX.txt) (λv1 v2 h=>rfl) (λenv h=>.cons rfl (by show env.scope.names.lookup _=_;rw[h];rfl) rfl (.nil)) (λfp hm=>by
  simp only[c1,qf,List.mem_cons,j9,or_false]at hm;subst hm;exact⟨alX,by simp⟩) (by simp) (λvs fs h=>by unfold ZX.b_ at h;split at h<;>cases h;simp)
 exact C9.cast (λvs=>ZX.K7 (by decide) vs)
abbrev eF:PySem.W.OpenLaw:=PySem.Challenge.rw_waysagree_k31_whole_texts_of_plans
theorem end_{w:World}{K:PySem.W.Frag}{h:Heap}{mg:Str->Option Value}{fa:Addr}(alY:∀ns:List Int,ns.length<=63->∃S,bN 12 rN [.cy ns] []=.ok (.bl true) S)(X:K.In h)(G:h.Ns mainGlobals mg)(hfa:mg "law"=some (.ref fa))(c:ZK.vz uv kc DF DG h K):∃fd:FuncData,(∀(s:Shared) (v:Value),BindsTo s fd ⟨[v],[]⟩ [("_law_script",v)])/\∀base:Heap,K.In base->base.Ns mainGlobals mg->FnOk PySem.Challenge.rw_waysagree_k31_whole_texts_of_plans.prog w K mg base (Z.CX PySem.Challenge.rw_waysagree_k31_whole_texts_of_plans.prog w) 27 fa fd ["_law_script"] (J5 K):=by
 refine ZK.UD (l:=[Qv K,Qw K,Qx K,Qy K,Qz K,QA K]) c.more λalZ Ya Yb Yc Yd Hn al0 al1 wK wL al2 al3 al4 oV qa qb XJ al5 al6 al7 al8 al9 OB ama amb nP nQ amc amd ame amf amg Ho amh ami amj amk aml amm amn amo amq amr ams amt amu amv amw amx amy amz amA amB amC amD amE amF amG amH amI amJ amK amL amM ars amN amO amP amQ amR Ye Hz HA HB amS OC OD OG aru C4 arv oX arw C_ arx Dc C5 C' Dd rR rS O' Pa Pb Pg Ph Pj Pk amT amU wM CZ C0 Hr kX g4 hI t7 t8 nR rP OH=>?_;obtain⟨arz,Yf⟩:=c.def_ 0 (d:=PN);obtain⟨arA,Yg⟩:=c.def_ 1 (d:=PR);obtain⟨arB,Yh⟩:=c.def_ 2 (d:=PU);obtain⟨arC,Yi⟩:=c.def_ 3 (d:=PV);obtain⟨arD,Yj⟩:=c.def_ 4 (d:=PY);obtain⟨arE,Yk⟩:=c.def_ 5 (d:=PZ);obtain⟨arF,Yl⟩:=c.def_ 6 (d:=P0);obtain⟨arG,Ym⟩:=c.def_ 7 (d:=P1);obtain⟨arH,Yn⟩:=c.def_ 8 (d:=P2);obtain⟨arI,Yo⟩:=c.def_ 9 (d:=P4);obtain⟨arJ,Yp⟩:=c.def_ 10 (d:=P5);obtain⟨arK,Yq⟩:=c.def_ 11 (d:=P6);obtain⟨arL,Yr⟩:=c.def_ 12 (d:=P7);obtain⟨arM,Ys⟩:=c.def_ 13 (d:=P8);obtain⟨arN,Yt⟩:=c.def_ 14 (d:=P9);obtain⟨arO,Yu⟩:=c.def_ 15 (d:=P_);obtain⟨arP,Yv⟩:=c.def_ 16 (d:=Qa);obtain⟨arQ,Yw⟩:=c.def_ 17 (d:=Qb);obtain⟨arR,Yx⟩:=c.def_ 18 (d:=Qc);obtain⟨arS,Yy⟩:=c.def_ 19 (d:=Qd);obtain⟨arT,Yz⟩:=c.def_ 20 (d:=Qe);obtain⟨arU,YB⟩:=c.def_ 21 (d:=Qf);obtain⟨arV,YC⟩:=c.def_ 22 (d:=Qg);obtain⟨arW,YD⟩:=c.def_ 23 (d:=Qh);obtain⟨arX,YF⟩:=c.def_ 24 (d:=Qi);obtain⟨arY,YG⟩:=c.def_ 25 (d:=Qj);obtain⟨arZ,HC⟩:=c.def_ 26 (d:=Qk);obtain⟨ar0,amV⟩:=c.def_ 27 (d:=Ql);obtain⟨ar3,YH⟩:=c.def_ 28 (d:=Qm);obtain⟨ar4,YJ⟩:=c.def_ 29 (d:=Qn);obtain⟨ar5,amW⟩:=c.def_ 30 (d:=Qo);obtain⟨ar6,YK⟩:=c.def_ 31 (d:=Qp);obtain⟨ar7,HD⟩:=c.def_ 32 (d:=Qq);obtain⟨ar8,YL⟩:=c.def_ 33 (d:=Qr);obtain⟨ar9,HE⟩:=c.def_ 34 (d:=Qs);obtain⟨asa,HF⟩:=c.def_ 35 (d:=Qt);obtain⟨YM,Pl⟩:=c.def_ 36 (d:=Qu);have C4:=ZK.dW.sup (prog:=PySem.Challenge.pw_waysagree_k31_whole_texts_of_plans) (d:=IK) (c.Fp 0) rfl C4;have oX:=ZK.dW.sup (prog:=PySem.Challenge.pw_waysagree_k31_whole_texts_of_plans) (d:=IL) (c.Fp 1) rfl oX;have C_:=ZK.dW.sup (prog:=PySem.Challenge.pw_waysagree_k31_whole_texts_of_plans) (d:=IM) (c.Fp 2) rfl C_;have Dc:=ZK.dW.sup (prog:=PySem.Challenge.pw_waysagree_k31_whole_texts_of_plans) (d:=IQ) (c.Fp 3) rfl Dc;have rT:(eF.prog.main.scope.names.lookup ("super":Str)).isSome=false:=rfl;have O':=He.str_ok X G O';have Pa:=He.str_ok X G Pa;have Pb:=He.int_ok X G Pb;have Pg:=He.int_ok X G Pg;have Ph:=He.int_ok X G Ph;have Pj:=He.int_ok X G Pj;have Pk:=He.int_ok X G Pk;have e:=hfa.symm.trans (dy X G Ye);have e2:(Dt K)=fa:=by injection e with e;injection e with e;exact e.symm
 subst e2;have T:dx K mg ⟨(H9 K),(H_ K),(Ia K),(Ib K),(Ic K),(Ie K),(Ig K),(Ih K),(Ii K),(Ij K),(Ik K),(Il K),(Im K),(Io K),(Ip K),(Iq K),(Ir K),(Iu K),(Iv K),(Iw K),(Iy K),(Iz K),(IA K),(IB K),(IC K),(IE K),(IG K),(Dt K),(gp K),(jI K),(Du K),(Dw K),(Dx K),(Dy K),(Dz K),(DA K),(DB K),(DC K),(DE K),(PH K),(qn K),(qo K),(qp K),(ur K)⟩:=⟨dy X G amj,Yg.kp,dy X G amk,Yh.kp,dy X G aml,Yi.kp,dy X G amm,Yj.kp,dy X G amn,Yk.kp,dy X G amo,Yl.kp,dy X G amq,Ym.kp,dy X G amr,Yn.kp,dy X G ams,Yo.kp,dy X G amt,Yp.kp,dy X G amu,Yq.kp,dy X G amv,Yr.kp,dy X G amx,Yt.kp,dy X G amy,Yu.kp,dy X G amz,Yv.kp,dy X G amA,Yw.kp,dy X G amB,Yx.kp,dy X G amC,Yy.kp,dy X G amD,Yz.kp,dy X G amE,YB.kp,dy X G amF,YC.kp,dy X G amG,YD.kp,dy X G amI,YG.kp,dy X G amJ,HC.kp,dy X G amL,YH.kp,dy X G amM,YJ.kp,dy X G amR,HF.kp,dy X G Ye,Pl.kp,dy X G alZ,⟨Ya,Yb,Yc,Yd⟩,⟨Hn,al1,amw,al0⟩,wK,wL,⟨al2,ami,Yf.kp⟩,⟨al3,amH,YF.kp⟩,⟨⟨Ya,Yb,Yc,Yd⟩,al4,oV⟩,qa,oV,qb,XJ,dy X G al5,⟨al6,al7,al8,al9⟩,⟨OB,amb,amK,ama⟩,nP,nQ,⟨amc,amQ,HE.kp⟩,⟨amd,amO,HD.kp⟩,⟨ame,amP,YL.kp⟩,⟨amf,amN,YK.kp⟩,ae5 amg,Ho,amh,dy X G Hz,dy X G HA,dy X G HB,dy X G amS,OC,OD,OG,O',Pa,Pb,Pg,Ph,Pj,Pk,⟨_,dy X G amT,agr amU⟩,j' X G wM,j' X G CZ,j' X G C0,j' X G Hr,j' X G kX,j' X G g4,j' X G hI,j' X G t7,j' X G t8,j' X G nR,j' X G rP,j' X G OH⟩
 have amX:∀(s:Shared) (v:Value),BindsTo s YM ⟨[v],[]⟩ [("_law_script",v)]:=λs v=>(FunD.bindsA (ps:=["_law_script"]) Pl λ_ _ _ _ _ _ us hl=>match us,hl with|[_],_=>rfl) s [v] rfl;refine⟨YM,amX,λbase _ _=>?_⟩
 .have Hu:=ala (l:=eF) (w:=w) (base:=base) X G Hz C4 oX C5 rR rS rT
  have gO:=alr (l:=eF) (w:=w) (base:=base) X G HA oX C_ C' rR rS rT;have OQ:=alI (l:=eF) (w:=w) (base:=base) X G HB oX Dc Dd rR rS rT;have j6:=akr (P:=eF.prog) (w:=w) (base:=base) T Yf;have OY:=aks (P:=eF.prog) (w:=w) (base:=base) T Yg;have nS:=akt (P:=eF.prog) (w:=w) (base:=base) T Yh;have OZ:=XT (P:=eF.prog) (w:=w) (base:=base) T Yi nS 9;have iY:=aku (P:=eF.prog) (w:=w) (base:=base) T Yj;have mC:=akv T Yk iY;have O0:=akw T Yl mC iY;have OI:=akx (P:=eF.prog) (w:=w) (base:=base) T Ym;have OJ:=aky T Yn OI;have Hs:=akz T Yo OJ mC iY;have O1:=XU (P:=eF.prog) (w:=w) (base:=base) T Yp mC iY Hs 9;have OL:=akA (P:=eF.prog) (w:=w) (base:=base) T Yq;have Ht:=akB (P:=eF.prog) (w:=w) (base:=base) T Yr;have amY:=akC (P:=eF.prog) (w:=w) (base:=base) T Ys OL Ht Hu;have y2:=akD Ys amY;have Hv:=akE T Yt y2;have Hx:=XW (P:=eF.prog) (w:=w) (base:=base) T Yu nS Hv 9;have Hw:=akF (P:=eF.prog) (w:=w) (base:=base) T Yv;have O2:=XY (P:=eF.prog) (w:=w) (base:=base) T Yw Hw nS 9;have Hy:=XZ (P:=eF.prog) (w:=w) (base:=base) T Yx  12;have OM:=akG (P:=eF.prog) (w:=w) (base:=base) T Yy;have OO:=akH T Yz OM;have t9:=akI (P:=eF.prog) (w:=w) (base:=base) T YB;have oW:=akJ T YC j6 OO t9 OQ;have O3:=akL (P:=eF.prog) (w:=w) (base:=base) T YD j6 oW t9;have wN:=akM (P:=eF.prog) (w:=w) (base:=base) T YF;have OS:=X0 (P:=eF.prog) (w:=w) (base:=base) T YG wN 9;have YN:=akN (P:=eF.prog) (w:=w) (base:=base) T HC oW OS;have C2:=akO HC YN;have O4:=akP HC YN;have OW:=akQ (P:=eF.prog) (w:=w) (base:=base) T amV;have wO:=akR (P:=eF.prog) (w:=w) (base:=base) T YH;have OT:=akS T YJ wO;have t_:=akT T amW y2 wN wO OT gO;have jG:=akU (P:=eF.prog) (w:=w) (base:=base) T YK;have rQ:=akX (P:=eF.prog) (w:=w) (base:=base) T YL;have OX:=OV (P:=eF.prog) (w:=w) (base:=base) T HE t_ rQ jG gO HD 9;have asb:=X1 (P:=eF.prog) (w:=w) (base:=base) T HE t_ rQ jG gO HD 8 (OV (P:=eF.prog) (w:=w) (base:=base) T HE t_ rQ jG gO HD 8);have YP:=akZ (P:=eF.prog) (w:=w) (base:=base) T HF OW OX oW gO;have C3:=ak1 HF YP;have O5:=ak2 HF YP;exact aa7 (ak3 (P:=eF.prog) (w:=w) (base:=base) T Pl j6 OY OZ O0 iY O1 Hx O2 Hy C2 C3 O3 O4 O5) alY
abbrev Pm:PySem.W.Hook:=ZK.Ub zI uv kc DF DG
def Pn(s:PySem.W.SharedT):ZK.rg:=ZK.obsZ zI uv kc DF DG (HandSHeadRun.getT s)
theorem amZ(s:PySem.W.SharedT):Pn s=Pm.obs s.abs:=ZK.adU (HandSHeadRun.getT_eq s)
theorem am0(w:World):HandSHeadRun.RunEq uw w4 Pm Pn 40000 DH w:=by
 intro os;have h:=ZK.FA (Y2 w os) (Y3 w os) (Y4 w os);rw[List.take_append_drop]at h;exact h
end K31
section
open PySem PySem.W PySem.Calls PyProof.Rows
open PySem PySem.Spec L2 Z in
set_option maxRecDepth 100000 in
set_option maxHeartbeats 0 in
theorem K31.am1(am2:∀ns:List Int,ns.length<=63->∃S,bN 12 K31.rN [.cy ns] []=.ok (.bl true) S):PySem.Challenge.rw_waysagree_k31_whole_texts_of_plans.Holds:=by
 w_on;o_law
 refine HandSHeadRun.head_any (r:=OpenLaw.row PySem.Challenge.rw_waysagree_k31_whole_texts_of_plans) (q:=K31.w4) (H:=K31.Pm) (ob:=K31.Pn) (M:=40000) (loose:=K31.DH) (d:=HandSHeadRun.topDef (OpenLaw.row PySem.Challenge.rw_waysagree_k31_whole_texts_of_plans).prog 48) (kwd:=[]) K31.amZ (by kernel_rfl) (λs=>by kernel_rfl) K31.am0 (by kernel_rfl) (by kernel_rfl) (by kernel_rfl) (by rfl) (by first|assumption|decide +kernel) (by decide +kernel) ⟨rfl,rfl,rfl,rfl,rfl,by decide +kernel⟩ ?hw ?hc
 case hw=>w_witness2
 case hc =>
  refine LamX.walk_ofTsE (l:=PySem.Challenge.rw_waysagree_k31_whole_texts_of_plans) (n:=63) (k:=27) (x:="_law_script") (CX:=λw=>Z.CX (PySem.Challenge.rw_waysagree_k31_whole_texts_of_plans).prog w) rfl (by decide) (by kernel_rfl) ⟨rfl,by decide,by decide⟩ ?F (λ_ _ _ _ _ z=>Z.aa5 z);intro w mg fa h Y G am3;obtain⟨K,KX,c⟩:=Y;have MR:mg ("law":PySem.Str)=some (.ref fa):=by
   have e:(HandSHeadRun.topDef (OpenLaw.row PySem.Challenge.rw_waysagree_k31_whole_texts_of_plans).prog 48).name=("law":PySem.Str):=by kernel_rfl
   rw[<-e];exact am3
  obtain⟨fd,hb,hF⟩:=K31.end_ am2 KX G MR c;exact⟨K,KX,fd,[],Z.J5 K,by simp,by simp,by simp,hb,λH a ns hl _ _ eI=>⟨a,ns,rfl,eI,hl,λ_=>rfl⟩,λbase h1 h2 _=>hF base h1 h2⟩
end
namespace K31
open PySem PySem.Spec L2 Z ZM
section
variable{S ak:Store}{g:aM}{P:af}{cs:List Int}{i n:Nat}
abbrev De:aD:=vq [("Ratio",["Ratio"],[])]
theorem Pp{b:Rat->Prop}:wo De b aN:=λr S _=>bO (by simp[aN,hC])
theorem am4(off:Nat):Cd off=Nn De off:=rfl
theorem am5:kP=GB De:=rfl
theorem am6:kQ=GD De:=rfl
abbrev PA(P:af):Prop:=WM De (ZJ.jh 6 24) aN P
theorem am7(h:P.ok (ZJ.jh 6 24))(hs:P.size<=40)(hd:P.dep<=8):PA P:=⟨p5,Pp,h,hs,hd⟩
theorem YQ(h:Cl S)(bT:Drawn n cs S ak):Cl ak:=by
 obtain⟨_,a,g,s,rfl⟩:=bT;intro m hm k;rcases List.mem_or_eq_of_mem_set hm with hm|rfl
 .exact h m hm k
 .exact EV _ _ _ _ _
theorem Pq{r:Rat}(hr:ZJ.jh 6 24 r):r.num.natAbs<=24/\r.den<=6:=by
 obtain⟨h1,h2⟩:=ZJ.jh.size hr (by decide);exact⟨h1,h2⟩
theorem qc:N_ (ZJ.jh 6 24) 60 20 where
 yS r hr:=by
  obtain⟨h1,h2⟩:=Pq hr;exact pV.of (mF h1 (by decide)) (mF h2 (by decide))
 eK:=by decide
 len r hr:=by
  obtain⟨h1,h2⟩:=Pq hr;have:=(pV.of (n:=6) (r:=r) (mF h1 (by decide)) (mF h2 (by decide)))
  have a:=yd this.up;have b:=yd this.dn;unfold c5;split
  .omega
  .simp only[List.length_append,List.length_cons]
   omega
 cZ:=by decide
 rd r hr:=by
  obtain⟨h1,h2⟩:=Pq hr;have asd:(24:Nat)<10 ^ 30:=by decide
  refine TR.aii (n:=60) (pV.of (n:=60) (r:=r) (mF h1 (by decide)) (mF h2 (by decide))) (by omega) ?_;rw[ui];omega
structure jo(P:af):Prop where
 ok:P.ok (ZJ.jh 6 24)
 sz:P.size<=25
 dp:P.dep<=8
theorem jo.z6(h:jo P):PA P:=am7 h.ok (by have:=h.sz;omega) h.dp
theorem jo.len(h:jo P):P.txt.length<=500:=by
 have:=af.NV qc.len (by decide) P h.ok;have:=h.sz;omega
theorem jo.Pr(h:jo P):jU P.txt:=BZ (af.NW P h.ok)
theorem YR(h:jo P):bN 1 kP [P.dat aN] S=.ok (.str (ao P.txt)) S:=by
 rw[am5];exact ajG qc Pp h.ok (by have:=h.sz;omega) h.dp (by have:=h.sz;omega)
theorem Pt(h:jo P):wD [P.dat aN] S=.ok (.str (ao P.txt)) S:=(EB (n:=1) (g:=bN 1 kP) (ds:=[P.dat aN]) rfl).trans (YR h)
theorem am8(h:jo P):Cv [P.dat aN] S=.ok (.str (ao P.txt)) S:=by
 unfold Cv;rw[TF (n:=0) (m:=1) (N:=1) (ds:=[P.dat aN]) ⟨rfl,rfl⟩];exact YR h
theorem YS(h:jo P):bN 3 kQ [.str (ao P.txt)] S=.ok (P.dat aN) S:=by
 rw[am6];exact ajJ qc Pp h.ok (by have:=h.sz;omega) h.dp (by have:=h.len;omega)
theorem Pu(h:jo P):yW [.str (ao P.txt)] S=.ok (P.dat aN) S:=(EB (n:=1) (g:=bN 3 kQ) (ds:=[.str (ao P.txt)]) rfl).trans (YS h)
theorem am9(h:jo P):Cw [.str (ao P.txt)] S=.ok (P.dat aN) S:=by
 unfold Cw;rw[TF (n:=0) (m:=1) (N:=1) (ds:=[.str (ao P.txt)]) ⟨rfl,rfl⟩];exact YS h
theorem ana(h:jo P):Np [P.dat cg] S=.ok (.str (ao P.txt)) S:=ajd qc.yS qc.eK qc.len qc.cZ P 9 h.ok (by have:=h.dp;omega) (by have:=h.sz;omega) S
theorem YT(h:jo P):Gv [P.dat cg] S=.ok (P.dat aN) S:=aiU qc.yS qc.eK P 9 h.ok (by have:=h.dp;omega) S
theorem anb{n:Nat}:∀(P:af) (n:Nat),P.dep+1<=n->lr ["Ratio"] [("Ratio",eL)] S n (P.dat aN) (P.dat aN):=by
 refine af.ind λk cs ih n hn=>?_;have hp:=(af.nd k cs).rD;obtain⟨m,rfl⟩:∃m,n=m+2:=⟨n - 2,by omega⟩
 rw[af.ep];unfold lr;refine⟨rfl,λi x y hx a6=>?_⟩;rw[hx]at a6;cases a6;rcases g6.mp (nT hx)with rfl|h
 .unfold lr;rfl
 rcases mD.mp h with h|h
 .cases k with
  |go y=>rw[rV.mp h];unfold lr;rfl
  |scale r=>rw[rV.mp h];exact ahV
  |_=>cases h
 .obtain⟨c,hc,rfl⟩:=hL.mp h
  have:=af.tK (k:=k) hc;exact ih c hc (m+1) (by omega)
theorem Pw(h:jo P):cX (aU true) (eqT true ["Ratio"] [("Ratio",eL)] 12) (P.dat aN) (P.dat aN) S=.ok (.bl false) S:=by
 have hs:=anb (S:=S) (n:=0) P 13 (by have:=h.dp;omega);rcases ahW (S:=S) (neg:=true) (d:=P.dat aN)with e|e
 .rw[gV e]
  obtain⟨k,cs⟩:=P;rw[af.ep]at hs ⊢;unfold lr at hs;unfold eqT;dsimp only;rw[if_pos hs];rfl
 .exact oy e
end
section
variable{S ak:Store}{f g fe:aM}{sl:aL}{P Q:af}{i j:Nat}
abbrev lG(z0 hj ej AA anc ane anf ang anh ani anj ank:Option D):aL:=[z0,hj,ej,AA,anc,ane,anf,ang,anh,ani,anj,ank]
theorem Fn{xs:List D}{k:Nat}(h:∀x∈xs,plain k x)(hk:k<=10)(hl:xs.length<=1000)(h1:f sl S=.ok (.lst xs) S)(h2:g sl S=.ok (.lst xs) S):dO (aK (aw xQ (ag f (ag g ai)))) sl S=.ok false S :=
 VS (b:=true) (yH (d5 (bJ h1 (bJ h2 b0)) (afg h hk hl)))
theorem YV{fk:aD}{d r:D}(h:f sl S=.ok d S)(h2:fk [d] S=.ok r S):xZ 0 1 fk ai (ag f ai) sl S=.ok r S:=by
 refine bO ?_;rw[adf,pz,jc,h,bh,pz];refine⟨⟨rfl,rfl⟩,?_⟩;show We (fk [d] S) _ _;rw[h2,bh];exact⟨rfl,rfl⟩
theorem anl(A:PA P)(g_:Cl S)(bY:List Nat×af->D)(h:sl[i]?=some (some (P.dat aN)))(aT:∀p,bg 0 (bY p)=true)
  (anm:∀p∈af.pre [] P,∀T,fe ((cE sl [j]).set j (some (d8 aN p))) T=.ok (bY p) T):c' (ZG.yB (Cd 1 (ag (ae i) ai)) (aX j) di fe [j]) sl S=.ok (.lst ((af.pre [] P).map bY)) S:=by
 rw[am4];obtain⟨aZ,au,e2⟩:=Z.Cd (S:=S) (S1:=S) (off:=1) (sl:=sl) (fa:=ag (ae i) ai) A (bJ (a0 h) b0);have hlen:=af.wc [] P;have e7:=A.sz;rw[aiQ (λ_=>true) bY au g_.ok (λk hk=>by rw[e2 k hk];exact aiR p5) (by omega) (λa _=>aT a) (λa ha T=>⟨_,rfl,rfl,λ_=>anm a ha T⟩),HM.mpr λa _=>rfl]
theorem ano:tJ [97]:=⟨by decide,by decide,by decide,by decide,by decide⟩
theorem anp:tJ [115,116,97,121,115]:=⟨by decide,by decide,by decide,by decide,by decide⟩
theorem anq(ns:List Int):We (bN 12 rN [.cy ns] []) (λd S=>d=.bl true) (λ_ _=>False):=by
 rw[Av];unfold rN;refine jar (λsl S1=>S1=[gJ (ns.take 63) 0 0 5625]/\∃x2 dc dP fN dw gi kK lA kY j7,sl=lG (some (.cy ns)) (some (.ptr 0)) x2 dc dP fN dw gi kK lA kY j7) ?_ ?_
 .rw[jR,lg,jc,abj]
  refine⟨_,rfl,?_⟩;rw[pz];refine ab5 ns ?_;rw[ie];exact⟨rfl,_,_,_,_,_,_,_,_,_,_,rfl⟩
 rintro sl S1 ⟨rfl,JU,anr,ant,uK,anu,anv,anw,pX,anx,anz,rfl⟩;have Ks:=ab6 ns;have YW:Cl [gJ (ns.take 63) 0 0 5625]:=λm hm k=>by
  rw[List.mem_singleton]at hm;subst hm;exact EV _ _ _ _ _
 generalize [gJ (ns.take 63) 0 0 5625]=S0 at Ks YW;refine jar (λsl S1=>(ik S1 0 (ns.take 63)/\Cl S1)/\∃l:List (List Nat),l.length=7/\(∀x∈l,tJ x)/\∃dc dP fN dw gi kK lA kY j7,sl=lG (some (.cy ns)) (some (.ptr 0)) (some (.lst (l.map cU))) dc dP fN dw gi kK lA kY j7) ?_ ?_
 .rw[jR,Ke,lg,bJ (a0 (i:=1) rfl) (bJ rfl b0),bh]
  refine(ai3 (many:=5) (by decide)).jd Ks λd S1 ⟨l,e,h1,h2⟩ bT=>?_;subst e;have e2:aw fL (ag (ah (.str "a")) (ag (ah (.str "stays")) ai)) (lG (some (.cy ns)) (some (.ptr 0)) JU anr ant uK anu anv anw pX anx anz) S1=.ok (.lst [cU [97],cU [115,116,97,121,115]]) S1:=Fy (bJ rfl (bJ rfl b0)) (by simp);rw[e2,bh,abB];refine⟨by simp;omega,?_⟩;rw[ie];refine⟨⟨bT.1,YQ YW bT⟩,l++[[97],[115,116,97,121,115]],by simp;omega,λx hx=>?_,_,_,_,_,_,_,_,_,_,by rw[List.map_append];rfl⟩;rcases mD.mp hx with hx|hx
  .exact h2 x hx
  .simp only[List.mem_cons,j9,or_false]at hx
   rcases hx with rfl|rfl
   .exact ano
   .exact anp
 rintro sl S1 ⟨anA,l,YX,anB,ase,asf,ash,asi,asj,asl,asm,asn,aso,rfl⟩;refine jar (λsl S2=>True) ?_ ?_
 .refine VD (l:=List.range 8) (row:=fun(j:Nat)=>.int ((0:Int)+(j:Int))) (Fw (k:=8) rfl (by decide)) (λpre sl S2=>(ik S2 0 (ns.take 63)/\Cl S2)/\∃dc dP fN dw gi kK lA kY j7,sl=lG (some (.cy ns)) (some (.ptr 0)) (some (.lst (l.map cU))) dc dP fN dw gi kK lA kY j7) ⟨anA,_,_,_,_,_,_,_,_,_,rfl⟩ ?_ ?_
  .rintro pre i post sl S2 asp ⟨⟨xt,YZ⟩,dc,dP,fN,dw,gi,kK,lA,kY,j7,rfl⟩
   refine⟨trivial,?_⟩;rw[ie];generalize D.int ((0:Int)+(i:Int))=tt;show aV (aO _ _ (lG (some (.cy ns)) (some (.ptr 0)) (some (.lst (l.map cU))) (some tt) dP fN dw gi kK lA kY j7) _) _;refine jar (λsl aW=>(ik aW 0 (ns.take 63)/\Cl aW)/\∃P Q:af,jo P/\jo Q/\sl=lG (some (.cy ns)) (some (.ptr 0)) (some (.lst (l.map cU))) (some tt) (some (P.dat cg)) (some (Q.dat cg)) dw gi kK lA kY j7) ?_ ?_
   .rw[jR,xO]
    refine Kt (S:=S2) (S0:=S2) (Drawn.refl xt) (Fw (k:=2) rfl (by omega)) (by simp[jQ]) (λ_ _ _=>trivial) (λ_ d=>∃P:af,d=P.dat cg/\jo P) (λx hx ak acc bT=>?_) (λ_ d ⟨P,e,_⟩=>by rw[e];exact mz tQ P _) λys ak hl a6 bT=>?_
    .rw[ie]
     simp[cE];refine(pC (many:=8) (by decide) (by decide)).app bT.1 λd gE hd tS=>?_;obtain⟨r,hr,rfl⟩:=hd;have bj:b7 (.int 1) (.int (r:Int)) (gE++[dk.lst acc])=.ok (.int ((1+r:Nat):Int)) (gE++[dk.lst acc]):=bO (by simp);rw[bj,bh];refine(WV (names:=l) (by intro h;rw[h]at YX;cases YX) anB (by omega) 9 (1+r) (by omega) (by decide) (by omega)).app tS.1 λd ia ⟨P,e,h1,h2,aI⟩ GV=>?_;exact⟨ia,rfl,tS.trans GV,P,e,h1,by omega,by omega⟩
    .obtain⟨Ps,rfl,bu⟩:=M8 a6 λx y h=>h
     have n_:Ps.length=2:=by simpa[jQ]using hl
     obtain⟨P,Q,rfl⟩:∃P Q,Ps=[P,Q]:=by
      match Ps,n_ with
      |[P,Q],_=>exact⟨P,Q,rfl⟩
     rw[c1,c1,qf];have e:∀sl:aL,vt (cP (aX 4) (cP (aX 5) gA)) (.lst [P.dat cg,Q.dat cg]) sl ak=.nx ((sl.set 4 (some (P.dat cg))).set 5 (some (Q.dat cg))) ak:=λsl=>rfl;rw[e,la];exact⟨⟨bT.1,YQ YZ bT⟩,P,Q,bu P (by simp),bu Q (by simp),rfl⟩
   clear xt YZ;rintro sl aW ⟨⟨anC,Y0⟩,P,Q,bu,eC,rfl⟩;refine jar (λsl b5=>b5=aW/\sl=lG (some (.cy ns)) (some (.ptr 0)) (some (.lst (l.map cU))) (some tt) (some (P.dat cg)) (some (Q.dat cg)) dw (some (P.dat aN)) (some (Q.dat aN)) lA kY j7) ?_ ?_
   .rw[R4,bJ (d5 (bJ (a0 (i:=4) rfl) b0) (YT bu)) (bJ (d5 (bJ (a0 (i:=5) rfl) b0) (YT eC)) b0),bh]
    show aV (SO.nx _ _) _;rw[la];exact⟨rfl,rfl⟩
   rintro sl b5 ⟨rfl,rfl⟩;refine jar (λsl eg=>eg=b5/\sl=lG (some (.cy ns)) (some (.ptr 0)) (some (.lst (l.map cU))) (some tt) (some (P.dat cg)) (some (Q.dat cg)) dw (some (P.dat aN)) (some (Q.dat aN)) (some (.str (ao P.txt))) kY j7) (pN (d5 (bJ (a0 (i:=4) rfl) b0) (ana bu)) ⟨rfl,rfl⟩) ?_;rintro sl eg ⟨rfl,rfl⟩;have anD:∀x∈[D.str (ao P.txt),D.str (ao P.txt)],plain 0 x:=λx hx=>by
    simp only[List.mem_cons,j9,or_false]at hx;rcases hx with rfl|rfl<;>exact bu.Pr
   refine jar (λsl gE=>gE=eg/\sl=lG (some (.cy ns)) (some (.ptr 0)) (some (.lst (l.map cU))) (some tt) (some (P.dat cg)) (some (Q.dat cg)) dw (some (P.dat aN)) (some (Q.dat aN)) (some (.str (ao P.txt))) kY j7) (v9 (Fn anD (by decide) (by simp) (Fy (bJ (d5 (bJ (a0 (i:=7) rfl) b0) (Pt bu)) (bJ (YV (a0 (i:=7) rfl) (am8 bu)) b0)) (by simp)) (Fy (bJ (a0 (i:=9) rfl) (bJ (a0 (i:=9) rfl) b0)) (by simp))) (v' ⟨rfl,rfl⟩)) ?_;rintro sl gE ⟨rfl,rfl⟩;refine jar (λsl ia=>ia=gE/\sl=lG (some (.cy ns)) (some (.ptr 0)) (some (.lst (l.map cU))) (some tt) (some (P.dat cg)) (some (Q.dat cg)) dw (some (P.dat aN)) (some (Q.dat aN)) (some (.str (ao P.txt))) kY j7) (v9 (M5 (yH (d6 (d5 (bJ (a0 (i:=9) rfl) b0) (Pu bu)) (a0 (i:=7) rfl) (Pw bu))) (M5 (yH (d6 (YV (a0 (i:=9) rfl) (am9 bu)) (a0 (i:=7) rfl) (Pw bu))) (yH (d6 (d5 (bJ (d5 (bJ (a0 (i:=8) rfl) b0) (Pt eC)) b0) (Pu eC)) (a0 (i:=8) rfl) (Pw eC))))) (v' ⟨rfl,rfl⟩)) ?_;rintro sl ia ⟨rfl,rfl⟩;refine jar (λsl rB=>rB=ia/\sl=lG (some (.cy ns)) (some (.ptr 0)) (some (.lst (l.map cU))) (some tt) (some (P.dat cg)) (some (Q.dat cg)) dw (some (P.dat aN)) (some (Q.dat aN)) (some (.str (ao P.txt))) kY j7) ?_ ?_
   .have au:az (cX (aU false) (rK false ["Ratio"] [("Ratio",eL)] 12)) (aw wD (ag (ae 8) ai)) (ae 9) (lG (some (.cy ns)) (some (.ptr 0)) (some (.lst (l.map cU))) (some tt) (some (P.dat cg)) (some (Q.dat cg)) dw (some (P.dat aN)) (some (Q.dat aN)) (some (.str (ao P.txt))) kY j7) ia=.ok (.bl (decide (Q.txt=P.txt))) ia:=d6 (d5 (bJ (a0 (i:=8) rfl) b0) (Pt eC)) (a0 (i:=9) rfl) (oy (vg eC.Pr bu.Pr))
    have e2:az (cX (aU false) (rK false ["Ratio"] [("Ratio",eL)] 12)) (ae 8) (ae 7) (lG (some (.cy ns)) (some (.ptr 0)) (some (.lst (l.map cU))) (some tt) (some (P.dat cg)) (some (Q.dat cg)) dw (some (P.dat aN)) (some (Q.dat aN)) (some (.str (ao P.txt))) kY j7) ia=.ok (.bl (decide (Q.txt=P.txt))) ia:=by
     refine d6 (a0 (i:=8) rfl) (a0 (i:=7) rfl) ?_;rw[ajO eC.ok bu.ok (by have:=eC.dp;omega)];congr 2;exact decide_eq_decide.mpr (ajP qc.rd eC.ok bu.ok eC.dp bu.dp).symm
    exact v9 (yH (d6 au e2 (oy (by cases decide (Q.txt=P.txt)<;>rfl)))) (v' ⟨rfl,rfl⟩)
   rintro sl rB ⟨rfl,rfl⟩;refine jar (λsl v8=>v8=rB/\sl=lG (some (.cy ns)) (some (.ptr 0)) (some (.lst (l.map cU))) (some tt) (some (P.dat cg)) (some (Q.dat cg)) dw (some (P.dat aN)) (some (Q.dat aN)) (some (.str (ao P.txt))) (some (P.dat aN)) j7) (pN (d5 (bJ (a0 (i:=9) rfl) b0) (Pu bu)) ⟨rfl,rfl⟩) ?_;rintro sl v8 ⟨rfl,rfl⟩;have A:=bu.z6;have hlen:=af.wc [] P;have e7:=bu.sz;have Bo:=af.Nf P [] bu.ok;have eQ:∀p∈af.pre [] P,p.1.length<=8:=λp hp=>by
    have:=(Bo p hp).2;have:=bu.dp;simp at *;omega
   have JD:∀x∈(af.pre [] P).map (λp=>eD p.1),plain 1 x:=λx hx=>by
    obtain⟨p,hp,rfl⟩:=hL.mp hx;have:=eQ p hp;refine⟨vi.mpr λy a6=>?_,by simp;omega⟩;obtain⟨a,_,rfl⟩:=hL.mp a6;exact SH
   refine v9 (M5 (VS (b:=true) (yH (d5 (bJ (a0 (i:=10) rfl) (bJ rfl b0)) ?_))) (Fn JD (by decide) (by simp;omega) ?_ ?_)) (v' ?_)
   .cases P
    rw[af.ep];exact bO (by simp)
   .exact anl (i:=10) (j:=11) A Y0 (λp=>eD p.1) rfl (λp=>Ng _) (λp hp T=>d6 (a0 (i:=11) rfl) rfl (bO (by simp[d8])))
   .refine rA (l:=af.pre [] P) (row:=d8 aN) (λp=>eD p.1) (sI (d5 (bJ (a0 (i:=7) rfl) (bJ (ri b0 (by simp)) b0)) (aiZ p5 P 9 [] bu.ok (by have:=bu.dp;omega) (by omega) (by have:=bu.dp;simp;omega) v8)) (qU _)) (by omega) (λacc=>qU _) (λp hp acc=>⟨_,rfl,d6 (a0 (i:=11) rfl) rfl (bO (by simp[d8]))⟩) (λp hp=>Ng _)
   .exact⟨⟨anC,Y0⟩,_,_,_,_,_,_,_,_,_,rfl⟩
  .rintro sl S2 _
   exact⟨trivial,trivial⟩
 rintro sl S2 _;rw[sF,show ∀sl S,ah (.bl true) sl S=.ok (.bl true) S from λ_ _=>rfl,bh,jS];exact Ax (S1:=[]) (T:=S2) (fG.refl _) rfl rfl
theorem anE:∀ns:List Int,ns.length<=63->∃S,bN 12 rN [.cy ns] []=.ok (.bl true) S:=λns _=>by
 obtain⟨a,ak,e,rfl⟩:=(anq ns).get;exact⟨ak,e⟩
end
end K31
open PySem PySem.W PySem.Calls PyProof.Rows
theorem PySem.Challenge.cw_waysagree_k31_whole_texts_of_plans_holds : PySem.Challenge.rw_waysagree_k31_whole_texts_of_plans.Holds :=
 K31.am1 K31.anE
end
