import PyProof.Rows.All
import Wide.All
import OpenK.AllK
import Wide.FinOn
import HandS.ForMost
import HandS.Exc
import HandS.IsInst
import HandS.Walk
import HandS.Star
import HandS.CallSlots
import HandS.Lambda
import KE.KDflt
import KE.KDictKeyed
import HandS.ExcOwn
import HandS.ExcCtx
import HandS.HotCalls
import HandS.RaiseFrom
import HandS.SuiteRaise
import HandS.WordsExc
import HandS.Property
import HandS.Wide
import HandS.TupAny
import HandS.TupMul
import HandS.WordsDict
import HandS.Zip
import HandS.Rev
import KE.GoesMore
import KE.GoesZip
import KE.GoesEnum
import HandS.Small
import HandS.StrMore
import HandS.Comp
import HandS.Iter
import KE.SortData
import KE.KDictSum
import PyProof.CollectStr
import HandS.More
import KE.KExcSuper
import HandS.ExcInit
import HandS.ExcIs
import HandS.TryMany
import KE.KTryMore
import HandS.ExcField
import HandS.Style
import HandS.SetKeys
import HandS.TupSets
import KE.KOpsOwn
import HandS.FStr
import HandS.Defaults
import HandS.MakeKw
import HandS.NoneIn
import HandS.EndTab
import KE.KNestM
import HandS.SetFor
import HandS.SetTxt0
import HandS.Strs
import KE.DataMinMax
import PyProof.ListStr
import HandS.Codes
import HandS.HeadNt
import HandS.HeadHook4
import HandS.HeadWalk
import HandS.HeadEnd
import HandS.Head2
import HandS.MethStar
import PyProof.SliceStr2
import HandS.New0
import PyProof.Rows.SetFrom
import HandS.Deep
import KE.KDictPairs
import PyProof.StrBlock2
import HandS.ExcInitHot
import HandS.Text
import HandS.ClsMeth
import HandS.Conv
import HandS.DictComp
import HandS.MakeKwOnly
import HandS.OwnEq
import PyProof.NeKinds
import HandS.GenOver
import HandS.Base
import HandS.GenBody
import PyProof.GenComp
import PyProof.ForAny
import HandS.GenList
import HandS.GenCall
import HandS.SortKw
import PyProof.WalkInts
import KE.GoesComp
import PyProof.ListNew
import PyProof.StrWalks
import PySem.Challenge.RW_waysagree_k32_texts_that_are_no_plans
abbrev cF:=@List.map_cons
abbrev dC:=@PySem.W.mg_of
abbrev eO:=@List.length_eq_zero_iff
abbrev fx:=@Option.map_eq_some_iff
abbrev fQ:=@List.mem_cons
abbrev gM:=@List.not_mem_nil
abbrev g8:=@Ne.symm
abbrev hR:=@List.length_eq_one_iff
abbrev h_:=@Nat.ne_of_lt
abbrev iH:=@List.mem_cons_of_mem
abbrev iI:=@List.mem_map
abbrev iJ:=@PySem.boot_len
abbrev iK:=@PyProof.Rows.boot_isinstance
abbrev ju:=@PySem.mem_of_lookup
abbrev jv:=@Nat.le_of_lt
abbrev jV:=@List.mem_of_getElem?
abbrev jW:=@Nat.zero_le
abbrev kK:=@Bool.false_ne_true
abbrev kL:=@List.drop_suffix
abbrev lx:=@List.getElem?_set_ne
abbrev ly:=@List.size_toArray
abbrev lz:=@PySem.W.mg_none_of
abbrev mz:=@List.getElem?_set_self
abbrev mA:=@Nat.lt_of_lt_of_le
abbrev mB:=@List.length_nil
abbrev mC:=@List.append_assoc
abbrev mD:=@PyProof.Rows.boot_int
abbrev nh:=@List.mem_append
abbrev ni:=@Nat.lt_irrefl
abbrev nj:=@List.mem_append_left
abbrev ou:=@Nat.lt_of_le_of_lt
abbrev ov:=@List.map_map
abbrev ow:=@List.mem_cons_self
abbrev pE:=@List.getElem?_eq_getElem
abbrev qA:=@List.mem_singleton
abbrev qB:=@List.map_nil
abbrev qC:=@List.nodup_cons
abbrev qD:=@PySem.W.callWith_K
abbrev qE:=@Nat.lt_trans
abbrev qF:=@Bool.not_false
abbrev qG:=@PyProof.Rows.boot_str
abbrev rY:=@List.append_nil
abbrev rZ:=@Bool.not_true
abbrev r3:=@List.sum_cons
abbrev uk:=@Nat.lt_succ_self
abbrev um:=@Nat.ne_of_gt
abbrev uo:=@List.of_mem_zip
abbrev uq:=@Bool.false_eq_true
abbrev ur:=@Int.natAbs_natCast
abbrev uv:=@List.set_set
abbrev v7:=@List.getElem_mem
abbrev v8:=@Nat.mul_le_mul
abbrev yu:=@List.zip_cons_cons
abbrev yv:=@Option.map_some
abbrev yw:=@Nat.mul_le_mul_left
abbrev yx:=@List.nil_append
abbrev yz:=@PyProof.Rows.boot_list
abbrev yA:=@PyProof.Rows.boot_tuple
abbrev yB:=@PySem.F.excBase_ValueError
abbrev yC:=@PySem.F.store_ValueError
abbrev A7:=@List.replicate_succ
abbrev A8:=@List.set_getElem_self
abbrev A9:=@List.mem_filterMap
abbrev A_:=@PyProof.Rows.boot_abs
abbrev FU:=@Int.neg_ediv_of_dvd
abbrev FV:=@List.filterMap_cons
abbrev FW:=@List.foldl_cons
abbrev FX:=@List.mem_of_mem_take
abbrev FY:=@List.headD_cons
abbrev FZ:=@PySem.F.plainAttrs_str
abbrev Kz:=@List.getElem_cons_drop
abbrev KA:=@List.flatten_cons
abbrev KC:=@List.getElem?_cons_succ
abbrev KD:=@PySem.W.methodCall_KW
abbrev KG:=@Nat.add_le_add_left
abbrev KH:=@List.getElem?_cons_zero
abbrev KI:=@List.filter_eq_self
abbrev KJ:=@Int.emod_lt_of_pos
abbrev KL:=@List.set_append_left
abbrev KN:=@List.reverse_cons
abbrev KO:=@PySem.W.cellsFrom_some
abbrev KP:=@PySem.W.codeRec_of
abbrev KQ:=@List.filterMap_nil
abbrev KR:=@Nat.mul_le_mul_right
abbrev KS:=@List.mem_append_right
abbrev KU:=@Rat.num_divInt_den
abbrev KW:=@Rat.divInt_eq_divInt_iff
abbrev KY:=@List.mem_of_mem_drop
abbrev KZ:=@PySem.F.slot_str_join
abbrev K0:=@PySem.F.type_str_join
abbrev K1:=@PyProof.Rows.boot_all
abbrev K2:=@PyProof.Rows.boot_bool
abbrev K3:=@PySem.W.kxs_ValueError
abbrev K4:=@PySem.W.codeHd_of_K
noncomputable section
set_option Elab.async false
set_option linter.all false
set_option maxRecDepth 100000
set_option maxHeartbeats 4000000
namespace Z
open PySem PySem.Spec L2
def F0(K:PySem.W.Frag)(D:Addr):Bool :=
 decide (PySem.W.findIn K (.ref D) "__getattribute__"=some (some (.builtin "BaseException.__getattribute__")))&&(decide (PySem.W.findIn K (.ref D) "__getattr__"=some none)&&(decide (PySem.W.subIn K (.ref D) (.type "BaseException")=some true)&&(PySem.W.hasDictIn K D &&
 (decide (PySem.W.findIn K (.ref D) "__class__"=some (some (.builtin "object.__class__")))&&decide (PySem.W.mroIn K D (.type "object")=some true)))))
def uw(K:PySem.W.Frag)(C Cb ox ab:Addr)(bm:List Value)(R nw it:String)(nx:Value)(fs:List Str):Bool :=
 PySem.W.keepIn K (.ref C)&&(PySem.W.excInitIn K C bm nw&&(PySem.W.excOver K C bm&&((PySem.W.clsIn K C).isSome&&(decide (PySem.W.findIn K (.ref C) "__setattr__"=some (some (.builtin "object.__setattr__")))&&(PySem.W.hasDictIn K C &&
 (decide (PySem.W.findIn K (.ref C) "__init__"=some (some (.ref ox)))&&(decide (PySem.W.typeIn K (.ref ox)=some (.type "function"))&&(decide (PySem.W.subIn K (.ref C) (.type "BaseException")=some true)&&(decide (PySem.W.subIn K (.ref C) (.type R)=some true) &&
 (decide (PySem.W.typeIn K (.ref C)=some (.type "type"))&&(decide (PySem.W.mroIn K C (.ref C)=some true)&&(decide (PySem.W.ks_superIn K C C "__init__"=some (some nx))&&(decide (PySem.W.mroIn K C (.ref Cb)=some true) &&
 (decide (PySem.W.ks_superIn K C Cb "__init__"=some (some (.builtin it)))&&(decide ((K.lookup ab).map (·.cls)=some (.type "function"))&&(PySem.W.fnIn K ab&&(F0 K C&&fs.all λf=>decide (PySem.W.findIn K (.ref C) f=some none))))))))))))))))))
end Z
namespace ZK
open PySem PySem.W PySem.Calls PyProof.Rows He He5
abbrev F1:Type:=Option (Str×Str×Arguments×FuncBody×Scope×Addr×Addr×Value)
structure eC where
 at_:Frag->Addr
 cls:Frag->Addr
 name:PySem.Str
 qual:PySem.Str
 params:Arguments
 body:List Stmt
 scope:Scope
def v9(K:Frag)(a:Addr):F1:=match K.lookup a with
 |some ⟨_,_,.func fd,_⟩=>some (fd.name,fd.qualname,fd.params,fd.body,fd.scope,fd.globals,fd.builtins,fd.defaults)
 |_=>none
def eC.val(d:eC):F1:=some (d.name,d.qual,d.params,.stmts d.body,d.scope,mainGlobals,builtinsNs,.none)
def TQ(K:Frag)(cc D:Addr):Bool:=match K.lookup cc with
 |some ⟨_,_,.cell (some (.ref E)),_⟩=>decide (E=D)
 |_=>false
def TU(K:Frag)(cy:Addr)(file:Str):Bool:=match K.lookup cy with
 |some ⟨_,_,.fields vs,_⟩=>(match(vs[2]?:Option Value)with
  |some (Value.str f _)=>(file==f)
  |_=>false)
 |_=>false
def K5(K:Frag)(D:Addr)(l:List (Str×Addr)):Bool:=match l with
 |[(x,cc)]=>decide (x=("__class__":Str))&&TQ K cc D
 |_=>false
def K6(K:Frag)(qual file:Str)(v:Value):Bool:=match v with
 | .ref cy=>codeIn K (.ref cy) qual&&TU K cy file
 |_=>false
def eC.ok(K:Frag)(file:Str)(d:eC):Bool:=(match K.lookup (d.at_ K)with
 |some ⟨_,_,.func fd,_⟩=>K5 K (d.cls K) fd.closure&&K6 K d.qual file fd.code
 |_=>false)&&((clsIn K (d.cls K)).isSome&&decide ((K.lookup (d.at_ K)).map (·.cls)=some (.type "function")))
def F2(K:Frag)(p:Addr):Addr:=match recIn K p "property" with
 |some (.ref a::_)=>a
 |_=>0
def F3(K:Frag)(p:Addr):Bool:=match recIn K p "property" with
 |some (.ref _::_)=>true
 |_=>false
def F4(g:Addr->Option Obj)(a:Addr):List Addr:=match g a with
 |some o=>refsD o
 |none=>[]
def TV(names:List Str)(ms ps:List (Str×Str))(g:Addr->Option Obj):List Addr :=
 let yD:=frG g [mainGlobals];let v:=names.map (ga yD);let l2:=mainGlobals::cStatics::(v++v.flatMap (F4 g))
 let TX:=frG g l2;let m:=ms.map λp=>ma TX (ga yD p.1) p.2;let r:=m.flatMap (F4 g);let q:=ps.flatMap λp=>(F4 g (ma TX (ga yD p.1) p.2)).flatMap (F4 g)
 l2++(m++(r++q))
abbrev v':Type:=(Addr->Option Obj)->List Addr
def jw(n:v')(g:Addr->Option Obj):Frag:=frT g (n g)
end ZK
namespace Z
open PySem PySem.Spec L2 PyProof.Rows
def acS(K:PySem.W.Frag)(p:Addr):Addr:=match PySem.W.recIn K p "staticmethod" with
 |some (.ref f::_)=>f
 |_=>0
def K7(K:PySem.W.Frag)(C p g:Addr)(m:Str):Bool:=(match PySem.W.findCls K (.ref C) (.type "type") m with
  |some (.get (.builtin b) (.ref dX) .none (.ref D))=>decide (b="staticmethod.__get__")&&(decide (dX=p)&&decide (D=C))
  |_=>false)&&((match PySem.W.recIn K p "staticmethod" with
  |some (.ref f::_)=>decide (f=g)
  |_=>false)&&(PySem.W.readsIn K C (.type "type")&&(decide (PySem.W.specialIn K (.ref C) "__getattribute__"=some (some (.builtin "type.__getattribute__")))&&PySem.W.keepIn K (.ref g))))
end Z
noncomputable section
namespace ZK
open PySem PySem.Spec PySem.W PySem.Calls PyProof.Rows L2 He He5
def F5(fn:List DefA)(K:Frag):=(fn.all λd=>d.ok K,fn.map λd=>fnA K (d.at_ K))
def K8(fn:List DefA)(fs:List eC)(K:Frag):=(F5 fn K,fs.map λd=>v9 K (d.at_ K))
def K9(ei:List Defn)(ex:Frag->Bool)(g:Addr->Option Obj)(K:Frag):Bool:=ex K&&tabsB g ei K
end ZK
end
namespace ZK
structure mE where
 p:Prop
 d:Decidable p
def A':List mE->Bool
 |[]=>true
 |x::l=>@decide x.p x.d&&A' l
def F6:List (List mE)->Bool
 |[]=>true
 |x::l=>A' x&&F6 l
end ZK
namespace Z
@[reducible] def a5(p:Prop)[d:Decidable p]:ZK.mE:=⟨p,d⟩
open PySem PySem.Spec L2 PyProof.Rows
def TY:Value->Option Str
 | .str x _=>some x
 |_=>none
def K_(K:PySem.W.Frag)(a:Addr)(ss:List Str):Bool:=match K.lookup a with
 |some ⟨c,_,.seq its _,_⟩=>decide (c=.type "tuple")&&(decide (its.size<=sizeLine)&&decide (its.toList.map TY=ss.map some))
 |_=>false
end Z
set_option exponentiation.threshold 2000
namespace K32
open PySem PySem.Spec L2 Z PyProof.Rows
def top(i:Nat):Stmt:=PySem.Challenge.pw_waysagree_k32_texts_that_are_no_plans.main.body.getD i (.Pass ⟨0,0,0,0⟩)
abbrev s_0:Stmt:=top 51
abbrev s_1:Stmt:=top 35
abbrev Ba:Stmt:=top 44
abbrev Bb:Stmt:=top 49
abbrev Bc:Stmt:=top 50
abbrev Be:Stmt:=top 38
abbrev ux:Stmt:=top 39
abbrev Bf:Stmt:=inClass (top 17) 11
abbrev Bg:Stmt:=top 25
abbrev Bh:Stmt:=top 27
abbrev Bi:Stmt:=top 26
abbrev Bj:Stmt:=top 28
abbrev Bk:Stmt:=inClass (top 17) 4
abbrev Bl:Stmt:=top 31
abbrev Bm:Stmt:=top 30
abbrev Bn:Stmt:=inClass (top 32) 0
abbrev Bo:Stmt:=top 15
abbrev Bp:Stmt:=top 12
abbrev qH:Stmt:=inClass (top 17) 0
abbrev Bq:Stmt:=top 13
abbrev Br:Stmt:=top 14
abbrev Bs:Stmt:=inClass (top 17) 1
abbrev Bt:Stmt:=inClass (top 32) 1
abbrev oy:Stmt:=inClass (top 32) 4
abbrev Bu:Stmt:=inClass (top 32) 2
abbrev yE:Stmt:=inClass (top 32) 3
abbrev Bv:Stmt:=top 33
abbrev Bw:Stmt:=top 40
abbrev Bx:Stmt:=top 41
abbrev lA:Stmt:=top 29
abbrev fR:Stmt:=top 53
abbrev By:Stmt:=top 36
abbrev Bz:Stmt:=top 37
abbrev BA:Stmt:=top 47
abbrev BD:Stmt:=inClass (top 17) 3
abbrev BE:Stmt:=inClass (top 17) 2
abbrev BF:Stmt:=top 46
abbrev BG:Stmt:=top 52
abbrev BH:Stmt:=top 42
abbrev BI:Stmt:=top 43
abbrev BJ:Stmt:=top 45
abbrev BK:Stmt:=top 48
abbrev pF:Stmt:=top 54
abbrev r4:Stmt:=inClass (top 4) 0
abbrev lB:Stmt:=inClass (top 2) 0
abbrev r5:Stmt:=inClass (top 5) 0
abbrev r6:Stmt:=inClass (top 6) 0
abbrev La(K:PySem.W.Frag):Addr:=He.ga K "_law_asker"
abbrev Lb(K:PySem.W.Frag):Addr:=He.ga K "_law_bag"
abbrev Lc(K:PySem.W.Frag):Addr:=He.ga K "_law_frac_text"
abbrev Ld(K:PySem.W.Frag):Addr:=He.ga K "_law_inner"
abbrev Le(K:PySem.W.Frag):Addr:=He.ga K "_law_plan_text"
abbrev Lf(K:PySem.W.Frag):Addr:=He.ga K "_law_same"
abbrev F7(K:PySem.W.Frag):Addr:=He.ga K "_law_field"
abbrev Lg(K:PySem.W.Frag):Addr:=He.ga K "is_name"
abbrev Lh(K:PySem.W.Frag):Addr:=He.ga K "has_form"
abbrev Li(K:PySem.W.Frag):Addr:=He.ga K "inside"
abbrev Lj(K:PySem.W.Frag):Addr:=He.ga K "check_plan"
abbrev Lk(K:PySem.W.Frag):Addr:=He.ga K "text_from"
abbrev Ln(K:PySem.W.Frag):Addr:=He.ga K "plan_text"
abbrev Lp(K:PySem.W.Frag):Addr:=He.ga K "common_divisor"
abbrev Lq(K:PySem.W.Frag):Addr:=He.ga K "is_whole"
abbrev Lr(K:PySem.W.Frag):Addr:=He.ga K "is_digits"
abbrev Ls(K:PySem.W.Frag):Addr:=He.ga K "is_signed"
abbrev Lv(K:PySem.W.Frag):Addr:=He.ga K "read_plan"
abbrev Lw(K:PySem.W.Frag):Addr:=He.ga K "_law_why"
abbrev Lx(K:PySem.W.Frag):Addr:=He.ga K "_law_whys"
abbrev Ly(K:PySem.W.Frag):Addr:=He.ga K "parts"
abbrev Lz(K:PySem.W.Frag):Addr:=He.ga K "_law_bounds_so"
abbrev LA(K:PySem.W.Frag):Addr:=He.ga K "_law_pick"
abbrev LC(K:PySem.W.Frag):Addr:=He.ga K "_law_of"
abbrev LD(K:PySem.W.Frag):Addr:=He.ga K "_law_name"
abbrev LI(K:PySem.W.Frag):Addr:=He.ga K "_law_pair"
abbrev LJ(K:PySem.W.Frag):Addr:=He.ga K "_law_own"
abbrev LK(K:PySem.W.Frag):Addr:=He.ga K "_law_gcd"
abbrev LL(K:PySem.W.Frag):Addr:=He.ga K "_law_frac"
abbrev LN(K:PySem.W.Frag):Addr:=He.ga K "_law_small_frac"
abbrev LO(K:PySem.W.Frag):Addr:=He.ga K "_law_plan"
abbrev F8(K:PySem.W.Frag):Addr:=He.ga K "law"
abbrev gN(K:PySem.W.Frag):Addr:=He.ga K "Ratio"
abbrev kM(K:PySem.W.Frag):Addr:=He.ga K "TextReader"
abbrev qI(K:PySem.W.Frag):Addr:=He.ga K "WayError"
abbrev BL(K:PySem.W.Frag):Addr:=He.ga K "Missing"
abbrev qJ(K:PySem.W.Frag):Addr:=He.ga K "InvalidRatio"
abbrev qK(K:PySem.W.Frag):Addr:=He.ga K "InvalidText"
abbrev qL(K:PySem.W.Frag):Addr:=He.ga K "InvalidPlan"
abbrev BM(K:PySem.W.Frag):Addr:=He.ga K "NothingLeft"
abbrev F9(K:PySem.W.Frag):Addr:=He.ma K (He.ga K "Ratio") "__eq__"
abbrev F_(K:PySem.W.Frag):Addr:=He.ma K (He.ga K "Ratio") "text"
abbrev F'(K:PySem.W.Frag):Addr:=He.ma K (He.ga K "TextReader") "__init__"
abbrev Ga(K:PySem.W.Frag):Addr:=He.ma K (He.ga K "Ratio") "__init__"
abbrev T2(K:PySem.W.Frag):Addr:=He.ma K (He.ga K "Ratio") "read"
abbrev Gb(K:PySem.W.Frag):Addr:=Z.acS K (He.ma K (He.ga K "Ratio") "read")
abbrev Ge(K:PySem.W.Frag):Addr:=He.ma K (He.ga K "TextReader") "taken"
abbrev Gf(K:PySem.W.Frag):Addr:=He.ma K (He.ga K "TextReader") "row"
abbrev Gg(K:PySem.W.Frag):Addr:=He.ma K (He.ga K "TextReader") "run_of"
abbrev Gh(K:PySem.W.Frag):Addr:=He.ma K (He.ga K "TextReader") "plan"
abbrev BO(K:PySem.W.Frag):Addr:=He.ma K (He.ga K "Ratio") "bottom"
abbrev LQ(K:PySem.W.Frag):Addr:=ZK.F2 K (He.ma K (He.ga K "Ratio") "bottom")
abbrev BP(K:PySem.W.Frag):Addr:=He.ma K (He.ga K "Ratio") "top"
abbrev LR(K:PySem.W.Frag):Addr:=ZK.F2 K (He.ma K (He.ga K "Ratio") "top")
abbrev T3(K:PySem.W.Frag):Addr:=He.ga K "WORDS"
abbrev LU(K:PySem.W.Frag):Addr:=He.ma K (He.ga K "InvalidRatio") "__init__"
abbrev uy(K:PySem.W.Frag):Addr:=He.ma K (He.ga K "WayError") "__init__"
abbrev LV(K:PySem.W.Frag):Addr:=He.ma K (He.ga K "InvalidText") "__init__"
abbrev LW(K:PySem.W.Frag):Addr:=He.ma K (He.ga K "InvalidPlan") "__init__"
abbrev yF(K:PySem.W.Frag):Addr:=(He.cT K ("_law_asker",none)).2
abbrev yG(K:PySem.W.Frag):Addr:=(He.cT K ("_law_bounds_so",none)).2
abbrev yH(K:PySem.W.Frag):Addr:=(He.cT K ("law",none)).2
abbrev T4:He5.DefA:=⟨La,"_law_asker","_law_asker",defArgs s_0,defBody s_0,defScope s_0,[],[]⟩
abbrev T5:He5.DefA:=⟨Lb,"_law_bag","_law_bag",defArgs s_1,defBody s_1,defScope s_1,[],[]⟩
abbrev T6:He5.DefA:=⟨Lc,"_law_frac_text","_law_frac_text",defArgs Ba,defBody Ba,defScope Ba,[],[]⟩
abbrev T7:He5.DefA:=⟨Ld,"_law_inner","_law_inner",defArgs Bb,defBody Bb,defScope Bb,[],[]⟩
abbrev T8:He5.DefA:=⟨Le,"_law_plan_text","_law_plan_text",defArgs Bc,defBody Bc,defScope Bc,[],[]⟩
abbrev T9:He5.DefA:=⟨Lf,"_law_same","_law_same",defArgs Be,defBody Be,defScope Be,[],[]⟩
abbrev T_:He5.DefA:=⟨F7,"_law_field","_law_field",defArgs ux,defBody ux,defScope ux,[],[]⟩
abbrev T':He5.DefA:=⟨F9,"__eq__","Ratio.__eq__",defArgs Bf,defBody Bf,defScope Bf,[],[]⟩
abbrev Ua:He5.DefA:=⟨Lg,"is_name","is_name",defArgs Bg,defBody Bg,defScope Bg,[],[]⟩
abbrev Ub:He5.DefA:=⟨Lh,"has_form","has_form",defArgs Bh,defBody Bh,defScope Bh,[],[]⟩
abbrev Uc:He5.DefA:=⟨Li,"inside","inside",defArgs Bi,defBody Bi,defScope Bi,[],[]⟩
abbrev Ud:He5.DefA:=⟨Lj,"check_plan","check_plan",defArgs Bj,defBody Bj,defScope Bj,[],[]⟩
abbrev Ue:He5.DefA:=⟨F_,"text","Ratio.text",defArgs Bk,defBody Bk,defScope Bk,[],[]⟩
abbrev Ug:He5.DefA:=⟨Lk,"text_from","text_from",defArgs Bl,defBody Bl,defScope Bl,[],[]⟩
abbrev Uh:He5.DefA:=⟨Ln,"plan_text","plan_text",defArgs Bm,defBody Bm,defScope Bm,[],[]⟩
abbrev Ui:He5.DefA:=⟨F',"__init__","TextReader.__init__",defArgs Bn,defBody Bn,defScope Bn,[],[]⟩
abbrev Uj:He5.DefA:=⟨Lp,"common_divisor","common_divisor",defArgs Bo,defBody Bo,defScope Bo,[],[]⟩
abbrev Uk:He5.DefA:=⟨Lq,"is_whole","is_whole",defArgs Bp,defBody Bp,defScope Bp,[],[]⟩
abbrev Ul:He5.DefA:=⟨Ga,"__init__","Ratio.__init__",defArgs qH,defBody qH,defScope qH,[.int 1],[]⟩
abbrev Um:He5.DefA:=⟨Lr,"is_digits","is_digits",defArgs Bq,defBody Bq,defScope Bq,[],[]⟩
abbrev Uo:He5.DefA:=⟨Ls,"is_signed","is_signed",defArgs Br,defBody Br,defScope Br,[],[]⟩
abbrev Uq:He5.DefA:=⟨Gb,"read","Ratio.read",defArgs Bs,defBody Bs,defScope Bs,[],[]⟩
abbrev Ur:He5.DefA:=⟨Ge,"taken","TextReader.taken",defArgs Bt,defBody Bt,defScope Bt,[],[]⟩
abbrev Us:He5.DefA:=⟨Gf,"row","TextReader.row",defArgs oy,defBody oy,defScope oy,[],[]⟩
abbrev Ut:He5.DefA:=⟨Gg,"run_of","TextReader.run_of",defArgs Bu,defBody Bu,defScope Bu,[],[]⟩
abbrev Uu:He5.DefA:=⟨Gh,"plan","TextReader.plan",defArgs yE,defBody yE,defScope yE,[],[]⟩
abbrev Uv:He5.DefA:=⟨Lv,"read_plan","read_plan",defArgs Bv,defBody Bv,defScope Bv,[],[]⟩
abbrev Uw:He5.DefA:=⟨Lw,"_law_why","_law_why",defArgs Bw,defBody Bw,defScope Bw,[],[]⟩
abbrev Ux:He5.DefA:=⟨Lx,"_law_whys","_law_whys",defArgs Bx,defBody Bx,defScope Bx,[],[]⟩
abbrev Uy:He5.DefA:=⟨Ly,"parts","parts",defArgs lA,defBody lA,defScope lA,[],[]⟩
abbrev Uz:He5.DefA:=⟨Lz,"_law_bounds_so","_law_bounds_so",defArgs fR,defBody fR,defScope fR,[],[]⟩
abbrev UA:He5.DefA:=⟨LA,"_law_pick","_law_pick",defArgs By,defBody By,defScope By,[],[]⟩
abbrev UC:He5.DefA:=⟨LC,"_law_of","_law_of",defArgs Bz,defBody Bz,defScope Bz,[],[]⟩
abbrev UD:He5.DefA:=⟨LD,"_law_name","_law_name",defArgs BA,defBody BA,defScope BA,[],[]⟩
abbrev UE:He5.DefA:=⟨LQ,"bottom","Ratio.bottom",defArgs BD,defBody BD,defScope BD,[],[]⟩
abbrev UG:He5.DefA:=⟨LR,"top","Ratio.top",defArgs BE,defBody BE,defScope BE,[],[]⟩
abbrev UH:He5.DefA:=⟨LI,"_law_pair","_law_pair",defArgs BF,defBody BF,defScope BF,[],[]⟩
abbrev UI:He5.DefA:=⟨LJ,"_law_own","_law_own",defArgs BG,defBody BG,defScope BG,[],[]⟩
abbrev UJ:He5.DefA:=⟨LK,"_law_gcd","_law_gcd",defArgs BH,defBody BH,defScope BH,[],[]⟩
abbrev UK:He5.DefA:=⟨LL,"_law_frac","_law_frac",defArgs BI,defBody BI,defScope BI,[],[]⟩
abbrev UL:He5.DefA:=⟨LN,"_law_small_frac","_law_small_frac",defArgs BJ,defBody BJ,defScope BJ,[],[]⟩
abbrev UM:He5.DefA:=⟨LO,"_law_plan","_law_plan",defArgs BK,defBody BK,defScope BK,[],[]⟩
abbrev UN:He5.DefA:=⟨F8,"law","law",defArgs pF,defBody pF,defScope pF,[],[]⟩
abbrev LX:ZK.eC:=⟨LU,qJ,"__init__","InvalidRatio.__init__",defArgs r4,defBody r4,defScope r4⟩
abbrev LY:ZK.eC:=⟨uy,qI,"__init__","WayError.__init__",defArgs lB,defBody lB,defScope lB⟩
abbrev LZ:ZK.eC:=⟨LV,qK,"__init__","InvalidText.__init__",defArgs r5,defBody r5,defScope r5⟩
abbrev L0:ZK.eC:=⟨LW,qL,"__init__","InvalidPlan.__init__",defArgs r6,defBody r6,defScope r6⟩
abbrev wa:List He5.DefA:=[T4,T5,T6,T7,T8,T9,T_,T',Ua,Ub,Uc,Ud,Ue,Ug,Uh,Ui,Uj,Uk,Ul,Um,Uo,Uq,Ur,Us,Ut,Uu,Uv,Uw,Ux,Uy,Uz,UA,UC,UD,UE,UG,UH,UI,UJ,UK,UL,UM,UN]
abbrev lC:List ZK.eC:=[LX,LY,LZ,L0]
abbrev Gi:List He.Defn:=[("_law_asker",none),("_law_bounds_so",none),("law",none)]
def UO(K:PySem.W.Frag):List ZK.mE:=[a5 (PySem.W.nsIn K mainGlobals "Ratio"=some (some (.ref (gN K)))),a5 (PySem.W.plainGet K (gN K) Str.empty=true),a5 (PySem.W.hasDictIn K (gN K)=true),a5 (PySem.W.plainOver K (gN K)=true),a5 (PySem.W.findIn K (.ref (gN K)) "__setattr__"=some (some (.builtin "object.__setattr__"))),a5 (PySem.W.makesIn K (gN K)=true),a5 (PySem.W.keepIn K (.ref (gN K))=true),a5 (PySem.W.findIn K (.ref (gN K)) "__init__"=some (some (.ref (Ga K)))),a5 (PySem.W.findIn K (.ref (gN K)) "own_bottom"=some none),a5 (PySem.W.findIn K (.ref (gN K)) "own_top"=some none),a5 (PySem.W.findIn K (.ref (gN K)) "__eq__"=some (some (.ref (F9 K)))),a5 (PySem.W.findIn K (.ref (gN K)) "text"=some (some (.ref (F_ K)))),a5 (PySem.W.findIn K (.ref (gN K)) "__class__"=some (some (.builtin "object.__class__"))),a5 (PySem.W.mroIn K (gN K) (.type "object")=some true),a5 (PySem.W.findIn K (.ref (gN K)) "__ne__"=some (some (.builtin "object.__ne__"))),a5 (PySem.W.notFirst K (gN K) (.ref (gN K))=true),a5 (PySem.W.notFirst K (gN K) (.ref (kM K))=true),a5 (PySem.W.findIn K (.ref (gN K)) "bottom"=some (some (.ref (BO K)))),a5 (PySem.W.findIn K (.ref (gN K)) "top"=some (some (.ref (BP K)))),a5 (PySem.W.nsIn K mainGlobals "TextReader"=some (some (.ref (kM K))))]
def UP(K:PySem.W.Frag):List ZK.mE:=[a5 (PySem.W.plainGet K (kM K) Str.empty=true),a5 (PySem.W.hasDictIn K (kM K)=true),a5 (PySem.W.plainOver K (kM K)=true),a5 (PySem.W.findIn K (.ref (kM K)) "__setattr__"=some (some (.builtin "object.__setattr__"))),a5 (PySem.W.makesIn K (kM K)=true),a5 (PySem.W.keepIn K (.ref (kM K))=true),a5 (PySem.W.findIn K (.ref (kM K)) "__init__"=some (some (.ref (F' K)))),a5 (PySem.W.findIn K (.ref (kM K)) "at"=some none),a5 (PySem.W.findIn K (.ref (kM K)) "whole"=some none),a5 (PySem.W.findIn K (.ref (kM K)) "plan"=some (some (.ref (Gh K)))),a5 (PySem.W.findIn K (.ref (kM K)) "row"=some (some (.ref (Gf K)))),a5 (PySem.W.findIn K (.ref (kM K)) "run_of"=some (some (.ref (Gg K)))),a5 (PySem.W.findIn K (.ref (kM K)) "taken"=some (some (.ref (Ge K)))),a5 (K7 K (gN K) (T2 K) (Gb K) "read"=true),a5 (PySem.W.kitOne K (.ref (gN K)) (.ref (gN K))=some true),a5 (((PySem.W.clsIn K (gN K)).isSome&&PySem.W.typeIn K (.ref (gN K))==some (.type "type"))=true),a5 (PySem.W.nsIn K mainGlobals "_law_asker"=some (some (.ref (La K)))),a5 (PySem.W.nsIn K mainGlobals "_law_bag"=some (some (.ref (Lb K)))),a5 (PySem.W.nsIn K mainGlobals "_law_frac_text"=some (some (.ref (Lc K)))),a5 (PySem.W.nsIn K mainGlobals "_law_inner"=some (some (.ref (Ld K))))]
def UQ(K:PySem.W.Frag):List ZK.mE:=[a5 (PySem.W.nsIn K mainGlobals "_law_plan_text"=some (some (.ref (Le K)))),a5 (PySem.W.nsIn K mainGlobals "_law_same"=some (some (.ref (Lf K)))),a5 (PySem.W.nsIn K mainGlobals "_law_field"=some (some (.ref (F7 K)))),a5 (PySem.W.isFn K (.ref (F9 K))=true),a5 (PySem.W.nsIn K mainGlobals "is_name"=some (some (.ref (Lg K)))),a5 (PySem.W.nsIn K mainGlobals "has_form"=some (some (.ref (Lh K)))),a5 (PySem.W.nsIn K mainGlobals "inside"=some (some (.ref (Li K)))),a5 (PySem.W.nsIn K mainGlobals "check_plan"=some (some (.ref (Lj K)))),a5 (PySem.W.isFn K (.ref (F_ K))=true),a5 (PySem.W.nsIn K mainGlobals "text_from"=some (some (.ref (Lk K)))),a5 (PySem.W.nsIn K mainGlobals "plan_text"=some (some (.ref (Ln K)))),a5 (PySem.W.isFn K (.ref (F' K))=true),a5 (PySem.W.nsIn K mainGlobals "common_divisor"=some (some (.ref (Lp K)))),a5 (PySem.W.nsIn K mainGlobals "is_whole"=some (some (.ref (Lq K)))),a5 (PySem.W.isFn K (.ref (Ga K))=true),a5 (PySem.W.nsIn K mainGlobals "is_digits"=some (some (.ref (Lr K)))),a5 (PySem.W.nsIn K mainGlobals "is_signed"=some (some (.ref (Ls K)))),a5 (PySem.W.isFn K (.ref (Gb K))=true),a5 (PySem.W.isFn K (.ref (Ge K))=true),a5 (PySem.W.isFn K (.ref (Gf K))=true)]
def UR(K:PySem.W.Frag):List ZK.mE:=[a5 (PySem.W.isFn K (.ref (Gg K))=true),a5 (PySem.W.isFn K (.ref (Gh K))=true),a5 (PySem.W.nsIn K mainGlobals "read_plan"=some (some (.ref (Lv K)))),a5 (PySem.W.nsIn K mainGlobals "_law_why"=some (some (.ref (Lw K)))),a5 (PySem.W.nsIn K mainGlobals "_law_whys"=some (some (.ref (Lx K)))),a5 (PySem.W.nsIn K mainGlobals "parts"=some (some (.ref (Ly K)))),a5 (PySem.W.nsIn K mainGlobals "_law_bounds_so"=some (some (.ref (Lz K)))),a5 (PySem.W.nsIn K mainGlobals "_law_pick"=some (some (.ref (LA K)))),a5 (PySem.W.nsIn K mainGlobals "_law_of"=some (some (.ref (LC K)))),a5 (PySem.W.nsIn K mainGlobals "_law_name"=some (some (.ref (LD K)))),a5 (PySem.W.specialIn K (.ref (BO K)) "__get__"=some (some (.builtin "property.__get__"))),a5 (PySem.W.takesIn K (.ref (BO K))=some true),a5 (ZK.F3 K (BO K)=true),a5 (PySem.W.isFn K (.ref (LQ K))=true),a5 (PySem.W.specialIn K (.ref (BP K)) "__get__"=some (some (.builtin "property.__get__"))),a5 (PySem.W.takesIn K (.ref (BP K))=some true),a5 (ZK.F3 K (BP K)=true),a5 (PySem.W.isFn K (.ref (LR K))=true),a5 (PySem.W.nsIn K mainGlobals "_law_pair"=some (some (.ref (LI K)))),a5 (PySem.W.nsIn K mainGlobals "_law_own"=some (some (.ref (LJ K))))]
def UT(K:PySem.W.Frag):List ZK.mE:=[a5 (PySem.W.nsIn K mainGlobals "_law_gcd"=some (some (.ref (LK K)))),a5 (PySem.W.nsIn K mainGlobals "_law_frac"=some (some (.ref (LL K)))),a5 (PySem.W.nsIn K mainGlobals "_law_small_frac"=some (some (.ref (LN K)))),a5 (PySem.W.nsIn K mainGlobals "_law_plan"=some (some (.ref (LO K)))),a5 (PySem.W.nsIn K mainGlobals "law"=some (some (.ref (F8 K)))),a5 (PySem.W.nsIn K mainGlobals "WayError"=some (some (.ref (qI K)))),a5 (PySem.W.nsIn K mainGlobals "Missing"=some (some (.ref (BL K)))),a5 (PySem.W.nsIn K mainGlobals "InvalidRatio"=some (some (.ref (qJ K)))),a5 (PySem.W.nsIn K mainGlobals "InvalidText"=some (some (.ref (qK K)))),a5 (PySem.W.nsIn K mainGlobals "InvalidPlan"=some (some (.ref (qL K)))),a5 (PySem.W.nsIn K mainGlobals "NothingLeft"=some (some (.ref (BM K)))),a5 (PySem.W.exmAny K (.ref (qL K)) [.ref (qK K),.ref (qL K),.ref (qJ K)]=some true),a5 (PySem.W.exmAny K (.ref (qL K)) [.ref (qI K),.ref (BL K),.ref (BM K)]=some true),a5 (PySem.W.exmAny K (.ref (qJ K)) [.ref (qK K),.ref (qL K),.ref (qJ K)]=some true),a5 (PySem.W.exmAny K (.ref (qJ K)) [.ref (qI K),.ref (BL K),.ref (BM K)]=some true),a5 (PySem.W.exmAny K (.ref (qK K)) [.ref (qK K),.ref (qL K),.ref (qJ K)]=some true),a5 (PySem.W.exmAny K (.ref (qK K)) [.ref (qI K),.ref (BL K),.ref (BM K)]=some true),a5 (PySem.W.findIn K (.ref (qJ K)) "__init__"=some (some (.ref (LU K)))),a5 (ZK.eC.ok K PySem.Challenge.pw_waysagree_k32_texts_that_are_no_plans.main.file LX=true),a5 (PySem.W.findIn K (.ref (qI K)) "__init__"=some (some (.ref (uy K))))]
def UU(K:PySem.W.Frag):List ZK.mE:=[a5 (ZK.eC.ok K PySem.Challenge.pw_waysagree_k32_texts_that_are_no_plans.main.file LY=true),a5 (PySem.W.findIn K (.ref (qK K)) "__init__"=some (some (.ref (LV K)))),a5 (ZK.eC.ok K PySem.Challenge.pw_waysagree_k32_texts_that_are_no_plans.main.file LZ=true),a5 (PySem.W.findIn K (.ref (qL K)) "__init__"=some (some (.ref (LW K)))),a5 (ZK.eC.ok K PySem.Challenge.pw_waysagree_k32_texts_that_are_no_plans.main.file L0=true),a5 (uw K (qJ K) (qI K) (LU K) (uy K) [.type "ValueError",.type "Exception",.type "BaseException",.type "object"] "ValueError" "ValueError.__new__" "ValueError.__init__" (.ref (uy K)) ["tag","value"]=true),a5 (uw K (qK K) (qI K) (LV K) (uy K) [.type "ValueError",.type "Exception",.type "BaseException",.type "object"] "ValueError" "ValueError.__new__" "ValueError.__init__" (.ref (uy K)) ["tag","given"]=true),a5 (uw K (qL K) (qI K) (LW K) (uy K) [.type "ValueError",.type "Exception",.type "BaseException",.type "object"] "ValueError" "ValueError.__new__" "ValueError.__init__" (.ref (uy K)) ["tag","path"]=true),a5 (PySem.W.nsIn K mainGlobals "super"=some none),a5 (PySem.W.nsIn K cStatics "thirdparty.any"=some none),a5 ((He.Fa.str "DIGITS" "0123456789").ok K=true),a5 ((He.Fa.str "LETTERS" "abcdefghijklmnopqrstuvwxyz").ok K=true),a5 ((He.Fa.int "MOST_DEPTH" 8).ok K=true),a5 ((He.Fa.int "MOST_DIGITS" 30).ok K=true),a5 ((He.Fa.int "MOST_INSIDE" 6).ok K=true),a5 ((He.Fa.int "MOST_NAME" 8).ok K=true),a5 ((He.Fa.int "MOST_PARTS" 40).ok K=true),a5 (PySem.W.nsIn K mainGlobals "WORDS"=some (some (.ref (T3 K)))),a5 (K_ K (T3 K) ["stay","none"]=true),a5 (PySem.W.nsIn K mainGlobals "abs"=some none)]
def UW(K:PySem.W.Frag):List ZK.mE:=[a5 (PySem.W.nsIn K mainGlobals "all"=some none),a5 (PySem.W.nsIn K mainGlobals "bool"=some none),a5 (PySem.W.nsIn K mainGlobals "enumerate"=some none),a5 (PySem.W.nsIn K mainGlobals "int"=some none),a5 (PySem.W.nsIn K mainGlobals "isinstance"=some none),a5 (PySem.W.nsIn K mainGlobals "len"=some none),a5 (PySem.W.nsIn K mainGlobals "list"=some none),a5 (PySem.W.nsIn K mainGlobals "range"=some none),a5 (PySem.W.nsIn K mainGlobals "str"=some none),a5 (PySem.W.nsIn K mainGlobals "tuple"=some none),a5 (PySem.W.nsIn K mainGlobals "zip"=some none),a5 ([(yF K),(yG K),(yH K)].Nodup)]
def Gj(K:PySem.W.Frag):Bool:=ZK.F6 [UO K,UP K,UQ K,UR K,UT K,UU K,UW K]
abbrev wc:PySem.W.OpenRow:=PySem.W.OpenLaw.row PySem.Challenge.rw_waysagree_k32_texts_that_are_no_plans
abbrev yI:Program:=PySem.W.view wc.prog [54]
def Gk:List PySem.Str:=(["_wall","__name__","WayError","Missing","InvalidRatio","InvalidText","InvalidPlan","NothingLeft","LETTERS","DIGITS","MOST_DIGITS","is_whole","is_digits","is_signed","common_divisor","Ratio","ratio_of","MOST_NAME","MOST_DEPTH","MOST_INSIDE","MOST_PARTS","WORDS","is_name","inside","has_form","check_plan","parts","plan_text","text_from","TextReader"]:List PySem.Str)++(["read_plan","_law_bag","_law_pick","_law_of","_law_same","_law_field","_law_why","_law_whys","_law_gcd","_law_frac","_law_frac_text","_law_small_frac","_law_pair","_law_name","_law_plan","_law_inner","_law_plan_text","_law_asker","_law_own","_law_bounds_so"]:List PySem.Str)
def BQ:ZK.v':=ZK.TV ((["_law_asker","_law_bag","_law_frac_text","_law_inner","_law_plan_text","_law_same","_law_field","is_name","has_form","inside","check_plan","text_from","plan_text","common_divisor","is_whole","is_digits","is_signed","read_plan","_law_why","_law_whys","parts","_law_bounds_so","_law_pick","_law_of","_law_name","_law_pair","_law_own","_law_gcd","_law_frac","_law_small_frac"]:List Str)++(["_law_plan","law","Ratio","TextReader","WayError","Missing","InvalidRatio","InvalidText","InvalidPlan","NothingLeft","WORDS"]:List Str)) (([("Ratio","__eq__"),("Ratio","text"),("TextReader","__init__"),("Ratio","__init__"),("Ratio","read"),("TextReader","taken"),("TextReader","row"),("TextReader","run_of"),("TextReader","plan"),("Ratio","bottom"),("Ratio","top"),("InvalidRatio","__init__"),("WayError","__init__"),("InvalidText","__init__"),("InvalidPlan","__init__")]:List (Str×Str))) (([("Ratio","read"),("Ratio","bottom"),("Ratio","top")]:List (Str×Str)))
abbrev L1(w:World)(os:PySem.OsState):Option PySem.W.SharedT:=HandSHeadRun.endF (HandSHeadRun.stepQ (HandSHeadRun.denQ HandSHeadRun.tabQ) wc.prog w) 40000 wc.prog w os
end K32
set_option Elab.async false
set_option linter.all false
set_option maxRecDepth 100000
set_option maxHeartbeats 4000000
set_option exponentiation.threshold 2000
namespace K32
open PySem PySem.Spec L2 Z PyProof.Rows
set_option maxHeartbeats 0 in
theorem acT(w:World)(os:PySem.OsState):(L1 w os).map (λs=>(HandSHeadRun.looksF wc.prog (PySem.W.boot_heap w.params) s.abs,HandSHeadRun.seenQ yI Gk (PySem.importedModules wc.prog.main.body) (λs=>PySem.W.xlAt yI [] s&&PySem.W.recOk wc.toRowW.records s) s.abs,ZK.F5 (wa.take 21) (ZK.jw BQ (HandSHeadRun.getT s))))=some (true,PySem.W.openGood yI Gk,(true,(wa.take 21).map He5.DefA.val)):=by
 kernel_rfl
set_option maxHeartbeats 0 in
theorem acU(w:World)(os:PySem.OsState):(L1 w os).map (λs=>ZK.K8 (wa.drop 21) lC (ZK.jw BQ (HandSHeadRun.getT s)))=some ((true,(wa.drop 21).map He5.DefA.val),lC.map ZK.eC.val):=by
 kernel_rfl
set_option maxHeartbeats 0 in
theorem acV(w:World)(os:PySem.OsState):(L1 w os).map (λs=>ZK.K9 Gi Gj (HandSHeadRun.getT s) (ZK.jw BQ (HandSHeadRun.getT s)))=some true:=by
 kernel_rfl
end K32
set_option Elab.async false
set_option linter.all false
set_option maxRecDepth 100000
set_option maxHeartbeats 4000000
namespace Z
open PySem PySem.Spec L2
structure dj where
 id:Nat
 params:Arguments
 body:Expr
 scope:Scope
 qual:Str
 dvs:List V
 names:List Str
inductive D where
 |non
 |bl (b:Bool)
 |int (i:Int)
 |str (s:Str)
 |ty (n:String)
 |cls (c:Str)
 |tup (xs:List D)
 |lst (xs:List D)
 |b8 (xs:List D)
 |dct (ks vs:List D)
 |er (w:World) (ks vs:List D)
 |ins (c:Str) (ns:List Str) (vs:List D)
 |ptr (n:Nat)
 |ck (xs:List Int)
 |exc (c:Str) (ns:List Str) (vs:List D)
 |lam (T:dj) (a_:List (Str×Addr))
 |dN (T:dj) (caps:List D)
inductive dH where
 |lst (xs:List D)
 |dct (lk:Bool) (ks vs:List D)
 |er (w:World) (ks vs:List D)
 |ins (c:Str) (ns:List Str) (vs:List D)
 |tab (P:Addr) (q:Str)
 |dead
abbrev Store:=List dH
inductive Out (α:Type) where
 |ok (a:α) (S:Store)
 |ex (e:D) (S:Store)
 |bad
def Out.bind{α β:Type}(o:Out α)(k:α->Store->Out β):Out β:=match o with
 | .ok a S=>k a S
 | .ex e S=>.ex e S
 | .bad=>.bad
abbrev aT:=List (Option D)
abbrev aM:=aT->Store->Out D
abbrev du:=aT->Store->Out (List D)
abbrev cJ:=aT->Store->Out Bool
inductive SO where
 |nx (sl:aT) (S:Store)
 |bk (sl:aT) (S:Store)
 |ct (sl:aT) (S:Store)
 |rt (d:D) (S:Store)
 |ex (e:D) (sl:aT) (S:Store)
 |bad
abbrev SX:=aT->Store->SO
mutual
def eD:D->Bool
 | .tup xs=>dw xs
 | .b8 xs=>dw xs
 | .lst xs=>dw xs
 | .dct ks vs=>dw ks&&dw vs
 | .er _ ks vs=>dw ks&&dw vs
 | .ins _ _ vs=>dw vs
 | .exc _ _ vs=>dw vs
 | .dN _ _=>false
 | .non=>true
 | .bl _=>true
 | .int _=>true
 | .str _=>true
 | .ty _=>true
 | .cls _=>true
 | .ck _=>true
 | .ptr _=>true
 | .lam _ _=>true
def dw:List D->Bool
 |[]=>true
 |d::ds=>eD d&&dw ds
end
def yJ:dH->Bool
 | .lst xs=>dw xs
 | .dct _ ks vs=>dw ks&&dw vs
 | .er _ ks vs=>dw ks&&dw vs
 | .ins _ _ vs=>dw vs
 | .tab _ _=>true
 | .dead=>true
mutual
def nk:D->Option NestedKey
 | .non=>some .none
 | .bl b=>some (.num (if b=true then 1 else 0))
 | .int i=>some (.num i)
 | .str x=>some (.text x)
 | .tup ds=>(yK ds).map .tup
 | .b8 ds=>(yK ds).map .tup
 | .ty _=>none
 | .cls _=>none
 | .lst _=>none
 | .dct _ _=>none
 | .er _ _ _=>none
 | .ins _ _ _=>none
 | .ptr _=>none
 | .ck _=>none
 | .exc _ _ _=>none
 | .lam _ _=>none
 | .dN _ _=>none
def yK:List D->Option (List NestedKey)
 |[]=>some []
 |d::ds=>match nk d,yK ds with
  |some n,some ns=>some (n::ns)
  |_,_=>none
end
def acW:NestedKey->Bool
 | .text _=>true
 |_=>false
def acX:NestedKey->Bool
 | .tup _=>true
 |_=>false
def oz(a:Addr)(p:List DictEntry×Obj):HO:=.ext λh=>∃eP:Nat,h.get? a=some p.2/\p.2.ExactDict/\p.2.data=.dict p.1.toArray eP
def Gm(w:World)(ks:List D)(es:List DictEntry)(b9 BR:List V):Prop:=∃ns:List NestedKey,yK ks=some ns/\ns.Nodup/\(∀n∈ns,n.depth<=8)/\((∀n∈ns,acW n=true)\/∀n∈ns,acX n=true)/\es.map (·.hash)=ns.map (·.hash w)/\Vals b9 (es.map (·.key))/\Vals BR (es.map (·.val))/\es.length<=sizeLine
section
variable(K:PySem.W.Frag)(mg:Str->Option Value)(ρ:List Addr)(H:Hp)
def acY(a:Addr)(vs:List V):Prop:=∃(o:Obj) (its:Array Value) (n:Nat),K.lookup a=some o/\o.cls=.type "list"/\o.dict=none/\o.data=.seq its n/\its.size<=sizeLine/\Vals vs its.toList
def Gn(a:Addr)(vs:List V):Prop:=∃(o:Obj) (its:Array Value) (n:Nat),K.lookup a=some o/\o.cls=.type "tuple"/\o.data=.seq its n/\its.size<=sizeLine/\Vals vs its.toList
def yL(a:Addr)(vs:List V):Prop:=(a∉ρ/\Rd H a (.lst vs))\/acY K a vs
def LstAt(a:Addr)(vs:List V):Prop:=a∉ρ/\H a=some (.lst vs)
def TupAt(a:Addr)(vs:List V):Prop:=(a∉ρ/\H a=some (.tup vs))\/Gn K a vs
def yM(a:Addr)(vs:List V):Prop:=a∉ρ/\∃o:Obj,o.dict=none/\H a=some (.frz o (.tup vs))
def Gp(a:Addr)(ks vs:List V):Prop:=a∉ρ/\∃kvs:List (Key×V),Rd H a (.dK kvs)/\ks=kvs.map (λp=>kV p.1)/\vs=kvs.map (·.2)
def Gq(w:World)(ds:List D)(a:Addr)(b9 BR:List V):Prop:=a∉ρ/\(a==sysModules)=false/\∃es:List DictEntry×Obj,H a=some (oz a es)/\Gm w ds es.1 b9 BR
def yN(a:Addr)(o:Obj):HO:=.ext λh=>h.get? a=some o
def r7(a C d:Addr):HO:=.ext λh=>∃(dI:Obj) (vs:Array Value),h.get? a=some dI/\Zc (.ref C) (some d) dI/\dI.data=.fields vs
def Gr(dvs:List V)(cG:Value):Prop:=(dvs=[]/\cG=.none)\/(dvs≠[]/\∃t,cG=.ref t/\t∉ρ/\H t=some (.tup dvs))
def uz(f:Addr)(T:dj)(a_:List (Str×Addr)):Prop:=f∉ρ/\(∃aU,a_=L2.cloFrom aU T.scope.names [])/\∃(pm doc cG dz:Value) (c':Addr),H f=some (yN f (PySem.W.kdv_obj "<lambda>" T.qual T.params (.expr T.body) T.scope a_ cG doc pm c' dz))/\c'∉ρ/\H c'=some (LamX.CodeO c' T.qual)/\Gr ρ H T.dvs cG
def nq(a_:List (Str×Addr)):List Str->List V->Prop
 |[],vs=>vs=[]
 |n::ns,vs=>∃v r c o u,vs=v::r/\a_.lookup n=some c/\c∉ρ/\H c=some (.frz o (.own 0))/\o.data=.cell (some u)/\RelV v u/\(∀m∈ns,a_.lookup m≠some c)/\nq a_ ns r
mutual
def Rep:D->V->Prop
 | .non,v=>v=.non
 | .bl b,v=>v=.bl b
 | .int i,v=>v=.int i
 | .str s,v=>v=.str s
 | .ty n,v=>v=.ty n
 | .cls c,v=>∃C,mg c=some (.ref C)/\v=.ref C
 | .tup ds,v=>∃a vs,v=.ref a/\TupAt K ρ H a vs/\ay ds vs
 | .b8 ds,v=>∃a vs,v=.ref a/\yM ρ H a vs/\ay ds vs
 | .lst ds,v=>∃a vs,v=.ref a/\LstAt ρ H a vs/\ay ds vs
 | .dct ks ds,v=>∃a b9 vs,v=.ref a/\Gp ρ H a b9 vs/\ay ks b9/\ay ds vs
 | .er w ks ds,v=>∃a b9 vs,v=.ref a/\Gq ρ H w ks a b9 vs/\ay ks b9/\ay ds vs
 | .ins c ns ds,v=>∃a C bM fs,v=.ref a/\a∉ρ/\mg c=some (.ref C)/\H a=some (.ins C bM fs)/\fs.map (·.1)=ns/\ay ds (fs.map (·.2))
 | .ptr n,v=>∃a,v=.ref a/\ρ[n]?=some a
 | .ck xs,v=>∃a,v=.ref a/\yL K ρ H a (xs.map V.int)
 | .exc c ns ds,v=>∃a C d fs,v=.ref a/\a∉ρ/\d∉ρ/\mg c=some (.ref C)/\H a=some (r7 a C d)/\H d=some (.xd fs)/\fs.map (·.1)=ns/\ay ds (fs.map (·.2))
 | .lam T a_,v=>∃f,v=.ref f/\uz ρ H f T a_
 | .dN T caps,v=>∃f a_ vs,v=.ref f/\uz ρ H f T a_/\nq ρ H a_ T.names vs/\ay caps vs
def ay:List D->List V->Prop
 |[],vs=>vs=[]
 |d::ds,vs=>∃v r,vs=v::r/\Rep d v/\ay ds r
end
def kh(a:Addr):dH->Prop
 | .lst ds=>∃vs,H a=some (.lst vs)/\ay K mg ρ H ds vs
 | .dct lk ks ds=>∃kvs:List (Key×V),(if lk=true then Rd H a (.dK kvs)else H a=some (.dK kvs))/\ay K mg ρ H ks (kvs.map (λp=>kV p.1))/\ay K mg ρ H ds (kvs.map (·.2))
 | .er w ks ds=>(a==sysModules)=false/\∃es b9 vs,H a=some (oz a es)/\Gm w ks es.1 b9 vs/\ay K mg ρ H ks b9/\ay K mg ρ H ds vs
 | .ins c ns ds=>∃C bM fs,mg c=some (.ref C)/\H a=some (.ins C bM fs)/\fs.map (·.1)=ns/\ay K mg ρ H ds (fs.map (·.2))
 | .tab P q=>a=P/\∃ps:Array Value,H a=some (.tbl ps)/\TriplesOk ps.toList/\∀(pos:Pos) (lD:Value),codeAmong pos ps.toList=some lD->∃c,lD=.ref c/\c∉ρ/\H c=some (LamX.CodeO c q)
 | .dead=>True
structure aN(S:Store):Prop where
 len:ρ.length=S.length
 nd:ρ.Nodup
 tr:∀a∈ρ,H a≠none
 ob:∀(n:Nat) a m,ρ[n]?=some a->S[n]?=some m->kh K mg ρ H a m
structure cH(σ:St)(sl:aT):Prop where
 len:σ.length=sl.length
 at_:∀(i:Nat) d,sl[i]?=some (some d)->∃v,σ[i]?=some (some v)/\Rep K mg ρ H d v
def oA(e:D)(C:Value)(dd:Option Addr):Prop:=∃c ns ds kj hD fs,e=.ins c ns ds/\mg c=some (.ref kj)/\C=.ref kj/\dd=some hD/\hD∉ρ/\H hD=some (.xd fs)/\fs.map (·.1)=ns/\ay K mg ρ H ds (fs.map (·.2))
end
structure Ext(ρ:List Addr)(H:Hp)(av:List Addr)(H':Hp):Prop where
 pre:∃t,av=ρ++t
 new:∀a∈av,a∉ρ->H a=none
 keep:∀a o,a∉ρ->H a=some o->H' a=some o\/((∃kvs,o=.dK kvs)/\∃od,H' a=some (.frz od o))
section
variable{K:PySem.W.Frag}{mg:Str->Option Value}{ρ av UX:List Addr}{H H' UY:Hp}
theorem Ext.refl:Ext ρ H ρ H:=⟨⟨[],by simp⟩,λa h n=>absurd h n,λ_ _ _ h=>.inl h⟩
theorem Ext.kept(x:Ext ρ H av H'){a:Addr}{o:HO}(n:a∉ρ)(h:H a=some o)(nd:∀kvs,o≠.dK kvs):H' a=some o:=by
 rcases x.keep a o n h with h|⟨⟨kvs,e⟩,_⟩
 .exact h
 grind
theorem Ext.nin(x:Ext ρ H av H'){a:Addr}{o:HO}(n:a∉ρ)(h:H a=some o):a∉av:=λq=>by
 have:=x.new a q n;grind
theorem Ext.trans(x:Ext ρ H av H')(y:Ext av H' UX UY):Ext ρ H UX UY:=by
 obtain⟨t,e⟩:=x.pre;obtain⟨t',cN⟩:=y.pre;refine⟨⟨t++t',by grind⟩,λa h n=>?_,λa o n h=>?_⟩;rotate_left
 .rcases x.keep a o n h with h1|⟨hk,od,h1⟩
  .exact y.keep a o (x.nin n h) h1
  .exact .inr ⟨hk,od,y.kept (x.nin n h) h1 (by intros;nofun)⟩
 by_cases q:a∈av
 .exact x.new a q n
 .have z:=y.new a h q
  cases e:H a with
  |none=>rfl
  |some o =>
   rcases x.keep a o n e with this|⟨_,_,this⟩<;>(grind)
theorem Ext.get(x:Ext ρ H av H'){n:Nat}{a:Addr}(h:ρ[n]?=some a):av[n]?=some a:=by
 obtain⟨t,e⟩:=x.pre;grind
theorem Rd.ext(x:Ext ρ H av H'){a:Addr}{u:HO}(n:a∉ρ)(r:Rd H a u):a∉av/\Rd H' a u:=by
 rcases r with r|⟨o,r⟩
 .rcases x.keep _ _ n r with q|⟨_,od,q⟩
  .exact⟨x.nin n r,.inl q⟩
  .exact⟨x.nin n r,.inr ⟨od,q⟩⟩
 .exact⟨x.nin n r,.inr ⟨o,x.kept n r (by intros;nofun)⟩⟩
structure Kp(ρ:List Addr)(H:Hp)(av:List Addr)(H':Hp):Prop where
 rd:∀a u,(∀o uA,u≠HO.frz o uA)->(∀y,u≠HO.own y)->a∉ρ->Rd H a u->a∉av/\Rd H' a u
 lst:∀a vs,a∉ρ->H a=some (.lst vs)->H' a=some (.lst vs)
 tup:∀a vs,a∉ρ->H a=some (.tup vs)->H' a=some (.tup vs)
 ins:∀a C bM fs,a∉ρ->H a=some (.ins C bM fs)->H' a=some (.ins C bM fs)
 get:∀(n:Nat) a,ρ[n]?=some a->av[n]?=some a
 ext:∀a cS,a∉ρ->H a=some (.ext cS)->a∉av/\H' a=some (.ext cS)
 xd:∀a fs,a∉ρ->H a=some (.xd fs)->a∉av/\H' a=some (.xd fs)
 frz:∀a o vs,a∉ρ->H a=some (.frz o (.tup vs))->a∉av/\H' a=some (.frz o (.tup vs))
theorem Ext.kp(x:Ext ρ H av H'):Kp ρ H av H':=⟨λa u _ _ n r=>Rd.ext x n r,λa vs n h=>x.kept n h (by intros;nofun),λa vs n h=>x.kept n h (by intros;nofun),λa C bM fs n h=>x.kept n h (by intros;nofun),λn a h=>x.get h,λa cS n h=>⟨x.nin n h,x.kept n h (by intros;nofun)⟩,λa fs n h=>⟨x.nin n h,x.kept n h (by intros;nofun)⟩,λa o vs n h=>⟨x.nin n h,x.kept n h (by intros;nofun)⟩⟩
theorem yM.kp(x:Kp ρ H av H'){a:Addr}{vs:List V}(h:yM ρ H a vs):yM av H' a vs:=by
 obtain⟨n,o,d,e⟩:=h;obtain⟨mF,cN⟩:=x.frz a o vs n e;exact⟨mF,o,d,cN⟩
theorem yL.kp(x:Kp ρ H av H'){a:Addr}{vs:List V}(h:yL K ρ H a vs):yL K av H' a vs:=by
 rcases h with⟨n,r⟩|h
 .exact .inl (x.rd _ _ (by intros;nofun) (by intros;nofun) n r)
 .exact .inr h
theorem LstAt.kp(x:Kp ρ H av H'){a:Addr}{vs:List V}(h:LstAt ρ H a vs):LstAt av H' a vs:=⟨(x.rd _ _ (by intros;nofun) (by intros;nofun) h.1 (.inl h.2)).1,x.lst _ _ h.1 h.2⟩
theorem TupAt.kp(x:Kp ρ H av H'){a:Addr}{vs:List V}(h:TupAt K ρ H a vs):TupAt K av H' a vs:=by
 rcases h with⟨n,r⟩|h
 .exact .inl ⟨(x.rd _ _ (by intros;nofun) (by intros;nofun) n (.inl r)).1,x.tup _ _ n r⟩
 .exact .inr h
theorem Gp.kp(x:Kp ρ H av H'){a:Addr}{ks vs:List V}(h:Gp ρ H a ks vs):Gp av H' a ks vs:=by
 obtain⟨n,kvs,r,aw,e2⟩:=h;obtain⟨mF,b2⟩:=x.rd _ _ (by intros;nofun) (by intros;nofun) n r;exact⟨mF,kvs,b2,aw,e2⟩
theorem Gq.kp(x:Kp ρ H av H'){w:World}{ds:List D}{a:Addr}{ks vs:List V}(h:Gq ρ H w ds a ks vs):Gq av H' w ds a ks vs:=by
 obtain⟨n,hs,es,r,e⟩:=h;obtain⟨mF,b2⟩:=x.ext _ _ n r;exact⟨mF,hs,es,b2,e⟩
theorem Gr.kp(x:Kp ρ H av H'){dvs:List V}{cG:Value}(h:Gr ρ H dvs cG):Gr av H' dvs cG:=by
 rcases h with h|⟨n,t,e,nt,ht⟩
 .exact .inl h
 .exact .inr ⟨n,t,e,(x.rd _ _ (by intros;nofun) (by intros;nofun) nt (.inl ht)).1,x.tup _ _ nt ht⟩
theorem uz.kp(x:Kp ρ H av H'){f:Addr}{T:dj}{a_:List (Str×Addr)}(h:uz ρ H f T a_):uz av H' f T a_:=by
 obtain⟨n,r9,pm,doc,cG,dz,c',h1,r',h2,aH⟩:=h;obtain⟨mF,nr⟩:=x.ext _ _ n h1;obtain⟨UZ,BU⟩:=x.ext _ _ r' h2;exact⟨mF,r9,pm,doc,cG,dz,c',nr,UZ,BU,aH.kp x⟩
def Gu(ρ:List Addr)(H:Hp)(av:List Addr)(H':Hp):Prop:=∀a o u,a∉ρ->H a=some (.frz o u)->a∉av/\H' a=some (.frz o u)
theorem Ext.U0(x:Ext ρ H av H'):Gu ρ H av H':=λa o u n h=>⟨x.nin n h,x.kept n h (by intros;nofun)⟩
theorem nq.kp(x:Gu ρ H av H'){a_:List (Str×Addr)}:∀{ns:List Str} {vs:List V},nq ρ H a_ ns vs->nq av H' a_ ns vs
 |[],_,h=>h
 |n::ns,_,⟨v,r,c,o,u,e,h1,n1,h2,aH,bT,hd,cZ⟩=>by
  obtain⟨acZ,BU⟩:=x _ _ _ n1 h2;exact⟨v,r,c,o,u,e,h1,acZ,BU,aH,bT,hd,nq.kp x cZ⟩
mutual
theorem Rep.kp(x:Kp ρ H av H'):∀(d:D) (v:V),(Gu ρ H av H'\/eD d=true)->Rep K mg ρ H d v->Rep K mg av H' d v
 | .non,v,hf,h=>by rw[Rep]at h ⊢;exact h
 | .bl b,v,hf,h=>by rw[Rep]at h ⊢;exact h
 | .int i,v,hf,h=>by rw[Rep]at h ⊢;exact h
 | .str s,v,hf,h=>by rw[Rep]at h ⊢;exact h
 | .ty n,v,hf,h=>by rw[Rep]at h ⊢;exact h
 | .cls c,v,hf,h=>by rw[Rep]at h ⊢;exact h
 | .tup ds,v,hf,h=>by
  rw[Rep]at h ⊢;obtain⟨a,vs,e,t,r⟩:=h;exact⟨a,vs,e,t.kp x,ay.kp x ds vs (hf.imp id λq=>by rw[eD]at q;exact q) r⟩
 | .b8 ds,v,hf,h=>by
  rw[Rep]at h ⊢;obtain⟨a,vs,e,t,r⟩:=h;exact⟨a,vs,e,t.kp x,ay.kp x ds vs (hf.imp id λq=>by rw[eD]at q;exact q) r⟩
 | .lst ds,v,hf,h=>by
  rw[Rep]at h ⊢;obtain⟨a,vs,e,t,r⟩:=h;exact⟨a,vs,e,t.kp x,ay.kp x ds vs (hf.imp id λq=>by rw[eD]at q;exact q) r⟩
 | .dct ks ds,v,hf,h=>by
  rw[Rep]at h ⊢;obtain⟨a,b9,vs,e,t,r1,r2⟩:=h;exact⟨a,b9,vs,e,t.kp x,ay.kp x ks b9 (hf.imp id λq=>by rw[eD,Bool.and_eq_true]at q;exact q.1) r1,ay.kp x ds vs (hf.imp id λq=>by rw[eD,Bool.and_eq_true]at q;exact q.2) r2⟩
 | .er w ks ds,v,hf,h=>by
  rw[Rep]at h ⊢;obtain⟨a,b9,vs,e,t,r1,r2⟩:=h;exact⟨a,b9,vs,e,t.kp x,ay.kp x ks b9 (hf.imp id λq=>by rw[eD,Bool.and_eq_true]at q;exact q.1) r1,ay.kp x ds vs (hf.imp id λq=>by rw[eD,Bool.and_eq_true]at q;exact q.2) r2⟩
 | .ins c ns ds,v,hf,h=>by
  rw[Rep]at h ⊢;obtain⟨a,C,bM,fs,e,n,hm,ha,hn,r⟩:=h;exact⟨a,C,bM,fs,e,(x.rd a _ (by intros;nofun) (by intros;nofun) n (.inl ha)).1,hm,x.ins a C bM fs n ha,hn,ay.kp x ds _ (hf.imp id λq=>by rw[eD]at q;exact q) r⟩
 | .ptr n,v,hf,h=>by
  rw[Rep]at h ⊢;obtain⟨a,e,q⟩:=h;exact⟨a,e,x.get n a q⟩
 | .ck xs,v,hf,h=>by
  rw[Rep]at h ⊢;obtain⟨a,e,q⟩:=h;exact⟨a,e,q.kp x⟩
 | .exc c ns ds,v,hf,h=>by
  rw[Rep]at h ⊢;obtain⟨a,C,d,fs,e,n,nd,hm,ha,hd,hn,r⟩:=h;obtain⟨mF,L3⟩:=x.ext _ _ n ha;obtain⟨Gv,mG⟩:=x.xd _ _ nd hd;exact⟨a,C,d,fs,e,mF,Gv,hm,L3,mG,hn,ay.kp x ds _ (hf.imp id λq=>by rw[eD]at q;exact q) r⟩
 | .lam T a_,v,hf,h=>by
  rw[Rep]at h ⊢;obtain⟨f,e,h⟩:=h;exact⟨f,e,h.kp x⟩
 | .dN T caps,v,hf,h=>by
  rw[Rep]at h ⊢;obtain⟨f,a_,vs,e,h1,h2,r⟩:=h;rcases hf with hf|hf
  .exact⟨f,a_,vs,e,h1.kp x,h2.kp hf,ay.kp x caps vs (.inl hf) r⟩
  .rw[eD]at hf;cases hf
theorem ay.kp(x:Kp ρ H av H'):∀(ds:List D) (vs:List V),(Gu ρ H av H'\/dw ds=true)->ay K mg ρ H ds vs->ay K mg av H' ds vs
 |[],vs,_,h=>by rw[ay]at h ⊢;exact h
 |d::ds,vs,hf,h=>by
  rw[ay]at h ⊢;obtain⟨v,r,e,h1,h2⟩:=h;exact⟨v,r,e,Rep.kp x d v (hf.imp id λq=>by rw[dw,Bool.and_eq_true]at q;exact q.1) h1,ay.kp x ds r (hf.imp id λq=>by rw[dw,Bool.and_eq_true]at q;exact q.2) h2⟩
end
theorem Rep.ext(x:Ext ρ H av H'){d:D}{v:V}(h:Rep K mg ρ H d v):Rep K mg av H' d v:=Rep.kp x.kp d v (.inl x.U0) h
theorem ay.ext(x:Ext ρ H av H'){ds:List D}{vs:List V}(h:ay K mg ρ H ds vs):ay K mg av H' ds vs:=ay.kp x.kp ds vs (.inl x.U0) h
theorem cH.ext(x:Ext ρ H av H'){σ:St}{sl:aT}(h:cH K mg ρ H σ sl):cH K mg av H' σ sl:=⟨h.len,λi d e=>by
 obtain⟨v,aw,r⟩:=h.at_ i d e;exact⟨v,aw,r.ext x⟩⟩
theorem yL.eQ{a:Addr}{vs:List V}(h:yL K ρ H a vs):SqL K H a vs:=by
 rcases h with⟨_,r⟩|h
 .exact .inl r
 .exact .inr h
theorem LstAt.eQ{a:Addr}{vs:List V}(h:LstAt ρ H a vs):SqL K H a vs:=.inl (.inl h.2)
theorem yM.eQ{a:Addr}{vs:List V}(h:yM ρ H a vs):SqT K H a vs:=by
 obtain⟨_,o,_,e⟩:=h;exact .inl (.inr ⟨o,e⟩)
theorem TupAt.eQ{a:Addr}{vs:List V}(h:TupAt K ρ H a vs):SqT K H a vs:=by
 rcases h with⟨_,r⟩|h
 .exact .inl (.inl r)
 .exact .inr h
theorem ay.len:∀{ds:List D} {vs:List V},ay K mg ρ H ds vs->ds.length=vs.length
 |[],_,h=>by rw[ay]at h;subst h;rfl
 |d::ds,_,h=>by
  rw[ay]at h;obtain⟨v,r,e,_,h2⟩:=h;subst e;simp[ay.len h2]
theorem ay.get:∀{ds:List D} {vs:List V} {i:Nat} {d:D},ay K mg ρ H ds vs->ds[i]?=some d->∃v,vs[i]?=some v/\Rep K mg ρ H d v
 |[],_,_,_,_,e=>by simp at e
 |x::ds,_,0,d,h,e=>by
  rw[ay]at h;grind
 |x::ds,_,i+1,d,h,e=>by
  rw[ay]at h;obtain⟨v,r,cN,_,h2⟩:=h;subst cN;obtain⟨w,aw,q⟩:=ay.get (i:=i) h2 (by simpa using e);grind
theorem ay.get':∀{ds:List D} {vs:List V} {i:Nat} {v:V},ay K mg ρ H ds vs->vs[i]?=some v->∃d,ds[i]?=some d/\Rep K mg ρ H d v:=λ{ds vs i v} h e=>by
 have hl:=h.len;have hi:=(List.getElem?_eq_some_iff.mp e).1;have hd:ds[i]?=some (ds[i]'(by omega)):=by simp
 obtain⟨w,aw,q⟩:=h.get hd;simp_all
theorem ay.nil:ay K mg ρ H [] []:=by rw[ay]
theorem ay.cons{d:D}{v:V}{ds:List D}{vs:List V}(h:Rep K mg ρ H d v)(r:ay K mg ρ H ds vs):ay K mg ρ H (d::ds) (v::vs):=by
 rw[ay];grind
theorem ay.append:∀{ds es:List D} {vs ws:List V},ay K mg ρ H ds vs->ay K mg ρ H es ws->ay K mg ρ H (ds++es) (vs++ws)
 |[],_,_,_,h,q=>by rw[ay]at h;grind
 |d::ds,_,_,_,h,q=>by
  rw[ay]at h;obtain⟨v,r,e,h1,h2⟩:=h;subst e;exact ay.cons h1 (ay.append h2 q)
theorem ay.set{d:D}{v:V}(h:Rep K mg ρ H d v):∀{ds:List D} {vs:List V} (i:Nat),ay K mg ρ H ds vs->ay K mg ρ H (ds.set i d) (vs.set i v)
 |[],_,_,q=>by rw[ay]at q;subst q;rfl
 |x::ds,_,0,q=>by
  rw[ay]at q;obtain⟨w,r,e,_,h2⟩:=q;subst e;exact ay.cons h h2
 |x::ds,_,i+1,q=>by
  rw[ay]at q;obtain⟨w,r,e,h1,h2⟩:=q;subst e;exact ay.cons h1 (ay.set h i h2)
theorem ay.take:∀{ds:List D} {vs:List V} (n:Nat),ay K mg ρ H ds vs->ay K mg ρ H (ds.take n) (vs.take n)
 |_,_,0,_=>by rfl
 |[],_,n+1,q=>by rw[ay]at q;subst q;rfl
 |x::ds,_,n+1,q=>by
  rw[ay]at q;obtain⟨w,r,e,h1,h2⟩:=q;subst e;exact ay.cons h1 (ay.take n h2)
theorem ay.drop:∀{ds:List D} {vs:List V} (n:Nat),ay K mg ρ H ds vs->ay K mg ρ H (ds.drop n) (vs.drop n)
 |_,_,0,q=>by simpa using q
 |[],_,n+1,q=>by rw[ay]at q;subst q;rfl
 |x::ds,_,n+1,q=>by
  rw[ay]at q;obtain⟨w,r,e,h1,h2⟩:=q;subst e;simpa using ay.drop n h2
end
section
variable(K:PySem.W.Frag)(mg:Str->Option Value)
def aV(W:Value->Option Addr->Hp->Prop)(ρ:List Addr)(H:Hp)(Q:V->Hp->Prop):Out D->Prop
 | .ok d ao=>∀v av H',Ext ρ H av H'->aN K mg av H' ao->Rep K mg av H' d v->Q v H'
 | .ex e ao=>∀C dd av H',Ext ρ H av H'->aN K mg av H' ao->oA K mg av H' e C dd->W C dd H'
 | .bad=>False
def eZ(W:Value->Option Addr->Hp->Prop)(ρ:List Addr)(H:Hp)(Q:List V->Hp->Prop):Out (List D)->Prop
 | .ok ds ao=>∀vs av H',Ext ρ H av H'->aN K mg av H' ao->ay K mg av H' ds vs->Q vs H'
 | .ex e ao=>∀C dd av H',Ext ρ H av H'->aN K mg av H' ao->oA K mg av H' e C dd->W C dd H'
 | .bad=>False
def gk(W:Value->Option Addr->Hp->Prop)(ρ:List Addr)(H:Hp)(Q:Bool->Hp->Prop):Out Bool->Prop
 | .ok b ao=>∀av H',Ext ρ H av H'->aN K mg av H' ao->Q b H'
 | .ex e ao=>∀C dd av H',Ext ρ H av H'->aN K mg av H' ao->oA K mg av H' e C dd->W C dd H'
 | .bad=>False
def bV(W:WX)(ρ:List Addr)(H:Hp)(eE:Ends):SO->Prop
 | .nx sl ao=>∀bA av H',Ext ρ H av H'->aN K mg av H' ao->cH K mg av H' bA sl->eE.nx bA H'
 | .bk sl ao=>∀bA av H',Ext ρ H av H'->aN K mg av H' ao->cH K mg av H' bA sl->eE.bk bA H'
 | .ct sl ao=>∀bA av H',Ext ρ H av H'->aN K mg av H' ao->cH K mg av H' bA sl->eE.ct bA H'
 | .rt d ao=>∀v av H',Ext ρ H av H'->aN K mg av H' ao->Rep K mg av H' d v->eE.rt v H'
 | .ex e sl ao=>∀C dd bA av H',Ext ρ H av H'->aN K mg av H' ao->cH K mg av H' bA sl->oA K mg av H' e C dd->W C dd bA H'
 | .bad=>False
def gO(W:WX)(f:aM):TE:=λσ H Q=>∃ρ S sl,aN K mg ρ H S/\cH K mg ρ H σ sl/\aV K mg (λC d H'=>W C d σ H') ρ H Q (f sl S)
def wd(W:WX)(f:du):TA:=λσ H Q=>∃ρ S sl,aN K mg ρ H S/\cH K mg ρ H σ sl/\eZ K mg (λC d H'=>W C d σ H') ρ H Q (f sl S)
def we(W:WX)(f:cJ):TT:=λσ H Q=>∃ρ S sl,aN K mg ρ H S/\cH K mg ρ H σ sl/\gk K mg (λC d H'=>W C d σ H') ρ H Q (f sl S)
def wg(W:WX)(f:SX):TS:=λeE σ H=>∃ρ S sl,aN K mg ρ H S/\cH K mg ρ H σ sl/\bV K mg W ρ H eE (f sl S)
end
def E(X:Cx)(W:WX)(e:Expr)(f:aM):Prop:=PE X e (gO X.K X.mg W f)
def gQ(X:Cx)(W:WX)(es:List Expr)(f:du):Prop:=PA X es (wd X.K X.mg W f)
def kO(X:Cx)(W:WX)(e:Expr)(f:cJ):Prop:=PT X e (we X.K X.mg W f)
def ES(X:Cx)(W:WX)(st:Stmt)(f:SX):Prop:=PS X st (wg X.K X.mg W f)
def gm(X:Cx)(W:WX)(st:List Stmt)(f:SX):Prop:=PSs X st (wg X.K X.mg W f)
section
variable{X:Cx}
theorem PE.imp{e:Expr}{t t':TE}(h:PE X e t)(k:∀σ H Q,t' σ H Q->t σ H Q):PE X e t':=⟨λpins s σ H Q I q=>h.run pins s σ H Q I (k σ H Q q)⟩
theorem PA.imp{e:List Expr}{t t':TA}(h:PA X e t)(k:∀σ H Q,t' σ H Q->t σ H Q):PA X e t':=⟨λpos pins s σ H Q I q=>h.run pos pins s σ H Q I (k σ H Q q)⟩
theorem PT.imp{e:Expr}{t t':TT}(h:PT X e t)(k:∀σ H Q,t' σ H Q->t σ H Q):PT X e t':=⟨λpins s σ H Q I q=>h.run pins s σ H Q I (k σ H Q q)⟩
theorem PS.imp{e:Stmt}{t t':TS}(h:PS X e t)(k:∀D σ H,t' D σ H->t D σ H):PS X e t':=⟨λpins s σ H D I q=>h.run pins s σ H D I (k D σ H q)⟩
theorem PSs.imp{e:List Stmt}{t t':TS}(h:PSs X e t)(k:∀D σ H,t' D σ H->t D σ H):PSs X e t':=⟨λpins s σ H D I q=>h.run pins s σ H D I (k D σ H q)⟩
end
section
variable{K:PySem.W.Frag}{mg:Str->Option Value}{ρ av:List Addr}{H H':Hp}
variable{W:Value->Option Addr->Hp->Prop}
theorem aV.from{Q:V->Hp->Prop}{o:Out D}(x:Ext ρ H av H')(h:aV K mg W ρ H Q o):aV K mg W av H' Q o:=by
 cases o with
 |ok d S=>exact λv aO aD y w r=>h v aO aD (x.trans y) w r
 |ex e S=>exact λC dd aO aD y w r=>h C dd aO aD (x.trans y) w r
 |bad=>exact h
theorem eZ.from{Q:List V->Hp->Prop}{o:Out (List D)}(x:Ext ρ H av H')(h:eZ K mg W ρ H Q o):eZ K mg W av H' Q o:=by
 cases o with
 |ok d S=>exact λv aO aD y w r=>h v aO aD (x.trans y) w r
 |ex e S=>exact λC dd aO aD y w r=>h C dd aO aD (x.trans y) w r
 |bad=>exact h
theorem gk.from{Q:Bool->Hp->Prop}{o:Out Bool}(x:Ext ρ H av H')(h:gk K mg W ρ H Q o):gk K mg W av H' Q o:=by
 cases o with
 |ok d S=>exact λaO aD y w=>h aO aD (x.trans y) w
 |ex e S=>exact λC dd aO aD y w r=>h C dd aO aD (x.trans y) w r
 |bad=>exact h
theorem bV.from{U1:WX}{eE:Ends}{o:SO}(x:Ext ρ H av H')(h:bV K mg U1 ρ H eE o):bV K mg U1 av H' eE o:=by
 cases o with
 |nx sl S=>exact λσ aO aD y w r=>h σ aO aD (x.trans y) w r
 |bk sl S=>exact λσ aO aD y w r=>h σ aO aD (x.trans y) w r
 |ct sl S=>exact λσ aO aD y w r=>h σ aO aD (x.trans y) w r
 |rt d S=>exact λv aO aD y w r=>h v aO aD (x.trans y) w r
 |ex e sl S=>exact λC dd σ aO aD y w r1 r2=>h C dd σ aO aD (x.trans y) w r1 r2
 |bad=>exact h
theorem aV.fJ{Q:V->Hp->Prop}{o:Out D}{k:D->Store->Out D}(h:aV K mg W ρ H Q (o.bind k)) :
  aV K mg W ρ H (λv H1=>∃aA S1 d,Ext ρ H aA H1/\aN K mg aA H1 S1/\Rep K mg aA H1 d v/\o=.ok d S1/\aV K mg W aA H1 Q (k d S1)) o:=by
 cases o with
 |ok d S=>exact λv aO aD y w r=>⟨aO,S,d,y,w,r,rfl,aV.from y h⟩
 |ex e S=>exact h
 |bad=>exact h
theorem aV.sd{Q:List V->Hp->Prop}{o:Out D}{k:D->Store->Out (List D)}(h:eZ K mg W ρ H Q (o.bind k)) :
  aV K mg W ρ H (λv H1=>∃aA S1 d,Ext ρ H aA H1/\aN K mg aA H1 S1/\Rep K mg aA H1 d v/\o=.ok d S1/\eZ K mg W aA H1 Q (k d S1)) o:=by
 cases o with
 |ok d S=>exact λv aO aD y w r=>⟨aO,S,d,y,w,r,rfl,eZ.from y h⟩
 |ex e S=>exact h
 |bad=>exact h
theorem aV.bindB{Q:Bool->Hp->Prop}{o:Out D}{k:D->Store->Out Bool}(h:gk K mg W ρ H Q (o.bind k)) :
  aV K mg W ρ H (λv H1=>∃aA S1 d,Ext ρ H aA H1/\aN K mg aA H1 S1/\Rep K mg aA H1 d v/\o=.ok d S1/\gk K mg W aA H1 Q (k d S1)) o:=by
 cases o with
 |ok d S=>exact λv aO aD y w r=>⟨aO,S,d,y,w,r,rfl,gk.from y h⟩
 |ex e S=>exact h
 |bad=>exact h
theorem eZ.fJ{Q:V->Hp->Prop}{o:Out (List D)}{k:List D->Store->Out D}(h:aV K mg W ρ H Q (o.bind k)) :
  eZ K mg W ρ H (λv H1=>∃aA S1 d,Ext ρ H aA H1/\aN K mg aA H1 S1/\ay K mg aA H1 d v/\o=.ok d S1/\aV K mg W aA H1 Q (k d S1)) o:=by
 cases o with
 |ok d S=>exact λv aO aD y w r=>⟨aO,S,d,y,w,r,rfl,aV.from y h⟩
 |ex e S=>exact h
 |bad=>exact h
theorem eZ.sd{Q:List V->Hp->Prop}{o:Out (List D)}{k:List D->Store->Out (List D)}(h:eZ K mg W ρ H Q (o.bind k)) :
  eZ K mg W ρ H (λv H1=>∃aA S1 d,Ext ρ H aA H1/\aN K mg aA H1 S1/\ay K mg aA H1 d v/\o=.ok d S1/\eZ K mg W aA H1 Q (k d S1)) o:=by
 cases o with
 |ok d S=>exact λv aO aD y w r=>⟨aO,S,d,y,w,r,rfl,eZ.from y h⟩
 |ex e S=>exact h
 |bad=>exact h
theorem gk.fJ{Q:V->Hp->Prop}{o:Out Bool}{k:Bool->Store->Out D}(h:aV K mg W ρ H Q (o.bind k)) :
  gk K mg W ρ H (λb H1=>∃aA S1,Ext ρ H aA H1/\aN K mg aA H1 S1/\o=.ok b S1/\aV K mg W aA H1 Q (k b S1)) o:=by
 cases o with
 |ok d S=>exact λaO aD y w=>⟨aO,S,y,w,rfl,aV.from y h⟩
 |ex e S=>exact h
 |bad=>exact h
theorem gk.bindB{Q:Bool->Hp->Prop}{o:Out Bool}{k:Bool->Store->Out Bool}(h:gk K mg W ρ H Q (o.bind k)) :
  gk K mg W ρ H (λb H1=>∃aA S1,Ext ρ H aA H1/\aN K mg aA H1 S1/\o=.ok b S1/\gk K mg W aA H1 Q (k b S1)) o:=by
 cases o with
 |ok d S=>exact λaO aD y w=>⟨aO,S,y,w,rfl,gk.from y h⟩
 |ex e S=>exact h
 |bad=>exact h
end
def eName(i:Nat):aM:=λsl S=>match sl[i]? with
 |some (some d)=>.ok d S
 |_=>.bad
def af(d:D):aM:=λ_ S=>.ok d S
abbrev b_:=D->D->Store->Out D
abbrev wh:=D->Store->Out D
abbrev aB:=List D->Store->Out D
def aq(sem:b_)(fa fb:aM):aM:=λsl S=>(fa sl S).bind λd S1=>(fb sl S1).bind λe S2=>sem d e S2
def oB(sem:wh)(fa:aM):aM:=λsl S=>(fa sl S).bind sem
def ak(sem:aB)(fa:du):aM:=λsl S=>(fa sl S).bind sem
def ah:du:=λ_ S=>.ok [] S
def ae(f:aM)(g:du):du:=λsl S=>(f sl S).bind λd S1=>(g sl S1).bind λds S2=>.ok (d::ds) S2
def eu(f g:b_):b_:=λd e S=>match f d e S with
 | .bad=>g d e S
 |r=>r
def pG(f g:aB):aB:=λd S=>match f d S with
 | .bad=>g d S
 |r=>r
def aI(f:aM):cJ:=λsl S=>(f sl S).bind λd S1=>match d with
 | .bl b=>.ok b S1
 |_=>.bad
def dc(f:cJ):cJ:=λsl S=>(f sl S).bind λb S1=>.ok (!b) S1
def lE(f g:cJ):cJ:=λsl S=>(f sl S).bind λb S1=>if b=true then g sl S1 else .ok false S1
def d2(f g:cJ):cJ:=λsl S=>(f sl S).bind λb S1=>if b=true then .ok true S1 else g sl S1
def gn(f g:aM):aM:=λsl S=>(f sl S).bind λd S1=>match d with
 | .bl true=>g sl S1
 | .bl false=>.ok (.bl false) S1
 |_=>.bad
def uB(f g:aM):aM:=λsl S=>(f sl S).bind λd S1=>match d with
 | .bl true=>.ok (.bl true) S1
 | .bl false=>g sl S1
 |_=>.bad
def Gx(f:aM):aM:=λsl S=>(f sl S).bind λd S1=>match d with
 | .bl b=>.ok (.bl (!b)) S1
 |_=>.bad
def eF(c:cJ)(f g:aM):aM:=λsl S=>(c sl S).bind λb S1=>if b=true then f sl S1 else g sl S1
def oC(s1 s2:b_)(fa fb fc:aM):aM:=λsl S=>(fa sl S).bind λd S1=>(fb sl S1).bind λe S2=>(s1 d e S2).bind λr a4=>match r with
 | .bl true=>(fc sl a4).bind λg bR=>s2 e g bR
 | .bl false=>.ok (.bl false) a4
 |_=>.bad
section
variable{X:Cx}{W:WX}
structure de(X:Cx)(f:Value->Value->Sem Value)(sem:b_):Prop where
 go:∃r:R2,OpR X f r/\∀(Wp:Value->Option Addr->Hp->Prop) (ρ:List Addr) (H:Hp) (S:Store) (d e:D) (x y:V) (Q:VK),aN X.K X.mg ρ H S->Rep X.K X.mg ρ H d x->Rep X.K X.mg ρ H e y->aV X.K X.mg Wp ρ H Q (sem d e S)->r x y H Q
structure U2(X:Cx)(f:Value->Sem Value)(sem:wh):Prop where
 go:∃r:V->Hp->VK->Prop,UnR X f r/\∀(Wp:Value->Option Addr->Hp->Prop) (ρ:List Addr) (H:Hp) (S:Store) (d:D) (x:V) (Q:VK),aN X.K X.mg ρ H S->Rep X.K X.mg ρ H d x->aV X.K X.mg Wp ρ H Q (sem d S)->r x H Q
structure iL(X:Cx)(f:Value)(sem:aB):Prop where
 go:∃r:List V->Hp->VK->Prop,CallR X f r/\∀(Wp:Value->Option Addr->Hp->Prop) (ρ:List Addr) (H:Hp) (S:Store) (ds:List D) (xs:List V) (Q:VK),aN X.K X.mg ρ H S->ay X.K X.mg ρ H ds xs->aV X.K X.mg Wp ρ H Q (sem ds S)->r xs H Q
theorem de.or{f:Value->Value->Sem Value}{s t:b_}(h:de X f s)(h':de X f t):de X f (eu s t):=by
 obtain⟨r,o,g⟩:=h.go;obtain⟨b2,e6,g'⟩:=h'.go;refine⟨_,o.or e6,λWp ρ H S d e x y Q w aJ bS p=>?_⟩;unfold eu at p;grind
theorem iL.or{f:Value}{s t:aB}(h:iL X f s)(h':iL X f t):iL X f (pG s t):=by
 obtain⟨r,o,g⟩:=h.go;obtain⟨b2,e6,g'⟩:=h'.go;refine⟨_,CallR.or o e6,λWp ρ H S d x Q w aJ p=>?_⟩;unfold pG at p;grind
theorem cA{K:PySem.W.Frag}{mg:Str->Option Value}{Wp:Value->Option Addr->Hp->Prop}{ρ:List Addr}{H:Hp}{Q:VK}{d:D}{S:Store}{v:V}(h:aV K mg Wp ρ H Q (.ok d S))(w:aN K mg ρ H S)(r:Rep K mg ρ H d v):Q v H :=
 h v ρ H Ext.refl w r
theorem au{i:Nat}{x:Str}{pos:Pos}(gF:X.N[i]?=some x:=by rfl)(bP:Vis X.env.scope x:=by first|exact Or.inl rfl|exact Or.inr (Or.inl rfl)|exact Or.inr (Or.inr rfl))(hd:(x==("__debug__":Str))=false:=by decide)
  (g9:(x==("__classdict__":Str))=false:=by decide):E X W (.Name x pos) (eName i):=by
 refine PE.imp (pe_var gF bP hd g9) λσ H Q h=>?_;obtain⟨ρ,S,sl,w,r,p⟩:=h;unfold eName at p;cases q:sl[i]? with
 |none=>rw[q]at p;exact p.elim
 |some o =>
  cases o with
  |none=>rw[q]at p;exact p.elim
  |some d =>
   rw[q]at p;obtain⟨v,e,aW⟩:=r.at_ i d q;exact⟨v,e,cA p w aW⟩
theorem aK{i:Int}{j pos}:E X W (.Constant (.int i) j pos) (af (.int i)):=PE.imp pe_int λσ H Q ⟨ρ,S,sl,w,r,p⟩=>cA (d:=.int i) p w (by rw[Rep])
theorem se{b:Bool}{j pos}:E X W (.Constant (.bool b) j pos) (af (.bl b)):=PE.imp pe_bl λσ H Q ⟨ρ,S,sl,w,r,p⟩=>cA (d:=.bl b) p w (by rw[Rep])
theorem uC{j pos}:E X W (.Constant .none j pos) (af .non):=PE.imp pe_non λσ H Q ⟨ρ,S,sl,w,r,p⟩=>cA (d:=.non) p w (by rw[Rep])
theorem aG{x:Str}{j pos}:E X W (.Constant (.str x) j pos) (af (.str x)):=PE.imp pe_str λσ H Q ⟨ρ,S,sl,w,r,p⟩=>cA (d:=.str x) p w (by rw[Rep])
theorem L4{x:Str}{v:V}{u:Value}{pos:Pos}{d:D}(hg:Gl X x)(hm:X.mg x=some u)(aW:RelV v u)(rd:∀ρ H,Rep X.K X.mg ρ H d v)(hd:(x==("__debug__":Str))=false:=by decide):E X W (.Name x pos) (af d) :=
 PE.imp (pe_glob hg hm aW hd) λσ H Q ⟨ρ,S,sl,w,r,p⟩=>cA (d:=d) p w (rd ρ H)
theorem jx{x:Str}{n:String}{pos:Pos}(hg:Gl X x)(hm:X.mg x=none)(bP:bootBuiltins x=some (.type n))(hn:x≠"__name__":=by decide)(hd:(x==("__debug__":Str))=false:=by decide):E X W (.Name x pos) (af (.ty n)) :=
 PE.imp (pe_bltn (v:=.ty n) hg hm bP rfl hn hd) λσ H Q ⟨ρ,S,sl,w,r,p⟩=>cA (d:=.ty n) p w (by rw[Rep])
theorem L5{x:Str}{C:Addr}{pos:Pos}(hg:Gl X x)(hm:X.mg x=some (.ref C))(hd:(x==("__debug__":Str))=false:=by decide):E X W (.Name x pos) (af (.cls x)) :=
 PE.imp (pe_glob (v:=.ref C) hg hm rfl hd) λσ H Q ⟨ρ,S,sl,w,r,p⟩=>cA (d:=.cls x) p w (by rw[Rep];grind)
theorem aV.mono{K:PySem.W.Frag}{mg:Str->Option Value}{Wp:Value->Option Addr->Hp->Prop}{ρ:List Addr}{H:Hp}{Q e7:VK}{o:Out D}(h:aV K mg Wp ρ H Q o)(k:∀v H',Q v H'->e7 v H'):aV K mg Wp ρ H e7 o:=by
 cases o with
 |ok d S=>exact λv av H' x w r=>k _ _ (h v av H' x w r)
 |ex e S=>exact h
 |bad=>exact h
theorem eZ.mono{K:PySem.W.Frag}{mg:Str->Option Value}{Wp:Value->Option Addr->Hp->Prop}{ρ:List Addr}{H:Hp}{Q e7:List V->Hp->Prop}{o:Out (List D)}(h:eZ K mg Wp ρ H Q o)(k:∀v H',Q v H'->e7 v H'):eZ K mg Wp ρ H e7 o:=by
 cases o with
 |ok d S=>exact λv av H' x w r=>k _ _ (h v av H' x w r)
 |ex e S=>exact h
 |bad=>exact h
theorem gk.mono{K:PySem.W.Frag}{mg:Str->Option Value}{Wp:Value->Option Addr->Hp->Prop}{ρ:List Addr}{H:Hp}{Q e7:Bool->Hp->Prop}{o:Out Bool}(h:gk K mg Wp ρ H Q o)(k:∀v H',Q v H'->e7 v H'):gk K mg Wp ρ H e7 o:=by
 cases o with
 |ok d S=>exact λav H' x w=>k _ _ (h av H' x w)
 |ex e S=>exact h
 |bad=>exact h
variable{a b c:Expr}{fa fb fc:aM}{pos:Pos}
theorem BV{f:aM}{g:aT->D->Store->Out D}{K:PySem.W.Frag}{mg:Str->Option Value}{σ:L2.St}{H:Hp}{Q:VK}{k:V->Hp->Prop}(h:gO K mg W (λsl S=>(f sl S).bind (g sl)) σ H Q)
  (hk:∀ρ S sl H1 d v,aN K mg ρ H1 S->cH K mg ρ H1 σ sl->Rep K mg ρ H1 d v->aV K mg (λC d H'=>W C d σ H') ρ H1 Q (g sl d S)->k v H1):gO K mg W f σ H k:=by
 obtain⟨ρ,S,sl,w,r,p⟩:=h;exact⟨ρ,S,sl,w,r,aV.mono (aV.fJ p) λv H1 ⟨aA,S1,d,x1,aF,r1,_,p1⟩=>hk aA S1 sl H1 d v aF (r.ext x1) r1 p1⟩
theorem Gy{g:b_}{K:PySem.W.Frag}{mg:Str->Option Value}{σ:L2.St}{H:Hp}{Q:VK}{k:V->V->Hp->Prop}(h:gO K mg W (aq g fa fb) σ H Q)
  (hk:∀ρ S aD d e x y,aN K mg ρ aD S->Rep K mg ρ aD d x->Rep K mg ρ aD e y->aV K mg (λC d H'=>W C d σ H') ρ aD Q (g d e S)->k x y aD):gO K mg W fa σ H λx H1=>gO K mg W fb σ H1 λy aD=>k x y aD:=by
 obtain⟨ρ,S,sl,w,r,p⟩:=h;refine⟨ρ,S,sl,w,r,aV.mono (aV.fJ p) λv H1 ⟨aA,S1,d,x1,aF,r1,_,p1⟩=>?_⟩;refine⟨aA,S1,sl,aF,r.ext x1,aV.mono (aV.fJ p1) λy aD ⟨aO,S2,e,x2,cm,r2,_,p2⟩=>?_⟩;exact hk aO S2 aD d e v y cm (r1.ext x2) r2 p2
theorem bx{op:Operator}{sem:b_}(aY:de X (binaryOp op) sem)(ha:E X W a fa)(hb:E X W b fb):E X W (.BinOp a op b pos) (aq sem fa fb):=by
 obtain⟨r,o,g⟩:=aY.go;exact PE.imp (pe_op o ha hb) λσ H Q h=>Gy h λρ S aD d e x y w aJ bS p=>g _ ρ aD S d e x y Q w aJ bS p
theorem iM{op:CmpOp}{sem:b_}(aY:de X (compareOp op) sem)(ha:E X W a fa)(hb:E X W b fb)(hm:behindInMarks op b=false:=by first|exact nomark _|rfl):E X W (.Compare a [op] [b] pos) (aq sem fa fb):=by
 obtain⟨r,o,g⟩:=aY.go;exact PE.imp (pe_cmpR o ha hb hm) λσ H Q h=>Gy h λρ S aD d e x y w aJ bS p=>g _ ρ aD S d e x y Q w aJ bS p
theorem U3{op:UnaryOp}{sem:wh}(aY:U2 X (unaryOp op) sem)(ha:E X W a fa):E X W (.UnaryOp op a pos) (oB sem fa):=by
 obtain⟨r,o,g⟩:=aY.go;exact PE.imp (pe_un o ha) λσ H Q h=>BV (g:=λ_=>sem) h λρ S sl H1 d v w _ aW p=>g _ ρ H1 S d v Q w aW p
theorem bW{op:CmpOp}{sem:b_}(aY:de X (compareOp op) sem)(ha:E X W a fa)(hb:E X W b fb)(hm:behindInMarks op b=false:=by first|exact nomark _|rfl):kO X W (.Compare a [op] [b] pos) (aI (aq sem fa fb)):=by
 obtain⟨r,o,g⟩:=aY.go;refine PT.imp (pt_cmpR o ha hb hm) λσ H Q h=>?_;obtain⟨ρ,S,sl,w,rs,p⟩:=h;have dX:=aV.bindB p;refine Gy (Q:=λx H'=>∃k,x=.bl k/\Q k H') ⟨ρ,S,sl,w,rs,aV.mono dX λv H1 ⟨aA,S1,d,x1,aF,r1,_,p1⟩=>?_⟩ λρ S aD d e x y w aJ bS p=>g _ ρ aD S d e x y _ w aJ bS p;cases d with
 |bl k =>
  rw[Rep]at r1;exact⟨k,r1,p1 aA H1 Ext.refl aF⟩
 |_=>exact p1.elim
theorem hS(ha:E X W a fa)(he:∀whole,isTrue a X.env whole=(do let v <-whole;standAt a.pos;holding [v] (truthy v)):=by intro _;rfl):kO X W a (aI fa):=by
 refine PT.imp (pt_val ha he) λσ H Q h=>?_;obtain⟨ρ,S,sl,w,rs,p⟩:=h;refine⟨ρ,S,sl,w,rs,aV.mono (aV.bindB p) λv H1 ⟨aA,S1,d,x1,aF,r1,_,p1⟩=>?_⟩;cases d with
 |bl k =>
  rw[Rep]at r1;exact⟨k,r1,p1 aA H1 Ext.refl aF⟩
 |_=>exact p1.elim
def g_(X:Cx)(W:WX)(e:Expr)(f:cJ):Prop:=PW X e (we X.K X.mg W f)
theorem g_.eb{e:Expr}{f:cJ}(h:g_ X W e f):kO X W e f:=PW.pt h
theorem PW.imp{e:Expr}{t t':TT}(h:PW X e t)(k:∀σ H Q,t' σ H Q->t σ H Q):PW X e t':=⟨λac0 pins s σ H Q I q=>h.run ac0 pins s σ H Q I (k σ H Q q)⟩
variable{ga Gz:cJ}{rest:List Expr}
theorem GA(ha:kO X W a ga):g_ X W (.BoolOp .And [a] pos) ga:=pw_and1 ha
theorem nu(ha:kO X W a ga):g_ X W (.BoolOp .Or [a] pos) ga:=pw_or1 ha
theorem GB(ha:kO X W a ga)(hb:g_ X W (.BoolOp .And (b::rest) pos) Gz):g_ X W (.BoolOp .And (a::b::rest) pos) (lE ga Gz):=by
 refine PW.imp (pw_and ha hb) λσ H Q h=>?_;obtain⟨ρ,S,sl,w,rs,p⟩:=h;refine⟨ρ,S,sl,w,rs,gk.mono (gk.bindB p) λk H1 ⟨aA,S1,x1,aF,_,p1⟩=>?_⟩;cases k with
 |true=>exact⟨aA,S1,sl,aF,rs.ext x1,p1⟩
 |false=>exact p1 aA H1 Ext.refl aF
theorem kP(ha:kO X W a ga)(hb:g_ X W (.BoolOp .Or (b::rest) pos) Gz):g_ X W (.BoolOp .Or (a::b::rest) pos) (d2 ga Gz):=by
 refine PW.imp (pw_or ha hb) λσ H Q h=>?_;obtain⟨ρ,S,sl,w,rs,p⟩:=h;refine⟨ρ,S,sl,w,rs,gk.mono (gk.bindB p) λk H1 ⟨aA,S1,x1,aF,_,p1⟩=>?_⟩;cases k with
 |false=>exact⟨aA,S1,sl,aF,rs.ext x1,p1⟩
 |true=>exact p1 aA H1 Ext.refl aF
theorem jX(ha:kO X W a ga):kO X W (.UnaryOp .Not a pos) (dc ga):=by
 refine PT.imp (pt_not ha) λσ H Q h=>?_;obtain⟨ρ,S,sl,w,rs,p⟩:=h;exact⟨ρ,S,sl,w,rs,gk.mono (gk.bindB p) λk H1 ⟨aA,S1,x1,aF,_,p1⟩=>p1 aA H1 Ext.refl aF⟩
theorem oD{op:BoolOp}(ha:E X W a fa):E X W (.BoolOp op [a] pos) fa:=pe_one ha
def ac1(g:aM):aT->D->Store->Out D:=λsl d S1=>match d with
 | .bl true=>g sl S1
 | .bl false=>.ok (.bl false) S1
 |_=>.bad
def ac2(g:aM):aT->D->Store->Out D:=λsl d S1=>match d with
 | .bl true=>.ok (.bl true) S1
 | .bl false=>g sl S1
 |_=>.bad
def ac3:aT->D->Store->Out D:=λsl d S1=>match d with
 | .bl b=>.ok (.bl (!b)) S1
 |_=>.bad
theorem mH(ha:E X W a fa)(hb:E X W (.BoolOp .And (b::rest) pos) fb):E X W (.BoolOp .And (a::b::rest) pos) (gn fa fb):=by
 refine PE.imp (pe_and ha hb) λσ H Q h=>BV (g:=ac1 fb) h λρ S sl H1 d v w r1 aW p=>?_;cases d with
 |bl k =>
  rw[Rep]at aW;refine⟨k,aW,?_⟩;cases k with
  |true=>rw[if_pos rfl];exact⟨ρ,S,sl,w,r1,p⟩
  |false=>rw[if_neg kK];exact cA p w (by rw[Rep])
 |_=>exact p.elim
theorem U4(ha:E X W a fa)(hb:E X W (.BoolOp .Or (b::rest) pos) fb):E X W (.BoolOp .Or (a::b::rest) pos) (uB fa fb):=by
 refine PE.imp (pe_or ha hb) λσ H Q h=>BV (g:=ac2 fb) h λρ S sl H1 d v w r1 aW p=>?_;cases d with
 |bl k =>
  rw[Rep]at aW;refine⟨k,aW,?_⟩;cases k with
  |false=>rw[if_neg kK];exact⟨ρ,S,sl,w,r1,p⟩
  |true=>rw[if_pos rfl];exact cA p w (by rw[Rep])
 |_=>exact p.elim
theorem ac4(ha:E X W a fa):E X W (.UnaryOp .Not a pos) (Gx fa):=by
 refine PE.imp (pe_not ha) λσ H Q h=>BV (g:=ac3) h λρ S sl H1 d v w r1 aW p=>?_;cases d with
 |bl k =>
  rw[Rep]at aW;exact⟨k,aW,cA p w (by rw[Rep])⟩
 |_=>exact p.elim
theorem iN(hc:kO X W c ga)(ha:E X W a fa)(hb:E X W b fb):E X W (.IfExp c a b pos) (eF ga fa fb):=by
 refine PE.imp (pe_ifExp hc ha hb) λσ H Q h=>?_;obtain⟨ρ,S,sl,w,rs,p⟩:=h;refine⟨ρ,S,sl,w,rs,gk.mono (gk.fJ p) λk H1 ⟨aA,S1,x1,aF,_,p1⟩=>?_⟩;cases k with
 |true=>exact⟨aA,S1,sl,aF,rs.ext x1,p1⟩
 |false=>exact⟨aA,S1,sl,aF,rs.ext x1,p1⟩
theorem U5{s1 s2:b_}{f g:Value->Value->Sem Value}(h1:de X f s1)(h2:de X g s2):∃r b2:R2,OpR X f r/\OpR X g b2/\∀{σ:L2.St} {H:Hp} {Q:VK},gO X.K X.mg W (oC s1 s2 fa fb fc) σ H Q->tChain r b2 (gO X.K X.mg W fa) (gO X.K X.mg W fb) (gO X.K X.mg W fc) σ H Q:=by
 obtain⟨r,o,g1⟩:=h1.go;obtain⟨b2,e6,g2⟩:=h2.go;refine⟨r,b2,o,e6,λ{σ H Q} h=>?_⟩;obtain⟨ρ,S,sl,w,rs,p⟩:=h;refine⟨ρ,S,sl,w,rs,aV.mono (aV.fJ p) λv H1 ⟨aA,S1,d,x1,aF,r1,_,p1⟩=>?_⟩;refine⟨aA,S1,sl,aF,rs.ext x1,aV.mono (aV.fJ p1) λy aD ⟨aO,S2,e,x2,cm,r2,_,p2⟩=>?_⟩;refine g1 _ aO aD S2 d e v y _ cm (r1.ext x2) r2 (aV.mono (aV.fJ p2) λz hT ⟨mI,a4,k,b0,ia,cg,_,cq⟩=>?_);cases k with
 |bl k =>
  rw[Rep]at cg;refine⟨k,cg,?_⟩;cases k with
  |true =>
   rw[if_pos rfl];refine⟨mI,a4,sl,ia,(rs.ext (x1.trans (x2.trans b0))),aV.mono (aV.fJ cq) λu kl ⟨uD,bR,m,c0,sg,dk,_,d3⟩=>?_⟩;exact g2 _ uD kl bR e m y u Q sg (r2.ext (b0.trans c0)) dk d3
  |false =>
   rw[if_neg kK];exact cA cq ia (by rw[Rep])
 |_=>exact cq.elim
theorem ac5{op wi:CmpOp}{s1 s2:b_}(h1:de X (compareOp op) s1)(h2:de X (compareOp wi) s2)(ha:E X W a fa)(hb:E X W b fb)(hc:E X W c fc)(hm:lastMarks [op,wi] [b,c]=false:=by rfl):E X W (.Compare a [op,wi] [b,c] pos) (oC s1 s2 fa fb fc):=by
 obtain⟨r,b2,o,e6,k⟩:=U5 (W:=W) (fa:=fa) (fb:=fb) (fc:=fc) h1 h2;exact PE.imp (pe_chain o e6 ha hb hc hm) λσ H Q h=>k h
theorem U6{op wi:CmpOp}{s1 s2:b_}(h1:de X (compareOp op) s1)(h2:de X (compareOp wi) s2)(ha:E X W a fa)(hb:E X W b fb)(hc:E X W c fc)(hm:lastMarks [op,wi] [b,c]=false:=by rfl):kO X W (.Compare a [op,wi] [b,c] pos) (aI (oC s1 s2 fa fb fc)):=by
 obtain⟨r,b2,o,e6,k⟩:=U5 (W:=W) (fa:=fa) (fb:=fb) (fc:=fc) h1 h2;refine PT.imp (pt_chain o e6 ha hb hc hm) λσ H Q h=>?_;obtain⟨ρ,S,sl,w,rs,p⟩:=h;refine k (Q:=λx H'=>∃k,x=.bl k/\Q k H') ⟨ρ,S,sl,w,rs,aV.mono (aV.bindB p) λv H1 ⟨aA,S1,d,x1,aF,r1,_,p1⟩=>?_⟩;cases d with
 |bl k =>
  rw[Rep]at r1;exact⟨k,r1,p1 aA H1 Ext.refl aF⟩
 |_=>exact p1.elim
theorem az:gQ X W [] ah:=PA.imp pa_nil λσ H Q ⟨ρ,S,sl,w,rs,p⟩=>p [] ρ H Ext.refl w ay.nil
theorem ac6{f:aM}{g:du}{K:PySem.W.Frag}{mg:Str->Option Value}{σ:L2.St}{H:Hp}{Q:List V->Hp->Prop}(h:wd K mg W (ae f g) σ H Q):gO K mg W f σ H λx H1=>wd K mg W g σ H1 λxs aD=>Q (x::xs) aD:=by
 obtain⟨ρ,S,sl,w,r,p⟩:=h;refine⟨ρ,S,sl,w,r,aV.mono (aV.sd p) λv H1 ⟨aA,S1,d,x1,aF,r1,_,p1⟩=>?_⟩;refine⟨aA,S1,sl,aF,r.ext x1,eZ.mono (eZ.sd p1) λy aD ⟨aO,S2,e,x2,cm,r2,_,p2⟩=>?_⟩;exact p2 (v::y) aO aD Ext.refl cm (ay.cons (r1.ext x2) r2)
theorem ai{e:Expr}{es:List Expr}{f:aM}{g:du}(ha:E X W e f)(hr:gQ X W es g)(hs:starEach (e::es) X.env=(false,eval e X.env)::starEach es X.env:=by rfl):gQ X W (e::es) (ae f g) :=
 PA.imp (pa_cons ha hr hs) λσ H Q h=>ac6 h
theorem si{f:du}{sem:aB}{K:PySem.W.Frag}{mg:Str->Option Value}{σ:L2.St}{H:Hp}{Q:VK}{k:List V->Hp->Prop}(h:gO K mg W (ak sem f) σ H Q)
  (hk:∀ρ S H1 ds vs,aN K mg ρ H1 S->ay K mg ρ H1 ds vs->aV K mg (λC d H'=>W C d σ H') ρ H1 Q (sem ds S)->k vs H1):wd K mg W f σ H k:=by
 obtain⟨ρ,S,sl,w,r,p⟩:=h;exact⟨ρ,S,sl,w,r,eZ.mono (eZ.fJ p) λv H1 ⟨aA,S1,d,x1,aF,r1,_,p1⟩=>hk aA S1 H1 d v aF r1 p1⟩
end
section
variable{K:PySem.W.Frag}{mg:Str->Option Value}{ρ:List Addr}{H:Hp}{S:Store}
theorem Ext.gG{p:Addr}{o:HO}(hp:H p=none):Ext ρ H ρ (upd H p o):=⟨⟨[],by simp⟩,λa h n=>absurd h n,λa u n h=>.inl (by rw[upd_ne (ne_of_none h hp)];exact h)⟩
theorem aN.nin(w:aN K mg ρ H S){p:Addr}(hp:H p=none):p∉ρ:=λq=>w.tr p q hp
theorem kh.ext{av:List Addr}{H':Hp}(x:Ext ρ H av H'){a:Addr}{m:dH}(e:H' a=H a)(h:kh K mg ρ H a m):kh K mg av H' a m:=by
 cases m with
 |lst ds =>
  obtain⟨vs,h1,h2⟩:=h;exact⟨vs,e.trans h1,h2.ext x⟩
 |dct lk ks ds =>
  obtain⟨kvs,h1,h2,aH⟩:=h;refine⟨kvs,?_,h2.ext x,aH.ext x⟩;cases lk with
  |true =>
   rw[if_pos rfl]at h1 ⊢;rcases h1 with h1|⟨o,h1⟩
   .exact .inl (e.trans h1)
   .exact .inr ⟨o,e.trans h1⟩
  |false =>
   grind
 |er w ks ds =>
  obtain⟨hs,es,b9,vs,h1,h2,aH,bT⟩:=h;exact⟨hs,es,b9,vs,e.trans h1,h2,aH.ext x,bT.ext x⟩
 |ins c ns ds =>
  obtain⟨C,bM,fs,h0,h1,h2,aH⟩:=h;exact⟨C,bM,fs,h0,e.trans h1,h2,aH.ext x⟩
 |tab P q =>
  obtain⟨bU,ps,h1,h2,aH⟩:=h;refine⟨bU,ps,e.trans h1,h2,λpos lD hc=>?_⟩;obtain⟨c,aw,n,e2⟩:=aH pos lD hc;exact⟨c,aw,x.nin n e2,x.kept n e2 (by intros;nofun)⟩
 |dead=>exact trivial
theorem aN.gG(w:aN K mg ρ H S){p:Addr}{o:HO}(hp:H p=none):aN K mg ρ (upd H p o) S:=by
 have ne:∀a∈ρ,a≠p:=λa ha q=>w.nin hp (q▸ha);refine⟨w.len,w.nd,λa ha=>by rw[upd_ne (ne a ha)];exact w.tr a ha,λn a m aw e2=>?_⟩;have ha:a∈ρ:=jV aw;exact kh.ext (Ext.gG hp) (upd_ne (ne a ha)) (w.ob n a m aw e2)
theorem Ext.hand{p:Addr}{o:HO}(hp:H p=none):Ext ρ H (ρ++[p]) (upd H p o):=by
 refine⟨⟨[p],rfl⟩,λa h n=>?_,λa u n h=>.inl (by rw[upd_ne (ne_of_none h hp)];exact h)⟩;grind
theorem aN.hand(w:aN K mg ρ H S){p:Addr}{o:HO}{m:dH}(hp:H p=none)(hm:kh K mg (ρ++[p]) (upd H p o) p m):aN K mg (ρ++[p]) (upd H p o) (S++[m]):=by
 have ne:∀a∈ρ,a≠p:=λa ha q=>w.nin hp (q▸ha);refine⟨by simp[w.len],?_,λa ha=>?_,λn a fS aw e2=>?_⟩
 .refine List.nodup_append.mpr ⟨w.nd,by simp,λa ha b hb=>?_⟩
  grind
 .rcases nh.mp ha with ha|ha
  .rw[upd_ne (ne a ha)];exact w.tr a ha
  .rw[qA.mp ha,upd_same];simp
 .by_cases hn:n<ρ.length
  .rw[List.getElem?_append_left hn]at aw
   rw[List.getElem?_append_left (by rw[<-w.len];exact hn)]at e2;exact kh.ext (Ext.hand hp) (upd_ne (ne a (jV aw))) (w.ob n a fS aw e2)
  .have hl:=w.len
   grind
theorem yO{Wp:Value->Option Addr->Hp->Prop}{Q:VK}{ds:List D}{vs:List V}{p:Addr}(h:aV K mg Wp ρ H Q (.ok (.tup ds) S))(w:aN K mg ρ H S)(r:ay K mg ρ H ds vs)(hp:H p=none):Q (.ref p) (upd H p (.tup vs)):=by
 refine h (.ref p) ρ _ (Ext.gG hp) (w.gG hp) ?_;rw[Rep];exact⟨p,vs,rfl,.inl ⟨w.nin hp,upd_same⟩,r.ext (Ext.gG hp)⟩
theorem yP{Wp:Value->Option Addr->Hp->Prop}{Q:VK}{ds:List D}{vs:List V}{p:Addr}(h:aV K mg Wp ρ H Q (.ok (.lst ds) S))(w:aN K mg ρ H S)(r:ay K mg ρ H ds vs)(hp:H p=none):Q (.ref p) (upd H p (.lst vs)):=by
 refine h (.ref p) ρ _ (Ext.gG hp) (w.gG hp) ?_;rw[Rep];exact⟨p,vs,rfl,⟨w.nin hp,upd_same⟩,r.ext (Ext.gG hp)⟩
theorem L6{Wp:Value->Option Addr->Hp->Prop}{Q:VK}{ds:List D}{vs:List V}{p:Addr}(h:aV K mg Wp ρ H Q (.ok (.ptr S.length) (S++[.lst ds])))(w:aN K mg ρ H S)(r:ay K mg ρ H ds vs)(hp:H p=none):Q (.ref p) (upd H p (.lst vs)):=by
 refine h (.ref p) (ρ++[p]) _ (Ext.hand hp) (w.hand hp ⟨vs,upd_same,r.ext (Ext.hand hp)⟩) ?_;rw[Rep];exact⟨p,rfl,by rw[<-w.len];simp⟩
end
def bu:aB:=λds S=>if ds.length<=1000000 then .ok (.tup ds) S else .bad
def d_:aB:=λds S=>if ds.length<=1000000 then .ok (.lst ds) S else .bad
def oE:aB:=λds S=>if ds.length<=1000000 then .ok (.ptr S.length) (S++[.lst ds])else .bad
theorem jY{n:Nat}(h:n<=1000000):n<=sizeLine:=by rw[sizeLine_eq];omega
section
variable{X:Cx}{W:WX}{es:List Expr}{f:du}{pos:Pos}
theorem b6{x1}(h:gQ X W es f):E X W (.Tuple es x1 pos) (ak bu f):=by
 refine PE.imp (pe_tup h) λσ H Q q=>si q λρ S H1 ds vs w r p=>?_;unfold bu at p;split at p
 .rename_i hl
  exact⟨by rw[<-r.len];exact jY hl,λa ha=>yO p w r ha⟩
 .exact p.elim
theorem hE(h:gQ X W es f):E X W (.List es pos) (ak d_ f):=by
 refine PE.imp (pe_lst h) λσ H Q q=>si q λρ S H1 ds vs w r p=>?_;unfold d_ at p;split at p
 .rename_i hl
  exact⟨by rw[<-r.len];exact jY hl,λa ha=>yP p w r ha⟩
 .exact p.elim
theorem GD(h:gQ X W es f):E X W (.List es pos) (ak oE f):=by
 refine PE.imp (pe_lst h) λσ H Q q=>si q λρ S H1 ds vs w r p=>?_;unfold oE at p;split at p
 .rename_i hl
  exact⟨by rw[<-r.len];exact jY hl,λa ha=>L6 p w r ha⟩
 .exact p.elim
theorem c9{x:Str}{id:String}{sem:aB}{p:Pos}{e:Expr}{es:List Expr}(hc:iL X (.builtin id) sem)(hg:Gl X x)(hm:X.mg x=none)(bP:bootBuiltins x=some (.builtin id))(ha:gQ X W (e::es) f)(hn:x≠"__name__":=by decide)(gR:(x==("__debug__":Str))=false:=by decide)
  (he:starEach (e::es) X.env=(false,eval e X.env)::starEach es X.env:=by rfl) (fK:(backTo pos (starEach es X.env)).any (·.1)=false:=by rfl):E X W (.Call (.Name x p) (e::es) [] pos) (ak sem f):=by
 obtain⟨r,c,g⟩:=hc.go;exact PE.imp (pe_callB c hg hm bP ha hn gR he fK) λσ H Q q=>si q λρ S H1 ds vs w bY p=>g _ ρ H1 S ds vs Q w bY p
theorem jb{x:Str}{T:String}{sem:aB}{p:Pos}{e:Expr}{es:List Expr}(hc:iL X (.type T) sem)(hg:Gl X x)(hm:X.mg x=none)(bP:bootBuiltins x=some (.type T))(ha:gQ X W (e::es) f)(hn:x≠"__name__":=by decide)(gR:(x==("__debug__":Str))=false:=by decide)
  (he:starEach (e::es) X.env=(false,eval e X.env)::starEach es X.env:=by rfl) (fK:(backTo pos (starEach es X.env)).any (·.1)=false:=by rfl):E X W (.Call (.Name x p) (e::es) [] pos) (ak sem f):=by
 obtain⟨r,c,g⟩:=hc.go;exact PE.imp (pe_callTy c hg hm bP ha hn gR he fK) λσ H Q q=>si q λρ S H1 ds vs w bY p=>g _ ρ H1 S ds vs Q w bY p
end
def Out.toS{α:Type}(o:Out α)(sl:aT)(k:α->Store->SO):SO:=match o with
 | .ok a S=>k a S
 | .ex e S=>.ex e sl S
 | .bad=>.bad
def bG:SX:=λsl S=>.nx sl S
def SO.then(o:SO)(g:SX):SO:=match o with
 | .nx sl S=>g sl S
 |r=>r
def aL(f g:SX):SX:=λsl S=>(f sl S).then g
def km(f:aM):SX:=λsl S=>(f sl S).toS sl λ_ ao=>.nx sl ao
def a8(f:aM):SX:=λsl S=>(f sl S).toS sl λd ao=>.rt d ao
def bE(c:cJ)(f g:SX):SX:=λsl S=>(c sl S).toS sl λb ao=>if b=true then f sl ao else g sl ao
abbrev d4:=D->aT->Store->SO
def aP(i:Nat):d4:=λd sl S=>.nx (sl.set i (some d)) S
abbrev ib:=List D->aT->Store->SO
def gH:ib:=λds sl S=>match ds with
 |[]=>.nx sl S
 |_=>.bad
def c1(g:d4)(gs:ib):ib:=λds sl S=>match ds with
 |d::r=>(g d sl S).then (gs r)
 |[]=>.bad
def d8(S:Store):D->Option (List D)
 | .lst ds=>some ds
 | .ptr n=>match S[n]? with
  |some (.lst ds)=>some ds
  |_=>none
 |_=>none
def hj(gs:ib):d4:=λd sl S=>match d with
 | .tup ds=>gs ds sl S
 | .b8 ds=>gs ds sl S
 |_=>.bad
def bJ(f:aM)(g:d4):SX:=λsl S=>(f sl S).toS sl λd ao=>g d sl ao
def qM(i j:Nat)(f:du):SX:=λsl S=>(f sl S).toS sl λds ao=>match ds with
 |[d,e]=>.nx ((sl.set i (some d)).set j (some e)) ao
 |_=>.bad
def wj(c:cJ)(body:SX):Nat->SX
 |0,_,_=>.bad
 |n+1,sl,S=>(c sl S).toS sl λb ao=>if b=true then(match body sl ao with
  | .nx bK S2=>wj c body n bK S2
  | .ct bK S2=>wj c body n bK S2
  | .bk bK S2=>.nx bK S2
  |r=>r)else .nx sl ao
def wk:Nat:=1000000
def qN(c:cJ)(body:SX):SX:=wj c body wk
def mJ(G:Store->Prop)(g:d4)(body:SX):List D->SX
 |[],sl,S=>open Classical in if G S then .nx sl S else .bad
 |x::xs,sl,S=>open Classical in if G S then(match g x sl S with
  | .nx a' S1=>(match body a' S1 with
   | .nx bK S2=>mJ G g body xs bK S2
   | .ct bK S2=>mJ G g body xs bK S2
   | .bk bK S2=>.nx bK S2
   |r=>r)
  |_=>.bad)else .bad
abbrev gI:=aT->Store->Out (List D×(Store->Prop))
def uE(it:gI)(g:d4)(body:SX):SX:=λsl S=>(it sl S).toS sl λp ao=>mJ p.2 g body p.1 sl ao
section
variable{K:PySem.W.Frag}{mg:Str->Option Value}{ρ:List Addr}{H:Hp}{S:Store}
theorem cH.set{σ:L2.St}{sl:aT}(r:cH K mg ρ H σ sl){d:D}{v:V}(h:Rep K mg ρ H d v)(i:Nat):cH K mg ρ H (σ.set i (some v)) (sl.set i (some d)):=by
 refine⟨by simp[r.len],λj e q=>?_⟩;by_cases cK:j=i
 .subst cK
  by_cases hl:j<sl.length
  .rw[mz hl]at q
   cases q;exact⟨v,mz (by rw[r.len];exact hl),h⟩
  grind
 .rw[lx (g8 cK)]at q ⊢
  exact r.at_ j e q
theorem bV.seq{W:WX}{eE:Ends}{o:SO}{g:SX}(h:bV K mg W ρ H eE (o.then g)):bV K mg W ρ H { eE with nx:=λσ H'=>wg K mg W g eE σ H' } o:=by
 cases o with
 |nx sl S=>exact λσ aO aD y w r=>⟨aO,S,sl,w,r,bV.from y h⟩
 |bk sl S=>exact h
 |ct sl S=>exact h
 |rt d S=>exact h
 |ex e sl S=>exact h
 |bad=>exact h
theorem bV.BW{W:WX}{eE:Ends}{σ:L2.St}{sl:aT}{o:Out D}{k:D->Store->SO}(rs:cH K mg ρ H σ sl)(h:bV K mg W ρ H eE (o.toS sl k)) :
  aV K mg (λC d H'=>W C d σ H') ρ H (λv H1=>∃aA S1 d,aN K mg aA H1 S1/\cH K mg aA H1 σ sl/\Rep K mg aA H1 d v/\bV K mg W aA H1 eE (k d S1)) o:=by
 cases o with
 |ok d S=>exact λv aO aD y w r=>⟨aO,S,d,w,rs.ext y,r,bV.from y h⟩
 |ex e S=>exact λC dd aO aD y w r=>h C dd σ aO aD y w (rs.ext y) r
 |bad=>exact h
theorem bV.ac7{W:WX}{eE:Ends}{σ:L2.St}{sl:aT}{o:Out (List D)}{k:List D->Store->SO}(rs:cH K mg ρ H σ sl)(h:bV K mg W ρ H eE (o.toS sl k)) :
  eZ K mg (λC d H'=>W C d σ H') ρ H (λv H1=>∃aA S1 d,aN K mg aA H1 S1/\cH K mg aA H1 σ sl/\ay K mg aA H1 d v/\bV K mg W aA H1 eE (k d S1)) o:=by
 cases o with
 |ok d S=>exact λv aO aD y w r=>⟨aO,S,d,w,rs.ext y,r,bV.from y h⟩
 |ex e S=>exact λC dd aO aD y w r=>h C dd σ aO aD y w (rs.ext y) r
 |bad=>exact h
theorem bV.U7{W:WX}{eE:Ends}{σ:L2.St}{sl:aT}{o:Out Bool}{k:Bool->Store->SO}(rs:cH K mg ρ H σ sl)(h:bV K mg W ρ H eE (o.toS sl k)) :
  gk K mg (λC d H'=>W C d σ H') ρ H (λb H1=>∃aA S1,aN K mg aA H1 S1/\cH K mg aA H1 σ sl/\bV K mg W aA H1 eE (k b S1)) o:=by
 cases o with
 |ok d S=>exact λaO aD y w=>⟨aO,S,w,rs.ext y,bV.from y h⟩
 |ex e S=>exact λC dd aO aD y w r=>h C dd σ aO aD y w (rs.ext y) r
 |bad=>exact h
theorem GF{W:WX}{eE:Ends}{σ:L2.St}{sl:aT}(h:bV K mg W ρ H eE (.nx sl S))(w:aN K mg ρ H S)(r:cH K mg ρ H σ sl):eE.nx σ H:=h σ ρ H Ext.refl w r
end
section
variable{X:Cx}{W:WX}{st:Stmt}{rest:List Stmt}{f g:SX}{e:Expr}{fe:aM}{pos:Pos}
theorem cW:gm X W [] bG:=PSs.imp pss_nil λD σ H ⟨ρ,S,sl,w,rs,p⟩=>GF p w rs
theorem bg(h:ES X W st f):gm X W [st] f:=pss_one h
theorem a9(h:ES X W st f)(hr:gm X W rest g):gm X W (st::rest) (aL f g) :=
 PSs.imp (pss_cons h hr) λD σ H ⟨ρ,S,sl,w,rs,p⟩=>⟨ρ,S,sl,w,rs,bV.seq p⟩
theorem wm(he:E X W e fe)(hs:swapsWith e none pos.line X.env=pure false:=by rfl):ES X W (.Expr e pos) (km fe) :=
 PS.imp (ps_expr he hs) λD σ H ⟨ρ,S,sl,w,rs,p⟩=>⟨ρ,S,sl,w,rs,aV.mono (bV.BW rs p) λv H1 ⟨aA,S1,d,aF,r1,_,p1⟩=>GF p1 aF r1⟩
theorem bQ(he:E X W e fe):ES X W (.Return (some e) pos) (a8 fe) :=
 PS.imp (ps_ret he) λD σ H ⟨ρ,S,sl,w,rs,p⟩=>⟨ρ,S,sl,w,rs,aV.mono (bV.BW rs p) λv H1 ⟨aA,S1,d,aF,r1,aW,p1⟩=>p1 v aA H1 Ext.refl aF aW⟩
theorem cO{c:Expr}{ga:cJ}{a b:List Stmt}(hc:kO X W c ga)(ha:gm X W a f)(hb:gm X W b g):ES X W (.If c a b pos) (bE ga f g):=by
 refine PS.imp (ps_if hc ha hb) λD σ H ⟨ρ,S,sl,w,rs,p⟩=>⟨ρ,S,sl,w,rs,gk.mono (bV.U7 rs p) λk H1 ⟨aA,S1,aF,r1,p1⟩=>?_⟩
 cases k with
 |true=>exact⟨aA,S1,sl,aF,r1,p1⟩
 |false=>exact⟨aA,S1,sl,aF,r1,p1⟩
def ac8(K:PySem.W.Frag)(mg:Str->Option Value)(W:WX)(g:d4):TG:=λv σ H Q=>∃ρ S sl d,aN K mg ρ H S/\cH K mg ρ H σ sl/\Rep K mg ρ H d v/\bV K mg W ρ H ⟨Q,λ_ _=>False,λ_ _=>False,λ_ _=>False⟩ (g d sl S)
def ac9(K:PySem.W.Frag)(mg:Str->Option Value)(W:WX)(g:ib):TGs:=λv σ H Q=>∃ρ S sl d,aN K mg ρ H S/\cH K mg ρ H σ sl/\ay K mg ρ H d v/\bV K mg W ρ H ⟨Q,λ_ _=>False,λ_ _=>False,λ_ _=>False⟩ (g d sl S)
def yQ(X:Cx)(W:WX)(tg:Expr)(g:d4):Prop:=PG X tg (ac8 X.K X.mg W g)
def GH(X:Cx)(W:WX)(tg:List Expr)(g:ib):Prop:=PGs X tg (ac9 X.K X.mg W g)
theorem PG.imp{tg:Expr}{t t':TG}(h:PG X tg t)(k:∀v σ H Q,t' v σ H Q->t v σ H Q):PG X tg t':=⟨λpins s σ H v u Q I r q=>h.run pins s σ H v u Q I r (k v σ H Q q)⟩
theorem PGs.imp{tg:List Expr}{t t':TGs}(h:PGs X tg t)(k:∀v σ H Q,t' v σ H Q->t v σ H Q):PGs X tg t':=⟨λpins s σ H v u Q I r q=>h.run pins s σ H v u Q I r (k v σ H Q q)⟩
theorem qO{i:Nat}{x:Str}(gF:X.N.Nodup)(hi:X.N[i]?=some x:=by rfl)(hx:Loc X.env.scope x:=by first|exact Or.inl rfl|exact Or.inr rfl)(hf:X.fn x=true\/X.env.scope.names.lookup x=some .local:=by first|exact .inl rfl|exact .inr rfl):yQ X W (.Name x pos) (aP i) :=
 PG.imp (pg_name gF hi hx hf) λv σ H Q ⟨ρ,S,sl,d,w,rs,aW,p⟩=>p _ ρ H Ext.refl w (rs.set aW i)
theorem GJ:GH X W [] gH:=PGs.imp pgs_nil λv σ H Q ⟨ρ,S,sl,ds,w,rs,aW,p⟩=>by
 cases ds with
 |nil =>
  rw[ay]at aW;exact⟨aW,p _ ρ H Ext.refl w rs⟩
 |cons d r=>exact p.elim
theorem sj{t:Expr}{ts:List Expr}{g:d4}{gs:ib}(h:yQ X W t g)(hr:GH X W ts gs)(hs:(assignEach (t::ts) X.env).map (·.2)=assign t X.env::(assignEach ts X.env).map (·.2):=by rfl):GH X W (t::ts) (c1 g gs) :=
 PGs.imp (pgs_cons h hr hs) λv σ H Q ⟨ρ,S,sl,ds,w,rs,aW,p⟩=>by
  cases ds with
  |nil=>exact p.elim
  |cons d r =>
   rw[ay]at aW;obtain⟨v1,L7,e,h1,h2⟩:=aW;subst e;refine⟨v1,L7,rfl,ρ,S,sl,d,w,rs,h1,?_⟩;have p:bV X.K X.mg W ρ H ⟨Q,λ_ _=>False,λ_ _=>False,λ_ _=>False⟩ ((g d sl S).then (gs r)):=p;cases q:g d sl S with
   |nx a' S1 =>
    rw[q]at p;exact λiO aA H1 x1 aF r1=>⟨aA,S1,a',r,aF,r1,h2.ext x1,bV.from x1 p⟩
   |bk a' S1=>rw[q]at p;exact p
   |ct a' S1=>rw[q]at p;exact p
   |rt ny S1=>rw[q]at p;exact p
   |ex aw a' S1=>rw[q]at p;exact p
   |bad=>rw[q]at p;exact p
theorem GN{es:List Expr}{k:Nat}{gs:ib}{n:Nat}(hc:X.calm=true)(h:GH X W es gs)(hl:∀ds sl S,gs ds sl S≠.bad->ds.length=n)(hn:(assignEach es X.env).length=n:=by rfl)(eG:(assignEach es X.env).findIdx? (·.1)=none:=by rfl):yQ X W (.Tuple es k pos) (hj gs) :=
 PG.imp (pg_tup hc h hn eG) λv σ H Q ⟨ρ,S,sl,d,w,rs,aW,p⟩=>by
  cases d with
  |tup ds =>
   rw[Rep]at aW;obtain⟨a,vs,e,t,r⟩:=aW;have p:bV X.K X.mg W ρ H ⟨Q,λ_ _=>False,λ_ _=>False,λ_ _=>False⟩ (gs ds sl S):=p;exact⟨a,vs,e,t.eQ,by rw[<-r.len];exact hl ds sl S (λq=>by rw[q]at p;exact p),ρ,S,sl,ds,w,rs,r,p⟩
  |b8 ds =>
   rw[Rep]at aW;obtain⟨a,vs,e,t,r⟩:=aW;have p:bV X.K X.mg W ρ H ⟨Q,λ_ _=>False,λ_ _=>False,λ_ _=>False⟩ (gs ds sl S):=p;exact⟨a,vs,e,t.eQ,by rw[<-r.len];exact hl ds sl S (λq=>by rw[q]at p;exact p),ρ,S,sl,ds,w,rs,r,p⟩
  |_=>exact p.elim
theorem wo(ds:List D)(sl:aT)(S:Store)(h:gH ds sl S≠.bad):ds.length=0:=by
 cases ds with
 |nil=>rfl
 |cons _ _=>exact absurd rfl h
theorem ada{g:d4}{gs:ib}{n:Nat}(hr:∀ds sl S,gs ds sl S≠.bad->ds.length=n)(hg:∀d sl S,(∃eH ao,g d sl S=.nx eH ao)\/g d sl S=.bad)(ds:List D)(sl:aT)(S:Store)(h:c1 g gs ds sl S≠.bad):ds.length=n+1:=by
 cases ds with
 |nil=>exact absurd rfl h
 |cons d r =>
  rcases hg d sl S with⟨eH,ao,e⟩|e
  .have:c1 g gs (d::r) sl S=gs r eH ao:=by show(g d sl S).then (gs r)=_;rw[e];rfl
   grind
  .exact absurd (show c1 g gs (d::r) sl S=.bad by show(g d sl S).then (gs r)=_;rw[e];rfl) h
theorem hG(i:Nat)(d:D)(sl:aT)(S:Store):(∃eH ao,aP i d sl S=.nx eH ao)\/aP i d sl S=.bad:=.inl ⟨_,_,rfl⟩
theorem sk{tg:Expr}{g:d4}(he:E X W e fe)(hg:yQ X W tg g)(hb:∀d sl S,(∃eH ao,g d sl S=.nx eH ao)\/g d sl S=.bad)(hs:swapsWithSole [tg] e pos.line X.env=pure false:=by rfl)(hw:swappedStores [tg] e X.env=pure none:=by rfl)
  (h1:(assignEach [tg] X.env).map (·.2)=[assign tg X.env]:=by rfl):ES X W (.Assign [tg] e pos) (bJ fe g) :=
 PS.imp (ps_asg he hg hs hw h1) λD σ H ⟨ρ,S,sl,w,rs,p⟩=>⟨ρ,S,sl,w,rs,aV.mono (bV.BW rs p) λv H1 ⟨aA,S1,d,aF,r1,aW,p1⟩=>⟨aA,S1,sl,d,aF,r1,aW,by
  rcases hb d sl S1 with⟨eH,ao,q⟩|q
  .rw[q]at p1 ⊢;exact p1
  .rw[q]at p1;exact p1.elim⟩⟩
theorem dY{i:Nat}{x:Str}{pos':Pos}(gF:X.N.Nodup)(he:E X W e fe)(hi:X.N[i]?=some x:=by rfl)(hx:Loc X.env.scope x:=by first|exact Or.inl rfl|exact Or.inr rfl)(hs:swapsWith e (some (.Name x pos')) pos.line X.env=pure false:=by rfl)
  (hf:X.fn x=true\/X.env.scope.names.lookup x=some .local:=by first|exact .inl rfl|exact .inr rfl):ES X W (.Assign [.Name x pos'] e pos) (bJ fe (aP i)) :=
 PS.imp (ps_set gF hi hx he hs hf) λD σ H ⟨ρ,S,sl,w,rs,p⟩=>⟨ρ,S,sl,w,rs,aV.mono (bV.BW rs p) λv H1 ⟨aA,S1,d,aF,r1,aW,p1⟩=>p1 _ aA H1 Ext.refl aF (r1.set aW i)⟩
theorem BX{i j:Nat}{x y:Str}{a b:Expr}{fa:du}{L8 py pt:Pos}{kt cX L_}(hc:X.calm=true)(gF:X.N.Nodup)(ha:gQ X W [a,b] fa)(hi:X.N[i]?=some x:=by rfl)(cK:X.N[j]?=some y:=by rfl)(adb:i≠j:=by decide)
  (hx:X.env.scope.names.lookup x=some .local:=by rfl) (bD:X.env.scope.names.lookup y=some .local:=by rfl)
  (hw:swappedStores [.Tuple [.Name x L8,.Name y py] kt pt] (.Tuple [a,b] cX L_) X.env=pure (some [x,y]):=by rfl)
  (hs:swapsWithSole [.Tuple [.Name x L8,.Name y py] kt pt] (.Tuple [a,b] cX L_) pos.line X.env=pure false:=by rfl) :
  ES X W (.Assign [.Tuple [.Name x L8,.Name y py] kt pt] (.Tuple [a,b] cX L_) pos) (qM i j fa) :=
 PS.imp (ps_par hc gF hi cK adb hx bD ha hw hs) λD σ H ⟨ρ,S,sl,w,rs,p⟩=>⟨ρ,S,sl,w,rs,eZ.mono (bV.ac7 rs p) λvs H1 ⟨aA,S1,ds,aF,r1,aW,p1⟩=>by
  match ds,aW,p1 with
  |[d,e],aW,p1 =>
   rw[ay]at aW;obtain⟨v,r,aw,h1,h2⟩:=aW;rw[ay]at h2;obtain⟨u,r2,e2,aH,bT⟩:=h2;rw[ay]at bT;subst bT e2 aw;exact⟨v,u,rfl,p1 _ aA H1 Ext.refl aF ((r1.set h1 i).set aH j)⟩
  |[],_,p1=>exact p1.elim
  |[_],_,p1=>exact p1.elim
  |_::_::_::_,_,p1=>exact p1.elim⟩
theorem BZ{c:Expr}{ga:cJ}{body:List Stmt}(hp:PassesOwn (model X.prog X.w) X.A X.env X.xe)(hc:kO X W c ga)(hb:gm X W body f):ES X W (.While c body [] pos) (qN ga f):=by
 refine PS.imp (ps_while hp hc hb) λD σ H ⟨ρ,S,sl,w,rs,p⟩=>?_;refine⟨λm σ H=>∃ρ S sl,aN X.K X.mg ρ H S/\cH X.K X.mg ρ H σ sl/\bV X.K X.mg W ρ H D (wj ga f m sl S),⟨wk,ρ,S,sl,w,rs,p⟩,?_⟩;rintro m σ H ⟨ρ,S,sl,w,rs,p⟩;cases m with
 |zero=>exact p.elim
 |succ m =>
  refine⟨ρ,S,sl,w,rs,gk.mono (bV.U7 rs p) λk H1 ⟨aA,S1,aF,r1,p1⟩=>?_⟩;cases k with
  |false=>exact GF p1 aF r1
  |true =>
   rw[if_pos rfl]at p1 ⊢;refine⟨λbA H'=>∃ρ S sl,aN X.K X.mg ρ H' S/\cH X.K X.mg ρ H' bA sl/\bV X.K X.mg W ρ H' D (wj ga f m sl S),λbA H' n=>⟨m,uk m,n⟩,aA,S1,sl,aF,r1,?_⟩;cases q:f sl S1 with
   |nx bK S2=>rw[q]at p1;exact λσ aO aD y w r=>⟨aO,S2,bK,w,r,bV.from y p1⟩
   |ct bK S2=>rw[q]at p1;exact λσ aO aD y w r=>⟨aO,S2,bK,w,r,bV.from y p1⟩
   |bk bK S2=>rw[q]at p1;exact p1
   |rt d S2=>rw[q]at p1;exact p1
   |ex e bK S2=>rw[q]at p1;exact p1
   |bad=>rw[q]at p1;exact p1
end
structure yR(K:PySem.W.Frag)(mg:Str->Option Value)(J:It)(ds:List D)(G:Store->Prop)(kn:List Addr)(fL:Hp):Prop where
 go:∀(i:Nat) ρ H S,i<ds.length->Ext kn fL ρ H->aN K mg ρ H S->G S->J.go i H
 stop:∀ρ H S,Ext kn fL ρ H->aN K mg ρ H S->G S->J.stop ds.length H
 yld:∀(i:Nat) ρ H S x H',i<ds.length->Ext kn fL ρ H->aN K mg ρ H S->G S->J.yld i H x H'->∃d,ds[i]?=some d/\Ext ρ H ρ H'/\aN K mg ρ H' S/\Rep K mg ρ H' d x
def gS(K:PySem.W.Frag)(mg:Str->Option Value)(W:Value->Option Addr->Hp->Prop)(ρ:List Addr)(H:Hp)(R:It->Hp->Prop):Out (List D×(Store->Prop))->Prop
 | .ok p ao=>∀av H' J,Ext ρ H av H'->aN K mg av H' ao->yR K mg J p.1 p.2 av H'->R J H'
 | .ex e ao=>∀C dd av H',Ext ρ H av H'->aN K mg av H' ao->oA K mg av H' e C dd->W C dd H'
 | .bad=>False
def B1(K:PySem.W.Frag)(mg:Str->Option Value)(W:WX)(it:gI):TI:=λσ H R=>∃ρ S sl,aN K mg ρ H S/\cH K mg ρ H σ sl/\gS K mg (λC d H'=>W C d σ H') ρ H R (it sl S)
def wq(X:Cx)(W:WX)(tg it:Expr)(f:gI):Prop:=PI X tg it (B1 X.K X.mg W f)
theorem PI.imp{X:Cx}{tg e:Expr}{t t':TI}(h:PI X tg e t)(k:∀σ H R,t' σ H R->t σ H R):PI X tg e t':=⟨λpins s σ H R I q=>h.run pins s σ H R I (k σ H R q)⟩
section
variable{X:Cx}{W:WX}{f:SX}{pos:Pos}
theorem ade{tg iter:Expr}{body:List Stmt}{it:gI}{g:d4}(hp:PassesOwn (model X.prog X.w) X.A X.env X.xe)(hc:X.calm=true)(hi:wq X W tg iter it)(hg:yQ X W tg g)(hb:gm X W body f)
  (hs:∀x,foldedSetIterable iter X.env x=pure x:=by intro _;rfl):ES X W (.For tg iter body [] pos) (uE it g f):=by
 refine PS.imp (ps_for hp hc hi hg hb hs) λD σ H ⟨ρ,S,sl,w,rs,p⟩=>?_;have p:bV X.K X.mg W ρ H D ((it sl S).toS sl λp ao=>mJ p.2 g f p.1 sl ao):=p;refine⟨ρ,S,sl,w,rs,?_⟩;cases q:it sl S with
 |bad=>rw[q]at p;exact p
 |ex e S1=>rw[q]at p;exact λC dd aO aD y w r=>p C dd σ aO aD y w (rs.ext y) r
 |ok pr S1 =>
  rw[q]at p;intro aA H1 J x1 aF wt;obtain⟨ds,G⟩:=pr;have p1:bV X.K X.mg W aA H1 D (mJ G g f ds sl S1):=bV.from x1 p;refine⟨λi m bA H'=>i+m=ds.length/\∃av ao eH,Ext aA H1 av H'/\aN X.K X.mg av H' ao/\cH X.K X.mg av H' bA eH/\bV X.K X.mg W av H' D (mJ G g f (ds.drop i) eH ao),
   ⟨ds.length,by simp,aA,S1,sl,Ext.refl,aF,rs.ext x1,by grind⟩,?_⟩
  rintro i m kQ aD ⟨hm,aO,S2,bK,x2,cm,r2,p2⟩;cases m with
  |zero =>
   have hi:i=ds.length:=by omega
   subst hi;rw[List.drop_length]at p2;have p2:bV X.K X.mg W aO aD D (open Classical in if G S2 then .nx bK S2 else .bad):=p2;by_cases cP:G S2
   .rw[if_pos cP]at p2
    exact .inl ⟨wt.stop aO aD S2 x2 cm cP,GF p2 cm r2⟩
   .rw[if_neg cP]at p2;exact p2.elim
  |succ m =>
   have c6:i<ds.length:=by omega
   have hd:ds.drop i=ds[i]::ds.drop (i+1):=(Kz c6).symm;rw[hd]at p2;have p2:bV X.K X.mg W aO aD D (open Classical in if G S2 then(match g ds[i] bK S2 with
    | .nx a' S1=>(match f a' S1 with
     | .nx bK S2=>mJ G g f (ds.drop (i+1)) bK S2
     | .ct bK S2=>mJ G g f (ds.drop (i+1)) bK S2
     | .bk bK S2=>.nx bK S2
     |r=>r)
    |_=>.bad)else .bad):=p2
   by_cases cP:G S2
   .rw[if_pos cP]at p2
    refine .inr ⟨wt.go i aO aD S2 c6 x2 cm cP,λbA H'=>∃av ao eH,Ext aA H1 av H'/\aN X.K X.mg av H' ao/\cH X.K X.mg av H' bA eH/\bV X.K X.mg W av H' D (mJ G g f (ds.drop (i+1)) eH ao),λbA H' n=>⟨m,uk m,by omega,n⟩,?_⟩;intro x hT y;obtain⟨d,e,b0,ia,cg⟩:=wt.yld i aO aD S2 x hT c6 x2 cm cP y;have ed:d=ds[i]:=by rw[pE c6]at e;exact(Option.some.inj e).symm
    subst ed;refine⟨aO,S2,bK,ds[i],ia,r2.ext b0,cg,?_⟩;cases bN:g ds[i] bK S2 with
    |nx uF bR =>
     rw[bN]at p2;intro atV uD kl c0 sg dk;refine⟨uD,bR,uF,sg,dk,?_⟩;have d3:=bV.from (b0.trans c0) p2;have xx:=x2.trans (b0.trans c0);cases b3:f uF bR with
     |nx qP dO=>simp only[b3]at d3;exact λwu nz qQ oF lF iP=>⟨nz,dO,qP,xx.trans oF,lF,iP,bV.from oF d3⟩
     |ct qP dO=>simp only[b3]at d3;exact λwu nz qQ oF lF iP=>⟨nz,dO,qP,xx.trans oF,lF,iP,bV.from oF d3⟩
     |bk qP dO=>simp only[b3]at d3;exact d3
     |rt atW dO=>simp only[b3]at d3;exact d3
     |ex e5 qP dO=>simp only[b3]at d3;exact d3
     |bad=>simp only[b3]at d3;exact d3
    |bk uF bR=>rw[bN]at p2;exact p2.elim
    |ct uF bR=>rw[bN]at p2;exact p2.elim
    |rt adf bR=>rw[bN]at p2;exact p2.elim
    |ex dA uF bR=>rw[bN]at p2;exact p2.elim
    |bad=>rw[bN]at p2;exact p2.elim
   .rw[if_neg cP]at p2;exact p2.elim
end
open PySem PySem.Spec L2 PyProof.Rows
inductive Chain (B:Heap) (H:Hp):Value->Prop
 |nil:Chain B H .none
 |cons {b:Addr} {o:Obj} {vs:Array Value} {c:Value} (h:B.get? b=some o) (n:H b=none) (hd:o.data=.fields vs) (hc:vs[2]?=some c) (r:Chain B H c):Chain B H (.ref b)
def gT(B:Heap)(H:Hp)(cls:Value)(d:Option Addr):Obj->Prop:=λo=>o.cls=cls/\o.dict=d/\∀vs,o.data=.fields vs->∃c,vs[2]?=some c/\Chain B H c
theorem adg{B:Heap}{H:Hp}:PXN.Steady1 (λo=>∀vs,o.data=.fields vs->∃c,vs[2]?=some c/\Chain B H c):=λo v h=>by
 obtain⟨c,d,GO,sl⟩:=o;cases GO with
 |fields adh =>
  intro vs e;have e2:adh.setIfInBounds 1 v=vs:=Data.fields.inj e;grind
 |_ =>
  intro vs e
  first
  |exact Data.noConfusion e
  |cases e
section
variable{B:Heap}{H:Hp}{cls:Value}{d:Option Addr}{o:Obj}
theorem gT.steady:PXN.Steady1 (gT B H cls d):=λo v h=>⟨PXN.steady_cls o v h.1,PXN.steady_dict o v h.2.1,adg o v h.2.2⟩
theorem gT.zc(h:gT B H cls d o):Zc cls d o:=⟨h.1,h.2.1⟩
theorem gT.adi(h:L2N.Zn cls d o):gT B H cls d o:=⟨h.1,h.2.1,λvs e=>⟨.none,h.2.2 vs e,.nil⟩⟩
theorem Chain.to{B2:Heap}{H':Hp}{v:Value}(c:Chain B H v)(k:∀b o vs,B.get? b=some o->H b=none->o.data=.fields vs->B2.get? b=some o/\H' b=none):Chain B2 H' v:=by
 induction c with
 |nil=>exact .nil
 |cons h n hd hc r ih =>
  obtain⟨h',mF⟩:=k _ _ _ h n hd;exact .cons h' mF hd hc ih
theorem gT.to{B2:Heap}{H':Hp}(z:gT B H cls d o)(k:∀b o vs,B.get? b=some o->H b=none->o.data=.fields vs->B2.get? b=some o/\H' b=none):gT B2 H' cls d o:=⟨z.1,z.2.1,λvs e=>by
 obtain⟨c,h1,h2⟩:=z.2.2 vs e;exact⟨c,h1,h2.to k⟩⟩
end
def XE(X:Cx)(W:WX)(u:Value)(s':Shared):Prop :=
 ∃(a:Addr) (B:Heap) (dP:Shared) (pins:List (Addr×Obj)) (σ:L2.St) (H:Hp) (cls:Value) (d:Option Addr),
  u=.ref a/\Inv X pins σ H dP/\(∀b o,dP.heap.get? b=some o->b∉frs X.stack->B.get? b=some o)/\dP.heap.UpToSlots s'.heap /\
   Sky B X.stack a (gT B H cls d) X.env.locals s'.heap/\H a=none/\s'.os=dP.os/\AllBare s'.gens/\W cls d σ H
def Takes(X:Cx)(W:WX):Prop:=∀u s',XE X W u s'->X.xe u s'
def CX(P:Program)(w:World)(outer:List Env)(H:Hp)(s:Shared)(E:XK)(u:Value)(s':Shared):Prop :=
 ∃(a:Addr) (B:Heap) (H':Hp) (cls:Value) (d:Option Addr),u=.ref a/\HandSPX.FlyingZ B outer a (gT B H' cls d) s'.heap/\HOk P w H' B/\UB (frs outer) H H' s.heap B s'.heap/\H' a=none/\s'.os=s.os/\AllBare s'.gens/\E cls d H'
section
variable{X:Cx}{pins:List (Addr×Obj)}{σ:L2.St}{H:Hp}{dP s s':Shared}{B:Heap}{W:WX}{E:XK}
theorem XE.of_call(I:Inv X pins σ H s)(sq:∀cls d H',E cls d H'->W cls d σ H'){u:Value}(c:Z.CX X.prog X.w X.stack H s E u s'):Z.XE X W u s':=by
 obtain⟨a,B,H',cls,d,rfl,fl,hok,ub,na,os,jc,lG⟩:=c;obtain⟨G,g1,g2⟩:=restrict s'.heap λb=>(B.get? b).isSome||decide (b∈frs X.stack)
 have st:B.StaysIn s'.heap:=fl.1;have oG:∀b o,B.get? b=some o->G.get? b=some o:=λb o e=>by
  rw[g1 b (by simp[e])];exact st b o e
 have atX:∀b,b∈frs X.stack->G.get? b=s'.heap.get? b:=λb hb=>g1 b (by simp[hb]);have U8:∀b o,G.get? b=some o->s'.heap.get? b=some o/\((B.get? b).isSome=true\/b∈frs X.stack):=λb o e=>by
  grind
 refine⟨a,B,{ s with heap:=G,gens:=s'.gens,drawn:=s'.drawn,toks:=s'.toks },pins,σ,H',cls,d,rfl,?_,λb o e hb=>?_,Heap.UpToSlots.of_keeps λb o e=>(U8 b o e).1,.inr (.inl fl),na,os,jc,sq _ _ _ lG⟩
 .refine I.call (ch:=[]) ⟨λb o e n hb _=>oG b o (ub.keep b o e n hb),λb o e n hb _=>?_,λb o e n _=>ub.free b o e n,λb o e _=>?_,ub.tups,ub.frzs,ub.tbls⟩ (hok.kept oG) jc (λ_ z=>nomatch z)
  .obtain⟨sl,q⟩:=ub.slot b o e hb
   grind
  .by_cases hb:b∈frs X.stack
   .obtain⟨sl,q⟩:=ub.slot b o e hb
    grind
   .obtain⟨e6,q⟩:=ub.there b o e hb
    grind
 .obtain⟨cN,h⟩:=U8 b o e
  rcases h with h|h
  .obtain⟨e6,q⟩:=Option.isSome_iff_exists.mp h
   grind
  grind
theorem XE.new{a:Addr}{dI:Obj}{vs:Array Value}{cls:Value}{d:Option Addr}(I:Inv X pins σ H dP)(k:∀b o,dP.heap.get? b=some o->s'.heap.get? b=some o)(d5:dP.heap.get? a=none)(he:s'.heap.get? a=some dI)
  (hz:gT (PySem.W.hideAll dP.heap (frs X.stack)) H cls d dI) (hd:dI.data=.fields vs) (h1:vs[1]?=some .none) (na:H a=none) (os:s'.os=dP.os) (jc:AllBare s'.gens) (w:W cls d σ H):Z.XE X W (.ref a) s':=by
 refine⟨a,PySem.W.hideAll dP.heap (frs X.stack),dP,pins,σ,H,cls,d,rfl,I,λb o e hb=>PySem.W.hideAll_get _ e hb,Heap.UpToSlots.of_keeps k,
  .inl ⟨λb o e=>k b o (PySem.W.of_hideAll _ e),?_,?_,dI,vs,he,hz,hd,h1⟩,na,os,jc,w⟩
 .cases q:(PySem.W.hideAll dP.heap (frs X.stack)).get? a with
  |none=>rfl
  |some o =>
   have z:=PySem.W.of_hideAll _ q;grind
 .exact Heap.FunFrames.of_keeps (λb o e _=>⟨o,k b o e,rfl⟩) (funFrames_none I.stack λb hb=>PySem.W.hideAll_none _ hb)
theorem XE.leave(hs:X.stack=X.env::X.outer)(hf:X.env.frame=some X.env.locals)(hex:X.ex=[]){E₁:Value->Shared->Prop}(sq:∀cls d σ H,W cls d σ H->E cls d H){u:Value}(x:Z.XE X W u s') :
  wpAny (model X.prog X.w) X.A (leaving X.env u) (λ_ jZ=>Z.CX X.prog X.w X.outer X.H_0 X.s_0 E u jZ) E₁ s':=by
 obtain⟨a,B,dP,pins,σ,H,cls,d,rfl,I,nb,up,sr,na,os,jc,w⟩:=x;have gU:X.A.frames=some (X.env::X.outer):=by rw[I.ok.frames,hs]
 have adj:∀b o,X.s_0.heap.get? b=some o->b∉X.fs->b∉frs X.stack:=λb o e hb hm=>by
  rcases fQ.mp (I.stkSub b hm)with z|z
  .have h1:=Heap.lt_size e
   have h2:=I.ok.above;grind
  .exact hb z
 have GP:∀b,b∉X.ex:=λb hb=>by grind
 have L':=I.inGround nb;have fin:∀h',HandSPX.FlyingZ B X.outer a (gT B H cls d) h'->s'.heap.UpToSlots h'->Z.CX X.prog X.w X.outer X.H_0 X.s_0 E (.ref a) { s' with heap:=h' }:=λh' fl Ma=>by
  refine⟨a,B,H,cls,d,rfl,fl,L',⟨λb o e n hb=>nb b o (I.base.keep b o e n hb (GP b)) (adj b o e hb),λb o e hb=>?_,λb o e n=>I.base.free b o e n (GP b),λb o e hb=>?_,I.base.tups,I.base.frzs,I.base.tbls⟩,
   na,os.trans I.os,jc,sq _ _ _ _ w⟩
  .obtain⟨_,atY,e₀,GU⟩:=I.ok.funs.mem hb
   rw[e]at e₀;cases e₀;obtain⟨sl,aw⟩:=I.base.slot b o e (I.ok.frf b hb) hb (GP b);obtain⟨bK,e2⟩:=up b _ aw GU;obtain⟨atZ,a6⟩:=Ma b _ e2 GU;grind
  .obtain⟨e6,aw⟩:=I.base.there b o e (GP b)
   grind
 rw[hs]at sr;rcases sr with⟨dx,hn,hl,dI,vs,he,hz,hd,h1⟩|fl|hd
 .exact PXN.leaving_firstZ gT.steady gU hl hf he dx hn hd h1 hz fin
 .exact PXN.leaves_onZ gT.steady gU hf fl fin
 .exact HandSPX.leaves_heldZ hf hd fin
theorem takes_of(hs:X.stack=X.env::X.outer)(hf:X.env.frame=some X.env.locals)(hex:X.ex=[]){E₁:Value->Shared->Prop}
  (hx:X.xe=λe s'=>wpAny (model X.prog X.w) X.A (leaving X.env e) (λ_ jZ=>Z.CX X.prog X.w X.outer X.H_0 X.s_0 E e jZ) E₁ s'):Takes X (λcls d _ H=>E cls d H):=λu s' x=>by
 rw[hx];exact XE.leave (W:=λcls d _ H=>E cls d H) (E:=E) hs hf hex (λ_ _ _ _ h=>h) x
theorem su(tk:Takes X W)(σ:L2.St):PassesAt (Z.CX X.prog X.w) X σ (WE W σ):=λ_ _ _ e s' I c=>tk e s' (XE.of_call I (λ_ _ _ h=>h) c)
end
theorem adk{X:Cx}{W:WX}{e:Expr}{t:L2.St->Hp->XK->Prop}{pos:Pos}(hc:X.calm=true)(tk:Takes X W)(he:L2N.PMk X e t):PS X (.Raise (some e) none pos) (λ_ σ H=>t σ H λcls d H'=>W cls d σ H'):=by
 refine⟨λpins s σ H D I h=>?_⟩;show wpAny _ _ (do standAt pos;raiseStmt X.env (some (do let v <-eval e X.env;standAt pos;pure v)) none) _ _ _;refine wpAny_bind (wpAny_standAt (raise_made (I.ok.hd hc) (wpAny_bind (wpAny_mono (he pins s σ H _ I h) (λu s1 aR=>wpAny_bind (wpAny_standAt (wpAny_pure ?_))) λ_ _ x=>x))));obtain⟨a,dI,vs,dP,H',cls,d,rfl,J,k,d5,ha,hz,hd,h1,na,os,jc,r,q⟩:=aR;obtain⟨r1,r2⟩:=r (model X.prog X.w) s1.heap (J.kIn.keeps k);exact⟨a,dI,vs,cls,rfl,ha,hz.1,hd,h1,r1,r2,tk _ _ (XE.new J k d5 ha (gT.adi hz) hd h1 na os jc q)⟩
theorem adl{X:Cx}{W:WX}{E:XK}(tk:Takes X W)(sq:∀cls d σ H,E cls d H->W cls d σ H):∀(pins:List (Addr×Obj)) (σ:L2.St) (H:Hp) (s:Shared) (e:Value) (s':Shared),Inv X pins σ H s->Z.CX X.prog X.w X.stack H s E e s'->X.xe e s' :=
 λ_ σ _ _ e s' I c=>tk e s' (XE.of_call I (λcls d H' h=>sq cls d σ H' h) c)
theorem adn{B h:Heap}{H H':Hp}{l:List Env}{a:Addr}{cls:Value}{d:Option Addr}(x:HandSPX.FlyingZ B l a (gT B H cls d) h)(k:∀b o vs,B.get? b=some o->H b=none->o.data=.fields vs->B.get? b=some o/\H' b=none):HandSPX.FlyingZ B l a (gT B H' cls d) h :=
 L2H.flyingZ_imp (λ_ z=>z.to k) x
mutual
def dq(g:Nat->Option D):D->Option D
 | .tup xs=>(gV g xs).map .tup
 | .b8 xs=>(gV g xs).map .b8
 | .lst xs=>(gV g xs).map .lst
 | .dct ks vs=>match gV g ks,gV g vs with
  |some a,some b=>some (.dct a b)
  |_,_=>none
 | .er w ks vs=>match gV g ks,gV g vs with
  |some a,some b=>some (.er w a b)
  |_,_=>none
 | .ins c ns vs=>(gV g vs).map (.ins c ns)
 | .ptr n=>g n
 | .non=>some .non
 | .bl b=>some (.bl b)
 | .int i=>some (.int i)
 | .str s=>some (.str s)
 | .ty n=>some (.ty n)
 | .cls c=>some (.cls c)
 | .ck xs=>some (.ck xs)
 | .exc c ns vs=>(gV g vs).map (.exc c ns)
 | .lam T a_=>some (.lam T a_)
 | .dN T caps=>(gV g caps).map (.dN T)
def gV(g:Nat->Option D):List D->Option (List D)
 |[]=>some []
 |d::ds=>match dq g d,gV g ds with
  |some a,some b=>some (a::b)
  |_,_=>none
end
def eI(S:Store)(k:Nat):Nat->Nat->Option D
 |0,n=>if n<k then some (.ptr n)else none
 |f+1,n=>if n<k then some (.ptr n)else match S[n]? with
  |some (.lst ds)=>(gV (eI S k f) ds).map .lst
  |some (.dct false ks vs)=>match gV (eI S k f) ks,gV (eI S k f) vs with
   |some a,some b=>some (.dct a b)
   |_,_=>none
  |some (.er w ks vs)=>match gV (eI S k f) ks,gV (eI S k f) vs with
   |some a,some b=>some (.er w a b)
   |_,_=>none
  |some (.ins c ns vs)=>(gV (eI S k f) vs).map (.ins c ns)
  |_=>none
mutual
def bf(k:Nat):D->Bool
 | .tup xs=>bH k xs
 | .b8 xs=>bH k xs
 | .lst xs=>bH k xs
 | .dct ks vs=>bH k ks&&bH k vs
 | .er _ ks vs=>bH k ks&&bH k vs
 | .ins _ _ vs=>bH k vs
 | .ptr n=>decide (n<k)
 | .non=>true
 | .bl _=>true
 | .int _=>true
 | .str _=>true
 | .ty _=>true
 | .cls _=>true
 | .ck _=>true
 | .exc _ _ vs=>bH k vs
 | .lam _ _=>true
 | .dN _ vs=>bH k vs
def bH(k:Nat):List D->Bool
 |[]=>true
 |d::ds=>bf k d&&bH k ds
end
def jy(k:Nat):dH->Bool
 | .lst xs=>bH k xs
 | .dct _ ks vs=>bH k ks&&bH k vs
 | .er _ ks vs=>bH k ks&&bH k vs
 | .ins _ _ vs=>bH k vs
 | .tab _ _=>true
 | .dead=>true
def oH(S ao:Store):Prop:=∀(i:Nat) (m:dH),i<S.length->ao[i]?=some m->S[i]?=some m\/jy S.length m=true
def fin(S:Store):Out D->Out D
 | .ok d ao=>open Classical in if oH S ao then(match dq (eI ao S.length 6) d with
  |some d'=>.ok d' (ao.take S.length)
  |none=>.bad)else .bad
 | .ex d ao=>open Classical in if oH S ao then(match dq (eI ao S.length 6) d with
  |some d'=>.ex d' (ao.take S.length)
  |none=>.bad)else .bad
 | .bad=>.bad
section
variable{K:PySem.W.Frag}{mg:Str->Option Value}{ρ av:List Addr}{H:Hp}{S ao:Store}
theorem uz.sub(hs:∀a,a∉av->a∉ρ){f:Addr}{T:dj}{a_:List (Str×Addr)}(h:uz av H f T a_):uz ρ H f T a_:=by
 obtain⟨n,r9,pm,doc,cG,dz,c',h1,r',h2,aH⟩:=h;refine⟨hs _ n,r9,pm,doc,cG,dz,c',h1,hs _ r',h2,?_⟩;rcases aH with h|⟨n,t,e,nt,ht⟩
 .exact .inl h
 .exact .inr ⟨n,t,e,hs _ nt,ht⟩
theorem nq.sub(hs:∀a,a∉av->a∉ρ){a_:List (Str×Addr)}:∀{ns:List Str} {vs:List V},nq av H a_ ns vs->nq ρ H a_ ns vs
 |[],_,h=>h
 |n::ns,_,⟨v,r,c,o,u,e,h1,n1,h2,aH,bT,hd,cZ⟩=>⟨v,r,c,o,u,e,h1,hs _ n1,h2,aH,bT,hd,nq.sub hs cZ⟩
mutual
theorem ado{g:Nat->Option D}:∀(d:D) {n:NestedKey},nk d=some n->dq g d=some d
 | .non,_,_=>rfl
 | .bl _,_,_=>rfl
 | .int _,_,_=>rfl
 | .str _,_,_=>rfl
 | .tup ds,n,h=>by
  rw[nk]at h;obtain⟨ns,h1,_⟩:=fx.mp h;rw[dq,GV ds h1];rfl
 | .b8 ds,n,h=>by
  rw[nk]at h;obtain⟨ns,h1,_⟩:=fx.mp h;rw[dq,GV ds h1];rfl
 | .ty _,_,h=>by rfl
 | .cls _,_,h=>by rfl
 | .lst _,_,h=>by rw[nk]at h;cases h
 | .dct _ _,_,h=>by rw[nk]at h;cases h
 | .er _ _ _,_,h=>by rw[nk]at h;cases h
 | .ins _ _ _,_,h=>by rw[nk]at h;cases h
 | .ptr _,_,h=>by rw[nk]at h;cases h
 | .ck _,_,h=>by rfl
 | .exc _ _ _,_,h=>by rw[nk]at h;cases h
 | .lam _ _,_,h=>by rfl
 | .dN _ _,_,h=>by rw[nk]at h;cases h
theorem GV{g:Nat->Option D}:∀(ds:List D) {ns:List NestedKey},yK ds=some ns->gV g ds=some ds
 |[],_,_=>rfl
 |d::ds,ns,h=>by
  rw[yK]at h;split at h
  .rename_i a b ea eb
   rw[gV,ado d ea,GV ds eb]
  .cases h
end
theorem Gm.frz{w:World}{ks:List D}{es:List DictEntry}{b9 BR:List V}(h:Gm w ks es b9 BR){g:Nat->Option D}:gV g ks=some ks:=by
 obtain⟨ns,e,_⟩:=h;exact GV ks e
mutual
theorem U9{g:Nat->Option D}(hg:∀(n:Nat) d' a,g n=some d'->av[n]?=some a->Rep K mg ρ H d' (.ref a))(hs:∀a,a∉av->a∉ρ):∀(d d':D) (v:V),dq g d=some d'->Rep K mg av H d v->Rep K mg ρ H d' v
 | .non,d',v,e,h=>by cases e;rw[Rep]at h ⊢;exact h
 | .bl b,d',v,e,h=>by cases e;rw[Rep]at h ⊢;exact h
 | .int b,d',v,e,h=>by cases e;rw[Rep]at h ⊢;exact h
 | .str b,d',v,e,h=>by cases e;rw[Rep]at h ⊢;exact h
 | .ty b,d',v,e,h=>by cases e;rw[Rep]at h ⊢;exact h
 | .cls b,d',v,e,h=>by cases e;rw[Rep]at h ⊢;exact h
 | .tup xs,d',v,e,h=>by
  rw[dq]at e;obtain⟨ys,aw,e2⟩:=fx.mp e;subst e2;rw[Rep]at h ⊢;obtain⟨a,vs,a6,t,r⟩:=h;refine⟨a,vs,a6,?_,jz hg hs xs ys vs aw r⟩;rcases t with⟨n,t⟩|t
  .exact .inl ⟨hs a n,t⟩
  .exact .inr t
 | .b8 xs,d',v,e,h=>by
  rw[dq]at e;obtain⟨ys,aw,e2⟩:=fx.mp e;subst e2;rw[Rep]at h ⊢;obtain⟨a,vs,a6,t,r⟩:=h;exact⟨a,vs,a6,⟨hs a t.1,t.2⟩,jz hg hs xs ys vs aw r⟩
 | .lst xs,d',v,e,h=>by
  rw[dq]at e;obtain⟨ys,aw,e2⟩:=fx.mp e;subst e2;rw[Rep]at h ⊢;obtain⟨a,vs,a6,t,r⟩:=h;exact⟨a,vs,a6,⟨hs a t.1,t.2⟩,jz hg hs xs ys vs aw r⟩
 | .ck xs,d',v,e,h=>by
  cases e;rw[Rep]at h ⊢;obtain⟨a,a6,t⟩:=h;refine⟨a,a6,?_⟩;rcases t with⟨n,t⟩|t
  .exact .inl ⟨hs a n,t⟩
  .exact .inr t
 | .dct ks ds,d',v,e,h=>by
  rw[dq]at e;split at e
  .rename_i a b ea eb
   cases e;rw[Rep]at h ⊢;obtain⟨p,b9,vs,a6,⟨n,t⟩,r1,r2⟩:=h;exact⟨p,b9,vs,a6,⟨hs p n,t⟩,jz hg hs ks a b9 ea r1,jz hg hs ds b vs eb r2⟩
  .cases e
 | .er w ks ds,d',v,e,h=>by
  rw[dq]at e;split at e
  .rename_i a b ea eb
   cases e;rw[Rep]at h ⊢;obtain⟨p,b9,vs,a6,⟨n,Mb,es,t,sv⟩,r1,r2⟩:=h;have ek:a=ks:=by
    have:=sv.frz (g:=g);rw[this]at ea;exact(Option.some.inj ea).symm
   subst ek;exact⟨p,b9,vs,a6,⟨hs p n,Mb,es,t,sv⟩,jz hg hs a a b9 ea r1,jz hg hs ds b vs eb r2⟩
  .cases e
 | .ins c ns ds,d',v,e,h=>by
  rw[dq]at e;obtain⟨ys,aw,e2⟩:=fx.mp e;subst e2;rw[Rep]at h ⊢;obtain⟨a,C,bM,fs,a6,n,hm,ha,hn,r⟩:=h;exact⟨a,C,bM,fs,a6,hs a n,hm,ha,hn,jz hg hs ds ys _ aw r⟩
 | .ptr n,d',v,e,h=>by
  rw[dq]at e;rw[Rep]at h;grind
 | .exc c ns ds,d',v,e,h=>by
  rw[dq]at e;obtain⟨ys,aw,e2⟩:=fx.mp e;subst e2;rw[Rep]at h ⊢;obtain⟨a,C,bM,fs,a6,n,nd,hm,ha,hd,hn,r⟩:=h;exact⟨a,C,bM,fs,a6,hs a n,hs bM nd,hm,ha,hd,hn,jz hg hs ds ys _ aw r⟩
 | .lam T a_,d',v,e,h=>by
  cases e;rw[Rep]at h ⊢;obtain⟨f,e,h⟩:=h;exact⟨f,e,h.sub hs⟩
 | .dN T caps,d',v,e,h=>by
  rw[dq]at e;obtain⟨ys,aw,e2⟩:=fx.mp e;subst e2;rw[Rep]at h ⊢;obtain⟨f,a_,vs,a6,h1,h2,r⟩:=h;exact⟨f,a_,vs,a6,h1.sub hs,h2.sub hs,jz hg hs caps ys _ aw r⟩
theorem jz{g:Nat->Option D}(hg:∀(n:Nat) d' a,g n=some d'->av[n]?=some a->Rep K mg ρ H d' (.ref a))(hs:∀a,a∉av->a∉ρ):∀(ds gp:List D) (vs:List V),gV g ds=some gp->ay K mg av H ds vs->ay K mg ρ H gp vs
 |[],gp,vs,e,h=>by
  rw[gV]at e;cases e;rw[ay]at h ⊢;exact h
 |d::ds,gp,vs,e,h=>by
  rw[gV]at e;split at e
  .rename_i a b ea eb
   cases e;rw[ay]at h ⊢;obtain⟨v,r,a6,h1,h2⟩:=h;exact⟨v,r,a6,U9 hg hs d a v ea h1,jz hg hs ds b r eb h2⟩
  .cases e
end
mutual
theorem U_{k:Nat}{g:Nat->Option D}(hg:∀n,n<k->g n=some (.ptr n)):∀d:D,bf k d=true->dq g d=some d
 | .non,_=>rfl
 | .bl _,_=>rfl
 | .int _,_=>rfl
 | .str _,_=>rfl
 | .ty _,_=>rfl
 | .cls _,_=>rfl
 | .ck _,_=>rfl
 | .tup xs,h=>by rw[bf]at h;rw[dq,nA hg xs h];rfl
 | .lst xs,h=>by rw[bf]at h;rw[dq,nA hg xs h];rfl
 | .b8 xs,h=>by rw[bf]at h;rw[dq,nA hg xs h];rfl
 | .dct ks vs,h=>by
  rw[bf,Bool.and_eq_true]at h;rw[dq,nA hg ks h.1,nA hg vs h.2]
 | .er w ks vs,h=>by
  rw[bf,Bool.and_eq_true]at h;rw[dq,nA hg ks h.1,nA hg vs h.2]
 | .ins c ns vs,h=>by rw[bf]at h;rw[dq,nA hg vs h];rfl
 | .ptr n,h=>by rw[bf]at h;rw[dq];grind
 | .exc c ns vs,h=>by rw[bf]at h;rw[dq,nA hg vs h];rfl
 | .lam _ _,_=>rfl
 | .dN T vs,h=>by rw[bf]at h;rw[dq,nA hg vs h];rfl
theorem nA{k:Nat}{g:Nat->Option D}(hg:∀n,n<k->g n=some (.ptr n)):∀ds:List D,bH k ds=true->gV g ds=some ds
 |[],_=>rfl
 |d::ds,h=>by
  rw[bH,Bool.and_eq_true]at h;rw[gV,U_ hg d h.1,nA hg ds h.2]
end
theorem Md{k f n:Nat}(h:n<k):eI S k f n=some (.ptr n):=by
 cases f with
 |zero=>rw[eI,if_pos h]
 |succ f=>rw[eI,if_pos h]
mutual
theorem Rep.iQ:∀(d:D) (v:V),Rep K mg ρ H d v->bf ρ.length d=true
 | .non,_,_=>rfl
 | .bl _,_,_=>rfl
 | .int _,_,_=>rfl
 | .str _,_,_=>rfl
 | .ty _,_,_=>rfl
 | .cls _,_,_=>rfl
 | .ck _,_,_=>rfl
 | .tup xs,v,h=>by
  rw[Rep]at h;obtain⟨a,vs,_,_,r⟩:=h;rw[bf];exact ay.iQ xs vs r
 | .lst xs,v,h=>by
  rw[Rep]at h;obtain⟨a,vs,_,_,r⟩:=h;rw[bf];exact ay.iQ xs vs r
 | .b8 xs,v,h=>by
  rw[Rep]at h;obtain⟨a,vs,_,_,r⟩:=h;rw[bf];exact ay.iQ xs vs r
 | .dct ks ds,v,h=>by
  rw[Rep]at h;obtain⟨a,b9,vs,_,_,r1,r2⟩:=h;rw[bf,ay.iQ ks b9 r1,ay.iQ ds vs r2];rfl
 | .er w ks ds,v,h=>by
  rw[Rep]at h;obtain⟨a,b9,vs,_,_,r1,r2⟩:=h;rw[bf,ay.iQ ks b9 r1,ay.iQ ds vs r2];rfl
 | .ins c ns ds,v,h=>by
  rw[Rep]at h;obtain⟨a,C,bM,fs,_,_,_,_,_,r⟩:=h;rw[bf];exact ay.iQ ds _ r
 | .ptr n,v,h=>by
  rw[Rep]at h;obtain⟨a,_,q⟩:=h;rw[bf];grind
 | .exc c ns ds,v,h=>by
  rw[Rep]at h;obtain⟨a,C,bM,fs,_,_,_,_,_,_,_,r⟩:=h;rw[bf];exact ay.iQ ds _ r
 | .lam _ _,_,_=>rfl
 | .dN T ds,v,h=>by
  rw[Rep]at h;obtain⟨f,a_,vs,_,_,_,r⟩:=h;rw[bf];exact ay.iQ ds vs r
theorem ay.iQ:∀(ds:List D) (vs:List V),ay K mg ρ H ds vs->bH ρ.length ds=true
 |[],_,_=>rfl
 |d::ds,vs,h=>by
  rw[ay]at h;obtain⟨v,r,_,h1,h2⟩:=h;rw[bH,Rep.iQ d v h1,ay.iQ ds r h2];rfl
end
theorem kh.iQ{a:Addr}{m:dH}(h:kh K mg ρ H a m):jy ρ.length m=true:=by
 cases m with
 |lst ds =>
  obtain⟨vs,_,r⟩:=h;exact ay.iQ ds vs r
 |dct lk ks ds =>
  obtain⟨kvs,_,r1,r2⟩:=h;show(bH _ ks&&bH _ ds)=true;rw[ay.iQ ks _ r1,ay.iQ ds _ r2];rfl
 |er w ks ds =>
  obtain⟨_,es,b9,vs,_,_,r1,r2⟩:=h;show(bH _ ks&&bH _ ds)=true;rw[ay.iQ ks _ r1,ay.iQ ds _ r2];rfl
 |ins c ns ds =>
  obtain⟨C,bM,fs,_,_,_,r⟩:=h;exact ay.iQ ds _ r
 |tab P q=>rfl
 |dead=>rfl
structure Back(K:PySem.W.Frag)(mg:Str->Option Value)(ρ av:List Addr)(H:Hp)(ao:Store):Prop where
 pre:∃t,av=ρ++t
 w:aN K mg av H ao
theorem Back.sub(b:Back K mg ρ av H ao):∀a,a∉av->a∉ρ:=λa h q=>by
 obtain⟨t,e⟩:=b.pre;grind
theorem Back.out(b:Back K mg ρ av H ao){n:Nat}{a:Addr}(h:av[n]?=some a)(hn:¬n<ρ.length):a∉ρ:=λq=>by
 obtain⟨t,e⟩:=b.pre;have nd:=b.w.nd;grind
theorem Back.U'(b:Back K mg ρ av H ao){n:Nat}{a:Addr}(h:av[n]?=some a)(hn:n<ρ.length):ρ[n]?=some a:=by
 obtain⟨t,e⟩:=b.pre;grind
theorem Back.frz(b:Back K mg ρ av H ao):∀(f n:Nat) (d':D) (a:Addr),eI ao ρ.length f n=some d'->av[n]?=some a->Rep K mg ρ H d' (.ref a):=by
 intro f
 induction f with
 |zero =>
  intro n d' a e h;rw[eI]at e;split at e
  .rename_i hn
   cases e;rw[Rep];exact⟨a,rfl,b.U' h hn⟩
  .cases e
 |succ f ih =>
  intro n d' a e h;rw[eI]at e;split at e
  .rename_i hn
   cases e;rw[Rep];exact⟨a,rfl,b.U' h hn⟩
  .rename_i hn
   have yS:=b.out h hn;split at e
   .rename_i ds em
    obtain⟨vs,h1,r⟩:=b.w.ob n a _ h em;obtain⟨ys,aw,e2⟩:=fx.mp e;subst e2;rw[Rep];exact⟨a,vs,rfl,⟨yS,h1⟩,jz (λn d' a=>ih n d' a) b.sub ds ys vs aw r⟩
   .rename_i ks ds em
    obtain⟨kvs,h1,r1,r2⟩:=b.w.ob n a _ h em;rw[if_neg kK]at h1;split at e
    .rename_i x y ex ew
     cases e;rw[Rep];exact⟨a,_,_,rfl,⟨yS,kvs,.inl h1,rfl,rfl⟩,jz (λn d' a=>ih n d' a) b.sub ks x _ ex r1,jz (λn d' a=>ih n d' a) b.sub ds y _ ew r2⟩
    .cases e
   .rename_i w ks ds em
    obtain⟨Mb,es,b9,vs,h1,sv,r1,r2⟩:=b.w.ob n a _ h em;split at e
    .rename_i x y ex ew
     cases e;rw[Rep];have ek:x=ks:=by
      have:=sv.frz (g:=eI ao ρ.length f);rw[this]at ex;exact(Option.some.inj ex).symm
     subst ek;exact⟨a,_,_,rfl,⟨yS,Mb,es,h1,sv⟩,jz (λn d' a=>ih n d' a) b.sub x x _ ex r1,jz (λn d' a=>ih n d' a) b.sub ds y _ ew r2⟩
    .cases e
   .rename_i c ns ds em
    obtain⟨C,bM,fs,hm,h1,lH,r⟩:=b.w.ob n a _ h em;obtain⟨ys,aw,e2⟩:=fx.mp e;subst e2;rw[Rep];exact⟨a,C,bM,fs,rfl,yS,hm,h1,lH,jz (λn d' a=>ih n d' a) b.sub ds ys _ aw r⟩
   .cases e
theorem Back.yT(b:Back K mg ρ av H ao){ds:List D}{vs:List V}(aR:bH ρ.length ds=true)(r:ay K mg av H ds vs):ay K mg ρ H ds vs :=
 jz (g:=eI ao ρ.length 0) (λn d' a=>b.frz 0 n d' a) b.sub ds ds vs (nA (λn hn=>Md hn) ds aR) r
theorem Back.Va{GW:Hp}(b:Back K mg ρ av H ao)(dQ:aN K mg ρ GW S)(c:oH S ao):aN K mg ρ H (ao.take S.length):=by
 obtain⟨t,e⟩:=id b.pre;have hl:ρ.length<=ao.length:=by
  have:=b.w.len;rw[e,List.length_append]at this;omega
 refine⟨?_,dQ.nd,λa ha=>b.w.tr a (by grind),λn a m aw e2=>?_⟩
 .rw[List.length_take,dQ.len];have:=dQ.len;omega
 .have hn:n<S.length:=by rw[<-dQ.len];exact(List.getElem?_eq_some_iff.mp aw).1
  rw[List.getElem?_take_of_lt hn]at e2;have a6:av[n]?=some a:=by rw[e,List.getElem?_append_left (List.getElem?_eq_some_iff.mp aw).1];exact aw
  have aR:jy ρ.length m=true:=by
   rcases c n m hn e2 with q|q
   .exact(dQ.ob n a m aw q).iQ
   .rw[dQ.len];exact q
  have q:=b.w.ob n a m a6 e2;cases m with
  |lst ds =>
   obtain⟨vs,h1,r⟩:=q;exact⟨vs,h1,b.yT aR r⟩
  |dct lk ks ds =>
   obtain⟨kvs,h1,r1,r2⟩:=q;have aR:(bH ρ.length ks&&bH ρ.length ds)=true:=aR;rw[Bool.and_eq_true]at aR;exact⟨kvs,h1,b.yT aR.1 r1,b.yT aR.2 r2⟩
  |er w ks ds =>
   obtain⟨hs,es,b9,vs,h1,sv,r1,r2⟩:=q;have aR:(bH ρ.length ks&&bH ρ.length ds)=true:=aR;rw[Bool.and_eq_true]at aR;exact⟨hs,es,b9,vs,h1,sv,b.yT aR.1 r1,b.yT aR.2 r2⟩
  |ins c ns ds =>
   obtain⟨C,bM,fs,h0,h1,h2,r⟩:=q;exact⟨C,bM,fs,h0,h1,h2,b.yT aR r⟩
  |tab P ej =>
   obtain⟨bU,ps,h1,h2,aH⟩:=q;refine⟨bU,ps,h1,h2,λpos lD hc=>?_⟩;grind
  |dead=>exact trivial
theorem Ext.back{GW:Hp}(x:Ext ρ GW av H):Ext ρ GW ρ H:=⟨⟨[],by simp⟩,λa h n=>absurd h n,x.keep⟩
theorem yU{W:Value->Option Addr->Hp->Prop}{Q:VK}{o:Out D}(dQ:aN K mg ρ H S)(h:aV K mg W ρ H Q (fin S o)):aV K mg W ρ H Q o:=by
 cases o with
 |bad=>exact h
 |ok d S1 =>
  have h:aV K mg W ρ H Q (open Classical in if oH S S1 then(match dq (eI S1 S.length 6) d with
   |some d'=>.ok d' (S1.take S.length)
   |none=>.bad)else .bad):=h
  intro v aA H1 x aF r;by_cases c:oH S S1
  .rw[if_pos c]at h
   have b:Back K mg ρ aA H1 S1:=⟨x.pre,aF⟩
   cases q:dq (eI S1 S.length 6) d with
   |none=>rw[q]at h;exact h.elim
   |some d' =>
    rw[q]at h;have hl:eI S1 S.length 6=eI S1 ρ.length 6:=by rw[dQ.len]
    rw[hl]at q;exact h v ρ H1 x.back (b.Va dQ c) (U9 (λn d' a=>b.frz 6 n d' a) b.sub d d' v q r)
  .rw[if_neg c]at h;exact h.elim
 |ex d S1 =>
  have h:aV K mg W ρ H Q (open Classical in if oH S S1 then(match dq (eI S1 S.length 6) d with
   |some d'=>.ex d' (S1.take S.length)
   |none=>.bad)else .bad):=h
  intro C dd aA H1 x aF r;by_cases c:oH S S1
  .rw[if_pos c]at h
   have b:Back K mg ρ aA H1 S1:=⟨x.pre,aF⟩
   cases q:dq (eI S1 S.length 6) d with
   |none=>rw[q]at h;exact h.elim
   |some d' =>
    rw[q]at h;have hl:eI S1 S.length 6=eI S1 ρ.length 6:=by rw[dQ.len]
    rw[hl]at q;refine h C dd ρ H1 x.back (b.Va dQ c) ?_;obtain⟨c',ns,ds,kj,hD,fs,e,hm,gW,GX,adp,hx,hn,cu⟩:=r;subst e;rw[dq]at q;obtain⟨ys,aw,e2⟩:=fx.mp q;exact⟨c',ns,ys,kj,hD,fs,e2.symm,hm,gW,GX,b.sub hD adp,hx,hn,jz (λn d' a=>b.frz 6 n d' a) b.sub ds ys _ aw cu⟩
  .rw[if_neg c]at h;exact h.elim
end
def jA(K:PySem.W.Frag)(mg:Str->Option Value)(n:Nat)(g:aB):Sp:=λvs H Q E=>∃ρ S ds,ds.length=n/\aN K mg ρ H S/\ay K mg ρ H ds vs/\aV K mg E ρ H Q (g ds S)
def SO.out:SO->Out D
 | .nx _ S=>.ok .non S
 | .rt d S=>.ok d S
 | .ex e _ S=>.ex e S
 |_=>.bad
def bI(N:Nat)(body:SX):aB:=λds S=>fin S (body (ds.map some++List.replicate (N - ds.length) none) S).out
section
variable{K:PySem.W.Frag}{mg:Str->Option Value}
theorem yV{ρ:List Addr}{H:Hp}{N:List Str}{ds:List D}{vs:List V}(r:ay K mg ρ H ds vs):cH K mg ρ H (L2.start N vs) (ds.map some++List.replicate (N.length - ds.length) none):=by
 have hl:=r.len;refine⟨by unfold L2.start;simp[hl],λi d e=>?_⟩;have hi:i<ds.length:=by
  by_cases hi:i<ds.length
  .exact hi
  .grind
 rw[List.getElem?_append_left (by grind),List.getElem?_map]at e;cases q:ds[i]? with
 |none=>grind
 |some d' =>
  rw[q]at e;cases e;obtain⟨v,aw,aW⟩:=r.get q;refine⟨v,?_,aW⟩;unfold L2.start;grind
end
section
variable{W:WX}{n:Nat}{f C:Addr}{e:Expr}
def yW(S:Store):D->Option Str
 | .ins c _ _=>some c
 | .ptr n=>match S[n]? with
  |some (.ins c _ _)=>some c
  |_=>none
 |_=>none
def iR(S:Store):D->Option (Str×List Str×List D)
 | .ins c ns vs=>some (c,ns,vs)
 | .ptr n=>match S[n]? with
  |some (.ins c ns vs)=>some (c,ns,vs)
  |_=>none
 |_=>none
theorem yX{K:PySem.W.Frag}{mg:Str->Option Value}{ρ:List Addr}{H:Hp}{S:Store}{d:D}{v:V}{c:Str}{ns:List Str}{vs:List D}(w:aN K mg ρ H S)(r:Rep K mg ρ H d v)(h:iR S d=some (c,ns,vs)) :
  ∃a C bM fs,v=.ref a/\mg c=some (.ref C)/\H a=some (.ins C bM fs)/\fs.map (·.1)=ns/\ay K mg ρ H vs (fs.map (·.2)):=by
 cases d with
 |ins c' sx fy =>
  unfold iR at h;cases h;rw[Rep]at r;grind
 |ptr n =>
  unfold iR at h;rw[Rep]at r;obtain⟨a,e,q⟩:=r;simp only at h;split at h
  .rename_i c' sx fy em
   cases h;obtain⟨C,bM,fs,hm,ha,hn,cu⟩:=w.ob n a _ q em;grind
  .cases h
 |_=>unfold iR at h;cases h
def gq(f:Str):List Str->List D->Option D
 |n::ns,v::vs=>if f=n then some v else gq f ns vs
 |_,_=>none
theorem GZ{K:PySem.W.Frag}{mg:Str->Option Value}{ρ:List Addr}{H:Hp}{f:Str}{d:D}:∀{fs:List (Str×V)} {ns:List Str} {vs:List D},fs.map (·.1)=ns->ay K mg ρ H vs (fs.map (·.2))->gq f ns vs=some d->∃v,fs.lookup f=some v/\Rep K mg ρ H d v
 |[],_,_,e,_,h=>by simp at e;subst e;simp[gq]at h
 |(n,v)::fs,_,[],e,r,h=>by simp only[cF]at e;subst e;simp[gq]at h
 |(n,v)::fs,_,qR::vs,e,r,h=>by
  simp only[cF]at e r;subst e;rw[ay]at r;obtain⟨mK,b2,cN,r1,r2⟩:=r;cases cN;unfold gq at h;by_cases q:f=n
  .grind
  .rw[if_neg q]at h
   obtain⟨u,h1,h2⟩:=GZ rfl r2 h;grind
theorem Mf:∀{f:Str} {fs:List (Str×V)} {ns:List Str},fs.map (·.1)=ns->f∉ns->fs.lookup f=none
 |f,[],_,e,h=>rfl
 |f,(n,v)::fs,_,e,h=>by
  grind
end
section
variable{K:PySem.W.Frag}{mg:Str->Option Value}{ρ:List Addr}{H:Hp}{S:Store}
theorem f6{i:Int}{v:V}(h:Rep K mg ρ H (.int i) v):v=.int i:=by rw[Rep]at h;exact h
theorem nB{i:Bool}{v:V}(h:Rep K mg ρ H (.bl i) v):v=.bl i:=by rw[Rep]at h;exact h
theorem fM{i:Str}{v:V}(h:Rep K mg ρ H (.str i) v):v=.str i:=by rw[Rep]at h;exact h
theorem pH{v:V}(h:Rep K mg ρ H .non v):v=.non:=by rw[Rep]at h;exact h
theorem Mg{n:String}{v:V}(h:Rep K mg ρ H (.ty n) v):v=.ty n:=by rw[Rep]at h;exact h
theorem ie{i:Int}:Rep K mg ρ H (.int i) (.int i):=by rw[Rep]
theorem iS{i:Bool}:Rep K mg ρ H (.bl i) (.bl i):=by rw[Rep]
theorem nC{i:Str}:Rep K mg ρ H (.str i) (.str i):=by rw[Rep]
theorem Vb:Rep K mg ρ H .non .non:=by rw[Rep]
theorem lI{d:D}{v:V}{ds:List D}(w:aN K mg ρ H S)(r:Rep K mg ρ H d v)(h:d8 S d=some ds):∃a vs,v=.ref a/\H a=some (.lst vs)/\ay K mg ρ H ds vs:=by
 cases d with
 |lst xs =>
  unfold d8 at h;cases h;rw[Rep]at r;obtain⟨a,vs,e,t,r⟩:=r;exact⟨a,vs,e,t.2,r⟩
 |ptr n =>
  unfold d8 at h;simp only at h;rw[Rep]at r;obtain⟨a,e,q⟩:=r;split at h
  .rename_i xs em
   cases h;obtain⟨vs,h1,h2⟩:=w.ob n a _ q em;grind
  .cases h
 |_=>unfold d8 at h;cases h
def dJ(S:Store):D->Option (List D)
 | .tup ds=>some ds
 | .b8 ds=>some ds
 | .ck xs=>some (xs.map .int)
 |d=>d8 S d
theorem Mh:∀xs:List Int,ay K mg ρ H (xs.map .int) (xs.map V.int)
 |[]=>ay.nil
 |x::xs=>ay.cons ie (Mh xs)
theorem B3{d:D}{v:V}{ds:List D}(w:aN K mg ρ H S)(r:Rep K mg ρ H d v)(h:dJ S d=some ds):∃a vs,v=.ref a/\(SqL K H a vs\/SqT K H a vs)/\ay K mg ρ H ds vs:=by
 cases d with
 |tup xs =>
  unfold dJ at h;cases h;rw[Rep]at r;obtain⟨a,vs,e,t,r⟩:=r;exact⟨a,vs,e,.inr t.eQ,r⟩
 |ck xs =>
  unfold dJ at h;cases h;rw[Rep]at r;obtain⟨a,e,t⟩:=r;exact⟨a,_,e,.inl t.eQ,Mh xs⟩
 |lst xs =>
  obtain⟨a,vs,e,h1,h2⟩:=lI w r (show d8 S (.lst xs)=some ds from h);exact⟨a,vs,e,.inl (.inl (.inl h1)),h2⟩
 |ptr n =>
  obtain⟨a,vs,e,h1,h2⟩:=lI w r (show d8 S (.ptr n)=some ds from h);exact⟨a,vs,e,.inl (.inl (.inl h1)),h2⟩
 |b8 xs =>
  unfold dJ at h;cases h;rw[Rep]at r;obtain⟨a,vs,e,t,r⟩:=r;exact⟨a,vs,e,.inr t.eQ,r⟩
 |_=>unfold dJ d8 at h;cases h
end
def uG(g:Int->Int->D):b_:=λd e S=>match d,e with
 | .int i,.int j=>.ok (g i j) S
 |_,_=>.bad
def sy(C:Int->Int->Bool)(g:Int->Int->D):b_:=λd e S=>match d,e with
 | .int i,.int j=>if C i j=true then .ok (g i j) S else .bad
 |_,_=>.bad
section
variable{X:Cx}
theorem yY{f:Value->Value->Sem Value}{gd:Int->Int->D}{g:Int->Int->V}(o:OpR X f (rI0 g))(hg:∀i j ρ H,Rep X.K X.mg ρ H (gd i j) (g i j)):de X f (uG gd):=by
 refine⟨_,o,λWp ρ H S d e x y Q w aJ bS p=>?_⟩;unfold uG at p;split at p
 .exact⟨_,_,f6 aJ,f6 bS,cA p w (hg _ _ ρ H)⟩
 .exact p.elim
theorem G0{f:Value->Value->Sem Value}{C:Int->Int->Prop}{Cb:Int->Int->Bool}{gd:Int->Int->D}{g:Int->Int->V}(o:OpR X f (rI C g))(gW:∀i j,Cb i j=true->C i j)(hg:∀i j ρ H,Rep X.K X.mg ρ H (gd i j) (g i j)):de X f (sy Cb gd):=by
 refine⟨_,o,λWp ρ H S d e x y Q w aJ bS p=>?_⟩;unfold sy at p;split at p
 .split at p
  .rename_i hc
   exact⟨_,_,f6 aJ,f6 bS,gW _ _ hc,cA p w (hg _ _ ρ H)⟩
  .exact p.elim
 .exact p.elim
def Vc:b_:=uG λi j=>.int (i+j)
def kR:b_:=uG λi j=>.int (i - j)
def Vd(i j:Int):Bool:=decide (i.natAbs.log2+j.natAbs.log2<1000000)
def Mi:b_:=sy Vd λi j=>.int (i * j)
def Ve(_ j:Int):Bool:=decide (0<j/\j.natAbs.log2<9000)
def j0:b_:=sy Ve λi j=>.int (i / j)
def jB:b_:=sy (λ_ j=>decide (0<j)) λi j=>.int (i % j)
def G1:b_:=sy (λi j=>decide (0<=j/\j<=1000/\i.natAbs<2 ^ 60)) λi j=>.int (i ^ j.toNat)
theorem adq:de X (binaryOp .Add) Vc:=yY op_add λ_ _ _ _=>ie
theorem sA:de X (binaryOp .Sub) kR:=yY op_sub λ_ _ _ _=>ie
theorem ads:de X (binaryOp .Mult) Mi:=G0 op_mulW (λi j h=>of_decide_eq_true (p:=i.natAbs.log2+j.natAbs.log2<1000000) h) λ_ _ _ _=>ie
theorem qS:de X (binaryOp .FloorDiv) j0:=G0 op_fdivW (λi j h=>of_decide_eq_true (p:=0<j/\j.natAbs.log2<9000) h) λ_ _ _ _=>ie
theorem sC:de X (binaryOp .Mod) jB:=G0 op_mod (λi j h=>of_decide_eq_true h) λ_ _ _ _=>ie
theorem adt:de X (binaryOp .Pow) G1:=G0 op_pow (λi j h=>by
 have h:=of_decide_eq_true h;have h1:(2:Nat) ^ 60<2 ^ 64:=by decide
 exact⟨h.1,by omega,by omega⟩) λ_ _ _ _=>ie
def ltI:b_:=uG λi j=>.bl (decide (i<j))
def kS:b_:=uG λi j=>.bl (decide (i<=j))
def jd:b_:=uG λi j=>.bl (decide (j<i))
def wx:b_:=uG λi j=>.bl (decide (j<=i))
theorem adu:de X (compareOp .Lt) ltI:=yY op_lt λ_ _ _ _=>iS
theorem yZ:de X (compareOp .LtE) kS:=yY op_le λ_ _ _ _=>iS
theorem uH:de X (compareOp .Gt) jd:=yY op_gt λ_ _ _ _=>iS
theorem Vf:de X (compareOp .GtE) wx:=yY op_ge λ_ _ _ _=>iS
def G2:wh:=λd S=>match d with
 | .int i=>.ok (.int (-i)) S
 |_=>.bad
theorem Vg:U2 X (unaryOp .USub) G2:=by
 refine⟨_,un_neg,λWp ρ H S d x Q w aJ p=>?_⟩;cases d with
 |int i=>exact⟨i,f6 aJ,cA p w ie⟩
 |_=>exact p.elim
def B4:b_:=λd e S=>match d,e with
 | .str i,.str j=>if i.length+j.length<=1000000 then .ok (.str (i++j)) S else .bad
 |_,_=>.bad
theorem adw:de X (binaryOp .Add) B4:=by
 refine⟨_,op_add_str,λWp ρ H S d e x y Q w aJ bS p=>?_⟩;unfold B4 at p;split at p
 .split at p
  .rename_i hl
   exact⟨_,_,fM aJ,fM bS,jY hl,cA p w nC⟩
  .exact p.elim
 .exact p.elim
def Mj:b_:=λd e S=>match d,e with
 | .str i,.str j=>.ok (.bl (decide (i.cps.toList<j.cps.toList))) S
 |_,_=>.bad
theorem adx:de X (compareOp .Lt) Mj:=by
 refine⟨_,op_lt_str,λWp ρ H S d e x y Q w aJ bS p=>?_⟩;unfold Mj at p;split at p
 .exact⟨_,_,fM aJ,fM bS,cA p w iS⟩
 .exact p.elim
def y0(neg:Bool):b_:=λd e S=>match d,e with
 | .str i,.str j=>(match i.cps.toList with
  |[c]=>.ok (.bl (if neg=true then !decide (c∈j.cps.toList)else decide (c∈j.cps.toList))) S
  |_=>.bad)
 |_,_=>.bad
theorem ady{i:Str}{c:Nat}(h:i.cps.toList=[c]):i=⟨#[c]⟩:=by
 obtain⟨a⟩:=i;have:a = #[c]:=by
  have:=congrArg List.toArray h;simpa using this
 rw[this]
theorem adz:de X (compareOp .In) (y0 false):=by
 refine⟨_,op_in_sign,λWp ρ H S d e x y Q w aJ bS p=>?_⟩;unfold y0 at p;split at p
 .split at p
  .rename_i c hc
   have hs:=ady hc;refine⟨c,_,?_,fM bS,cA p w iS⟩;rw[fM aJ,hs]
  .exact p.elim
 .exact p.elim
mutual
def gX:D->Option PyData
 | .non=>some .none
 | .bl b=>some (.bool b)
 | .int i=>some (.int i)
 | .str s=>some (.str s)
 | .lst xs=>(jC xs).map .list
 | .tup xs=>(jC xs).map .tuple
 | .b8 xs=>(jC xs).map .tuple
 |_=>none
def jC:List D->Option (List PyData)
 |[]=>some []
 |d::ds=>match gX d,jC ds with
  |some a,some b=>some (a::b)
  |_,_=>none
end
def toP(S:Store):D->Option PyData
 | .ptr n=>match S[n]? with
  |some (.lst ds)=>(jC ds).map .list
  |_=>none
 |d=>gX d
def aQ(neg:Bool):b_:=λd e S=>match toP S d,toP S e with
 |some a,some b=>if SeqAt.shaped a=true/\SeqAt.shaped b=true then .ok (.bl (if neg=true then !PyData.eqv a b else PyData.eqv a b)) S else .bad
 |_,_=>.bad
mutual
theorem Vh{K:PySem.W.Frag}{mg:Str->Option Value}{ρ:List Addr}{H:Hp}:∀(d:D) (v:V) (p:PyData),Rep K mg ρ H d v->gX d=some p->Dp K H v p
 | .non,v,p,r,h=>by rw[gX]at h;cases h;rw[pH r];exact .non
 | .bl b,v,p,r,h=>by rw[gX]at h;cases h;rw[nB r];exact .bl b
 | .int b,v,p,r,h=>by rw[gX]at h;cases h;rw[f6 r];exact .int b
 | .str b,v,p,r,h=>by rw[gX]at h;cases h;rw[fM r];exact .str b
 | .lst xs,v,p,r,h=>by
  rw[gX]at h;obtain⟨ys,aw,e2⟩:=fx.mp h;subst e2;rw[Rep]at r;obtain⟨a,vs,e,t,r⟩:=r;subst e;exact .lst t.eQ (B5 xs vs ys r aw)
 | .tup xs,v,p,r,h=>by
  rw[gX]at h;obtain⟨ys,aw,e2⟩:=fx.mp h;subst e2;rw[Rep]at r;obtain⟨a,vs,e,t,r⟩:=r;subst e;exact .tup t.eQ (B5 xs vs ys r aw)
 | .b8 xs,v,p,r,h=>by
  rw[gX]at h;obtain⟨ys,aw,e2⟩:=fx.mp h;subst e2;rw[Rep]at r;obtain⟨a,vs,e,t,r⟩:=r;subst e;exact .tup t.eQ (B5 xs vs ys r aw)
 | .ty _,v,p,r,h=>by rw[gX]at h;all_goals grind
 | .cls _,v,p,r,h=>by rw[gX]at h;all_goals grind
 | .dct _ _,v,p,r,h=>by rw[gX]at h;all_goals grind
 | .er _ _ _,v,p,r,h=>by rw[gX]at h;all_goals grind
 | .ins _ _ _,v,p,r,h=>by rw[gX]at h;all_goals grind
 | .ptr _,v,p,r,h=>by rw[gX]at h;all_goals grind
 | .ck _,v,p,r,h=>by rw[gX]at h;all_goals grind
 | .exc _ _ _,v,p,r,h=>by rw[gX]at h;all_goals grind
 | .lam _ _,v,p,r,h=>by rw[gX]at h;all_goals grind
 | .dN _ _,v,p,r,h=>by rw[gX]at h;all_goals grind
theorem B5{K:PySem.W.Frag}{mg:Str->Option Value}{ρ:List Addr}{H:Hp}:∀(ds:List D) (vs:List V) (ps:List PyData),ay K mg ρ H ds vs->jC ds=some ps->DpAll K H vs ps
 |[],vs,ps,r,h=>by rw[jC]at h;cases h;rw[ay]at r;subst r;exact .nil
 |d::ds,vs,ps,r,h=>by
  rw[jC]at h;split at h
  .rename_i a b ea eb
   cases h;rw[ay]at r;obtain⟨v,b2,e,h1,h2⟩:=r;subst e;exact .cons (Vh d v a h1 ea) (B5 ds b2 b h2 eb)
  .cases h
end
theorem G3{K:PySem.W.Frag}{mg:Str->Option Value}{ρ:List Addr}{H:Hp}{S:Store}{d:D}{v:V}{p:PyData}(w:aN K mg ρ H S)(r:Rep K mg ρ H d v)(h:toP S d=some p):Dp K H v p:=by
 cases d with
 |ptr n =>
  unfold toP at h;simp only at h;split at h
  .rename_i ds em
   obtain⟨ys,aw,e2⟩:=fx.mp h;subst e2;rw[Rep]at r;obtain⟨a,e,q⟩:=r;subst e;obtain⟨vs,h1,h2⟩:=w.ob n a _ q em;exact .lst (.inl (.inl h1)) (B5 ds vs ys h2 aw)
  .cases h
 |_=>exact Vh _ v p r h
theorem dR(aR:X.A.units+64<cLine):de X (compareOp .Eq) (aQ false):=by
 refine⟨_,op_eqD aR,λWp ρ H S d e x y Q w aJ bS p=>?_⟩;unfold aQ at p;split at p
 .rename_i a b ea eb
  split at p
  .rename_i hs
   exact⟨a,b,G3 w aJ ea,G3 w bS eb,hs.1,hs.2,cA p w iS⟩
  .exact p.elim
 .exact p.elim
theorem lJ(aR:X.A.units+64<cLine):de X (compareOp .NotEq) (aQ true):=by
 refine⟨_,op_neD aR,λWp ρ H S d e x y Q w aJ bS p=>?_⟩;unfold aQ at p;split at p
 .rename_i a b ea eb
  split at p
  .rename_i hs
   exact⟨a,b,G3 w aJ ea,G3 w bS eb,hs.1,hs.2,cA p w iS⟩
  .exact p.elim
 .exact p.elim
def sD:D->Bool
 | .non=>true
 |_=>false
def gJ(neg:Bool):b_:=λd e S=>match e with
 | .non=>.ok (.bl (if neg=true then !sD d else sD d)) S
 |_=>.bad
theorem adA{K:PySem.W.Frag}{mg:Str->Option Value}{ρ:List Addr}{H:Hp}{d:D}{x:V}(r:Rep K mg ρ H d x):decide (x=V.non)=sD d:=by
 cases d with
 |non=>rw[pH r];rfl
 |bl b=>rw[nB r];rfl
 |int b=>rw[f6 r];rfl
 |str b=>rw[fM r];rfl
 |ty b=>rw[Mg r];rfl
 |cls c=>rw[Rep]at r;obtain⟨C,_,e⟩:=r;rw[e];rfl
 |tup xs=>rw[Rep]at r;obtain⟨a,vs,e,_⟩:=r;rw[e];rfl
 |lst xs=>rw[Rep]at r;obtain⟨a,vs,e,_⟩:=r;rw[e];rfl
 |b8 xs=>rw[Rep]at r;obtain⟨a,vs,e,_⟩:=r;rw[e];rfl
 |dct ks vs=>rw[Rep]at r;obtain⟨a,_,_,e,_⟩:=r;rw[e];rfl
 |er w ks vs=>rw[Rep]at r;obtain⟨a,_,_,e,_⟩:=r;rw[e];rfl
 |ins c ns vs=>rw[Rep]at r;obtain⟨a,_,_,_,e,_⟩:=r;rw[e];rfl
 |ptr n=>rw[Rep]at r;obtain⟨a,e,_⟩:=r;rw[e];rfl
 |ck xs=>rw[Rep]at r;obtain⟨a,e,_⟩:=r;rw[e];rfl
 |exc c ns vs=>rw[Rep]at r;obtain⟨a,_,_,_,e,_⟩:=r;rw[e];rfl
 |lam T c=>rw[Rep]at r;obtain⟨a,e,_⟩:=r;rw[e];rfl
 |dN T c=>rw[Rep]at r;obtain⟨a,_,_,e,_⟩:=r;rw[e];rfl
theorem G4:de X (compareOp .Is) (gJ false):=by
 refine⟨_,op_isN,λWp ρ H S d e x y Q w aJ bS p=>?_⟩;unfold gJ at p;split at p
 .refine⟨pH bS,?_⟩
  rw[adA aJ];exact cA p w iS
 .exact p.elim
def B6:b_:=λd e S=>match d8 S d,d8 S e with
 |some a,some b=>if a.length+b.length<=1000000 then .ok (.lst (a++b)) S else .bad
 |_,_=>.bad
theorem adB:de X (binaryOp .Add) B6:=by
 refine⟨_,op_cat,λWp ρ H S d e x y Q w aJ bS p=>?_⟩;unfold B6 at p;split at p
 .rename_i a b ea eb
  split at p
  .rename_i hl
   obtain⟨l,vs,aw,h1,r1⟩:=lI w aJ ea;obtain⟨l2,G5,e2,h2,r2⟩:=lI w bS eb;exact⟨l,l2,vs,G5,aw,e2,h1,h2,by rw[<-r1.len,<-r2.len];exact jY hl,λq hq=>yP p w (r1.append r2) hq⟩
  .exact p.elim
 .exact p.elim
def wy:b_:=λd e S=>match d,e with
 | .tup a,.tup b=>if a≠[]/\b≠[]/\a.length+b.length<=1000000 then .ok (.tup (a++b)) S else .bad
 |_,_=>.bad
theorem adC:de X (binaryOp .Add) wy:=by
 refine⟨_,op_catT,λWp ρ H S d e x y Q w aJ bS p=>?_⟩;unfold wy at p;split at p
 .rename_i a b
  split at p
  .rename_i hl
   rw[Rep]at aJ bS;obtain⟨l,vs,aw,h1,r1⟩:=aJ;obtain⟨l2,G5,e2,h2,r2⟩:=bS;have n1:vs≠[]:=λq=>hl.1 (eO.mp (by rw[r1.len,q];rfl));have n2:G5≠[]:=λq=>hl.2.1 (eO.mp (by rw[r2.len,q];rfl));exact⟨l,l2,vs,G5,aw,e2,h1.eQ,h2.eQ,n1,by rw[<-r1.len,<-r2.len];exact jY hl.2.2,λq=>absurd q n2,λ_ q hq=>yO p w (r1.append r2) hq⟩
  .exact p.elim
 .exact p.elim
def B7(k:Nat)(xs:List D):List D:=(List.replicate k xs).flatten
theorem ay.rep{K:PySem.W.Frag}{mg:Str->Option Value}{ρ:List Addr}{H:Hp}{ds:List D}{vs:List V}(r:ay K mg ρ H ds vs):∀k:Nat,ay K mg ρ H (B7 k ds) (List.replicate k vs).flatten
 |0=>ay.nil
 |k+1=>by
  show ay K mg ρ H (List.replicate (k+1) ds).flatten _;rw[A7,A7,KA,KA];exact r.append (ay.rep r k)
def B9:b_:=λd e S=>match d8 S d,e with
 |some a,.int k=>if k<1000000/\a.length * k.toNat<=1000000 /\ -1000000<=k then .ok (.lst (B7 k.toNat a)) S else .bad
 |_,_=>.bad
theorem adD:de X (binaryOp .Mult) B9:=by
 refine⟨_,op_rep,λWp ρ H S d e x y Q w aJ bS p=>?_⟩;unfold B9 at p;split at p
 .rename_i a k ea
  split at p
  .rename_i hl
   obtain⟨l,vs,aw,h1,r1⟩:=lI w aJ ea;exact⟨l,k,vs,aw,f6 bS,h1,by omega,by omega,by rw[<-r1.len];exact jY hl.2.1,λq hq=>yP p w (r1.rep k.toNat) hq⟩
  .exact p.elim
 .exact p.elim
def oI:D->Bool
 | .non=>true
 | .bl _=>true
 | .int _=>true
 | .str _=>true
 |_=>false
def y2:D->D->Bool
 | .non,.non=>true
 | .bl a,.bl b=>a==b
 | .bl a,.int j=>(if a then 1 else 0)==j
 | .int i,.bl b=>i==(if b then 1 else 0)
 | .int i,.int j=>i==j
 | .str x,.str y=>x==y
 |_,_=>false
end
section
variable{X:Cx}
def inD(x:D)(xs:List D):Bool:=xs.any λy=>y2 y x
theorem Vi{K:PySem.W.Frag}{mg:Str->Option Value}{ρ:List Addr}{H:Hp}{d:D}{v:V}(f:oI d=true)(r:Rep K mg ρ H d v):flatV v=true:=by
 cases d with
 |non=>rw[pH r];rfl
 |bl b=>rw[nB r];rfl
 |int b=>rw[f6 r];rfl
 |str b=>rw[fM r];rfl
 |_=>cases f
theorem adE{K:PySem.W.Frag}{mg:Str->Option Value}{ρ:List Addr}{H:Hp}{d e:D}{v u:V}(f:oI d=true)(g:oI e=true)(r:Rep K mg ρ H d v)(q:Rep K mg ρ H e u):eqV v u=y2 d e:=by
 cases d with
 |non=>rw[pH r];cases e with
  |non=>rw[pH q];rfl
  |bl b=>rw[nB q];rfl
  |int b=>rw[f6 q];rfl
  |str b=>rw[fM q];rfl
  |_=>cases g
 |bl b=>rw[nB r];cases e with
  |non=>rw[pH q];rfl
  |bl b=>rw[nB q];rfl
  |int b=>rw[f6 q];rfl
  |str b=>rw[fM q];rfl
  |_=>cases g
 |int b=>rw[f6 r];cases e with
  |non=>rw[pH q];rfl
  |bl b=>rw[nB q];rfl
  |int b=>rw[f6 q];rfl
  |str b=>rw[fM q];rfl
  |_=>cases g
 |str b=>rw[fM r];cases e with
  |non=>rw[pH q];rfl
  |bl b=>rw[nB q];rfl
  |int b=>rw[f6 q];rfl
  |str b=>rw[fM q];rfl
  |_=>cases g
 |_=>cases f
theorem Vj{K:PySem.W.Frag}{mg:Str->Option Value}{ρ:List Addr}{H:Hp}{x:D}{v:V}(f:oI x=true)(r:Rep K mg ρ H x v):∀{ds:List D} {vs:List V},ay K mg ρ H ds vs->ds.all oI=true->vs.all flatV=true/\inV v vs=inD x ds
 |[],_,h,_=>by rw[ay]at h;subst h;exact⟨rfl,rfl⟩
 |d::ds,_,h,a=>by
  rw[ay]at h;obtain⟨u,b2,e,h1,h2⟩:=h;subst e;rw[List.all_cons,Bool.and_eq_true]at a;obtain⟨i1,i2⟩:=Vj f r h2 a.2;refine⟨by rw[List.all_cons,Vi a.1 h1,i1];rfl,?_⟩;show(eqV u v||inV v b2)=(y2 d x||inD x ds)
  rw[i2,adE a.1 f h1 r]
def B_(neg:Bool):b_:=λd e S=>match dJ S e with
 |some ds=>if oI d=true/\ds.all oI=true then .ok (.bl (if neg=true then !inD d ds else inD d ds)) S else .bad
 |none=>.bad
theorem adF:de X (compareOp .In) (B_ false):=by
 refine⟨_,op_in_seq,λWp ρ H S d e x y Q w aJ bS p=>?_⟩;unfold B_ at p;split at p
 .rename_i ds ea
  split at p
  .rename_i hf
   obtain⟨a,vs,aw,h1,r1⟩:=B3 w bS ea;obtain⟨i1,i2⟩:=Vj hf.1 aJ r1 hf.2;refine⟨a,vs,aw,h1,Vi hf.1 aJ,i1,?_⟩;rw[i2];exact cA p w iS
  .exact p.elim
 .exact p.elim
def B':aB:=λds S=>match ds with
 |[.str s]=>if s.length<=1000000 then .ok (.int s.length) S else .bad
 |[d]=>(match dJ S d with
  |some xs=>.ok (.int xs.length) S
  |none=>.bad)
 |_=>.bad
theorem d_len:iL X (.builtin "len") B':=by
 refine⟨_,call_len,λWp ρ H S ds xs Q w r p=>?_⟩
 match ds,r,p with
 |[d],r,p =>
  rw[ay]at r;obtain⟨v,b2,e,h1,h2⟩:=r;rw[ay]at h2;subst h2 e;have go:∀ys,dJ S d=some ys->aV X.K X.mg Wp ρ H Q (.ok (.int ys.length) S)->∃x n,[v]=[x]/\LenV X.K x H n/\Q (.int n) H:=λys ea p=>by
   obtain⟨a,vs,aw,aH,r1⟩:=B3 w h1 ea;subst aw;refine⟨_,vs.length,rfl,?_,by rw[<-r1.len];exact cA p w ie⟩;rcases aH with aH|aH
   .exact .inl ⟨vs,aH,rfl⟩
   .exact .inr ⟨vs,aH,rfl⟩
  cases d with
  |str s =>
   unfold B' at p;simp only at p;split at p
   .rename_i hl
    exact⟨.str s,s.length,by rw[fM h1],⟨jY hl,rfl⟩,cA p w ie⟩
   .exact p.elim
  |tup xs=>exact go xs rfl p
  |b8 xs=>exact go xs rfl p
  |lst xs=>exact go xs rfl p
  |ck xs=>exact go _ rfl p
  |ptr n =>
   have p:aV X.K X.mg Wp ρ H Q (match dJ S (.ptr n)with
    |some xs=>.ok (.int xs.length) S
    |none=>.bad):=p
   split at p
   .grind
   .exact p.elim
  |_=>exact p.elim
 |[],_,p=>exact p.elim
 |d::_::_,_,p=>cases d<;>exact p.elim
inductive nD where
 |non|bl|int|str|tup|lst|dct
 deriving DecidableEq
def nD.name:nD->String
 | .non=>"NoneType"
 | .bl=>"bool"
 | .int=>"int"
 | .str=>"str"
 | .tup=>"tuple"
 | .lst=>"list"
 | .dct=>"dict"
def j1(S:Store):D->Option nD
 | .non=>some .non
 | .bl _=>some .bl
 | .int _=>some .int
 | .str _=>some .str
 | .tup _=>some .tup
 | .b8 _=>some .tup
 | .lst _=>some .lst
 | .ck _=>some .lst
 | .dct _ _=>some .dct
 | .ptr n=>match S[n]? with
  |some (.lst _)=>some .lst
  |some (.dct _ _ _)=>some .dct
  |_=>none
 |_=>none
def c4(k:nD)(T:String):Option Bool :=
 if T="int" then some (k=.int\/k=.bl)else if T="bool" then some (k=.bl)else if T="str" then some (k=.str)else if T="list" then some (k=.lst)else if T="tuple" then some (k=.tup)else if T="dict" then some (k=.dct)else none
theorem Vk{K:PySem.W.Frag}{k:nD}{T:String}{b:Bool}(h:c4 k T=some b):PySem.W.kitOne K (.type k.name) (.type T)=some b:=by
 unfold c4 at h;split at h
 .rename_i e;subst e;cases h;cases k<;>exact kit_ty (by rfl)
 split at h
 .rename_i e;subst e;cases h;cases k<;>exact kit_ty (by rfl)
 split at h
 .rename_i e;subst e;cases h;cases k<;>exact kit_ty (by rfl)
 split at h
 .rename_i e;subst e;cases h;cases k<;>exact kit_ty (by rfl)
 split at h
 .rename_i e;subst e;cases h;cases k<;>exact kit_ty (by rfl)
 split at h
 .rename_i e;subst e;cases h;cases k<;>exact kit_ty (by rfl)
 .cases h
theorem G6{K:PySem.W.Frag}{mg:Str->Option Value}{ρ:List Addr}{H:Hp}{S:Store}{d:D}{v:V}{k:nD}(w:aN K mg ρ H S)(r:Rep K mg ρ H d v)(h:j1 S d=some k):TyX K H v (.type k.name):=by
 cases d with
 |non=>cases h;rw[pH r];exact .base .non
 |bl b=>cases h;rw[nB r];exact .base (.bl b)
 |int b=>cases h;rw[f6 r];exact .base (.int b)
 |str b=>cases h;rw[fM r];exact .base (.str b)
 |tup xs =>
  cases h;rw[Rep]at r;obtain⟨a,vs,e,t,_⟩:=r;subst e;rcases t with⟨_,t⟩|⟨o,its,n,hk,hc,_⟩
  .exact .base (.tup t)
  .exact .kTuple hk hc
 |b8 xs =>
  cases h;rw[Rep]at r;obtain⟨a,vs,e,t,_⟩:=r;subst e;obtain⟨_,o,_,t⟩:=t;exact .fTuple t
 |lst xs =>
  cases h;rw[Rep]at r;obtain⟨a,vs,e,t,_⟩:=r;subst e;exact .base (.lst t.2)
 |ck xs =>
  cases h;rw[Rep]at r;obtain⟨a,e,t⟩:=r;subst e;rcases t with⟨_,t|⟨o,t⟩⟩|⟨o,its,n,hk,hc,_⟩
  .exact .base (.lst t)
  .exact .base (.frz t)
  .exact .kList hk hc
 |dct ks vs =>
  cases h;rw[Rep]at r;obtain⟨a,b9,vs,e,⟨_,kvs,t,_⟩,_⟩:=r;subst e;rcases t with t|⟨o,t⟩
  .exact .base (.dK t)
  .exact .fDict t
 |ptr n =>
  rw[Rep]at r;obtain⟨a,e,q⟩:=r;subst e;unfold j1 at h;simp only at h;split at h
  .rename_i xs em
   cases h;obtain⟨vs,h1,_⟩:=w.ob n a _ q em;exact .base (.lst h1)
  .rename_i lk ks vs em
   cases h;obtain⟨kvs,h1,_⟩:=w.ob n a _ q em;cases lk with
   |true =>
    rw[if_pos rfl]at h1;rcases h1 with t|⟨o,t⟩
    .exact .base (.dK t)
    .exact .fDict t
   |false =>
    rw[if_neg kK]at h1;exact .base (.dK h1)
  .cases h
 |_=>unfold j1 at h;cases h
def wz:aB:=λds S=>match ds with
 |[d,.ty T]=>(match j1 S d with
  |some k=>(match c4 k T with
   |some b=>.ok (.bl b) S
   |none=>.bad)
  |none=>.bad)
 |_=>.bad
theorem adG:iL X (.builtin "isinstance") wz:=by
 refine⟨_,call_isi,λWp ρ H S ds xs Q w r p=>?_⟩;unfold wz at p;split at p
 .rename_i d T
  split at p
  .rename_i k ek
   split at p
   .rename_i b eb
    rw[ay]at r;obtain⟨v,b2,e,h1,h2⟩:=r;rw[ay]at h2;obtain⟨u,r2,e2,aH,bT⟩:=h2;rw[ay]at bT;subst bT e2 e;rw[Mg aH];exact⟨v,.ty T,_,.type T,b,rfl,.ty T,G6 w h1 ek,Vk eb,cA p w iS⟩
   .exact p.elim
  .exact p.elim
 .exact p.elim
def qT:List D->Option (List String)
 |[]=>some []
 | .ty T::r=>(qT r).map (T :: ·)
 |_::_=>none
def pI(k:nD):List String->Option Bool
 |[]=>some false
 |T::r=>match c4 k T,pI k r with
  |some b,some c=>some (b||c)
  |_,_=>none
def wA:aB:=λds S=>match ds with
 |[d,.tup ts]=>(match j1 S d,qT ts with
  |some k,some mL=>(match pI k mL with
   |some b=>.ok (.bl b) S
   |none=>.bad)
  |_,_=>.bad)
 |_=>.bad
theorem Ml{K:PySem.W.Frag}{mg:Str->Option Value}{ρ:List Addr}{H:Hp}:∀{ts:List D} {mL:List String} {vs:List V},qT ts=some mL->ay K mg ρ H ts vs->Paired ClsV vs (mL.map Value.type)
 |[],_,_,e,r=>by cases e;rw[ay]at r;subst r;exact .nil
 | .ty T::ts,_,_,e,r=>by
  rw[qT]at e;obtain⟨ys,aw,e2⟩:=fx.mp e;subst e2;rw[ay]at r;obtain⟨v,b2,cN,h1,h2⟩:=r;subst cN;rw[Mg h1];exact .cons (.ty T) (Ml aw h2)
 | .non::_,_,_,e,_=>by cases e
 | .bl _::_,_,_,e,_=>by cases e
 | .int _::_,_,_,e,_=>by cases e
 | .str _::_,_,_,e,_=>by cases e
 | .cls _::_,_,_,e,_=>by cases e
 | .tup _::_,_,_,e,_=>by cases e
 | .b8 _::_,_,_,e,_=>by cases e
 | .lst _::_,_,_,e,_=>by cases e
 | .dct _ _::_,_,_,e,_=>by cases e
 | .er _ _ _::_,_,_,e,_=>by cases e
 | .ins _ _ _::_,_,_,e,_=>by cases e
 | .ptr _::_,_,_,e,_=>by cases e
 | .ck _::_,_,_,e,_=>by cases e
 | .exc _ _ _::_,_,_,e,_=>by cases e
 | .lam _ _::_,_,_,e,_=>by cases e
 | .dN _ _::_,_,_,e,_=>by cases e
theorem Mp{K:PySem.W.Frag}{k:nD}:∀{mL:List String} {b:Bool},pI k mL=some b->PySem.W.kitAny K (.type k.name) (mL.map Value.type)=some b
 |[],b,h=>by cases h;rfl
 |T::mL,b,h=>by
  rw[pI]at h;split at h
  .rename_i x y ex ew
   cases h;refine kitAny_cons (Vk ex) (λq=>?_) (λq=>by rw[q];rfl);rw[q,Bool.false_or];exact Mp ew
  .cases h
theorem adH:iL X (.builtin "isinstance") wA:=by
 refine⟨_,CallR.or call_isiT call_isiK,λWp ρ H S ds xs Q w r p=>?_⟩;unfold wA at p;split at p
 .rename_i d ts
  split at p
  .rename_i k mL ek et
   split at p
   .rename_i b eb
    rw[ay]at r;obtain⟨v,b2,e,h1,h2⟩:=r;rw[ay]at h2;obtain⟨u,r2,e2,aH,bT⟩:=h2;rw[ay]at bT;subst bT e2 e;rw[Rep]at aH;obtain⟨a,vs,a6,t,cu⟩:=aH;subst a6;rcases t with⟨_,t⟩|⟨o,its,n,hk,hc,hd,hz,bP⟩
    .exact .inl ⟨v,a,vs,_,_,b,rfl,t,Ml et cu,G6 w h1 ek,Mp eb,cA p w iS⟩
    .refine .inr ⟨v,a,o.dict,mL.map Value.type,n,o.slots,_,b,rfl,?_,G6 w h1 ek,Mp eb,cA p w iS⟩
     have dA:=ClsV.all (Ml et cu) bP;rw[hk,<-dA];obtain⟨c,dd,GO,sl⟩:=o;simp only at hc hd;subst hc hd;simp
   .exact p.elim
  .exact p.elim
 .exact p.elim
def y3:List D->Option (List Bool)
 |[]=>some []
 | .bl b::r=>(y3 r).map (b :: ·)
 |_::_=>none
theorem Vl:∀{ds:List D} {bs:List Bool},y3 ds=some bs->ds=bs.map D.bl
 |[],_,e=>by cases e;rfl
 | .bl b::r,_,e=>by
  rw[y3]at e;obtain⟨ys,aw,e2⟩:=fx.mp e;subst e2;rw[Vl aw];rfl
 | .non::_,_,e=>by cases e
 | .ty _::_,_,e=>by cases e
 | .int _::_,_,e=>by cases e
 | .str _::_,_,e=>by cases e
 | .cls _::_,_,e=>by cases e
 | .tup _::_,_,e=>by cases e
 | .b8 _::_,_,e=>by cases e
 | .lst _::_,_,e=>by cases e
 | .dct _ _::_,_,e=>by cases e
 | .er _ _ _::_,_,e=>by cases e
 | .ins _ _ _::_,_,e=>by cases e
 | .ptr _::_,_,e=>by cases e
 | .ck _::_,_,e=>by cases e
 | .exc _ _ _::_,_,e=>by cases e
 | .lam _ _::_,_,e=>by cases e
 | .dN _ _::_,_,e=>by cases e
theorem Vm{K:PySem.W.Frag}{mg:Str->Option Value}{ρ:List Addr}{H:Hp}:∀{bs:List Bool} {vs:List V},ay K mg ρ H (bs.map D.bl) vs->vs=bs.map V.bl
 |[],_,r=>by rw[qB,ay]at r;exact r
 |b::bs,_,r=>by
  rw[cF,ay]at r;obtain⟨v,b2,e,h1,h2⟩:=r;rw[e,nB h1,Vm h2];rfl
def mM:aB:=λds S=>match ds with
 |[d]=>(match d8 S d with
  |some xs=>(match y3 xs with
   |some bs=>.ok (.bl (bs.all id)) S
   |none=>.bad)
  |none=>.bad)
 |_=>.bad
theorem Mq(hc:X.calm=true):iL X (.builtin "all") mM:=by
 refine⟨_,cr_all hc,λWp ρ H S ds xs Q w r p=>?_⟩;unfold mM at p;split at p
 .rename_i d
  split at p
  .rename_i ys ew
   split at p
   .rename_i bs eb
    rw[ay]at r;obtain⟨v,b2,e,h1,h2⟩:=r;rw[ay]at h2;subst h2 e;obtain⟨a,vs,aw,aH,r1⟩:=lI w h1 ew;subst aw;rw[Vl eb]at r1;rw[Vm r1]at aH;exact⟨a,bs,rfl,.inl (.inl aH),cA p w iS⟩
   .exact p.elim
  .exact p.elim
 .exact p.elim
def oJ:aB:=λds S=>match ds with
 |[d]=>(match dJ S d with
  |some xs=>.ok (.lst xs) S
  |none=>.bad)
 |_=>.bad
def Ca:aB:=λds S=>match ds with
 |[.tup xs]=>.ok (.tup xs) S
 |[.b8 xs]=>.ok (.b8 xs) S
 |[d]=>(match d8 S d with
  |some xs=>.ok (.tup xs) S
  |none=>.bad)
 |_=>.bad
theorem lK{K:PySem.W.Frag}{mg:Str->Option Value}{ρ:List Addr}{H:Hp}{d:D}{xs:List V}(r:ay K mg ρ H [d] xs):∃v,xs=[v]/\Rep K mg ρ H d v:=by
 rw[ay]at r;obtain⟨v,b2,e,h1,h2⟩:=r;rw[ay]at h2;grind
theorem adI{K:PySem.W.Frag}{mg:Str->Option Value}{ρ:List Addr}{H:Hp}{d e:D}{xs:List V}(r:ay K mg ρ H [d,e] xs):∃v u,xs=[v,u]/\Rep K mg ρ H d v/\Rep K mg ρ H e u:=by
 rw[ay]at r;obtain⟨v,b2,cN,h1,h2⟩:=r;obtain⟨u,e2,aH⟩:=lK h2;grind
theorem Mr:iL X (.type "list") oJ:=by
 refine⟨_,call_list_of,λWp ρ H S ds xs Q w r p=>?_⟩;unfold oJ at p;split at p
 .split at p
  .rename_i ys ew
   obtain⟨v,e,h1⟩:=lK r;obtain⟨a,vs,aw,aH,r1⟩:=B3 w h1 ew;exact⟨a,vs,by rw[e,aw],aH,λl hl=>yP p w r1 hl⟩
  .exact p.elim
 .exact p.elim
theorem Vn:iL X (.type "tuple") Ca:=by
 refine⟨_,call_tuple_of,λWp ρ H S ds xs Q w r p=>?_⟩
 match ds,r,p with
 |[d],r,p =>
  obtain⟨v,e,h1⟩:=lK r;have go:∀ys,d8 S d=some ys->aV X.K X.mg Wp ρ H Q (.ok (.tup ys) S)->∃p ys,xs=[.ref p]/\((SqL X.K H p ys/\∀l,H l=none->Q (.ref l) (upd H l (.tup ys)))\/(SqT X.K H p ys/\Q (.ref p) H)):=λys ew p=>by
   obtain⟨a,vs,aw,aH,r1⟩:=lI w h1 ew;exact⟨a,vs,by rw[e,aw],.inl ⟨.inl (.inl aH),λl hl=>yO p w r1 hl⟩⟩
  cases d with
  |tup ys =>
   have nr:=h1;rw[Rep]at h1;obtain⟨a,vs,aw,t,r1⟩:=h1;exact⟨a,vs,by rw[e,aw],.inr ⟨t.eQ,by rw[<-aw];exact cA p w nr⟩⟩
  |b8 ys =>
   have nr:=h1;rw[Rep]at h1;obtain⟨a,vs,aw,t,r1⟩:=h1;exact⟨a,vs,by rw[e,aw],.inr ⟨t.eQ,by rw[<-aw];exact cA p w nr⟩⟩
  |lst ys=>exact go ys rfl p
  |ptr n =>
   have p:aV X.K X.mg Wp ρ H Q (match d8 S (.ptr n)with
    |some xs=>.ok (.tup xs) S
    |none=>.bad):=p
   split at p
   .grind
   .exact p.elim
  |_=>exact p.elim
 |[],_,p=>exact p.elim
 |d::_::_,_,p=>cases d<;>exact p.elim
def j2:aB:=λds S=>match ds with
 |[.int i]=>.ok (.int i) S
 |[.bl b]=>.ok (.int (if b=true then 1 else 0)) S
 |_=>.bad
theorem sE:iL X (.type "int") j2:=by
 refine⟨_,call_int1,λWp ρ H S ds xs Q w r p=>?_⟩;unfold j2 at p;split at p
 .obtain⟨v,e,h1⟩:=lK r
  rw[f6 h1]at e;exact .inl ⟨_,e,cA p w ie⟩
 .obtain⟨v,e,h1⟩:=lK r
  rw[nB h1]at e;exact .inr ⟨_,e,cA p w ie⟩
 .exact p.elim
structure uI(X:Cx)(sem:b_):Prop where
 go:∃r:R2,IxR X r/\∀(Wp:Value->Option Addr->Hp->Prop) (ρ:List Addr) (H:Hp) (S:Store) (d e:D) (x y:V) (Q:VK),aN X.K X.mg ρ H S->Rep X.K X.mg ρ H d x->Rep X.K X.mg ρ H e y->aV X.K X.mg Wp ρ H Q (sem d e S)->r x y H Q
theorem uI.or{s t:b_}(h:uI X s)(h':uI X t):uI X (eu s t):=by
 obtain⟨r,o,g⟩:=h.go;obtain⟨b2,e6,g'⟩:=h'.go;refine⟨_,o.or e6,λWp ρ H S d e x y Q w aJ bS p=>?_⟩;unfold eu at p;grind
variable{W:WX}{a b:Expr}{fa fb:aM}{pos:Pos}
theorem adJ{sem:b_}(aY:uI X sem)(ha:E X W a fa)(hb:E X W b fb)(hs:PlainIx b:=by exact λ_ _=>rfl):E X W (.Subscript a b pos) (aq sem fa fb):=by
 obtain⟨r,o,g⟩:=aY.go;exact PE.imp (pe_ix o ha hb hs) λσ H Q h=>Gy h λρ S aD d e x y w aJ bS p=>g _ ρ aD S d e x y Q w aJ bS p
def sF:b_:=λd e S=>match e with
 | .int i=>(match d with
  | .str s=>if s.length<=1000000 then(match atI s.cps.toList i with
   |some c=>.ok (.str ⟨#[c]⟩) S
   |none=>.bad)else .bad
  |d=>(match dJ S d with
   |some xs=>(match atI xs i with
    |some x=>.ok x S
    |none=>.bad)
   |none=>.bad))
 |_=>.bad
theorem adK{K:PySem.W.Frag}{mg:Str->Option Value}{ρ:List Addr}{H:Hp}{ds:List D}{vs:List V}{i:Int}{d:D}(r:ay K mg ρ H ds vs)(h:atI ds i=some d):∃v,atI vs i=some v/\Rep K mg ρ H d v:=by
 unfold atI at h ⊢;rw[<-r.len];cases q:ixN ds.length i with
 |none=>grind
 |some j =>
  rw[q]at h;exact r.get h
theorem adL:uI X sF:=by
 refine⟨_,ix_seq,λWp ρ H S d e x y Q w aJ bS p=>?_⟩;unfold sF at p;split at p
 .rename_i i
  have bD:=f6 bS;have go:∀xs,dJ S d=some xs->aV X.K X.mg Wp ρ H Q (match atI xs i with
    |some x=>.ok x S
    |none=>.bad)->rIx X.K x y H Q:=λxs ea p=>by
   split at p
   .rename_i z Cd
    obtain⟨a,vs,aw,aH,r1⟩:=B3 w aJ ea;obtain⟨v,bT,cZ⟩:=adK r1 Cd;rcases aH with aH|aH
    .exact .inl ⟨a,vs,i,v,aw,bD,aH,bT,cA p w cZ⟩
    .exact .inr (.inl ⟨a,vs,i,v,aw,bD,aH,bT,cA p w cZ⟩)
   .exact p.elim
  cases d with
  |str s =>
   simp only at p;split at p
   .rename_i hl
    split at p
    .rename_i c eJ
     exact .inr (.inr ⟨s,i,c,fM aJ,bD,jY hl,eJ,cA p w nC⟩)
    .exact p.elim
   .exact p.elim
  |tup xs=>exact go xs rfl p
  |b8 xs=>exact go xs rfl p
  |lst xs=>exact go xs rfl p
  |ck xs=>exact go _ rfl p
  |ptr n =>
   simp only at p;split at p
   .grind
   .exact p.elim
  |_=>exact p.elim
 .exact p.elim
end
end Z
namespace Za
open PySem PySem.Spec PyProof.Rows L2
inductive Src where
 |L (a:Addr)
 |T (a:Addr)
 |S (x:Str)
def Src.val:Src->V
 | .L a=>.ref a
 | .T a=>.ref a
 | .S x=>.str x
def Src.At(K:PySem.W.Frag)(H:Hp):Src->List V->Prop
 | .L a,vs=>SqL K H a vs
 | .T a,vs=>SqT K H a vs
 | .S x,vs=>vs=x.cps.toList.map λc=>V.str ⟨#[c]⟩
def Src.It(h:Heap)(it:Addr):Src->Nat->Prop
 | .L a,i=>h.IsListIter it a i
 | .T a,i=>h.IsTupleIter it a i
 | .S x,i=>∃t,h.IsStrIter it (strIterType x) x t i
def Src.adr:Src->Option Addr
 | .L a=>some a
 | .T a=>some a
 | .S _=>none
theorem Src.It.obj{h:Heap}{it:Addr}{i:Nat}:∀{s:Src},s.It h it i->∃o,h.get? it=some o/\∀v,o.data≠.cell v
 | .L a,st=>by obtain⟨o,e,_,d⟩:=st;grind
 | .T a,st=>by obtain⟨o,e,_,d⟩:=st;grind
 | .S x,st=>by obtain⟨t,o,e,_,d⟩:=st;grind
theorem Src.It.keep{h h':Heap}{it:Addr}{i:Nat}(k:∀o,h.get? it=some o->h'.get? it=some o):∀{s:Src},s.It h it i->s.It h' it i
 | .L a,st=>st.at k
 | .T a,st=>st.at k
 | .S x,st=>by obtain⟨t,o,e,r⟩:=st;exact⟨t,o,k o e,r⟩
theorem Vo{vs:List V}{its:List Value}(r:Vals vs its){j:Nat}{v:Value}(e:its[j]?=some v):∃x,vs[j]?=some x/\RelV x v:=by
 have hl:=r.length;have cK:=(List.getElem?_eq_some_iff.mp e).1;have hx:vs[j]?=some (vs[j]'(by omega)):=by simp
 obtain⟨u,h1,h2⟩:=r.get hx;simp_all
section
variable{X:Cx}{pins:List (Addr×Obj)}{σ:L2.St}{H:Hp}{s:Shared}
theorem Ms(I:Inv X pins σ H s):∀{c:Src} {xs ys:List V},c.At X.K H xs->c.At X.K H ys->xs=ys
 | .L a,_,_,h,h'=>I.list_inj h h'
 | .T a,_,_,h,h'=>I.tuple_inj h h'
 | .S x,_,_,h,h'=>Eq.trans h (Eq.symm h')
theorem y4(I:Inv X pins σ H s){A:Around}(hh:A.handled=none){c:Src}{vs:List V}{i:Nat}{it:Addr}(ha:c.At X.K H vs)(hi:c.It s.heap it i)(hn:c.adr≠some it) :
  ∃(fp:List Addr) (P:Nat->Value->Prop) (St:Nat->Heap->Prop),Draws X.prog X.w A it fp vs.length P St/\St i s.heap/\(∀j v,P j v->∃x,vs[j]?=some x/\RelV x v)/\it∈fp/\(∀b∈fp,b=it\/c.adr=some b)/\∀j h,St j h->c.It h it j:=by
 cases c with
 |L a =>
  obtain⟨its,aW,p,_⟩:=I.list ha;have hl:its.toArray.size=vs.length:=by rw[ly];exact aW.length.symm
  refine⟨[it,a],_,_,hl▸Draws.list hh it a (λe=>hn (by rw[<-e];rfl)) its.toArray,⟨hi,p.isList⟩,λj v q=>?_,by simp,λb hb=>?_,λj h st=>st.1⟩
  .have q:its[j]?=some v:=by simpa using q
   exact Vo aW q
  .rcases fQ.mp hb with e|e
   .exact .inl e
   .exact .inr (by rw[qA.mp e];rfl)
 |T a =>
  obtain⟨its,aW,p,_⟩:=I.tuple ha;have hl:its.toArray.size=vs.length:=by rw[ly];exact aW.length.symm
  refine⟨[it,a],_,_,hl▸Draws.tuple hh it a (λe=>hn (by rw[<-e];rfl)) its.toArray,⟨hi,p⟩,λj v q=>?_,by simp,λb hb=>?_,λj h st=>st.1⟩
  .have q:its[j]?=some v:=by simpa using q
   exact Vo aW q
  .rcases fQ.mp hb with e|e
   .exact .inl e
   .exact .inr (by rw[qA.mp e];rfl)
 |S x =>
  obtain⟨t,hi⟩:=hi;have ha:vs=x.cps.toList.map λc=>V.str ⟨#[c]⟩:=ha;have hl:x.cps.size=vs.length:=by rw[ha];simp
  refine⟨[it],_,_,hl▸Draws.text hh it x t,hi,λj v q=>?_,by simp,λb hb=>.inl (by grind),λj h st=>⟨t,st⟩⟩;obtain⟨c,u,e,q⟩:=q;subst q;exact⟨.str ⟨#[c]⟩,by grind,u,rfl⟩
theorem Mu(I:Inv X pins σ H s){c:Src}{vs:List V}{u:Value}(ha:c.At X.K H vs)(r:RelV c.val u):∃(o:Obj) (B:Heap->Prop),Begins u o B/\B s.heap/\∀h it,h.get? it=some o->c.It h it 0:=by
 cases c with
 |L a =>
  obtain⟨its,aW,p,_⟩:=I.list ha;obtain rfl:u=Value.ref a:=r;exact⟨_,_,begins_list a its.toArray,p.isList,λh it e=>⟨_,e,rfl,rfl⟩⟩
 |T a =>
  obtain⟨its,aW,p,_⟩:=I.tuple ha;obtain rfl:u=Value.ref a:=r;exact⟨_,_,begins_tuple a its.toArray,p,λh it e=>⟨_,e,rfl,rfl⟩⟩
 |S x =>
  obtain⟨t,rfl⟩:=r;exact⟨_,_,begins_text x t,trivial,λh it e=>⟨t,_,e,rfl,rfl⟩⟩
theorem Vp(I:Inv X pins σ H s):∀{c:Src} {vs:List V} {b:Addr},c.At X.K H vs->c.adr=some b->b<s.heap.objs.size
 | .L a,_,_,h,e=>by
  cases e;obtain⟨its,aW,p,_⟩:=I.list h;exact p.lt
 | .T a,_,_,h,e=>by
  cases e;obtain⟨its,aW,⟨o,q,_⟩,_⟩:=I.tuple h;exact Heap.lt_size q
end
def Vq(K:PySem.W.Frag)(c d:Src):L2.It :=
 ⟨λi H=>∃(xs ys:List V) (x y:V),c.At K H xs/\d.At K H ys/\xs[i]?=some x/\ys[i]?=some y,
  λi H v H'=>∃T x y,v=.ref T/\H T=none/\H'=upd H T (.tup [x,y])/\(∀xs,c.At K H xs->xs[i]?=some x)/\∀ys,d.At K H ys->ys[i]?=some y,
  λi H=>∃xs ys:List V,c.At K H xs/\d.At K H ys/\i<=xs.length/\i<=ys.length/\(i=xs.length\/i=ys.length)⟩
structure Apart(z TI TO i1 i2:Addr)(c d:Src):Prop where
 G7:TI≠z
 Mv:TO≠z
 TITO:TI≠TO
 Mw:TI≠i1
 Mx:TI≠i2
 Vr:TO≠i1
 Vs:TO≠i2
 lL:z≠i1
 ig:z≠i2
 i12:i1≠i2
 jD:∀b,c.adr=some b->b≠z/\b≠TI/\b≠TO/\b≠i1/\b≠i2
 qR:∀b,d.adr=some b->b≠z/\b≠TI/\b≠TO/\b≠i1/\b≠i2
theorem adM{P:Program}{w:World}{K:PySem.W.Frag}{elts:List Expr}{kk:Nat}{oK:Pos}{c d:Src}{z TI TO i1 i2:Addr}(D:Apart z TI TO i1 i2 c d) :
  Turn P w K (.Tuple elts kk oK) (Vq K c d) [z,TI,TO,i1,i2] z (λi h=>IsZip h z TI TO .none/\IsTupOf2 h TI (.ref i1) (.ref i2)/\(∃x y,IsTupOf2 h TO x y)/\c.It h i1 i/\d.It h i2 i) where
 mem:=by simp
 obj:=λi h st b hb=>by
  obtain⟨hz,qU,⟨x,y,sG⟩,h1,h2⟩:=st;have cN:b=z\/b=TI\/b=TO\/b=i1\/b=i2:=by simpa using hb
  rcases cN with q|q|q|q|q
  .grind
  .grind
  .grind
  .rw[q];exact h1.obj
  .rw[q];exact h2.obj
 keep:=λi h h' st k=>by
  obtain⟨hz,qU,⟨x,y,sG⟩,h1,h2⟩:=st;exact⟨k z (by simp) _ hz,k TI (by simp) _ qU,⟨x,y,k TO (by simp) _ sG⟩,h1.keep λo q=>k i1 (by simp) o q,h2.keep λo q=>k i2 (by simp) o q⟩
 item:=by
  intro X bU hw hK hc i pins s σ H E I hf st hg;subst bU hw hK;obtain⟨hz,qU,⟨x0,y5,sG⟩,h1,h2⟩:=st;obtain⟨xs,ys,x,y,G8,G9,hx,bD⟩:=hg;obtain⟨My,Mz,MA,wB,wC,g1,m1,b1,dS⟩:=y4 (A:=X.A.in1) I (I.ok.hd hc) G8 h1 (λe=>(D.jD _ e).2.2.2.1 rfl);obtain⟨MB,adN,adO,MC,MD,g2,m2,hH,cX⟩:=y4 (A:=X.A.in1) I (I.ok.hd hc) G9 h2 (λe=>(D.qR _ e).2.2.2.2 rfl);have S:ZipSep2 z TI TO i1 i2 My MB:=by
   refine⟨D.G7,D.Mv,D.TITO,D.Mw,m1,λh=>?_,λh=>?_,D.Mx,m2,λh=>?_,λh=>?_,λh=>?_,λh=>?_⟩
   .rcases b1 _ h with e|e
    .exact D.lL e
    .exact(D.jD _ e).1 rfl
   .rcases b1 _ h with e|e
    .exact D.Vr e
    .exact(D.jD _ e).2.2.1 rfl
   .rcases hH _ h with e|e
    .exact D.ig e
    .exact(D.qR _ e).1 rfl
   .rcases hH _ h with e|e
    .exact D.Vs e
    .exact(D.qR _ e).2.2.1 rfl
   .rcases hH _ h with e|e
    .exact D.i12 e
    .exact(D.qR _ e).2.2.2.1 rfl
   .rcases b1 _ h with e|e
    .exact D.i12 e.symm
    .exact(D.jD _ e).2.2.2.2 rfl
  have adP:z<s.heap.objs.size:=Heap.lt_size hz;refine wpAny_pyNext_zipD2_item S wB MC hz qU sG wC MD (List.getElem?_eq_some_iff.mp hx).1 (List.getElem?_eq_some_iff.mp bD).1 λu u2 h' tk p1 p2 adQ adR adS adT d9 eR hk=>?_;obtain⟨uJ,ex,cU⟩:=g1 i u p1;obtain⟨at0,ew,adU⟩:=g2 i u2 p2;rw[hx]at ex;cases ex;rw[bD]at ew;cases ew;refine⟨_,rfl,wpAny_letOwnedTupleGo_zip (s:={ s with heap:=h',toks:=tk }) adQ λwD adV sb=>?_⟩;have ME:wD.get? s.heap.objs.size=some { cls:=.type "tuple",data:=.seq #[u,u2] }:=(sb.2 _ (um adP)).trans d9;have new:ObjOk X.prog X.w (upd H s.heap.objs.size (.tup [x,y])) wD s.heap.objs.size (.tup [x,y]) :=
   ⟨by show 2<=sizeLine;decide,[u,u2],.cons cU (.cons adU .nil),⟨_,ME,rfl,_,rfl⟩⟩
  have I1:Inv X pins σ (upd H s.heap.objs.size (.tup [x,y])) { s with heap:=wD,toks:=tk } :=
   I.turnedNew (t':=tk) (ch:=[z,TI,TO,i1,i2]) (λc o hb q=>(sb.2 c (λej=>hb (by simp[ej]))).trans (hk c o (λej=>hb (by simp[ej])) (λej=>hb (by simp[ej])) (λej=>hb (by simp[ej])) (λej=>hb (by simp[ej])) q)) hf (Nat.le_refl _) new
  refine⟨.ref s.heap.objs.size,_,I1,rfl,⟨_,x,y,rfl,I.hok.fresh (Nat.le_refl _),rfl,λl hl=>by rw[Ms I hl G8];exact hx,λl hl=>by rw[Ms I hl G9];exact bD⟩,⟨adV,?_,⟨u,u2,?_⟩,?_,?_⟩,λb nE=>?_⟩
  .exact(sb.2 _ D.G7).trans (hk _ _ D.G7 D.TITO D.Mw D.Mx qU)
  .exact(sb.2 _ D.Mv).trans adR
  .exact(dS _ _ adS).keep λo q=>(sb.2 _ (g8 D.lL)).trans q
  .exact(cX _ _ adT).keep λo q=>(sb.2 _ (g8 D.ig)).trans q
  .have c6:b<s.heap.objs.size:=by
    have cN:b=z\/b=TI\/b=TO\/b=i1\/b=i2:=by simpa using nE
    rcases cN with q|q|q|q|q
    .grind
    .rw[q];exact Heap.lt_size qU
    .rw[q];exact Heap.lt_size sG
    .rw[q];obtain⟨_,aw,_⟩:=h1.obj;exact Heap.lt_size aw
    .rw[q];obtain⟨_,aw,_⟩:=h2.obj;exact Heap.lt_size aw
   rw[upd_ne (h_ c6)];exact(hf b nE).1
 done:=by
  intro X bU hw hK hc i pins s σ H E I hf st hg;subst bU hw hK;obtain⟨hz,qU,⟨x0,y5,sG⟩,h1,h2⟩:=st;obtain⟨xs,ys,G8,G9,ik,sH,hU⟩:=hg;obtain⟨My,Mz,MA,wB,wC,g1,m1,b1,dS⟩:=y4 (A:=X.A.in1) I (I.ok.hd hc) G8 h1 (λe=>(D.jD _ e).2.2.2.1 rfl);obtain⟨MB,adN,adO,MC,MD,g2,m2,hH,cX⟩:=y4 (A:=X.A.in1) I (I.ok.hd hc) G9 h2 (λe=>(D.qR _ e).2.2.2.2 rfl);have S:ZipSep2 z TI TO i1 i2 My MB:=by
   refine⟨D.G7,D.Mv,D.TITO,D.Mw,m1,λh=>?_,λh=>?_,D.Mx,m2,λh=>?_,λh=>?_,λh=>?_,λh=>?_⟩
   .rcases b1 _ h with e|e
    .exact D.lL e
    .exact(D.jD _ e).1 rfl
   .rcases b1 _ h with e|e
    .exact D.Vr e
    .exact(D.jD _ e).2.2.1 rfl
   .rcases hH _ h with e|e
    .exact D.ig e
    .exact(D.qR _ e).1 rfl
   .rcases hH _ h with e|e
    .exact D.Vs e
    .exact(D.qR _ e).2.2.1 rfl
   .rcases hH _ h with e|e
    .exact D.i12 e
    .exact(D.qR _ e).2.2.2.1 rfl
   .rcases b1 _ h with e|e
    .exact D.i12 e.symm
    .exact(D.jD _ e).2.2.2.2 rfl
  exact wpAny_pyNext_zipD2_end S wB MC hz qU sG wC MD ik sH hU λh' tk hk=>⟨rfl,I.turnedL (t':=tk) (ch:=[z,TI,TO,i1,i2]) (λc o hb q =>
   hk c o (λej=>hb (by simp[ej])) (λej=>hb (by simp[ej])) (λej=>hb (by simp[ej])) (λej=>hb (by simp[ej])) q) hf⟩
 self:=λA i s Q E st h=>wpAny_pyIter_zip st.1 h
def adW(K:PySem.W.Frag)(kW:TA):TI:=λσ H R=>kW σ H λvs H1=>∃(c d:Src) (xs ys:List V),vs=[c.val,d.val]/\c.At K H1 xs/\d.At K H1 ys/\R (Vq K c d) H1
theorem adX{X:Cx}{e e2:Expr}{kW:TA}{p pos oK:Pos}{elts:List Expr}{kk:Nat}(hg:Gl X "zip")(hm:X.mg "zip"=none)(ha:PA X [e,e2] kW)
  (hs:starEach [e,e2] X.env=(false,eval e X.env)::starEach [e2] X.env:=by rfl) (fK:(backTo pos (starEach [e2] X.env)).any (·.1)=false:=by rfl) :
  PI X (.Tuple elts kk oK) (.Call (.Name "zip" p) [e,e2] [] pos) (adW X.K kW):=by
 refine⟨λpins s σ H R I h=>?_⟩;refine Call_ (ld_blt I hg hm PyProof.Rows.boot_zip (PyProof.Rows.callWith_type1 (thn (ha.run pos pins s σ H _ I h) λus s1 ⟨vs,H1,I1,r1,bN⟩=>?_) hs fK));obtain⟨c,d,xs,ys,ex,hc,hd,q⟩:=bN;subst ex;cases r1 with
 |cons r bY =>
  cases bY with
  |cons b2 bY =>
   cases bY;obtain⟨adY,adZ,MF,MG,dS⟩:=Mu I1 hc r;obtain⟨sI,Vt,ad0,MH,cX⟩:=Mu I1 hd b2;refine zip_begins2 MF ad0 MG MH λh' hz qU sG g1 g2 eR hk=>wpAny_pyIter_zip hz ?_;have I2:Inv X pins σ H1 { s1 with heap:=h' }:=I1.kept (t':=s1.toks) hk;have Ce:∀(cc:Src) (zs:List V),cc.At X.K H1 zs->∀b,cc.adr=some b->b≠s1.heap.objs.size+4/\b≠s1.heap.objs.size+2/\b≠s1.heap.objs.size+3/\b≠s1.heap.objs.size/\b≠s1.heap.objs.size+1:=λcc zs hz b e=>by
    have:=Vp I1 hz e;grind
   have MI:Apart (s1.heap.objs.size+4) (s1.heap.objs.size+2) (s1.heap.objs.size+3) s1.heap.objs.size (s1.heap.objs.size+1) c d:=by
    refine⟨?_,?_,?_,?_,?_,?_,?_,?_,?_,?_,Ce c xs hc,Ce d ys hd⟩<;>(simp)
   refine⟨s1.heap.objs.size+4,[s1.heap.objs.size+4,s1.heap.objs.size+2,s1.heap.objs.size+3,s1.heap.objs.size,s1.heap.objs.size+1],_,_,H1,rfl,I2,adM MI,⟨hz,qU,⟨_,_,sG⟩,dS _ _ g1,cX _ _ g2⟩,λb nE=>?_,q⟩;have cN:b=s1.heap.objs.size+4\/b=s1.heap.objs.size+2\/b=s1.heap.objs.size+3\/b=s1.heap.objs.size\/b=s1.heap.objs.size+1:=by simpa using nE
   have hle:s1.heap.objs.size<=b:=by
    rcases cN with z|z|z|z|z
    .grind
    .grind
    .grind
    .grind
    .grind
   exact I1.fpOk hle (I1.hok.fresh hle)
set_option maxHeartbeats 1000000 in
theorem ad1{v:Value}{o:Obj}{B:Heap->Prop}(G_:Begins v o B) :
  Meets (Builtin.«enumerate.__new__» ⟨[.type "enumerate",v],[]⟩) (λ_ R s=>B s.heap /\
   R (.ok (.ret (.ref (s.heap.push o).objs.size))) { s with heap:=(s.heap.push o).push { cls:=.type "enumerate",data:=.fields #[.none,.bool false,.ref s.heap.objs.size,rawInt 0,.none,.none] } }) :=
 .of_wp λprog w A R s h=>by
  obtain⟨hp,g,d,tk,os⟩:=s;obtain⟨h1,h⟩:=h;have qV:=sub_enumerate;have bN:∀{ad2:Around} {E:Value->Shared->Prop} {Q:Value->Shared->Prop},Q (.ref hp.objs.size) ⟨(hp.push o),g,d,tk,os⟩->wpAny (model prog w) ad2 (pyIter v) Q E ⟨hp,g,d,tk,os⟩ :=
   λq=>G_.iter prog w _ _ ⟨hp,g,d,tk,os⟩ _ h1 q
  wp_walk
  refine wpAny_stack_any λst=>wpAny_pure ?_;split
  .rename_i c _ _ _ _ _
   cases(c==Value.type "enumerate")
   .wp_walk using bN
    exact⟨_,rfl,h⟩
   .wp_walk using bN
    exact⟨_,rfl,h⟩
  .wp_walk using bN
   exact⟨_,rfl,h⟩
theorem ad3{prog:Program}{w:World}{A:Around}{E:Value->Shared->Prop}{s:Shared}{v:Value}{o:Obj}{B:Heap->Prop}{Q:Value->Shared->Prop}(G_:Begins v o B)(h1:B s.heap)
  (h:∀h',IsEnum h' (s.heap.objs.size+1) s.heap.objs.size 0 .none->h'.get? s.heap.objs.size=some o->h'.objs.size=s.heap.objs.size+2 ->
   (∀b o,s.heap.get? b=some o->h'.get? b=some o)->Q (.ref (s.heap.objs.size+1)) { s with heap:=h' }) :
  wpAny (model prog w) A (call (.type "enumerate") [v]) Q E s:=by
 refine callType_new F.called_enumerate (by decide) (F.typeCall_enumerate_1 _) (F.newCall_enumerate_1 _) (λobj=>F.args_object_init_2 obj _) F.entry_enumerate_new
  (ad1 G_) ⟨h1,?_⟩
 have hz:(s.heap.push o).objs.size=s.heap.objs.size+1:=Heap.size_push ..;show _/\_;rw[hz];have he:IsEnum ((s.heap.push o).push { cls:=.type "enumerate",data:=.fields #[.none,.bool false,.ref s.heap.objs.size,rawInt 0,.none,.none] }) (s.heap.objs.size+1) s.heap.objs.size 0 .none:=by
  have:=Heap.get?_push_size (s.heap.push o) (o:={ cls:=.type "enumerate",data:=.fields #[.none,.bool false,.ref s.heap.objs.size,rawInt 0,.none,.none] }) rfl;rw[hz]at this;exact this
 exact⟨⟨_,he,rfl⟩,h _ he (Heap.get?_push_of_some _ (Heap.get?_push_size _ G_.free)) (by simp) λb o x=>Heap.get?_push_of_some _ (Heap.get?_push_of_some _ x)⟩
def Vu(K:PySem.W.Frag)(c:Src):L2.It :=
 ⟨λi H=>∃(xs:List V) (x:V),c.At K H xs/\xs[i]?=some x,
  λi H v H'=>∃T x,v=.ref T/\H T=none/\H'=upd H T (.tup [.int (i:Nat),x])/\∀xs,c.At K H xs->xs[i]?=some x,
  λi H=>∃xs:List V,c.At K H xs/\i=xs.length⟩
theorem ad4{P:Program}{w:World}{K:PySem.W.Frag}{elts:List Expr}{kk:Nat}{oK:Pos}{c:Src}{e it:Addr}(d5:e≠it)(Cg:c.adr≠some e)(nF:c.adr≠some it) :
  Turn P w K (.Tuple elts kk oK) (Vu K c) [e,it] e (λi h=>(∃old,IsEnum h e it ((i:Nat):Int) old)/\c.It h it i) where
 mem:=by simp
 obj:=λi h st b hb=>by
  obtain⟨⟨old,he⟩,h1⟩:=st;have cN:b=e\/b=it:=by simpa using hb
  rcases cN with z|z
  .grind
  .rw[z];exact h1.obj
 keep:=λi h h' st k=>let ⟨⟨old,he⟩,hi⟩:=st;⟨⟨old,k e (by simp) _ he⟩,hi.keep λo q=>k it (by simp) o q⟩
 item:=by
  intro X bU hw hK hc i pins s σ H E I hf st hg;subst bU hw hK;obtain⟨⟨old,he⟩,hit⟩:=st;obtain⟨xs,x,hq,hx⟩:=hg;obtain⟨fp,Mz,MA,wB,wC,g1,m1,b1,dS⟩:=y4 (A:=X.A.in1) I (I.ok.hd hc) hq hit nF;have ad5:e<s.heap.objs.size:=Heap.lt_size he;have at1:it<s.heap.objs.size:=by obtain⟨_,q,_⟩:=hit.obj;exact Heap.lt_size q
  have ad6:e∉fp:=λh=>by
   grind
  refine wpAny_pyNext_enum_itemD wB he wC (List.getElem?_eq_some_iff.mp hx).1 d5 ad6 λu h' tk p aY ad7 d9 eR hk=>?_;obtain⟨uJ,ex,cU⟩:=g1 i u p;rw[hx]at ex;cases ex;refine⟨_,rfl,wpAny_letOwnedTupleGo_enum (s:={ s with heap:=h',toks:=tk+1 }) aY λwD at3 sb=>?_⟩;have ME:wD.get? s.heap.objs.size=some { cls:=.type "tuple",data:=.seq #[.int i tk,u] }:=(sb.2 _ (um ad5)).trans d9;have new:ObjOk X.prog X.w (upd H s.heap.objs.size (.tup [.int (i:Nat),x])) wD s.heap.objs.size (.tup [.int (i:Nat),x]) :=
   ⟨by show 2<=sizeLine;decide,[.int i tk,u],.cons ⟨_,rfl⟩ (.cons cU .nil),⟨_,ME,rfl,_,rfl⟩⟩
  have I1:Inv X pins σ (upd H s.heap.objs.size (.tup [.int (i:Nat),x])) { s with heap:=wD,toks:=tk+1 } :=
   I.turnedNew (ch:=[e,it]) (λb ob hb q=>(sb.2 b (λz=>hb (by simp[z]))).trans (hk b ob (λz=>hb (by simp[z])) (λz=>hb (by simp[z])) q)) hf (Nat.le_refl _) new
  refine⟨.ref s.heap.objs.size,_,I1,rfl,⟨_,x,rfl,I.hok.fresh (Nat.le_refl _),rfl,λys bD=>by rw[Ms I bD hq];exact hx⟩,⟨⟨u,?_⟩,(dS _ _ ad7).keep λo q=>(sb.2 it (g8 d5)).trans q⟩,λb hb=>?_⟩
  .grind
  .have ad8:b<s.heap.objs.size:=by
    have cN:b=e\/b=it:=by simpa using hb
    rcases cN with z|z
    .grind
    .grind
   rw[upd_ne (h_ ad8)];exact(hf b hb).1
 done:=by
  intro X bU hw hK hc i pins s σ H E I hf st hg;subst bU hw hK;obtain⟨⟨old,he⟩,hit⟩:=st;obtain⟨xs,hq,hx⟩:=hg;obtain⟨fp,Mz,MA,wB,wC,g1,m1,b1,dS⟩:=y4 (A:=X.A.in1) I (I.ok.hd hc) hq hit nF;obtain⟨f0,f1,f2,f3,f4,Ci⟩:=hf it (by simp);subst hx;exact wpAny_pyNext_enum_endD wB he wC λh' eb=>⟨rfl,I.turned (t':=s.toks) (λb o hb q=>eb b o hb q) f0 f1 f3 f4 Ci⟩
 self:=λA i s Q E st h=>let ⟨⟨_,he⟩,_⟩:=st;wpAny_pyIter_enum he h
def ad9(K:PySem.W.Frag)(kW:TA):TI:=λσ H R=>kW σ H λvs H1=>∃(c:Src) (xs:List V),vs=[c.val]/\c.At K H1 xs/\R (Vu K c) H1
theorem aea{X:Cx}{e:Expr}{kW:TA}{p pos oK:Pos}{elts:List Expr}{kk:Nat}(hg:Gl X "enumerate")(hm:X.mg "enumerate"=none)(ha:PA X [e] kW)(hs:starEach [e] X.env=[(false,eval e X.env)]:=by rfl) :
  PI X (.Tuple elts kk oK) (.Call (.Name "enumerate" p) [e] [] pos) (ad9 X.K kW):=by
 refine⟨λpins s σ H R I h=>?_⟩;refine Call_ (ld_blt I hg hm boot_enumerate (PyProof.Rows.callWith_type1 (thn (ha.run pos pins s σ H _ I h) λus s1 ⟨vs,H1,I1,r1,bN⟩=>?_) hs rfl));obtain⟨c,xs,ex,hc,q⟩:=bN;subst ex;cases r1 with
 |cons r bY =>
  cases bY;obtain⟨adY,adZ,MF,MG,dS⟩:=Mu I1 hc r;refine ad3 MF MG λh' he g1 eR hk=>wpAny_pyIter_enum he ?_;have I2:Inv X pins σ H1 { s1 with heap:=h' }:=I1.kept (t':=s1.toks) hk;have Ce:∀b,c.adr=some b->b<s1.heap.objs.size:=λb e=>Vp I1 hc e;refine⟨s1.heap.objs.size+1,[s1.heap.objs.size+1,s1.heap.objs.size],_,_,H1,rfl,I2,ad4 (Nat.succ_ne_self _) (λe=>absurd (ou (Nat.le_add_right _ _) (Ce _ e)) (ni _)) (λe=>absurd (Ce _ e) (ni _)),⟨⟨.none,he⟩,dS _ _ g1⟩,λb hb=>?_,q⟩;have cN:b=s1.heap.objs.size+1\/b=s1.heap.objs.size:=by simpa using hb
  have hle:s1.heap.objs.size<=b:=by
   rcases cN with z|z
   .grind
   .grind
  exact I1.fpOk hle (I1.hok.fresh hle)
end Za
namespace Z
open PySem PySem.Spec L2
section
variable{K:PySem.W.Frag}{mg:Str->Option Value}{ρ:List Addr}{H:Hp}{S:Store}
theorem Ext.put{p:Addr}{o:HO}(hp:p∈ρ):Ext ρ H ρ (upd H p o):=⟨⟨[],by simp⟩,λa h n=>absurd h n,λa u n h=>.inl (by rw[upd_ne (λq=>n (by grind))];exact h)⟩
theorem Vv{α:Type}:∀{l:List α} {i j:Nat} {a:α},l.Nodup->l[i]?=some a->l[j]?=some a->i=j
 |[],_,_,_,_,h,_=>by simp at h
 |x::l,0,0,_,_,_,_=>rfl
 |x::l,0,j+1,a,hn,h1,h2=>by
  grind
 |x::l,i+1,0,a,hn,h1,h2=>by
  grind
 |x::l,i+1,j+1,a,hn,h1,h2=>by
  simp only[KC]at h1 h2;rw[Vv (qC.mp hn).2 h1 h2]
theorem aN.put(w:aN K mg ρ H S){n:Nat}{p:Addr}{o:HO}{m:dH}(hn:ρ[n]?=some p)(hm:kh K mg ρ (upd H p o) p m):aN K mg ρ (upd H p o) (S.set n m):=by
 have hp:p∈ρ:=jV hn;refine⟨by simp[w.len],w.nd,λa ha=>?_,λj a fS aw e2=>?_⟩
 .by_cases q:a=p
  .rw[q,upd_same];simp
  .rw[upd_ne q];exact w.tr a ha
 .by_cases q:j=n
  .grind
  .rw[lx (g8 q)]at e2
   have MI:a≠p:=λe=>by
    subst e;exact q (Vv w.nd aw hn)
   exact kh.ext (Ext.put hp) (upd_ne MI) (w.ob j a fS aw e2)
theorem MJ{Wp:Value->Option Addr->Hp->Prop}{Q:VK}{d:D}{v:V}{n:Nat}{p:Addr}{o:HO}{m:dH}(h:aV K mg Wp ρ H Q (.ok d (S.set n m)))(w:aN K mg ρ H S)(hn:ρ[n]?=some p)(hm:kh K mg ρ (upd H p o) p m)(r:Rep K mg ρ H d v):Q v (upd H p o) :=
 h v ρ _ (Ext.put (jV hn)) (w.put hn hm) (r.ext (Ext.put (jV hn)))
theorem Ext.putL{p:Addr}{o:HO}{n:Nat}(hn:ρ[n]?=some p):Ext ρ H ρ (upd H p o):=Ext.put (jV hn)
theorem G'(w:aN K mg ρ H S){n:Nat}{v:V}{xs:List D}(r:Rep K mg ρ H (.ptr n) v)(e:S[n]?=some (.lst xs)):∃a vs,v=.ref a/\ρ[n]?=some a/\H a=some (.lst vs)/\ay K mg ρ H xs vs:=by
 rw[Rep]at r;obtain⟨a,aw,q⟩:=r;obtain⟨vs,h1,h2⟩:=w.ob n a _ q e;grind
theorem aeb(w:aN K mg ρ H S){n:Nat}{v:V}{ks xs:List D}(r:Rep K mg ρ H (.ptr n) v)(e:S[n]?=some (.dct false ks xs)):∃a kvs,v=.ref a/\ρ[n]?=some a/\H a=some (.dK kvs)/\ay K mg ρ H ks (kvs.map λp=>kV p.1)/\ay K mg ρ H xs (kvs.map (·.2)):=by
 rw[Rep]at r;obtain⟨a,aw,q⟩:=r;obtain⟨kvs,h1,h2,aH⟩:=w.ob n a _ q e;grind
end
abbrev kX:=D->aB
def dD(ty:Store->D->Bool)(sem:kX)(fo:aM)(fa:du):aM:=λsl S=>(fo sl S).bind λd S1=>if ty S1 d=true then(fa sl S1).bind λds S2=>sem d ds S2 else .bad
def il(_:Store):D->Bool
 | .str _=>true
 |_=>false
def iT(S:Store)(d:D):Bool:=(d8 S d).isSome
section
variable{X:Cx}{W:WX}
structure wF(X:Cx)(id:String)(sem:kX):Prop where
 go:∃r:V->List V->Hp->VK->Prop,MtR X id r/\∀(Wp:Value->Option Addr->Hp->Prop) (ρ:List Addr) (H:Hp) (S:Store) (d:D) (ds:List D) (x:V) (xs:List V) (Q:VK),aN X.K X.mg ρ H S->Rep X.K X.mg ρ H d x->ay X.K X.mg ρ H ds xs->aV X.K X.mg Wp ρ H Q (sem d ds S)->r x xs H Q
theorem Ha{K:PySem.W.Frag}{mg:Str->Option Value}{ρ:List Addr}{H:Hp}{S:Store}{d:D}{x:V}(_:aN K mg ρ H S)(r:Rep K mg ρ H d x)(h:il S d=true):tyV K "str" x H:=by
 cases d with
 |str s=>rw[fM r];exact rfl
 |_=>cases h
theorem y6{K:PySem.W.Frag}{mg:Str->Option Value}{ρ:List Addr}{H:Hp}{S:Store}{d:D}{x:V}(w:aN K mg ρ H S)(r:Rep K mg ρ H d x)(h:iT S d=true):tyV K "list" x H:=by
 unfold iT at h;obtain⟨ds,e⟩:=Option.isSome_iff_exists.mp h;obtain⟨a,vs,aw,h1,_⟩:=lI w r e;rw[aw];exact .inl ⟨rfl,vs,.inl (.inl h1)⟩
variable{o e:Expr}{es:List Expr}{fo:aM}{fa:du}{apos oL:Pos}{name:Str}{T id:String}{sem:kX}{ty:Store->D->Bool}
theorem Vw{σ:L2.St}{H:Hp}{Q:VK}{K:PySem.W.Frag}{mg:Str->Option Value}{pJ:V->Hp->Prop}{k:V->List V->Hp->Prop}(h:gO K mg W (dD ty sem fo fa) σ H Q)
  (h0:∀ρ H S d x,aN K mg ρ H S->Rep K mg ρ H d x->ty S d=true->pJ x H)
  (hk:∀ρ S aD d ds x xs,aN K mg ρ aD S->Rep K mg ρ aD d x->ay K mg ρ aD ds xs->aV K mg (λC d H'=>W C d σ H') ρ aD Q (sem d ds S)->k x xs aD) :
  gO K mg W fo σ H λx H1=>pJ x H1/\wd K mg W fa σ H1 λxs aD=>k x xs aD:=by
 obtain⟨ρ,S,sl,w,rs,p⟩:=h;refine⟨ρ,S,sl,w,rs,aV.mono (aV.fJ p) λx H1 ⟨aA,S1,d,x1,aF,r1,_,p1⟩=>?_⟩;split at p1
 .rename_i ht
  refine⟨h0 _ _ _ _ _ aF r1 ht,aA,S1,sl,aF,rs.ext x1,eZ.mono (eZ.fJ p1) λxs aD ⟨aO,S2,ds,x2,cm,r2,_,p2⟩=>?_⟩;exact hk aO S2 aD d ds x xs cm (r1.ext x2) r2 p2
 .exact p1.elim
theorem uK(hm:wF X id sem)(MK:∀ρ H S d x,aN X.K X.mg ρ H S->Rep X.K X.mg ρ H d x->ty S d=true->tyV X.K T x H)(ML:PlainAttrs T)(slot:Slot T name id)(hi:typeOf (.builtin id)=pure (.type "method_descriptor"))(aY:E X W o fo)(ha:gQ X W (e::es) fa)
  (MN:attributeBase o name X.env (eval o X.env)=eval o X.env:=by rfl)
  (aec:((backTo oL (starEach (e::es) X.env)).all (λx => !x.1)&&(backToKw oL (keywordEach [] X.env)).all (λx=>x.1.isSome)
   && decide ((e::es).length+([]:List Keyword).length+(if([]:List Keyword).isEmpty then 0 else 1)<30))=true:=by rfl)
  (hline:(apos.endLine==oL.line)=true:=by rfl) (hs:starEach (e::es) X.env=(false,eval e X.env)::starEach es X.env:=by rfl) (aed:(backTo oL (starEach es X.env)).any (·.1)=false:=by rfl) :
  E X W (.Call (.Attribute o name apos) (e::es) [] oL) (dD ty sem fo fa):=by
 obtain⟨r,m,g⟩:=hm.go;exact PE.imp (pe_bm ML slot hi m aY ha MN aec hline hs aed) λσ H Q h=>Vw h MK λρ S aD d ds x xs w aJ cu p=>g _ ρ aD S d ds x xs Q w aJ cu p
theorem Vx(hm:wF X id sem)(MK:∀ρ H S d x,aN X.K X.mg ρ H S->Rep X.K X.mg ρ H d x->ty S d=true->tyV X.K T x H)(ML:PlainAttrs T)(slot:Slot T name id)(hi:typeOf (.builtin id)=pure (.type "method_descriptor"))(aY:E X W o fo)
  (MN:attributeBase o name X.env (eval o X.env)=eval o X.env:=by rfl) (hline:(apos.endLine==oL.line)=true:=by rfl):E X W (.Call (.Attribute o name apos) [] [] oL) (dD ty sem fo ah):=by
 obtain⟨r,m,g⟩:=hm.go;refine PE.imp (pe_bm0 ML slot hi m aY MN hline) λσ H Q h=>?_;obtain⟨ρ,S,sl,w,rs,p⟩:=Vw (k:=λx xs aD=>r x xs aD Q) h MK λρ S aD d ds x xs w aJ cu p=>g _ ρ aD S d ds x xs Q w aJ cu p;refine⟨ρ,S,sl,w,rs,aV.mono p λx H1 ⟨t,aO,S2,bK,cm,Hb,p2⟩=>⟨t,p2 [] aO H1 Ext.refl cm ay.nil⟩⟩
def sJ:kX:=λd ds S=>match d,ds with
 | .ptr n,[e]=>(match S[n]? with
  |some (.lst xs)=>if xs.length<1000000 then .ok .non (S.set n (.lst (xs++[e])))else .bad
  |_=>.bad)
 |_,_=>.bad
theorem Vy:wF X "list.append" sJ:=by
 refine⟨_,mt_append,λWp ρ H S d ds x xs Q w aJ cu p=>?_⟩;unfold sJ at p;split at p
 .rename_i n e
  split at p
  .rename_i ys ew
   split at p
   .rename_i hl
    obtain⟨a,vs,aw,q,h1,r1⟩:=G' w aJ ew;obtain⟨v,e2,r2⟩:=lK cu;refine⟨a,vs,v,aw,e2,h1,by rw[<-r1.len];have:=jY (n:=ys.length+1) (by omega);omega,?_⟩;exact MJ p w q ⟨_,upd_same,(r1.append (ay.cons r2 ay.nil)).ext (Ext.putL q)⟩ Vb
   .exact p.elim
  .exact p.elim
 .exact p.elim
def uL:kX:=λd ds S=>match d,ds with
 | .ptr n,[e]=>(match S[n]?,d8 S e with
  |some (.lst xs),some ys=>if xs.length+ys.length<=1000000 then .ok .non (S.set n (.lst (xs++ys)))else .bad
  |_,_=>.bad)
 |_,_=>.bad
theorem Vz:wF X "list.extend" uL:=by
 refine⟨_,mt_extend,λWp ρ H S d ds x xs Q w aJ cu p=>?_⟩;unfold uL at p;split at p
 .rename_i n e
  split at p
  .rename_i pK ys aw e2
   split at p
   .rename_i hl
    obtain⟨a,vs,a6,q,h1,r1⟩:=G' w aJ aw;obtain⟨v,dA,r2⟩:=lK cu;obtain⟨b,us,e5,cZ,iP⟩:=lI w r2 e2;refine⟨a,b,vs,us,a6,by rw[dA,e5],h1,cZ,by rw[<-r1.len,<-iP.len];exact jY hl,?_⟩;exact MJ p w q ⟨_,upd_same,(r1.append iP).ext (Ext.putL q)⟩ Vb
   .exact p.elim
  .exact p.elim
 .exact p.elim
theorem ay.dropLast{K:PySem.W.Frag}{mg:Str->Option Value}{ρ:List Addr}{H:Hp}{ds:List D}{vs:List V}(q:ay K mg ρ H ds vs):ay K mg ρ H ds.dropLast vs.dropLast:=by
 rw[List.dropLast_eq_take,List.dropLast_eq_take,<-q.len];exact q.take _
def sL:kX:=λd ds S=>match d,ds with
 | .ptr n,[]=>(match S[n]? with
  |some (.lst xs)=>(match xs[xs.length - 1]? with
   |some y=>.ok y (S.set n (.lst xs.dropLast))
   |none=>.bad)
  |_=>.bad)
 |_,_=>.bad
theorem VA:wF X "list.pop" sL:=by
 refine⟨_,mt_pop,λWp ρ H S d ds x xs Q w aJ cu p=>?_⟩;unfold sL at p;split at p
 .rename_i n
  split at p
  .rename_i ys ew
   split at p
   .rename_i y bD
    obtain⟨a,vs,aw,q,h1,r1⟩:=G' w aJ ew;obtain⟨v,h2,r2⟩:=r1.get bD;rw[ay]at cu;refine⟨a,vs,v,aw,cu,h1,by rw[<-r1.len];exact h2,?_⟩;exact MJ p w q ⟨_,upd_same,r1.dropLast.ext (Ext.putL q)⟩ r2
   .exact p.elim
  .exact p.elim
 .exact p.elim
def y7:List D->Option (List Str)
 |[]=>some []
 | .str s::r=>(y7 r).map (s :: ·)
 |_::_=>none
theorem VB:∀{ds:List D} {bs:List Str},y7 ds=some bs->ds=bs.map D.str
 |[],_,e=>by cases e;rfl
 |d::r,_,e=>by
  cases d with
  |str s =>
   rw[y7]at e;obtain⟨ys,aw,e2⟩:=fx.mp e;subst e2;rw[VB aw];rfl
  |_=>cases e
theorem VC{K:PySem.W.Frag}{mg:Str->Option Value}{ρ:List Addr}{H:Hp}:∀{bs:List Str} {vs:List V},ay K mg ρ H (bs.map D.str) vs->vs=bs.map V.str
 |[],_,r=>by rw[qB,ay]at r;exact r
 |b::bs,_,r=>by
  rw[cF,ay]at r;obtain⟨v,b2,e,h1,h2⟩:=r;rw[e,fM h1,VC h2];rfl
theorem MO{K:PySem.W.Frag}{mg:Str->Option Value}{ρ:List Addr}{H:Hp}:∀(bs:List Str),ay K mg ρ H (bs.map D.str) (bs.map V.str)
 |[]=>ay.nil
 |b::bs=>ay.cons nC (MO bs)
def lM:kX:=λd ds S=>match d,ds with
 | .str a,[e]=>(match dJ S e with
  |some xs=>(match y7 xs with
   |some ys=>if(ys.map (·.length)).sum+ys.length * a.length<=1000000 then .ok (.str (Txt.join a ys)) S else .bad
   |none=>.bad)
  |none=>.bad)
 |_,_=>.bad
theorem MP:wF X "str.join" lM:=by
 refine⟨_,mt_join,λWp ρ H S d ds x xs Q w aJ cu p=>?_⟩;unfold lM at p;split at p
 .rename_i a e
  split at p
  .rename_i zs Cd
   split at p
   .rename_i ys ew
    split at p
    .rename_i hl
     obtain⟨v,e2,r2⟩:=lK cu;obtain⟨b,vs,a6,aH,cg⟩:=B3 w r2 Cd;rw[VB ew]at cg;rw[VC cg]at aH;exact⟨a,b,ys,fM aJ,by rw[e2,a6],aH,by omega,cA p w nC⟩
    .exact p.elim
   .exact p.elim
  .exact p.elim
 .exact p.elim
def Hc(g:Str->D):kX:=λd ds S=>match d,ds with
 | .str a,[]=>if a.length<=1000000 then .ok (g a) S else .bad
 |_,_=>.bad
def Cj:kX:=Hc λa=>.str (Txt.lower a)
def aee:kX:=Hc λa=>.str (Txt.upper a)
def aef:kX:=Hc λa=>.bl (Txt.isupper a)
def aeg:kX:=Hc λa=>.bl (Txt.islower a)
end
def kD:Key->D
 | .inl i=>.int i
 | .inr s=>.str s
def pL:D->Option Key
 | .int i=>some (.inl i)
 | .str s=>some (.inr s)
 |_=>none
@[simp] theorem y8(k:Key):pL (kD k)=some k:=by cases k<;>rfl
theorem aeh{d:D}{k:Key}(h:pL d=some k):d=kD k:=by
 cases d with
 |int i=>cases h;rfl
 |str i=>cases h;rfl
 |_=>cases h
def y9:List D->List D->Key->Option D
 |k::ks,v::vs,y=>if pL k=some y then some v else y9 ks vs y
 |_,_,_=>none
def sM(ks:List D)(y:Key):Bool:=ks.any λk=>decide (pL k=some y)
def Hf:List D->List D->Key->D->List D
 |k::ks,v::vs,y,d=>(if pL k=some y then d else v)::Hf ks vs y d
 |_,_,_,_=>[]
def MQ(ks:List D)(y:Key):List D:=if sM ks y=true then ks else ks++[kD y]
def MR(ks vs:List D)(y:Key)(d:D):List D:=if sM ks y=true then Hf ks vs y d else vs++[d]
def asD(S:Store):D->Option (List D×List D)
 | .dct ks vs=>some (ks,vs)
 | .ptr n=>match S[n]? with
  |some (.dct _ ks vs)=>some (ks,vs)
  |_=>none
 |_=>none
section
variable{K:PySem.W.Frag}{mg:Str->Option Value}{ρ:List Addr}{H:Hp}{S:Store}
theorem aei{d:D}{k:Key}(r:Rep K mg ρ H d (kV k)):d=kD k:=by
 cases d with
 |non=>rw[Rep]at r;cases k<;>cases r
 |bl b=>rw[Rep]at r;cases k<;>cases r
 |int i=>rw[Rep]at r;cases k<;>cases r;rfl
 |str i=>rw[Rep]at r;cases k<;>cases r;rfl
 |ty i=>rw[Rep]at r;cases k<;>cases r
 |cls c=>rw[Rep]at r;obtain⟨_,_,e⟩:=r;cases k<;>cases e
 |tup xs=>rw[Rep]at r;obtain⟨_,_,e,_⟩:=r;cases k<;>cases e
 |lst xs=>rw[Rep]at r;obtain⟨_,_,e,_⟩:=r;cases k<;>cases e
 |b8 xs=>rw[Rep]at r;obtain⟨_,_,e,_⟩:=r;cases k<;>cases e
 |dct xs ys=>rw[Rep]at r;obtain⟨_,_,_,e,_⟩:=r;cases k<;>cases e
 |er w xs ys=>rw[Rep]at r;obtain⟨_,_,_,e,_⟩:=r;cases k<;>cases e
 |ins c ns vs=>rw[Rep]at r;obtain⟨_,_,_,_,e,_⟩:=r;cases k<;>cases e
 |ptr n=>rw[Rep]at r;obtain⟨_,e,_⟩:=r;cases k<;>cases e
 |ck xs=>rw[Rep]at r;obtain⟨_,e,_⟩:=r;cases k<;>cases e
 |exc c ns vs=>rw[Rep]at r;obtain⟨_,_,_,_,e,_⟩:=r;cases k<;>cases e
 |lam T c=>rw[Rep]at r;obtain⟨_,e,_⟩:=r;cases k<;>cases e
 |dN T c=>rw[Rep]at r;obtain⟨_,_,_,e,_⟩:=r;cases k<;>cases e
theorem VD(k:Key):Rep K mg ρ H (kD k) (kV k):=by cases k<;>rw[kD,kV,Rep]
theorem MS{d:D}{k:Key}{v:V}(r:Rep K mg ρ H d v)(h:pL d=some k):v=kV k:=by
 rw[aeh h]at r;cases k with
 |inl i=>exact f6 r
 |inr i=>exact fM r
theorem Ck:∀{kvs:List (Key×V)} {ks:List D},ay K mg ρ H ks (kvs.map λp=>kV p.1)->ks=kvs.map λp=>kD p.1
 |[],ks,r=>by
  cases ks with
  |nil=>rfl
  |cons d ks=>rw[ay]at r;grind
 |p::kvs,ks,r=>by
  cases ks with
  |nil=>rw[ay]at r;cases r
  |cons d ks =>
   rw[ay]at r;obtain⟨v,b2,e,h1,h2⟩:=r;rw[cF]at e;injection e with aw e2
   subst aw e2;rw[cF,aei h1,Ck h2]
theorem VE:∀(kvs:List (Key×V)),ay K mg ρ H (kvs.map λp=>kD p.1) (kvs.map λp=>kV p.1)
 |[]=>ay.nil
 |p::kvs=>ay.cons (VD p.1) (VE kvs)
theorem MT{d:D}{v:V}{p:List D×List D}(w:aN K mg ρ H S)(r:Rep K mg ρ H d v)(h:asD S d=some p):∃a kvs,v=.ref a/\Rd H a (.dK kvs)/\p.1=kvs.map (λp=>kD p.1)/\ay K mg ρ H p.2 (kvs.map (·.2)):=by
 cases d with
 |dct ks vs =>
  unfold asD at h;cases h;rw[Rep]at r;obtain⟨a,b9,fy,e,⟨_,kvs,t,aw,e2⟩,r1,r2⟩:=r;subst aw e2;exact⟨a,kvs,e,t,Ck r1,r2⟩
 |ptr n =>
  unfold asD at h;simp only at h;rw[Rep]at r;obtain⟨a,e,q⟩:=r;split at h
  .rename_i lk ks vs em
   cases h;obtain⟨kvs,h1,r1,r2⟩:=w.ob n a _ q em;refine⟨a,kvs,e,?_,Ck r1,r2⟩;cases lk with
   |true=>grind
   |false=>rw[if_neg kK]at h1;exact .inl h1
  .cases h
 |_=>unfold asD at h;cases h
theorem MU{y:Key}:∀{kvs:List (Key×V)} {ds:List D},ay K mg ρ H ds (kvs.map (·.2))->(∀d,y9 (kvs.map λp=>kD p.1) ds y=some d->∃v,valV kvs y=some v/\Rep K mg ρ H d v)/\(valV kvs y).isSome=sM (kvs.map λp=>kD p.1) y
 |[],ds,r=>⟨λd h=>by simp[y9]at h,by rfl⟩
 |p::kvs,ds,r=>by
  cases ds with
  |nil=>rw[ay]at r;cases r
  |cons d ds =>
   rw[ay]at r;obtain⟨v,b2,e,h1,h2⟩:=r;rw[cF]at e;injection e with aw e2
   subst aw e2;obtain⟨i1,i2⟩:=MU (y:=y) (kvs:=kvs) h2;by_cases q:p.1=y
   .refine⟨λd' h=>?_,?_⟩
    .rw[cF,y9,y8,q,if_pos rfl]at h
     cases h;exact⟨p.2,valV_pos q,h1⟩
    .rw[valV_pos q,cF,sM,List.any_cons,y8,q]
     simp
   .refine⟨λd' h=>?_,?_⟩
    .rw[cF,y9,y8,if_neg (λz=>q (Option.some.inj z))]at h
     obtain⟨u,a6,cg⟩:=i1 d' h;exact⟨u,by rw[valV_neg q];exact a6,cg⟩
    .rw[valV_neg q,cF,sM,List.any_cons,y8,decide_eq_false (λz=>q (Option.some.inj z)),Bool.false_or]
     exact i2
theorem aej(y:Key)(kvs:List (Key×V)):(kvs.any λb9=>decide (b9.1=y))=sM (kvs.map λp=>kD p.1) y:=by
 induction kvs with
 |nil=>rfl
 |cons p kvs ih =>
  rw[List.any_cons,cF,sM,List.any_cons,y8];rw[show(kvs.any λb9=>decide (b9.1=y))=(List.map (λp:Key×V=>kD p.1) kvs).any (λk=>decide (pL k=some y))from ih];simp
theorem VF{y:Key}{d:D}{v:V}(h:Rep K mg ρ H d v):∀{kvs:List (Key×V)} {ds:List D},ay K mg ρ H ds (kvs.map (·.2))->ay K mg ρ H (Hf (kvs.map λp=>kD p.1) ds y d) ((kvs.map λb9=>if b9.1=y then(b9.1,v)else b9).map (·.2))
 |[],ds,r=>by
  rfl
 |p::kvs,ds,r=>by
  cases ds with
  |nil=>rw[ay]at r;cases r
  |cons d' ds =>
   rw[ay]at r;obtain⟨mK,b2,e,h1,h2⟩:=r;rw[cF]at e;injection e with aw e2
   subst aw e2;rw[cF,cF,cF,Hf,y8];refine ay.cons ?_ (VF h h2);grind
theorem aek{y:Key}{d:D}{v:V}(h:Rep K mg ρ H d v){kvs:List (Key×V)}{ds:List D}(r:ay K mg ρ H ds (kvs.map (·.2))) :
  MQ (kvs.map λp=>kD p.1) y=(putK kvs y v).map (λp=>kD p.1)/\ay K mg ρ H (MR (kvs.map λp=>kD p.1) ds y d) ((putK kvs y v).map (·.2)):=by
 unfold MQ MR putK;rw[<-aej y kvs];split
 .rename_i q
  refine⟨?_,VF h r⟩;rw[ov];refine List.map_congr_left λp _=>?_;grind
 .refine⟨by simp,?_⟩
  rw[List.map_append];exact r.append (ay.cons h ay.nil)
end
section
variable{X:Cx}
def Hg:b_:=λd e S=>match asD S d,pL e with
 |some p,some k=>(match y9 p.1 p.2 k with
  |some v=>.ok v S
  |none=>.bad)
 |_,_=>.bad
theorem ael(aR:X.A.units+1<cLine):IxR X (λx y H Q=>∃a v,x=.ref a/\DGet H a y (some v)/\Q v H):=by
 intro value slice pins s σ H x y v u Q I aJ bS h hs;obtain⟨a,z,rfl,g,q⟩:=h;obtain rfl:v=Value.ref a:=aJ;exact PyProof.Rows.tail_any (dict_typeIs I g) PySem.F.slot_dict_getitem.lookup (d_getItem aR I g bS λdE s' ko MV=>⟨z,H,ko,MV,q⟩) hs
theorem aem(aR:X.A.units+1<cLine):uI X Hg:=by
 refine⟨_,ael aR,λWp ρ H S d e x y Q w aJ bS p=>?_⟩;unfold Hg at p;split at p
 .rename_i pr k eP ek
  split at p
  .rename_i v ev
   obtain⟨a,kvs,aw,h1,e2,r2⟩:=MT w aJ eP;rw[e2]at ev;obtain⟨u,a6,cg⟩:=(MU r2).1 v ev;exact⟨a,u,aw,.inl ⟨kvs,k,h1,MS bS ek,a6.symm⟩,cA p w cg⟩
  .exact p.elim
 .exact p.elim
def y_(neg:Bool):b_:=λe d S=>match asD S d,pL e with
 |some p,some k=>.ok (.bl (if neg=true then !sM p.1 k else sM p.1 k)) S
 |_,_=>.bad
theorem aen(aR:X.A.units+1<cLine):OpR X (compareOp .In) (λy x H Q=>∃a o,x=.ref a/\DGet H a y o/\Q (.bl o.isSome) H):=by
 intro pins s σ H x y v u Q I aJ bS h;obtain⟨a,o,rfl,g,q⟩:=h;obtain rfl:u=Value.ref a:=bS;exact d_in aR I g aJ λs' ko=>⟨.bl o.isSome,H,ko,rfl,q⟩
theorem aeo(aR:X.A.units+1<cLine):de X (compareOp .In) (y_ false):=by
 refine⟨_,aen aR,λWp ρ H S d e x y Q w aJ bS p=>?_⟩;unfold y_ at p;split at p
 .rename_i pr k eP ek
  obtain⟨a,kvs,aw,h1,e2,r2⟩:=MT w bS eP;refine⟨a,valV kvs k,aw,.inl ⟨kvs,k,h1,MS aJ ek,rfl⟩,?_⟩;rw[(MU (y:=k) r2).2,<-e2];exact cA p w iS
 .exact p.elim
theorem aep:CallR X (.builtin "len") (λxs H Q=>∃a kvs,xs=[V.ref a]/\Rd H a (.dK kvs)/\Q (.int kvs.length) H):=by
 intro pins s σ H xs us Q I r h;obtain⟨a,kvs,rfl,ha,q⟩:=h;obtain⟨u,rfl,cU⟩:=vals1 r;cases cU;exact L2.d_len I ha λt s' ko=>⟨.int kvs.length,H,ko,⟨t,rfl⟩,q⟩
def MX:aB:=λds S=>match ds with
 |[d]=>(match asD S d with
  |some p=>.ok (.int p.1.length) S
  |none=>.bad)
 |_=>.bad
theorem aeq:iL X (.builtin "len") MX:=by
 refine⟨_,aep,λWp ρ H S ds xs Q w r p=>?_⟩;unfold MX at p;split at p
 .split at p
  .rename_i pr eP
   obtain⟨v,e,h1⟩:=lK r;obtain⟨a,kvs,aw,h2,e2,r2⟩:=MT w h1 eP;refine⟨a,kvs,by rw[e,aw],h2,?_⟩;rw[e2,List.length_map]at p;exact cA p w ie
  .exact p.elim
 .exact p.elim
def wG(o i v:D)(S:Store):Option Store:=match o with
 | .ptr n=>(match S[n]? with
  |some (.lst xs)=>(match i with
   | .int k=>(match ixN xs.length k with
    |some j=>some (S.set n (.lst (xs.set j v)))
    |none=>none)
   |_=>none)
  |some (.dct false ks vs)=>(match pL i with
   |some k=>if ks.length<1000000 then some (S.set n (.dct false (MQ ks k) (MR ks vs k v)))else none
   |none=>none)
  |_=>none)
 |_=>none
def VG:V->V->V->Hp->(Hp->Prop)->Prop:=λo i v H Q=>rSetL o i v H Q\/rSetD o i v H Q
theorem aer(aR:X.A.units+1<cLine):PSet X VG:=by
 intro pins s σ H o i v gu iv u Q I sN sO aW h;rcases h with h|h
 .exact set_list pins s σ H o i v gu iv u Q I sN sO aW h
 .exact set_dict aR pins s σ H o i v gu iv u Q I sN sO aW h
theorem aes{K:PySem.W.Frag}{mg:Str->Option Value}{ρ:List Addr}{H:Hp}{S ao:Store}{o i v:D}{x y z:V}{Q:Hp->Prop}(w:aN K mg ρ H S)(sN:Rep K mg ρ H o x)(sO:Rep K mg ρ H i y)(aW:Rep K mg ρ H v z)(h:wG o i v S=some ao)
  (k:∀H',Ext ρ H ρ H'->aN K mg ρ H' ao->Q H'):VG x y z H Q:=by
 unfold wG at h;split at h
 .rename_i n
  split at h
  .rename_i xs ex
   split at h
   .rename_i pJ
    split at h
    .rename_i j nG
     cases h;obtain⟨a,vs,aw,q,h1,r1⟩:=G' w sN ex;refine .inl ⟨a,vs,pJ,j,aw,f6 sO,h1,by rw[<-r1.len];exact nG,k _ (Ext.putL q) (w.put q ⟨_,upd_same,(r1.set aW j).ext (Ext.putL q)⟩)⟩
    .cases h
   .cases h
  .rename_i ks vs ex
   split at h
   .rename_i pJ ek
    split at h
    .rename_i hl
     cases h;obtain⟨a,kvs,aw,q,h1,r1,r2⟩:=aeb w sN ex;have VH:=Ck r1;obtain⟨lL,ig⟩:=aek (y:=pJ) aW r2;rw[<-VH]at lL ig;refine .inr ⟨a,_,aw,.inl ⟨kvs,pJ,h1,MS sO ek,?_,rfl⟩,k _ (Ext.putL q) (w.put q ⟨putK kvs pJ z,by rw[if_neg kK];exact upd_same,?_,ig.ext (Ext.putL q)⟩)⟩
     .have e:ks.length=kvs.length:=by rw[VH,List.length_map]
      rw[<-e];have:=jY (n:=ks.length+1) (by omega);omega
     .rw[lL];exact VE _
    .cases h
   .cases h
  .cases h
 .cases h
def lN(fo fi:aM):d4:=λv sl S=>match fo sl S with
 | .ok o S1=>(match fi sl S1 with
  | .ok i S2=>(match wG o i v S2 with
   |some a4=>.nx sl a4
   |none=>.bad)
  |_=>.bad)
 |_=>.bad
theorem Cm(fo fi:aM)(d:D)(sl:aT)(S:Store):(∃eH ao,lN fo fi d sl S=.nx eH ao)\/lN fo fi d sl S=.bad:=by
 unfold lN;grind
section
variable{W:WX}{o i e:Expr}{fo fi:aM}{pos:Pos}
theorem Cp(aR:X.A.units+1<cLine)(aY:E X W o fo)(hi:E X W i fi)
  (ha:∀v,assign (.Subscript o i pos) X.env v=(do
   let gu <-holding [v] (eval o X.env);let iv <-holding [v,gu] (eval i X.env)
   standAt pos
   holding [v,gu,iv] (setItem gu iv v)
   release [v,gu,iv] []):=by intro _;rfl):yQ X W (.Subscript o i pos) (lN fo fi):=by
 refine PG.imp (pg_sub aY hi (aer aR) ha) λv σ H Q ⟨ρ,S,sl,d,w,rs,aW,p⟩=>?_;have p:bV X.K X.mg W ρ H ⟨Q,λ_ _=>False,λ_ _=>False,λ_ _=>False⟩ (lN fo fi d sl S):=p;unfold lN at p;split at p
 .rename_i e6 S1 wH
  split at p
  .rename_i at4 S2 wI
   split at p
   .rename_i a4 es
    refine⟨ρ,S,sl,w,rs,?_⟩;rw[wH];intro x aA H1 x1 aF r1;refine⟨aA,S1,sl,aF,rs.ext x1,?_⟩;rw[wI];intro y aO aD x2 cm r2;refine aes cm (r1.ext x2) r2 (aW.ext (x1.trans x2)) es λH' xx ww=>?_;have Cq:=(x1.trans x2).trans xx;exact p _ aO H' Cq ww (rs.ext Cq)
   .exact p.elim
  .exact p.elim
 .exact p.elim
theorem bV.Cr{K:PySem.W.Frag}{mg:Str->Option Value}{ρ:List Addr}{H:Hp}{W:WX}{eE:Ends}{σ:L2.St}{sl:aT}{o:Out D}{k:D->Store->SO}(rs:cH K mg ρ H σ sl)(h:bV K mg W ρ H eE (o.toS sl k)) :
  aV K mg (λC d H'=>W C d σ H') ρ H (λv H1=>∃aA S1 d,Ext ρ H aA H1/\aN K mg aA H1 S1/\cH K mg aA H1 σ sl/\Rep K mg aA H1 d v/\bV K mg W aA H1 eE (k d S1)) o:=by
 cases o with
 |ok d S=>exact λv aO aD y w r=>⟨aO,S,d,y,w,rs.ext y,r,bV.from y h⟩
 |ex e S=>exact λC dd aO aD y w r=>h C dd σ aO aD y w (rs.ext y) r
 |bad=>exact h
end
end
def je(xs:List D)(lo hi:Option Int):List D:=(xs.drop (HT.sIx xs.length 0 lo)).take (HT.sIx xs.length xs.length hi - HT.sIx xs.length 0 lo)
def wJ(hand:Bool):D->Option Int->Option Int->Store->Out D:=λd lo hi S=>match d with
 | .str s=>if s.length<=1000000 then .ok (.str (cutS s lo hi)) S else .bad
 | .tup xs=>.ok (.tup (je xs lo hi)) S
 | .b8 _=>.bad
 |d=>(match dJ S d with
  |some xs=>if hand=true then .ok (.ptr S.length) (S++[.lst (je xs lo hi)])else .ok (.lst (je xs lo hi)) S
  |none=>.bad)
abbrev wK:=aT->Store->Out (Option Int)
def fN:wK:=λ_ S=>.ok none S
def ec(f:aM):wK:=λsl S=>(f sl S).bind λd S1=>match d with
 | .int i=>.ok (some i) S1
 |_=>.bad
def e0(hand:Bool)(fa:aM)(fl fu:wK):aM:=λsl S=>(fa sl S).bind λd S1=>(fl sl S1).bind λl S2=>(fu sl S2).bind λu a4=>wJ hand d l u a4
section
variable{K:PySem.W.Frag}{mg:Str->Option Value}{ρ av:List Addr}{H H':Hp}{W:Value->Option Addr->Hp->Prop}
def pM(K:PySem.W.Frag)(mg:Str->Option Value)(W:Value->Option Addr->Hp->Prop)(ρ:List Addr)(H:Hp)(Q:Option Int->Hp->Prop):Out (Option Int)->Prop
 | .ok b ao=>∀av H',Ext ρ H av H'->aN K mg av H' ao->Q b H'
 | .ex e ao=>∀C dd av H',Ext ρ H av H'->aN K mg av H' ao->oA K mg av H' e C dd->W C dd H'
 | .bad=>False
theorem pM.mono{Q e7:Option Int->Hp->Prop}{o:Out (Option Int)}(h:pM K mg W ρ H Q o)(k:∀v H',Q v H'->e7 v H'):pM K mg W ρ H e7 o:=by
 cases o with
 |ok d S=>exact λav H' x w=>k _ _ (h av H' x w)
 |ex e S=>exact h
 |bad=>exact h
theorem wL{S:Store}{d:D}{v:V}{ds:List D}(w:aN K mg ρ H S)(r:Rep K mg ρ H d v)(h:dJ S d=some ds)(hn:∀ys,d≠.tup ys/\d≠.b8 ys):∃a vs,v=.ref a/\SqL K H a vs/\ay K mg ρ H ds vs:=by
 cases d with
 |tup xs=>grind
 |b8 xs=>grind
 |ck xs =>
  unfold dJ at h;cases h;rw[Rep]at r;obtain⟨a,e,t⟩:=r;exact⟨a,_,e,t.eQ,Mh xs⟩
 |lst xs =>
  obtain⟨a,vs,e,h1,h2⟩:=lI w r (show d8 S (.lst xs)=some ds from h);exact⟨a,vs,e,.inl (.inl h1),h2⟩
 |ptr n =>
  obtain⟨a,vs,e,h1,h2⟩:=lI w r (show d8 S (.ptr n)=some ds from h);exact⟨a,vs,e,.inl (.inl h1),h2⟩
 |_=>unfold dJ d8 at h;cases h
theorem pM.fJ{Q:V->Hp->Prop}{o:Out (Option Int)}{k:Option Int->Store->Out D}(h:aV K mg W ρ H Q (o.bind k)) :
  pM K mg W ρ H (λb H1=>∃aA S1,Ext ρ H aA H1/\aN K mg aA H1 S1/\aV K mg W aA H1 Q (k b S1)) o:=by
 cases o with
 |ok d S=>exact λaO aD y w=>⟨aO,S,y,w,aV.from y h⟩
 |ex e S=>exact h
 |bad=>exact h
end
section
variable{X:Cx}{W:WX}
def EO(X:Cx)(W:WX)(e:Option Expr)(f:wK):Prop:=PO X e λσ H Q=>∃ρ S sl,aN X.K X.mg ρ H S/\cH X.K X.mg ρ H σ sl/\pM X.K X.mg (λC d H'=>W C d σ H') ρ H Q (f sl S)
theorem PO.imp{e:Option Expr}{t t':TO}(h:PO X e t)(k:∀σ H Q,t' σ H Q->t σ H Q):PO X e t':=⟨λpins s σ H Q I q=>h.run pins s σ H Q I (k σ H Q q)⟩
theorem pN:EO X W none fN:=PO.imp po_none λσ H Q ⟨ρ,S,sl,w,rs,p⟩=>p ρ H Ext.refl w
theorem lO{e:Expr}{f:aM}(he:E X W e f):EO X W (some e) (ec f):=PO.imp (po_some he) λσ H Q ⟨ρ,S,sl,w,rs,p⟩=>by
 refine⟨ρ,S,sl,w,rs,?_⟩;have p:pM X.K X.mg (λC d H'=>W C d σ H') ρ H Q ((f sl S).bind λd S1=>match d with
  | .int i=>.ok (some i) S1
  |_=>.bad):=p
 cases q:f sl S with
 |bad=>rw[q]at p;exact p
 |ex e S1=>rw[q]at p;exact p
 |ok d S1 =>
  rw[q]at p;intro v aA H1 x1 aF r1;cases d with
  |int i=>exact⟨i,f6 r1,p aA H1 x1 aF⟩
  |_=>exact p.elim
theorem MY{K:PySem.W.Frag}{mg:Str->Option Value}{ρ:List Addr}{H:Hp}{xs:List D}{vs:List V}(lo hi:Option Int)(r:ay K mg ρ H xs vs):ay K mg ρ H (je xs lo hi) (cutV vs lo hi):=by
 unfold je cutV;rw[r.len];exact(r.drop _).take _
theorem aet{xs:List D}{lo hi:Option Int}(h:HT.sIx xs.length 0 lo=0/\HT.sIx xs.length xs.length hi=xs.length):je xs lo hi=xs:=by
 unfold je;grind
theorem nH{hand:Bool}{a:Expr}{lo hi:Option Expr}{fa:aM}{fl fu:wK}{p2 pos:Pos}(ha:E X W a fa)(hl:EO X W lo fl)(hh:EO X W hi fu):E X W (.Subscript a (.Slice lo hi none p2) pos) (e0 hand fa fl fu):=by
 refine PE.imp (pe_slice ((sl_list (X:=X)).or ((sl_tupA (X:=X)).or sl_str)) ha hl hh) λσ H Q ⟨ρ,S,sl,w,rs,p⟩=>?_;refine⟨ρ,S,sl,w,rs,aV.mono (aV.fJ p) λx H1 ⟨aA,S1,d,x1,aF,r1,_,p1⟩=>?_⟩;refine⟨aA,S1,sl,aF,rs.ext x1,pM.mono (pM.fJ p1) λl aD ⟨aO,S2,x2,cm,p2⟩=>?_⟩;refine⟨aO,S2,sl,cm,rs.ext (x1.trans x2),pM.mono (pM.fJ p2) λu hT ⟨mI,a4,b0,ia,cq⟩=>?_⟩;have cg:=r1.ext (x2.trans b0);have go:∀xs,dJ a4 d=some xs->(∀ys,d≠.tup ys/\d≠.b8 ys)->aV X.K X.mg (λC d H'=>W C d σ H') mI hT Q (if hand=true then .ok (.ptr a4.length) (a4++[.lst (je xs l u)])else .ok (.lst (je xs l u)) a4)->rSlL X.K x l u hT Q:=λxs ex hn p=>by
  obtain⟨a,vs,aw,h1,dk⟩:=wL ia cg ex hn;refine⟨a,vs,aw,h1,λdX hp=>?_⟩;cases hand with
  |true=>rw[if_pos rfl]at p;exact L6 p ia (MY l u dk) hp
  |false=>rw[if_neg kK]at p;exact yP p ia (MY l u dk) hp
 cases d with
 |str s =>
  unfold wJ at cq;simp only at cq;split at cq
  .rename_i hl
   exact .inr (.inr ⟨s,fM cg,jY hl,cA cq ia nC⟩)
  .exact cq.elim
 |tup xs =>
  have cq:aV X.K X.mg (λC d H'=>W C d σ H') mI hT Q (.ok (.tup (je xs l u)) a4):=cq;have aeu:=cg;rw[Rep]at cg;obtain⟨a,vs,aw,t,dk⟩:=cg;refine .inr (.inl ⟨a,vs,aw,t.eQ,λh=>?_,λh dX hp=>yO cq ia (MY l u dk) hp⟩);rw[<-dk.len]at h;rw[aet h]at cq;rw[<-aw];exact cA cq ia aeu
 |lst xs=>exact .inl (go xs rfl (by simp) cq)
 |ck xs=>exact .inl (go _ rfl (by simp) cq)
 |ptr n =>
  have cq:aV X.K X.mg (λC d H'=>W C d σ H') mI hT Q (match dJ a4 (.ptr n)with
   |some xs=>if hand=true then .ok (.ptr a4.length) (a4++[.lst (je xs l u)])else .ok (.lst (je xs l u)) a4
   |none=>.bad):=cq
  split at cq
  .grind
  .exact cq.elim
 |_=>exact cq.elim
end
open PySem PySem.Spec L2 Za
section
variable{X:Cx}{tg e:Expr}
theorem Hh{t1 nI:TI}(h1:PI X tg e t1)(h2:PI X tg e nI):PI X tg e λσ H R=>t1 σ H R\/nI σ H R:=⟨λpins s σ H R I h=>by
 rcases h with h|h
 .exact h1.run pins s σ H R I h
 .exact h2.run pins s σ H R I h⟩
theorem aev{wM:TE}(he:PE X e wM):PI X tg e λσ H R=>wM σ H λx H1=>∃d kvs,x=.ref d/\((H1 d=some (.dK kvs)/\∀o,R (Itk d o kvs) (upd H1 d (.frz o (.dK kvs))))\/∃o,H1 d=some (.frz o (.dK kvs))/\R (Itk d o kvs) H1):=by
 refine⟨λpins s σ H R I h=>?_⟩;refine thn (he.run pins s σ H _ I h) λu s1 ⟨x,H1,I1,aJ,d,kvs,ex,q⟩=>?_;subst ex;obtain rfl:u=Value.ref d:=aJ;have go:∀(aD:Hp) (o:Obj),Inv X pins σ aD s1->aD d=some (.frz o (.dK kvs))->R (Itk d o kvs) aD->wpAny (model X.prog X.w) X.A (pyIter (.ref d)) (PIE X pins σ tg R) X.xe s1:=λaD o I2 hd q=>by
  obtain⟨hs,sP,hx,es,eP,vs,qW,eR,b9,hm⟩:=I2.frzK hd;refine iter_keys hs sP hx qW (pi_one (tk:=s1.toks) I2 _ (turn_keys _ qW) ⟨_,Heap.get?_push_size _ rfl,rfl,?_⟩ q);grind
 rcases q with⟨hd,q⟩|⟨o,hd,q⟩
 .obtain⟨od,I2⟩:=I1.lock hd trivial
  exact go _ od I2 upd_same (q od)
 grind
end
def MZ(d:Addr)(p:List DictEntry×Obj)(b9:List V):It :=
 ⟨λi H=>H d=some (oz d p)/\i<p.1.length,λi H x H'=>H'=H/\b9[i]?=some x,λi H=>H d=some (oz d p)/\p.1.length<=i⟩
theorem VI:∀{vs:List V} {us:List Value},Vals vs us->∀(i:Nat) (u:Value),us[i]?=some u->∃x,vs[i]?=some x/\RelV x u
 |_,_,.nil,i,u,h=>by simp at h
 |_,_,.cons (a:=v) h1 h2,i,u,h=>by
  cases i with
  |zero=>grind
  |succ i=>simp at h;simpa using VI h2 i u h
section
variable{P:Program}{w:World}{K:PySem.W.Frag}{tg:Expr}{d:Addr}{p:List DictEntry×Obj}{eP:Nat}{b9:List V}
theorem aew(it:Addr)(VJ:p.2.data=.dict p.1.toArray eP)(bP:Vals b9 (p.1.map (·.key))):Turn P w K tg (MZ d p b9) [it] it (λi h=>h.IsKeyIter it d i p.1.length eP) where
 mem:=by simp
 obj:=λi h st b hb=>by
  have e:b=it:=by simpa using hb
  subst e;obtain⟨M0,e,c,dd⟩:=st;grind
 keep:=λi h h' st k=>st.at λM0 e=>k it (by simp) M0 e
 item:=by
  intro X bU hw hK hc i pins s σ H E I hf st hg;subst bU hw hK;obtain⟨hd,hi⟩:=hg;obtain⟨f0,f1,f2,f3,f4,Ci⟩:=hf it (by simp);obtain⟨⟨aex,sP,hx,qW⟩,_,_⟩:=(show ObjOk X.prog X.w H s.heap d (oz d p)from I.hok d _ hd)
  obtain⟨x,wN,pO⟩:=VI bP i (p.1[i]'hi).key (by grind);refine next_key_item (en:=p.1[i]'hi) st sP VJ (by simp) (by simp[hi]) λh' VL sb=>?_;have I1:Inv X pins σ H { s with heap:=h' }:=I.turned (t':=s.toks) (λb ob hb e=>(sb.2 b hb).trans e) f0 f1 f3 f4 Ci;obtain⟨M0,e,c,dd⟩:=id VL;exact⟨_,rfl,go_of (s:={ s with heap:=h' }) e c dd (by decide) ⟨x,H,I1,pO,⟨rfl,wN⟩,VL,λb hb=>(hf b hb).1⟩⟩
 done:=by
  intro X bU hw hK hc i pins s σ H E I hf st hg;subst bU hw hK;obtain⟨hd,hi⟩:=hg;obtain⟨f0,f1,f2,f3,f4,Ci⟩:=hf it (by simp);obtain⟨⟨aex,sP,hx,qW⟩,_,_⟩:=(show ObjOk X.prog X.w H s.heap d (oz d p)from I.hok d _ hd)
  exact next_key_end (I.ok.hd hc) st sP VJ (by simp) hi λh' eb=>⟨rfl,I.turned (t':=s.toks) (λb ob hb e=>eb b ob hb e) f0 f1 f3 f4 Ci⟩
 self:=λA i s Q E st h=>wpAny_pyIter_keyiter st h
end
section
variable{X:Cx}{tg e:Expr}
theorem aey{wM:TE}(he:PE X e wM):PI X tg e λσ H R=>wM σ H λx H1=>∃d p b9,x=.ref d/\(d==sysModules)=false/\H1 d=some (oz d p)/\Vals b9 (p.1.map (·.key))/\R (MZ d p b9) H1:=by
 refine⟨λpins s σ H R I h=>?_⟩;refine thn (he.run pins s σ H _ I h) λu s1 ⟨x,H1,I1,aJ,d,p,b9,ex,hs,hd,bP,q⟩=>?_;subst ex;obtain rfl:u=Value.ref d:=aJ;obtain⟨⟨eP,sP,hx,qW⟩,_,_⟩:=(show ObjOk X.prog X.w H1 s1.heap d (oz d p)from I1.hok d _ hd)
 exact iter_keys hs sP hx qW (pi_one (tk:=s1.toks) I1 _ (aew _ qW bP) ⟨_,Heap.get?_push_size _ rfl,rfl,rfl⟩ q)
end
theorem aez{a:Addr}{p:List DictEntry×Obj}(kvs:List (Key×V)):oz a p≠.dK kvs:=λe=>by
 unfold oz at e;cases e
theorem aeA{K:PySem.W.Frag}{mg:Str->Option Value}{ρ:List Addr}{H:Hp}{d:Addr}{p:List DictEntry×Obj}{b9:List V}{ks:List D}(n:d∉ρ)(h:H d=some (oz d p))(r:ay K mg ρ H ks b9)(hl:p.1.length=b9.length):yR K mg (MZ d p b9) ks (λ_=>True) ρ H:=by
 have st:∀av H',Ext ρ H av H'->H' d=some (oz d p):=λav H' x=>x.kept n h λkvs=>aez kvs;have hlen:p.1.length=ks.length:=by rw[hl,r.len]
 refine⟨λi av H' ao hi x w g=>⟨st av H' x,by omega⟩,λav H' ao x w g=>⟨st av H' x,by omega⟩,λi av H' ao v aD hi x w g y=>?_⟩;obtain⟨rfl,e⟩:=y;obtain⟨d',cN,b2⟩:=(r.ext x).get' e;exact⟨d',cN,Ext.refl,w,b2⟩
def y'(s:Str):List D:=s.cps.toList.map λc=>D.str ⟨#[c]⟩
def eK(S:Store):D->Option (List D)
 | .str s=>some (y' s)
 |d=>dJ S d
section
variable{K:PySem.W.Frag}{mg:Str->Option Value}{ρ:List Addr}{H:Hp}{S:Store}
theorem M3:∀(l:List Nat),ay K mg ρ H (l.map λc=>D.str ⟨#[c]⟩) (l.map λc=>V.str ⟨#[c]⟩)
 |[]=>ay.nil
 |c::l=>ay.cons nC (M3 l)
theorem M4{d:D}{v:V}{xs:List D}(w:aN K mg ρ H S)(r:Rep K mg ρ H d v)(h:eK S d=some xs) :
  ∃c:Src,c.val=v/\∀av H' ao pK,Ext ρ H av H'->aN K mg av H' ao->eK ao d=some pK->∃vs,c.At K H' vs/\ay K mg av H' pK vs:=by
 have lst:(∀ys,d≠.tup ys/\d≠.b8 ys)->(∀s,d≠.str s)->dJ S d=some xs->∃c:Src,c.val=v/\∀av H' ao pK,Ext ρ H av H'->aN K mg av H' ao->eK ao d=some pK->∃vs,c.At K H' vs/\ay K mg av H' pK vs:=λhn hs e=>by
  obtain⟨a,vs,aw,_,_⟩:=wL w r e hn;refine⟨.L a,aw.symm,λav H' ao pK x dE cN=>?_⟩;have aeB:dJ ao d=some pK:=by
   cases d with
   |str s=>grind
   |_=>exact cN
  obtain⟨jE,fy,e2,h2,r2⟩:=wL dE (r.ext x) aeB hn;rw[aw]at e2;cases e2;exact⟨fy,h2,r2⟩
 cases d with
 |str s =>
  refine⟨.S s,(fM r).symm,λav H' ao pK x dE cN=>?_⟩;cases cN;exact⟨_,rfl,M3 _⟩
 |tup ys =>
  cases h;have b2:=r;rw[Rep]at r;obtain⟨a,vs,aw,t,r1⟩:=r;refine⟨.T a,aw.symm,λav H' ao pK x dE cN=>?_⟩;cases cN;have r2:=b2.ext x;rw[Rep]at r2;obtain⟨jE,fy,e2,t',cg⟩:=r2;rw[aw]at e2;cases e2;exact⟨fy,t'.eQ,cg⟩
 |b8 ys =>
  cases h;have b2:=r;rw[Rep]at r;obtain⟨a,vs,aw,t,r1⟩:=r;refine⟨.T a,aw.symm,λav H' ao pK x dE cN=>?_⟩;cases cN;have r2:=b2.ext x;rw[Rep]at r2;obtain⟨jE,fy,e2,t',cg⟩:=r2;rw[aw]at e2;cases e2;exact⟨fy,t'.eQ,cg⟩
 |lst ys=>exact lst (by simp) (by intros;nofun) h
 |ck ys=>exact lst (by simp) (by intros;nofun) h
 |ptr n=>exact lst (by simp) (by intros;nofun) h
 |_=>cases h
theorem Hi{c:Src}{d:D}{xs:List D}(hq:∀av H' ao,Ext ρ H av H'->aN K mg av H' ao->eK ao d=some xs->∃vs,c.At K H' vs/\ay K mg av H' xs vs){J:It}
  (aeC:J=match c with
   | .L a=>Itl K a
   | .T a=>Itt K a
   | .S x=>Its x):yR K mg J xs (λao=>eK ao d=some xs) ρ H:=by
 subst aeC;cases c with
 |L a =>
  refine⟨λi av H' ao hi x w g=>?_,λav H' ao x w g=>?_,λi av H' ao v aD hi x w g y=>?_⟩
  .obtain⟨vs,h1,r1⟩:=hq av H' ao x w g
   exact⟨vs,vs[i]'(by rw[<-r1.len];exact hi),h1,by simp⟩
  .obtain⟨vs,h1,r1⟩:=hq av H' ao x w g
   exact⟨vs,h1,by rw[r1.len];simp⟩
  .obtain⟨vs,h1,r1⟩:=hq av H' ao x w g
   obtain⟨rfl,y⟩:=y;obtain⟨d',e,r⟩:=r1.get' (y vs h1);exact⟨d',e,Ext.refl,w,r⟩
 |T a =>
  refine⟨λi av H' ao hi x w g=>?_,λav H' ao x w g=>?_,λi av H' ao v aD hi x w g y=>?_⟩
  .obtain⟨vs,h1,r1⟩:=hq av H' ao x w g
   exact⟨vs,vs[i]'(by rw[<-r1.len];exact hi),h1,by simp⟩
  .obtain⟨vs,h1,r1⟩:=hq av H' ao x w g
   exact⟨vs,h1,by rw[r1.len];simp⟩
  .obtain⟨vs,h1,r1⟩:=hq av H' ao x w g
   obtain⟨rfl,y⟩:=y;obtain⟨d',e,r⟩:=r1.get' (y vs h1);exact⟨d',e,Ext.refl,w,r⟩
 |S s =>
  refine⟨λi av H' ao hi x w g=>?_,λav H' ao x w g=>?_,λi av H' ao v aD hi x w g y=>?_⟩
  .obtain⟨vs,h1,r1⟩:=hq av H' ao x w g
   have h1:vs=s.cps.toList.map λc=>V.str ⟨#[c]⟩:=h1;have:=r1.len;rw[h1,List.length_map]at this;show i<s.cps.size;grind
  .obtain⟨vs,h1,r1⟩:=hq av H' ao x w g
   have h1:vs=s.cps.toList.map λc=>V.str ⟨#[c]⟩:=h1;have:=r1.len;rw[h1,List.length_map]at this;show s.cps.size<=xs.length;grind
  .obtain⟨vs,h1,r1⟩:=hq av H' ao x w g
   have h1:vs=s.cps.toList.map λc=>V.str ⟨#[c]⟩:=h1;obtain⟨rfl,c,eJ,ev⟩:=y;obtain⟨d',e,r⟩:=r1.get' (i:=i) (v:=v) (by grind);exact⟨d',e,Ext.refl,w,r⟩
end
section
variable{X:Cx}{W:WX}{tg e e2:Expr}{f:aM}{fa:du}{p pos oK:Pos}{elts:List Expr}{kk:Nat}
def wO:D->Store->Out (List D×(Store->Prop)):=λd S1=>match d with
 | .dct ks vs=>.ok (ks,λ_=>True) S1
 | .er _ ks _=>.ok (ks,λ_=>True) S1
 |d=>(match eK S1 d with
  |some xs=>.ok (xs,λS2=>eK S2 d=some xs) S1
  |none=>.bad)
def ey(f:aM):gI:=λsl S=>(f sl S).bind wO
theorem sQ{K:PySem.W.Frag}{mg:Str->Option Value}{ρ:List Addr}{H:Hp}{S:Store}{Wp:Value->Option Addr->Hp->Prop}{R:It->Hp->Prop}{xs:List D}{G:Store->Prop}{J:It}(h:gS K mg Wp ρ H R (.ok (xs,G) S))(w:aN K mg ρ H S)(i:yR K mg J xs G ρ H):R J H:=h ρ H J Ext.refl w i
theorem gS.from{K:PySem.W.Frag}{mg:Str->Option Value}{ρ av:List Addr}{H H':Hp}{Wp:Value->Option Addr->Hp->Prop}{R:It->Hp->Prop}{o:Out (List D×(Store->Prop))}(x:Ext ρ H av H')(h:gS K mg Wp ρ H R o):gS K mg Wp av H' R o:=by
 cases o with
 |ok p S=>exact λaO aD J y w i=>h aO aD J (x.trans y) w i
 |ex e S=>exact λC dd aO aD y w r=>h C dd aO aD (x.trans y) w r
 |bad=>exact h
theorem gS.fJ{K:PySem.W.Frag}{mg:Str->Option Value}{ρ:List Addr}{H:Hp}{Wp:Value->Option Addr->Hp->Prop}{R:It->Hp->Prop}{o:Out D}{k:D->Store->Out (List D×(Store->Prop))}(h:gS K mg Wp ρ H R (o.bind k)) :
  aV K mg Wp ρ H (λv H1=>∃aA S1 d,Ext ρ H aA H1/\aN K mg aA H1 S1/\Rep K mg aA H1 d v/\o=.ok d S1/\gS K mg Wp aA H1 R (k d S1)) o:=by
 cases o with
 |ok d S=>exact λv aO aD y w r=>⟨aO,S,d,y,w,r,rfl,gS.from y h⟩
 |ex e S=>exact h
 |bad=>exact h
theorem gS.sd{K:PySem.W.Frag}{mg:Str->Option Value}{ρ:List Addr}{H:Hp}{Wp:Value->Option Addr->Hp->Prop}{R:It->Hp->Prop}{o:Out (List D)}{k:List D->Store->Out (List D×(Store->Prop))}(h:gS K mg Wp ρ H R (o.bind k)) :
  eZ K mg Wp ρ H (λv H1=>∃aA S1 d,Ext ρ H aA H1/\aN K mg aA H1 S1/\ay K mg aA H1 d v/\gS K mg Wp aA H1 R (k d S1)) o:=by
 cases o with
 |ok d S=>exact λv aO aD y w r=>⟨aO,S,d,y,w,r,gS.from y h⟩
 |ex e S=>exact h
 |bad=>exact h
theorem Ext.lock{ρ:List Addr}{H:Hp}{d:Addr}{o:Obj}{kvs:List (Key×V)}(n:d∉ρ)(h:H d=some (.dK kvs)):Ext ρ H ρ (upd H d (.frz o (.dK kvs))):=by
 refine⟨⟨[],by simp⟩,λa h n=>absurd h n,λa u mF h'=>?_⟩;by_cases q:a=d
 .subst q
  rw[h]at h';cases h';exact .inr ⟨⟨kvs,rfl⟩,o,upd_same⟩
 .exact .inl (by rw[upd_ne q];exact h')
theorem aN.lock{K:PySem.W.Frag}{mg:Str->Option Value}{ρ:List Addr}{H:Hp}{S:Store}{d:Addr}{o:Obj}{kvs:List (Key×V)}(w:aN K mg ρ H S)(n:d∉ρ)(h:H d=some (.dK kvs)):aN K mg ρ (upd H d (.frz o (.dK kvs))) S:=by
 have ne:∀a∈ρ,a≠d:=λa ha q=>n (q▸ha);refine⟨w.len,w.nd,λa ha=>by rw[upd_ne (ne a ha)];exact w.tr a ha,λmF a m aw e2=>?_⟩;have ha:a∈ρ:=jV aw;exact kh.ext (Ext.lock n h) (upd_ne (ne a ha)) (w.ob mF a m aw e2)
theorem VM{K:PySem.W.Frag}{mg:Str->Option Value}{ρ:List Addr}{H:Hp}{d:Addr}{o:Obj}{kvs:List (Key×V)}(n:d∉ρ)(h:H d=some (.frz o (.dK kvs))):yR K mg (Itk d o kvs) (kvs.map λp=>kD p.1) (λ_=>True) ρ H:=by
 have st:∀av H',Ext ρ H av H'->H' d=some (.frz o (.dK kvs)):=λav H' x=>x.kept n h (by intros;nofun);refine⟨λi av H' ao hi x w g=>⟨st av H' x,by grind⟩,λav H' ao x w g=>⟨st av H' x,by simp⟩,λi av H' ao v aD hi x w g y=>?_⟩;obtain⟨rfl,k,u,e,ev⟩:=y;refine⟨kD k,by grind,Ext.refl,w,?_⟩;rw[ev];exact VD k
theorem qX(he:E X W e f):wq X W tg e (ey f):=by
 refine PI.imp (Hh (Hh (pi_list (tg:=tg) he) (pi_tup he)) (Hh (pi_str he) (Hh (aev he) (aey he)))) λσ H R ⟨ρ,S,sl,w,rs,p⟩=>?_;have dX:=gS.fJ p;cases q:f sl S with
 |bad=>rw[q]at dX;exact dX.elim
 |ex e S1=>exact .inl (.inl ⟨ρ,S,sl,w,rs,by rw[q]at dX ⊢;exact dX⟩)
 |ok d S1 =>
  have key:∀(g:V->Hp->Prop),(∀v aA H1,aN X.K X.mg aA H1 S1->Rep X.K X.mg aA H1 d v->gS X.K X.mg (λC d H'=>W C d σ H') aA H1 R (wO d S1)->g v H1)->gO X.K X.mg W f σ H g:=λg hg=>⟨ρ,S,sl,w,rs,aV.mono dX λv H1 ⟨aA,at5,d',x1,aF,r1,eq,p1⟩=>by
    grind⟩
  have none_:eK S1 d=none->((∀ks vs,d≠.dct ks vs)/\∀w ks vs,d≠.er w ks vs)->∀(v:V) aA H1,gS X.K X.mg (λC d H'=>W C d σ H') aA H1 R (wO d S1)->False:=λex hn v aA H1 p1=>by
   cases d with
   |dct ks vs=>grind
   |er w ks vs=>grind
   |_=>simp only[wO,ex]at p1;exact p1
  have lst:((∀ks vs,d≠.dct ks vs)/\∀w ks vs,d≠.er w ks vs)->(∀ys,d≠.tup ys/\d≠.b8 ys)->(∀s,d≠.str s)->iList X.K (gO X.K X.mg W f) σ H R:=λh1 h2 aH=>by
   refine key _ λv aA H1 aF r1 p1=>?_;cases ex:eK S1 d with
   |none=>exact(none_ ex h1 v aA H1 p1).elim
   |some xs =>
    have M5:dJ S1 d=some xs:=by
     cases d with
     |str s=>grind
     |_=>exact ex
    obtain⟨a,vs,aw,g1,_⟩:=wL aF r1 M5 h2;have p2:gS X.K X.mg (λC d H'=>W C d σ H') aA H1 R (.ok (xs,λS2=>eK S2 d=some xs) S1):=by
     cases d with
     |dct ks vs=>grind
     |er w ks vs=>grind
     |_=>simp only[wO,ex]at p1;exact p1
    refine⟨a,aw,⟨vs,g1⟩,sQ p2 aF (Hi (c:=.L a) (λav H' ao uJ dE g'=>?_) rfl)⟩;have aeD:dJ ao d=some xs:=by
     cases d with
     |str s=>grind
     |_=>exact g'
    obtain⟨jE,fy,e2,b3,r2⟩:=wL dE (r1.ext uJ) aeD h2;rw[aw]at e2;cases e2;exact⟨fy,b3,r2⟩
  cases d with
  |dct ks vs =>
   refine .inr (.inr (.inl (key _ λv aA H1 aF r1 p1=>?_)));have Hj:=r1;rw[Rep]at r1;obtain⟨a,b9,fy,aw,⟨n,kvs,t,lL,ig⟩,r2,cg⟩:=r1;subst lL ig;have ek:=Ck r2;refine⟨a,kvs,aw,?_⟩;have p1:gS X.K X.mg (λC d H'=>W C d σ H') aA H1 R (.ok (ks,λ_=>True) S1):=p1;rcases t with t|⟨o,t⟩
   .refine .inl ⟨t,λo=>?_⟩
    refine gS.from (Ext.lock n t) p1 aA _ _ Ext.refl (aF.lock n t) ?_;rw[ek];exact VM n upd_same
   .refine .inr ⟨o,t,sQ p1 aF ?_⟩
    rw[ek];exact VM n t
  |er dE ks vs =>
   refine .inr (.inr (.inr (key _ λv aA H1 aF r1 p1=>?_)));have p1:gS X.K X.mg (λC d H'=>W C d σ H') aA H1 R (.ok (ks,λ_=>True) S1):=p1;rw[Rep]at r1;obtain⟨a,b9,fy,aw,⟨n,hs,es,t,⟨ns,n1,n2,za,_,VN,Hk,VO,VP⟩⟩,r2,cg⟩:=r1;exact⟨a,es,b9,aw,hs,t,Hk,sQ p1 aF (aeA n t r2 (by have:=Hk.length;grind))⟩
  |str s =>
   refine .inr (.inl (key _ λv aA H1 aF r1 p1=>?_));refine⟨s,fM r1,?_⟩;exact sQ (show gS X.K X.mg (λC d H'=>W C d σ H') aA H1 R (.ok (y' s,λS2=>eK S2 (.str s)=some (y' s)) S1)from p1) aF (Hi (c:=.S s) (λav H' ao uJ dE g'=>⟨_,rfl,M3 _⟩) rfl)
  |tup ys =>
   refine .inl (.inr (key _ λv aA H1 aF r1 p1=>?_));have Hj:=r1;rw[Rep]at r1;obtain⟨a,vs,aw,t,r2⟩:=r1;refine⟨a,aw,⟨vs,t.eQ⟩,?_⟩;refine sQ (show gS X.K X.mg (λC d H'=>W C d σ H') aA H1 R (.ok (ys,λS2=>eK S2 (.tup ys)=some ys) S1)from p1) aF (Hi (c:=.T a) (λav H' ao uJ dE g'=>?_) rfl);have cg:=Hj.ext uJ;rw[Rep]at cg;obtain⟨jE,fy,e2,t',dk⟩:=cg;rw[aw]at e2;cases e2;exact⟨fy,t'.eQ,dk⟩
  |b8 ys =>
   refine .inl (.inr (key _ λv aA H1 aF r1 p1=>?_));have Hj:=r1;rw[Rep]at r1;obtain⟨a,vs,aw,t,r2⟩:=r1;refine⟨a,aw,⟨vs,t.eQ⟩,?_⟩;refine sQ (show gS X.K X.mg (λC d H'=>W C d σ H') aA H1 R (.ok (ys,λS2=>eK S2 (.b8 ys)=some ys) S1)from p1) aF (Hi (c:=.T a) (λav H' ao uJ dE g'=>?_) rfl);have cg:=Hj.ext uJ;rw[Rep]at cg;obtain⟨jE,fy,e2,t',dk⟩:=cg;rw[aw]at e2;cases e2;exact⟨fy,t'.eQ,dk⟩
  |_=>simp_all
def lP(lo:Int)(n:Nat):List D:=(List.range n).map fun(i:Nat)=>D.int (lo+i)
def pP(fa:du):gI:=λsl S=>(fa sl S).bind λds S1=>match ds with
 |[.int j]=>if -(2 ^ 62)<=j/\j<2 ^ 62 then .ok (lP 0 j.toNat,λ_=>True) S1 else .bad
 |_=>.bad
def aeE(fa:du):gI:=λsl S=>(fa sl S).bind λds S1=>match ds with
 |[.int i,.int j]=>if -(2 ^ 62)<=i/\i<2 ^ 62 /\ -(2 ^ 62)<=j/\j<2 ^ 62 then .ok (lP i (j - i).toNat,λ_=>True) S1 else .bad
 |_=>.bad
theorem aeF{K:PySem.W.Frag}{mg:Str->Option Value}{ρ:List Addr}{H:Hp}(lo:Int)(n:Nat):yR K mg (Itr lo n) (lP lo n) (λ_=>True) ρ H:=by
 refine⟨λi av H' ao hi x w g=>by show i<n;simpa[lP]using hi,λav H' ao x w g=>by show n<=_;simp[lP],λi av H' ao v aD hi x w g y=>?_⟩;obtain⟨rfl,ev⟩:=y;have hi:i<n:=by simpa[lP]using hi
 exact⟨.int (lo+i),by simp[lP,hi],Ext.refl,w,by rw[ev];exact ie⟩
theorem Hl(ha:gQ X W [e] fa)(hg:Gl X "range")(hm:X.mg "range"=none)(hs:starEach [e] X.env=[(false,eval e X.env)]:=by rfl):wq X W tg (.Call (.Name "range" p) [e] [] pos) (pP fa):=by
 refine PI.imp (pi_range1 hg hm ha hs) λσ H R ⟨ρ,S,sl,w,rs,p⟩=>⟨ρ,S,sl,w,rs,eZ.mono (gS.sd p) λvs H1 ⟨aA,S1,ds,x1,aF,r1,p1⟩=>?_⟩
 split at p1
 .rename_i j
  split at p1
  .rename_i cK
   obtain⟨v,aw,r2⟩:=lK r1;rw[f6 r2]at aw;exact⟨j,aw,cK.1,cK.2,sQ p1 aF (aeF 0 _)⟩
  .exact p1.elim
 .exact p1.elim
def wQ(xs ys:List D):List D:=List.zipWith (λx y=>.tup [x,y]) xs ys
def Cu(fa:du):gI:=λsl S=>(fa sl S).bind λds S1=>match ds with
 |[d,e]=>(match eK S1 d,eK S1 e with
  |some xs,some ys=>.ok (wQ xs ys,λS2=>eK S2 d=some xs/\eK S2 e=some ys) S1
  |_,_=>.bad)
 |_=>.bad
theorem aeG(ha:gQ X W [e,e2] fa)(hg:Gl X "zip")(hm:X.mg "zip"=none)
  (hs:starEach [e,e2] X.env=(false,eval e X.env)::starEach [e2] X.env:=by rfl) (fK:(backTo pos (starEach [e2] X.env)).any (·.1)=false:=by rfl):wq X W (.Tuple elts kk oK) (.Call (.Name "zip" p) [e,e2] [] pos) (Cu fa):=by
 refine PI.imp (adX hg hm ha hs fK) λσ H R ⟨ρ,S,sl,w,rs,p⟩=>⟨ρ,S,sl,w,rs,eZ.mono (gS.sd p) λvs H1 ⟨aA,S1,ds,x1,aF,r1,p1⟩=>?_⟩
 split at p1
 .rename_i d d'
  split at p1
  .rename_i xs ys ex ew
   obtain⟨v,u,aw,r2,cg⟩:=adI r1;obtain⟨c,eJ,hc⟩:=M4 aF r2 ex;obtain⟨c',at6,Hm⟩:=M4 aF cg ew;obtain⟨us,h1,_⟩:=hc aA H1 S1 xs Ext.refl aF ex;obtain⟨aeH,nr,_⟩:=Hm aA H1 S1 ys Ext.refl aF ew;refine⟨c,c',us,aeH,by grind,h1,nr,sQ p1 aF ?_⟩;refine⟨λi av H' ao hi x w g=>?_,λav H' ao x w g=>?_,λi av H' ao v aD hi x w g y=>?_⟩
   .obtain⟨vs,bN,t1⟩:=hc av H' ao xs x w g.1
    obtain⟨fy,b3,nI⟩:=Hm av H' ao ys x w g.2;simp only[wQ,List.length_zipWith]at hi;have l1:=t1.len;have l2:=nI.len;exact⟨vs,fy,vs[i]'(by omega),fy[i]'(by omega),bN,b3,by simp,by simp⟩
   .obtain⟨vs,bN,t1⟩:=hc av H' ao xs x w g.1
    obtain⟨fy,b3,nI⟩:=Hm av H' ao ys x w g.2;have l1:=t1.len;have l2:=nI.len;refine⟨vs,fy,bN,b3,?_⟩;simp only[wQ,List.length_zipWith];omega
   .obtain⟨vs,bN,t1⟩:=hc av H' ao xs x w g.1
    obtain⟨fy,b3,nI⟩:=Hm av H' ao ys x w g.2;obtain⟨T,a,b,ev,d9,rfl,y1,Cv⟩:=y;obtain⟨ny,g1,dS⟩:=t1.get' (y1 vs bN);obtain⟨zb,g2,cX⟩:=nI.get' (Cv fy b3);refine⟨.tup [ny,zb],by simp[wQ,List.getElem?_zipWith,g1,g2],Ext.gG d9,w.gG d9,?_⟩;rw[Rep];exact⟨T,_,ev,.inl ⟨w.nin d9,upd_same⟩,ay.cons (dS.ext (Ext.gG d9)) (ay.cons (cX.ext (Ext.gG d9)) ay.nil)⟩
  .exact p1.elim
 .exact p1.elim
def pQ:Nat->List D->List D
 |_,[]=>[]
 |i,x::xs=>.tup [.int i,x]::pQ (i+1) xs
theorem M6:∀(i:Nat) (xs:List D),(pQ i xs).length=xs.length
 |_,[]=>rfl
 |i,x::xs=>by rw[pQ,List.length_cons,List.length_cons,M6]
theorem VQ:∀(i:Nat) (xs:List D) (j:Nat),(pQ i xs)[j]?=xs[j]?.map λx=>.tup [.int ((i+j:Nat):Int),x]
 |_,[],j=>by simp[pQ]
 |i,x::xs,0=>by simp[pQ]
 |i,x::xs,j+1=>by
  rw[pQ,KC,KC,VQ];grind
def pR(fa:du):gI:=λsl S=>(fa sl S).bind λds S1=>match ds with
 |[d]=>(match eK S1 d with
  |some xs=>.ok (pQ 0 xs,λS2=>eK S2 d=some xs) S1
  |_=>.bad)
 |_=>.bad
theorem VR(ha:gQ X W [e] fa)(hg:Gl X "enumerate")(hm:X.mg "enumerate"=none)(hs:starEach [e] X.env=[(false,eval e X.env)]:=by rfl):wq X W (.Tuple elts kk oK) (.Call (.Name "enumerate" p) [e] [] pos) (pR fa):=by
 refine PI.imp (aea hg hm ha hs) λσ H R ⟨ρ,S,sl,w,rs,p⟩=>⟨ρ,S,sl,w,rs,eZ.mono (gS.sd p) λvs H1 ⟨aA,S1,ds,x1,aF,r1,p1⟩=>?_⟩
 split at p1
 .rename_i d
  split at p1
  .rename_i xs ex
   obtain⟨v,aw,r2⟩:=lK r1;obtain⟨c,eJ,hc⟩:=M4 aF r2 ex;obtain⟨us,h1,_⟩:=hc aA H1 S1 xs Ext.refl aF ex;refine⟨c,us,by rw[aw,eJ],h1,sQ p1 aF ?_⟩;refine⟨λi av H' ao hi x w g=>?_,λav H' ao x w g=>?_,λi av H' ao v aD hi x w g y=>?_⟩
   .obtain⟨vs,bN,t1⟩:=hc av H' ao xs x w g
    rw[M6]at hi;exact⟨vs,vs[i]'(by rw[<-t1.len];exact hi),bN,by simp⟩
   .obtain⟨vs,bN,t1⟩:=hc av H' ao xs x w g
    exact⟨vs,bN,by rw[M6,t1.len]⟩
   .obtain⟨vs,bN,t1⟩:=hc av H' ao xs x w g
    obtain⟨T,a,ev,d9,rfl,y1⟩:=y;obtain⟨ny,g1,dS⟩:=t1.get' (y1 vs bN);refine⟨.tup [.int ((0+i:Nat):Int),ny],by rw[VQ,g1];rfl,Ext.gG d9,w.gG d9,?_⟩;rw[Rep];exact⟨T,_,ev,.inl ⟨w.nin d9,upd_same⟩,ay.cons (by rw[Nat.zero_add];exact ie) (ay.cons (dS.ext (Ext.gG d9)) ay.nil)⟩
  .exact p1.elim
 .exact p1.elim
end
def df(sl:aT):List Nat->aT
 |[]=>sl
 |v::vs=>(df sl vs).set v none
theorem VS(sl:aT):∀vs,(df sl vs).length=sl.length
 |[]=>rfl
 |v::vs=>by rw[df,List.length_set,VS]
theorem Hn{σ:L2.St}{i:Nat}{x:Option V}:∀{vs:List Nat},i∈vs->wipe (σ.set i x) vs=wipe σ vs
 |v::vs,h=>by
  rw[wipe,wipe];by_cases hi:i=v
  .subst hi
   by_cases bP:i∈vs
   .rw[Hn bP]
   .have:∀ws:List Nat,i∉ws->wipe (σ.set i x) ws=(wipe σ ws).set i x:=by
     intro ws
     induction ws with
     |nil=>intro _;rfl
     |cons w ws ih =>
      intro hn;rw[wipe,wipe,ih (λq=>hn (iH _ q))];exact List.set_comm _ _ (λq=>hn (by grind))
    simp_all
  .rw[Hn (by grind)]
theorem M7{σ:L2.St}:∀{vs us:List Nat},(∀v∈us,v∈vs)->wipe (wipe σ us) vs=wipe σ vs
 |vs,[],_=>rfl
 |vs,u::us,h=>by
  rw[show wipe σ (u::us)=(wipe σ us).set u none from rfl,Hn (h u ow)];exact M7 λv bP=>h v (iH _ bP)
theorem cH.wipe{K:PySem.W.Frag}{mg:Str->Option Value}{ρ:List Addr}{H:Hp}{σ:L2.St}{sl:aT}(r:cH K mg ρ H σ sl):∀vs:List Nat,cH K mg ρ H (L2.wipe σ vs) (df sl vs)
 |[]=>r
 |v::vs=>by
  have ih:=cH.wipe r vs;refine⟨by rw[wipe_length,VS];exact r.len,λj d e=>?_⟩;rw[df]at e;rw[L2.wipe];by_cases cK:v=j
  .grind
  .rw[lx cK]at e ⊢
   exact ih.at_ j d e
def M8(K:PySem.W.Frag)(mg:Str->Option Value)(W:WX)(vs:List Nat)(jF:L2.St)(g:d4):TG:=λv σ H Q=>∃ρ S sl d,aN K mg ρ H S/\cH K mg ρ H σ sl/\Rep K mg ρ H d v/\L2.wipe σ vs=jF/\bV K mg W ρ H ⟨λbA H'=>L2.wipe bA vs=jF->Q bA H',λ_ _=>False,λ_ _=>False,λ_ _=>False⟩ (g d sl S)
def aeI(K:PySem.W.Frag)(mg:Str->Option Value)(W:WX)(vs:List Nat)(jF:L2.St)(g:ib):TGs:=λv σ H Q=>∃ρ S sl d,aN K mg ρ H S/\cH K mg ρ H σ sl/\ay K mg ρ H d v/\L2.wipe σ vs=jF/\bV K mg W ρ H ⟨λbA H'=>L2.wipe bA vs=jF->Q bA H',λ_ _=>False,λ_ _=>False,λ_ _=>False⟩ (g d sl S)
def wR(X:Cx)(W:WX)(vs:List Nat)(tg:Expr)(g:d4):Prop:=∀jF,PG X tg (M8 X.K X.mg W vs jF g)
def Ho(X:Cx)(W:WX)(vs:List Nat)(tg:List Expr)(g:ib):Prop:=∀jF,PGs X tg (aeI X.K X.mg W vs jF g)
section
variable{X:Cx}{W:WX}{vs:List Nat}{pos:Pos}
theorem jG{i:Nat}{x:Str}(gF:X.N.Nodup)(hi:X.N[i]?=some x:=by rfl)(hx:Loc X.env.scope x:=by first|exact Or.inl rfl|exact Or.inr rfl)(hf:X.fn x=true\/X.env.scope.names.lookup x=some .local:=by first|exact .inl rfl|exact .inr rfl)(bP:i∈vs:=by decide):wR X W vs (.Name x pos) (aP i):=λjF =>
 PG.imp (pg_name gF hi hx hf) λv σ H Q ⟨ρ,S,sl,d,w,rs,aW,sR,p⟩=>p _ ρ H Ext.refl w (rs.set aW i) (by rw[Hn bP];exact sR)
theorem M9:Ho X W vs [] gH:=λjF=>PGs.imp pgs_nil λv σ H Q ⟨ρ,S,sl,ds,w,rs,aW,sR,p⟩=>by
 cases ds with
 |nil =>
  rw[ay]at aW;exact⟨aW,p _ ρ H Ext.refl w rs sR⟩
 |cons d r=>exact p.elim
theorem zf{t:Expr}{ts:List Expr}{g:d4}{gs:ib}(h:wR X W vs t g)(hr:Ho X W vs ts gs)(hs:(assignEach (t::ts) X.env).map (·.2)=assign t X.env::(assignEach ts X.env).map (·.2):=by rfl):Ho X W vs (t::ts) (c1 g gs):=λjF =>
 PGs.imp (pgs_cons (h jF) (hr jF) hs) λv σ H Q ⟨ρ,S,sl,ds,w,rs,aW,sR,p⟩=>by
  cases ds with
  |nil=>exact p.elim
  |cons d r =>
   rw[ay]at aW;obtain⟨v1,L7,e,h1,h2⟩:=aW;subst e;refine⟨v1,L7,rfl,ρ,S,sl,d,w,rs,h1,sR,?_⟩;have p:bV X.K X.mg W ρ H ⟨λbA H'=>L2.wipe bA vs=jF->Q bA H',λ_ _=>False,λ_ _=>False,λ_ _=>False⟩ ((g d sl S).then (gs r)):=p;cases q:g d sl S with
   |nx a' S1 =>
    rw[q]at p;exact λiO aA H1 x1 aF r1 aw=>⟨aA,S1,a',r,aF,r1,h2.ext x1,aw,bV.from x1 p⟩
   |bk a' S1=>rw[q]at p;exact p
   |ct a' S1=>rw[q]at p;exact p
   |rt ny S1=>rw[q]at p;exact p
   |ex aw a' S1=>rw[q]at p;exact p
   |bad=>rw[q]at p;exact p
theorem M_{es:List Expr}{k:Nat}{gs:ib}{n:Nat}(hc:X.calm=true)(h:Ho X W vs es gs)(hl:∀ds sl S,gs ds sl S≠.bad->ds.length=n)(hn:(assignEach es X.env).length=n:=by rfl)(eG:(assignEach es X.env).findIdx? (·.1)=none:=by rfl):wR X W vs (.Tuple es k pos) (hj gs):=λjF =>
 PG.imp (pg_tup hc (h jF) hn eG) λv σ H Q ⟨ρ,S,sl,d,w,rs,aW,sR,p⟩=>by
  cases d with
  |tup ds =>
   rw[Rep]at aW;obtain⟨a,us,e,t,r⟩:=aW;have p:bV X.K X.mg W ρ H ⟨λbA H'=>L2.wipe bA vs=jF->Q bA H',λ_ _=>False,λ_ _=>False,λ_ _=>False⟩ (gs ds sl S):=p;exact⟨a,us,e,t.eQ,by rw[<-r.len];exact hl ds sl S (λq=>by rw[q]at p;exact p),ρ,S,sl,ds,w,rs,r,sR,p⟩
  |b8 ds =>
   rw[Rep]at aW;obtain⟨a,us,e,t,r⟩:=aW;have p:bV X.K X.mg W ρ H ⟨λbA H'=>L2.wipe bA vs=jF->Q bA H',λ_ _=>False,λ_ _=>False,λ_ _=>False⟩ (gs ds sl S):=p;exact⟨a,us,e,t.eQ,by rw[<-r.len];exact hl ds sl S (λq=>by rw[q]at p;exact p),ρ,S,sl,ds,w,rs,r,sR,p⟩
  |_=>exact p.elim
def cv:cJ:=λ_ S=>.ok true S
def M'(X:Cx)(W:WX)(ifs:List Expr)(f:cJ):Prop:=PTs X ifs (we X.K X.mg W f)
theorem PTs.imp{ifs:List Expr}{t t':TT}(h:PTs X ifs t)(k:∀σ H Q,t' σ H Q->t σ H Q):PTs X ifs t':=⟨λpins s σ H Q I q=>h.run pins s σ H Q I (k σ H Q q)⟩
theorem kY:M' X W [] cv:=PTs.imp pts_nil λσ H Q ⟨ρ,S,sl,w,rs,p⟩=>p ρ H Ext.refl w
end
def WF:WX:=λ_ _ _ _=>False
def jf(G:Store->Prop)(g:d4)(bt:cJ)(fe:aM)(n:Nat)(sl:aT):List D->Store->Out Unit
 |[],S=>open Classical in if G S then .ok () S else .bad
 |x::xs,S=>open Classical in if G S then(match g x sl S with
  | .nx a' S1=>(match bt a' S1 with
   | .ok true S2=>(match fe a' S2 with
    | .ok d a4=>(match a4[n]? with
     |some (.lst acc)=>if acc.length<1000000 then jf G g bt fe n sl xs (a4.set n (.lst (acc++[d])))else .bad
     |_=>.bad)
    |_=>.bad)
   | .ok false S2=>jf G g bt fe n sl xs S2
   |_=>.bad)
  |_=>.bad)else .bad
def cw(it:gI)(g:d4)(bt:cJ)(fe:aM)(own:List Nat):aM:=λsl S=>(it sl S).bind λp S1=>(jf p.2 g bt fe S1.length (df sl own) p.1 (S1++[.lst []])).bind λ_ S2=>.ok (.ptr S1.length) S2
section
variable{X:Cx}{W:WX}{pos:Pos}
theorem aeJ{it:gI}{g:d4}{bt:cJ}{fe:aM}{own:List Nat}{K:PySem.W.Frag}{mg:Str->Option Value}{σ:L2.St}{H:Hp}{Q:VK}(h:gO K mg W (cw it g bt fe own) σ H Q) :
  tLc (B1 K mg W it) (M8 K mg WF own (L2.wipe σ own) g) (we K mg WF bt) (gO K mg WF fe) own σ H Q:=by
 obtain⟨ρ,S,sl,w,rs,p⟩:=h;refine⟨ρ,S,sl,w,rs,?_⟩;have p:aV K mg (λC d H'=>W C d σ H') ρ H Q ((it sl S).bind λp S1=>(jf p.2 g bt fe S1.length (df sl own) p.1 (S1++[.lst []])).bind λ_ S2=>.ok (.ptr S1.length) S2):=p;cases q:it sl S with
 |bad=>rw[q]at p;exact p
 |ex e S1=>rw[q]at p;exact p
 |ok pr S1 =>
  rw[q]at p;obtain⟨xs,G⟩:=pr;intro aA H1 J x1 aF wt D bL;have p1:aV K mg (λC d H'=>W C d σ H') aA H1 Q ((jf G g bt fe S1.length (df sl own) xs (S1++[.lst []])).bind λ_ S2=>.ok (.ptr S1.length) S2):=aV.from x1 p;have x2:Ext aA H1 (aA++[D]) (upd H1 D (.lst [])):=Ext.hand bL;have cm:aN K mg (aA++[D]) (upd H1 D (.lst [])) (S1++[.lst []]):=aF.hand bL ⟨[],upd_same,ay.nil⟩;have MV:cH K mg (aA++[D]) (upd H1 D (.lst [])) (L2.wipe σ own) (df sl own):=((rs.ext x1).ext x2).wipe own;have Cw:(aA++[D])[S1.length]?=some D:=by rw[<-aF.len];simp
  refine⟨λi m H'=>i+m=xs.length/\∃av ao,Ext (aA++[D]) (upd H1 D (.lst [])) av H'/\aN K mg av H' ao/\aV K mg (λC d H'=>W C d σ H') av H' Q ((jf G g bt fe S1.length (df sl own) (xs.drop i) ao).bind λ_ S2=>.ok (.ptr S1.length) S2),
   ⟨xs.length,by simp,aA++[D],_,Ext.refl,cm,aV.from x2 (by grind)⟩,?_⟩
  rintro i m hT ⟨hm,mI,a4,b0,ia,cq⟩;cases m with
  |zero =>
   have hi:i=xs.length:=by omega
   subst hi;rw[List.drop_length,jf]at cq;by_cases cP:G a4
   .rw[if_pos cP]at cq
    refine .inl ⟨wt.stop mI hT a4 (x2.trans b0) ia cP,?_⟩;exact cA (d:=.ptr S1.length) cq ia (by rw[Rep];exact⟨D,rfl,b0.get Cw⟩)
   .rw[if_neg cP]at cq;exact cq.elim
  |succ m =>
   have c6:i<xs.length:=by omega
   have hd:xs.drop i=xs[i]::xs.drop (i+1):=(Kz c6).symm;rw[hd,jf]at cq;by_cases cP:G a4
   .rw[if_pos cP]at cq
    refine .inr ⟨wt.go i mI hT a4 c6 (x2.trans b0) ia cP,λH'=>∃av ao,Ext (aA++[D]) (upd H1 D (.lst [])) av H'/\aN K mg av H' ao/\aV K mg (λC d H'=>W C d σ H') av H' Q ((jf G g bt fe S1.length (df sl own) (xs.drop (i+1)) ao).bind λ_ S2=>.ok (.ptr S1.length) S2),λH' n=>⟨m,uk m,by omega,n⟩,?_⟩;intro v kl y;obtain⟨d,e,c0,sg,dk⟩:=wt.yld i mI hT a4 v kl c6 (x2.trans b0) ia cP y;have ed:d=xs[i]:=by rw[pE c6]at e;exact(Option.some.inj e).symm
    subst ed;refine⟨mI,a4,df sl own,xs[i],sg,(MV.ext (b0.trans c0)),dk,M7 (λ_ h=>h),?_⟩;cases bN:g xs[i] (df sl own) a4 with
    |nx qP dO =>
     rw[bN]at cq;simp only at cq;intro wu nz qQ cB lF iP e5;refine⟨e5,nz,dO,qP,lF,iP,?_⟩;have VU:=(b0.trans c0).trans cB;have ez:=aV.from (c0.trans cB) cq;cases b3:bt qP dO with
     |bad=>rw[b3]at ez;exact ez.elim
     |ex e dB=>rw[b3]at ez;exact ez.elim
     |ok b dB =>
      rw[b3]at ez;intro qY hI b7 sS;have iq:=aV.from b7 ez;cases b with
      |false =>
       rw[if_neg kK];exact⟨qY,dB,VU.trans b7,sS,iq⟩
      |true =>
       rw[if_pos rfl];refine⟨qY,dB,qP,sS,iP.ext b7,?_⟩;simp only at iq;cases e1:fe qP dB with
       |bad=>rw[e1]at iq;exact iq.elim
       |ex e dU=>rw[e1]at iq;exact iq.elim
       |ok aeK dU =>
        rw[e1]at iq;intro aeL Nb VW cY VX aeM;have oM:=aV.from cY iq;simp only at oM;have VY:=(VU.trans b7).trans cY;have Nc:=VY.get Cw;split at oM
        .rename_i acc ea
         split at oM
         .rename_i hl
          obtain⟨us,h1,ra⟩:=VX.ob S1.length D _ Nc ea;refine⟨us,h1,by rw[<-ra.len];have:=jY (n:=acc.length+1) (by omega);omega,?_⟩;have hx:Ext Nb VW Nb (upd VW D (.lst (us++[aeL]))):=Ext.putL Nc;exact⟨Nb,_,VY.trans hx,VX.put (m:=.lst (acc++[aeK])) Nc ⟨_,upd_same,(ra.append (ay.cons aeM ay.nil)).ext hx⟩,aV.from hx oM⟩
         .exact oM.elim
        .exact oM.elim
    |bk uF bR=>rw[bN]at cq;exact cq.elim
    |ct uF bR=>rw[bN]at cq;exact cq.elim
    |rt adf bR=>rw[bN]at cq;exact cq.elim
    |ex dA uF bR=>rw[bN]at cq;exact cq.elim
    |bad=>rw[bN]at cq;exact cq.elim
   .rw[if_neg cP]at cq;exact cq.elim
variable{elt tg iter:Expr}{ifs:List Expr}{scope:Scope}{own:List (Str×Nat)}{it:gI}{g:d4}{bt:cJ}{fe:aM}
theorem aeN{Hq:TI}{g1 g2:TG}{tt:TT}{te:TE}{vs:List Nat}{σ:L2.St}{H:Hp}{Q:VK}(k:∀x H' e7,g1 x (L2.wipe σ vs) H' e7->g2 x (L2.wipe σ vs) H' e7)(kw:∀H R qZ,(∀J H1,R J H1->qZ J H1)->Hq σ H R->Hq σ H qZ)(h:tLc Hq g1 tt te vs σ H Q):tLc Hq g2 tt te vs σ H Q:=by
 refine kw H _ _ (λJ H1 h D bL=>?_) h;obtain⟨W,h0,hs⟩:=h D bL;refine⟨W,h0,λi m H' hw=>?_⟩;rcases hs i m H' hw with h|⟨hg,aeO,h1,h2⟩
 .exact .inl h
 .exact .inr ⟨hg,aeO,h1,λx aD y=>k _ _ _ (h2 x aD y)⟩
def Nf(K:PySem.W.Frag)(mg:Str->Option Value)(W:WX)(vs:List Nat)(g:d4):TG:=λv σ H Q=>M8 K mg W vs (L2.wipe σ vs) g v σ H Q
theorem wR.all{X:Cx}{W:WX}{vs:List Nat}{tg:Expr}{g:d4}(h:wR X W vs tg g):PG X tg (Nf X.K X.mg W vs g):=⟨λpins s σ H v u Q I r q=>(h (L2.wipe σ vs)).run pins s σ H v u Q I r q⟩
theorem aeP{K:PySem.W.Frag}{mg:Str->Option Value}{it:gI}{σ:L2.St}(H:Hp)(R qZ:It->Hp->Prop)(k:∀J H1,R J H1->qZ J H1)(h:B1 K mg W it σ H R):B1 K mg W it σ H qZ:=by
 obtain⟨ρ,S,sl,w,rs,p⟩:=h;refine⟨ρ,S,sl,w,rs,?_⟩;cases q:it sl S with
 |bad=>rw[q]at p;exact p
 |ex e S1=>rw[q]at p;exact p
 |ok pr S1=>rw[q]at p;exact λav H' J x w i=>k _ _ (p av H' J x w i)
theorem VZ{K:PySem.W.Frag}{mg:Str->Option Value}{vs:List Nat}{σ:L2.St}{H:Hp}{Q:VK}(h:gO K mg W (cw it g bt fe vs) σ H Q):tLc (B1 K mg W it) (Nf K mg WF vs g) (we K mg WF bt) (gO K mg WF fe) vs σ H Q:=by
 refine aeN (λx H' e7 q=>?_) (λH R qZ k h=>aeP H R qZ k h) (aeJ h);unfold Nf;rw[M7 (λ_ h=>h)];exact q
theorem pS(hc:X.calm=true)(gF:X.N.Nodup)(ok:BlkOk X.N X.env.scope scope own)(hi:wq X W tg iter it)
  (hg:∀(s:Shared) (H:Hp) (C:Addr) (cl:List (Str×Addr)) (fp:List Addr),wR (X.blk s H scope (compEnvC scope cl C X.env) fp) WF (own.map (·.2)) tg g) (ht:∀(s:Shared) (H:Hp) (C:Addr) (cl:List (Str×Addr)) (fp:List Addr),M' (X.blk s H scope (compEnvC scope cl C X.env) fp) WF ifs bt)
  (he:∀(s:Shared) (H:Hp) (C:Addr) (cl:List (Str×Addr)) (fp:List Addr),E (X.blk s H scope (compEnvC scope cl C X.env) fp) WF elt fe) (hs:∀x,foldedSetIterable iter X.env x=pure x:=by intro _;rfl) :
  E X W (.ListComp elt [⟨tg,iter,ifs,0⟩] scope pos) (cw it g bt fe (own.map (·.2))) :=
 PE.imp (pe_lc (tt:=we X.K X.mg WF bt) (te:=gO X.K X.mg WF fe) hc gF hi ok (λs H C cl fp=>(hg s H C cl fp).all) ht he hs) λσ H Q h=>VZ h
def cC(f:aM):aM:=λsl S=>fin S (f sl S)
theorem nJ{e:Expr}{f:aM}(h:E X W e f):E X W e (cC f):=PE.imp h λσ H Q ⟨ρ,S,sl,w,rs,p⟩=>⟨ρ,S,sl,w,rs,yU w p⟩
end
open PySem PySem.Spec L2 PyProof.Rows Za PySem.W
def V0{α:Type}(xs:List α)(ps:List PyData):List α:=((xs.zip ps).mergeSort (dataLe false (·.2))).map (·.1)
def aeQ(ps:List PyData):Prop:=AllAlike ps/\Sortable ps/\ps.length<=1000000/\∀d∈ps,d.depth<=50
section
def V1(x:Str):List Str:=x.cps.toList.map λc=>⟨#[c]⟩
def aeR:aB:=λds S=>match ds with
 |[.str x]=>if x.length<=1000000 then .ok (.ptr S.length) (S++[.lst (V0 (y' x) ((V1 x).map PyData.str))])else .bad
 |[d]=>(match d8 S d with
  |some xs=>(match jC xs with
   |some ps=>open Classical in if aeQ ps then .ok (.ptr S.length) (S++[.lst (V0 xs ps)])else .bad
   |none=>.bad)
  |none=>.bad)
 |_=>.bad
end
def wU(K:PySem.W.Frag)(mg:Str->Option Value)(g:aB):Sp:=λvs H Q E=>∃ρ S ds,aN K mg ρ H S/\ay K mg ρ H ds vs/\aV K mg E ρ H Q (g ds S)
abbrev aZ(P:Program)(w:World)(K:PySem.W.Frag)(mg:Str->Option Value)(base:Heap)(k:Nat)(f:Addr)(g:aB):Prop:=FnR P w K mg base (Z.CX P w) k f (wU K mg g)
def Cy(N:Nat)(body:SX):aB:=λds S=>(body (ds.map some++List.replicate (N - ds.length) none) S).out
section
variable{P:Program}{w:World}{K:PySem.W.Frag}{mg:Str->Option Value}{base:Heap}
def bZ(n:Nat)(g:aB):aB:=λds S=>if ds.length=n then g ds S else .bad
theorem sT{f:Addr}{fd:FuncData}{ps:List Str}{k n:Nat}{g:aB}(F:FnOk P w K mg base (Z.CX P w) k f fd ps (jA K mg n g))(hb:Binds K fd ps []):aZ P w K mg base k f (bZ n g) :=
 (F.raw hb .nil).imp λvs H Q E ⟨ρ,S,ds,dQ,r,p⟩=>by
  unfold bZ at p;split at p
  .rename_i hl
   exact⟨ρ,S,ds,hl,dQ,by grind,p⟩
  .exact p.elim
end
theorem q0{X:Cx}:Takes X WF:=λu s' ⟨_,_,_,_,_,_,_,_,_,_,_,_,_,_,_,_,w⟩=>w.elim
section
variable{X:Cx}{W:WX}{k:Nat}{f C:Addr}{g:aB}{x m:Str}{p pos apos:Pos}{e o:Expr}{es:List Expr}{fa:du}{fo fe:aM}
theorem Cz{pins:List (Addr×Obj)}{σ:L2.St}{H:Hp}{s:Shared}{Q:VK}{us:List Value}{vs:List V}{sp:Sp}{E:XK}(F:FnR X.prog X.w X.K X.mg X.base (Z.CX X.prog X.w) k f sp)(hr:Room k X.A)(hx:PassesAt (Z.CX X.prog X.w) X σ E)(I:Inv X pins σ H s)(r:Vals vs us)(h:sp vs H Q E) :
  wpAny (model X.prog X.w) X.A (PySem.call (.ref f) us) (EP X pins σ Q) X.xe s:=by
 refine wpAny_call (codeAny_mono (F X.A X.stack s H us vs Q E hr I.env0 r h) λr s' hq=>?_);cases r with
 |error e=>exact hx pins H s e s' I hq
 |ok fl =>
  cases fl with
  |ret u=>exact I.after hq
  |next=>exact False.elim hq
  |brk=>exact False.elim hq
  |cont=>exact False.elim hq
theorem bX(tk:Takes X W)(F:aZ X.prog X.w X.K X.mg X.base k f g)(hr:Room k X.A)(hm:X.mg x=some (.ref f))(hk:PySem.W.keepIn X.K (.ref f)=true)
  (ha:gQ X W (e::es) fa) (hg:Gl X x:=by rfl) (gR:(x==("__debug__":Str))=false:=by decide) (he:starEach (e::es) X.env=(false,eval e X.env)::starEach es X.env:=by rfl) (fK:(backTo pos (starEach es X.env)).any (·.1)=false:=by rfl) :
  E X W (.Call (.Name x p) (e::es) [] pos) (ak g fa):=by
 refine⟨λpins s σ H Q I h=>?_⟩;refine wpAny_Call_Name_kw (ld_glob I hg hm ?_ gR);have h':=si (k:=λvs H1=>wU X.K X.mg g vs H1 Q (WE W σ)) h λρ S H1 ds vs w r p=>⟨ρ,S,ds,w,r,p⟩
 refine qD (h₀:=X.base) I.ok.mod.kin hk (thn (ha.run pos pins s σ H _ I h') λus s1 ⟨vs,H1,I1,r,q⟩=>⟨I1.kIn,?_⟩) he fK;exact Cz F hr (su tk σ) I1 r q
theorem aeS(tk:Takes X W)(F:aZ X.prog X.w X.K X.mg X.base k f g)(hr:Room k X.A)(hm:X.mg x=some (.ref f))(hk:PySem.W.keepIn X.K (.ref f)=true)
  (hg:Gl X x:=by rfl) (gR:(x==("__debug__":Str))=false:=by decide):E X W (.Call (.Name x p) [] [] pos) (ak g ah):=by
 refine⟨λpins s σ H Q I h=>?_⟩;refine wpAny_Call_Name_kw (ld_glob I hg hm ?_ gR);obtain⟨ρ,S,sl,w,r,p⟩:=h;exact PySem.W.callWith_K0 I.kIn hk (Cz (us:=[]) (vs:=[]) F hr (su tk σ) I .nil ⟨ρ,S,[],w,ay.nil,p⟩)
def jH(tab:List (Str×aB))(c:Str):Option aB:=tab.lookup c
def cQ(m:Str)(tab:List (Str×aB))(fo:aM)(fa:du):aM:=λsl S=>(fo sl S).bind λd S1=>match iR S1 d with
 |some (c,ns,_)=>if m∈ns then .bad else(match jH tab c with
  |some g=>(fa sl S1).bind λds S2=>g (d::ds) S2
  |none=>.bad)
 |none=>.bad
structure CA(X:Cx)(m:Str)(tab:List (Str×aB)):Prop where
 at_:∀c g,jH tab c=some g->∀C,X.mg c=some (.ref C)->∃(f:Addr) (k:Nat),Cls X.K C/\Meth X.K C m f/\aZ X.prog X.w X.K X.mg X.base k f g/\Room k X.A
theorem jI:CA X m []:=⟨λc g h=>by cases h⟩
theorem jJ{c:Str}{C:Addr}{tab:List (Str×aB)}(hm:X.mg c=some (.ref C))(hc:Cls X.K C)(oN:Meth X.K C m f)(F:aZ X.prog X.w X.K X.mg X.base k f g)(hr:Room k X.A)(h:CA X m tab):CA X m ((c,g)::tab):=⟨λc' g' h' eA iu=>by
 unfold jH at h';rw[List.lookup_cons]at h';cases q:c'==c with
 |true =>
  grind
 |false =>
  rw[q]at h';exact h.at_ c' g' h' eA iu⟩
theorem kq{pl:Sem Bool}{tab:List (Str×aB)}(tk:Takes X W)(ht:CA X m tab)(aY:E X W o fo)(ha:gQ X W (e::es) fa)
  (eG:starEach (e::es) X.env=(false,eval e X.env)::starEach es X.env:=by rfl) (fK:(backTo pos (starEach es X.env)).any (·.1)=false:=by rfl)
  (mN:eval (.Call (.Attribute o m apos) (e::es) [] pos) X.env=(do
   let gu <-eval o X.env
   standAt apos.atName
   let (f,first) <-holding [gu] (getMethod gu m pl)
   callWith pos f first (backTo pos (starEach (e::es) X.env)) (backToKw pos (keywordEach [] X.env))):=by rfl) :
  E X W (.Call (.Attribute o m apos) (e::es) [] pos) (cQ m tab fo fa):=by
 refine⟨λpins s σ H Q I h=>?_⟩;obtain⟨ρ,S,sl,w,rs,p⟩:=h;refine KD (pl:=pl) (thn (aY.run pins s σ H _ I ⟨ρ,S,sl,w,rs,aV.fJ p⟩) λu s1 ⟨x,H1,I1,aJ,aA,S1,d,x1,aF,r1,_,p1⟩=>?_) mN;split at p1
 .rename_i c ns vs wV
  split at p1
  .exact p1.elim
  .rename_i mO
   split at p1
   .rename_i g nK
    obtain⟨a,C,bM,fs,ex,hm,ea,hn,cu⟩:=yX aF r1 wV;obtain⟨f,k,hc,oN,F,hr⟩:=ht.at_ c g nK C hm;subst ex;obtain rfl:u=Value.ref a:=aJ;refine getmeth_ok I1 ea hc oN (Mf hn mO) ?_;refine qD (first:=[.ref a]) (h₀:=X.base) I.ok.mod.kin oN.kp (thn (ha.run pos pins s1 σ H1 _ I1 ⟨aA,S1,sl,aF,rs.ext x1,eZ.fJ p1⟩) λus s2 ⟨vs,aD,I2,r,aO,S2,ds,x2,cm,r2,_,p2⟩=>⟨I2.kIn,?_⟩) eG fK;exact Cz (us:=.ref a::us) (vs:=.ref a::vs) F hr (su tk σ) I2 (.cons rfl r) ⟨aO,S2,d::ds,cm,ay.cons (r1.ext x2) r2,p2⟩
   .exact p1.elim
 .exact p1.elim
theorem V2{pl:Sem Bool}{tab:List (Str×aB)}(tk:Takes X W)(ht:CA X m tab)(aY:E X W o fo)
  (mN:eval (.Call (.Attribute o m apos) [] [] pos) X.env=(do
   let gu <-eval o X.env
   standAt apos.atName
   let (f,first) <-holding [gu] (getMethod gu m pl)
   callWith pos f first (backTo pos (starEach [] X.env)) (backToKw pos (keywordEach [] X.env))):=by rfl) :
  E X W (.Call (.Attribute o m apos) [] [] pos) (cQ m tab fo ah):=by
 refine⟨λpins s σ H Q I h=>?_⟩;obtain⟨ρ,S,sl,w,rs,p⟩:=h;refine KD (pl:=pl) (thn (aY.run pins s σ H _ I ⟨ρ,S,sl,w,rs,aV.fJ p⟩) λu s1 ⟨x,H1,I1,aJ,aA,S1,d,x1,aF,r1,_,p1⟩=>?_) mN;split at p1
 .rename_i c ns vs wV
  split at p1
  .exact p1.elim
  .rename_i mO
   split at p1
   .rename_i g nK
    obtain⟨a,C,bM,fs,ex,hm,ea,hn,cu⟩:=yX aF r1 wV;obtain⟨f,k,hc,oN,F,hr⟩:=ht.at_ c g nK C hm;subst ex;obtain rfl:u=Value.ref a:=aJ;refine getmeth_ok I1 ea hc oN (Mf hn mO) ?_;exact PySem.W.callWith_K0 (first:=[.ref a]) I1.kIn oN.kp (Cz (us:=[.ref a]) (vs:=[.ref a]) F hr (su tk σ) I1 (.cons rfl .nil) ⟨aA,S1,[d],aF,ay.cons r1 ay.nil,p1⟩)
   .exact p1.elim
 .exact p1.elim
def pT(c:Str)(g:aB):aB:=λds S1=>(g (.ptr S1.length::ds) (S1++[.ins c [] []])).bind λd S2=>match d with
 | .non=>.ok (.ptr S1.length) S2
 |_=>.bad
theorem aeT{c:Str}{pins:List (Addr×Obj)}{σ:L2.St}{ρ:List Addr}{H:Hp}{S:Store}{ds:List D}{s:Shared}{Q:VK}{us:List Value}{vs:List V}{E:XK}(M:Mk X.K C f)(aeU:X.mg c=some (.ref C))(F:aZ X.prog X.w X.K X.mg X.base k f g)(hr:Room (k+1) X.A)(hx:PassesAt (Z.CX X.prog X.w) X σ E)(I:Inv X pins σ H s)(r:Vals vs us)
  (dQ:aN X.K X.mg ρ H S) (cu:ay X.K X.mg ρ H ds vs) (p:aV X.K X.mg E ρ H Q (pT c g ds S)) :
  wpAny (model X.prog X.w) X.A (PySem.call (.ref C) us) (EP X pins σ Q) X.xe s:=by
 have wN:H (s.heap.objs.size+1)=none:=I.hok.fresh (Nat.le_succ _);have Hr:H s.heap.objs.size=none:=I.hok.fresh (Nat.le_refl _);have d5:s.heap.objs.size≠s.heap.objs.size+1:=h_ (uk _);have I2:=Inv.made (C:=C) I;have pO:(upd H s.heap.objs.size (.own (s.heap.objs.size+1))) (s.heap.objs.size+1)=none:=by rw[upd_ne d5.symm];exact wN
 have x1:Ext ρ H ρ (upd H s.heap.objs.size (.own (s.heap.objs.size+1))):=Ext.gG Hr;have aF:aN X.K X.mg ρ (upd H s.heap.objs.size (.own (s.heap.objs.size+1))) S:=dQ.gG Hr;have x2:=x1.trans (Ext.hand (o:=.ins C s.heap.objs.size []) pO);have cm:aN X.K X.mg (ρ++[s.heap.objs.size+1]) (upd (upd H s.heap.objs.size (.own (s.heap.objs.size+1))) (s.heap.objs.size+1) (.ins C s.heap.objs.size [])) (S++[.ins c [] []]):=aF.hand pO ⟨C,s.heap.objs.size,[],aeU,upd_same,rfl,ay.nil⟩;have rp:Rep X.K X.mg (ρ++[s.heap.objs.size+1]) (upd (upd H s.heap.objs.size (.own (s.heap.objs.size+1))) (s.heap.objs.size+1) (.ins C s.heap.objs.size [])) (.ptr S.length) (.ref (s.heap.objs.size+1)):=by
  rw[Rep];exact⟨_,rfl,by rw[<-dQ.len];simp⟩
 have hq:wU X.K X.mg g (.ref (s.heap.objs.size+1)::vs) (upd (upd H s.heap.objs.size (.own (s.heap.objs.size+1))) (s.heap.objs.size+1) (.ins C s.heap.objs.size [])) (λv aD=>v=.non/\Q (.ref (s.heap.objs.size+1)) aD) E:=by
  refine⟨_,_,.ptr S.length::ds,cm,ay.cons rp (cu.ext x2),?_⟩;have dX:=aV.fJ (aV.from x2 p);refine aV.mono dX λv hT ⟨mI,a4,d,b0,ia,cg,_,cq⟩=>?_;cases d with
  |non=>exact⟨pH cg,cA cq ia (rp.ext b0)⟩
  |_=>exact cq.elim
 refine wpAny_call (make_map (f:=f) I.kIn M.makes M.init (beq_iff_eq.mp M.fn) (codeAny_mono (F _ X.stack _ _ (Value.ref (s.heap.objs.size+1)::us) _ _ E (hr.make C us []) (I2.env0.make C us []) (show Vals (V.ref (s.heap.objs.size+1)::vs) (Value.ref (s.heap.objs.size+1)::us)from .cons rfl r) hq) λr s' CB=>?_));cases r with
 |error e=>exact hx pins _ _ e s' I2 CB
 |ok fl =>
  cases fl with
  |ret u =>
   obtain⟨v,H',wW,aW,ev,e1⟩:=I2.after CB;subst ev;exact⟨aW,⟨V.ref (s.heap.objs.size+1),H',wW,rfl,e1⟩⟩
  |next=>exact False.elim CB
  |brk=>exact False.elim CB
  |cont=>exact False.elim CB
theorem V3(tk:Takes X W)(M:Mk X.K C f)(F:aZ X.prog X.w X.K X.mg X.base k f g)(hr:Room (k+1) X.A)(hm:X.mg x=some (.ref C))(ha:gQ X W (e::es) fa)(hg:Gl X x:=by rfl)
  (gR:(x==("__debug__":Str))=false:=by decide) (he:starEach (e::es) X.env=(false,eval e X.env)::starEach es X.env:=by rfl) (fK:(backTo pos (starEach es X.env)).any (·.1)=false:=by rfl) :
  E X W (.Call (.Name x p) (e::es) [] pos) (ak (pT x g) fa):=by
 refine⟨λpins s σ H Q I h=>?_⟩;refine wpAny_Call_Name_kw (ld_glob I hg hm ?_ gR);have h':=si (k:=λvs H1=>∃ρ S ds,aN X.K X.mg ρ H1 S/\ay X.K X.mg ρ H1 ds vs/\aV X.K X.mg (WE W σ) ρ H1 Q (pT x g ds S)) h λρ S H1 ds vs w r p=>⟨ρ,S,ds,w,r,p⟩
 refine qD (h₀:=X.base) I.ok.mod.kin M.kp (thn (ha.run pos pins s σ H _ I h') λus s1 ⟨vs,H1,I1,r,aA,S1,ds,aF,cu,q⟩=>⟨I1.kIn,?_⟩) he fK;exact aeT M hm F hr (su tk σ) I1 r aF cu q
def j3(f:Str)(d:D):List Str->List D->List Str×List D
 |n::ns,v::vs=>if n=f then(n::ns,d::vs)else(n::(j3 f d ns vs).1,v::(j3 f d ns vs).2)
 |_,_=>([f],[d])
theorem Ng{K:PySem.W.Frag}{mg:Str->Option Value}{ρ:List Addr}{H:Hp}{f:Str}{d:D}{v:V}(h:Rep K mg ρ H d v):∀{fs:List (Str×V)} {ns:List Str} {ds:List D},fs.map (·.1)=ns->ay K mg ρ H ds (fs.map (·.2)) ->
  (putF f v fs).map (·.1)=(j3 f d ns ds).1/\ay K mg ρ H (j3 f d ns ds).2 ((putF f v fs).map (·.2))
 |[],_,ds,e,r=>by
  simp only[qB]at e r;subst e;exact⟨by rfl,by cases ds<;>exact ay.cons h ay.nil⟩
 |(n,u)::fs,_,[],e,r=>by simp only[cF]at r;rw[ay]at r;cases r
 |(n,u)::fs,_,d'::ds,e,r=>by
  simp only[cF]at e r;subst e;rw[ay]at r;obtain⟨uA,b2,cN,h1,h2⟩:=r;injection cN with aw e2
  subst aw e2;unfold putF j3;by_cases q:n=f
  .rw[if_pos q,if_pos q]
   exact⟨rfl,ay.cons h h2⟩
  .rw[if_neg q,if_neg q]
   obtain⟨i1,i2⟩:=Ng h (ns:=fs.map (·.1)) rfl h2;exact⟨by grind,ay.cons h1 i2⟩
def pU(cs:List Str)(f:Str)(o v:D)(S:Store):Option Store:=match o with
 | .ptr n=>(match S[n]? with
  |some (.ins c ns vs)=>if c∈cs/\ns.length<1000 then some (S.set n (.ins c (j3 f v ns vs).1 (j3 f v ns vs).2))else none
  |_=>none)
 |_=>none
def pV(cs:List Str)(f:Str)(fv fo:aM):SX:=λsl S=>(fv sl S).toS sl λv S1=>(fo sl S1).toS sl λo S2=>match pU cs f o v S2 with
 |some a4=>.nx sl a4
 |none=>.bad
theorem Hs{cs:List Str}{fl:Str}{pos':Pos}(hc:∀c∈cs,∀C,X.mg c=some (.ref C)->Cls X.K C/\NoAttr X.K C fl)(aY:E X W o fo)(bP:E X W e fe)(hs:swapsWith e (some (.Attribute o fl pos')) pos.line X.env=pure false:=by rfl) :
  ES X W (.Assign [.Attribute o fl pos'] e pos) (pV cs fl fe fo):=by
 refine PS.imp (ps_fld aY bP hs) λD σ H ⟨ρ,S,sl,w,rs,p⟩=>?_;refine⟨ρ,S,sl,w,rs,aV.mono (bV.Cr rs p) λy H1 ⟨aA,S1,v,x1,aF,lQ,r1,p1⟩=>?_⟩;refine⟨aA,S1,sl,aF,lQ,aV.mono (bV.Cr lQ p1) λx aD ⟨aO,S2,e6,x2,cm,Hb,r2,p2⟩=>?_⟩;unfold pU at p2;split at p2
 .rename_i a4 a6
  split at a6
  .rename_i n
   split at a6
   .rename_i c ns vs en
    split at a6
    .rename_i gK
     cases a6;rw[Rep]at r2;obtain⟨a,ea,q⟩:=r2;obtain⟨C,bM,fs,hm,h1,hn,cu⟩:=cm.ob n a _ q en;obtain⟨dS,cX⟩:=hc c gK.1 C hm;have xp:Ext aO aD aO (upd aD a (.ins C bM (putF fl y fs))):=Ext.putL q;obtain⟨lL,ig⟩:=Ng (f:=fl) (r1.ext x2) hn cu;refine⟨a,C,bM,fs,ea,h1,dS,cX,by grind,?_⟩;exact p2 _ aO _ xp (cm.put (m:=.ins c (j3 fl v ns vs).1 (j3 fl v ns vs).2) q ⟨C,bM,_,hm,upd_same,lL,ig.ext xp⟩) (Hb.ext xp)
    .cases a6
   .cases a6
  .cases a6
 .exact p2.elim
inductive uM where
 |fld
 |prop (g:aB)
 |con (d:D)
def cR(f:Str)(tab:List (Str×uM))(fo:aM):aM:=λsl S=>(fo sl S).bind λd S1=>match iR S1 d with
 |some (c,ns,vs)=>(match tab.lookup c with
  |some .fld=>(match gq f ns vs with
   |some v=>.ok v S1
   |none=>.bad)
  |some (.prop g)=>(match g [d] S1 with
   | .ok v S2=>.ok v S2
   |_=>.bad)
  |some (.con v)=>if f∈ns then .bad else .ok v S1
  |none=>.bad)
 |none=>.bad
def Nh(X:Cx)(f:Str)(C:Addr):uM->Prop
 | .fld=>NoAttr X.K C f
 | .prop g=>∃(p a:Addr) (k:Nat),PropOf X.K C f p a/\aZ X.prog X.w X.K X.mg X.base k a g/\Room (k+1) X.A
 | .con d=>∃(v:V) (u:Value),Con X.K C f v u/\∀ρ H,Rep X.K X.mg ρ H d v
structure Ht(X:Cx)(f:Str)(tab:List (Str×uM)):Prop where
 at_:∀c t,tab.lookup c=some t->∀C,X.mg c=some (.ref C)->Cls X.K C/\Nh X f C t
theorem gv:Ht X m []:=⟨λc g h=>by cases h⟩
theorem gx{c:Str}{C:Addr}{t:uM}{tab:List (Str×uM)}(hm:X.mg c=some (.ref C))(hc:Cls X.K C)(ha:Nh X m C t)(h:Ht X m tab):Ht X m ((c,t)::tab):=⟨λc' g' h' eA iu=>by
 rw[List.lookup_cons]at h';cases q:c'==c with
 |true =>
  grind
 |false =>
  rw[q]at h';exact h.at_ c' g' h' eA iu⟩
theorem aeV{pins:List (Addr×Obj)}{σ:L2.St}{H:Hp}{s:Shared}{Q:VK}{b:Bool}{aeW:Value->Shared->Prop}{fl:Str}{a bM dX:Addr}{fs:List (Str×V)}{sp:Sp}(I:Inv X pins σ H s)(ea:H a=some (.ins C bM fs))(c:Cls X.K C)(hp:PropOf X.K C fl dX f)
  (F:FnR X.prog X.w X.K X.mg X.base (Z.CX X.prog X.w) k f sp) (hr:Room (k+1) X.A) (h:sp [.ref a] H Q (λ_ _ _=>False)) :
  wpAny (model X.prog X.w) X.A (getAttr (.ref a) fl b) (EP X pins σ Q) aeW s:=by
 obtain⟨Ni,O,_,_,_,_⟩:=ins_get I.hok ea;obtain⟨od,J,_⟩:=O.look;obtain⟨rest,gy⟩:=hp.rec_;have I1:=I.tok (s.toks+1);have hc:(PySem.W.clsIn X.K C).isSome=true:=by
  obtain⟨cd,hc,_⟩:=PySem.W.any_some c.hd;rw[hc];rfl
 refine PySem.W.get_bind I.kIn J (PySem.W.plainGet_of (c.get fl)).1 (PySem.W.findObj_data hc hp.at_ hp.get hp.tak) (PySem.W.plainGet_of (c.get fl)).2 (wpAny_call (PySem.W.prop_get (s:={ s with toks:=s.toks+1 }) I.kIn gy ?_));refine codeAny_mono (F X.A.in1 X.stack { s with toks:=s.toks+1 } H [.ref a] [.ref a] Q (λ_ _ _=>False) hr.in1 I1.env0.in1 (.cons rfl .nil) h) λr s' hq=>?_;cases r with
 |error fU=>exact False.elim (adl (X:=X.nox) (W:=WF) q0 (λ_ _ _ _ z=>z) pins σ H { s with toks:=s.toks+1 } fU s' (I1.wish _) hq)
 |ok fl =>
  cases fl with
  |ret u =>
   obtain⟨v,H',wW,aW,e1⟩:=I1.after hq;show wpAny _ _ (handedOut u) _ _ _;rw[PySem.W.handedOut_of (handed_of aW)];exact wpAny_pure ⟨v,H',wW,aW,e1⟩
  |next=>exact False.elim hq
  |brk=>exact False.elim hq
  |cont=>exact False.elim hq
theorem gA{fl:Str}{tab:List (Str×uM)}(ht:Ht X fl tab)(aY:E X W o fo)(hb:attributeBase o fl X.env (eval o X.env)=eval o X.env:=by rfl):E X W (.Attribute o fl pos) (cR fl tab fo):=by
 refine⟨λpins s σ H Q I h=>?_⟩;obtain⟨ρ,S,sl,w,rs,p⟩:=h;refine attr_of hb (thn (aY.run pins s σ H _ I ⟨ρ,S,sl,w,rs,aV.fJ p⟩) λu s1 ⟨x,H1,I1,aJ,aA,S1,d,x1,aF,r1,_,p1⟩=>?_);split at p1
 .rename_i c ns vs wV
  obtain⟨a,C,bM,fs,ex,hm,ea,hn,cu⟩:=yX aF r1 wV;subst ex;obtain rfl:u=Value.ref a:=aJ;split at p1
  .rename_i et
   obtain⟨hc,ha⟩:=ht.at_ c _ et C hm;split at p1
   .rename_i v ev
    obtain⟨mK,h1,h2⟩:=GZ hn cu ev;exact getattr_ok I1 ea hc ha h1 λu s2 I2 cU=>⟨mK,H1,I2,cU,cA p1 aF h2⟩
   .exact p1.elim
  .rename_i g et
   obtain⟨hc,dX,jE,k,hp,F,hr⟩:=ht.at_ c _ et C hm;refine aeV I1 ea hc hp F hr ⟨aA,S1,[d],aF,ay.cons r1 ay.nil,?_⟩;split at p1
   .rename_i v S2 nK
    rw[nK];exact λmK aO aD x2 cm r2=>p1 mK aO aD x2 cm r2
   .exact p1.elim
  .rename_i v et
   obtain⟨hc,mK,uA,hk,hr⟩:=ht.at_ c _ et C hm;split at p1
   .exact p1.elim
   .rename_i mO
    exact getcon_ok I1 ea hc hk (Mf hn mO) λs2 I2=>⟨mK,H1,I2,hk.rel,cA p1 aF (hr aA H1)⟩
  .exact p1.elim
 .exact p1.elim
end
section
variable{X:Cx}
def bC:b_:=eu Vc (eu B4 (eu B6 wy))
theorem da:de X (binaryOp .Add) bC:=adq.or (adw.or (adB.or adC))
def ho:b_:=eu Mi B9
theorem sU:de X (binaryOp .Mult) ho:=ads.or adD
def lR:b_:=eu ltI Mj
theorem zg:de X (compareOp .Lt) lR:=adu.or adx
def dy:b_:=eu (y0 false) (eu (y_ false) (B_ false))
def aeX:b_:=eu (y0 true) (eu (y_ true) (B_ true))
theorem jg(aR:X.A.units+64<cLine):de X (compareOp .In) dy:=adz.or ((aeo (ou (KG (by decide:1<=64) _) aR)).or adF)
def a7:b_:=eu sF Hg
theorem aeY(aR:X.A.units+64<cLine):uI X a7:=adL.or (aem (ou (KG (by decide:1<=64) _) aR))
def cz:aB:=pG B' MX
theorem iU:iL X (.builtin "len") cz:=d_len.or aeq
def dM:aB:=pG wz wA
theorem j4:iL X (.builtin "isinstance") dM:=adG.or adH
theorem CD{A:Around}(aR:A.units+64<cLine):A.units+1<cLine:=ou (KG (by decide:1<=64) _) aR
end
section
variable{X:Cx}{W:WX}{pos:Pos}{elt tg iter:Expr}{ifs:List Expr}{scope:Scope}{own:List (Str×Nat)}{it:gI}{g:d4}{bt:cJ}{fe:aM}
theorem CF{i:Nat}{y:Str}{py spos:Pos}(hc:X.calm=true)(gF:X.N.Nodup)(ok:BlkOk X.N X.env.scope scope own)
  (aeZ:swapsWith (.ListComp elt [⟨tg,iter,ifs,0⟩] scope pos) (some (.Name y py)) spos.line X.env=pure true) (hi:wq X W tg iter it)
  (hg:∀(s:Shared) (H:Hp) (C:Addr) (cl:List (Str×Addr)) (fp:List Addr),wR (X.blk s H scope (compEnvC scope cl C X.env) fp) WF (own.map (·.2)) tg g) (ht:∀(s:Shared) (H:Hp) (C:Addr) (cl:List (Str×Addr)) (fp:List Addr),M' (X.blk s H scope (compEnvC scope cl C X.env) fp) WF ifs bt)
  (he:∀(s:Shared) (H:Hp) (C:Addr) (cl:List (Str×Addr)) (fp:List Addr),E (X.blk s H scope (compEnvC scope cl C X.env) fp) WF elt fe) (bD:X.N[i]?=some y:=by rfl) (ae0:X.env.scope.names.lookup y=some .local:=by rfl) (hs:∀x,foldedSetIterable iter X.env x=pure x:=by intro _;rfl) :
  ES X W (.Assign [.Name y py] (.ListComp elt [⟨tg,iter,ifs,0⟩] scope pos) spos) (bJ (cC (cw it g bt fe (own.map (·.2)))) (aP i)) :=
 PS.imp (ps_setLc (tt:=we X.K X.mg WF bt) (te:=gO X.K X.mg WF fe) hc gF bD ae0 aeZ hi ok (λs H C cl fp=>(hg s H C cl fp).all) ht he hs) λD σ H ⟨ρ,S,sl,w,rs,p⟩ =>
  VZ (Q:=λx H1=>gName i x σ H1 D.nx) ⟨ρ,S,sl,w,rs,yU w (aV.mono (bV.BW (o:=cC (cw it g bt fe (own.map (·.2))) sl S) rs p) λv H1 ⟨aA,S1,d,aF,r1,aW,p1⟩=>p1 _ aA H1 Ext.refl aF (r1.set aW i))⟩
end
section
variable{X:Cx}{W:WX}{x:Str}{pos:Pos}
theorem zh{i:Int}(h:∃t,X.mg x=some (.int i t))(hg:Gl X x:=by rfl)(hd:(x==("__debug__":Str))=false:=by decide):E X W (.Name x pos) (af (.int i)):=by
 obtain⟨t,h⟩:=h;exact L4 (v:=.int i) hg h ⟨t,rfl⟩ (λ_ _=>ie) hd
theorem Nj{i:Str}(h:∃t,X.mg x=some (.str i t))(hg:Gl X x:=by rfl)(hd:(x==("__debug__":Str))=false:=by decide):E X W (.Name x pos) (af (.str i)):=by
 obtain⟨t,h⟩:=h;exact L4 (v:=.str i) hg h ⟨t,rfl⟩ (λ_ _=>nC) hd
end
def Nk(g:d4):Prop:=∀d sl S,(∃eH ao,g d sl S=.nx eH ao)\/g d sl S=.bad
def Hu(g:ib):Prop:=∀d sl S,(∃eH ao,g d sl S=.nx eH ao)\/g d sl S=.bad
theorem Hv:Hu gH:=λd sl S=>by cases d with|nil=>exact .inl ⟨_,_,rfl⟩|cons _ _=>exact .inr rfl
theorem sV{g:d4}{gs:ib}(h:Nk g)(hs:Hu gs):Hu (c1 g gs):=λd sl S=>by
 cases d with
 |nil=>exact .inr rfl
 |cons x r =>
  show(∃eH ao,(g x sl S).then (gs r)=_)\/(g x sl S).then (gs r)=_;rcases h x sl S with⟨eH,ao,e⟩|e
  .rw[e];exact hs r eH ao
  .rw[e];exact .inr rfl
theorem Hw{gs:ib}(hs:Hu gs):Nk (hj gs):=λd sl S=>by
 cases d with
 |tup xs=>exact hs xs sl S
 |b8 xs=>exact hs xs sl S
 |_=>exact .inr rfl
theorem lS{g:d4}{gs:ib}{n:Nat}(hg:Nk g)(hr:∀ds sl S,gs ds sl S≠.bad->ds.length=n):∀ds sl S,c1 g gs ds sl S≠.bad->ds.length=n+1:=ada hr hg
def uN(i:Nat)(op:Int->Int->Int)(fe:aM):SX:=λsl S=>match sl[i]? with
 |some (some (.int a))=>(fe sl S).toS sl λe S1=>(match e with
  | .int b=>.nx (sl.set i (some (.int (op a b)))) S1
  |_=>.bad)
 |_=>.bad
section
variable{X:Cx}{W:WX}{x:Str}{pos pos':Pos}{e:Expr}{fe:aM}
theorem ae1{i:Nat}{op:Operator}{g:Int->Int->Int}(gF:X.N.Nodup)(aY:PIp X op (ipI g))(he:E X W e fe)(hi:X.N[i]?=some x:=by rfl)(hx:Loc X.env.scope x:=by first|exact Or.inl rfl|exact Or.inr rfl)(hf:X.fn x=true\/X.env.scope.names.lookup x=some .local:=by first|exact .inl rfl|exact .inr rfl) :
  ES X W (.AugAssign (.Name x pos') op e pos) (uN i g fe):=by
 refine PS.imp (ps_aug gF hi hx he aY hf) λD σ H ⟨ρ,S,sl,w,rs,p⟩=>?_;unfold uN at p;split at p
 .rename_i a ea
  obtain⟨v,aw,r1⟩:=rs.at_ i _ ea;refine⟨v,aw,ρ,S,sl,w,rs,aV.mono (bV.Cr rs p) λy H1 ⟨aA,S1,d,x1,aF,lQ,r2,p1⟩=>?_⟩;split at p1
  .rename_i b
   exact⟨a,b,f6 (r1),f6 r2,p1 _ aA H1 Ext.refl aF (lQ.set (ie (i:=g a b)) i)⟩
  .exact p1.elim
 .exact p.elim
end
section
variable{X:Cx}{f:Str}
theorem zi:∀c∈([]:List Str),∀C,X.mg c=some (.ref C)->Cls X.K C/\NoAttr X.K C f:=λc h=>by cases h
theorem zj{c:Str}{C:Addr}{cs:List Str}(hm:X.mg c=some (.ref C))(hc:Cls X.K C)(hn:NoAttr X.K C f)(h:∀c∈cs,∀C,X.mg c=some (.ref C)->Cls X.K C/\NoAttr X.K C f):∀c'∈c::cs,∀C,X.mg c'=some (.ref C)->Cls X.K C/\NoAttr X.K C f:=λc' h' eA iu=>by
 grind
end
theorem zk{P:Program}{w:World}{K:PySem.W.Frag}{mg:Str->Option Value}{base:Heap}{k:Nat}{f:Addr}:aZ P w K mg base k f (λ_ _=>.bad):=λA outer s H us vs Q E hr bB r ⟨_,_,_,_,_,p⟩=>p.elim
theorem V4{P:Program}{w:World}{outer:List Env}{H:Hp}{s:Shared}{e:Value}{s':Shared}(h:Z.CX P w outer H s (λ_ _ _=>False) e s'):False:=by
 obtain⟨_,_,_,_,_,_,_,_,_,_,_,_,z⟩:=h;exact z
@[simp] theorem pW{α β:Type}(a:α)(S:Store)(k:α->Store->Out β):(Out.ok a S).bind k=k a S:=(rfl)
@[simp] theorem CG{α:Type}(a:α)(S:Store)(sl:aT)(k:α->Store->SO):(Out.ok a S).toS sl k=k a S:=(rfl)
@[simp] theorem at7(sl:aT)(S:Store)(g:SX):(SO.nx sl S).then g=g sl S:=(rfl)
@[simp] theorem at8(d:D)(S:Store)(g:SX):(SO.rt d S).then g=.rt d S:=(rfl)
@[simp] theorem at9(d:D)(S:Store):(SO.rt d S).out=.ok d S:=(rfl)
@[simp] theorem aua(i:Int):SeqAt.shaped (.int i)=true:=by rfl
theorem ae2{i:Str}(h:PyData.strOk i=true):SeqAt.shaped (.str i)=true:=by simp[SeqAt.shaped,PyData.canLay0,PyData.depth,h]
@[simp] theorem aub(i:Bool):SeqAt.shaped (.bool i)=true:=by rfl
@[simp] theorem auc(i j:Int)(S:Store):aQ false (.int i) (.int j) S=.ok (.bl (decide (i=j))) S:=by
 rfl
@[simp] theorem aud(i j:Int)(S:Store):aQ true (.int i) (.int j) S=.ok (.bl (!decide (i=j))) S:=by
 rfl
@[simp] theorem V5(i j:Int)(S:Store):bC (.int i) (.int j) S=.ok (.int (i+j)) S:=(rfl)
@[simp] theorem aue(i j:Int)(S:Store):kR (.int i) (.int j) S=.ok (.int (i - j)) S:=(rfl)
@[simp] theorem V6(i j:Int)(S:Store):lR (.int i) (.int j) S=.ok (.bl (decide (i<j))) S:=(rfl)
@[simp] theorem auf(i j:Int)(S:Store):kS (.int i) (.int j) S=.ok (.bl (decide (i<=j))) S:=(rfl)
@[simp] theorem V7(i j:Int)(S:Store):jd (.int i) (.int j) S=.ok (.bl (decide (j<i))) S:=(rfl)
@[simp] theorem ae3(i j:Int)(S:Store):wx (.int i) (.int j) S=.ok (.bl (decide (j<=i))) S:=(rfl)
theorem oO{i j:Int}(h:0<j)(S:Store):jB (.int i) (.int j) S=.ok (.int (i % j)) S:=by simp[jB,sy,h]
theorem wX{i j:Int}(h:0<j)(h2:j.natAbs.log2<9000)(S:Store):j0 (.int i) (.int j) S=.ok (.int (i / j)) S:=by simp[j0,sy,Ve,h,h2]
theorem ae4{i j:Int}(h:i.natAbs.log2+j.natAbs.log2<1000000)(S:Store):ho (.int i) (.int j) S=.ok (.int (i * j)) S:=by
 simp[ho,eu,Mi,sy,Vd,h]
theorem wY{S:Store}{n:Nat}{xs:List D}{i:Int}(h:S[n]?=some (.lst xs)):a7 (.ptr n) (.int i) S=match atI xs i with
  |some x=>.ok x S
  |none=>.bad:=by
 simp only[a7,eu,sF,dJ,d8,h];cases e:atI xs i with
 |some x=>rfl
 |none=>simp[Hg,asD,h]
theorem Nm{S:Store}{xs:List D}{i:Int}:a7 (.lst xs) (.int i) S=match atI xs i with
  |some x=>.ok x S
  |none=>.bad:=by
 simp only[a7,eu,sF,dJ,d8];cases e:atI xs i with
 |some x=>rfl
 |none=>rfl
theorem ae5{S:Store}{xs:List D}{i:Int}:a7 (.tup xs) (.int i) S=match atI xs i with
  |some x=>.ok x S
  |none=>.bad:=by
 simp only[a7,eu,sF,dJ];cases e:atI xs i with
 |some x=>rfl
 |none=>rfl
structure fz(S S1:Store):Prop where
 len:S1.length=S.length
 at_:∀(i:Nat) (m:dH),S1[i]?=some m->S[i]?=some m\/jy S.length m=true
theorem fz.refl(S:Store):fz S S:=⟨rfl,λi m h=>.inl h⟩
theorem fz.set{S:Store}{n:Nat}{m:dH}(h:jy S.length m=true):fz S (S.set n m):=⟨by simp,λi fS e=>by
 grind⟩
theorem fz.closed{S S1 T:Store}(h:fz S S1):oH S (S1++T):=λi m hi e=>by
 rw[List.getElem?_append_left (by rw[h.len];exact hi)]at e;exact h.at_ i m e
theorem V8{k:Nat}{S:Store}{f:Nat}{d:D}(h:bf k d=true):dq (eI S k f) d=some d:=U_ (λn hn=>Md hn) d h
theorem jmp{k:Nat}{S:Store}{f:Nat}{ds:List D}(h:bH k ds=true):gV (eI S k f) ds=some ds:=nA (λn hn=>Md hn) ds h
theorem ae6{S1:Store}{acc:List D}(h:bH S1.length acc=true):dq (eI (S1++[.lst acc]) S1.length 6) (.ptr S1.length)=some (.lst acc):=by
 rw[dq,eI,if_neg (ni _)];rw[List.getElem?_append_right (Nat.le_refl _)];simp only[Nat.sub_self,KH];rw[jmp h];rfl
abbrev aj(l:List Nat):Str:=⟨l.toArray⟩
abbrev iV(c:Nat):D:=.str (aj [c])
@[simp] theorem mP(l:List Nat):(aj l).length=l.length:=by rfl
theorem zl(s:Str):aj s.cps.toList=s:=by rfl
@[simp] theorem Nn(a b:List Nat):aj a++aj b=aj (a++b):=by
 show(⟨a.toArray++b.toArray⟩:Str)=_;simp[aj]
@[simp] theorem V9(l:List Nat):y' (aj l)=l.map iV:=by rfl
@[simp] theorem auh(l:List Nat):V1 (aj l)=l.map λc=>aj [c]:=by rfl
def lT(d:D)(k:Bool->Prop):Prop:=match d with
 | .bl b=>k b
 |_=>False
@[simp] theorem d6{b:Bool}{k:Bool->Prop}:lT (.bl b) k=k b:=(rfl)
def lU{α:Type}(o:Option α)(k:α->Prop):Prop:=match o with
 |some a=>k a
 |none=>False
@[simp] theorem q1{α:Type}{a:α}{k:α->Prop}:lU (some a) k=k a:=(rfl)
@[simp] theorem aui{α:Type}{k:α->Prop}:lU none k=False:=(rfl)
@[irreducible] def We{α:Type}(o:Out α)(P:α->Store->Prop)(X:D->Store->Prop):Prop:=match o with
 | .ok a S=>P a S
 | .ex e S=>X e S
 | .bad=>False
structure hJ where
 nx:aT->Store->Prop
 bk:aT->Store->Prop
 ct:aT->Store->Prop
 rt:D->Store->Prop
 ex:D->aT->Store->Prop
@[irreducible] def a0(o:SO)(Q:hJ):Prop:=match o with
 | .nx sl S=>Q.nx sl S
 | .bk sl S=>Q.bk sl S
 | .ct sl S=>Q.ct sl S
 | .rt d S=>Q.rt d S
 | .ex e sl S=>Q.ex e sl S
 | .bad=>False
section
variable{α β:Type}{P:α->Store->Prop}{X:D->Store->Prop}{Q:hJ}{S:Store}{sl:aT}
@[simp] theorem aS{a:α}:We (.ok a S) P X=P a S:=by unfold We;rfl
@[simp] theorem uO{e:D}:We (.ex e S:Out α) P X=X e S:=by unfold We;rfl
@[simp] theorem Np:We (.bad:Out α) P X=False:=by unfold We;rfl
theorem gB{o:Out α}{k:α->Store->Out β}{P:β->Store->Prop}:We (o.bind k) P X=We o (λa ao=>We (k a ao) P X) X:=by cases o<;>simp[Out.bind]
@[simp] theorem pX:a0 (.nx sl S) Q=Q.nx sl S:=by unfold a0;rfl
@[simp] theorem V_:a0 (.bk sl S) Q=Q.bk sl S:=by unfold a0;rfl
@[simp] theorem Nq:a0 (.ct sl S) Q=Q.ct sl S:=by unfold a0;rfl
@[simp] theorem Nr{d:D}:a0 (.rt d S) Q=Q.rt d S:=by unfold a0;rfl
@[simp] theorem CH{e:D}:a0 (.ex e sl S) Q=Q.ex e sl S:=by unfold a0;rfl
@[simp] theorem V':a0 .bad Q=False:=by unfold a0;rfl
theorem Wa{o:SO}{g:SX}:a0 (o.then g) Q=a0 o { Q with nx:=λeH ao=>a0 (g eH ao) Q }:=by cases o<;>simp[SO.then]
theorem sW{o:Out α}{k:α->Store->SO}:a0 (o.toS sl k) Q=We o (λa ao=>a0 (k a ao) Q) (λe ao=>Q.ex e sl ao):=by cases o<;>simp[Out.toS]
theorem We.mono{o:Out α}{q2:α->Store->Prop}{CI:D->Store->Prop}(h:We o P X)(hp:∀a S,P a S->q2 a S)(hx:∀e S,X e S->CI e S):We o q2 CI:=by
 cases o with
 |ok a S=>simp_all
 |ex e S=>simp_all
 |bad=>simp_all
theorem We.post{o:Out α}{q2:α->Store->Prop}(h:We o P X)(hp:∀a S,P a S->q2 a S):We o q2 X:=h.mono hp λ_ _ q=>q
theorem a0.mono{o:SO}{e7:hJ}(h:a0 o Q)(h1:∀sl S,Q.nx sl S->e7.nx sl S)(h2:∀sl S,Q.bk sl S->e7.bk sl S)(aH:∀sl S,Q.ct sl S->e7.ct sl S)(bT:∀d S,Q.rt d S->e7.rt d S)(cZ:∀e sl S,Q.ex e sl S->e7.ex e sl S):a0 o e7:=by
 cases o with
 |nx sl S=>simp_all
 |bk sl S=>simp_all
 |ct sl S=>simp_all
 |rt d S=>simp_all
 |ex e sl S=>simp_all
 |bad=>simp_all
theorem ae7{o:Out α}{a:α}(h:o=.ok a S)(p:P a S):We o P X:=by simp_all
theorem We.get{o:Out α}(h:We o P (λ_ _=>False)):∃a S,o=.ok a S/\P a S:=by
 cases o with
 |ok a S=>rw[aS]at h;grind
 |ex e S=>simp_all
 |bad=>simp_all
variable{f g:SX}{c:cJ}{fe:aM}{fa:du}{tg:d4}
@[simp] theorem j5:a0 (bG sl S) Q=Q.nx sl S:=by unfold bG;simp
@[simp] theorem Nt:a0 (aL f g sl S) Q=a0 (f sl S) { Q with nx:=λeH ao=>a0 (g eH ao) Q }:=by unfold aL;exact Wa
@[simp] theorem Nu:a0 (km fe sl S) Q=We (fe sl S) (λ_ ao=>Q.nx sl ao) (λe ao=>Q.ex e sl ao):=by unfold km;rw[sW];simp
@[simp] theorem sX:a0 (a8 fe sl S) Q=We (fe sl S) (λd ao=>Q.rt d ao) (λe ao=>Q.ex e sl ao):=by unfold a8;rw[sW];simp
@[simp] theorem hL:a0 (bE c f g sl S) Q=We (c sl S) (λb ao=>a0 (if b=true then f sl ao else g sl ao) Q) (λe ao=>Q.ex e sl ao):=by unfold bE;exact sW
@[simp] theorem jK:a0 (bJ fe tg sl S) Q=We (fe sl S) (λd ao=>a0 (tg d sl ao) Q) (λe ao=>Q.ex e sl ao):=by unfold bJ;exact sW
theorem ae8{i j:Nat}:a0 (qM i j fa sl S) Q=We (fa sl S) (λds ao=>a0 (match ds with
 |[d,e]=>.nx ((sl.set i (some d)).set j (some e)) ao
 |_=>.bad) Q) (λe ao=>Q.ex e sl ao):=by unfold qM;exact sW
@[simp] theorem auj{i j:Nat}{f1 f2:aM}:a0 (qM i j (ae f1 (ae f2 ah)) sl S) Q=We (f1 sl S) (λd S1=>We (f2 sl S1) (λe S2=>Q.nx ((sl.set i (some d)).set j (some e)) S2) (λe ao=>Q.ex e sl ao)) (λe ao=>Q.ex e sl ao):=by
 rw[ae8];simp only[ae,ah,gB,aS,pX]
theorem ae9{it:gI}:a0 (uE it tg f sl S) Q=We (it sl S) (λp ao=>a0 (mJ p.2 tg f p.1 sl ao) Q) (λe ao=>Q.ex e sl ao):=by unfold uE;exact sW
@[simp] theorem hV{i:Nat}{d:D}:a0 (aP i d sl S) Q=Q.nx (sl.set i (some d)) S:=by unfold aP;simp
@[simp] theorem auk{gs:ib}{ds:List D}:a0 (hj gs (.b8 ds) sl S) Q=a0 (gs ds sl S) Q:=by rfl
@[simp] theorem afa{gs:ib}{ds:List D}:a0 (hj gs (.tup ds) sl S) Q=a0 (gs ds sl S) Q:=by rfl
@[simp] theorem Nv{gs:ib}{d:D}{r:List D}:a0 (c1 tg gs (d::r) sl S) Q=a0 (tg d sl S) { Q with nx:=λeH ao=>a0 (gs r eH ao) Q }:=by unfold c1;exact Wa
@[simp] theorem afb:a0 (gH [] sl S) Q=Q.nx sl S:=by unfold gH;simp
theorem bF{f g:SX}{Q:hJ}(M:aT->Store->Prop)(h:a0 (f sl S) { Q with nx:=M })(k:∀sl S,M sl S->a0 (g sl S) Q):a0 (aL f g sl S) Q:=by
 rw[Nt];exact h.mono (λsl S h=>k sl S h) (λ_ _ h=>h) (λ_ _ h=>h) (λ_ _ h=>h) (λ_ _ _ h=>h)
variable{P:D->Store->Prop}{oP:Bool->Store->Prop}{PA:List D->Store->Prop}{f1 f2 f3:aM}{eS c2:cJ}{fs:du}
@[simp] theorem CJ{d:D}:We (af d sl S) P X=P d S:=by unfold af;simp
@[simp] theorem afc{i:Nat}:We (eName i sl S) P X=∃d,sl[i]?=some (some d)/\P d S:=by
 unfold eName;cases e:sl[i]? with
 |none=>simp
 |some o=>cases o<;>simp
@[simp] theorem CK{sem:b_}:We (aq sem f1 f2 sl S) P X=We (f1 sl S) (λd S1=>We (f2 sl S1) (λe S2=>We (sem d e S2) P X) X) X:=by simp only[aq,gB]
@[simp] theorem aul{sem:wh}:We (oB sem f1 sl S) P X=We (f1 sl S) (λd S1=>We (sem d S1) P X) X:=by simp only[oB,gB]
@[simp] theorem gY{sem:aB}:We (ak sem fs sl S) P X=We (fs sl S) (λds S1=>We (sem ds S1) P X) X:=by simp only[ak,gB]
@[simp] theorem q3:We (ah sl S) PA X=PA [] S:=by unfold ah;simp
@[simp] theorem iW:We (ae f1 fs sl S) PA X=We (f1 sl S) (λd S1=>We (fs sl S1) (λds S2=>PA (d::ds) S2) X) X:=by simp only[ae,gB,aS]
theorem afd:We (aI f1 sl S) oP X=We (f1 sl S) (λd S1=>lT d λb=>oP b S1) X:=by
 simp only[aI,gB];congr 1;funext d S1;cases d<;>simp[lT]
@[simp] theorem e8:We (aI f1 sl S) oP X=We (f1 sl S) (λd S1=>lT d λb=>oP b S1) X:=afd
@[simp] theorem nL:We (dc eS sl S) oP X=We (eS sl S) (λb S1=>oP (!b) S1) X:=by simp only[dc,gB,aS]
@[simp] theorem Hx:We (lE eS c2 sl S) oP X=We (eS sl S) (λb S1=>if b=true then We (c2 sl S1) oP X else oP false S1) X:=by
 simp only[lE,gB];congr 1;funext b S1;cases b<;>simp
@[simp] theorem uP:We (d2 eS c2 sl S) oP X=We (eS sl S) (λb S1=>if b=true then oP true S1 else We (c2 sl S1) oP X) X:=by
 simp only[d2,gB];congr 1;funext b S1;cases b<;>simp
@[simp] theorem CL:We (gn f1 f2 sl S) P X=We (f1 sl S) (λd S1=>lT d λb=>if b=true then We (f2 sl S1) P X else P (.bl false) S1) X:=by
 simp only[gn,gB];congr 1;funext d S1;cases d with
 |bl b=>cases b<;>simp[lT]
 |_=>simp[lT]
@[simp] theorem Wb:We (uB f1 f2 sl S) P X=We (f1 sl S) (λd S1=>lT d λb=>if b=true then P (.bl true) S1 else We (f2 sl S1) P X) X:=by
 simp only[uB,gB];congr 1;funext d S1;cases d with
 |bl b=>cases b<;>simp[lT]
 |_=>simp[lT]
@[simp] theorem aum:We (Gx f1 sl S) P X=We (f1 sl S) (λd S1=>lT d λb=>P (.bl (!b)) S1) X:=by
 simp only[Gx,gB];congr 1;funext d S1;cases d<;>simp[lT]
@[simp] theorem Nw:We (eF eS f1 f2 sl S) P X=We (eS sl S) (λb S1=>if b=true then We (f1 sl S1) P X else We (f2 sl S1) P X) X:=by
 simp only[eF,gB];grind
@[simp] theorem aun{s1 s2:b_}:We (oC s1 s2 f1 f2 f3 sl S) P X=We (f1 sl S) (λd S1=>We (f2 sl S1) (λe S2=>We (s1 d e S2) (λr a4=>lT r λb=>if b=true then We (f3 sl a4) (λg bR=>We (s2 e g bR) P X) X else P (.bl false) a4) X) X) X:=by
 simp only[oC,gB];congr 1;funext d S1;congr 1;funext e S2;congr 1;funext r a4;cases r with
 |bl b=>cases b<;>simp[gB,lT]
 |_=>simp[lT]
variable{PO:Option Int->Store->Prop}{fl fu:wK}
@[simp] theorem Wc:We (fN sl S) PO X=PO none S:=by unfold fN;simp
@[simp] theorem Wd:We (ec f1 sl S) PO X=We (f1 sl S) (λd S1=>∃i,d=.int i/\PO (some i) S1) X:=by
 simp only[ec,gB];congr 1;funext d S1;cases d<;>simp
@[simp] theorem Nx{h:Bool}:We (e0 h f1 fl fu sl S) P X=We (f1 sl S) (λd S1=>We (fl sl S1) (λl S2=>We (fu sl S2) (λu a4=>We (wJ h d l u a4) P X) X) X) X:=by simp only[e0,gB]
theorem Ny{ty:Store->D->Bool}{sem:kX}:We (dD ty sem f1 fs sl S) P X=We (f1 sl S) (λd S1=>if ty S1 d=true then We (fs sl S1) (λds S2=>We (sem d ds S2) P X) X else False) X:=by
 simp only[dD,gB];congr 1;funext d S1;cases h:ty S1 d<;>simp[gB]
@[simp] theorem afe{ty:Store->D->Bool}{sem:kX}:We (dD ty sem f1 fs sl S) P X=We (f1 sl S) (λd S1=>ty S1 d=true/\We (fs sl S1) (λds S2=>We (sem d ds S2) P X) X) X:=by
 rw[Ny];simp
@[simp] theorem auo{m:Str}{tab:List (Str×aB)}:We (cQ m tab f1 fs sl S) P X=We (f1 sl S) (λd S1=>lU (iR S1 d) λp=>m∉p.2.1/\lU (jH tab p.1) λg=>We (fs sl S1) (λds S2=>We (g (d::ds) S2) P X) X) X:=by
 unfold cQ;rw[gB];congr 1;funext d S1;cases e:iR S1 d with
 |none=>simp
 |some p =>
  obtain⟨c,ns,vs⟩:=p;dsimp only;rw[q1];dsimp only;by_cases hm:m∈ns
  .simp_all
  .rw[if_neg hm]
   cases e2:jH tab c with
   |none=>simp
   |some g =>
    dsimp only;rw[gB,q1];grind
def Hy(m:Str)(d:D)(ns:List Str)(vs:List D)(S1:Store)(P:D->Store->Prop):uM->Prop
 | .fld=>lU (gq m ns vs) λv=>P v S1
 | .prop g=>We (g [d] S1) P (λ_ _=>False)
 | .con v=>m∉ns/\P v S1
@[simp] theorem aff{m:Str}{d:D}{ns:List Str}{vs:List D}{S1:Store}:Hy m d ns vs S1 P .fld=lU (gq m ns vs) λv=>P v S1:=(rfl)
@[simp] theorem afg{m:Str}{d:D}{ns:List Str}{vs:List D}{S1:Store}{g:aB}:Hy m d ns vs S1 P (.prop g)=We (g [d] S1) P (λ_ _=>False):=(rfl)
@[simp] theorem afh{m:Str}{d:D}{ns:List Str}{vs:List D}{S1:Store}{v:D}:Hy m d ns vs S1 P (.con v)=(m∉ns/\P v S1):=(rfl)
@[simp] theorem aup{m:Str}{tab:List (Str×uM)}:We (cR m tab f1 sl S) P X=We (f1 sl S) (λd S1=>lU (iR S1 d) λp=>lU (tab.lookup p.1) λt=>Hy m d p.2.1 p.2.2 S1 P t) X:=by
 unfold cR;rw[gB];congr 1;funext d S1;cases e:iR S1 d with
 |none=>simp
 |some p =>
  obtain⟨c,ns,vs⟩:=p;dsimp only;rw[q1];dsimp only;cases e2:tab.lookup c with
  |none=>simp
  |some t =>
   rw[q1];cases t with
   |fld =>
    dsimp only;rw[aff];cases gq m ns vs<;>simp
   |prop g =>
    dsimp only;rw[afg];cases g [d] S1<;>simp
   |con v =>
    dsimp only;rw[afh];by_cases hm:m∈ns<;>simp[hm]
@[simp] theorem auq{cs:List Str}{m:Str}:a0 (pV cs m f1 f2 sl S) Q=We (f1 sl S) (λv S1=>We (f2 sl S1) (λo S2=>∃a4,pU cs m o v S2=some a4/\Q.nx sl a4) (λe ao=>Q.ex e sl ao)) (λe ao=>Q.ex e sl ao):=by
 simp only[pV,sW];congr 1;funext d S1;congr 1;funext o S2;cases pU cs m o d S2<;>simp
@[simp] theorem zm{n:Nat}{g:aB}{ds:List D}(h:ds.length=n):bZ n g ds S=g ds S:=if_pos h
def e3(S:Store)(P:D->Store->Prop):D->Store->Prop:=λd ao=>oH S ao/\∃d',dq (eI ao S.length 6) d=some d'/\P d' (ao.take S.length)
theorem Hz{o:Out D}:We (fin S o) P X=We o (e3 S P) (e3 S X):=by
 cases o with
 |bad=>simp[fin]
 |ok d ao =>
  simp only[fin,aS,e3];by_cases h:oH S ao
  .rw[if_pos h]
   cases e:dq (eI ao S.length 6) d<;>simp[h]
  simp_all
 |ex d ao =>
  simp only[fin,uO,e3];by_cases h:oH S ao
  .rw[if_pos h]
   cases e:dq (eI ao S.length 6) d<;>simp[h]
  simp_all
def sY(S:Store)(P:D->Store->Prop)(X:D->Store->Prop):hJ:=⟨λ_ ao=>e3 S P .non ao,λ_ _=>False,λ_ _=>False,e3 S P,λe _ ao=>e3 S X e ao⟩
theorem Wf{o:SO}{P X:D->Store->Prop}:We o.out P X=a0 o ⟨λ_ ao=>P .non ao,λ_ _=>False,λ_ _=>False,P,λe _ ao=>X e ao⟩:=by cases o<;>simp[SO.out]
theorem zp{N:Nat}{body:SX}{ds:List D}:We (bI N body ds S) P X=a0 (body (ds.map some++List.replicate (N - ds.length) none) S) (sY S P X):=by
 unfold bI;rw[Hz,Wf];rfl
theorem afi{N:Nat}{body:SX}{ds:List D}:We (Cy N body ds S) P X=a0 (body (ds.map some++List.replicate (N - ds.length) none) S) ⟨λ_ ao=>P .non ao,λ_ _=>False,λ_ _=>False,P,λe _ ao=>X e ao⟩:=Wf
@[simp] theorem afj:(sY S P X).nx sl=e3 S P .non:=(rfl)
@[simp] theorem kr:(sY S P X).rt=e3 S P:=(rfl)
@[simp] theorem pY{e:D}:(sY S P X).ex e sl=e3 S X e:=(rfl)
theorem CM{S1 T:Store}{d d':D}(h:fz S S1)(hd:dq (eI (S1++T) S.length 6) d=some d')(p:P d' S1):e3 S P d (S1++T) :=
 ⟨h.closed,d',hd,by rw[<-h.len,List.take_left'];exact p;rfl⟩
theorem pZ{S1:Store}{d:D}(h:fz S S1)(hd:bf S.length d=true)(p:P d S1):e3 S P d S1:=by
 have:=CM (P:=P) (T:=[]) h (d:=d) (d':=d) (V8 hd) p;grind
theorem uQ{S1 T:Store}{d:D}(h:fz S S1)(hd:bf S.length d=true)(p:P d S1):e3 S P d (S1++T):=CM h (V8 hd) p
theorem cx{d:D}(hd:bf S.length d=true)(p:P d S):e3 S P d S:=pZ (fz.refl S) hd p
theorem HA{S1:Store}{acc:List D}(h:fz S S1)(aR:bH S.length acc=true)(p:P (.lst acc) S1):e3 S P (.ptr S1.length) (S1++[.lst acc]):=by
 refine CM h ?_ p;rw[<-h.len]at aR ⊢;exact ae6 aR
@[simp] theorem aur{b:Bool}:e3 S P (.bl b) S=P (.bl b) S:=propext ⟨fun⟨_,d',h,p⟩=>by rw[dq]at h;grind,λp=>cx rfl p⟩
@[simp] theorem aus{i:Int}:e3 S P (.int i) S=P (.int i) S:=propext ⟨fun⟨_,d',h,p⟩=>by rw[dq]at h;grind,λp=>cx rfl p⟩
@[simp] theorem aut{i:Str}:e3 S P (.str i) S=P (.str i) S:=propext ⟨fun⟨_,d',h,p⟩=>by rw[dq]at h;grind,λp=>cx rfl p⟩
@[simp] theorem auu:e3 S P .non S=P .non S:=propext ⟨fun⟨_,d',h,p⟩=>by rw[dq]at h;grind,λp=>cx rfl p⟩
@[simp] theorem CN{f:aM}:We (cC f sl S) P X=We (f sl S) (e3 S P) (e3 S X):=Hz
mutual
theorem Wg{j k:Nat}(h:j<=k):∀d,bf j d=true->bf k d=true
 | .non,_=>by simp[bf]
 | .bl _,_=>by simp[bf]
 | .int _,_=>by simp[bf]
 | .str _,_=>by simp[bf]
 | .ty _,_=>by simp[bf]
 | .cls _,_=>by simp[bf]
 | .ck _,_=>by simp[bf]
 | .exc _ _ vs,q=>by simp only[bf]at q ⊢;exact iw h vs q
 | .lam _ _,_=>by simp[bf]
 | .dN _ vs,q=>by simp only[bf]at q ⊢;exact iw h vs q
 | .tup xs,q=>by simp only[bf]at q ⊢;exact iw h xs q
 | .b8 xs,q=>by simp only[bf]at q ⊢;exact iw h xs q
 | .lst xs,q=>by simp only[bf]at q ⊢;exact iw h xs q
 | .dct ks vs,q=>by
  simp only[bf,Bool.and_eq_true]at q ⊢;exact⟨iw h ks q.1,iw h vs q.2⟩
 | .er _ ks vs,q=>by
  simp only[bf,Bool.and_eq_true]at q ⊢;exact⟨iw h ks q.1,iw h vs q.2⟩
 | .ins _ _ vs,q=>by simp only[bf]at q ⊢;exact iw h vs q
 | .ptr n,q=>by
  simp only[bf,decide_eq_true_eq]at q ⊢;omega
theorem iw{j k:Nat}(h:j<=k):∀ds,bH j ds=true->bH k ds=true
 |[],_=>by simp[bH]
 |d::ds,q=>by
  simp only[bH,Bool.and_eq_true]at q ⊢;exact⟨Wg h d q.1,iw h ds q.2⟩
end
theorem lV{k:Nat}:∀{ds:List D},bH k ds=true↔∀d∈ds,bf k d=true
 |[]=>by simp[bH]
 |d::ds=>by simp[bH,Bool.and_eq_true,lV (ds:=ds)]
@[simp] theorem Wh{k:Nat}{a b:List D}:bH k (a++b)=(bH k a&&bH k b):=by
 induction a with
 |nil=>simp[bH]
 |cons d a ih=>simp[bH,ih,Bool.and_assoc]
theorem sZ{k:Nat}{d:D}(h:bf 0 d=true):bf k d=true:=Wg (jW k) d h
theorem Wi{k:Nat}{ds:List D}(h:bH 0 ds=true):bH k ds=true:=iw (jW k) ds h
@[simp] theorem auv{k:Nat}:bf k .non=true:=by simp[bf]
@[simp] theorem auw{k:Nat}{b:Bool}:bf k (.bl b)=true:=by simp[bf]
@[simp] theorem auy{k:Nat}{b:Int}:bf k (.int b)=true:=by simp[bf]
@[simp] theorem auz{k:Nat}{b:Str}:bf k (.str b)=true:=by simp[bf]
@[simp] theorem Nz{k:Nat}{b:List D}:bf k (.tup b)=bH k b:=by simp[bf]
@[simp] theorem afk{k:Nat}{b:List D}:bf k (.lst b)=bH k b:=by simp[bf]
@[simp] theorem auA{k:Nat}{c:Str}{ns:List Str}{b:List D}:bf k (.ins c ns b)=bH k b:=by simp[bf]
@[simp] theorem auB{k:Nat}:bH k []=true:=by simp[bH]
@[simp] theorem HB{k:Nat}{d:D}{ds:List D}:bH k (d::ds)=(bf k d&&bH k ds):=by simp[bH]
end
section
variable{X:D->Store->Prop}{Q:hJ}{S:Store}{sl:aT}{G:Store->Prop}{g:d4}{body:SX}
theorem Wj(I:List D->aT->Store->Prop):∀(xs pre:List D) (sl:aT) (S:Store),I pre sl S ->
  (∀p x post sl S,pre++xs=p++x::post->I p sl S->G S/\a0 (g x sl S) ⟨λa' S1=>a0 (body a' S1) ⟨λbK S2=>I (p++[x]) bK S2,Q.nx,λbK S2=>I (p++[x]) bK S2,Q.rt,Q.ex⟩,λ_ _=>False,λ_ _=>False,λ_ _=>False,λ_ _ _=>False⟩) ->
  (∀sl S,I (pre++xs) sl S->G S/\Q.nx sl S)->a0 (mJ G g body xs sl S) Q
 |[],pre,sl,S,h0,step,hU=>by
  rw[rY]at hU;obtain⟨h1,h2⟩:=hU sl S h0;simp only[mJ,if_pos h1,pX];exact h2
 |x::xs,pre,sl,S,h0,step,hU=>by
  obtain⟨h1,h2⟩:=step pre x xs sl S rfl h0;simp only[mJ,if_pos h1];cases e:g x sl S with
  |nx a' S1 =>
   rw[e]at h2;simp only[pX]at h2;dsimp only;have hl:pre++x::xs=(pre++[x])++xs:=by simp
   have next:∀bK S2,I (pre++[x]) bK S2->a0 (mJ G g body xs bK S2) Q:=λbK S2 j6 =>
    Wj I xs (pre++[x]) bK S2 j6 (λp y post sl S he hp=>step p y post sl S (by grind) hp) (λsl S j6=>hU sl S (by grind))
   cases e2:body a' S1 with
   |nx bK S2=>rw[e2,pX]at h2;grind
   |ct bK S2=>rw[e2,Nq]at h2;grind
   |bk bK S2=>rw[e2,V_]at h2;dsimp only;rw[pX];exact h2
   |rt d S2=>rw[e2,Nr]at h2;dsimp only;rw[Nr];exact h2
   |ex e bK S2=>rw[e2,CH]at h2;dsimp only;rw[CH];exact h2
   |bad=>rw[e2,V']at h2;exact h2.elim
  |bk _ _=>simp_all
  |ct _ _=>simp_all
  |rt _ _=>simp_all
  |ex _ _ _=>simp_all
  |bad=>simp_all
theorem afl{it:gI}{xs:List D}{ao:Store}(hit:it sl S=.ok (xs,G) ao)(I:List D->aT->Store->Prop)(h0:I [] sl ao)
  (step:∀p x post sl S,xs=p++x::post->I p sl S->G S/\a0 (g x sl S) ⟨λa' S1=>a0 (body a' S1) ⟨λbK S2=>I (p++[x]) bK S2,Q.nx,λbK S2=>I (p++[x]) bK S2,Q.rt,Q.ex⟩,λ_ _=>False,λ_ _=>False,λ_ _=>False,λ_ _ _=>False⟩)
  (hU:∀sl S,I xs sl S->G S/\Q.nx sl S):a0 (uE it g body sl S) Q:=by
 rw[ae9,hit,aS];exact Wj I xs [] sl ao h0 step hU
theorem NA{c:cJ}(I:Nat->aT->Store->Prop)(step:∀k sl S,I k sl S->We (c sl S) (λb S1=>if b=true then a0 (body sl S1) ⟨λbK S2=>∃j,j<k/\I j bK S2,Q.nx,λbK S2=>∃j,j<k/\I j bK S2,Q.rt,Q.ex⟩else Q.nx sl S1) (λe S1=>Q.ex e sl S1)) :
  ∀(n k:Nat) (sl:aT) (S:Store),I k sl S->k<n->a0 (wj c body n sl S) Q
 |0,_,_,_,_,h=>absurd h (Nat.not_lt_zero _)
 |n+1,k,sl,S,j6,h=>by
  have h2:=step k sl S j6;unfold wj;rw[sW];refine h2.post λb S1 hb=>?_;cases b with
  |false=>simpa using hb
  |true =>
   simp only[if_true]at hb ⊢;cases e2:body sl S1 with
   |nx bK S2=>rw[e2,pX]at hb;obtain⟨j,cK,NB⟩:=hb;exact NA I step n j bK S2 NB (mA cK (Nat.le_of_lt_succ h))
   |ct bK S2=>rw[e2,Nq]at hb;obtain⟨j,cK,NB⟩:=hb;exact NA I step n j bK S2 NB (mA cK (Nat.le_of_lt_succ h))
   |bk bK S2=>simp_all
   |rt d S2=>simp_all
   |ex e bK S2=>simp_all
   |bad=>simp_all
theorem zq{c:cJ}(k:Nat)(I:Nat->aT->Store->Prop)(h0:I k sl S)(hk:k<1000000)(step:∀k sl S,I k sl S->We (c sl S) (λb S1=>if b=true then a0 (body sl S1) ⟨λbK S2=>∃j,j<k/\I j bK S2,Q.nx,λbK S2=>∃j,j<k/\I j bK S2,Q.rt,Q.ex⟩else Q.nx sl S1) (λe S1=>Q.ex e sl S1)):a0 (qN c body sl S) Q :=
 NA I step wk k sl S h0 hk
variable{bt:cJ}{fe:aM}{n:Nat}
theorem Wk{NC:Unit->Store->Prop}{HC:aT}(I:List D->List D->Store->Prop)(hn:∀p acc S,I p acc S->S.length=n/\acc.length<=p.length):∀(xs pre acc:List D) (S:Store),(pre++xs).length<=1000000->I pre acc S ->
  (∀p x post acc S,pre++xs=p++x::post->I p acc S->G (S++[.lst acc])/\a0 (g x HC (S++[.lst acc])) ⟨λa' S1=>We (bt a' S1) (λb S2=>if b=true then We (fe a' S2) (λd a4=>∃bR,a4=bR++[.lst acc]/\I (p++[x]) (acc++[d]) bR) (λ_ _=>False)else ∃bR,S2=bR++[.lst acc]/\I (p++[x]) acc bR) (λ_ _=>False),λ_ _=>False,λ_ _=>False,λ_ _=>False,λ_ _ _=>False⟩) ->
  (∀acc S,I (pre++xs) acc S->G (S++[.lst acc])/\NC () (S++[.lst acc]))->We (jf G g bt fe n HC xs (S++[.lst acc])) NC X
 |[],pre,acc,S,hl,h0,step,hU=>by
  rw[rY]at hU;obtain⟨h1,h2⟩:=hU acc S h0;simp only[jf,if_pos h1,aS];exact h2
 |x::xs,pre,acc,S,hl,h0,step,hU=>by
  obtain⟨h1,h2⟩:=step pre x xs acc S rfl h0;simp only[jf,if_pos h1];have ND:pre++x::xs=(pre++[x])++xs:=by simp
  have next:∀acc S2,I (pre++[x]) acc S2->We (jf G g bt fe n HC xs (S2++[.lst acc])) NC X:=λacc S2 j6 =>
   Wk I hn xs (pre++[x]) acc S2 (by grind) j6 (λp y post acc S he hp=>step p y post acc S (by grind) hp) (λacc S j6=>hU acc S (by grind))
  cases e:g x HC (S++[.lst acc])with
  |nx a' S1 =>
   rw[e]at h2;simp only[pX]at h2;dsimp only;cases e2:bt a' S1 with
   |ok b S2 =>
    rw[e2,aS]at h2;cases b with
    |false =>
     grind
    |true =>
     simp only[if_true]at h2;cases a6:fe a' S2 with
     |ok d a4 =>
      rw[a6,aS]at h2;obtain⟨bR,rfl,bT⟩:=h2;obtain⟨wZ,uR⟩:=hn _ _ _ bT;have hg:(bR++[dH.lst acc])[n]?=some (.lst acc):=by rw[List.getElem?_append_right (by omega),wZ];simp
      have c6:acc.length<1000000:=by
       have:=(hn _ _ _ h0).2;simp only[List.length_append,List.length_cons]at hl;omega
      grind
     |ex _ _=>rw[a6,uO]at h2;exact h2.elim
     |bad=>rw[a6,Np]at h2;exact h2.elim
   |ex _ _=>rw[e2,uO]at h2;exact h2.elim
   |bad=>rw[e2,Np]at h2;exact h2.elim
  |bk _ _=>rw[e,V_]at h2;exact h2.elim
  |ct _ _=>rw[e,Nq]at h2;exact h2.elim
  |rt _ _=>rw[e,Nr]at h2;exact h2.elim
  |ex _ _ _=>rw[e,CH]at h2;exact h2.elim
  |bad=>rw[e,V']at h2;exact h2.elim
theorem NF{it:gI}{own:List Nat}{P:D->Store->Prop}{xs:List D}{ao:Store}(hit:it sl S=.ok (xs,G) ao)(hl:xs.length<=1000000)(I:List D->List D->Store->Prop)(hn:∀p acc S,I p acc S->S.length=ao.length/\acc.length<=p.length)(h0:I [] [] ao)
  (step:∀p x post acc S,xs=p++x::post->I p acc S->G (S++[.lst acc])/\a0 (g x (df sl own) (S++[.lst acc])) ⟨λa' S1=>We (bt a' S1) (λb S2=>if b=true then We (fe a' S2) (λd a4=>∃bR,a4=bR++[.lst acc]/\I (p++[x]) (acc++[d]) bR) (λ_ _=>False)else ∃bR,S2=bR++[.lst acc]/\I (p++[x]) acc bR) (λ_ _=>False),λ_ _=>False,λ_ _=>False,λ_ _=>False,λ_ _ _=>False⟩)
  (hU:∀acc S,I xs acc S->G (S++[.lst acc])/\P (.ptr S.length) (S++[.lst acc])):We (cw it g bt fe own sl S) P X:=by
 unfold cw;rw[gB,hit,aS];show We ((jf G g bt fe ao.length (df sl own) xs (ao++[.lst []])).bind λ_ S2=>.ok (.ptr ao.length) S2) P X;rw[gB];refine Wk I hn xs [] [] ao hl h0 step λacc S j6=>?_;obtain⟨h1,h2⟩:=hU acc S j6;rw[(hn _ _ _ j6).1]at h2;simp_all
theorem Wl{it:gI}{own:List Nat}{P:D->Store->Prop}{xs:List D}(p:D->Bool)(cS:D->D)(hit:it sl S=.ok (xs,G) S)(hl:xs.length<=1000000)(cP:∀acc,G (S++[.lst acc]))
  (step:∀x∈xs,∀acc,a0 (g x (df sl own) (S++[.lst acc])) ⟨λa' S1=>We (bt a' S1) (λb S2=>b=p x/\if p x=true then We (fe a' S2) (λd a4=>a4=S++[.lst acc]/\d=cS x) (λ_ _=>False)else S2=S++[.lst acc]) (λ_ _=>False),λ_ _=>False,λ_ _=>False,λ_ _=>False,λ_ _ _=>False⟩)
  (hU:P (.ptr S.length) (S++[.lst ((xs.filter p).map cS)])):We (cw it g bt fe own sl S) P X:=by
 refine NF hit hl (λpre acc S1=>S1=S/\acc=(pre.filter p).map cS) (λpre acc S1 h=>⟨by rw[h.1],by grind⟩) ⟨rfl,rfl⟩ (λpre x post acc S1 he h=>?_) (λacc S1 h=>?_)
 .obtain⟨afm,rfl⟩:=h
  subst afm;refine⟨cP _,(step x (by rw[he];simp) _).mono (λa' S1 h=>h.post λb S2 h=>?_) (λ_ _ h=>h) (λ_ _ h=>h) (λ_ _ h=>h) (λ_ _ _ h=>h)⟩;obtain⟨rfl,h⟩:=h;split at h
  .rename_i hp
   rw[if_pos hp];exact h.post λd a4 ⟨aw,e2⟩=>⟨_,aw,rfl,by grind⟩
  grind
 grind
theorem afn{it:gI}{own:List Nat}{P:D->Store->Prop}{xs:List D}(p:D->Bool)(cS:D->D)(hit:it sl S=.ok (xs,G) S)(hl:xs.length<=1000000)(cP:∀acc,G (S++[.lst acc]))
  (step:∀x∈xs,∀acc,a0 (g x (df sl own) (S++[.lst acc])) ⟨λa' S1=>We (bt a' S1) (λb S2=>b=p x/\if p x=true then We (fe a' S2) (λd a4=>a4=S++[.lst acc]/\d=cS x) (λ_ _=>False)else S2=S++[.lst acc]) (λ_ _=>False),λ_ _=>False,λ_ _=>False,λ_ _=>False,λ_ _ _=>False⟩)
  (aR:∀x∈xs,p x=true->bf S.length (cS x)=true)
  (hU:P (.lst ((xs.filter p).map cS)) S):We (cw it g bt fe own sl S) (e3 S P) X:=by
 refine Wl p cS hit hl cP step (HA (fz.refl S) ?_ hU);rw[lV];grind
end
theorem afo{α:Type}{l:List α}:l.filter (λ_=>true)=l:=KI.mpr λ_ _=>(rfl)
section
variable{S:Store}{sl:aT}
theorem p3{f:aM}{d:D}{S1:Store}{xs:List D}(h:f sl S=.ok d S1)(hx:eK S1 d=some xs):ey f sl S=.ok (xs,λS2=>eK S2 d=some xs) S1:=by
 unfold ey;rw[h];show wO d S1=_;unfold wO;cases d<;>first|(simp[eK,dJ,d8]at hx;done)|(simp only[hx])
theorem Wm{f:aM}{j:Int}{S1:Store}(h:f sl S=.ok (.int j) S1)(h1:0<=j)(h2:j<2 ^ 62):pP (ae f ah) sl S=.ok (lP 0 j.toNat,λ_=>True) S1:=by
 simp only[pP,ae,ah,h,pW];grind
theorem afp{f1 f2:aM}{d e:D}{S1 S2:Store}{xs ys:List D}(h1:f1 sl S=.ok d S1)(h2:f2 sl S1=.ok e S2)(hx:eK S2 d=some xs)(bD:eK S2 e=some ys) :
  Cu (ae f1 (ae f2 ah)) sl S=.ok (wQ xs ys,λS2=>eK S2 d=some xs/\eK S2 e=some ys) S2:=by
 simp only[Cu,ae,ah,h1,h2,pW,hx,bD]
theorem Wn{f1:aM}{d:D}{S1:Store}{xs:List D}(h1:f1 sl S=.ok d S1)(hx:eK S1 d=some xs) :
  pR (ae f1 ah) sl S=.ok (pQ 0 xs,λS2=>eK S2 d=some xs) S1:=by
 simp only[pR,ae,ah,h1,pW,hx]
theorem NI{i:Nat}{d:D}(h:sl[i]?=some (some d)):eName i sl S=.ok d S:=by simp only[eName,h]
@[simp] theorem auC(s:Str):eK S (.str s)=some (y' s):=(rfl)
@[simp] theorem q4(xs:List D):eK S (.lst xs)=some xs:=(rfl)
@[simp] theorem HD(xs:List D):eK S (.tup xs)=some xs:=(rfl)
@[simp] theorem auD(xs:List D):dJ S (.tup xs)=some xs:=(rfl)
@[simp] theorem HE(xs:List D):d8 S (.lst xs)=some xs:=(rfl)
end
section
variable{S:Store}{P:D->Store->Prop}{X:D->Store->Prop}
@[simp] theorem NK{α:Type}(xs:List α)(k:Nat):atI xs (k:Int)=xs[k]?:=by
 unfold atI ixN;grind
@[simp] theorem auE{α:Type}(xs:List α):atI xs 0=xs[0]?:=NK xs 0
@[simp] theorem auF{α:Type}(xs:List α):atI xs 1=xs[1]?:=NK xs 1
@[simp] theorem auG{α:Type}(xs:List α):atI xs 2=xs[2]?:=NK xs 2
theorem HF{α:Type}{xs:List α}(h:xs≠[]):atI xs (-1)=some (xs.getLast h):=by
 have hp:=List.length_pos_iff.mpr h;unfold atI ixN;rw[if_neg (by omega),if_pos (by omega)];simp only[Option.bind_some];rw[List.getLast_eq_getElem,List.getElem?_eq_some_iff];exact⟨by omega,by congr 1;omega⟩
theorem w0{f g:b_}{d e:D}{a:D}{ao:Store}(h:f d e S=.ok a ao):eu f g d e S=.ok a ao:=by unfold eu;rw[h]
theorem iX{f g:b_}{d e:D}(h:f d e S=.bad):eu f g d e S=g d e S:=by unfold eu;rw[h]
theorem Wo{f g:aB}{d:List D}{a:D}{ao:Store}(h:f d S=.ok a ao):pG f g d S=.ok a ao:=by unfold pG;rw[h]
theorem HG{f g:aB}{d:List D}(h:f d S=.bad):pG f g d S=g d S:=by unfold pG;rw[h]
@[simp] theorem auH{xs:List D}{i:Int}:We (a7 (.lst xs) (.int i) S) P X=∃x,atI xs i=some x/\P x S:=by
 rw[Nm];cases atI xs i<;>simp
@[simp] theorem auI{xs:List D}{i:Int}:We (a7 (.tup xs) (.int i) S) P X=∃x,atI xs i=some x/\P x S:=by
 rw[ae5];cases atI xs i<;>simp
@[simp] theorem afq{l:List Nat}{i:Int}:We (a7 (.str (aj l)) (.int i) S) P X=(l.length<=1000000/\∃c,atI l i=some c/\P (iV c) S):=by
 by_cases h:l.length<=1000000
 .cases e:atI l i with
  |none =>
   have:a7 (.str (aj l)) (.int i) S=.bad:=by
    unfold a7;rw[iX (by simp only[sF];grind)];rfl
   rw[this];simp
  |some c =>
   have:a7 (.str (aj l)) (.int i) S=.ok (iV c) S:=by
    unfold a7;exact w0 (by simp only[sF];simp_all)
   simp_all
 .have:a7 (.str (aj l)) (.int i) S=.bad:=by
   unfold a7;rw[iX (by simp only[sF];rw[if_neg (by simpa using h)])];rfl
  rw[this];simp[h]
@[simp] theorem auJ{s:Int}:pL (.int s)=some (.inl s):=(rfl)
@[simp] theorem auK{l:List Nat}:We (cz [.str (aj l)] S) P X=(l.length<=1000000/\P (.int l.length) S):=by
 by_cases h:l.length<=1000000
 .have:cz [.str (aj l)] S=.ok (.int l.length) S:=by
   unfold cz;refine Wo ?_;simp[B',h]
  simp_all
 .have:cz [.str (aj l)] S=.bad:=by
   unfold cz;rw[HG (by simp[B',h])];rfl
  rw[this];simp[h]
@[simp] theorem auL{xs:List D}:cz [.tup xs] S=.ok (.int xs.length) S:=by rfl
@[simp] theorem auM{xs:List D}:cz [.b8 xs] S=.ok (.int xs.length) S:=by rfl
@[simp] theorem HI{xs:List D}:cz [.lst xs] S=.ok (.int xs.length) S:=by rfl
@[simp] theorem auN{ks vs:List D}:cz [.dct ks vs] S=.ok (.int ks.length) S:=by rfl
@[simp] theorem Wq{a b:List Nat}:We (bC (.str (aj a)) (.str (aj b)) S) P X=(a.length+b.length<=1000000/\P (.str (aj (a++b))) S):=by
 by_cases h:a.length+b.length<=1000000
 .have:bC (.str (aj a)) (.str (aj b)) S=.ok (.str (aj (a++b))) S:=by
   unfold bC;rw[iX (by rfl)];exact w0 (by simp[B4,h])
  simp_all
 .have:bC (.str (aj a)) (.str (aj b)) S=.bad:=by
   unfold bC;rw[iX (by rfl),iX (by simp[B4,h]),iX (by rfl)];rfl
  rw[this];simp[h]
@[simp] theorem auO{a b:List D}:We (bC (.lst a) (.lst b) S) P X=(a.length+b.length<=1000000/\P (.lst (a++b)) S):=by
 by_cases h:a.length+b.length<=1000000
 .have:bC (.lst a) (.lst b) S=.ok (.lst (a++b)) S:=by
   unfold bC;rw[iX (by rfl),iX (by rfl)];exact w0 (by simp[B6,d8,h])
  simp_all
 .have:bC (.lst a) (.lst b) S=.bad:=by
   unfold bC;rw[iX (by rfl),iX (by rfl),iX (by simp[B6,d8,h])];rfl
  rw[this];simp[h]
theorem afr{neg:Bool}{c:Nat}{l:List Nat}:y0 neg (iV c) (.str (aj l)) S=.ok (.bl (if neg=true then !decide (c∈l)else decide (c∈l))) S:=by
 rfl
@[simp] theorem Wr{c:Nat}{l:List Nat}:dy (iV c) (.str (aj l)) S=.ok (.bl (decide (c∈l))) S:=w0 (afr (neg:=false))
theorem afs{neg:Bool}{k e:D}{xs:List D}(h:dJ S e=some xs):y0 neg k e S=.bad:=by
 cases e<;>first|(simp[dJ,d8]at h;done)|(cases k<;>rfl)
theorem aft{neg:Bool}{k e:D}{xs:List D}(h:dJ S e=some xs):y_ neg k e S=.bad:=by
 unfold y_;have:asD S e=none:=by
  cases e with
  |ptr n =>
   simp only[dJ,d8]at h;split at h
   .rename_i ds e;simp[asD,e]
   .cases h
  |_=>first|rfl|(simp[dJ,d8]at h;done)
 rw[this]
theorem NM{k e:D}{xs:List D}(h:dJ S e=some xs)(hk:oI k=true)(hx:xs.all oI=true):dy k e S=.ok (.bl (inD k xs)) S:=by
 unfold dy;rw[iX (afs h),iX (aft h)];unfold B_;grind
@[simp] theorem auP{c:Nat}{l:List Nat}:inD (iV c) (l.map iV)=decide (c∈l):=by
 unfold inD
 induction l with
 |nil=>rfl
 |cons x l ih =>
  rw[cF,List.any_cons,ih];have:y2 (iV x) (iV c)=decide (x=c):=by
   show((aj [x])==(aj [c]))=_;by_cases h:x=c
   .subst h;simp
   .simp[h]
  grind
theorem sIx_nat(n d k:Nat):HT.sIx n d (some (k:Int))=min k n:=HT.sIx_nat n d k
@[simp] theorem Ws(l:List Nat)(k:Nat):cutS (aj l) (some (k:Int)) none=aj (l.drop k):=by
 unfold cutS;congr 1;rw[HT.sIx_none,sIx_nat,mP];grind
@[simp] theorem Wt(l:List Nat)(k:Nat):cutS (aj l) none (some (k:Int))=aj (l.take k):=by
 unfold cutS;congr 1;rw[HT.sIx_none,sIx_nat,mP];simp
@[simp] theorem Wu(l:List Nat)(j k:Nat):cutS (aj l) (some (j:Int)) (some (k:Int))=aj ((l.take k).drop j):=by
 unfold cutS;congr 1;rw[sIx_nat,sIx_nat,mP];grind
@[simp] theorem afu(l:List D)(k:Nat):je l (some (k:Int)) none=l.drop k:=by
 unfold je;rw[HT.sIx_none,sIx_nat];rw[List.take_of_length_le (by simp)];simp
@[simp] theorem Wv(l:List D)(k:Nat):je l none (some (k:Int))=l.take k:=by
 unfold je;rw[HT.sIx_none,sIx_nat,List.drop_zero,Nat.sub_zero];simp
@[simp] theorem auQ(l:List D):je l none (some 63)=l.take 63:=Wv l 63
@[simp] theorem afv(l:List Nat):cutS (aj l) (some 1) none=aj (l.drop 1):=Ws l 1
@[simp] theorem afw(l:List Nat):cutS (aj l) none (some 1)=aj (l.take 1):=Wt l 1
@[simp] theorem Ww{h:Bool}{l:List Nat}{lo hi:Option Int}:We (wJ h (.str (aj l)) lo hi S) P X=(l.length<=1000000/\P (.str (cutS (aj l) lo hi)) S):=by
 by_cases h:l.length<=1000000<;>simp[wJ,h]
@[simp] theorem sl_tup{h:Bool}{xs:List D}{lo hi:Option Int}:wJ h (.tup xs) lo hi S=.ok (.tup (je xs lo hi)) S:=(rfl)
@[simp] theorem auR{xs:List Int}{lo hi:Option Int}:wJ false (.ck xs) lo hi S=.ok (.lst (je (xs.map .int) lo hi)) S:=(rfl)
@[simp] theorem Wx{ds:List D}:We (bu ds S) P X=(ds.length<=1000000/\P (.tup ds) S):=by
 unfold bu;by_cases h:ds.length<=1000000<;>simp[h]
@[simp] theorem auS{ds:List D}:We (d_ ds S) P X=(ds.length<=1000000/\P (.lst ds) S):=by
 unfold d_;by_cases h:ds.length<=1000000<;>simp[h]
@[simp] theorem auT{ds:List D}:We (oE ds S) P X=(ds.length<=1000000/\P (.ptr S.length) (S++[.lst ds])):=by
 unfold oE;by_cases h:ds.length<=1000000<;>simp[h]
@[simp] theorem afx{α:Type}{p:α->Bool}{xs:List α}:y3 (xs.map λx=>.bl (p x))=some (xs.map p):=by
 induction xs with
 |nil=>rfl
 |cons x xs ih=>simp[y3,ih]
@[simp] theorem afy{α:Type}{p:α->Bool}{xs:List α}:mM [.lst (xs.map λx=>.bl (p x))] S=.ok (.bl (xs.all p)) S:=by
 simp only[mM,HE,afx];simp
theorem Wy{α:Type}{xs:List α}:mM [.lst (xs.map λ_=>.bl true)] S=.ok (.bl true) S:=by
 simp
@[simp] theorem auU{xs:List D}:oJ [.lst xs] S=.ok (.lst xs) S:=(rfl)
@[simp] theorem afz{xs:List D}:Ca [.lst xs] S=.ok (.tup xs) S:=(rfl)
@[simp] theorem auV{i:Int}:j2 [.int i] S=.ok (.int i) S:=(rfl)
@[simp] theorem Wz{xs:List (List Nat)}:y7 (xs.map λl=>.str (aj l))=some (xs.map aj):=by
 induction xs with
 |nil=>rfl
 |cons x xs ih=>simp[y7,ih]
theorem afA:∀xs:List (List Nat),Txt.join (aj []) (xs.map aj)=aj xs.flatten:=λxs=>by
 unfold Txt.join;rw[StrLaws.glued_eq_join]
 induction xs with
 |nil=>rfl
 |cons a xs ih =>
  cases xs with
  |nil=>simp[Str.join]
  |cons b r =>
   simp only[cF,Str.join]at ih ⊢;simp_all
@[simp] theorem afB{xs:List (List Nat)}{d:D}(h:dJ S d=some (xs.map λl=>.str (aj l))):We (lM (.str (aj [])) [d] S) P X=((xs.map List.length).sum<=1000000/\P (.str (aj xs.flatten)) S):=by
 simp only[lM,h,Wz];rw[afA];have e:(List.map (λx=>x.length) (List.map aj xs)).sum+(List.map aj xs).length * (aj []).length=(xs.map List.length).sum:=by
  rw[mP];simp only[mB,Nat.mul_zero,Nat.add_zero,ov];congr 1
 rw[e];by_cases h:(xs.map List.length).sum<=1000000<;>simp[h]
theorem WB:∀l:List Nat,((l.map λc=>[c]).map List.length).sum=l.length
 |[]=>rfl
 |a::l=>by
  have:=WB l;grind
theorem WC:∀l:List Nat,(l.map λc=>[c]).flatten=l
 |[]=>rfl
 |a::l=>by simp[WC l]
theorem afC{l:List Nat}{d:D}(h:dJ S d=some (l.map iV)):We (lM (.str (aj [])) [d] S) P X=(l.length<=1000000/\P (.str (aj l)) S):=by
 have:=afB (P:=P) (X:=X) (S:=S) (xs:=l.map λc=>[c]) (d:=d) (by rw[h];simp);rw[this];rw[WB,WC]
@[simp] theorem auW:c4 .non "int"=some false:=by decide
@[simp] theorem auX:c4 .non "bool"=some false:=by decide
@[simp] theorem auY:c4 .non "str"=some false:=by decide
@[simp] theorem auZ:c4 .non "list"=some false:=by decide
@[simp] theorem au0:c4 .non "tuple"=some false:=by decide
@[simp] theorem au1:c4 .non "dict"=some false:=by decide
@[simp] theorem au2:c4 .bl "int"=some true:=by decide
@[simp] theorem au3:c4 .bl "bool"=some true:=by decide
@[simp] theorem au4:c4 .bl "str"=some false:=by decide
@[simp] theorem au5:c4 .bl "list"=some false:=by decide
@[simp] theorem au6:c4 .bl "tuple"=some false:=by decide
@[simp] theorem au7:c4 .bl "dict"=some false:=by decide
@[simp] theorem au8:c4 .int "int"=some true:=by decide
@[simp] theorem au9:c4 .int "bool"=some false:=by decide
@[simp] theorem ava:c4 .int "str"=some false:=by decide
@[simp] theorem avb:c4 .int "list"=some false:=by decide
@[simp] theorem avc:c4 .int "tuple"=some false:=by decide
@[simp] theorem avd:c4 .int "dict"=some false:=by decide
@[simp] theorem ave:c4 .str "int"=some false:=by decide
@[simp] theorem avf:c4 .str "bool"=some false:=by decide
@[simp] theorem avh:c4 .str "str"=some true:=by decide
@[simp] theorem avi:c4 .str "list"=some false:=by decide
@[simp] theorem avj:c4 .str "tuple"=some false:=by decide
@[simp] theorem avk:c4 .str "dict"=some false:=by decide
@[simp] theorem avl:c4 .tup "int"=some false:=by decide
@[simp] theorem avm:c4 .tup "bool"=some false:=by decide
@[simp] theorem avn:c4 .tup "str"=some false:=by decide
@[simp] theorem avo:c4 .tup "list"=some false:=by decide
@[simp] theorem avp:c4 .tup "tuple"=some true:=by decide
@[simp] theorem avq:c4 .tup "dict"=some false:=by decide
@[simp] theorem avr:c4 .lst "int"=some false:=by decide
@[simp] theorem avs:c4 .lst "bool"=some false:=by decide
@[simp] theorem avt:c4 .lst "str"=some false:=by decide
@[simp] theorem avu:c4 .lst "list"=some true:=by decide
@[simp] theorem avv:c4 .lst "tuple"=some false:=by decide
@[simp] theorem avw:c4 .lst "dict"=some false:=by decide
@[simp] theorem avx:c4 .dct "int"=some false:=by decide
@[simp] theorem avy:c4 .dct "bool"=some false:=by decide
@[simp] theorem avz:c4 .dct "str"=some false:=by decide
@[simp] theorem avA:c4 .dct "list"=some false:=by decide
@[simp] theorem avB:c4 .dct "tuple"=some false:=by decide
@[simp] theorem avC:c4 .dct "dict"=some true:=by decide
@[simp] theorem avD:j1 S .non=some .non:=(rfl)
@[simp] theorem avE{b:Bool}:j1 S (.bl b)=some .bl:=(rfl)
@[simp] theorem avF{b:Int}:j1 S (.int b)=some .int:=(rfl)
@[simp] theorem avG{b:Str}:j1 S (.str b)=some .str:=(rfl)
@[simp] theorem avH{b:List D}:j1 S (.tup b)=some .tup:=(rfl)
@[simp] theorem avI{b:List D}:j1 S (.b8 b)=some .tup:=(rfl)
@[simp] theorem avJ{b:List D}:j1 S (.lst b)=some .lst:=(rfl)
@[simp] theorem avK{d:D}{T:String}:We (dM [d,.ty T] S) P X=lU (j1 S d) λk=>lU (c4 k T) λb=>P (.bl b) S:=by
 cases e:j1 S d with
 |none =>
  have:dM [d,.ty T] S=.bad:=by
   unfold dM;rw[HG (by simp[wz,e])];simp[wA]
  rw[this];simp
 |some k =>
  cases e2:c4 k T with
  |none =>
   have:dM [d,.ty T] S=.bad:=by
    unfold dM;rw[HG (by simp[wz,e,e2])];simp[wA]
   simp_all
  |some b =>
   have:dM [d,.ty T] S=.ok (.bl b) S:=by
    unfold dM;exact Wo (by simp[wz,e,e2])
   simp_all
@[simp] theorem avL{d:D}{ts:List D}:We (dM [d,.tup ts] S) P X=lU (j1 S d) λk=>lU (qT ts) λmL=>lU (pI k mL) λb=>P (.bl b) S:=by
 have bB:dM [d,.tup ts] S=wA [d,.tup ts] S:=by
  unfold dM;exact HG (by simp[wz])
 rw[bB];simp only[wA];cases e:j1 S d with
 |none=>simp
 |some k =>
  cases aw:qT ts with
  |none=>simp
  |some mL =>
   dsimp only;cases e2:pI k mL<;>simp[e2]
@[simp] theorem avM:qT []=some []:=(rfl)
@[simp] theorem avN{T:String}{r:List D}:qT (.ty T::r)=(qT r).map (T :: ·):=(rfl)
@[simp] theorem avO{k:nD}:pI k []=some false:=(rfl)
@[simp] theorem avP{k:nD}{T:String}{r:List String}:pI k (T::r)=(c4 k T).bind λb=>(pI k r).map λc=>b||c:=by
 simp only[pI];cases c4 k T<;>cases pI k r<;>rfl
def ku(l:List Nat):Prop:=∀c∈l,c<1114112
theorem HJ{l:List Nat}(h:ku l):SeqAt.shaped (.str (aj l))=true:=ae2 (by
 unfold PyData.strOk;simp;exact h)
theorem w1{a b:List Nat}(ha:ku a)(hb:ku b):aQ false (.str (aj a)) (.str (aj b)) S=.ok (.bl (decide (a=b))) S:=by
 simp[aQ,toP,gX,PyData.eqv,HJ ha,HJ hb];grind
theorem uS{a b:List Nat}(ha:ku a)(hb:ku b):aQ true (.str (aj a)) (.str (aj b)) S=.ok (.bl (!decide (a=b))) S:=by
 simp[aQ,toP,gX,PyData.eqv,HJ ha,HJ hb];grind
@[simp] theorem avQ{a b:Bool}:aQ false (.bl a) (.bl b) S=.ok (.bl (decide (a=b))) S:=by
 rfl
@[simp] theorem avR{a b:Bool}:aQ true (.bl a) (.bl b) S=.ok (.bl (!decide (a=b))) S:=by
 rfl
@[simp] theorem avS{d:D}{neg:Bool}:gJ neg d .non S=.ok (.bl (if neg=true then !sD d else sD d)) S:=(rfl)
@[simp] theorem avT:sD .non=true:=(rfl)
@[simp] theorem avU{b:Bool}:sD (.bl b)=false:=(rfl)
@[simp] theorem avV{b:Int}:sD (.int b)=false:=(rfl)
@[simp] theorem avW{b:Str}:sD (.str b)=false:=(rfl)
end
def zr:SX :=
 (a8 (ak oE (ae (ak oJ (ae (e0 false (eName 0) fN (ec (af (.int 63)))) ah)) (ae (af (.int 0)) (ae (af (.int 0)) (ae (af (.int 5625)) ah))))))
def CO:aB:=bZ 1 (Cy 1 zr)
def hM:SX :=
 (aL (bE (lE (aI (aq (aQ false) (aq a7 (eName 0) (af (.int 2))) (af (.int 0)))) (aI (aq lR (aq a7 (eName 0) (af (.int 1))) (ak cz (ae (aq a7 (eName 0) (af (.int 0))) ah)))))
 (aL (bJ (aq a7 (aq a7 (eName 0) (af (.int 0))) (aq a7 (eName 0) (af (.int 1)))) (aP 2))
 (aL (bJ (aq bC (aq a7 (eName 0) (af (.int 1))) (af (.int 1))) (lN (eName 0) (af (.int 1))))
 (bE (aI (aq wx (eName 2) (aq G1 (af (.int 10)) (af (.int 18)))))
 (bJ (eName 2) (lN (eName 0) (af (.int 2))))
 (bJ (aq jB (ak j2 (ae (aq bC (aq bC (aq ho (aq a7 (eName 0) (af (.int 3))) (af (.int 48817))) (aq ho (aq jB (ak j2 (ae (eName 2) ah)) (af (.int 2147483399))) (af (.int 9241)))) (af (.int 17))) ah)) (af (.int 2147483563))) (lN (eName 0) (af (.int 3)))))))
 bG)
 (aL (bE (aI (aq jd (aq a7 (eName 0) (af (.int 2))) (af (.int 0))))
 (aL (bJ (aq jB (ak j2 (ae (aq a7 (eName 0) (af (.int 2))) ah)) (eName 1)) (aP 3))
 (aL (bJ (aq j0 (aq a7 (eName 0) (af (.int 2))) (eName 1)) (lN (eName 0) (af (.int 2))))
 (a8 (eName 3))))
 bG)
 (aL (bJ (aq a7 (eName 0) (af (.int 3))) (aP 4))
 (aL (bJ (aq jB (ak j2 (ae (aq bC (aq bC (aq ho (eName 4) (eName 4)) (aq ho (eName 4) (af (.int 31013)))) (af (.int 1402361))) ah)) (af (.int 2147483563))) (lN (eName 0) (af (.int 3))))
 (a8 (aq jB (ak j2 (ae (aq bC (aq j0 (aq a7 (eName 0) (af (.int 3))) (af (.int 71))) (aq ho (aq jB (ak j2 (ae (aq a7 (eName 0) (af (.int 3))) ah)) (af (.int 7907))) (af (.int 59)))) ah)) (eName 1)))))))
def iy:aB:=bZ 2 (bI 5 hM)
def nM:SX :=
 (a8 (aq a7 (eName 1) (ak iy (ae (eName 0) (ae (ak cz (ae (eName 1) ah)) ah)))))
def j7:aB:=bZ 2 (bI 2 nM)
def kZ(again:aB):SX :=
 (aL (bE (aI (ak dM (ae (eName 1) (ae (ak bu (ae (af (.ty "list")) (ae (af (.ty "tuple")) ah))) ah))))
 (aL (bE (d2 (aI (aq (aQ true) (ak dM (ae (eName 0) (ae (af (.ty "list")) ah))) (ak dM (ae (eName 1) (ae (af (.ty "list")) ah))))) (aI (aq (aQ true) (ak dM (ae (eName 0) (ae (af (.ty "tuple")) ah))) (ak dM (ae (eName 1) (ae (af (.ty "tuple")) ah))))))
 (a8 (af (.bl false)))
 bG)
 (a8 (gn (aq (aQ false) (ak cz (ae (eName 0) ah)) (ak cz (ae (eName 1) ah))) (ak mM (ae (cC (cw (Cu (ae (eName 0) (ae (eName 1) ah))) (hj (c1 (aP 2) (c1 (aP 3) gH))) cv (ak again (ae (eName 2) (ae (eName 3) ah))) [2,3])) ah)))))
 bG)
 (aL (bE (d2 (aI (aq (gJ false) (eName 1) (af .non))) (aI (aq (gJ false) (eName 0) (af .non))))
 (a8 (gn (aq (gJ false) (eName 1) (af .non)) (aq (gJ false) (eName 0) (af .non))))
 bG)
 (aL (bE (d2 (aI (aq (aQ true) (ak dM (ae (eName 0) (ae (af (.ty "bool")) ah))) (ak dM (ae (eName 1) (ae (af (.ty "bool")) ah))))) (aI (aq (aQ true) (ak dM (ae (eName 0) (ae (af (.ty "int")) ah))) (ak dM (ae (eName 1) (ae (af (.ty "int")) ah))))))
 (a8 (af (.bl false)))
 bG)
 (a8 (gn (aq (aQ false) (ak dM (ae (eName 0) (ae (af (.ty "str")) ah))) (ak dM (ae (eName 1) (ae (af (.ty "str")) ah)))) (aq (aQ false) (eName 0) (eName 1)))))))
def q5:Nat->aB
 |0=>λ_ _=>.bad
 |k+1=>bZ 2 (bI 4 (kZ (q5 k)))
def q6:aB:=q5 12
def f7(cs:List Int)(a g s:Int):dH:=.lst [.lst (cs.map .int),.int a,.int g,.int s]
theorem afD(cs:List Int)(a g cV:Int)(S:Store)(n:Nat)(many:Int)(bO:S[n]?=some (f7 cs a g cV))(hb:0<g)(hm:0<many)(q7:many.natAbs.log2<9000) :
  (hM [some (.ptr n),some (.int many),none,none,none] S).out=.ok (.int (g % many)) (S.set n (f7 cs a (g / many) cV)):=by
 unfold f7 at bO ⊢;have hg:¬(g=0):=by omega
 have hn:n<S.length:=(List.getElem?_eq_some_iff.mp bO).1;simp[hM,aL,bE,lE,aI,aq,eName,af,wY bO,atI,ixN,hg,bG,hb,bJ,ak,ae,ah,j2,oO hm,wX hm q7,aP,lN,wG,bO,a8]
theorem WD{xs:List D}{i:Int}(h0:0<=i)(h:i<xs.length):atI xs i=xs[i.toNat]?:=by
 simp[atI,ixN,h0,h]
theorem afE(cs:List Int)(a cV c:Int)(S:Store)(n:Nat)(many:Int)(bO:S[n]?=some (f7 cs a 0 cV))(ha:0<=a)(hl:a<cs.length)(hc:cs[a.toNat]?=some c)(nF:1000000000000000000<=c)(hm:0<many)(q7:many.natAbs.log2<9000) :
  (hM [some (.ptr n),some (.int many),none,none,none] S).out=.ok (.int (c % many)) (S.set n (f7 cs (a+1) (c / many) cV)):=by
 unfold f7 at bO ⊢;have hn:n<S.length:=(List.getElem?_eq_some_iff.mp bO).1;have afF:0<c:=by omega
 have NP:a7 (.lst (cs.map .int)) (.int a) S=.ok (.int c) S:=by rw[Nm,WD ha (by grind)];simp[hc]
 have WG:∀m fS:dH,(S.set n m).set n fS=S.set n fS:=λm fS=>by simp
 have jh:∀m:dH,(S.set n m)[n]?=some m:=λm=>mz hn;have NQ:G1 (.int 10) (.int 18)=λS=>.ok (.int 1000000000000000000) S:=by funext S;rfl
 simp[hM,aL,bE,lE,aI,aq,eName,af,wY bO,atI,ixN,bG,bJ,ak,ae,ah,j2,oO hm,wX hm q7,aP,lN,wG,bO,a8,HI,hl,NP,wY (jh _),jh,NQ,nF,afF]
theorem HK{i:Int}(h:i.natAbs<2 ^ 60):i.natAbs.log2<60:=by
 by_cases h0:i.natAbs=0
 .rw[h0];decide
 .exact(Nat.log2_lt h0).mpr h
theorem s6{i j:Int}(S:Store)(h:i.natAbs<2 ^ 60)(h2:j.natAbs<2 ^ 60):ho (.int i) (.int j) S=.ok (.int (i * j)) S:=by
 have:=HK h;have:=HK h2;exact ae4 (by omega) S
def k0(cV c:Int):Int:=(cV * 48817+c % 2147483399 * 9241+17) % 2147483563
def uT(cV:Int):Int:=(cV * cV+cV * 31013+1402361) % 2147483563
def HL(cV:Int):Int:=cV / 71+cV % 7907 * 59
theorem HM(cV:Int):0<=uT cV/\uT cV<2147483563:=⟨Int.emod_nonneg _ (by decide),KJ _ (by decide)⟩
theorem afG(cV c:Int):0<=k0 cV c/\k0 cV c<2147483563:=⟨Int.emod_nonneg _ (by decide),KJ _ (by decide)⟩
theorem afH(cs:List Int)(a cV:Int)(S:Store)(n:Nat)(many:Int)(bO:S[n]?=some (f7 cs a 0 cV))(ha:0<=a)(hl:¬a<cs.length)(h0:0<=cV)(h1:cV<2147483563)(hm:0<many)(q7:many.natAbs.log2<9000) :
  (hM [some (.ptr n),some (.int many),none,none,none] S).out=.ok (.int (HL (uT cV) % many)) (S.set n (f7 cs a 0 (uT cV))):=by
 unfold f7 at bO ⊢;have hn:n<S.length:=(List.getElem?_eq_some_iff.mp bO).1;have WG:∀m fS:dH,(S.set n m).set n fS=S.set n fS:=λm fS=>by simp
 have jh:∀m:dH,(S.set n m)[n]?=some m:=λm=>mz hn;have bN:∀S,ho (.int cV) (.int cV) S=.ok (.int (cV * cV)) S:=λS=>s6 S (by omega) (by omega);have b3:∀S,ho (.int cV) (.int 31013) S=.ok (.int (cV * 31013)) S:=λS=>s6 S (by omega) (by decide);have z:∀x:Int,(x % 7907).natAbs<2 ^ 60:=λx=>by omega
 have e1:∀S x,ho (.int (x % 7907)) (.int 59) S=.ok (.int (x % 7907 * 59)) S:=λS x=>s6 S (z x) (by decide);have m1:∀S x,jB (.int x) (.int 2147483563) S=.ok (.int (x % 2147483563)) S:=λS x=>oO (by decide) S;have m2:∀S x,jB (.int x) (.int 7907) S=.ok (.int (x % 7907)) S:=λS x=>oO (by decide) S;have ny:∀S x,j0 (.int x) (.int 71) S=.ok (.int (x / 71)) S:=λS x=>wX (by decide) (by decide) S;simp[hM,aL,bE,lE,aI,aq,eName,af,wY bO,atI,ixN,bG,bJ,ak,ae,ah,j2,oO hm,aP,lN,wG,bO,a8,HI,hl,wY (jh _),jh,bN,b3,e1,m1,m2,ny,HL,uT]
theorem afI(cs:List Int)(a cV c:Int)(S:Store)(n:Nat)(many:Int)(bO:S[n]?=some (f7 cs a 0 cV))(ha:0<=a)(hl:a<cs.length)(hc:cs[a.toNat]?=some c)(nF:¬1000000000000000000<=c)(h0:0<=cV)(h1:cV<2147483563)(hm:0<many)(q7:many.natAbs.log2<9000) :
  (hM [some (.ptr n),some (.int many),none,none,none] S).out=.ok (.int (HL (uT (k0 cV c)) % many)) (S.set n (f7 cs (a+1) 0 (uT (k0 cV c)))):=by
 unfold f7 at bO ⊢;have hn:n<S.length:=(List.getElem?_eq_some_iff.mp bO).1;have NP:a7 (.lst (cs.map .int)) (.int a) S=.ok (.int c) S:=by rw[Nm,WD ha (by grind)];simp[hc]
 have WG:∀m fS:dH,(S.set n m).set n fS=S.set n fS:=λm fS=>by simp
 have jh:∀m:dH,(S.set n m)[n]?=some m:=λm=>mz hn;have NQ:G1 (.int 10) (.int 18)=λS=>.ok (.int 1000000000000000000) S:=by funext S;rfl
 have e:=afG cV c;have z:∀x:Int,(x % 7907).natAbs<2 ^ 60:=λx=>by omega
 have ig:∀x:Int,(x % 2147483399).natAbs<2 ^ 60:=λx=>by omega
 have zt:(k0 cV c).natAbs<2 ^ 60:=by omega
 have nN:∀S,ho (.int cV) (.int 48817) S=.ok (.int (cV * 48817)) S:=λS=>s6 S (by omega) (by decide);have w2:∀S x,ho (.int (x % 2147483399)) (.int 9241) S=.ok (.int (x % 2147483399 * 9241)) S:=λS x=>s6 S (ig x) (by decide);have bN:∀S,ho (.int (k0 cV c)) (.int (k0 cV c)) S=.ok (.int (k0 cV c * k0 cV c)) S:=λS=>s6 S zt zt;have b3:∀S,ho (.int (k0 cV c)) (.int 31013) S=.ok (.int (k0 cV c * 31013)) S:=λS=>s6 S zt (by decide);have e1:∀S x,ho (.int (x % 7907)) (.int 59) S=.ok (.int (x % 7907 * 59)) S:=λS x=>s6 S (z x) (by decide);have m1:∀S x,jB (.int x) (.int 2147483563) S=.ok (.int (x % 2147483563)) S:=λS x=>oO (by decide) S;have m2:∀S x,jB (.int x) (.int 7907) S=.ok (.int (x % 7907)) S:=λS x=>oO (by decide) S;have zu:∀S x,jB (.int x) (.int 2147483399) S=.ok (.int (x % 2147483399)) S:=λS x=>oO (by decide) S;have ny:∀S x,j0 (.int x) (.int 71) S=.ok (.int (x / 71)) S:=λS x=>wX (by decide) (by decide) S;have fA:(cV * 48817+c % 2147483399 * 9241+17) % 2147483563=k0 cV c:=rfl;have fB:(k0 cV c * k0 cV c+k0 cV c * 31013+1402361) % 2147483563=uT (k0 cV c):=rfl;simp[hM,aL,bE,lE,aI,aq,eName,af,wY bO,atI,ixN,bG,bJ,ak,ae,ah,j2,oO hm,aP,lN,wG,bO,a8,HI,hl,NP,wY (jh _),jh,NQ,nF,nN,bN,b3,e1,w2,m1,m2,zu,ny,fA,fB,HL]
theorem afJ{S:Store}{n:Nat}{m:dH}(h:jy S.length m=true):oH S (S.set n m):=λi fS hi e=>by
 grind
theorem WH(k:Nat):∀cs:List Int,bH k (cs.map .int)=true
 |[]=>rfl
 |c::cs=>by rw[cF,bH,bf,WH k cs];rfl
theorem NR(k:Nat)(cs:List Int)(a g s:Int):jy k (f7 cs a g s)=true:=by
 simp[f7,jy,bH,bf,WH]
theorem afK{S:Store}{n:Nat}{m:dH}{d:D}(h:jy S.length m=true)(hd:∀g,dq g d=some d):fin S (.ok d (S.set n m))=.ok d (S.set n m):=by
 simp only[fin,if_pos (afJ h),hd];rw[show(S.set n m).take S.length=S.set n m from List.take_of_length_le (by simp)]
structure afL(S:Store)(n:Nat)(cs:List Int)(a g s:Int):Prop where
 at_:S[n]?=some (f7 cs a g s)
 uU:0<=a
 mQ:0<=g
 s0:0<=s
 s1:s<2147483563
def j8(S:Store)(n:Nat)(cs:List Int):Prop:=∃a g s,afL S n cs a g s
def Drawn(n:Nat)(cs:List Int)(S ao:Store):Prop:=j8 ao n cs/\∃a g s,ao=S.set n (f7 cs a g s)
section
variable{S ao CP T:Store}{n:Nat}{cs:List Int}
theorem j8.lt(h:j8 S n cs):n<S.length:=by
 obtain⟨a,g,s,h⟩:=h;exact(List.getElem?_eq_some_iff.mp h.at_).1
theorem j8.app(h:j8 S n cs):j8 (S++T) n cs:=by
 obtain⟨a,g,s,h⟩:=h;exact⟨a,g,s,by rw[List.getElem?_append_left (List.getElem?_eq_some_iff.mp h.at_).1];exact h.at_,h.uU,h.mQ,h.s0,h.s1⟩
theorem j8.afM(h:j8 (S++T) n cs)(hn:n<S.length):j8 S n cs:=by
 obtain⟨a,g,s,h⟩:=h;exact⟨a,g,s,by have:=h.at_;grind,h.uU,h.mQ,h.s0,h.s1⟩
theorem Drawn.refl(h:j8 S n cs):Drawn n cs S S:=by
 refine⟨h,?_⟩;obtain⟨a,g,s,h⟩:=h;refine⟨a,g,s,?_⟩;have:=h.at_;rw[List.getElem?_eq_some_iff]at this;obtain⟨hn,e⟩:=this;rw[<-e,A8]
theorem Drawn.trans(h:Drawn n cs S ao)(h':Drawn n cs ao CP):Drawn n cs S CP:=by
 obtain⟨_,a,g,s,e⟩:=h;obtain⟨b,jE,g',s',cN⟩:=h';exact⟨b,jE,g',s',by simp_all⟩
theorem Drawn.len(h:Drawn n cs S ao):ao.length=S.length:=by
 obtain⟨_,a,g,s,e⟩:=h;rw[e];simp
theorem Drawn.keep(h:Drawn n cs S ao):fz S ao:=by
 obtain⟨_,a,g,s,e⟩:=h;rw[e];exact fz.set (NR _ _ _ _ _)
theorem Drawn.split(dx:j8 S n cs)(h:Drawn n cs (S++T) CP):∃ao,CP=ao++T/\Drawn n cs S ao:=by
 obtain⟨b,a,g,s,e⟩:=h;refine⟨S.set n (f7 cs a g s),by rw[e,KL _ _ dx.lt],?_,a,g,s,rfl⟩;rw[e,KL _ _ dx.lt]at b;exact b.afM (by simpa using dx.lt)
end
def lW(n:Nat)(cs:List Int)(h:Store->Out D)(R:D->Prop):Prop:=∀S,j8 S n cs->We (h S) (λd ao=>Drawn n cs S ao/\R d) (λ_ _=>False)
section
variable{n:Nat}{cs:List Int}{h:Store->Out D}{R:D->Prop}{S T:Store}{P:D->Store->Prop}{X:D->Store->Prop}
theorem lW.hW(H:lW n cs h R)(dx:j8 S n cs)(k:∀d ao,R d->Drawn n cs S ao->P d ao):We (h S) P X:=(H S dx).mono (λd ao ⟨h1,h2⟩=>k d ao h2 h1) λ_ _ q=>q.elim
theorem lW.app(H:lW n cs h R)(dx:j8 S n cs)(k:∀d ao,R d->Drawn n cs S ao->P d (ao++T)):We (h (S++T)) P X:=(H (S++T) dx.app).mono (λd CP ⟨h1,h2⟩=>by
 obtain⟨ao,e,aH⟩:=Drawn.split dx h1;grind) λ_ _ q=>q.elim
theorem lW.imp{qZ:D->Prop}(H:lW n cs h R)(k:∀d,R d->qZ d):lW n cs h qZ:=λS dx=>(H S dx).post λd ao ⟨h1,h2⟩=>⟨h1,k d h2⟩
theorem uV{S S1:Store}{d:D}(h:Drawn n cs S S1)(hd:bf S.length d=true)(p:P d S1):e3 S P d S1:=pZ h.keep hd p
end
theorem afN{n:Nat}{cs:List Int}{many:Int}(hm:0<many)(HP:many.natAbs.log2<9000):lW n cs (iy [.ptr n,.int many]) (λd=>∃k:Nat,(k:Int)<many/\d=.int k):=λS dx=>by
 have WK:=dx;obtain⟨a,g,s,hb⟩:=dx;have hn:n<S.length:=(List.getElem?_eq_some_iff.mp hb.at_).1;have key:∀(x jE g' s':Int),(hM [some (.ptr n),some (.int many),none,none,none] S).out=.ok (.int (x % many)) (S.set n (f7 cs jE g' s'))->0<=jE->0<=g'->0<=s'->s'<2147483563 ->
   We (iy [.ptr n,.int many] S) (λd ao=>Drawn n cs S ao/\∃k:Nat,(k:Int)<many/\d=.int k) (λ_ _=>False):=λx jE g' s' e h1 h2 aH bT=>by
  have hx:=Int.emod_nonneg x (show many≠0 by omega);refine ae7 (a:=.int (x % many)) (S:=S.set n (f7 cs jE g' s')) ?_ ⟨⟨⟨jE,g',s',mz hn,h1,h2,aH,bT⟩,jE,g',s',rfl⟩,(x % many).toNat,by rw[Int.toNat_of_nonneg hx];exact KJ _ hm,by grind⟩;show fin S (hM [some (.ptr n),some (.int many),none,none,none] S).out=_;rw[e];exact afK (NR _ _ _ _ _) λg=>by simp[dq]
 by_cases hg:0<g
 .exact key g a (g / many) s (afD cs a g s S n many hb.at_ hg hm HP) hb.uU (Int.ediv_nonneg hb.mQ (by omega)) hb.s0 hb.s1
 .have afO:g=0:=by have:=hb.mQ;omega
  have zv:=hb.at_;rw[afO]at zv;by_cases hl:a<cs.length
  .have ha:=hb.uU
   obtain⟨c,hc⟩:∃c,cs[a.toNat]?=some c:=⟨cs[a.toNat]'(by omega),by simp⟩
   by_cases HQ:1000000000000000000<=c
   .exact key c (a+1) (c / many) s (afE cs a s c S n many zv ha hl hc HQ hm HP) (by omega) (Int.ediv_nonneg (by omega) (by omega)) hb.s0 hb.s1
   .exact key _ (a+1) 0 _ (afI cs a s c S n many zv ha hl hc HQ hb.s0 hb.s1 hm HP) (by omega) (by omega) (HM _).1 (HM _).2
  .exact key _ a 0 _ (afH cs a s S n many zv hb.uU hl hb.s0 hb.s1 hm HP) hb.uU (by omega) (HM _).1 (HM _).2
theorem oQ{n:Nat}{cs:List Int}{many:Int}(hm:0<many)(q7:many<1000000):lW n cs (iy [.ptr n,.int many]) (λd=>∃k:Nat,(k:Int)<many/\d=.int k) :=
 afN hm (by
  have:=HK (i:=many) (by omega);omega)
theorem dF{N n:Nat}{body:SX}{ds:List D}{S:Store}{P X:D->Store->Prop}(hl:ds.length=n)(h:a0 (body (ds.map some++List.replicate (N - ds.length) none) S) (sY S P X)):We (bZ n (bI N body) ds S) P X:=by
 rw[zm hl,zp];exact h
theorem afP{N n:Nat}{body:SX}{ds:List D}{S:Store}{P X:D->Store->Prop}(hl:ds.length=n)(h:a0 (body (ds.map some++List.replicate (N - ds.length) none) S) ⟨λ_ ao=>P .non ao,λ_ _=>False,λ_ _=>False,P,λe _ ao=>X e ao⟩):We (bZ n (Cy N body) ds S) P X:=by
 rw[zm hl,afi];exact h
theorem afQ{P X:D->Store->Prop}(ns:List Int)(T:Store)(p:P (.ptr T.length) (T++[f7 (ns.take 63) 0 0 5625])):We (CO [.ck ns] T) P X:=by
 unfold CO;refine afP rfl ?_;simp[zr,<-List.map_take];exact p
theorem afR(ns:List Int)(T:Store):j8 (T++[f7 (ns.take 63) 0 0 5625]) T.length (ns.take 63):=⟨0,0,5625,by simp,by decide,by decide,by decide,by decide⟩
theorem zx{n:Nat}{cs:List Int}{xs:List D}(hx:xs≠[])(hl:xs.length<1000000)(aR:bH 0 xs=true):lW n cs (j7 [.ptr n,.lst xs]) (λd=>d∈xs):=λS dx=>by
 have h0:0<xs.length:=List.length_pos_iff.mpr hx;unfold j7;refine dF rfl ?_;simp[nM];refine(oQ (by omega) (by omega)).hW dx λd ao ⟨k,hk,e⟩ bL=>?_;subst e;have HR:k<xs.length:=by omega
 simp[HR];exact uV bL (sZ (lV.mp aR _ (v7 _))) ⟨bL,v7 _⟩
theorem afS{n:Nat}{cs:List Int}{l:List Nat}(hx:l≠[])(hl:l.length<1000000):lW n cs (j7 [.ptr n,.str (aj l)]) (λd=>∃c∈l,d=iV c):=λS dx=>by
 have h0:0<l.length:=List.length_pos_iff.mpr hx;unfold j7;refine dF rfl ?_;simp[nM];refine⟨by omega,?_⟩;refine(oQ (by omega) (by omega)).hW dx λd ao ⟨k,hk,e⟩ bL=>?_;subst e;have HR:k<l.length:=by omega
 simp[HR];exact⟨by omega,uV bL (by simp) ⟨bL,_,v7 _,rfl⟩⟩
theorem afT{n:Nat}{cs:List Int}{S S0:Store}{sl:aT}{it:gI}{G:Store->Prop}{g:d4}{fe:aM}{own:List Nat}{P X:D->Store->Prop}{xs:List D}(dx:j8 S0 n cs)(hit:it sl S=.ok (xs,G) S0)(hl:xs.length<=1000000)(cP:∀ao T,Drawn n cs S0 ao->G (ao++T))(E:D->D->Prop)
  (step:∀x∈xs,∀ao acc,Drawn n cs S0 ao->a0 (g x (df sl own) (ao++[.lst acc])) ⟨λa' S1=>We (fe a' S1) (λd a4=>∃bR,a4=bR++[.lst acc]/\Drawn n cs ao bR/\E x d) (λ_ _=>False),λ_ _=>False,λ_ _=>False,λ_ _=>False,λ_ _ _=>False⟩)
  (hU:∀ys ao,ys.length=xs.length->(∀y∈ys,∃x∈xs,E x y)->Drawn n cs S0 ao->P (.ptr ao.length) (ao++[.lst ys])):We (cw it g cv fe own sl S) P X:=by
 refine NF hit hl (λpre acc S1=>Drawn n cs S0 S1/\acc.length=pre.length/\∀y∈acc,∃x∈xs,E x y) (λp acc S1 h=>⟨h.1.len,by omega⟩) ⟨Drawn.refl dx,rfl,by simp⟩ (λp x post acc S1 he h=>⟨cP _ _ h.1,?_⟩) λacc S1 h=>⟨cP _ _ h.1,hU acc S1 h.2.1 h.2.2 h.1⟩
 have hx:x∈xs:=by rw[he];simp
 refine(step x hx S1 acc h.1).mono (λa' S2 h2=>?_) (λ_ _ h=>h) (λ_ _ h=>h) (λ_ _ h=>h) (λ_ _ _ h=>h);simp only[cv,aS,if_true];refine h2.post λd a4 ⟨bR,e,bL,hd⟩=>⟨bR,e,h.1.trans bL,by simp[h.2.1],λy bD=>?_⟩
 grind
theorem WL{n:Nat}{cs:List Int}{S S0:Store}{sl:aT}{it:gI}{G:Store->Prop}{g:d4}{fe:aM}{own:List Nat}{P X:D->Store->Prop}{xs:List D}(CQ:Drawn n cs S S0)(hit:it sl S=.ok (xs,G) S0)(hl:xs.length<=1000000)(cP:∀ao T,Drawn n cs S0 ao->G (ao++T))(E:D->D->Prop)
  (step:∀x∈xs,∀ao acc,Drawn n cs S0 ao->a0 (g x (df sl own) (ao++[.lst acc])) ⟨λa' S1=>We (fe a' S1) (λd a4=>∃bR,a4=bR++[.lst acc]/\Drawn n cs ao bR/\E x d) (λ_ _=>False),λ_ _=>False,λ_ _=>False,λ_ _=>False,λ_ _ _=>False⟩)
  (aR:∀x d,E x d->bf 0 d=true) (hU:∀ys ao,ys.length=xs.length->(∀y∈ys,∃x∈xs,E x y)->Drawn n cs S0 ao->P (.lst ys) ao):We (cw it g cv fe own sl S) (e3 S P) X:=by
 refine afT CQ.1 hit hl cP E step λys ao h1 h2 aH=>HA (CQ.trans aH).keep (Wi ?_) (hU ys ao h1 h2 aH);rw[lV];grind
def abc:List Nat:=List.range' 97 26
@[simp] theorem WM:(("abcdefghijklmnopqrstuvwxyz":Str))=aj abc:=by rfl
@[simp] theorem afU:(("":Str))=aj []:=by rfl
theorem CT{c:Nat}:c∈abc↔97<=c/\c<=122:=by
 unfold abc;grind
structure afV(l:List Nat):Prop where
 asc:l.Pairwise (· < ·)
 low:∀c∈l,c∈abc
theorem HS{S:Store}{n:Nat}{xs:List D}(h:S[n]?=some (.lst xs)):iT S (.ptr n)=true:=by simp[iT,d8,h]
theorem q8{S:Store}{n:Nat}{a b:dH}(h:S.length=n):(S++[a]).set n b=S++[b]:=by
 simp_all
theorem CU{S:Store}{n:Nat}{a:dH}(h:S.length=n):(S++[a])[n]?=some a:=by
 grind
mutual
def plain:Nat->D->Prop
 |_,.non=>True
 |_,.bl _=>True
 |_,.int _=>True
 |_,.str s=>ku s.cps.toList
 |k+1,.tup xs=>jL k xs/\xs.length<=1000000
 |k+1,.b8 xs=>jL k xs/\xs.length<=1000000
 |k+1,.lst xs=>jL k xs/\xs.length<=1000000
 |_,_=>False
def jL:Nat->List D->Prop
 |_,[]=>True
 |k,d::ds=>plain k d/\jL k ds
end
theorem s7{k:Nat}:∀{xs:List D},jL k xs↔∀x∈xs,plain k x
 |[]=>by simp[jL]
 |x::xs=>by simp[jL,s7 (xs:=xs)]
@[simp] theorem afW{k:Nat}:plain k .non:=by cases k<;>simp[plain]
@[simp] theorem afX{k:Nat}{b:Bool}:plain k (.bl b):=by cases k<;>simp[plain]
@[simp] theorem afY{k:Nat}{b:Int}:plain k (.int b):=by cases k<;>simp[plain]
@[simp] theorem afZ{k:Nat}{l:List Nat}:plain k (.str (aj l))=ku l:=by rfl
theorem bp{α:Type}{o:Out α}{a:α}{S:Store}(h:We o (λr ao=>r=a/\ao=S) (λ_ _=>False)):o=.ok a S:=by
 obtain⟨r,ao,e,h1,h2⟩:=h.get;grind
theorem CV(k:Nat)(d:D)(S:Store)(h:plain 0 d):q5 (k+1) [d,d] S=.ok (.bl true) S:=by
 refine bp ?_;unfold q5;refine dF rfl ?_;cases d with
 |non=>simp[kZ]
 |bl b=>simp[kZ]
 |int i=>simp[kZ]
 |str s =>
  rw[<-zl s]at h ⊢;rw[afZ]at h;simp[kZ,w1 h h]
 |_=>simp[plain]at h
theorem af0:∀(k:Nat) (d:D) (S:Store),plain k d->q5 (k+1) [d,d] S=.ok (.bl true) S:=λk=>by
 induction k with
 |zero =>
  intro d S h;exact CV 0 d S h
 |succ k ih =>
  intro d S h;have seq:∀xs:List D,jL k xs->xs.length<=1000000->∀d,d=.tup xs\/d=.lst xs\/d=.b8 xs->q5 (k+1+1) [d,d] S=.ok (.bl true) S:=λxs hx hl d hd=>by
   refine bp ?_;rw[q5];refine dF rfl ?_;have hz:(wQ xs xs)=xs.map λx=>.tup [x,x]:=by
    unfold wQ;rw[List.zipWith_self]
   have key:∀{P X CI:D->Store->Prop} {sl:aT} {d:D},P (.bl true) S->eName 0 sl S=.ok d S->eName 1 sl S=.ok d S->eK S d=some xs->(∀T,eK (S++T) d=some xs)->sl.length=4 ->
     We (cw (Cu (ae (eName 0) (ae (eName 1) ah))) (hj (c1 (aP 2) (c1 (aP 3) gH))) cv (ak (q5 (k+1)) (ae (eName 2) (ae (eName 3) ah))) [2,3] sl S) (e3 S λd' S1=>We (mM [d'] S1) P X) CI:=λ{P X CI sl d} bU h1 h2 aH bT cZ=>by
    have hit:=afp h1 h2 aH aH;rw[hz]at hit;refine afn (xs:=xs.map λx=>.tup [x,x]) (λ_=>true) (λ_=>.bl true) hit (by grind) (λacc=>⟨bT _,bT _⟩) (λx NS T=>?_) (λx hx _=>?_) ?_
    .obtain⟨y,bD,rfl⟩:=iI.mp NS
     match sl,cZ with
     |[a,b,c,e],_ =>
      simp[df,cv];rw[ih y _ (s7.mp hx y bD)];simp
    .simp
    .rw[Wy,aS]
     exact bU
   rcases hd with rfl|rfl|rfl
   .simp[kZ]
    refine key (d:=.tup xs) ?_ ?_ ?_ ?_ ?_ ?_
    .simp
    .rfl
    .rfl
    .rfl
    .intro T;rfl
    .rfl
   .simp[kZ]
    refine key (d:=.lst xs) ?_ ?_ ?_ ?_ ?_ ?_
    .simp
    .rfl
    .rfl
    .rfl
    .intro T;rfl
    .rfl
   .simp[kZ]
    refine key (d:=.b8 xs) ?_ ?_ ?_ ?_ ?_ ?_
    .simp
    .rfl
    .rfl
    .rfl
    .intro T;rfl
    .rfl
  cases d with
  |tup xs=>rw[plain]at h;grind
  |lst xs=>rw[plain]at h;grind
  |b8 xs=>rw[plain]at h;grind
  |non=>exact CV _ _ S afW
  |bl b=>exact CV _ _ S afX
  |int i=>exact CV _ _ S afY
  |str s =>
   refine CV _ _ S ?_;rw[<-zl s]at h ⊢;simp_all
  |_=>simp[plain]at h
end Z
namespace ZX
open PySem PySem.W PySem.Calls PyProof.Rows PySem.Spec
structure s8(prog:Program)(K:Frag)(f D:Addr)(qual:Str)(params:Arguments)(body:List Stmt)(scope:Scope):Prop where
 ex:∃(cL:Value) (od:Option Addr) (name:Str) (kV doc pm:Value) (an:Option Addr) (cy cc:Addr) (ct:Value) (hX:Array (Option Value)),
   K.lookup f=some ⟨cL,od,.func (ksFn name qual params body scope .none kV doc pm an (.ref cy) ct cc),hX⟩/\codeIn K (.ref cy) qual=true /\
   (∃s9 ta td vs file ei,K.lookup cy=some ⟨s9,ta,.fields vs,td⟩/\vs[2]?=some (.str file ei)/\((prog.main.file:Str)==file)=true) /\
   (∃cl tf tj,K.lookup cc=some ⟨cl,tf,.cell (some (.ref D)),tj⟩)
 cls:∃p4,clsIn K D=some p4
 fn:(K.lookup f).map (·.cls)=some (.type "function")
structure uW(prog:Program)(K:Frag)(mg:Str->Option Value)(base:Heap):Prop where
 mod:L2.Mod K mg base
 ms:mg "super"=none
 top:(prog.main.scope.names.lookup ("super":Str)).isSome=false
 WN:nsIn K cStatics "thirdparty.any"=some none
structure tn(scope:Scope)(cD:Str):Prop where
 ks:scope.names.lookup ("super":Str)=some .globalImplicit
 zy:scope.names.lookup ("__class__":Str)=some .free
 af1:scope.names.lookup cD=some .local
 kind:scope.kind=.function
 co:scope.isCoroutine=false
 gen:scope.isGenerator=false
 cell:∀x∈scope.names,x.2≠.cell
section
variable{prog:Program}{w:World}{A:Around}{E:Value->Shared->Prop}{s:Shared}{K:Frag}{mg:Str->Option Value}{base:Heap}{L x C D f cc cy:Addr}{m:Str->Option Value}{zA:Obj}{af2:Option Obj}
theorem WO{body:List Stmt}{q:Str}{scope:Scope}{p0 p1:Pos}{whole:Sem Value}{fd:FuncData}{ar:Arg}{vs:Array Value}{file:Str}{ei:Tok}{cL s9 cl:Value}{od ta tf:Option Addr}{hX td tj:Array (Option Value)}{p4:ClassData}{Q:Value->Shared->Prop}
  (M:uW prog K mg base) (S:tn scope ar.arg) (bk:∀b o,base.get? b=some o->s.heap.get? b=some o) (hn:s.heap.Ns L m)
  (hf:K.lookup f=some ⟨cL,od,.func fd,hX⟩) (hp:(fd.params.posonlyargs++fd.params.args).head?=some ar) (bP:m ar.arg=some (.ref x)) (I:InstAt s.heap x zA C af2)
  (mR:K.lookup cy=some ⟨s9,ta,.fields vs,td⟩) (CW:vs[2]?=some (.str file ei)) (tp:((prog.main.file:Str)==file)=true)
  (w3:K.lookup cc=some ⟨cl,tf,.cell (some (.ref D)),tj⟩) (bL:clsIn K D=some p4) (qV:mroIn K C (.ref D)=some true)
  (h:∀h',h'.get? s.heap.objs.size=some (ks_superObj D x C)->(∀b o,s.heap.get? b=some o->h'.get? b=some o)->Q (.ref s.heap.objs.size) { s with heap:=h' }) :
  _root_.PySem.wpAt (model prog w) A (.func body (ksEnv q scope L f (.ref cy) cc)) (attributeBase (.Call (.Name "super" p0) [] [] p1) "__init__" (ksEnv q scope L f (.ref cy) cc) whole) Q E s:=by
 have X:K.In s.heap:=M.mod.kin.keeps bk;obtain⟨hh,g,d,t,os⟩:=s;obtain⟨zB,hu,j9⟩:∃zB,hh.get? D=some zB/\zB.data=.cls p4:=by
  unfold clsIn at bL;split at bL
  .rename_i c d avX sl aY
   cases bL;exact⟨_,X _ _ aY,rfl⟩
  .cases bL
 obtain⟨avY,kv,tq⟩:=M.mod.blt;refine ks_wpAt_super_base (env:=ksEnv q scope L f (.ref cy) cc) S.ks S.zy (by decide) rfl (X _ _ hf) rfl hp rfl (X _ _ mR) rfl CW tp M.top ?_;refine ks_loadName_global S.kind S.ks (loadGlobal_builtin (env:=ksEnv q scope L f (.ref cy) cc) (M.mod.glob.keeps bk) M.ms (kv.keeps bk) ((tq _ (by decide +kernel)).trans PyProof.Rows.Boot.«super») ⟨rfl,?_⟩);refine wpAny_loadName_free S.kind S.zy rfl ⟨_,X _ _ w3,rfl⟩ ?_;refine wpAny_loadName_local S.kind S.af1 hn bP ?_;refine ks_wpAny_isType_cls hu j9 ⟨rfl,?_⟩;refine ks_wpAny_call_super hu j9 I.at_ I.cls (λc e=>?_) (looks_mroIn X qV) (λh' e k=>?_)
 .have:=I.no
  unfold notCls at this;grind
 grind
end
section
variable{prog:Program}{w:World}{A:Around}{E:Value->Shared->Prop}{s:Shared}{K:Frag}{mg:Str->Option Value}{base:Heap}{L x C D f:Addr}{m:Str->Option Value}{B i newId:String}{hN:List Value}
structure q9(K:Frag)(C:Addr)(hN:List Value)(newId:String):Prop where
 af3:excInitIn K C hN newId=true
 gu:excOver K C hN=true
 cls:(clsIn K C).isSome=true
 sa:findIn K (.ref C) "__setattr__"=some (some (.builtin "object.__setattr__"))
abbrev exd(C t:Addr)(dd:Option Addr):Obj:=excObj C t dd .none
theorem HU{h:Heap}{t:Addr}{dd:Option Addr}{od:Obj}(hx:h.get? x=some (exd C t dd))(hd:∀d,dd=some d->h.get? d=some od):InstAt h x (exd C t dd) C (match dd with|none=>none|some _=>some od):=by
 refine⟨hx,rfl,rfl,?_⟩;cases dd with
 |none=>trivial
 |some d=>exact hd d rfl
theorem af4{body:List Stmt}{q:Str}{scope:Scope}{p0 p1 p2 d3 ez:Pos}{fd:FuncData}{ar:Arg}{cc cy:Addr}{vs:Array Value}{file:Str}{ei:Tok}{cL s9 cl:Value}{od ta tf:Option Addr}{hX td tj:Array (Option Value)}{p4:ClassData}{Q:Flow->Shared->Prop}{e:Expr}{Rv:Value->Prop}{t:Addr}{pl:Sem Bool}
  (KF:KxsFacts B i) (FB:ExcBaseFacts B newId i hN) (M:uW prog K mg base) (S:tn scope ar.arg) (T:q9 K C hN newId) (bk:∀b o,base.get? b=some o->s.heap.get? b=some o) (hn:s.heap.Ns L m)
  (hf:K.lookup f=some ⟨cL,od,.func fd,hX⟩) (hp:(fd.params.posonlyargs++fd.params.args).head?=some ar) (bP:m ar.arg=some (.ref x)) (hx:s.heap.get? x=some (exd C t none))
  (mR:K.lookup cy=some ⟨s9,ta,.fields vs,td⟩) (CW:vs[2]?=some (.str file ei)) (tp:((prog.main.file:Str)==file)=true)
  (w3:K.lookup cc=some ⟨cl,tf,.cell (some (.ref D)),tj⟩) (bL:clsIn K D=some p4) (qV:mroIn K C (.ref D)=some true)
  (hm:ks_superIn K C D "__init__"=some (some (.builtin i))) (dx:subIn K (.ref C) (.type B)=some true)
  (he:∀(s1:Shared) (Q1:Value->Shared->Prop),s1.heap.Ns L m->(∀v tk,Rv v->Q1 v { s1 with toks:=tk })->wpAny (model prog w) A (eval e (ksEnv q scope L f (.ref cy) cc)) Q1 E s1)
  (h:∀h' t' tk,(∀b o,b≠x->s.heap.get? b=some o->h'.get? b=some o)->h'.get? x=some (exd C t' none)->Q .next { s with heap:=h',toks:=tk })
  (hs:swapsWith (.Call (.Attribute (.Call (.Name "super" p0) [] [] p1) "__init__" p2) [e] [] d3) none ez.line (ksEnv q scope L f (.ref cy) cc)=pure false)
  (mN:eval (.Call (.Attribute (.Call (.Name "super" p0) [] [] p1) "__init__" p2) [e] [] d3) (ksEnv q scope L f (.ref cy) cc)=(do
   let gu <-attributeBase (.Call (.Name "super" p0) [] [] p1) "__init__" (ksEnv q scope L f (.ref cy) cc) (eval (.Call (.Name "super" p0) [] [] p1) (ksEnv q scope L f (.ref cy) cc))
   standAt p2.atName
   let (g,first) <-holding [gu] (getMethod gu "__init__" pl)
   callWith d3 g first (backTo d3 (starEach [e] (ksEnv q scope L f (.ref cy) cc))) []))
  (eG:starEach [e] (ksEnv q scope L f (.ref cy) cc)=[(false,eval e (ksEnv q scope L f (.ref cy) cc))]) :
  _root_.PySem.wpAt (model prog w) A (.func body (ksEnv q scope L f (.ref cy) cc)) (exec (.Expr (.Call (.Attribute (.Call (.Name "super" p0) [] [] p1) "__init__" p2) [e] [] d3) ez) (ksEnv q scope L f (.ref cy) cc)) Q E s:=by
 have X:K.In s.heap:=M.mod.kin.keeps bk;obtain⟨NT,w4⟩:=Option.isSome_iff_exists.mp T.cls;refine ks_wpAt_Expr_any ?_ (by unfold interactive;rw[show(ksEnv q scope L f (.ref cy) cc).scope.kind=.function from S.kind];rfl) hs;refine ks_wpAt_MethodCall ?_ mN;refine WO M S bk hn hf hp bP (HU (od:=default) hx (λd z=>by cases z)) mR CW tp w3 bL qV (λh1 NU dS=>?_);have wN:=dS _ _ hx;have p5:K.In h1:=X.keeps dS;have I1:InstAt h1 x (exd C t none) C none:=HU (od:=default) wN (λd z=>by cases z);unfold ks_superIn at hm;rw[w4]at hm;obtain⟨hh,g,d,tk,os⟩:=s;refine kxs_getMethod KF NU (looks_opaque p5 M.WN) (l₀:=NT.mro) (λA Q E s k q=>wpAny_bind ((looks_clsIn p5 w4) A _ E s k (wpAny_pure q))) rfl p5 hm (I1.type.andThen (looks_subIn p5 dx)) (ks_ne p5 I1 w4) (by decide) ?_;have cX:∀b o,hh.get? b=some o->(h1.push (kxs_mw i x)).get? b=some o:=λb o e=>Heap.get?_push_of_some _ (dS b o e);have hw:(h1.push (kxs_mw i x)).get? h1.objs.size=some (kxs_mw i x):=Heap.get?_push_at rfl rfl;have uR:(h1.push (kxs_mw i x)).Ns L m:=by
  obtain⟨p6,es,eP,dZ,r⟩:=hn;exact⟨p6,es,eP,cX _ _ dZ,r⟩
 refine kxs_callWith (i:=i) (x:=x) (by rw[eG];rfl) ?_;rw[eG];refine evalArgs_plain (spliced_cons (he _ _ uR λv q_ aW=>?_));refine spliced_nil ⟨hw,?_⟩;have pO:=cX _ _ hx;obtain⟨nm,WQ,hO,bs,bm,WR,sn,sub,ab,col,dd,pJ,avZ,av0,ji,HV,gW,d9⟩:=excInit_of (X.keeps cX) T.af3;refine wpAny_call (codeAny_of_tree ?_);show wpAny _ A.in1 (callAny (.ref _) ⟨[v],[]⟩) _ _ _;simp only[callAny];refine wpAny_bind (wpAny_load hw ?_);simp only[kxs_mw,show(Value.type "method-wrapper"==Value.type "method"||Value.type "method-wrapper"==Value.type "builtin_function_or_method"||Value.type "method-wrapper"==Value.type "method-wrapper")=true by decide,if_true];refine KFB.if_so (by decide) ?_;refine wpAny_bind (check_bound_init FB.toExcCallFacts gW pO rfl ?_);refine wpAny_bind (wpAny_pure (wpAny_pure ?_));refine⟨plainId_quiet FB.init.plain _,codeAny_builtin FB.initEntry ?_⟩;refine exc_init_tree (cls:=.ref C) (t0:=t) (dv:=none) (c2:=.none) (c3:=.none) (b4:=.bool false) pO (by show 1<=sizeLine;rw[sizeLine_eq];omega) λh' k cN t'=>?_;exact h h' _ _ (λb o hb e=>k b o hb (cX b o e)) cN
theorem af5{body:List Stmt}{q:Str}{scope:Scope}{p0 p1 p2 d3 ez:Pos}{fd:FuncData}{ar:Arg}{cc cy:Addr}{vs:Array Value}{file:Str}{ei:Tok}{cL s9 cl:Value}{od ta tf:Option Addr}{hX td tj:Array (Option Value)}{p4:ClassData}{Q:Flow->Shared->Prop}{e:Expr}{Rv:Value->Prop}{t:Addr}{pl:Sem Bool}
  (M:uW prog K mg base) (S:tn scope ar.arg) (T:q9 K C hN newId) (bk:∀b o,base.get? b=some o->s.heap.get? b=some o) (hn:s.heap.Ns L m)
  (hf:K.lookup f=some ⟨cL,od,.func fd,hX⟩) (hp:(fd.params.posonlyargs++fd.params.args).head?=some ar) (bP:m ar.arg=some (.ref x)) (hx:s.heap.get? x=some (exd C t none)) {f2:Addr} (HW:(K.lookup f2).map (·.cls)=some (.type "function")) (NV:fnIn K f2=true)
  (mR:K.lookup cy=some ⟨s9,ta,.fields vs,td⟩) (CW:vs[2]?=some (.str file ei)) (tp:((prog.main.file:Str)==file)=true)
  (w3:K.lookup cc=some ⟨cl,tf,.cell (some (.ref D)),tj⟩) (bL:clsIn K D=some p4) (qV:mroIn K C (.ref D)=some true)
  (hm:ks_superIn K C D "__init__"=some (some (.ref f2)))
  (he:∀(s1:Shared) (Q1:Value->Shared->Prop),s1.heap.Ns L m->(∀v tk,Rv v->Q1 v { s1 with toks:=tk })->wpAny (model prog w) A (eval e (ksEnv q scope L f (.ref cy) cc)) Q1 E s1)
  (h:∀h' tk v,Rv v->(∀b o,s.heap.get? b=some o->h'.get? b=some o)->codeAny (model prog w) A (.call (.ref f2) ⟨[.ref x,v],[]⟩) (λr s'=>match r with|.ok (.ret _)=>Q .next s'|.ok _=>False|.error e=>E e s') { s with heap:=h',toks:=tk })
  (hs:swapsWith (.Call (.Attribute (.Call (.Name "super" p0) [] [] p1) "__init__" p2) [e] [] d3) none ez.line (ksEnv q scope L f (.ref cy) cc)=pure false)
  (mN:eval (.Call (.Attribute (.Call (.Name "super" p0) [] [] p1) "__init__" p2) [e] [] d3) (ksEnv q scope L f (.ref cy) cc)=(do
   let gu <-attributeBase (.Call (.Name "super" p0) [] [] p1) "__init__" (ksEnv q scope L f (.ref cy) cc) (eval (.Call (.Name "super" p0) [] [] p1) (ksEnv q scope L f (.ref cy) cc))
   standAt p2.atName
   let (g,first) <-holding [gu] (getMethod gu "__init__" pl)
   callWith d3 g first (backTo d3 (starEach [e] (ksEnv q scope L f (.ref cy) cc))) []))
  (eG:starEach [e] (ksEnv q scope L f (.ref cy) cc)=[(false,eval e (ksEnv q scope L f (.ref cy) cc))]) :
  _root_.PySem.wpAt (model prog w) A (.func body (ksEnv q scope L f (.ref cy) cc)) (exec (.Expr (.Call (.Attribute (.Call (.Name "super" p0) [] [] p1) "__init__" p2) [e] [] d3) ez) (ksEnv q scope L f (.ref cy) cc)) Q E s:=by
 have X:K.In s.heap:=M.mod.kin.keeps bk;obtain⟨NT,w4⟩:=Option.isSome_iff_exists.mp T.cls;refine ks_wpAt_Expr_any ?_ (by unfold interactive;rw[show(ksEnv q scope L f (.ref cy) cc).scope.kind=.function from S.kind];rfl) hs;refine ks_wpAt_MethodCall ?_ mN;refine WO M S bk hn hf hp bP (HU (od:=default) hx (λd z=>by cases z)) mR CW tp w3 bL qV (λh1 NU dS=>?_);have wN:=dS _ _ hx;have p5:K.In h1:=X.keeps dS;have I1:InstAt h1 x (exd C t none) C none:=HU (od:=default) wN (λd z=>by cases z);unfold ks_superIn at hm;rw[w4]at hm;obtain⟨hh,g,d,tk,os⟩:=s;obtain⟨of,af6,af7⟩:∃of,h1.get? f2=some of/\of.cls=.type "function":=by
  cases z:K.lookup f2 with
  |none=>simp_all
  |some of=>rw[z]at HW;exact⟨of,p5 _ _ z,Option.some.inj HW⟩
 refine ks_wpAny_getMethod_super NU (looks_opaque p5 M.WN) (l₀:=NT.mro) (λA Q E s k q=>wpAny_bind ((looks_clsIn p5 w4) A _ E s k (wpAny_pure q))) rfl p5 hm af6 af7 (ks_ne p5 I1 w4) (by decide) ?_;have cX:∀b o,hh.get? b=some o->(h1.push (methodObj (.ref f2) (.ref x))).get? b=some o:=λb o e=>Heap.get?_push_of_some _ (dS b o e);have hw:(h1.push (methodObj (.ref f2) (.ref x))).get? h1.objs.size=some (methodObj (.ref f2) (.ref x)):=Heap.get?_push_at rfl rfl;have uR:(h1.push (methodObj (.ref f2) (.ref x))).Ns L m:=by
  obtain⟨p6,es,eP,dZ,r⟩:=hn;exact⟨p6,es,eP,cX _ _ dZ,r⟩
 rw[eG];refine callWith_of (by rfl) (keeps_M (K:=K) (q:=h1.objs.size) (f:=f2) (self:=.ref x) NV) (evalArgs_plain (spliced_cons (he _ _ uR λv q_ aW=>?_)));refine spliced_nil ⟨⟨hw,X.keeps cX⟩,?_⟩;refine wpAny_call (ks_codeAny_call_bound hw (codeAny_mono (h _ _ v aW cX) λr s' z=>?_));rcases r with x|(v|_|_|_)<;>first|exact z|exact z.elim
variable{t bM:Addr}{name:Str}{v:Value}{m0:Str->Option Value}{nl:List Str}
theorem af8{Q:Unit->Shared->Prop}(p7:StoreFacts B hN "object.__setattr__" "object")(X:K.In s.heap)(T:q9 K C hN newId)(hx:s.heap.get? x=some (exd C t none))(ha:findIn K (.ref C) name=some none)(hh:hasDictIn K C=true)
  (h:∀h' gZ bM,(∀b o,b≠x->s.heap.get? b=some o->h'.get? b=some o)->s.heap.objs.size<=bM->h'.get? x=some (exd C t (some bM))->h'.Ns1 bM (λy=>if y=name then some v else none)->Q () { s with heap:=h',toks:=gZ }) :
  wpAny (model prog w) A (setAttr (.ref x) name v) Q E s:=by
 have ht:takerIn K C name=some none:=by unfold takerIn;rw[ha];rfl
 obtain⟨cd,hc,mG⟩:=any_some hh;have af9:=Heap.lt_size hx;have w5:s.heap.objs.size≠x:=um af9;have WT:x≠s.heap.objs.size:=w5.symm;refine set_plain (od:=none) X ⟨hx,rfl,rfl,trivial⟩ T.sa (osa_openX (od:=none) (s:={ s with toks:=s.toks+1 }) p7 X ⟨hx,rfl,rfl,trivial⟩ T.gu ht λb=>?_);refine wpAny_bind (wpAny_pure (wpAny_bind (instanceDict_exc (s:={ s with toks:=s.toks+1 }) hx (looks_clsIn X hc) mG ?_)));show wpAny _ _ (Builtin.ObjectAttr.storeInDict s.heap.objs.size (.str name s.toks) name v) _ _ _;refine PySem.HandSPX.store_in_new ?_ ?_
 .exact⟨dictOf [] 0,#[],0,(Heap.get?_update_ne _ _ _ _ w5).trans (Heap.get?_push_at rfl rfl),rfl,λe he=>absurd he (by simp),λ_=>rfl⟩
 .intro h' gZ lH hs
  have aga:(s.heap.push (dictOf [] 0)).get? x=some (exd C t none):=Heap.get?_push_of_some _ hx;refine h h' gZ s.heap.objs.size (λb o hb aY=>?_) (Nat.le_refl _) ?_ lH
  .exact(hs.2 b (h_ (Heap.lt_size aY))).trans ((Heap.get?_update_ne _ _ _ _ hb).trans (Heap.get?_push_of_some _ aY))
  .exact(hs.2 x w5.symm).trans (Heap.get?_update_self _ aga rfl)
theorem agb{Q:Unit->Shared->Prop}(p7:StoreFacts B hN "object.__setattr__" "object")(X:K.In s.heap)(T:q9 K C hN newId)(hx:s.heap.get? x=some (exd C t (some bM)))(fV:s.heap.Ns1 bM m0)(hw:Within m0 nl)(hz:nl.length<=1000)(ha:findIn K (.ref C) name=some none)(hh:hasDictIn K C=true)
  (h:∀h' gZ,(∀b o,b≠bM->s.heap.get? b=some o->h'.get? b=some o)->h'.Ns1 bM (λy=>if y=name then some v else m0 y)->Q () { s with heap:=h',toks:=gZ }) :
  wpAny (model prog w) A (setAttr (.ref x) name v) Q E s:=by
 have ht:takerIn K C name=some none:=by unfold takerIn;rw[ha];rfl
 obtain⟨cd,hc,mG⟩:=any_some hh;obtain⟨zB,av1,av2,WU,av3,_⟩:=fV.count hw;refine set_plain (od:=some zB) X ⟨hx,rfl,rfl,WU⟩ T.sa (osa_openX (od:=some zB) (s:={ s with toks:=s.toks+1 }) p7 X ⟨hx,rfl,rfl,WU⟩ T.gu ht λb=>?_);refine wpAny_bind (wpAny_pure (wpAny_bind (wpAny_bind (wpAny_loadPart hx (wpAny_bind (Looks.here (s:={ s with toks:=s.toks+1 }) (looks_clsIn X hc) ?_))))));rw[mG];refine wpAny_pure (a:=some bM) ?_;refine PySem.OEX.store_in_old fV hw hz ?_;intro h' gZ lH hs;exact h h' gZ (λb o hb aY=>(hs.2 b hb).trans aY) lH
end
open L2 (V Vals RelV RelO)
def q'(prog:Program)(w:World)(base:Heap)(k:Nat)(f C:Addr)(G:List V->Option (List (Str×V))):Prop :=
 ∀(A:Around) (s:Shared) (x t:Addr) (us:List Value) (vs:List V) (fs:List (Str×V)) (R:Result->Shared->Prop),A.depth+k<recursionLimit->(∀b o,base.get? b=some o->s.heap.get? b=some o)->base.get? x=none->s.heap.get? x=some (exd C t none)->Vals vs us->G vs=some fs ->
  (∀h' tk t' bM m,(∀b o,b≠x->s.heap.get? b=some o->h'.get? b=some o)->s.heap.objs.size<=bM->h'.get? x=some (exd C t' (some bM))->h'.Ns1 bM m->(∀g,RelO (fs.lookup g) (m g))->R (.ok (.ret .none)) { s with heap:=h',toks:=tk }) ->
  codeAny (model prog w) A (.call (.ref f) ⟨.ref x::us,[]⟩) R s
inductive CY (env:Env) (cD:Str):List Stmt->List (Str×Str)->Prop
 |nil:CY env cD [] []
 |cons {iq oM WV CZ:Pos} {f p:Str} {r:List Stmt} {l:List (Str×Str)} (hs:swapsWith (.Name p WV) (some (.Attribute (.Name cD iq) f oM)) CZ.line env=pure false) (hk:env.kindOf p=some .local) (hd:(p==("__debug__":Str))=false) (t:CY env cD r l) :
   CY env cD (.Assign [.Attribute (.Name cD iq) f oM] (.Name p WV) CZ::r) ((f,p)::l)
section
variable{prog:Program}{w:World}{A:Around}{E:Value->Shared->Prop}{K:Frag}{base:Heap}{L x C f:Addr}{m:Str->Option Value}{B newId:String}{hN:List Value}{cD:Str}
theorem WW{env:Env}{Q:Flow->Shared->Prop}{vof:Str->V}(p7:StoreFacts B hN "object.__setattr__" "object")(KB:K.In base)(T:q9 K C hN newId)(hh:hasDictIn K C=true)(hk:env.scope.kind=.function)(dZ:env.locals=L)(zC:env.kindOf cD=some .local)(zD:(cD==("__debug__":Str))=false)
  (bP:m cD=some (.ref x)):∀{sts:List Stmt} {l:List (Str×Str)} {s:Shared} {t bM:Addr} {fs:List (Str×V)} {m0:Str->Option Value},CY env cD sts l->(∀b o,base.get? b=some o->s.heap.get? b=some o/\b≠bM)->(∀fp∈l,findIn K (.ref C) fp.1=some none/\∃u,m fp.2=some u/\RelV (vof fp.2) u) ->
   s.heap.Ns L m->L≠bM->x≠bM->s.heap.get? x=some (exd C t (some bM))->s.heap.Ns1 bM m0->(∀g,RelO (fs.lookup g) (m0 g))->fs.length+l.length<=900 ->
   (∀h' tk fS,(∀b o,b≠bM->s.heap.get? b=some o->h'.get? b=some o)->h'.get? x=some (exd C t (some bM))->h'.Ns1 bM fS->(∀g,RelO ((l.foldl (λfs fp=>(fp.1,vof fp.2)::fs) fs).lookup g) (fS g))->Q .next { s with heap:=h',toks:=tk }) ->
   wpAny (model prog w) A (execs sts env) Q E s
 |_,_,s,t,bM,fs,m0,.nil,bk,_,hn,_,_,hx,fV,rel,_,h=>by
  refine wpAny_execs_nil ?_;exact h s.heap s.toks m0 (λ_ _ _ e=>e) hx fV rel
 |_,_,s,t,bM,fs,m0,.cons (f:=g) (p:=p) (l:=l) hs zE hd tl,bk,hl,hn,WY,HX,hx,fV,rel,hlen,h=>by
  obtain⟨hf,u,aR,cU⟩:=hl (g,p) (ow ..);refine wpAny_execs_cons (plainObj_wpAny_Assign_Attribute (wpAny_Name (wpAny_loadName_local hk zE (by grind) aR ?_) hd) hs);refine wpAny_Name (wpAny_loadName_local hk zC (by grind) bP ?_) zD;have X:K.In s.heap:=KB.keeps λb o e=>(bk b o e).1;have hw:=L2.within_of rel;refine agb p7 X T hx fV hw (by grind) hf hh λh' gZ k lH=>?_;have agc:∀y,RelO (((g,vof p)::fs).lookup y) (if y=g then some u else m0 y):=L2.relO_put cU rel;refine WW p7 KB T hh hk dZ zC zD bP tl (λb o e=>⟨k b o (bk b o e).2 (bk b o e).1,(bk b o e).2⟩) (λfp hm=>hl fp (iH _ hm)) ?_ WY HX (k x _ HX hx) lH agc (by grind) (λh2 q_ m2 cX aw e2 a6=>h h2 q_ m2 (λb o hb e=>cX b o hb (k b o hb e)) aw e2 a6);obtain⟨p6,es,eP,agd,r⟩:=hn;exact⟨p6,es,eP,k _ _ WY agd,r⟩
end
inductive k1 (env:Env) (vof:Str->V):Expr->V->Prop
 |par {p:Str} {pos:Pos} (hk:env.kindOf p=some .local) (hd:(p==("__debug__":Str))=false):k1 env vof (.Name p pos) (vof p)
 |txt {x:Str} {j:Nat} {pos:Pos}:k1 env vof (.Constant (.str x) j pos) (.str x)
theorem k1.run{prog:Program}{w:World}{A:Around}{E:Value->Shared->Prop}{env:Env}{vof:Str->V}{e:Expr}{y:V}{L:Addr}{m:Str->Option Value}(r:k1 env vof e y)(hk:env.scope.kind=.function)(dZ:env.locals=L)(hm:∀p,env.kindOf p=some .local->∃u,m p=some u/\RelV (vof p) u){s1:Shared}{Q1:Value->Shared->Prop}(hn:s1.heap.Ns L m)
  (h:∀v tk,RelV y v->Q1 v { s1 with toks:=tk }):wpAny (model prog w) A (eval e env) Q1 E s1:=by
 cases r with
 |par zE hd =>
  obtain⟨u,aR,cU⟩:=hm _ zE;exact wpAny_Name (wpAny_loadName_local hk zE (by grind) aR (h u s1.toks cU)) hd
 |txt=>exact wpAny_Constant_str (h _ _ ⟨_,rfl⟩)
section
variable{prog:Program}{w:World}{K:Frag}{mg:Str->Option Value}{base:Heap}{C D f:Addr}{B i newId:String}{hN:List Value}{cD g qual:Str}{params:Arguments}{scope:Scope}{bB aw:Expr}{p0 p1 p2 d3 ez iq oM CZ:Pos}{ps:List Str}{sts:List Stmt}{l:List (Str×Str)}
structure zF(params:Arguments)(scope:Scope)(cD:Str)(ps:List Str):Prop where
 head:(params.posonlyargs++params.args).head?.map (·.arg)=some cD
 loc:∀y∈cD::ps,scope.names.lookup y=some .local
 only:∀y∈scope.names,y.2=.local->y.1∈cD::ps
 nd:(cD::ps).Nodup
 bind:∀(fd:FuncData) (us:List Value),fd.params=params->fd.defaults=.none->us.length=(cD::ps).length->bindArgs fd ⟨us,[]⟩=pure ((cD::ps).zip us)
theorem WZ:∀{ps:List Str} {us:List Value} {vs:List V} {p:Str},ps.Nodup->Vals vs us->us.length=ps.length->p∈ps->∃u v,(ps.zip us).lookup p=some u/\(ps.zip vs).lookup p=some v/\RelV v u:=by
 intro ps
 induction ps with
 |nil=>simp
 |cons n ps ih =>
  intro us vs p nd r hl hm;cases r with
  |nil=>cases hl
  | @cons v u vs us aW r =>
   by_cases e:p=n
   .simp_all
   .have cN:(p==n)=false:=by simpa using e
    obtain⟨uA,mK,h1,h2,aH⟩:=ih (qC.mp nd).2 r (Nat.succ.inj hl) ((fQ.mp hm).resolve_left e);exact⟨uA,mK,by simpa[List.lookup,cN]using h1,by simpa[List.lookup,cN]using h2,aH⟩
theorem HY:∀{ps:List Str} {us:List Value},ps.Nodup->∀p,((ps.zip us).reverse).lookup p=(ps.zip us).lookup p:=by
 intro ps
 induction ps with
 |nil=>simp
 |cons n ps ih =>
  intro us nd p;cases us with
  |nil=>simp
  |cons u us =>
   have Gv:=qC.mp nd;rw[yu,KN,List.lookup_append,ih Gv.2];by_cases e:p=n
   .subst e
    have:(ps.zip us).lookup p=none:=by
     cases q:(ps.zip us).lookup p with
     |none=>rfl
     |some v=>exact absurd (uo (ju q)).1 Gv.1
    grind
   grind
def eT(ps:List Str)(vs:List V)(p:Str):V:=((ps.zip vs).lookup p).getD .non
structure W0(env:Env)(e:Expr)(p0 p1 p2 d3 ez:Pos):Prop where
 hs:swapsWith (.Call (.Attribute (.Call (.Name "super" p0) [] [] p1) "__init__" p2) [e] [] d3) none ez.line env=pure false
 eG:starEach [e] env=[(false,eval e env)]
 mN:∃pl:Sem Bool,eval (.Call (.Attribute (.Call (.Name "super" p0) [] [] p1) "__init__" p2) [e] [] d3) env=(do
   let gu <-attributeBase (.Call (.Name "super" p0) [] [] p1) "__init__" env (eval (.Call (.Name "super" p0) [] [] p1) env)
   standAt p2.atName
   let (g,first) <-holding [gu] (getMethod gu "__init__" pl)
   callWith d3 g first (backTo d3 (starEach [e] env)) [])
theorem W2{ps:List Str}{us:List Value}{vs:List V}(nd:ps.Nodup)(r:Vals vs us)(hl:us.length=ps.length){p:Str}(hm:p∈ps):∃u,((ps.zip us).reverse).lookup p=some u/\RelV (eT ps vs p) u:=by
 obtain⟨u,v,h1,h2,aH⟩:=WZ nd r hl hm;exact⟨u,by rw[HY nd];exact h1,by unfold eT;grind⟩
theorem NW(KF:KxsFacts B i)(FB:ExcBaseFacts B newId i hN)(p7:StoreFacts B hN "object.__setattr__" "object")(M:uW prog K mg base)
  (C0:s8 prog K f D qual params [.Expr (.Call (.Attribute (.Call (.Name "super" p0) [] [] p1) "__init__" p2) [bB] [] d3) ez,.Assign [.Attribute (.Name cD iq) g oM] aw CZ] scope)
  (S:tn scope cD) (T:q9 K C hN newId) (hh:hasDictIn K C=true) (P:zF params scope cD ps) (qV:mroIn K C (.ref D)=some true) (hm:ks_superIn K C D "__init__"=some (some (.builtin i))) (dx:subIn K (.ref C) (.type B)=some true) (hg:findIn K (.ref C) g=some none)
  (zD:(cD==("__debug__":Str))=false) (d9:∀env:Env,W0 env bB p0 p1 p2 d3 ez) (hs:∀env:Env,swapsWith aw (some (.Attribute (.Name cD iq) g oM)) CZ.line env=pure false)
  {r0 r1:(Str->V)->V} (h0:∀(env:Env) (vof:Str->V),env.scope=scope->k1 env vof bB (r0 vof)) (h1:∀(env:Env) (vof:Str->V),env.scope=scope->k1 env vof aw (r1 vof)) (oR:∀v1 v2:Str->V,(∀p∈ps,v1 p=v2 p)->r1 v1=r1 v2) :
  q' prog w base 1 f C (λvs=>if vs.length=ps.length then some [(g,r1 (eT ps vs))]else none):=by
 intro A s x t us vs fs R C1 bk W3 hx aW cP h;dsimp only at cP;split at cP
 .rename_i hl
  cases cP;have C2:us.length=ps.length:=by rw[<-aW.length];exact hl
  obtain⟨cL,od,name,kV,doc,pm,an,cy,cc,ct,hX,lk,g9,⟨s9,ta,td,age,file,ei,HZ,NX,tp⟩,⟨cl,tf,tj,NY⟩⟩:=C0.ex;obtain⟨p4,bL⟩:=C0.cls;have X:K.In s.heap:=M.mod.kin.keeps bk;have lim:s.heap.NoLimit:=M.mod.nolimit.keeps bk;obtain⟨ar,NZ,agf⟩:=fx.mp P.head;refine ks_codeAny_call_defAt (binds:=(cD::ps).zip (.ref x::us)) (by omega) (X _ _ lk) rfl lim (codeRec_of X g9) rfl (BindsTo.of_eq (P.bind _ _ rfl rfl (by simp[C2]))) S.cell (λy bD=>P.loc y.1 (uo bD).1) (λh₀ fV kp=>?_) S.co S.gen S.kind;have w5:x≠s.heap.objs.size:=h_ (Heap.lt_size hx);have hz:∀{p:Str},p∈cD::ps->∃u,(((cD::ps).zip (.ref x::us)).reverse).lookup p=some u/\RelV (eT (cD::ps) (.ref x::vs) p) u:=λ{p} hp=>W2 P.nd (.cons (show RelV (.ref x) (.ref x)from rfl) aW) (by simp[C2]) hp;have N0:(((cD::ps).zip (Value.ref x::us)).reverse).lookup cD=some (.ref x):=by rw[HY P.nd];simp[List.lookup]
  have N1:∀p∈ps,eT (cD::ps) (.ref x::vs) p=eT ps vs p:=λp hp=>by
   have:(p==cD)=false:=by
    have:=(qC.mp P.nd).1;simp only[beq_eq_false_iff_ne,ne_eq];intro e;exact this (e▸hp)
   unfold eT;simp[List.lookup,this]
  have oS:=kp _ _ hx;refine ks_wpAt_execs_cons ?_;show _root_.PySem.wpAt (model prog w) _ (.func _ (ksEnv qual scope s.heap.objs.size f (.ref cy) cc)) (exec _ (ksEnv qual scope s.heap.objs.size f (.ref cy) cc)) _ _ _;obtain⟨pl,mN⟩:=(d9 (ksEnv qual scope s.heap.objs.size f (.ref cy) cc)).mN;have H0:∀p,(ksEnv qual scope s.heap.objs.size f (.ref cy) cc).kindOf p=some .local->∃u,(((cD::ps).zip (Value.ref x::us)).reverse).lookup p=some u/\RelV (eT (cD::ps) (.ref x::vs) p) u:=λp hp=>hz (P.only (p,.local) (ju hp) rfl);refine af4 (fd:=ksFn name qual params _ scope .none kV doc pm an (.ref cy) ct cc) (ar:=ar) (t:=t) KF FB M (by grind) T (λb o e=>kp b o (bk b o e)) fV lk NZ (by grind) oS HZ NX tp NY bL qV hm dx (Rv:=λv=>RelV (r0 (eT (cD::ps) (.ref x::vs))) v)
   (λs1 Q1 wZ hq=>(h0 (ksEnv qual scope s.heap.objs.size f (.ref cy) cc) _ rfl).run S.kind rfl H0 wZ hq) (λh' t' tk k NS=>?_) (d9 _).hs mN (d9 _).eG
  have N2:s.heap.objs.size≠x:=w5.symm;have C3:h'.Ns s.heap.objs.size (λy=>((cD::ps).zip (Value.ref x::us)).reverse.lookup y):=by
   obtain⟨p6,es,eP,dZ,r⟩:=fV;exact⟨p6,es,eP,k _ _ N2 dZ,r⟩
  refine ks_wpAt_execs_cons (wpAt_of_wpAny (plainObj_wpAny_Assign_Attribute ((h1 (ksEnv qual scope s.heap.objs.size f (.ref cy) cc) _ rfl).run S.kind rfl H0 C3 λv q_ W4=>?_) (hs _)));refine wpAny_Name (wpAny_loadName_local S.kind (P.loc cD (ow ..)) C3 N0 ?_) zD;have agg:∀b o,base.get? b=some o->h'.get? b=some o:=λb o e=>k b o (λz=>by
   grind) (kp b o (bk b o e))
  refine af8 p7 (M.mod.kin.keeps agg) T NS hg hh λh2 N3 bM cX C4 pO uR=>?_;refine wpAt_of_wpAny (wpAny_execs_nil ?_);refine h h2 N3 t' bM _ (λb o hb e=>cX b o hb (k b o hb (kp b o e))) ?_ pO uR ?_
  .obtain⟨p6,es,eP,dZ,r⟩:=C3
   exact Nat.le_trans (jv (Heap.lt_size dZ)) C4
  .have aw:r1 (eT (cD::ps) (.ref x::vs))=r1 (eT ps vs):=oR _ _ N1
   rw[aw]at W4;exact L2.relO_put (fs:=[]) W4 λg=>True.intro
 .cases cP
theorem N4{f2:Addr}{N5:List V->Option (List (Str×V))}{k:Nat}(w6:q' prog w base k f2 C N5)(p7:StoreFacts B hN "object.__setattr__" "object")(M:uW prog K mg base)
  (C0:s8 prog K f D qual params (.Expr (.Call (.Attribute (.Call (.Name "super" p0) [] [] p1) "__init__" p2) [bB] [] d3) ez::sts) scope)
  (S:tn scope cD) (T:q9 K C hN newId) (hh:hasDictIn K C=true) (P:zF params scope cD ps) (qV:mroIn K C (.ref D)=some true) (hm:ks_superIn K C D "__init__"=some (some (.ref f2))) (HW:(K.lookup f2).map (·.cls)=some (.type "function")) (NV:fnIn K f2=true)
  (zD:(cD==("__debug__":Str))=false) (d9:∀env:Env,W0 env bB p0 p1 p2 d3 ez)
  {r0:(Str->V)->V} (h0:∀(env:Env) (vof:Str->V),env.scope=scope->k1 env vof bB (r0 vof)) (agh:∀v1 v2:Str->V,(∀p∈ps,v1 p=v2 p)->r0 v1=r0 v2)
  (ha:∀env:Env,env.scope=scope->CY env cD sts l) (hl:∀fp∈l,findIn K (.ref C) fp.1=some none/\fp.2∈ps) (hlen:l.length<=100) (av4:∀vs fs,N5 vs=some fs->fs.length<=800) :
  q' prog w base (k+1) f C (λvs=>if vs.length=ps.length then(N5 [r0 (eT ps vs)]).map (λfs=>l.foldl (λfs fp=>(fp.1,eT ps vs fp.2)::fs) fs)else none):=by
 intro A s x t us vs fs R C1 bk W3 hx aW cP h;dsimp only at cP;split at cP
 .rename_i p8
  obtain⟨W5,agi,C5⟩:=fx.mp cP;have C2:us.length=ps.length:=by rw[<-aW.length];exact p8
  obtain⟨cL,od,name,kV,doc,pm,an,cy,cc,ct,hX,lk,g9,⟨s9,ta,td,age,file,ei,HZ,NX,tp⟩,⟨cl,tf,tj,NY⟩⟩:=C0.ex;obtain⟨p4,bL⟩:=C0.cls;have X:K.In s.heap:=M.mod.kin.keeps bk;have lim:s.heap.NoLimit:=M.mod.nolimit.keeps bk;obtain⟨ar,NZ,agf⟩:=fx.mp P.head;refine ks_codeAny_call_defAt (binds:=(cD::ps).zip (.ref x::us)) (by omega) (X _ _ lk) rfl lim (codeRec_of X g9) rfl (BindsTo.of_eq (P.bind _ _ rfl rfl (by simp[C2]))) S.cell (λy bD=>P.loc y.1 (uo bD).1) (λh₀ fV kp=>?_) S.co S.gen S.kind;have w5:x≠s.heap.objs.size:=h_ (Heap.lt_size hx);have hz:∀{p:Str},p∈cD::ps->∃u,(((cD::ps).zip (.ref x::us)).reverse).lookup p=some u/\RelV (eT (cD::ps) (.ref x::vs) p) u:=λ{p} hp=>W2 P.nd (.cons (show RelV (.ref x) (.ref x)from rfl) aW) (by simp[C2]) hp;have N0:(((cD::ps).zip (Value.ref x::us)).reverse).lookup cD=some (.ref x):=by rw[HY P.nd];simp[List.lookup]
  have N1:∀p∈ps,eT (cD::ps) (.ref x::vs) p=eT ps vs p:=λp hp=>by
   have:(p==cD)=false:=by
    have:=(qC.mp P.nd).1;simp only[beq_eq_false_iff_ne,ne_eq];intro e;exact this (e▸hp)
   unfold eT;simp[List.lookup,this]
  have oS:=kp _ _ hx;refine ks_wpAt_execs_cons ?_;show _root_.PySem.wpAt (model prog w) _ (.func _ (ksEnv qual scope s.heap.objs.size f (.ref cy) cc)) (exec _ (ksEnv qual scope s.heap.objs.size f (.ref cy) cc)) _ _ _;obtain⟨pl,mN⟩:=(d9 (ksEnv qual scope s.heap.objs.size f (.ref cy) cc)).mN;have H0:∀p,(ksEnv qual scope s.heap.objs.size f (.ref cy) cc).kindOf p=some .local->∃u,(((cD::ps).zip (Value.ref x::us)).reverse).lookup p=some u/\RelV (eT (cD::ps) (.ref x::vs) p) u:=λp hp=>hz (P.only (p,.local) (ju hp) rfl);refine af5 (fd:=ksFn name qual params _ scope .none kV doc pm an (.ref cy) ct cc) (ar:=ar) (t:=t) M (by grind) T (λb o e=>kp b o (bk b o e)) fV lk NZ (by grind) oS HW NV HZ NX tp NY bL qV hm (Rv:=λv=>RelV (r0 (eT (cD::ps) (.ref x::vs))) v)
   (λs1 Q1 wZ hq=>(h0 (ksEnv qual scope s.heap.objs.size f (.ref cy) cc) _ rfl).run S.kind rfl H0 wZ hq) (λh' tk v W6 rg=>?_) (d9 _).hs mN (d9 _).eG
  have agj:r0 (eT (cD::ps) (.ref x::vs))=r0 (eT ps vs):=agh _ _ N1;rw[agj]at W6;have dd:(A.deeper (ksEnv qual scope s.heap.objs.size f (.ref cy) cc)).depth+k<recursionLimit:=by
   show A.depth+1+k<_;omega
  refine w6 _ _ x t [v] [r0 (eT ps vs)] W5 _ dd (λb o e=>rg b o (kp b o (bk b o e))) W3 (rg _ _ oS) (.cons W6 .nil) agi λh2 q_ t' bM m cX C4 pO uR rel=>?_;have sz:s.heap.objs.size<h'.objs.size:=by
   obtain⟨p6,es,eP,dZ,r⟩:=fV;exact Heap.lt_size (rg _ _ dZ)
  have C6:s.heap.objs.size<bM:=mA sz C4;have N2:s.heap.objs.size≠x:=w5.symm;have C3:h2.Ns s.heap.objs.size (λy=>((cD::ps).zip (Value.ref x::us)).reverse.lookup y):=by
   obtain⟨p6,es,eP,dZ,r⟩:=fV;exact⟨p6,es,eP,cX _ _ N2 (rg _ _ dZ),r⟩
  have agk:∀{b:Addr} {o:Obj},base.get? b=some o->b≠x:=λ{b o} e z=>by
   grind
  have HX:x≠bM:=h_ (qE (Heap.lt_size hx) C6);refine wpAt_of_wpAny (WW (env:=ksEnv qual scope s.heap.objs.size f (.ref cy) cc) (vof:=eT (cD::ps) (.ref x::vs)) (s:={ s with heap:=h2,toks:=q_ }) p7 M.mod.kin T hh S.kind rfl (P.loc cD (ow ..)) zD N0 (ha _ rfl) (λb o e=>⟨cX b o (agk e) (rg b o (kp b o (bk b o e))),h_ (qE (Heap.lt_size (bk b o e)) C6)⟩)
   (λfp hm=>⟨(hl fp hm).1,hz (iH _ (hl fp hm).2)⟩) C3 (h_ C6) HX pO uR rel (by grind) λaH N3 zu ji agl agm W7=>?_)
  have agn:∀(nO:List (Str×Str)) (fs:List (Str×V)),(∀fp∈nO,fp.2∈ps)->nO.foldl (λfs fp=>(fp.1,eT (cD::ps) (.ref x::vs) fp.2)::fs) fs=nO.foldl (λfs fp=>(fp.1,eT ps vs fp.2)::fs) fs:=by
   intro nO
   induction nO with
   |nil=>simp
   |cons fp nO ih =>
    grind
  rw[agn l W5 (λfp hm=>(hl fp hm).2),C5]at W7;exact h aH N3 t' bM zu (λb o hb e=>ji b o (h_ (qE (Heap.lt_size e) C6)) (cX b o hb (rg b o (kp b o e)))) (jv C6) agl agm W7
 .cases cP
end
end ZX
namespace Z
open PySem PySem.Spec L2
def kx(tag:Str)(b5:List Str)(vs:List V):List (Str×V):=(b5.zip vs).reverse++[(("tag":Str),V.str tag)]
structure k2(P:Program)(w:World)(K:PySem.W.Frag)(mg:Str->Option Value)(base:Heap)(c:Str)(C:Addr)(k:Nat)(tag:Str)(b5:List Str):Prop where
 hm:mg c=some (.ref C)
 keep:PySem.W.keepIn K (.ref C)=true
 ex:L2.Mod K mg base->∃(B newId N6:String) (hN:List Value) (C7:Addr),PySem.ExcBaseFacts B newId N6 hN/\PySem.W.excInitIn K C hN newId=true/\PySem.W.findIn K (.ref C) "__init__"=some (some (.ref C7))/\PySem.W.typeIn K (.ref C7)=some (.type "function") /\
  ZX.q' P w base k C7 C (λvs=>if vs.length=b5.length then some (kx tag b5 vs)else none)
 exC:PySem.W.subIn K (.ref C) (.type "BaseException")=some true
 tyC:PySem.W.typeIn K (.ref C)=some (.type "type")
theorem H2{K:PySem.W.Frag}{mg:Str->Option Value}{ρ:List Addr}{H:Hp}:∀{ds:List D} {vs:List V},ay K mg ρ H ds vs->ay K mg ρ H ds.reverse vs.reverse
 |[],_,h=>by rw[ay]at h;subst h;rfl
 |d::ds,_,h=>by
  rw[ay]at h;obtain⟨v,r,e,h1,h2⟩:=h;subst e;rw[KN,KN];exact(H2 h2).append (ay.cons h1 ay.nil)
theorem W8:∀{a:List Str} {b:List V},b.length=a.length->(a.zip b).map (·.1)=a
 |[],[],_=>rfl
 |x::a,y::b,h=>by simp[W8 (a:=a) (b:=b) (by simpa using h)]
theorem W9:∀{a:List Str} {b:List V},b.length=a.length->(a.zip b).map (·.2)=b
 |[],[],_=>rfl
 |x::a,y::b,h=>by simp[W9 (a:=a) (b:=b) (by simpa using h)]
theorem ago{K:PySem.W.Frag}{mg:Str->Option Value}{ρ:List Addr}{H:Hp}{tag:Str}{b5:List Str}{ds:List D}{vs:List V}(r:ay K mg ρ H ds vs)(hl:ds.length=b5.length):vs.length=b5.length/\(kx tag b5 vs).map (·.1)=b5.reverse++[("tag":Str)]/\ay K mg ρ H (ds.reverse++[D.str tag]) ((kx tag b5 vs).map (·.2)):=by
 have bP:vs.length=b5.length:=by rw[<-r.len];exact hl
 refine⟨bP,?_,?_⟩
 .unfold kx
  rw[List.map_append,List.map_reverse,W8 bP];rfl
 .unfold kx
  rw[List.map_append,List.map_reverse,W9 bP];exact(H2 r).append (ay.cons (by rw[Rep]) ay.nil)
section
variable{X:Cx}{pins:List (Addr×Obj)}{σ:L2.St}{H:Hp}{s:Shared}
theorem agp{c:Str}{C:Addr}{k:Nat}{tag:Str}{b5:List Str}{us:List Value}{vs:List V}{Q:Value->Shared->Prop}(M:k2 X.prog X.w X.K X.mg X.base c C k tag b5)(hr:Room (k+1) X.A)(I:Inv X pins σ H s)(r:Vals vs us)(hl:vs.length=b5.length)(hz:b5.length<=100)
  (h:∀a d h' gZ t' m,(∀b o,s.heap.get? b=some o->h'.get? b=some o)->s.heap.objs.size<=a->s.heap.objs.size<=d->a≠d->h'.get? a=some (ZX.exd C t' (some d))->h'.Ns1 d m->(∀g,RelO ((kx tag b5 vs).lookup g) (m g))->Q (.ref a) { s with heap:=h',toks:=gZ }) :
  wpAny (model X.prog X.w) X.A (call (.ref C) us) Q X.xe s:=by
 obtain⟨B,newId,N6,hN,C7,FB,q,N7,N8,F⟩:=M.ex I.ok.mod;obtain⟨nm,WQ,hO,bs,bm,WR,sn,sub,ab,col,dd,pJ,dS,cX,ji,HV,gW,d9⟩:=PySem.W.excInit_of I.kIn q;obtain⟨hp,g,C9,tk,os⟩:=s;have C_:us.length=b5.length:=by rw[<-r.length];exact hl
 have kk:∀b o,hp.get? b=some o->((hp.push (PySem.W.kdv_tup us)).push (PySem.HandSPX.excO C hp.objs.size)).get? b=some o:=λb o e=>Heap.get?_push_of_some _ (Heap.get?_push_of_some _ e);have jh:((hp.push (PySem.W.kdv_tup us)).push (PySem.HandSPX.excO C hp.objs.size)).get? (hp.objs.size+1)=some (PySem.HandSPX.excO C hp.objs.size):=by heap_get
 have eR:hp.objs.size+1+1=((hp.push (PySem.W.kdv_tup us)).push (PySem.HandSPX.excO C hp.objs.size)).objs.size:=by rw[Heap.size_push,Heap.size_push]
 have N9:X.base.get? (hp.objs.size+1)=none:=by
  cases e:X.base.get? (hp.objs.size+1)with
  |none=>rfl
  |some o=>exact absurd (Heap.lt_size (I.bk _ _ e)) (Nat.not_lt.mpr (Nat.le_succ _))
 have dep:=(hr.make C us []).dp;refine wpAny_call (PySem.HandSPX.call_own FB d9 gW (PySem.W.looks_findIn I.kIn N7) (λself=>PySem.W.bind_fn I.kIn self N8) (by rw[C_,sizeLine_eq];omega) ?_);refine F _ _ (hp.objs.size+1) hp.objs.size us vs _ _ (by omega) (λb o e=>kk b o (I.bk b o e)) N9 jh r (if_pos hl) λh' gZ t' bM m rg C4 hx hn rel=>?_;refine⟨rfl,?_⟩;have N_:∀b o,hp.get? b=some o->h'.get? b=some o:=λb o e=>rg b o (h_ (qE (Heap.lt_size e) (uk _))) (kk b o e);grind
theorem agq{c:Str}{C:Addr}{k:Nat}{tag:Str}{b5:List Str}{us:List Value}{vs:List V}{Q:XK}(M:k2 X.prog X.w X.K X.mg X.base c C k tag b5)(hr:Room (k+1) X.A)(I:Inv X pins σ H s)(r:Vals vs us)(hl:vs.length=b5.length)(hz:b5.length<=100)
  (h:∀d,H d=none->Q (.ref C) (some d) (upd H d (.xd (kx tag b5 vs)))) :
  wpAny (model X.prog X.w) X.A (call (.ref C) us) (L2N.MkP X pins σ Q) X.xe s:=by
 refine agp M hr I r hl hz λa d h' gZ t' m N_ ha hd ne hx hn rel=>?_;have C':H a=none:=I.hok.fresh ha;have zG:H d=none:=I.hok.fresh hd;obtain⟨G,g1,g2⟩:=restrict h' λb=>decide (b≠a);have Dc:∀b,b≠a->G.get? b=h'.get? b:=λb hb=>g1 b (decide_eq_true hb);have ge:G.get? a=none:=g2 a (by simp);have N':∀b o,s.heap.get? b=some o->G.get? b=some o:=λb o e=>by rw[Dc b (h_ (mA (Heap.lt_size e) ha))];grind
 have cP:∀b o,G.get? b=some o->h'.get? b=some o:=λb o e=>by
  grind
 have J:Inv X pins σ (upd H d (.xd (kx tag b5 vs))) { s with heap:=G,toks:=gZ }:=I.laid (t':=gZ) N' hd ⟨m,hn.at λo y=>(Dc d (g8 ne)).trans y,rel⟩;exact⟨a,_,_,{ s with heap:=G,toks:=gZ },_,.ref C,some d,rfl,J,cP,ge,hx,⟨rfl,rfl,λvs e=>by cases e;rfl⟩,rfl,rfl,by rw[upd_ne ne];exact C',rfl,J.bare,raises_own M.exC M.tyC,h d zG⟩
end
def eo(c tag:Str)(b5:List Str):aB:=λds S=>if ds.length=b5.length then .ok (.exc c (b5.reverse++[("tag":Str)]) (ds.reverse++[D.str tag])) S else .bad
section
variable{X:Cx}{W:WX}{k:Nat}{C:Addr}{x tag:Str}{b5:List Str}{p pos:Pos}{e:Expr}{es:List Expr}{fa:du}
def eL(f:aM):SX:=λsl S=>match f sl S with
 | .ok (.exc c ns ds) ao=>.ex (.ins c ns ds) sl ao
 | .ok _ _=>.bad
 | .ex e ao=>.ex e sl ao
 | .bad=>.bad
theorem W_{K:PySem.W.Frag}{mg:Str->Option Value}{ρ:List Addr}{H:Hp}{S:Store}{sl:aT}{σ:L2.St}{ds:List D}{vs:List V}{eE:Ends}{d:Addr}(hm:mg x=some (.ref C))(w:aN K mg ρ H S)(rs:cH K mg ρ H σ sl)(r:ay K mg ρ H ds vs)(hl:ds.length=b5.length)(hd:H d=none)
  (p:bV K mg W ρ H eE (.ex (.ins x (b5.reverse++[("tag":Str)]) (ds.reverse++[D.str tag])) sl S)):W (.ref C) (some d) σ (upd H d (.xd (kx tag b5 vs))):=by
 have x1:Ext ρ H ρ (upd H d (.xd (kx tag b5 vs))):=Ext.gG hd;obtain⟨_,aw,e2⟩:=ago (tag:=tag) r hl;exact p _ _ σ ρ _ x1 (w.gG hd) (rs.ext x1) ⟨x,_,_,C,d,_,rfl,hm,rfl,rfl,w.nin hd,upd_same,aw,e2.ext x1⟩
theorem nP(tk:Takes X W)(hc:X.calm=true)(M:k2 X.prog X.w X.K X.mg X.base x C k tag b5)(hr:Room (k+1) X.A)(hz:b5.length<=100)(ha:gQ X W (e::es) fa){pr:Pos}(hg:Gl X x:=by rfl)
  (gR:(x==("__debug__":Str))=false:=by decide) (he:starEach (e::es) X.env=(false,eval e X.env)::starEach es X.env:=by rfl) (fK:(backTo pos (starEach es X.env)).any (·.1)=false:=by rfl) :
  ES X W (.Raise (some (.Call (.Name x p) (e::es) [] pos)) none pr) (eL (ak (eo x tag b5) fa)):=by
 refine PS.imp (adk hc tk (t:=λσ H Q=>wd X.K X.mg W fa σ H λvs H1=>vs.length=b5.length/\∀d,H1 d=none->Q (.ref C) (some d) (upd H1 d (.xd (kx tag b5 vs)))) ?_) λeE σ H ⟨ρ,S,sl,w,rs,p⟩=>?_
 .intro pins s σ H Q I h
  refine wpAny_Call_Name_kw (ld_glob I hg M.hm ?_ gR);refine qD (h₀:=X.base) I.ok.mod.kin M.keep (thn (ha.run pos pins s σ H _ I h) λus s1 ⟨vs,H1,I1,r,hl,q⟩=>⟨I1.kIn,?_⟩) he fK;exact agq M hr I1 r hl hz q
 .refine⟨ρ,S,sl,w,rs,?_⟩
  unfold eL ak at p;cases o:fa sl S with
  |ok ds S1 =>
   intro vs aA H1 x1 aF r1;have p:bV X.K X.mg W ρ H eE (match eo x tag b5 ds S1 with|.ok (.exc c ns ds) ao=>.ex (.ins c ns ds) sl ao|.ok _ _=>.bad|.ex e ao=>.ex e sl ao|.bad=>.bad):=by
    rw[o]at p;exact p
   unfold eo at p;by_cases hl:ds.length=b5.length
   .rw[if_pos hl]at p
    exact⟨by rw[<-r1.len];exact hl,λd hd=>W_ M.hm aF (rs.ext x1) r1 hl hd (bV.from x1 p)⟩
   .rw[if_neg hl]at p
    exact p.elim
  |ex e S1 =>
   have p:bV X.K X.mg W ρ H eE (.ex e sl S1):=by rw[o]at p;exact p
   exact λC dd aA H1 x1 aF r1=>p C dd σ aA H1 x1 aF (rs.ext x1) r1
  |bad=>rw[o]at p;exact p.elim
end
end Z
namespace L2
open PySem PySem.Spec PyProof.Rows
section
variable{X:Cx}{pins:List (Addr×Obj)}{σ:St}{H:Hp}{dP s s':Shared}{B:Heap}
theorem Inv.agr{a C d:Addr}{dI:Obj}{vs:Array Value}(I:Inv X pins σ H dP)(nb:∀b o,dP.heap.get? b=some o->b∉frs X.stack->B.get? b=some o)(st:B.StaysIn s'.heap)(up:dP.heap.UpToSlots s'.heap)(os:s'.os=dP.os)(jc:AllBare s'.gens)
  (ha:s'.heap.get? a=some dI) (hz:Zc (.ref C) (some d) dI) (hd:dI.data=.fields vs) (na:H a=none) (H3:B.get? a=none) (nf:a∉frs X.stack):Inv X pins σ (upd H a (Z.r7 a C d)) s':=by
 have av5:dP.heap.get? a=none:=by
  cases e:dP.heap.get? a with
  |none=>rfl
  |some o=>grind
 have ne:∀{b:Addr} {o:Obj},dP.heap.get? b=some o->b≠a:=λ{b o} e z=>by grind
 have Dd:∀{b:Addr} {u:HO},H b=some u->b≠a:=λ{b u} e z=>by grind
 have ags:∀b∈frs X.stack,∀o,dP.heap.get? b=some o->∃sl,s'.heap.get? b=some { o with slots:=sl }:=λb hb o e=>by
  obtain⟨_,e6,cN,hd⟩:=I.stack.mem hb;rw[e]at cN;cases cN;exact up b o e hd
 have hok:HOk X.prog X.w (upd H a (Z.r7 a C d)) s'.heap:=λb o e=>by
  by_cases hb:b=a
  .subst hb
   rw[upd_same]at e;cases e;exact⟨⟨dI,vs,ha,hz,hd⟩,⟨dI,ha⟩,λh1 h2 ⟨dI,ws,e,z⟩ st=>⟨dI,ws,st _ e,z⟩⟩
  .rw[upd_ne hb]at e
   exact(((I.inGround nb).kept st) b o e).stay (λc v _ q=>q) (λc q=>by rw[upd_ne (Dd q)];exact q) λc xs q=>by rw[upd_ne (Dd q)];exact q
 have J:=I.call (ch:=[]) (h':=s'.heap) (g':=s'.gens) (t':=s'.toks) (d':=s'.drawn) (H':=upd H a (Z.r7 a C d))
  ⟨λb o e _ hb _=>st b o (nb b o e hb),λb o e _ hb _=>ags b hb o e,λb o e n _=>by rw[upd_ne (ne e)];exact n,λb o e _=>by
   by_cases hb:b∈frs X.stack
   .grind
   .exact⟨o,st b o (nb b o e hb)⟩,λb xs e=>by rw[upd_ne (Dd e)];exact e,λb o u e=>by rw[upd_ne (Dd e)];exact e,λb ps e=>⟨#[],by rw[upd_ne (Dd e),e];simp⟩⟩
  hok jc (λ_ z=>nomatch z)
 obtain⟨h,g,C9,t,av6⟩:=s';grind
theorem Inv.Oa(I:Inv X pins σ H s)(a:Addr):Inv (X.suite a (X.pn++pins)) [] σ H s :=
 ⟨I.ok.suite _ _,I.os,I.bare,I.base,I.loc,I.cell,I.free,I.freeC,λp hp=>by
  have H4:p∈(X.pn++pins)++[]:=hp;rw[rY]at H4;exact I.pin p H4,I.hok,I.len⟩
theorem Inv.agt{a:Addr}{H5:List (Addr×Obj)}(I:Inv (X.suite a (X.pn++pins)) H5 σ H s)(ok:X.Ok):Inv X pins σ H s :=
 ⟨ok,I.os,I.bare,I.base,I.loc,I.cell,I.free,I.freeC,λp hp=>I.pin p (nj _ hp),I.hok,I.len⟩
end
def De(X:Cx)(test:Expr)(cs:List Value):Prop :=
 ∀(a:Addr) (pn:List (Addr×Obj)) (σ:St) (H:Hp) (s:Shared) (cls:Value) (b:Bool) (Q:Value->Shared->Prop) (E:Value->Shared->Prop),Inv (X.suite a pn) [] σ H s->PySem.W.exmAny X.K cls cs=some b->PySem.W.Looks (model X.prog X.w) s.heap (typeOf (.ref a)) cls ->
  (∀c s',s'.os=s.os->s'.gens=s.gens->(∀b o,s.heap.get? b=some o->s'.heap.get? b=some o)->PySem.W.Looks (model X.prog X.w) s'.heap (excMatches (.ref a) c) b->Q c s')->wpAny (model X.prog X.w) (X.A.mark (some (.ref a))) (eval test X.env) Q E s
section
variable{X:Cx}
theorem Ob{a:Addr}{pn:List (Addr×Obj)}{σ:St}{H:Hp}{s:Shared}{x:Str}{C:Value}{p:Pos}{Q E:Value->Shared->Prop}(I:Inv (X.suite a pn) [] σ H s)(hg:Gl X x)(hm:X.mg x=some C)(h:Q C s)(hd:(x==("__debug__":Str))=false:=by decide) :
  wpAny (model X.prog X.w) (X.A.mark (some (.ref a))) (eval (.Name x p) X.env) Q E s:=ld_glob (X:=X.suite a pn) I hg hm h hd
theorem W'{x1 x2 b0:Str}{Oc Od Oe:Value}{p1 p2 cq p:Pos}{k:_}(g1:Gl X x1)(m1:X.mg x1=some Oc)(g2:Gl X x2)(m2:X.mg x2=some Od)(g3:Gl X b0)(zu:X.mg b0=some Oe)
  (he:∀A:Unit,starEach [.Name x1 p1,.Name x2 p2,.Name b0 cq] X.env=[(false,eval (.Name x1 p1) X.env),(false,eval (.Name x2 p2) X.env),(false,eval (.Name b0 cq) X.env)]:=by intro _;rfl)
  (ny:(x1==("__debug__":Str))=false:=by decide) (zb:(x2==("__debug__":Str))=false:=by decide) (agu:(b0==("__debug__":Str))=false:=by decide):De X (.Tuple [.Name x1 p1,.Name x2 p2,.Name b0 cq] k p) [Oc,Od,Oe]:=by
 intro a pn σ H s cls b Q E I hb LT h;refine wpAny_Tuple_spliced ?_;rw[he ()];refine Calls.spliced_cons (Ob I g1 m1 ?_ ny);refine Calls.spliced_cons (Ob I g2 m2 ?_ zb);refine Calls.spliced_cons (Ob I g3 zu ?_ agu);refine Calls.spliced_nil ⟨by show 3<=sizeLine;rw[sizeLine_eq];omega,?_⟩;have k:∀b o,s.heap.get? b=some o->(s.heap.push { cls:=.type "tuple",data:=.seq [Oc,Od,Oe].toArray }).get? b=some o:=λb o e=>Heap.get?_push_of_some _ e;exact h _ _ rfl rfl k (PySem.W.exm_tup3 (I.kIn.keeps k) (LT.keeps k) (Heap.get?_push_size _ rfl) hb)
end
def Xa(K:PySem.W.Frag)(cs:List Value)(i:Nat)(ts:TS)(nQ:WX)(D:Ends):WX:=λcls d σ H =>
 ∃b C dd,cls=.ref C/\d=some dd/\PySem.W.exmAny K cls cs=some b/\(b=true->∀a,H a=none->ts { nx:=λbA H'=>D.nx (bA.set i none) H',rt:=D.rt,bk:=λbA H'=>D.bk (bA.set i none) H',ct:=λbA H'=>D.ct (bA.set i none) H' } (σ.set i (some (.ref a))) (upd H a (Z.r7 a C dd))) /\
  (b=false->nQ cls d σ H)
theorem Xb{B h h':Heap}{l:List Env}{a:Addr}{Z:Obj->Prop}(k:∀b o,h.get? b=some o->h'.get? b=some o)(f:HandSPX.FlyingZ B l a Z h):HandSPX.FlyingZ B l a Z h':=by
 obtain⟨dS,cX,ji,dI,vs,T,Og,ts,he,hz,hd,h1,agv,agw,d9,agx,aH⟩:=f;exact⟨λb o e=>k b o (dS b o e),cX,ji.of_keeps λb o e _=>⟨o,k b o e,rfl⟩,dI,vs,T,Og,ts,k _ _ he,hz,hd,h1,agv,agw,k _ _ d9,agx,aH⟩
section
variable{X:Cx}{n:Str}{cs:List Value}{i:Nat}{body suite:List Stmt}{nR:Stmt}{test:Expr}{pos pos':Pos}{tb:WX->TS}{ts:TS}{nQ:WX}
theorem agy(hs:X.stack=X.env::X.outer)(hf:X.env.frame=some X.env.locals)(gF:X.N.Nodup)(hi:X.N[i]?=some n)(p8:X.env.kindOf n=some .local)(hc:De X test cs)(tk:Z.Takes X nQ)
  (hb:∀(W:WX) (pn:List (Addr×Obj)) (xe:Value->Shared->Prop),Z.Takes (X.tr pn xe) W->PassesOwn (model X.prog X.w) X.A X.env xe->PSs (X.tr pn xe) body (tb W))
  (w7:∀(a:Addr) (pn:List (Addr×Obj)),PSs (X.suite a pn) (nR::suite) ts) :
  PS X (.Try body [.ExceptHandler (some test) (some n) (nR::suite) pos'] [] [] pos) (λD σ H=>tb (Xa X.K cs i ts nQ D) D σ H):=by
 refine⟨λpins s σ H D I h=>?_⟩;have ok:=I.ok;have gU:X.A.frames=some (X.env::X.outer):=by rw[ok.frames,hs]
 have Oh:Loc X.env.scope n:=.inl p8;refine wpAny_Try_except ?_;refine wpAny_mono ((hb (Xa X.K cs i ts nQ D) (X.pn++pins) (λe s₁=>wpAny (model X.prog X.w) X.A (noteFrame e X.env) (λ_ s₂=>wpAny (model X.prog X.w) X.A (setFlight e none) (λ_ Oi =>
  wpAny (model X.prog X.w) X.A (handleBy e X.env [.ExceptHandler (some test) (some n) (nR::suite) pos']) (SP X pins D) X.xe Oi) X.xe s₂) X.xe s₁) (λu s' xx=>?_) PassesOwn.looking).run [] s σ H D (I.toTry _) h) (λf s1 f9=>?_) (λe s1 he=>he)
 ·
  obtain⟨a,B,dP,agz,bA,H',cls,d,rfl,hP,nb,up,sr,na,os,jc,b,C,dd,rfl,rfl,kv,Oj,lX⟩:=xx;have J:Inv X pins bA H' dP:=hP.ofTry ok;have Ol:Sky B (X.env::X.outer) a (Z.gT B H' (.ref C) (some dd)) X.env.locals s'.heap:=by rw[<-hs];exact sr
  show wpAny (model X.prog X.w) X.A (noteFrame (.ref a) X.env) _ _ _;refine L2N.Sky.land Z.gT.steady gU hf Ol λaH uX w8=>?_;have Om:Inv X pins bA H' { s' with heap:=aH }:=J.landed nb uX.1 (up.trans w8) os jc;obtain⟨agA,agB,H6,Oo,w9⟩:=uX.there;have agC:∀{h:Heap} {o:Obj} {vs:Array Value},h.FunFrames B (X.env::X.outer)->h.get? a=some o->o.data=.fields vs->a∉frs (X.env::X.outer):=λ{h o vs} ff e dd hm=>by
   obtain⟨_,e6,cN,GU⟩:=ff.mem hm;grind
  have H7:=agC uX.2.2.1 H6 w9;have Df:a∉frs X.stack:=by rw[hs];exact H7
  have a4:Inv (X.suite a (X.pn++pins)) [] bA H' { s' with heap:=aH }:=Om.Oa a;refine wpAny_handleBy_cons (codeAny_handlers_test ?_) (by intro q;cases q);have LT:PySem.W.Looks (model X.prog X.w) aH (typeOf (.ref a)) (.ref C):=λA Q E s k q=>wpAny_typeOf_ref (k _ _ H6) (by rw[Oo.1];exact q);refine hc a (X.pn++pins) bA H' { s' with heap:=aH } (.ref C) b _ _ a4 kv LT λc oT Oq Ot ji LM=>?_;have w_:=Xb ji uX;have Dg:aH.UpToSlots oT.heap:=λb o e _=>⟨o.slots,ji b o e⟩
  have Dh:oT.os=dP.os:=Oq.trans os;have Di:AllBare oT.gens:=by rw[Ot];exact jc
  refine LM.here ?_;cases b with
  |true =>
   refine codeAny_handlers_suite_as ?_;refine HandSPX.lands_againZ w_ λbT uY w'=>?_;obtain⟨H8,Xc,Xd,Ou,rh⟩:=uY.there;have Ov:Inv X pins bA (upd H' a (Z.r7 a C dd)) { oT with heap:=bT }:=J.agr nb uY.1 (((up.trans w8).trans Dg).trans w') Dh Di Xd Ou.zc rh na uY.2.1 Df;have bR:=Ov.Oa a;refine store_ok (X:=X.suite a (X.pn++pins)) (v:=.ref a) bR gF hi Oh rfl (λs5 dO=>?_) (.inr p8);refine wpAny_mono ((w7 a (X.pn++pins)).run [] s5 _ _ _ dO (Oj rfl a na)) (λf lY f9=>?_) (λ_ _ z=>False.elim z);have end_:∀{p9:St} {hI:Hp} {Q:Shared->Prop},Inv (X.suite a (X.pn++pins)) [] p9 hI lY->(∀uZ,Inv X pins (p9.set i none) hI uZ->Q uZ) ->
     wpAny (model X.prog X.w) X.A (do bindName X.env n .none;unbindBehindTheSuite X.env n pos') (λ_ uZ=>Q uZ) X.xe lY:=λ{p9 hI Q} dB hq=>gone_ok (dB.agt ok) gF hi p8 hq
   cases f with
   |next =>
    obtain⟨p9,hI,dB,lZ⟩:=f9;exact end_ dB λuZ xb=>⟨_,_,xb,lZ⟩
   |brk =>
    obtain⟨p9,hI,dB,lZ⟩:=f9;exact end_ dB λuZ xb=>⟨_,_,xb,lZ⟩
   |cont =>
    obtain⟨p9,hI,dB,lZ⟩:=f9;exact end_ dB λuZ xb=>⟨_,_,xb,lZ⟩
   |ret u =>
    obtain⟨v6,p9,hI,dB,Ow,lZ⟩:=f9;exact end_ dB λuZ xb=>⟨_,_,_,xb,Ow,lZ⟩
  |false =>
   show wpAny _ X.A (handleBy (.ref a) X.env []) _ _ _;refine wpAny_handleBy_nil ?_;obtain⟨dS,cX,agD,dI,vs,T,Og,agE,he,hz,hd,h1,hr⟩:=id w_;unfold PySem.passOn;refine wpAny_bind (wpAny_field he hd h1 ?_);rw[if_neg (show ¬((Value.ref T==Value.none)=true)from by simp)];have fin:wpAny (model X.prog X.w) X.A (setFlight (.ref a) X.env.frame) (λ_ s4=>wpAny (model X.prog X.w) X.A (throw (.ref a):Sem Flow) (SP X pins D) X.xe s4) X.xe oT:=by
    rw[hf];refine HandSPX.setFlight_upZ w_ λbT agF w'=>wpAny_throw (tk _ _ ?_);exact⟨a,B,dP,pins,bA,H',.ref C,some dd,rfl,J,nb,((up.trans w8).trans Dg).trans w',.inr (.inr (by grind)),na,Dh,Di,lX rfl⟩
   first
    |exact wpAny_bind (wpAny_pure (wpAny_bind fin))
    |exact wpAny_bind fin
 .cases f with
  |next =>
   obtain⟨bA,H',hP,q⟩:=f9;exact wpAny_execs_nil ⟨bA,H',hP.ofTry ok,q⟩
  |brk =>
   obtain⟨bA,H',hP,q⟩:=f9;exact⟨bA,H',hP.ofTry ok,q⟩
  |cont =>
   obtain⟨bA,H',hP,q⟩:=f9;exact⟨bA,H',hP.ofTry ok,q⟩
  |ret u =>
   obtain⟨v,bA,H',hP,r,q⟩:=f9;exact⟨v,bA,H',hP.ofTry ok,r,q⟩
end
end L2
namespace Z
open PySem PySem.Spec L2 PyProof.Rows
def Xe(P:Program)(w:World)(K:PySem.W.Frag)(mg:Str->Option Value)(base:Heap)(k:Nat)(f:Addr)(sp:Sp):Prop :=
 ∀(A:Around) (outer:List Env) (s:Shared) (H:Hp) (us:List Value) (vs:List V) (Q:VK) (E:XK),L2H.RoomH k A->Env0 P w K mg base A outer s H->Vals vs us->sp vs H Q E->codeAny (model P w) A (.call (.ref f) ⟨us,[]⟩) (CR (Z.CX P w) outer P w H s Q E) s
abbrev H9(P:Program)(w:World)(K:PySem.W.Frag)(mg:Str->Option Value)(base:Heap)(k:Nat)(f:Addr)(g:aB):Prop:=Xe P w K mg base k f (wU K mg g)
def Dj(CX:CXT)(P:Program)(w:World)(K:PySem.W.Frag)(mg:Str->Option Value)(base:Heap)(N:List Str)(qual:Str)(scope:Scope)(f:Addr)(cd:Value)(A:Around)(outer:List Env)(s:Shared)(H:Hp)(E:XK):Cx :=
 { cxOf CX P w K mg base N qual scope f cd A outer s H E with calm:=false }
theorem Xf{CX:CXT}{P:Program}{w:World}{K:PySem.W.Frag}{mg:Str->Option Value}{base:Heap}{N ps:List Str}{qual:Str}{scope:Scope}{f:Addr}{cd:Value}{A:Around}{outer:List Env}{s s1:Shared}{H:Hp}{E:XK}{us:List Value}{vs:List V}
  (S:FnScope N ps scope) (bB:Env0 P w K mg base A outer s H) (hl:vs.length=ps.length) (r:Vals vs us)
  (x:InCallC s s.heap.objs.size (bindL (envOfC qual scope s.heap.objs.size f cd).kindOf (ps.zip us) λ_=>none) (cellsFrom (s.heap.objs.size+1) scope.names []) (bindC (envOfC qual scope s.heap.objs.size f cd).kindOf (ps.zip us) λ_=>none) s1) :
  Inv (Dj CX P w K mg base N qual scope f cd A outer s H E) [] (L2.start N vs) H s1:=by
 have fK:ps.length<=N.length:=by have:=congrArg List.length S.pre;rw[List.length_take]at this;omega
 obtain⟨h1,tk,rfl,hk⟩:=x.done;have xc:∀b:Addr,b∉(Dj CX P w K mg base N qual scope f cd A outer s H E).ex:=λb z=>absurd (show b∈([]:List Addr)from z) (by simp);refine⟨⟨bB.mod,S.kind,rfl,rfl,Nat.le_refl _,λy z c h1 h2=>?_,λy bD=>?_,λy c _ h=>?_,(λz=>Bool.noConfusion (show false=true from z)),Around.frames_deeper bB.frames,.inr ⟨rfl,rfl⟩,λb z=>absurd z (xc b),bB.bs,bB.bsz,λb _ _=>xc b,λb z=>absurd z (xc b),bB.funs,bB.frf⟩,
  rfl,bB.bare,Un.kept hk,⟨_,x.toInCall.ns,λi y v h1 h2 aH=>?_⟩,λy c h=>⟨_,x.cell y c h⟩,bB.hok.fresh (Nat.le_refl _),λy c h=>?_,λq hq=>?_,bB.hok.kept hk,?_⟩
 .exact name_of_addr x.apart (ju h1) (ju h2)
 .have bD:scope.names.lookup y=some .cell\/scope.names.lookup y=some .free:=bD
  rcases bD with bD|bD
  .exact cell_has bD
  .exact absurd rfl (S.nofree _ (ju bD))
 .exact jv (x.above y c (ju h))
 .have hi:i<vs.length:=by
   unfold L2.start at h2;by_cases hi:i<vs.length
   .exact hi
   .grind
  have ha:vs[i]?=some v:=by
   unfold L2.start at h2;rw[List.getElem?_append_left (by grind),List.getElem?_map]at h2;cases e:vs[i]? with
   |none=>grind
   |some a=>grind
  obtain⟨u,aR,aW⟩:=r.get ha;have hp:ps[i]?=some y:=by
   rw[<-S.pre,List.getElem?_take_of_lt (by omega)];exact h1
  have Xg:ps.Nodup:=by rw[<-S.pre];exact S.nd.sublist (List.take_sublist _ _)
  refine⟨u,aW,?_⟩;rcases S.par y (jV hp)with k|k
  .exact .inl ⟨k,bindL_get Xg hp aR k⟩
  .obtain⟨c,e⟩:=cell_has (n:=s.heap.objs.size+1) k
   refine .inr ⟨.inl k,c,e,?_⟩;have q:=x.cell y c e;rw[bindC_get Xg hp aR (by show scope.names.lookup y≠_;grind)]at q;exact q
 .exact bB.hok.fresh (jv (x.above y c (ju h)))
 .exact absurd (show q∈([]:List (Addr×Obj))++[]from hq) (by simp)
 .unfold L2.start
  show _=N.length;grind
section
variable{P:Program}{w:World}{K:PySem.W.Frag}{mg:Str->Option Value}{base:Heap}
theorem agG{x qual:Str}{st:Stmt}{f:Addr}{fd:FuncData}{N ps:List Str}{k:Nat}{body:SX}(F:Fun K x qual st f fd)(Sc:FnScope N ps (defScope st))(Ox:Binds K fd ps [])
  (hb:∀(c7:Value) (A:Around) (outer:List Env) (s:Shared) (H:Hp) (E:XK),L2H.RoomH k (A.deeper (envOfC qual (defScope st) s.heap.objs.size f c7)) ->
   gm (Dj (Z.CX P w) P w K mg base N qual (defScope st) f c7 A outer s H E) (λc d _ H'=>E c d H') (defBody st) body) :
  H9 P w K mg base (k+1) f (bZ ps.length (bI N.length body)):=by
 obtain⟨cL,od,kV,doc,pm,an,c7,ct,hX,rfl,lk,g9⟩:=F.ex;intro A outer s H us vs Q E hr bB r ⟨ρ,S,ds,dQ,cu,p⟩;unfold bZ at p;split at p
 .rename_i p8
  have hl:vs.length=ps.length:=by rw[<-cu.len];exact p8
  have C_:us.length=ps.length:=by rw[<-r.length];exact hl
  have KX:K.In s.heap:=bB.mod.kin.keeps λb o e=>(bB.bs b o e).1;have lim:s.heap.NoLimit:=bB.mod.nolimit.keeps λb o e=>(bB.bs b o e).1;have p_:=Ox s us KX (by grind);rw[rY]at p_;have Dk:∀y∈ps.zip us,(defScope st).names.lookup y.1=some .local\/((defScope st).names.lookup y.1=some .cell/\((cellsFrom (s.heap.objs.size+1) (defScope st).names []).lookup y.1).isSome=true):=fun⟨n,v⟩ bD=>by
   rcases Sc.par n (uo bD).1 with q|q
   .exact .inl q
   .exact .inr ⟨q,KO _ _ _ (.inl q)⟩
  refine codeAny_call_function hr.depth (KX _ _ lk) rfl Sc.co Sc.gen rfl (KP KX g9) (p_ _ _ _ _ ?_);refine wpAny_newFunctionEnv_cells Sc.kind Dk λenv he s1 x=>?_;subst he;refine⟨lim.keeps x.toInCall.keep,codeAny_func ?_⟩;have I:=Xf (CX:=Z.CX P w) (E:=E) (cd:=c7) (f:=f) (qual:=qual) Sc bB hl r x;have p:=yU dQ p;refine wpAny_mono ((hb c7 A outer s H E (hr.deeper _)).run [] s1 (L2.start N vs) H { nx:=λ_ H'=>Q .non H',rt:=Q } I ⟨ρ,S,_,dQ,yV cu,?_⟩) (λfl s' hs=>?_) λe s' hs=>hs
  .cases q:body (ds.map some++List.replicate (N.length - ds.length) none) S with
   |nx sl ao=>rw[q]at p;exact λbA av H' x aF r1=>p .non av H' x aF (by rw[Rep])
   |rt d ao=>rw[q]at p;exact p
   |ex e sl ao=>rw[q]at p;exact λC dd bA av H' x aF _ r1=>p C dd av H' x aF r1
   |bk sl ao=>rw[q]at p;exact p.elim
   |ct sl ao=>rw[q]at p;exact p.elim
   |bad=>rw[q]at p;exact p.elim
  .have fin:∀{bA:L2.St} {H':Hp} {v:V} {u:Value},Inv (Dj (Z.CX P w) P w K mg base N qual (defScope st) f c7 A outer s H E) [] bA H' s'->RelV v u->Q v H'->CE outer P w H s Q u s' :=
    λ{bA H' v u} J aW q=>⟨v,H',J.os,J.bare,J.base,J.hok,aW,q⟩
   cases fl with
   |ret u =>
    obtain⟨v,bA,H',J,aW,q⟩:=hs;exact fin J aW q
   |next =>
    obtain⟨bA,H',J,q⟩:=hs;exact fin (v:=V.non) (u:=Value.none) J rfl q
   |brk =>
    obtain⟨_,_,_,q⟩:=hs;grind
   |cont =>
    obtain⟨_,_,_,q⟩:=hs;grind
 .exact p.elim
end
section
variable{X:Cx}{W:WX}{k:Nat}{f:Addr}{g:aB}{x:Str}{p pos:Pos}{e:Expr}{es:List Expr}{fa:du}
theorem agH{pins:List (Addr×Obj)}{σ:L2.St}{H:Hp}{s:Shared}{Q:VK}{us:List Value}{vs:List V}{sp:Sp}{E:XK}(F:Xe X.prog X.w X.K X.mg X.base k f sp)(hr:L2H.RoomH k X.A)(hx:PassesAt (Z.CX X.prog X.w) X σ E)(I:Inv X pins σ H s)(r:Vals vs us)(h:sp vs H Q E) :
  wpAny (model X.prog X.w) X.A (PySem.call (.ref f) us) (EP X pins σ Q) X.xe s:=by
 refine wpAny_call (codeAny_mono (F X.A X.stack s H us vs Q E hr I.env0 r h) λr s' hq=>?_);cases r with
 |error e=>exact hx pins H s e s' I hq
 |ok fl =>
  cases fl with
  |ret u=>exact I.after hq
  |next=>exact False.elim hq
  |brk=>exact False.elim hq
  |cont=>exact False.elim hq
theorem jp1(tk:Takes X W)(F:H9 X.prog X.w X.K X.mg X.base k f g)(hr:L2H.RoomH k X.A)(hm:X.mg x=some (.ref f))(hk:PySem.W.keepIn X.K (.ref f)=true)
  (ha:gQ X W (e::es) fa) (hg:Gl X x:=by rfl) (gR:(x==("__debug__":Str))=false:=by decide) (he:starEach (e::es) X.env=(false,eval e X.env)::starEach es X.env:=by rfl) (fK:(backTo pos (starEach es X.env)).any (·.1)=false:=by rfl) :
  E X W (.Call (.Name x p) (e::es) [] pos) (ak g fa):=by
 refine⟨λpins s σ H Q I h=>?_⟩;refine wpAny_Call_Name_kw (ld_glob I hg hm ?_ gR);have h':=si (k:=λvs H1=>wU X.K X.mg g vs H1 Q (WE W σ)) h λρ S H1 ds vs w r p=>⟨ρ,S,ds,w,r,p⟩
 refine qD (h₀:=X.base) I.ok.mod.kin hk (thn (ha.run pos pins s σ H _ I h') λus s1 ⟨vs,H1,I1,r,q⟩=>⟨I1.kIn,?_⟩) he fK;exact agH F hr (su tk σ) I1 r q
end
def j_(f:Str)(cs:List Str)(fo:aM):aM:=λsl S=>(fo sl S).bind λd S1=>match d with
 | .exc c ns vs=>if c∈cs then(match gq f ns vs with
  |some v=>.ok v S1
  |none=>.bad)else .bad
 |_=>.bad
def H_(X:Cx)(f:Str)(cs:List Str):Prop:=∀c∈cs,∀C,X.mg c=some (.ref C)->XfC X.K C/\PySem.W.findIn X.K (.ref C) f=some none
theorem l0{X:Cx}{W:WX}{f:Str}{cs:List Str}{o:Expr}{fo:aM}{pos:Pos}(ht:H_ X f cs)(aY:E X W o fo)(hb:attributeBase o f X.env (eval o X.env)=eval o X.env:=by rfl):E X W (.Attribute o f pos) (j_ f cs fo):=by
 refine⟨λpins s σ H Q I h=>?_⟩;obtain⟨ρ,S,sl,w,rs,p⟩:=h;refine attr_of hb (thn (aY.run pins s σ H _ I ⟨ρ,S,sl,w,rs,aV.fJ p⟩) λu s1 ⟨x,H1,I1,aJ,aA,S1,d,x1,aF,r1,_,p1⟩=>?_);cases d with
 |exc c ns vs =>
  dsimp only at p1;split at p1
  .rename_i hc
   rw[Rep]at r1;obtain⟨a,C,dd,fs,ex,na,nd,hm,ha,hd,hn,cu⟩:=r1;subst ex;obtain rfl:u=Value.ref a:=aJ;obtain⟨T,lX⟩:=ht c hc C hm;split at p1
   .rename_i v ev
    obtain⟨mK,h1,h2⟩:=GZ hn cu ev;obtain⟨⟨dI,ws,he,hz,qW⟩,_,_⟩:ObjOk X.prog X.w H1 s1.heap a (.ext λh=>∃(dI:Obj) (vs:Array Value),h.get? a=some dI/\Zc (.ref C) (some dd) dI/\dI.data=.fields vs):=I1.hok a _ ha;have hx:ObjOk X.prog X.w H1 s1.heap dd (.xd fs):=I1.hok dd _ hd;obtain⟨Ni,fV,hr⟩:=hx;obtain⟨od,mS,hl⟩:=lookIn_ns fV;obtain⟨uA,aR,cU⟩:=RelO.some_of (v:=mK) (o:=Ni f) (by grind);have J:PySem.W.InstAt s1.heap a dI C (some od):=⟨he,hz.1,by unfold PySem.W.notCls;grind,by rw[hz.2];exact mS⟩
    exact HandSPX.exc_get I1.kIn J T.ga T.gg T.exC (PySem.W.findObj_own T.hdC lX rfl (by rw[hl,aR])) (handed_of cU) ⟨mK,H1,I1.tok _,cU,cA p1 aF h2⟩
   .exact p1.elim
  .exact p1.elim
 |_=>exact p1.elim
def Dl(tab:List (Str×Bool))(i:Nat)(fb fs:SX):SX:=λsl S=>match fb sl S with
 | .ex (.ins c ns ds) a' S1=>(match tab.lookup c with
  |some true=>(match fs (a'.set i (some (.exc c ns ds))) S1 with
   | .nx bK S2=>.nx (bK.set i none) S2
   | .bk bK S2=>.bk (bK.set i none) S2
   | .ct bK S2=>.ct (bK.set i none) S2
   | .rt d S2=>.rt d S2
   |_=>.bad)
  |some false=>.ex (.ins c ns ds) a' S1
  |none=>.bad)
 |o=>o
def Dm(X:Cx)(cs:List Value)(tab:List (Str×Bool)):Prop:=∀c b,tab.lookup c=some b->∀C,X.mg c=some (.ref C)->PySem.W.exmAny X.K (.ref C) cs=some b
theorem cH.Oy{K:PySem.W.Frag}{mg:Str->Option Value}{ρ:List Addr}{H:Hp}{σ:L2.St}{sl:aT}(r:cH K mg ρ H σ sl)(i:Nat):cH K mg ρ H (σ.set i none) (sl.set i none):=by
 refine⟨by simp[r.len],λj d e=>?_⟩;by_cases h:i=j
 .grind
 .rw[lx h]at e
  obtain⟨v,aw,e2⟩:=r.at_ j d e;grind
theorem agI{X:Cx}{W:WX}{n:Str}{cs:List Value}{tab:List (Str×Bool)}{i:Nat}{body suite:List Stmt}{nR:Stmt}{test:Expr}{pos pos':Pos}{fb fs:SX}(hs:X.stack=X.env::X.outer)(hf:X.env.frame=some X.env.locals)(gF:X.N.Nodup)(hi:X.N[i]?=some n)(p8:X.env.kindOf n=some .local)(hc:De X test cs)(tk:Takes X W)(ht:Dm X cs tab)
  (hb:∀(l':WX) (pn:List (Addr×Obj)) (xe:Value->Shared->Prop),Takes (X.tr pn xe) l'->gm (X.tr pn xe) l' body fb)
  (w7:∀(a:Addr) (pn:List (Addr×Obj)),gm (X.suite a pn) WF (nR::suite) fs) :
  ES X W (.Try body [.ExceptHandler (some test) (some n) (nR::suite) pos'] [] [] pos) (Dl tab i fb fs):=by
 refine PS.imp (agy (tb:=λl'=>wg X.K X.mg l' fb) (ts:=wg X.K X.mg WF fs) hs hf gF hi p8 hc tk (λl' pn xe gZ _=>hb l' pn xe gZ) w7) λD σ H ⟨ρ,S,sl,w,rs,p⟩=>?_;refine⟨ρ,S,sl,w,rs,?_⟩;unfold Dl at p;cases o:fb sl S with
 |nx a' S1=>rw[o]at p;exact p
 |bk a' S1=>rw[o]at p;exact p
 |ct a' S1=>rw[o]at p;exact p
 |rt d S1=>rw[o]at p;exact p
 |bad=>rw[o]at p;exact p.elim
 |ex e a' S1 =>
  rw[o]at p;intro C dd iO aA H1 x1 aF lQ r1;obtain⟨c,ns,ds,kj,hD,u0,rfl,hm,rfl,rfl,nd,hd,hn,cu⟩:=r1;dsimp only at p;cases q:tab.lookup c with
  |none=>rw[q]at p;exact p.elim
  |some b =>
   refine⟨b,kj,hD,rfl,rfl,ht c b q kj hm,λOz a na=>?_,λOA=>?_⟩
   .subst Oz
    rw[q]at p;dsimp only at p;have Dq:hD≠a:=λz=>by grind
    have x2:Ext aA H1 aA (upd H1 a (r7 a kj hD)):=Ext.gG na;have cm:aN X.K X.mg aA (upd H1 a (r7 a kj hD)) S1:=aF.gG na;have aW:Rep X.K X.mg aA (upd H1 a (r7 a kj hD)) (.exc c ns ds) (.ref a):=by
     rw[Rep];exact⟨a,kj,hD,u0,rfl,aF.nin na,nd,hm,upd_same,by rw[upd_ne Dq];exact hd,hn,cu.ext x2⟩
    refine⟨aA,S1,a'.set i (some (.exc c ns ds)),cm,(lQ.ext x2).set aW i,?_⟩;have b0:=x1.trans x2;cases sI:fs (a'.set i (some (.exc c ns ds))) S1 with
    |nx bK S2=>rw[sI]at p;exact λbA av H' x w r=>p _ av H' (b0.trans x) w (r.Oy i)
    |bk bK S2=>rw[sI]at p;exact λbA av H' x w r=>p _ av H' (b0.trans x) w (r.Oy i)
    |ct bK S2=>rw[sI]at p;exact λbA av H' x w r=>p _ av H' (b0.trans x) w (r.Oy i)
    |rt d S2=>rw[sI]at p;exact λv av H' x w r=>p v av H' (b0.trans x) w r
    |ex e bK S2=>rw[sI]at p;exact p.elim
    |bad=>rw[sI]at p;exact p.elim
   .subst OA
    rw[q]at p;exact p _ _ iO aA H1 x1 aF lQ ⟨c,ns,ds,kj,hD,u0,rfl,hm,rfl,rfl,nd,hd,hn,cu⟩
abbrev Cs:=List (Addr×Obj)
def eU(cs:Cs)(H:Hp):Hp:=λb=>match cs.lookup b with
 |some o=>some (.frz o (.own 0))
 |none=>H b
def hY(cs:Cs)(H:Hp):Hp:=λb=>match cs.lookup b with
 |some _=>none
 |none=>H b
theorem u3{cs:Cs}{H:Hp}{b:Addr}{o:Obj}(h:cs.lookup b=some o):eU cs H b=some (.frz o (.own 0)):=by unfold eU;rw[h]
theorem eV{cs:Cs}{H:Hp}{b:Addr}(h:cs.lookup b=none):eU cs H b=H b:=by unfold eU;rw[h]
theorem Dr{cs:Cs}{H:Hp}{b:Addr}{o:Obj}(h:cs.lookup b=some o):hY cs H b=none:=by unfold hY;rw[h]
theorem fW{cs:Cs}{H:Hp}{b:Addr}(h:cs.lookup b=none):hY cs H b=H b:=by unfold hY;rw[h]
structure iz(cs:Cs)(fs:List Addr)(H:Hp)(h:Heap):Prop where
 get:∀c o,cs.lookup c=some o->h.get? c=some o
 non:∀c o,cs.lookup c=some o->H c=none
 nofs:∀c o,cs.lookup c=some o->c∉fs
def jM(cs:Cs)(H:Hp):Prop:=∀c o,cs.lookup c=some o->H c=some (.frz o (.own 0))
section
variable{P:Program}{w:World}{cs:Cs}{fs ρ:List Addr}{H H' aD:Hp}{h h':Heap}{K:PySem.W.Frag}{mg:Str->Option Value}{S:Store}
theorem iz.out(c:iz cs fs H h){b:Addr}{u:HO}(e:H b=some u):cs.lookup b=none:=by
 cases q:cs.lookup b with
 |none=>rfl
 |some o=>rw[c.non b o q]at e;cases e
theorem jM.out(c:jM cs H){b:Addr}{u:HO}(e:H b=some u)(n:∀o,u≠.frz o (.own 0)):cs.lookup b=none:=by
 cases q:cs.lookup b with
 |none=>rfl
 |some o=>rw[c b o q]at e;grind
theorem jM.Ds(c:jM cs H){b:Addr}(e:H b=none):cs.lookup b=none:=by
 cases q:cs.lookup b with
 |none=>rfl
 |some o=>rw[c b o q]at e;cases e
theorem ri:jM cs (eU cs H):=λc o q=>u3 q
theorem iY(c:iz cs fs H h):Ext ρ H ρ (eU cs H):=⟨⟨[],by simp⟩,λa x n=>absurd x n,λa o _ e=>.inl (by rw[eV (c.out e)];exact e)⟩
theorem OB(c:iz cs fs H h)(w:aN K mg ρ H S):aN K mg ρ (eU cs H) S:=by
 have eq:∀a∈ρ,eU cs H a=H a:=λa ha=>by
  have t:=w.tr a ha;cases e:H a with
  |none=>grind
  |some u=>rw[eV (c.out e),e]
 refine⟨w.len,w.nd,λa ha=>by rw[eq a ha];exact w.tr a ha,λn a m aw e2=>?_⟩;exact kh.ext (iY c) (eq a (jV aw)) (w.ob n a m aw e2)
theorem Ia(c:iz cs fs H h)(x:HOk P w H h):HOk P w (eU cs H) h:=λb u e=>by
 cases q:cs.lookup b with
 |some o =>
  rw[u3 q]at e;cases e;exact⟨c.get b o q,o,c.get b o q⟩
 |none =>
  rw[eV q]at e;exact(x b u e).stay (λd v _ y=>y) (λd y=>by rw[eV (c.out y)];exact y) λd xs y=>by rw[eV (c.out y)];exact y
theorem Xh(c:jM cs H)(x:HOk P w H h):HOk P w (hY cs H) h:=λb u e=>by
 cases q:cs.lookup b with
 |some o=>rw[Dr q]at e;cases e
 |none =>
  rw[fW q]at e;exact(x b u e).stay (λd v _ y=>y) (λd y=>by rw[fW (c.out y (by intros;nofun))];exact y) λd xs y=>by rw[fW (c.out y (by intros;nofun))];exact y
theorem Xi(c:jM cs H):Kp ρ H ρ (hY cs H) where
 rd:=λa u n1 n2 n r=>⟨n,by
  rcases r with r|⟨o,r⟩
  .exact .inl (by rw[fW (c.out r (λo e=>n1 o _ e))];exact r)
  .exact .inr ⟨o,by rw[fW (c.out r (λe6 e=>by grind))];exact r⟩⟩
 lst:=λa vs _ e=>by rw[fW (c.out e (by intros;nofun))];exact e
 tup:=λa vs _ e=>by rw[fW (c.out e (by intros;nofun))];exact e
 ins:=λa C bM fs _ e=>by rw[fW (c.out e (by intros;nofun))];exact e
 get:=λn a e=>e
 ext:=λa cS n e=>⟨n,by rw[fW (c.out e (by intros;nofun))];exact e⟩
 xd:=λa fs n e=>⟨n,by rw[fW (c.out e (by intros;nofun))];exact e⟩
 frz:=λa o vs n e=>⟨n,by rw[fW (c.out e (λe6 cN=>by grind))];exact e⟩
theorem agJ(c:jM cs H){d:D}{v:V}(n:eD d=true)(r:Rep K mg ρ H d v):Rep K mg ρ (hY cs H) d v:=Rep.kp (Xi c) d v (.inr n) r
theorem xg(c:jM cs H){ds:List D}{vs:List V}(n:dw ds=true)(r:ay K mg ρ H ds vs):ay K mg ρ (hY cs H) ds vs:=ay.kp (Xi c) ds vs (.inr n) r
theorem agK(c:jM cs H){a:Addr}{m:dH}(n:yJ m=true)(r:kh K mg ρ H a m):kh K mg ρ (hY cs H) a m:=by
 cases m with
 |lst ds =>
  obtain⟨vs,h1,h2⟩:=r;exact⟨vs,by rw[fW (c.out h1 (by intros;nofun))];exact h1,xg c n h2⟩
 |dct lk ks ds =>
  obtain⟨kvs,h1,h2,aH⟩:=r;have n:(dw ks&&dw ds)=true:=n;rw[Bool.and_eq_true]at n;refine⟨kvs,?_,xg c n.1 h2,xg c n.2 aH⟩;cases lk with
  |true =>
   rw[if_pos rfl]at h1 ⊢;rcases h1 with h1|⟨o,h1⟩
   .exact .inl (by rw[fW (c.out h1 (by intros;nofun))];exact h1)
   .exact .inr ⟨o,by rw[fW (c.out h1 (by intros;nofun))];exact h1⟩
  |false =>
   rw[if_neg kK]at h1 ⊢;rw[fW (c.out h1 (by intros;nofun))];exact h1
 |er w ks ds =>
  obtain⟨hs,es,b9,vs,h1,sv,h2,aH⟩:=r;have n:(dw ks&&dw ds)=true:=n;rw[Bool.and_eq_true]at n;exact⟨hs,es,b9,vs,by rw[fW (c.out h1 (by intros;nofun))];exact h1,sv,xg c n.1 h2,xg c n.2 aH⟩
 |ins cl ns ds =>
  obtain⟨C,bM,fs,h0,h1,h2,aH⟩:=r;exact⟨C,bM,fs,h0,by rw[fW (c.out h1 (by intros;nofun))];exact h1,h2,xg c n aH⟩
 |tab P q =>
  obtain⟨bU,ps,h1,h2,aH⟩:=r;refine⟨bU,ps,by rw[fW (c.out h1 (by intros;nofun))];exact h1,h2,λpos lD hc=>?_⟩;obtain⟨k,aw,nk,e2⟩:=aH pos lD hc;exact⟨k,aw,nk,by unfold LamX.CodeO at e2 ⊢;rw[fW (c.out e2 (by intros;nofun))];exact e2⟩
 |dead=>exact trivial
def g0(S:Store):Bool:=S.all yJ
theorem Xj(c:jM cs H)(p':∀b o,cs.lookup b=some o->b∉ρ)(n:g0 S=true)(w:aN K mg ρ H S):aN K mg ρ (hY cs H) S:=by
 refine⟨w.len,w.nd,λa ha=>?_,λi a m aw e2=>agK c (List.all_eq_true.mp n m (jV e2)) (w.ob i a m aw e2)⟩;cases q:cs.lookup a with
 |some o=>grind
 |none=>rw[fW q];exact w.tr a ha
theorem agL(c:iz cs fs H h)(x:HOk P w aD h')(ci:jM cs aD)(u:Un fs [] (eU cs H) aD h h'):Un fs [] H (hY cs aD) h h' where
 keep:=λb o e n hb hx=>by
  cases q:cs.lookup b with
  |some cL =>
   have e2:=c.get b cL q;rw[e2]at e;obtain rfl:cL=o:=Option.some.inj e;exact(x b _ (ci b _ q)).1
  |none=>exact u.keep b o e (by rw[eV q];exact n) hb hx
 slot:=λb o e n hb hx=>by
  cases q:cs.lookup b with
  |some cL=>exact absurd hb (c.nofs b cL q)
  |none=>exact u.slot b o e (by rw[eV q];exact n) hb hx
 free:=λb o e n hx=>by
  cases q:cs.lookup b with
  |some cL=>exact Dr q
  |none=>rw[fW q];exact u.free b o e (by rw[eV q];exact n) hx
 there:=u.there
 tups:=λb xs e=>by rw[fW (c.out e)];exact u.tups b xs (by rw[eV (c.out e)];exact e)
 frzs:=λb o v e=>by rw[fW (c.out e)];exact u.frzs b o v (by rw[eV (c.out e)];exact e)
 tbls:=λb ps e=>by rw[fW (c.out e)];exact u.tbls b ps (by rw[eV (c.out e)];exact e)
theorem agM{av:List Addr}(c:iz cs fs H h)(x:Ext ρ (eU cs H) av aD):Ext ρ H av (hY cs aD):=by
 refine⟨x.pre,λa ha n=>?_,λa o n e=>?_⟩
 .have q:=x.new a ha n
  cases y:cs.lookup a with
  |some o=>rw[u3 y]at q;cases q
  |none=>rw[eV y]at q;exact q
 .have y:=c.out e
  rw[fW y];exact x.keep a o n (by rw[eV y];exact e)
theorem agN{av:List Addr}(p':∀b o,cs.lookup b=some o->b∉ρ)(c:jM cs H)(x:Ext ρ H av aD):jM cs aD/\∀b o,cs.lookup b=some o->b∉av:=⟨λb o q=>x.kept (p' b o q) (c b o q) (by intros;nofun),λb o q=>x.nin (p' b o q) (c b o q)⟩
theorem agO(c:jM cs H)(hf:∀b o,cs.lookup b=some o->b∉fs)(x:HOk P w H h):iz cs fs (hY cs H) h:=⟨λb o q=>(x b _ (c b o q)).1,λb o q=>Dr q,hf⟩
theorem Xk(c:jM cs H):eU cs (hY cs H)=H:=by
 funext b;cases q:cs.lookup b with
 |some o=>rw[u3 q,c b o q]
 |none=>rw[eV q,fW q]
theorem iz.un(c:iz cs fs H h)(u:Un fs [] H H' h h'):iz cs fs H' h':=⟨λb o q=>u.keep b o (c.get b o q) (c.non b o q) (c.nofs b o q) (by simp),λb o q=>u.free b o (c.get b o q) (c.non b o q) (by simp),c.nofs⟩
theorem agP(c:iz cs fs H h)(u:Un fs [] H H' h h'):Un fs [] (eU cs H) (eU cs H') h h':=by
 have c':=c.un u;refine⟨λb o e n hb hx=>?_,λb o e n hb hx=>?_,λb o e n hx=>?_,u.there,λb xs e=>?_,λb o v e=>?_,λb ps e=>?_⟩
 .have q:=(ri (cs:=cs) (H:=H)).Ds n
  rw[eV q]at n;exact u.keep b o e n hb hx
 .have q:=(ri (cs:=cs) (H:=H)).Ds n
  rw[eV q]at n;exact u.slot b o e n hb hx
 .have q:=(ri (cs:=cs) (H:=H)).Ds n
  rw[eV q]at n ⊢;exact u.free b o e n hx
 .have q:=(ri (cs:=cs) (H:=H)).out e (by intros;nofun)
  rw[eV q]at e ⊢;exact u.tups b xs e
 .cases q:cs.lookup b with
  |some cL=>rw[u3 q]at e ⊢;exact e
  |none=>rw[eV q]at e ⊢;exact u.frzs b o v e
 .have q:=(ri (cs:=cs) (H:=H)).out e (by intros;nofun)
  rw[eV q]at e ⊢;exact u.tbls b ps e
end
def OC(N:List Str)(sl:aT)(n:Str):Option D:=((N.zip sl).lookup n).bind id
theorem Xl:∀{N:List Str} {sl:aT} {n:Str} {d:Option D},(N.zip sl).lookup n=some d->∃i:Nat,N[i]?=some n/\sl[i]?=some d
 |[],_,_,_,h=>by simp at h
 |m::N,[],_,_,h=>by simp at h
 |m::N,s::sl,n,d,h=>by
  rw[yu,List.lookup_cons]at h;cases q:n==m with
  |true =>
   rw[q]at h;cases h;have:n=m:=by simpa using q
   subst this;exact⟨0,rfl,rfl⟩
  |false =>
   rw[q]at h;obtain⟨i,h1,h2⟩:=Xl h;exact⟨i+1,by grind,by grind⟩
theorem agQ{N:List Str}{sl:aT}{n:Str}{d:D}(h:OC N sl n=some d):∃i:Nat,N[i]?=some n/\sl[i]?=some (some d):=by
 unfold OC at h;obtain⟨x,h1,h2⟩:=Option.bind_eq_some_iff.mp h;cases h2;exact Xl h1
def zH(N:List Str)(sl:aT):List Str->Option (List D)
 |[]=>some []
 |n::ns=>match OC N sl n,zH N sl ns with
  |some d,some r=>some (d::r)
  |_,_=>none
def agR(cn:List Str)(aU:List (Str×Addr))(T:dj)(a_:List (Str×Addr)):Prop:=a_=cloFrom aU T.scope.names []/\T.names.Nodup/\∀n∈T.names,n∈cn/\T.scope.names.lookup n=some .free
noncomputable section
open Classical in
mutual
def conv(cn N:List Str)(aU:List (Str×Addr))(sl:aT):D->Option D
 | .lam T a_=>if agR cn aU T a_ then(zH N sl T.names).map (.dN T)else none
 | .lst xs=>(jN cn N aU sl xs).map .lst
 | .tup xs=>(jN cn N aU sl xs).map .tup
 | .b8 xs=>(jN cn N aU sl xs).map .b8
 |d=>some d
def jN(cn N:List Str)(aU:List (Str×Addr))(sl:aT):List D->Option (List D)
 |[]=>some []
 |d::ds=>match conv cn N aU sl d,jN cn N aU sl ds with
  |some a,some b=>some (a::b)
  |_,_=>none
end
end
section
variable{X:Cx}{pins:List (Addr×Obj)}{σ:L2.St}{H:Hp}{s:Shared}
theorem Xm(I:Inv X pins σ H s)(xh:∀x,X.fn x=true):∀(cn:List Str),(∀n∈cn,X.env.kindOf n=some .cell)->∃cs:Cs,iz cs (frs X.stack) H s.heap/\(∀b o,cs.lookup b=some o->X.base.get? b=none)/\∀n∈cn,∃c o,X.env.cells.lookup n=some c/\cs.lookup c=some o
 |[],_=>⟨([]:Cs),⟨(λc o h=>by simp at h),(λc o h=>by simp at h),(λc o h=>by simp at h)⟩,(λc o h=>by simp at h),(λn h=>by simp at h)⟩
 |n::cn,hk=>by
  obtain⟨cs,h1,h2,aH⟩:=Xm I xh cn λm hm=>hk m (iH _ hm);obtain⟨c,hc⟩:=I.ok.has n (.inl (hk n (ow ..)));obtain⟨v,o,aY,hd⟩:=I.cell n c hc;have Ib:=I.ok.cab n c (xh n) hc;have OD:=I.cne n c hc;have Df:c∉frs X.stack:=λhm=>by
   rcases fQ.mp (I.stkSub c hm)with e|e
   .exact OD e
   .obtain⟨_,e6,mS,_⟩:=I.ok.funs.mem e
    exact absurd (mA (Heap.lt_size mS) Ib) (ni _)
  have nb:X.base.get? c=none:=by
   cases q:X.base.get? c with
   |none=>rfl
   |some e6=>exact absurd (mA (Heap.lt_size q) (Nat.le_trans I.ok.bsz Ib)) (ni _)
  have cons:∀{b:Addr} {u:Obj},((c,o)::cs).lookup b=some u->(b=c/\u=o)\/cs.lookup b=some u:=λ{b u} h=>by
   grind
  refine⟨(c,o)::cs,⟨λb u h=>?_,λb u h=>?_,λb u h=>?_⟩,λb u h=>?_,λm hm=>?_⟩
  .rcases cons h with⟨rfl,rfl⟩|h
   .exact aY
   .exact h1.get b u h
  .rcases cons h with⟨rfl,rfl⟩|h
   .exact I.freeC n _ hc
   .exact h1.non b u h
  .rcases cons h with⟨rfl,rfl⟩|h
   .exact Df
   .exact h1.nofs b u h
  .grind
  grind
theorem Xn{ρ:List Addr}{S:Store}{sl:aT}{cs:Cs}{cn:List Str}{a_:List (Str×Addr)}{T:dj}(I:Inv X pins σ H s)(w:aN X.K X.mg ρ H S)(rs:cH X.K X.mg ρ H σ sl)(c:iz cs (frs X.stack) H s.heap)(hk:∀n∈cn,X.env.kindOf n=some .cell)(k3:∀n∈cn,∃c o,X.env.cells.lookup n=some c/\cs.lookup c=some o)
  (Ic:a_=cloFrom X.env.cells T.scope.names []):∀{ns:List Str} {caps:List D},ns.Nodup->(∀n∈ns,n∈cn/\T.scope.names.lookup n=some .free)->zH X.N sl ns=some caps->∃vs,nq ρ (eU cs H) a_ ns vs/\ay X.K X.mg ρ (eU cs H) caps vs
 |[],caps,_,_,h=>by cases h;exact⟨[],rfl,ay.nil⟩
 |n::ns,caps,nd,hn,h=>by
  rw[zH]at h;split at h
  .rename_i d r ed fU
   cases h;obtain⟨vs,h1,h2⟩:=Xn I w rs c hk k3 Ic (qC.mp nd).2 (λm hm=>hn m (iH _ hm)) fU;obtain⟨OG,u5⟩:=hn n (ow ..);obtain⟨i,aw,e2⟩:=agQ ed;obtain⟨v,ev,aW⟩:=rs.at_ i d e2;obtain⟨ca,o,hl,aY⟩:=k3 n OG;obtain⟨m,fV,Oh⟩:=I.loc;obtain⟨u,cU,lk⟩:=Oh i n v aw ev (.inr (.inl (hk n OG)));have w3:s.heap.IsCell ca (some u):=by
    rcases lk with⟨k,_⟩|⟨_,c',cN,z⟩
    .rw[hk n OG]at k;cases k
    .rw[hl]at cN;cases cN;exact z
   obtain⟨e6,mS,mG⟩:=w3;have agS:e6=o:=by
    have:=c.get ca o aY;rw[this]at mS;cases mS;rfl
   subst agS;have agT:a_.lookup n=some ca:=by
    have mO:=cloFrom_has (cells:=X.env.cells) (acc:=[]) (ju u5);rw[hl,Option.getD_some,<-Ic]at mO;obtain⟨c2,nF⟩:=mem_lookup mO;rw[nF];rcases cloFrom_mem (by rw[<-Ic];exact ju nF)with hm|⟨_,e⟩
    .cases hm
    .rw[e,hl];rfl
   have p':ca∉ρ:=w.nin (c.non ca _ aY);have agU:∀m∈ns,a_.lookup m≠some ca:=λm hm e=>by
    rcases cloFrom_mem (by rw[<-Ic];exact ju e)with h0|⟨_,cN⟩
    .cases h0
    .obtain⟨av7,e6,Xo,_⟩:=k3 m (hn m (iH _ hm)).1
     rw[Xo,Option.getD_some]at cN;subst cN;have:=I.ok.inj m n ca Xo hl;subst this;exact(qC.mp nd).1 hm
   exact⟨v::vs,⟨v,vs,ca,_,u,rfl,agT,p',u3 aY,mG,cU,agU,h1⟩,ay.cons (aW.ext (iY c)) h2⟩
  .cases h
mutual
theorem Xp{ρ:List Addr}{S:Store}{sl:aT}{cs:Cs}{cn:List Str}(I:Inv X pins σ H s)(w:aN X.K X.mg ρ H S)(rs:cH X.K X.mg ρ H σ sl)(c:iz cs (frs X.stack) H s.heap)(hk:∀n∈cn,X.env.kindOf n=some .cell)(k3:∀n∈cn,∃c o,X.env.cells.lookup n=some c/\cs.lookup c=some o) :
  ∀(d d':D) (v:V),conv cn X.N X.env.cells sl d=some d'->Rep X.K X.mg ρ H d v->Rep X.K X.mg ρ (eU cs H) d' v
 | .lam T a_,d',v,e,r=>by
  rw[conv]at e;split at e
  .rename_i hf
   obtain⟨caps,aw,e2⟩:=fx.mp e;subst e2;obtain⟨vs,h1,h2⟩:=Xn I w rs c hk k3 hf.1 hf.2.1 hf.2.2 aw;rw[Rep]at r;obtain⟨f,ev,hl⟩:=r;rw[Rep];exact⟨f,a_,vs,ev,hl.kp (iY c).kp,h1,h2⟩
  .cases e
 | .b8 xs,d',v,e,r=>by
  rw[conv]at e;obtain⟨ys,aw,e2⟩:=fx.mp e;subst e2;rw[Rep]at r ⊢;obtain⟨a,vs,ev,t,cu⟩:=r;exact⟨a,vs,ev,t.kp (iY c).kp,Dt I w rs c hk k3 xs ys vs aw cu⟩
 | .lst xs,d',v,e,r=>by
  rw[conv]at e;obtain⟨ys,aw,e2⟩:=fx.mp e;subst e2;rw[Rep]at r ⊢;obtain⟨a,vs,ev,t,cu⟩:=r;exact⟨a,vs,ev,t.kp (iY c).kp,Dt I w rs c hk k3 xs ys vs aw cu⟩
 | .tup xs,d',v,e,r=>by
  rw[conv]at e;obtain⟨ys,aw,e2⟩:=fx.mp e;subst e2;rw[Rep]at r ⊢;obtain⟨a,vs,ev,t,cu⟩:=r;exact⟨a,vs,ev,t.kp (iY c).kp,Dt I w rs c hk k3 xs ys vs aw cu⟩
 | .non,d',v,e,r=>by rw[conv]at e;all_goals (first|(cases e;exact r.ext (iY c))|simp)
 | .bl _,d',v,e,r=>by rw[conv]at e;all_goals (first|(cases e;exact r.ext (iY c))|simp)
 | .int _,d',v,e,r=>by rw[conv]at e;all_goals (first|(cases e;exact r.ext (iY c))|simp)
 | .str _,d',v,e,r=>by rw[conv]at e;all_goals (first|(cases e;exact r.ext (iY c))|simp)
 | .ty _,d',v,e,r=>by rw[conv]at e;all_goals (first|(cases e;exact r.ext (iY c))|simp)
 | .cls _,d',v,e,r=>by rw[conv]at e;all_goals (first|(cases e;exact r.ext (iY c))|simp)
 | .er _ _ _,d',v,e,r=>by rw[conv]at e;all_goals (first|(cases e;exact r.ext (iY c))|simp)
 | .dct _ _,d',v,e,r=>by rw[conv]at e;all_goals (first|(cases e;exact r.ext (iY c))|simp)
 | .ins _ _ _,d',v,e,r=>by rw[conv]at e;all_goals (first|(cases e;exact r.ext (iY c))|simp)
 | .ptr _,d',v,e,r=>by rw[conv]at e;all_goals (first|(cases e;exact r.ext (iY c))|simp)
 | .ck _,d',v,e,r=>by rw[conv]at e;all_goals (first|(cases e;exact r.ext (iY c))|simp)
 | .exc _ _ _,d',v,e,r=>by rw[conv]at e;all_goals (first|(cases e;exact r.ext (iY c))|simp)
 | .dN _ _,d',v,e,r=>by rw[conv]at e;all_goals (first|(cases e;exact r.ext (iY c))|simp)
theorem Dt{ρ:List Addr}{S:Store}{sl:aT}{cs:Cs}{cn:List Str}(I:Inv X pins σ H s)(w:aN X.K X.mg ρ H S)(rs:cH X.K X.mg ρ H σ sl)(c:iz cs (frs X.stack) H s.heap)(hk:∀n∈cn,X.env.kindOf n=some .cell)(k3:∀n∈cn,∃c o,X.env.cells.lookup n=some c/\cs.lookup c=some o) :
  ∀(ds gp:List D) (vs:List V),jN cn X.N X.env.cells sl ds=some gp->ay X.K X.mg ρ H ds vs->ay X.K X.mg ρ (eU cs H) gp vs
 |[],gp,vs,e,r=>by rw[jN]at e;cases e;rw[ay]at r;subst r;rfl
 |d::ds,gp,vs,e,r=>by
  rw[jN]at e;split at e
  .rename_i a b ea eb
   cases e;rw[ay]at r;obtain⟨v,bY,ev,h1,h2⟩:=r;subst ev;exact ay.cons (Xp I w rs c hk k3 d a v ea h1) (Dt I w rs c hk k3 ds b bY eb h2)
  .cases e
end
end
def nS(cn N:List Str)(aU:List (Str×Addr))(g:aB)(fa:du):aM:=λsl S=>(fa sl S).bind λds S1=>match jN cn N aU sl ds with
 |some gp=>(match g gp S1 with
  | .ok d S2=>if eD d=true/\g0 S2=true then .ok d S2 else .bad
  |_=>.bad)
 |none=>.bad
section
variable{X:Cx}{W:WX}{k:Nat}{f:Addr}{g:aB}{x:Str}{p pos:Pos}{e:Expr}{es:List Expr}{fa:du}{cn:List Str}
theorem agV{pins:List (Addr×Obj)}{σ:L2.St}{H:Hp}{s:Shared}{cs:Cs}(I:Inv X pins σ H s)(c:iz cs (frs X.stack) H s.heap)(hb:∀b o,cs.lookup b=some o->X.base.get? b=none):Env0 X.prog X.w X.K X.mg X.base X.A X.stack s (eU cs H):=by
 have bB:=I.env0;refine⟨bB.frames,bB.mod,λb o q=>⟨(bB.bs b o q).1,?_⟩,bB.bsz,bB.funs,λb hm=>?_,Ia c bB.hok,bB.bare⟩
 .cases y:cs.lookup b with
  |some u=>grind
  |none=>rw[eV y];exact(bB.bs b o q).2
 .cases y:cs.lookup b with
  |some u=>exact absurd hm (c.nofs b u y)
  |none=>rw[eV y];exact bB.frf b hm
theorem Du(F:aZ X.prog X.w X.K X.mg X.base k f g)(hr:Room k X.A)(hm:X.mg x=some (.ref f))(hk:PySem.W.keepIn X.K (.ref f)=true)(xh:∀x,X.fn x=true)(k3:∀n∈cn,X.env.kindOf n=some .cell)
  (ha:gQ X W (e::es) fa) (hg:Gl X x:=by rfl) (gR:(x==("__debug__":Str))=false:=by decide) (he:starEach (e::es) X.env=(false,eval e X.env)::starEach es X.env:=by rfl) (fK:(backTo pos (starEach es X.env)).any (·.1)=false:=by rfl) :
  E X W (.Call (.Name x p) (e::es) [] pos) (nS cn X.N X.env.cells g fa):=by
 refine⟨λpins s σ H Q I h=>?_⟩;refine wpAny_Call_Name_kw (ld_glob I hg hm ?_ gR);obtain⟨ρ,S,sl,w,rs,p⟩:=h;refine qD (h₀:=X.base) I.ok.mod.kin hk (thn (ha.run pos pins s σ H (λvs H1=>∃aA S1 ds,Ext ρ H aA H1/\aN X.K X.mg aA H1 S1/\ay X.K X.mg aA H1 ds vs/\aV X.K X.mg (WE W σ) aA H1 Q (match jN cn X.N X.env.cells sl ds with
  |some gp=>(match g gp S1 with
   | .ok d S2=>if eD d=true/\g0 S2=true then .ok d S2 else .bad
   |_=>.bad)
  |none=>.bad)) I ⟨ρ,S,sl,w,rs,eZ.mono (eZ.fJ p) λvs H1 ⟨aA,S1,ds,x1,aF,r1,_,p1⟩=>⟨aA,S1,ds,x1,aF,r1,p1⟩⟩) λus s1 ⟨vs,H1,I1,r,aA,S1,ds,x1,aF,cu,q⟩=>⟨I1.kIn,?_⟩) he fK
 have lQ:=rs.ext x1;obtain⟨cs,c,xj,agW⟩:=Xm I1 xh cn k3;cases eJ:jN cn X.N X.env.cells sl ds with
 |none=>rw[eJ]at q;exact q.elim
 |some gp =>
  rw[eJ]at q;dsimp only at q;cases nK:g gp S1 with
  |bad=>rw[nK]at q;exact q.elim
  |ex _ _=>rw[nK]at q;exact q.elim
  |ok d S2 =>
   rw[nK]at q;dsimp only at q;by_cases hn:eD d=true/\g0 S2=true
   .rw[if_pos hn]at q
    have Ie:=Dt I1 aF lQ c k3 agW ds gp vs eJ cu;have p':∀b o,cs.lookup b=some o->b∉aA:=λb o y=>aF.nin (c.non b o y);have f9:wU X.K X.mg g vs (eU cs H1) (λv aD=>∃aO,Ext aA (eU cs H1) aO aD/\aN X.K X.mg aO aD S2/\Rep X.K X.mg aO aD d v) (λ_ _ _=>False):=by
     refine⟨aA,S1,gp,OB c aF,Ie,?_⟩;rw[nK];exact λv aO aD x2 cm r2=>⟨aO,x2,cm,r2⟩
    refine wpAny_call (codeAny_mono (F X.A X.stack s1 (eU cs H1) us vs _ (λ_ _ _=>False) hr (agV I1 c xj) r f9) λr s' hq=>?_);cases r with
    |error fU=>exact(V4 hq).elim
    |ok fl =>
     cases fl with
     |ret u =>
      obtain⟨v,aD,os2,Dw,Ig,Ih,aW,aO,x2,cm,r2⟩:=hq;obtain⟨ci,agX⟩:=agN p' ri x2;refine I1.after ⟨v,hY cs aD,os2,Dw,agL c Ih ci Ig,Xh ci Ih,aW,?_⟩;exact q v aO (hY cs aD) (agM c x2) (Xj ci agX hn.2 cm) (agJ ci hn.1 r2)
     |next=>exact False.elim hq
     |brk=>exact False.elim hq
     |cont=>exact False.elim hq
   .rw[if_neg hn]at q;exact q.elim
end
def Dx(H:Hp)(h:Heap)(a_:List (Str×Addr)):List Str->List V->Prop
 |[],vs=>vs=[]
 |n::ns,vs=>∃v r c o u,vs=v::r/\a_.lookup n=some c/\H c=none/\h.get? c=some o/\o.data=.cell (some u)/\RelV v u/\(∀m∈ns,a_.lookup m≠some c)/\Dx H h a_ ns r
def Dy(h:Heap)(dvs:List V)(cG:Value):Prop:=(dvs=[]/\cG=.none)\/(dvs≠[]/\∃(t:Addr) (us:List Value),cG=.ref t/\Vals dvs us/\IsTup h t us.toArray)
def nT(P:Program)(w:World)(K:PySem.W.Frag)(mg:Str->Option Value)(base:Heap)(k:Nat)(T:dj)(l:aB):Prop :=
 ∀(A:Around) (outer:List Env) (s:Shared) (H:Hp) (f c':Addr) (a_:List (Str×Addr)) (pm doc cG dz:Value) (ρ:List Addr) (S:Store) (caps:List D) (vs:List V) (Q:VK) (E:XK),Room k A->Env0 P w K mg base A outer s H ->
  s.heap.get? f=some (PySem.W.kdv_obj "<lambda>" T.qual T.params (.expr T.body) T.scope a_ cG doc pm c' dz)->(∃(cL:Obj) (ws:Array Value) (t:Tok),s.heap.get? c'=some cL/\cL.data=.fields ws/\ws[1]?=some (.str T.qual t))->Dy s.heap T.dvs cG->Dx H s.heap a_ T.names vs->(∃aU,a_=cloFrom aU T.scope.names []) ->
  aN K mg ρ H S->ay K mg ρ H caps vs->aV K mg E ρ H Q (l caps S)->codeAny (model P w) A (.call (.ref f) ⟨[],[]⟩) (CR (Z.CX P w) outer P w H s Q E) s
def Dz(L:dj->Option aB)(i:Nat):aM:=λsl S=>match sl[i]? with
 |some (some (.dN T caps))=>(match L T with
  |some l=>if g0 S=true/\dw caps=true then l caps S else .bad
  |none=>.bad)
 |_=>.bad
section
variable{H:Hp}{h:Heap}{ρ:List Addr}{a_:List (Str×Addr)}
theorem Xq{P:Program}{w:World}(x:HOk P w H h):∀{ns:List Str} {vs:List V},nq ρ H a_ ns vs->∃cs:Cs,jM cs H/\(∀b o,cs.lookup b=some o->b∉ρ)/\(∀b o,cs.lookup b=some o->∀vs,o.data≠.fields vs)/\∀n∈ns,∃c o,a_.lookup n=some c/\cs.lookup c=some o
 |[],_,_=>⟨([]:Cs),(λc o q=>by simp at q),(λc o q=>by simp at q),(λc o q=>by simp at q),(λn q=>by simp at q)⟩
 |n::ns,_,⟨v,r,c,o,u,e,h1,n1,h2,aH,bT,hd,cZ⟩=>by
  obtain⟨cs,a1,a2,u6,a3⟩:=Xq x cZ;have cons:∀{b:Addr} {y:Obj},((c,o)::cs).lookup b=some y->(b=c/\y=o)\/cs.lookup b=some y:=λ{b y} q=>by
   grind
  refine⟨(c,o)::cs,λb y q=>?_,λb y q=>?_,λb y q vs e=>?_,λm hm=>?_⟩
  .rcases cons q with⟨rfl,rfl⟩|q
   .exact h2
   .exact a1 b y q
  .grind
  .grind
  .rcases fQ.mp hm with rfl|hm
   .simp_all
   grind
theorem Xr{P:Program}{w:World}{cs:Cs}(x:HOk P w H h)(ci:jM cs H):∀{ns:List Str} {vs:List V},(∀n∈ns,∃c o,a_.lookup n=some c/\cs.lookup c=some o)->nq ρ H a_ ns vs->Dx (hY cs H) h a_ ns vs
 |[],_,_,hc=>hc
 |n::ns,_,gK,⟨v,r,c,o,u,e,h1,n1,h2,aH,bT,hd,cZ⟩=>by
  obtain⟨c2,sI,aw,e2⟩:=gK n (ow ..);rw[h1]at aw;cases aw;exact⟨v,r,c,o,u,e,h1,Dr e2,(x c _ h2).1,aH,bT,hd,Xr x ci (λm hm=>gK m (iH _ hm)) cZ⟩
end
section
variable{cs:Cs}{fs ρ av:List Addr}{H H':Hp}{h h' B:Heap}
theorem agY(c:iz cs fs H h)(u:UB fs H H' h B h'):UB fs (eU cs H) (eU cs H') h B h':=by
 refine⟨λb o e n hb=>?_,λb o e hb=>u.slot b o e hb,λb o e n=>?_,u.there,λb xs e=>?_,λb o v e=>?_,λb ps e=>?_⟩
 .have q:=(ri (cs:=cs) (H:=H)).Ds n
  rw[eV q]at n;exact u.keep b o e n hb
 .have q:=(ri (cs:=cs) (H:=H)).Ds n
  rw[eV q]at n ⊢;exact u.free b o e n
 .have q:=(ri (cs:=cs) (H:=H)).out e (by intros;nofun)
  rw[eV q]at e ⊢;exact u.tups b xs e
 .cases q:cs.lookup b with
  |some cL=>rw[u3 q]at e ⊢;exact e
  |none=>rw[eV q]at e ⊢;exact u.frzs b o v e
 .have q:=(ri (cs:=cs) (H:=H)).out e (by intros;nofun)
  rw[eV q]at e ⊢;exact u.tbls b ps e
theorem agZ(ci:jM cs H)(p':∀b o,cs.lookup b=some o->b∉ρ)(hn:∀b o,cs.lookup b=some o->b∉av)(x:Ext ρ (hY cs H) av H'):Ext ρ H av (eU cs H'):=by
 refine⟨x.pre,λa ha n=>?_,λa o n e=>?_⟩
 .have q:=x.new a ha n
  cases y:cs.lookup a with
  |some o=>grind
  |none=>rw[fW y]at q;exact q
 .cases y:cs.lookup a with
  |some cL=>rw[ci a cL y]at e;cases e;exact .inl (u3 y)
  |none=>rw[eV y];exact x.keep a o n (by rw[fW y];exact e)
end
section
variable{X:Cx}{W:WX}{k i:Nat}{a:Str}{p1 p2:Pos}{L:dj->Option aB}
theorem ag0(tk:Takes X W)(dZ:∀T l,L T=some l->nT X.prog X.w X.K X.mg X.base k T l)(hr:Room k X.A)(gF:X.N[i]?=some a)(bP:Vis X.env.scope a)(hd:(a==("__debug__":Str))=false:=by decide)(g9:(a==("__classdict__":Str))=false:=by decide) :
  E X W (.Call (.Name a p1) [] [] p2) (Dz L i):=by
 refine⟨λpins s σ H Q I h=>?_⟩;obtain⟨ρ,S,sl,w,rs,p⟩:=h;unfold Dz at p;split at p
 .rename_i T caps ag1
  split at p
  .rename_i l el
   split at p
   .rename_i hn
    obtain⟨v,ev,aW⟩:=rs.at_ i _ ag1;rw[Rep]at aW;obtain⟨f,a_,vs,e,⟨nf,r9,pm,doc,cG,dz,c',ag2,UZ,mb,tu⟩,j',cu⟩:=aW;subst e;refine wpAny_Call_Name_kw (thn ((pe_var (pos:=p1) (i:=i) gF bP hd g9).run pins s σ H (λv H1=>v=.ref f/\H1=H) I ⟨.ref f,ev,rfl,rfl⟩) λu s1 ⟨v,H1,I1,r1,bN⟩=>?_);obtain⟨ag3,ag4⟩:=bN;subst ag3;subst ag4;obtain rfl:u=Value.ref f:=r1;have Xt:s1.heap.get? f=some (PySem.W.kdv_obj "<lambda>" T.qual T.params (.expr T.body) T.scope a_ cG doc pm c' dz):=(I1.hok f _ ag2).1;obtain⟨cs,ci,p',av8,gK⟩:=Xq I1.hok j';have nofs:∀b o,cs.lookup b=some o->b∉frs X.stack:=λb o y hm=>by
     have:=I1.stkFree b hm;rw[ci b o y]at this;cases this
    have u9:=agO ci nofs I1.hok;have bB:Env0 X.prog X.w X.K X.mg X.base X.A X.stack s1 (hY cs H1):=by
     have z:=I1.env0;refine⟨z.frames,z.mod,λb o q=>⟨(z.bs b o q).1,?_⟩,z.bsz,z.funs,λb hm=>?_,Xh ci z.hok,z.bare⟩
     .cases y:cs.lookup b with
      |some u=>exact Dr y
      |none=>rw[fW y];exact(z.bs b o q).2
     .cases y:cs.lookup b with
      |some u=>grind
      |none=>rw[fW y];exact z.frf b hm
    have mR:∃(cL:Obj) (ws:Array Value) (t:Tok),s1.heap.get? c'=some cL/\cL.data=.fields ws/\ws[1]?=some (.str T.qual t):=(I1.hok c' _ mb).1;have ag5:Dy s1.heap T.dvs cG:=by
     rcases tu with⟨h1,h2⟩|⟨h1,t,h2,_,aH⟩
     .exact .inl ⟨h1,h2⟩
     .obtain⟨_,us,cU,ht⟩:ObjOk X.prog X.w H1 s1.heap t (.tup T.dvs):=I1.hok t _ aH
      exact .inr ⟨h1,t,us,h2,cU,ht⟩
    refine PySem.W.callWith_F0 ⟨_,_,_,_,Xt⟩ ?_;have back:∀{aO:List Addr} {S2:Store} {aD:Hp},(∀b o,cs.lookup b=some o->aD b=none)->Ext ρ (hY cs H1) aO aD->aN X.K X.mg aO aD S2->Ext ρ H1 aO (eU cs aD)/\Ext aO aD aO (eU cs aD)/\aN X.K X.mg aO (eU cs aD) S2:=λ{aO S2 aD} lX x2 cm=>by
     have ag6:∀{aH:Heap},(∀c o,cs.lookup c=some o->aH.get? c=some o)->iz cs [] aD aH:=λ{aH} hg=>⟨hg,lX,λc o _=>by simp⟩
     have c3:iz cs [] aD s1.heap:=ag6 u9.get;exact⟨agZ ci p' (λb o y=>cm.nin (lX b o y)) x2,iY c3,OB c3 cm⟩
    have ag7:=dZ T l el X.A X.stack s1 (hY cs H1) f c' a_ pm doc cG dz ρ S caps vs
     (λv aD=>∃aO S2 d,l caps S=.ok d S2/\Ext ρ (hY cs H1) aO aD/\aN X.K X.mg aO aD S2/\Rep X.K X.mg aO aD d v)
     (λC dd aD=>∃aO S2 d,l caps S=.ex d S2/\Ext ρ (hY cs H1) aO aD/\aN X.K X.mg aO aD S2/\oA X.K X.mg aO aD d C dd) hr bB Xt mR ag5 (Xr I1.hok ci gK j') r9 (Xj ci p' hn.1 w) (xg ci hn.2 cu) (by
      cases o:l caps S with
      |ok d S2=>exact λv aO aD x2 cm r2=>⟨aO,S2,d,rfl,x2,cm,r2⟩
      |ex d S2=>exact λC dd aO aD x2 cm r2=>⟨aO,S2,d,rfl,x2,cm,r2⟩
      |bad=>rw[o]at p;exact p.elim)
    refine wpAny_call (codeAny_mono ag7 λr s' hq=>?_);cases r with
    |ok fl =>
     cases fl with
     |ret u =>
      obtain⟨v,aD,os2,Dw,Ig,Ih,ag8,aO,S2,d,wH,x2,cm,r2⟩:=hq;have c2:=u9.un Ig;obtain⟨b1,hH,DA⟩:=back c2.non x2 cm;rw[wH]at p;have ag9:Un (frs X.stack) [] H1 (eU cs aD) s1.heap s'.heap:=by
       have z:=agP u9 Ig;rw[Xk ci]at z;exact z
      exact I1.after ⟨v,eU cs aD,os2,Dw,ag9,Ia c2 Ih,ag8,p v aO _ b1 DA (r2.ext hH)⟩
     |next=>exact False.elim hq
     |brk=>exact False.elim hq
     |cont=>exact False.elim hq
    |error fU =>
     obtain⟨ea,B,aD,cls,dd,rfl,Xu,L',ub,na,os2,Dw,aO,S2,d,wH,x2,cm,r2⟩:=hq;have lX:∀b o,cs.lookup b=some o->aD b=none:=λb o y=>ub.free b o (u9.get b o y) (u9.non b o y);have oG:∀b o,cs.lookup b=some o->B.get? b=some o:=λb o y=>ub.keep b o (u9.get b o y) (u9.non b o y) (nofs b o y);obtain⟨b1,hH,DA⟩:=back lX x2 cm;rw[wH]at p;have aha:UB (frs X.stack) H1 (eU cs aD) s1.heap B s'.heap:=by
      have z:=agY u9 ub;rw[Xk ci]at z;exact z
     have ahb:cs.lookup ea=none:=by
      cases y:cs.lookup ea with
      |none=>rfl
      |some o =>
       have:=oG ea o y;rw[Xu.2.1]at this;cases this
     have Xv:iz cs [] aD B:=⟨oG,lX,λc o _=>by simp⟩
     refine su tk σ pins H1 s1 _ s' I1 ⟨ea,B,eU cs aD,cls,dd,rfl,adn Xu λb o vs aw e2 a6=>⟨aw,by
      cases y:cs.lookup b with
      |none=>rw[eV y];exact e2
      |some cL =>
       grind⟩,Ia Xv L',aha,by rw[eV ahb];exact na,os2,Dw,?_⟩
     refine p cls dd aO _ b1 DA ?_;obtain⟨jD,ahc,ahd,kj,hD,ahe,aw,e2,a6,dA,e5,xk,DB,OH⟩:=r2;have Dq:cs.lookup hD=none:=by
      cases y:cs.lookup hD with
      |none=>rfl
      |some o=>grind
     exact⟨jD,ahc,ahd,kj,hD,ahe,aw,e2,a6,dA,e5,by rw[eV Dq];exact xk,DB,OH.ext hH⟩
   .exact p.elim
  .exact p.elim
 .exact p.elim
end
structure u_(T:dj)(locs:List Str):Prop where
 kind:T.scope.kind=.function
 co:T.scope.isCoroutine=false
 gen:T.scope.isGenerator=false
 nocell:∀y∈T.scope.names,y.2≠.cell
 free:∀n∈T.names,T.scope.names.lookup n=some .free
 all:∀y∈T.scope.names,y.2=.free->y.1∈T.names
 loc:∀n∈locs,T.scope.names.lookup n=some .local
 nd:(T.names++locs).Nodup
 len:locs.length=T.dvs.length
 bind:∀(s:Shared) (a_:List (Str×Addr)) (pm doc c7 dz cG:Value),Dy s.heap T.dvs cG->∃us,Vals T.dvs us/\BindsTo s (PySem.W.kdv_fn "<lambda>" T.qual T.params (.expr T.body) T.scope a_ cG doc pm c7 dz) ⟨[],[]⟩ (locs.zip us)
abbrev xl(T:dj)(L f c':Addr)(a_:List (Str×Addr)):Env:=PySem.W.envX T.qual T.scope L f (.ref c') a_
def tv(P:Program)(w:World)(K:PySem.W.Frag)(mg:Str->Option Value)(base:Heap)(T:dj)(locs:List Str)(A:Around)(outer:List Env)(s:Shared)(H:Hp)(E:XK)(f c':Addr)(a_:List (Str×Addr)):Cx where
 prog:=P
 w:=w
 K:=K
 mg:=mg
 base:=base
 A:=A.deeper (xl T s.heap.objs.size f c' a_)
 N:=T.names++locs
 s_0:=s
 H_0:=H
 env:=xl T s.heap.objs.size f c' a_
 outer:=outer
 stack:=xl T s.heap.objs.size f c' a_::outer
 ex:=[]
 fn:=λ_=>false
 calm:=true
 pn:=[]
 xe:=λe s'=>wpAny (model P w) (A.deeper (xl T s.heap.objs.size f c' a_)) (leaving (xl T s.heap.objs.size f c' a_) e) (λ_ jZ=>Z.CX P w outer H s E e jZ) (λcN jZ=>Z.CX P w outer H s E cN jZ) s'
theorem Xw{H:Hp}{h:Heap}{a_:List (Str×Addr)}:∀{ns:List Str} {vs:List V},Dx H h a_ ns vs->ns.length=vs.length/\(∀(i:Nat) n v,ns[i]?=some n->vs[i]?=some v->∃c o u,a_.lookup n=some c/\H c=none/\h.get? c=some o/\o.data=.cell (some u)/\RelV v u)/\(∀n∈ns,∃c o u,a_.lookup n=some c/\H c=none/\h.get? c=some o/\o.data=.cell (some u))/\∀x∈ns,∀y∈ns,∀c,a_.lookup x=some c->a_.lookup y=some c->x=y
 |[],vs,e=>by
  have e:vs=[]:=e;grind
 |n::ns,_,⟨v,r,c,o,u,e,h1,h2,aH,bT,cZ,hd,hc⟩=>by
  subst e;obtain⟨a1,a2,a3,u6⟩:=Xw hc;grind
section
variable{P:Program}{w:World}{K:PySem.W.Frag}{mg:Str->Option Value}{base:Heap}{T:dj}{locs:List Str}{k:Nat}{fl:aM}
theorem ahf{A:Around}{outer:List Env}{s:Shared}{H:Hp}{E:XK}{f c':Addr}{a_:List (Str×Addr)}{vs:List V}{us:List Value}{h₁:Heap}{tk:Nat}(L:u_ T locs)(bB:Env0 P w K mg base A outer s H)(hd:A.handled=none)(hc:Dx H s.heap a_ T.names vs)(r9:∃aU,a_=cloFrom aU T.scope.names [])(cU:Vals T.dvs us)
  (fV:h₁.Ns s.heap.objs.size λy=>(locs.zip us).reverse.lookup y) (kp:∀b o,s.heap.get? b=some o->h₁.get? b=some o):Inv (tv P w K mg base T locs A outer s H E f c' a_) [] ((vs++T.dvs).map some) H { s with heap:=h₁,toks:=tk }:=by
 obtain⟨hl,zv,mU,hinj⟩:=Xw hc;have iZ:∀{x:Str} {c:Addr},a_.lookup x=some c->x∈T.names:=λ{x c} e=>by
  obtain⟨aU,ahg⟩:=r9;rcases cloFrom_mem (by rw[<-ahg];exact ju e)with hm|⟨hm,_⟩
  .cases hm
  .exact L.all _ hm rfl
 have xc:∀b:Addr,b∉(tv P w K mg base T locs A outer s H E f c' a_).ex:=λb z=>absurd (show b∈([]:List Addr)from z) (by simp);refine⟨⟨bB.mod,L.kind,rfl,rfl,Nat.le_refl _,λy z c aw e2=>hinj y (iZ aw) z (iZ e2) c aw e2,λy bD=>?_,λy c z _=>?_,λ_=>hd,Around.frames_deeper bB.frames,.inr ⟨rfl,rfl⟩,λb z=>absurd z (xc b),bB.bs,bB.bsz,λb _ _=>xc b,
   λb z=>absurd z (xc b),bB.funs,bB.frf⟩,
  rfl,bB.bare,Un.kept kp,⟨_,fV,λi y v aw e2 a6=>?_⟩,λy c e=>?_,bB.hok.fresh (Nat.le_refl _),λy c e=>?_,λq hq=>absurd (show q∈([]:List (Addr×Obj))++[]from hq) (by simp),bB.hok.kept kp,?_⟩
 .have bD:T.scope.names.lookup y=some .cell\/T.scope.names.lookup y=some .free:=bD
  rcases bD with bD|bD
  .exact absurd rfl (L.nocell _ (ju bD))
  .obtain⟨c,o,u,q,_⟩:=mU y (L.all _ (ju bD) rfl)
   exact⟨c,q⟩
 .exact absurd (show false=true from z) (by simp)
 .have aw:(T.names++locs)[i]?=some y:=aw
  have e2:((vs++T.dvs).map some)[i]?=some (some v):=e2;rw[List.getElem?_map]at e2;obtain⟨mK,e2,dA⟩:=fx.mp e2;cases dA;by_cases hi:i<T.names.length
  .rw[List.getElem?_append_left hi]at aw
   rw[List.getElem?_append_left (by omega)]at e2;obtain⟨c,o,u,bN,b3,e1,w2,OI⟩:=zv i y v aw e2;exact⟨u,OI,.inr ⟨.inr (L.free y (jV aw)),c,bN,o,kp _ _ e1,w2⟩⟩
  .rw[List.getElem?_append_right (by omega)]at aw
   rw[List.getElem?_append_right (by omega)]at e2;rw[<-hl]at e2;have hm:=jV aw;have nd:locs.Nodup:=(List.nodup_append.mp L.nd).2.1;obtain⟨u,aR,ahh⟩:=cU.get e2;refine⟨u,ahh,.inl ⟨L.loc y hm,?_⟩⟩;show(locs.zip us).reverse.lookup y=some u;rw[ZX.HY nd];obtain⟨u2,v2,lL,ig,zt⟩:=ZX.WZ nd cU (by rw[<-cU.length,L.len]) hm;have hidx:∀{locs:List Str} {us:List Value} {j:Nat},locs.Nodup->locs[j]?=some y->us[j]?=some u->(locs.zip us).lookup y=some u:=by
    intro locs
    induction locs with
    |nil=>simp
    |cons n locs ih =>
     intro us j nd bN b3;cases us with
     |nil=>simp at b3
     |cons av9 us =>
      cases j with
      |zero=>simp_all
      |succ j =>
       have bN:locs[j]?=some y:=by simpa using bN
       have ne:(y==n)=false:=by
        simp only[beq_eq_false_iff_ne,ne_eq];rintro rfl;exact(qC.mp nd).1 (jV bN)
       rw[yu,List.lookup_cons,ne];grind
   grind
 .obtain⟨c2,o,u,bN,b3,e1,w2⟩:=mU y (iZ e)
  have e:a_.lookup y=some c:=e;rw[e]at bN;cases bN;exact⟨some u,o,kp _ _ e1,w2⟩
 .obtain⟨c2,o,u,bN,b3,e1,w2⟩:=mU y (iZ e)
  have e:a_.lookup y=some c:=e;grind
 .show((vs++T.dvs).map some).length=(T.names++locs).length
  simp[hl,L.len]
def u'(fC:List D)(fl:aM):aB:=λcaps S=>fin S (fl ((caps++fC).map some) S)
theorem zI{fC:List D}(L:u_ T locs)(GX:∀ρ H,ay K mg ρ H fC T.dvs)
  (hb:∀(A:Around) (outer:List Env) (s:Shared) (H:Hp) (E:XK) (f c':Addr) (a_:List (Str×Addr)),Room k (A.deeper (xl T s.heap.objs.size f c' a_))->Z.E (tv P w K mg base T locs A outer s H E f c' a_) (λc d _ H'=>E c d H') T.body fl) :
  nT P w K mg base (k+1) T (u' fC fl):=by
 intro A outer s H f c' a_ pm doc cG dz ρ S caps vs Q E hr bB hf g9 tu hc r9 dQ cu p;obtain⟨cL,ws,t,qa,ahi,ahj⟩:=g9;obtain⟨us,cU,p_⟩:=L.bind s a_ pm doc (.ref c') dz cG tu;have lim:s.heap.NoLimit:=bB.mod.nolimit.keeps λb o e=>(bB.bs b o e).1;refine PySem.W.kla_callFunE hr.depth hf rfl L.co L.gen rfl ⟨c',cL,ws,t,rfl,qa,ahi,ahj⟩ (p_ _ _ _ _ ?_);refine wpAny_newFunctionEnv L.nocell (λy bD=>L.loc y.1 (uo bD).1) (λh₁ fV Xx=>⟨lim.fresh _ Xx,?_⟩) L.kind;show codeAny _ _ (.expr T.body (xl T s.heap.objs.size f c' a_)) _ _;have kp:∀b o,s.heap.get? b=some o->h₁.get? b=some o:=λb o e=>Xx.extBut b o (h_ (Heap.lt_size e)) (Heap.get?_push_of_some _ e);have J:=ahf (E:=E) (f:=f) (c':=c') (tk:=s.toks+(locs.zip us).length) L bB hr.hd hc r9 cU fV kp;have p:=yU dQ p;refine PySem.W.kla_codeExpr (wpAny_mono ((hb A outer s H E f c' a_ (hr.deeper _)).run [] _ _ H Q J ⟨ρ,S,(caps++fC).map some,dQ,⟨?_,λi d e=>?_⟩,p⟩) (λv s' hq=>?_) λe s' hq=>hq)
 .simp[cu.len,(GX ρ H).len]
 .rw[List.getElem?_map]at e
  obtain⟨d',aw,e2⟩:=fx.mp e;cases e2;obtain⟨v,h1,h2⟩:=(cu.append (GX ρ H)).get aw;exact⟨v,by grind,h2⟩
 .obtain⟨dE,H',hP,aW,q⟩:=hq
  exact⟨dE,H',hP.os,hP.bare,hP.base,hP.hok,aW,q⟩
end
section
variable{X:Cx}{pins:List (Addr×Obj)}{σ:L2.St}{H:Hp}{s:Shared}
theorem Xy{ρ:List Addr}{S:Store}{ti:Nat}{c P:Addr}{q:Str}{params:Arguments}{body:Expr}{scope:Scope}{pos:Pos}{ln:Nat}{cG:Value}{E:Value->Shared->Prop}{Q:Value->Shared->Prop}(I:Inv X pins σ H s)(ky:LamX.TabB X.base X.mg c P)(mR:X.env.code=.ref c)
  (w:aN X.K X.mg ρ H S) (bO:S[ti]?=some (.tab P q)) (u5:∀y∈scope.names,y.2=.free->∃c,X.env.cells.lookup y.1=some c)
  (h:∀(f c':Addr) (pm doc dz:Value) (H1:Hp) (s':Shared),Inv X pins σ (upd H1 f (yN f (PySem.W.kdv_obj "<lambda>" q params (.expr body) scope (cloFrom X.env.cells scope.names []) cG doc pm c' dz))) s'->H1 f=none->Ext ρ H ρ H1->aN X.K X.mg ρ H1 S->c'∉ρ->H1 c'=some (LamX.CodeO c' q)->Q (.ref f) s') :
  wpAny (model X.prog X.w) X.A (makeTail "<lambda>" q params (.expr body) scope X.env cG .none none pos ln) Q E s:=by
 obtain⟨a,OJ⟩:∃a,ρ[ti]?=some a:=by
  have hl:=(List.getElem?_eq_some_iff.mp bO).1;rw[<-w.len]at hl;simp_all
 obtain⟨ahk,ps,bU,ht,ha⟩:=w.ob ti a _ OJ bO;subst ahk;have awa:a∈ρ:=jV OJ;have Xz:s.heap.BuiltinsAt X.mg a:=ky.bm.keeps I.bk;have OL:s.heap.get? a=some { cls:=.none,data:=.fields ps }:=I.hok a _ bU;cases hc:codeAmong pos ps.toList with
 |none =>
  refine PySem.W.kdv_makeTail (mg:=X.mg) (c:=c) (P:=a) (ps:=ps) (closure_ok u5) I.ok.glob (I.mod.glob.keeps I.bk) mR (ky.code.keeps I.bk) OL ht hc ky.gP Xz λc' dz doc h' tk hx DC c6 gy ahl=>?_;obtain⟨c2,cL,vs,t,e2,qa,hd,bP⟩:=gy;cases e2;have OM:H c'=none:=I.hok.fresh DC;have I1:=LamX.inv_table (t':=tk) (more := #[rawInt pos.line,rawInt pos.col,.ref c']) (h':=h') (q:=q) I bU (λb o hb e=>hx b o hb e) ahl DC ⟨cL,vs,t,qa,hd,bP⟩;have XA:a≠c':=ne_of_none bU OM;have lG:Ext ρ H ρ (upd (upd H a (.tbl (ps ++ #[rawInt pos.line,rawInt pos.col,.ref c']))) c' (LamX.CodeO c' q)):=⟨⟨[],by simp⟩,λb x n=>absurd x n,λb o n e=>.inl (by
   have nb:b≠a:=λz=>n (by grind);rw[upd_ne (ne_of_none e OM),upd_ne nb];exact e)⟩
  have XB:(ps ++ #[rawInt pos.line,rawInt pos.col,.ref c']).toList=ps.toList++[rawInt pos.line,rawInt pos.col,.ref c']:=by simp
  have DE:c'∉ρ:=w.nin OM;have aF:aN X.K X.mg ρ (upd (upd H a (.tbl (ps ++ #[rawInt pos.line,rawInt pos.col,.ref c']))) c' (LamX.CodeO c' q)) S:=by
   have at_:∀b∈ρ,b≠a->upd (upd H a (.tbl (ps ++ #[rawInt pos.line,rawInt pos.col,.ref c']))) c' (LamX.CodeO c' q) b=H b:=λb hb n=>by
    have nb:b≠c':=λz=>DE (by grind);rw[upd_ne nb,upd_ne n]
   refine⟨w.len,w.nd,λb hb=>?_,λn b m aw e2=>?_⟩
   .by_cases z:b=a
    .rw[z,upd_ne XA,upd_same];simp
    .rw[at_ b hb z];exact w.tr b hb
   .by_cases z:b=a
    .subst z
     have hn:n=ti:=by
      have l1:=List.getElem?_eq_some_iff.mp aw;have l2:=List.getElem?_eq_some_iff.mp OJ;obtain⟨a1,b1⟩:=l1;obtain⟨a2,hH⟩:=l2;exact(List.getElem_inj (h₀:=a1) (h₁:=a2) w.nd).mp (b1.trans hH.symm)
     subst hn;rw[bO]at e2;cases e2;refine⟨rfl,_,by rw[upd_ne XA,upd_same],by rw[XB];exact PySem.TriplesOk_snoc _ _ _ _ ht,λdX lD Ii=>?_⟩;rw[XB]at Ii;rcases LamX.among_app _ ht Ii with z|z
     .obtain⟨jD,aw,XC,a6⟩:=ha dX lD z
      exact⟨jD,aw,XC,lG.kept XC a6 (by intros;nofun)⟩
     .exact⟨c',z,DE,upd_same⟩
    .exact kh.ext lG (at_ b (jV aw) z) (w.ob n b m aw e2)
  have n1:h'.objs.size≠c':=um c6;have eR:s.heap.objs.size<=h'.objs.size:=Nat.le_trans DC (jv c6);have n2:h'.objs.size≠a:=um (mA (Heap.lt_size OL) eR);have jh:(h'.push (PySem.W.kdv_obj "<lambda>" q params (.expr body) scope (cloFrom X.env.cells scope.names []) cG doc ((X.mg "__name__").getD .none) c' dz)).get? h'.objs.size=some (PySem.W.kdv_obj "<lambda>" q params (.expr body) scope (cloFrom X.env.cells scope.names []) cG doc ((X.mg "__name__").getD .none) c' dz):=Heap.get?_push_size _ rfl;have I2:=I1.laid (t':=tk) (a:=h'.objs.size) (o:=yN h'.objs.size (PySem.W.kdv_obj "<lambda>" q params (.expr body) scope (cloFrom X.env.cells scope.names []) cG doc ((X.mg "__name__").getD .none) c' dz)) (h':=h'.push (PySem.W.kdv_obj "<lambda>" q params (.expr body) scope (cloFrom X.env.cells scope.names []) cG doc ((X.mg "__name__").getD .none) c' dz)) (λb o e=>Heap.get?_push_of_some _ e) (Nat.le_refl _) ⟨jh,⟨_,jh⟩,λh1 h2 e st=>st _ e⟩;exact h h'.objs.size c' _ doc dz _ _ I2 (by rw[upd_ne n1,upd_ne n2];exact I.hok.fresh eR) lG aF DE upd_same
 |some lD =>
  obtain⟨c',e,DE,mb⟩:=ha pos lD hc;subst e;refine PySem.W.kdv_makeTailHit (mg:=X.mg) (c:=c) (P:=a) (ps:=ps) (closure_ok u5) I.ok.glob (I.mod.glob.keeps I.bk) mR (ky.code.keeps I.bk) OL ht hc Xz λdz doc h' tk hx eR=>?_;have jh:(h'.push (PySem.W.kdv_obj "<lambda>" q params (.expr body) scope (cloFrom X.env.cells scope.names []) cG doc ((X.mg "__name__").getD .none) c' dz)).get? h'.objs.size=some (PySem.W.kdv_obj "<lambda>" q params (.expr body) scope (cloFrom X.env.cells scope.names []) cG doc ((X.mg "__name__").getD .none) c' dz):=Heap.get?_push_size _ rfl;have I1:Inv X pins σ H { s with heap:=h',toks:=tk }:=I.kept hx;have I2:=I1.laid (t':=tk) (a:=h'.objs.size) (o:=yN h'.objs.size (PySem.W.kdv_obj "<lambda>" q params (.expr body) scope (cloFrom X.env.cells scope.names []) cG doc ((X.mg "__name__").getD .none) c' dz)) (h':=h'.push (PySem.W.kdv_obj "<lambda>" q params (.expr body) scope (cloFrom X.env.cells scope.names []) cG doc ((X.mg "__name__").getD .none) c' dz)) (λb o e=>Heap.get?_push_of_some _ e) (Nat.le_refl _) ⟨jh,⟨_,jh⟩,λh1 h2 e st=>st _ e⟩;exact h h'.objs.size c' _ doc dz H _ I2 (I.hok.fresh eR) Ext.refl w DE mb
def iA(ti:Nat)(P:Addr)(aU:List (Str×Addr))(T:dj):aM:=λ_ S=>match S[ti]? with
 |some (.tab q2 q)=>open Classical in if q2=P/\q=T.qual then .ok (.lam T (cloFrom aU T.scope.names [])) S else .bad
 |_=>.bad
variable{W:WX}{ti:Nat}{c P:Addr}{T:dj}{pos:Pos}
theorem Ij(ky:LamX.TabB X.base X.mg c P)(mR:X.env.code=.ref c)(hq:T.qual=X.env.qual++"<lambda>")(OO:T.dvs=[])(ahm:defaultsOf T.params X.env=([],[]))(u5:∀y∈T.scope.names,y.2=.free->X.env.kindOf y.1=some .cell) :
  E X W (.Lambda T.params T.body T.scope pos) (iA ti P X.env.cells T):=by
 refine⟨λpins s σ H Q I h=>?_⟩;obtain⟨ρ,S,sl,w,rs,p⟩:=h;unfold iA at p;split at p
 .rename_i q2 q zJ
  split at p
  .rename_i OQ
   obtain⟨rfl,rfl⟩:=OQ;refine PySem.W.kla_eval ahm ?_;rw[makeFunction_eq];simp only[List.zip_nil_right,KQ,List.isEmpty_nil,if_true,pure_bind];rw[<-hq];refine Xy I ky mR w zJ (λy bD e=>I.ok.has _ (.inl (u5 y bD e))) λf c' pm doc dz H1 s' J nf x1 aF r' mb=>?_;have x2:Ext ρ H1 ρ (upd H1 f (yN f (PySem.W.kdv_obj "<lambda>" T.qual T.params (.expr T.body) T.scope (cloFrom X.env.cells T.scope.names []) .none doc pm c' dz))):=Ext.gG nf;have OS:c'≠f:=λz=>by grind
   refine⟨.ref f,_,J,rfl,p _ ρ _ (x1.trans x2) (aF.gG nf) ?_⟩;rw[Rep];exact⟨f,rfl,aF.nin nf,⟨_,rfl⟩,pm,doc,.none,dz,c',upd_same,r',by rw[upd_ne OS];exact mb,.inl ⟨OO,rfl⟩⟩
  .exact p.elim
 .exact p.elim
theorem XD{i:Int}{j:Nat}{p0:Pos}(ky:LamX.TabB X.base X.mg c P)(mR:X.env.code=.ref c)(hq:T.qual=X.env.qual++"<lambda>")(OO:T.dvs=[V.int i])(hd:T.params.defaults=[.Constant (.int i) j p0])(hk:T.params.kw_defaults=[])(u5:∀y∈T.scope.names,y.2=.free->X.env.kindOf y.1=some .cell) :
  E X W (.Lambda T.params T.body T.scope pos) (iA ti P X.env.cells T):=by
 refine⟨λpins s σ H Q I h=>?_⟩;obtain⟨ρ,S,sl,w,rs,p⟩:=h;unfold iA at p;split at p
 .rename_i q2 q zJ
  split at p
  .rename_i OQ
   obtain⟨rfl,rfl⟩:=OQ;refine PySem.W.kdv_lam (by rw[hd];rfl) hk ?_;rw[hd];refine PySem.W.kdv_all1 (wpAny_Constant_int (PySem.W.kdv_all0 ?_));rw[makeFunction_eq];simp only[List.zip_nil_right,KQ,List.isEmpty_nil,List.isEmpty_cons,uq,if_true,if_false,pure_bind];rw[<-hq];refine wpAny_bind (wpAny_newTextTuple ?_);have hn:H s.heap.objs.size=none:=I.hok.fresh (Nat.le_refl _);have jh:(s.heap.push { cls:=.type "tuple",data:=.seq [Value.int i s.toks].toArray }).get? s.heap.objs.size=some { cls:=.type "tuple",data:=.seq [Value.int i s.toks].toArray }:=Heap.get?_push_size _ rfl;have It:Inv X pins σ (upd H s.heap.objs.size (.tup [V.int i])) { s with heap:=s.heap.push { cls:=.type "tuple",data:=.seq [Value.int i s.toks].toArray },toks:=s.toks+1 } :=
    I.laid (t':=s.toks+1) (λb o e=>Heap.get?_push_of_some _ e) (Nat.le_refl _) ⟨by rw[sizeLine_eq];simp,[Value.int i s.toks],.cons ⟨_,rfl⟩ .nil,⟨_,jh,rfl,_,rfl⟩⟩
   have Cq:Ext ρ H ρ (upd H s.heap.objs.size (.tup [V.int i])):=Ext.gG hn;have ahn:=w.gG (o:=.tup [V.int i]) hn;have XF:s.heap.objs.size∉ρ:=w.nin hn;refine Xy It ky mR ahn zJ (λy bD e=>I.ok.has _ (.inl (u5 y bD e))) λf c' pm doc dz H1 s' J nf x1 aF r' mb=>?_;have x2:Ext ρ H1 ρ (upd H1 f (yN f (PySem.W.kdv_obj "<lambda>" T.qual T.params (.expr T.body) T.scope (cloFrom X.env.cells T.scope.names []) (.ref s.heap.objs.size) doc pm c' dz))):=Ext.gG nf;have OS:c'≠f:=λz=>by grind
   have Ik:H1 s.heap.objs.size=some (.tup [V.int i]):=x1.kept XF upd_same (by intros;nofun);have aho:s.heap.objs.size≠f:=λz=>by grind
   refine⟨.ref f,_,J,rfl,p _ ρ _ ((Cq.trans x1).trans x2) (aF.gG nf) ?_⟩;rw[Rep];exact⟨f,rfl,aF.nin nf,⟨_,rfl⟩,pm,doc,.ref s.heap.objs.size,dz,c',upd_same,r',by rw[upd_ne OS];exact mb,.inr ⟨by grind,_,rfl,XF,by rw[upd_ne aho,OO];exact Ik⟩⟩
  .exact p.elim
 .exact p.elim
end
open PySem L2
section
variable{Q:hJ}{sl:aT}{S:Store}
def Il(i:Nat)(Q:hJ):hJ:=⟨λsl S=>Q.nx (sl.set i none) S,λsl S=>Q.bk (sl.set i none) S,λsl S=>Q.ct (sl.set i none) S,Q.rt,λ_ _ _=>False⟩
def DF(tab:List (Str×Bool))(i:Nat)(fs:SX)(Q:hJ)(e:D)(sl:aT)(S:Store):Prop:=match e with
 | .ins c ns ds=>match tab.lookup c with
  |some true=>a0 (fs (sl.set i (some (.exc c ns ds))) S) (Il i Q)
  |some false=>Q.ex (.ins c ns ds) sl S
  |none=>False
 |e=>Q.ex e sl S
end
open PySem PySem.Spec L2
section
variable{X:Cx}
def Im:List D->Option (List Int)
 |[]=>some []
 | .int i::r=>(Im r).map (i :: ·)
 |_::_=>none
def qb:aB:=λds S=>match ds with
 |[.int i]=>.ok (.int (if i<0 then -i else i)) S
 |_=>.bad
theorem DG:iL X (.builtin "abs") qb:=by
 refine⟨_,call_abs,λWp ρ H S ds xs Q w r p=>?_⟩;unfold qb at p;split at p
 .obtain⟨v,e,h1⟩:=lK r
  rw[f6 h1]at e;exact⟨_,e,cA p w ie⟩
 .exact p.elim
def va:aB:=λds S=>match ds with
 |[.int i]=>if i.natAbs.log2<1920 then .ok (.str (toString i)) S else .bad
 |_=>.bad
theorem Io:iL X (.type "str") va:=by
 refine⟨_,call_str_int,λWp ρ H S ds xs Q w r p=>?_⟩;unfold va at p;split at p
 .split at p
  .rename_i h
   obtain⟨v,e,h1⟩:=lK r;rw[f6 h1]at e;exact⟨_,e,h,cA p w nC⟩
  .exact p.elim
 .exact p.elim
end
end Z
namespace PySem.W
open PySem PySem.Calls PyProof.Rows Builtin
section
variable{prog:Program}{w:World}{A:Around}{E:Value->Shared->Prop}{s:Shared}{K:Frag}{x C f:Addr}{zA:Obj}{od:Option Obj}
theorem ahp{op:CmpOp}{b tb:Value}{Q:Value->Shared->Prop}(aR:A.units<cLine)(X:K.In s.heap)(I:InstAt s.heap x zA C od)(hb:Looks (model prog w) s.heap (typeOf b) tb)(hn:notFirst K C tb=true)
  (hs:findIn K (.ref C) (cmpInfo op).2.1=some (some (.ref f))) (hf:isFn K (.ref f)=true)
  (h:wpAny (model prog w) A (call (.ref f) [.ref x,b]) (CmpBack Q) E s):wpAny (model prog w) A (richCompare op (.ref x) b) Q E s:=by
 have one:wpAny (model prog w) A (tryCompare (.ref x) (cmpInfo op).2.1 b) (λr s'=>∃v,r=some v/\Q v s') E s:=by
  unfold tryCompare;refine wpAny_bind (ifBound_K X I hs hf (wpAny_mono h (λv s' bP=>?_) λ_ _ e=>e));cases v<;>first|exact bP.elim|exact wpAny_pure ⟨_,rfl,bP⟩
 unfold richCompare;simp only[oneThing_ref];refine wpAny_holding (wpAny_bind (wpAny_cRoomFor aR ?_));refine wpAny_bind (I.type.here (wpAny_bind (hb.here ?_)));split
 .rename_i q
  have e:subIn K tb (.ref C)=some false:=by
   rcases Bool.or_eq_true_iff.mp hn with e|e
   .grind
   .grind
  refine wpAny_bind ((looks_subIn X e).here ?_);simp only[uq,if_false];refine wpAny_bind (wpAny_mono one (λr s' z=>?_) λ_ _ e=>e);obtain⟨v,rfl,hq⟩:=z;exact wpAny_pure hq
 .refine wpAny_bind (wpAny_pure ?_)
  simp only[uq,if_false];refine wpAny_bind (wpAny_mono one (λr s' z=>?_) λ_ _ e=>e);obtain⟨v,rfl,hq⟩:=z;exact wpAny_pure hq
end
end PySem.W
namespace Z
open PySem PySem.Spec L2 PyProof.Rows
structure nU(X:Cx)(W:WX)(f:Value->Value->Sem Value)(sem:b_):Prop where
 go:∀(pins:List (Addr×Obj)) (s:Shared) (σ:L2.St) (ρ:List Addr) (H:Hp) (S:Store) (d e:D) (x y:V) (v u:Value) (Q:VK),Inv X pins σ H s->RelV x v->RelV y u->aN X.K X.mg ρ H S->Rep X.K X.mg ρ H d x->Rep X.K X.mg ρ H e y ->
  aV X.K X.mg (λC dd H'=>W C dd σ H') ρ H Q (sem d e S)->wpAny (model X.prog X.w) X.A (f v u) (EP X pins σ Q) X.xe s
section
variable{X:Cx}{W:WX}{a b:Expr}{fa fb:aM}{pos:Pos}
theorem de.w{f:Value->Value->Sem Value}{sem:b_}(h:de X f sem):nU X W f sem:=⟨λpins s σ ρ H S d e x y v u Q I aW cU w aJ bS p=>by
 obtain⟨r,o,g⟩:=h.go;exact o pins s σ H x y v u Q I aW cU (g _ ρ H S d e x y Q w aJ bS p)⟩
theorem nU.or{f:Value->Value->Sem Value}{s t:b_}(h:nU X W f s)(h':nU X W f t):nU X W f (eu s t):=⟨λpins s0 σ ρ H S d e x y v u Q I aW cU w aJ bS p=>by
 unfold eu at p;cases q:s d e S with
 |bad=>rw[q]at p;exact h'.go pins s0 σ ρ H S d e x y v u Q I aW cU w aJ bS p
 |ok a b=>rw[q]at p;exact h.go pins s0 σ ρ H S d e x y v u Q I aW cU w aJ bS (by grind)
 |ex a b=>rw[q]at p;exact h.go pins s0 σ ρ H S d e x y v u Q I aW cU w aJ bS (by grind)⟩
theorem ahq{f:Value->Value->Sem Value}{sem:b_}(aY:nU X W f sem)(ha:E X W a fa)(hb:E X W b fb){pins:List (Addr×Obj)}{s:Shared}{σ:L2.St}{H:Hp}{Q:VK}(I:Inv X pins σ H s)(h:gO X.K X.mg W (aq sem fa fb) σ H Q){R:Value->Shared->Prop}
  (k:∀v u s2,wpAny (model X.prog X.w) X.A (f v u) (EP X pins σ Q) X.xe s2->wpAny (model X.prog X.w) X.A (f v u) R X.xe s2) :
  wpAny (model X.prog X.w) X.A (eval a X.env) (λv s₁=>wpAny (model X.prog X.w) X.A (eval b X.env) (λu s₂=>wpAny (model X.prog X.w) X.A (f v u) R X.xe s₂) X.xe s₁) X.xe s:=by
 obtain⟨ρ,S,sl,w,rs,p⟩:=h;refine thn (ha.run pins s σ H _ I ⟨ρ,S,sl,w,rs,aV.fJ p⟩) λv s1 ⟨x,H1,I1,r1,aA,S1,d,x1,aF,rd,_,p1⟩=>?_;refine thn (hb.run pins s1 σ H1 _ I1 ⟨aA,S1,sl,aF,rs.ext x1,aV.fJ p1⟩) λu s2 ⟨y,aD,I2,r2,aO,S2,e,x2,cm,re,_,p2⟩=>?_;exact k v u s2 (aY.go pins s2 σ aO aD S2 d e x y v u Q I2 r1 r2 cm (rd.ext x2) re p2)
theorem OT{op:CmpOp}{sem:b_}(aY:nU X W (compareOp op) sem)(ha:E X W a fa)(hb:E X W b fb)(hm:behindInMarks op b=false:=by first|exact nomark _|rfl):kO X W (.Compare a [op] [b] pos) (aI (aq sem fa fb)):=by
 refine⟨λpins s σ H Q I h=>?_⟩;obtain⟨ρ,S,sl,w,rs,p⟩:=h;have dX:=aV.bindB p;refine wpAny_isTrue_Compare1 (ahq (Q:=λv H1=>∃k,v=.bl k/\Q k H1) aY ha hb I ⟨ρ,S,sl,w,rs,aV.mono dX λv H1 ⟨aA,S1,d,x1,aF,r1,_,p1⟩=>?_⟩ λv u s2 z=>thn z λc s3 ⟨x,hT,wW,cg,k,e,e1⟩=>?_) hm
 .cases d with
  |bl k =>
   rw[Rep]at r1;exact⟨k,r1,p1 aA H1 Ext.refl aF⟩
  |_=>exact p1.elim
 .subst e
  cases cg;exact wpAny_truthy_bool ⟨hT,wW,e1⟩
theorem XG{pins:List (Addr×Obj)}{s:Shared}{σ:L2.St}{H:Hp}{p C bM:Addr}{fs:List (Str×V)}(I:Inv X pins σ H s)(ea:H p=some (.ins C bM fs)):∃zA od,PySem.W.InstAt s.heap p zA C od:=by
 obtain⟨Ni,O,_,_,_,_⟩:=ins_get I.hok ea;obtain⟨od,J,_⟩:=O.look;grind
theorem ahr(K:PySem.W.Frag)(k:nD)(C:Addr):PySem.W.subIn K (.type k.name) (.ref C)=some false:=by
 cases k<;>first|rfl|kernel_rfl
structure zK(X:Cx)(m:Str)(j:Nat)(tab:List (Str×aB)):Prop where
 at_:∀c g,jH tab c=some g->∀C,X.mg c=some (.ref C)->∃(f:Addr) (k:Nat),Meth X.K C m f/\aZ X.prog X.w X.K X.mg X.base k f g/\Room (k+j) X.A
theorem XH{m:Str}{j:Nat}:zK X m j []:=⟨λc g h=>by cases h⟩
theorem XI{m:Str}{j:Nat}{c:Str}{C f:Addr}{k:Nat}{g:aB}{tab:List (Str×aB)}(hm:X.mg c=some (.ref C))(oN:Meth X.K C m f)(F:aZ X.prog X.w X.K X.mg X.base k f g)(hk:Room (k+j) X.A)(h:zK X m j tab):zK X m j ((c,g)::tab):=⟨λc' g' h' eA iu=>by
 unfold jH at h';rw[List.lookup_cons]at h';cases q:c'==c with
 |true =>
  grind
 |false =>
  rw[q]at h';exact h.at_ c' g' h' eA iu⟩
structure zL(X:Cx)(e9:List Str)(tab:List (Str×aB)):Prop where
 at_:∀c g,jH tab c=some g->∀C,X.mg c=some (.ref C)->(∀c'∈e9,∀eA,X.mg c'=some (.ref eA)->PySem.W.notFirst X.K C (.ref eA)=true)/\PySem.W.findIn X.K (.ref C) "__ne__"=some (some (.builtin "object.__ne__"))/\PySem.W.mroIn X.K C (.type "object")=some true
structure qc(K:PySem.W.Frag)(C:Addr):Prop where
 cl:Cls K C
 ha:PySem.W.findIn K (.ref C) "__class__"=some (some (.builtin "object.__class__"))
 ob:PySem.W.mroIn K C (.type "object")=some true
theorem XJ(K:PySem.W.Frag):PySem.W.specialIn K (.builtin "object.__class__") "__get__"=some (some (.builtin "getset_descriptor.__get__")):=by kernel_rfl
theorem XM(K:PySem.W.Frag):PySem.W.takesIn K (.builtin "object.__class__")=some true:=by kernel_rfl
theorem qc.ty{K:PySem.W.Frag}{C a bM:Addr}{H:Hp}{fs:List (Str×V)}(t:qc K C)(e:H a=some (.ins C bM fs)):TyX K H (.ref a) (.ref C):=.base (.ins e t.cl t.ha (XJ K) (XM K) t.ob)
structure Ip(X:Cx)(tab:List (Str×List Str×List Str)):Prop where
 at_:∀D yes no,tab.lookup D=some (yes,no)->∀e',X.mg D=some (.ref e')->((PySem.W.clsIn X.K e').isSome&&PySem.W.typeIn X.K (.ref e')==some (.type "type"))=true /\
  (∀c∈yes,∀C,X.mg c=some (.ref C)->qc X.K C/\PySem.W.kitOne X.K (.ref C) (.ref e')=some true)/\(∀c∈no,∀C,X.mg c=some (.ref C)->qc X.K C/\PySem.W.kitOne X.K (.ref C) (.ref e')=some false)
def vb(tab:List (Str×List Str×List Str)):aB:=λds S=>match ds with
 |[d,.cls D]=>(match tab.lookup D with
  |some (yes,no)=>(match iR S d with
   |some (c,_,_)=>if c∈yes then .ok (.bl true) S else if c∈no then .ok (.bl false) S else .bad
   |none=>if(j1 S d).isSome=true then .ok (.bl false) S else .bad)
  |none=>.bad)
 |_=>.bad
theorem ahs{K:PySem.W.Frag}{e':Addr}(h:((PySem.W.clsIn K e').isSome&&PySem.W.typeIn K (.ref e')==some (.type "type"))=true)(k:nD):PySem.W.kitOne K (.type k.name) (.ref e')=some false:=by
 unfold PySem.W.kitOne;rw[if_neg (by simp)];unfold PySem.W.kitCls;dsimp only;rw[if_pos h];exact ahr K k e'
theorem OU{tab:List (Str×List Str×List Str)}(ht:Ip X tab):iL X (.builtin "isinstance") (vb tab):=by
 refine⟨_,call_isi,λWp ρ H S ds xs Q w r p=>?_⟩;unfold vb at p;split at p
 .rename_i d D
  split at p
  .rename_i yes no ew
   rw[ay]at r;obtain⟨v,b2,e,h1,h2⟩:=r;rw[ay]at h2;obtain⟨u,r2,e2,aH,bT⟩:=h2;rw[ay]at bT;subst bT e2 e;rw[Rep]at aH;obtain⟨e',bL,DH⟩:=aH;subst DH;obtain⟨a1,a2,a3⟩:=ht.at_ D yes no ew e' bL;split at p
   .rename_i c ns vs wV
    obtain⟨a,C,bM,fs,ex,hm,ea,hn,cu⟩:=yX w h1 wV;subst ex;split at p
    .rename_i bD
     obtain⟨t,kk⟩:=a2 c bD C hm;exact⟨.ref a,.ref e',_,.ref e',true,rfl,.own e',t.ty ea,kk,cA p w iS⟩
    .split at p
     .rename_i bD
      obtain⟨t,kk⟩:=a3 c bD C hm;exact⟨.ref a,.ref e',_,.ref e',false,rfl,.own e',t.ty ea,kk,cA p w iS⟩
     .exact p.elim
   .split at p
    .rename_i hk
     obtain⟨kk,aht⟩:=Option.isSome_iff_exists.mp hk;exact⟨v,.ref e',_,.ref e',false,rfl,.own e',G6 w h1 aht,ahs a1 kk,cA p w iS⟩
    .exact p.elim
  .exact p.elim
 .exact p.elim
end
theorem Fun.d:True:=trivial
section
variable{P:Program}{w:World}{K:PySem.W.Frag}{mg:Str->Option Value}{base:Heap}
theorem XN{N ps:List Str}{qual:Str}{scope:Scope}{f:Addr}{A:Around}{outer:List Env}{s:Shared}{k:Nat}{st:List Stmt}{body:SX}{c7:Value}
  (hb:∀(H:Hp) (E:XK),gm (cxOf (Z.CX P w) P w K mg base N qual scope f c7 A outer s H E) (λc d _ H'=>E c d H') st body) {H:Hp} {vs:List V} {Q:VK} {E:XK} (h:jA K mg ps.length (bI N.length body) vs H Q E) :
  ∃t,PSs (cxOf (Z.CX P w) P w K mg base N qual scope f c7 A outer s H E) st t/\t { nx:=λ_ H'=>Q .non H',rt:=Q } (L2.start N vs) H:=by
 obtain⟨ρ,S,ds,hl,dQ,r,p⟩:=h;refine⟨_,hb H E,ρ,S,_,dQ,yV r,?_⟩;have p:=yU dQ p;cases q:body (ds.map some++List.replicate (N.length - ds.length) none) S with
 |nx sl ao=>rw[q]at p;exact λbA av H' x aF r1=>p .non av H' x aF (by rw[Rep])
 |rt d ao=>rw[q]at p;exact p
 |ex e sl ao=>rw[q]at p;exact λC dd bA av H' x aF _ r1=>p C dd av H' x aF r1
 |bk sl ao=>rw[q]at p;exact p.elim
 |ct sl ao=>rw[q]at p;exact p.elim
 |bad=>rw[q]at p;exact p.elim
theorem ahu{N ps:List Str}{qual:Str}{scope:Scope}{f:Addr}{A:Around}{outer:List Env}{s:Shared}{k:Nat}{st:List Stmt}{body:SX}{c7:Value}
  (hb:∀(H:Hp) (E:XK),gm (cxOf (Z.CX P w) P w K mg base N qual scope f c7 A outer s H E) (λc d _ H'=>E c d H') st body) {H:Hp} {vs:List V} {Q:VK} {E:XK} (h:jA K mg ps.length (Cy N.length body) vs H Q E) :
  ∃t,PSs (cxOf (Z.CX P w) P w K mg base N qual scope f c7 A outer s H E) st t/\t { nx:=λ_ H'=>Q .non H',rt:=Q } (L2.start N vs) H:=by
 obtain⟨ρ,S,ds,hl,dQ,r,p⟩:=h;refine⟨_,hb H E,ρ,S,_,dQ,yV r,?_⟩;have p:aV K mg E ρ H Q (body (ds.map some++List.replicate (N.length - ds.length) none) S).out:=p;cases q:body (ds.map some++List.replicate (N.length - ds.length) none) S with
 |nx sl ao=>rw[q]at p;exact λbA av H' x aF r1=>p .non av H' x aF (by rw[Rep])
 |rt d ao=>rw[q]at p;exact p
 |ex e sl ao=>rw[q]at p;exact λC dd bA av H' x aF _ r1=>p C dd av H' x aF r1
 |bk sl ao=>rw[q]at p;exact p.elim
 |ct sl ao=>rw[q]at p;exact p.elim
 |bad=>rw[q]at p;exact p.elim
theorem OV{n:Nat}{g:aB}(vs:List V)(H:Hp)(Q:VK)(E:XK)(h:jA K mg n g vs H Q E):vs.length=n:=by
 obtain⟨ρ,S,ds,hl,_,r,_⟩:=h;rw[<-r.len,hl]
theorem tx{x qual:Str}{params:Arguments}{stb:List Stmt}{scope:Scope}{dvs:List V}{kws:List (Str×V)}{f:Addr}{fd:FuncData}{N ps:List Str}{k:Nat}{body:SX}(F:FunD K x qual params stb scope dvs kws f fd)(Sc:FnScope N ps scope)
  (hb:∀(A:Around) (outer:List Env) (s:Shared) (H:Hp) (E:XK),Room k (A.deeper (envOfC qual scope s.heap.objs.size f fd.code)) ->
   gm (cxOf (Z.CX P w) P w K mg base N qual scope f fd.code A outer s H E) (λc d _ H'=>E c d H') stb body) :
  FnOk P w K mg base (Z.CX P w) (k+1) f fd ps (jA K mg ps.length (bI N.length body)):=by
 obtain⟨cL,od,cG,kV,doc,pm,an,c7,ct,hX,rfl,lk,g9,_,_⟩:=F.ex;exact fn_of lk g9 Sc OV λA outer s H vs Q E hr h=>XN (ps:=ps) (k:=k) (λH E=>hb A outer s H E hr) h
theorem ahv{x qual:Str}{params:Arguments}{stb:List Stmt}{scope:Scope}{dvs:List V}{kws:List (Str×V)}{f:Addr}{fd:FuncData}{N ps:List Str}{k:Nat}{body:SX}(F:FunD K x qual params stb scope dvs kws f fd)(Sc:FnScope N ps scope)
  (hb:∀(A:Around) (outer:List Env) (s:Shared) (H:Hp) (E:XK),Room k (A.deeper (envOfC qual scope s.heap.objs.size f fd.code)) ->
   gm (cxOf (Z.CX P w) P w K mg base N qual scope f fd.code A outer s H E) (λc d _ H'=>E c d H') stb body) :
  FnOk P w K mg base (Z.CX P w) (k+1) f fd ps (jA K mg ps.length (Cy N.length body)):=by
 obtain⟨cL,od,cG,kV,doc,pm,an,c7,ct,hX,rfl,lk,g9,_,_⟩:=F.ex;exact fn_of lk g9 Sc OV λA outer s H vs Q E hr h=>ahu (ps:=ps) (k:=k) (λH E=>hb A outer s H E hr) h
def Iq(n:Nat)(fC:List D)(g:aB):aB:=λds S=>if ds.length=n then g ds S else if ds.length+fC.length=n then g (ds++fC) S else .bad
theorem ahw{f:Addr}{fd:FuncData}{ps:List Str}{k n:Nat}{g:aB}{dvs:List V}{fC:List D}(F:FnOk P w K mg base (Z.CX P w) k f fd ps (jA K mg n g))(h0:Binds K fd ps [])(h1:∃ds,Vals dvs ds/\Binds K fd ps ds)(tu:∀ρ H,ay K mg ρ H fC dvs):aZ P w K mg base k f (Iq n fC g):=by
 obtain⟨dfs,hd,hb⟩:=h1;intro A outer s H us vs Q E hr bB r ⟨ρ,S,ds,dQ,rd,p⟩;unfold Iq at p;split at p
 .rename_i hl
  exact(F.raw h0 .nil) A outer s H us vs Q E hr bB r ⟨ρ,S,ds,hl,dQ,by grind,p⟩
 .split at p
  .rename_i hl
   exact(F.raw hb hd) A outer s H us vs Q E hr bB r ⟨ρ,S,ds++fC,by grind,dQ,rd.append (tu ρ H),p⟩
  .exact p.elim
end
section
variable{X:Cx}{W:WX}{f:Addr}{g:aB}{p pos:Pos}{e:Expr}{es:List Expr}{fe:aM}
def nV:wh:=λd S=>match d with
 | .str y=>if y.length<=1000000 then .ok (.str y) S else .bad
 | .int i=>if i.natAbs.log2<1920 then .ok (.str (toString i)) S else .bad
 |_=>.bad
theorem DI(he:E X W e fe):E X W (.FormattedValue e (-1) none pos) (oB nV fe):=PE.imp (pe_fmt he) λσ H Q h=>BV (g:=λ_=>nV) h λρ S sl H1 d v w _ aW p=>by
 cases d with
 |str y =>
  unfold nV at p;dsimp only at p;split at p
  .rename_i hl
   exact .inl ⟨y,fM aW,jY hl,cA p w nC⟩
  .exact p.elim
 |int i =>
  unfold nV at p;dsimp only at p;split at p
  .rename_i hl
   exact .inr ⟨i,f6 aW,hl,cA p w nC⟩
  .exact p.elim
 |_=>exact p.elim
def tA:List aM->Str->aT->Store->Out D
 |[],acc,_,S=>.ok (.str acc) S
 |f::fs,acc,sl,S=>(f sl S).bind λd S1=>match d with
  | .str y=>if(acc++y).length<=1000000 then tA fs (acc++y) sl S1 else .bad
  |_=>.bad
def DJ(fs:List aM):aM:=λsl S=>tA fs Str.empty sl S
inductive zM (X:Cx) (W:WX):List Expr->List aM->Prop where
 |nil:zM X W [] []
 |cons {e:Expr} {f:aM} {es:List Expr} {fs:List aM} (h:E X W e f) (r:zM X W es fs):zM X W (e::es) (f::fs)
theorem zM.ahx{es:List Expr}{fs:List aM}(h:zM X W es fs):PJ X es (fs.map (gO X.K X.mg W)):=by
 induction h with
 |nil=>exact .nil
 |cons h _ ih=>exact .cons h ih
theorem XO:∀{fs:List aM} {acc:Str} {σ:L2.St} {H:Hp} {Q:VK},gO X.K X.mg W (tA fs acc) σ H Q->tJs (fs.map (gO X.K X.mg W)) acc σ H λout H1=>Q (.str out) H1
 |[],acc,σ,H,Q,⟨ρ,S,sl,w,rs,p⟩=>cA (d:=.str acc) p w nC
 |f::fs,acc,σ,H,Q,⟨ρ,S,sl,w,rs,p⟩=>by
  refine⟨ρ,S,sl,w,rs,aV.mono (aV.fJ p) λv H1 ⟨aA,S1,d,x1,aF,r1,_,p1⟩=>?_⟩;cases d with
  |str y =>
   dsimp only at p1;split at p1
   .rename_i hl
    exact⟨y,fM r1,jY hl,XO ⟨aA,S1,sl,aF,rs.ext x1,p1⟩⟩
   .exact p1.elim
  |_=>exact p1.elim
theorem OW{v1 v2:Expr}{rest:List Expr}{fs:List aM}(h:zM X W (v1::v2::rest) fs):E X W (.JoinedStr (v1::v2::rest) pos) (DJ fs):=PE.imp (pe_joined h.ahx) λσ H Q h=>XO h
def XP(gs:ib):d4:=λd sl S=>match d8 S d with
 |some ds=>gs ds sl S
 |none=>.bad
end
end Z
namespace ZX
open PySem PySem.W PySem.Calls PyProof.Rows PySem.Spec
open L2 (V Vals RelV RelO)
theorem ahy:∀{ps:List Str} {vs:List V},ps.Nodup->vs.length=ps.length->ps.map (λf=>(f,eT ps vs f))=ps.zip vs:=by
 have core:∀(ps:List Str) (vs:List V),ps.Nodup->vs.length=ps.length->∀f v,(f,v)∈ps.zip vs->eT ps vs f=v:=by
  intro ps
  induction ps with
  |nil=>simp
  |cons p ps ih =>
   intro vs hn hl f v h;cases vs with
   |nil=>simp at hl
   |cons u vs =>
    rw[yu]at h;rcases fQ.mp h with e|h
    .cases e
     simp[eT,List.lookup]
    .have hf:f∈ps:=(uo h).1
     have ne:f≠p:=λe=>(qC.mp hn).1 (e▸hf);have r:=ih vs (qC.mp hn).2 (by grind) f v h;unfold eT at r ⊢;rw[yu,List.lookup_cons,beq_eq_false_iff_ne.mpr ne];exact r
 intro ps vs hn hl;have:∀(l:List Str) (ws:List V),l.length=ws.length->(∀f v,(f,v)∈l.zip ws->eT ps vs f=v)->l.map (λf=>(f,eT ps vs f))=l.zip ws:=by
  intro l
  induction l with
  |nil=>simp
  |cons a l ih =>
   intro ws h1 h2;cases ws with
   |nil=>simp at h1
   |cons b ws =>
    rw[cF,yu,h2 a b (by simp),ih ws (by grind) λf v h=>h2 f v (by simp[h])]
 grind
theorem ahz{f:Str->V}:∀(l:List Str) (fs:List (Str×V)),(l.map λp=>(p,p)).foldl (λfs fp=>(fp.1,f fp.2)::fs) fs=(l.map λp=>(p,f p)).reverse++fs
 |[],fs=>rfl
 |a::l,fs=>by simp
theorem q'.cast{prog:Program}{w:World}{base:Heap}{k:Nat}{f C:Addr}{G OX:List V->Option (List (Str×V))}(h:q' prog w base k f C G)(e:∀vs,OX vs=G vs):q' prog w base k f C OX:=by
 have:OX=G:=funext e;grind
def cE:List V->Option (List (Str×V)):=λvs=>if vs.length=1 then some [("tag",eT ["tag"] vs "tag")]else none
theorem DK{tag:Str}{b5:List Str}(hn:b5.Nodup)(vs:List V) :
  (if vs.length=b5.length then some (Z.kx tag b5 vs)else none)=(if vs.length=b5.length then(cE [.str tag]).map (λfs=>(b5.map λp=>(p,p)).foldl (λfs fp=>(fp.1,eT b5 vs fp.2)::fs) fs)else none):=by
 by_cases h:vs.length=b5.length
 .rw[if_pos h,if_pos h]
  unfold cE Z.kx;have aw:(if[V.str tag].length=1 then some [(("tag":Str),eT ["tag"] [V.str tag] "tag")]else none)=some [(("tag":Str),V.str tag)]:=by simp[eT,List.lookup]
  rw[aw,yv,ahz,ahy hn h]
 grind
end ZX
namespace Z
open PySem PySem.Spec L2 PyProof.Rows
section
variable{P:Program}{w:World}{K:PySem.W.Frag}{mg:Str->Option Value}{base:Heap}
theorem XQ{x qual:Str}{params:Arguments}{stb:List Stmt}{scope:Scope}{dvs:List V}{kws:List (Str×V)}{f:Addr}{fd:FuncData}{N ps:List Str}{k:Nat}{body:List (Str×Addr)->SX}(F:FunD K x qual params stb scope dvs kws f fd)(Sc:FnScope N ps scope)
  (hb:∀(A:Around) (outer:List Env) (s:Shared) (H:Hp) (E:XK),Room k (A.deeper (envOfC qual scope s.heap.objs.size f fd.code)) ->
   gm (cxOf (Z.CX P w) P w K mg base N qual scope f fd.code A outer s H E) (λc d _ H'=>E c d H') stb (body (cellsFrom (s.heap.objs.size+1) scope.names []))) :
  FnOk P w K mg base (Z.CX P w) (k+1) f fd ps (λvs H Q E=>∀aU,jA K mg ps.length (bI N.length (body aU)) vs H Q E):=by
 obtain⟨cL,od,cG,kV,doc,pm,an,c7,ct,hX,rfl,lk,g9,_,_⟩:=F.ex;exact fn_of lk g9 Sc (λvs H Q E h=>OV vs H Q E (h [])) λA outer s H vs Q E hr h=>XN (ps:=ps) (k:=k) (λH E=>hb A outer s H E hr) (h _)
def vd(g:List (Str×Addr)->aB):aB:=λds S=>open Classical in if ∃o,∀aU,g aU ds S=o then g [] ds S else .bad
theorem XR{g:List (Str×Addr)->aB}{ds:List D}{S:Store}{o:Out D}(h:∀aU,g aU ds S=o):vd g ds S=o:=by
 unfold vd;simp_all
theorem ahA{f:Addr}{fd:FuncData}{ps:List Str}{k n:Nat}{g:List (Str×Addr)->aB}(F:FnOk P w K mg base (Z.CX P w) k f fd ps (λvs H Q E=>∀aU,jA K mg n (g aU) vs H Q E))(hb:Binds K fd ps []):aZ P w K mg base k f (bZ n (vd g)) :=
 (F.raw hb .nil).imp λvs H Q E ⟨ρ,S,ds,dQ,r,p⟩ aU=>by
  unfold bZ at p;split at p
  .rename_i hl
   refine⟨ρ,S,ds,hl,dQ,by grind,?_⟩;unfold vd at p;split at p
   .grind
   .exact p.elim
  .exact p.elim
end
def mV(cs:List (Addr×Str)):Store:=cs.map λc=>.tab c.1 c.2
theorem ahB{K:PySem.W.Frag}{mg:Str->Option Value}{H:Hp}{cs:List (Addr×Str)}(nd:(cs.map (·.1)).Nodup)(bU:∀c∈cs,H c.1=some (.tbl #[])):aN K mg (cs.map (·.1)) H (mV cs):=by
 refine⟨by simp[mV],nd,λa ha=>?_,λn a m aw e2=>?_⟩
 .grind
 .unfold mV at e2
  rw[List.getElem?_map]at aw e2;obtain⟨c,hc,rfl⟩:=fx.mp aw;rw[hc]at e2;cases e2;exact⟨rfl,#[],bU c (jV hc),True.intro,λpos lD hc=>by
   have z:codeAmong pos []=some lD:=hc;simp[codeAmong]at z⟩
theorem ahC{K:PySem.W.Frag}{mg:Str->Option Value}{H:Hp}{cs:List (Addr×Str)}{a:Addr}{ns:List Int}{g:aB}(nd:(cs.map (·.1)).Nodup)(bU:∀c∈cs,H c.1=some (.tbl #[]))(bO:SqL K H a (ns.map V.int))(h:∃S,g [.ck ns] (mV cs)=.ok (.bl true) S):jA K mg 1 g [.ref a] H (λv _=>v=.bl true) λ_ _ _=>False:=by
 obtain⟨ao,e⟩:=h;refine⟨cs.map (·.1),mV cs,[.ck ns],rfl,ahB nd bU,ay.cons ?_ ay.nil,?_⟩
 .rw[Rep]
  refine⟨a,rfl,?_⟩;rcases bO with h1|h1
  .refine .inl ⟨λhm=>?_,h1⟩
   obtain⟨c,hc,ea⟩:=iI.mp hm;subst ea;rcases h1 with h1|⟨o,h1⟩<;>(grind)
  .exact .inr h1
 .rw[e]
  exact λv av H' _ _ r=>nB r
def OY:Stmt->List Stmt
 | .FunctionDef _ _ b .. => b
 | .If _ b .. => b
 | .For _ _ b .. => b
 | .While _ b .. => b
 | .Try b .. => b
 |_=>[]
def i3(l:List Stmt)(i:Nat):Stmt:=l.getD i (.Pass ⟨0,0,0,0⟩)
def ka:Stmt->Expr
 | .Assign _ v _=>v
 | .Return (some v) _=>v
 | .Expr v _=>v
 | .If v .. => v
 |_=>.Constant .none 0 ⟨0,0,0,0⟩
def DL(l:List Expr)(i:Nat):Expr:=l.getD i (.Constant .none 0 ⟨0,0,0,0⟩)
def fX:Expr->Nat->Expr
 | .List es _,i=>DL es i
 | .Tuple es _ _,i=>DL es i
 | .Call _ es _ _,i=>DL es i
 | .BinOp a _ b _,i=>if i=0 then a else b
 | .UnaryOp _ a _,_=>a
 | .BoolOp _ es _,i=>DL es i
 | .Compare a _ es _,i=>if i=0 then a else DL es (i - 1)
 | .IfExp c a b _,i=>if i=0 then c else if i=1 then a else b
 | .Subscript a b _,i=>if i=0 then a else b
 |_,_=>.Constant .none 0 ⟨0,0,0,0⟩
def zN:Expr->Arguments
 | .Lambda a _ _ _=>a
 |_=>⟨[],[],none,[],[],none,[]⟩
def zO:Expr->Expr
 | .Lambda _ b _ _=>b
 |e=>e
def zP(d:Scope):Expr->Scope
 | .Lambda _ _ s _=>s
 |_=>d
theorem Ir{T:dj}(hd:T.dvs=[])(h:∀(a_:List (Str×Addr)) (pm doc c7 dz:Value),bindArgs (PySem.W.kdv_fn "<lambda>" T.qual T.params (.expr T.body) T.scope a_ .none doc pm c7 dz) ⟨[],[]⟩=pure [])(s:Shared)(a_:List (Str×Addr))(pm doc c7 dz cG:Value)(D:Dy s.heap T.dvs cG) :
  ∃us,Vals T.dvs us/\BindsTo s (PySem.W.kdv_fn "<lambda>" T.qual T.params (.expr T.body) T.scope a_ cG doc pm c7 dz) ⟨[],[]⟩ (([]:List Str).zip us):=by
 rcases D with⟨_,rfl⟩|⟨n,_⟩
 .exact⟨[],by rw[hd];exact .nil,.of_eq (h a_ pm doc c7 dz)⟩
 grind
theorem XS{T:dj}{v:V}{y:Str}(hd:T.dvs=[v])(h:∀(a_:List (Str×Addr)) (t:Addr) (pm doc c7 dz u:Value),∃k,bindArgs (PySem.W.kdv_fn "<lambda>" T.qual T.params (.expr T.body) T.scope a_ (.ref t) doc pm c7 dz) ⟨[],[]⟩=seqItems? (.ref t) >>= k/\k (some #[u])=pure [(y,u)])(s:Shared)(a_:List (Str×Addr))(pm doc c7 dz cG:Value)(D:Dy s.heap T.dvs cG) :
  ∃us,Vals T.dvs us/\BindsTo s (PySem.W.kdv_fn "<lambda>" T.qual T.params (.expr T.body) T.scope a_ cG doc pm c7 dz) ⟨[],[]⟩ ([y].zip us):=by
 rcases D with⟨e,_⟩|⟨n,t,us,rfl,r,rj⟩
 .grind
 .rw[hd]at r
  cases r with
  |cons r1 r2 =>
   cases r2;rename_i u;obtain⟨k,aw,e2⟩:=h a_ t pm doc c7 dz u;obtain⟨o,aY,hc,m,hs⟩:=rj;refine⟨[u],by rw[hd];exact .cons r1 .nil,?_⟩;exact BindsTo.of_defaults (T:=t) rfl aY hs aw e2
section
variable{X:Cx}{W:WX}
def oU:aM:=λ_ _=>.bad
theorem tD{e:Expr}:E X W e oU:=⟨λpins s σ H Q I ⟨ρ,S,sl,w,r,p⟩=>p.elim⟩
theorem XT{cs:List Value}:Dm X cs []:=λc b h=>by cases h
theorem zQ{cs:List Value}{c:Str}{C:Addr}{b:Bool}{tab:List (Str×Bool)}(hm:X.mg c=some (.ref C))(h:PySem.W.exmAny X.K (.ref C) cs=some b)(r:Dm X cs tab):Dm X cs ((c,b)::tab):=λc' b' h' eA iu=>by
 rw[List.lookup_cons]at h';cases q:c'==c with
 |true =>
  grind
 |false =>
  rw[q]at h';exact r c' b' h' eA iu
theorem md{f:Str}:H_ X f []:=λc h=>by cases h
theorem ef{f c:Str}{C:Addr}{cs:List Str}(hm:X.mg c=some (.ref C))(h:XfC X.K C)(hf:PySem.W.findIn X.K (.ref C) f=some none)(r:H_ X f cs):H_ X f (c::cs):=λc' h' eA iu=>by
 rcases fQ.mp h' with e|e
 .grind
 .exact r c' e eA iu
theorem DM:∀n∈([]:List Str),X.env.kindOf n=some .cell:=λn h=>by cases h
theorem qd{n:Str}{l:List Str}(h:X.env.kindOf n=some .cell)(r:∀m∈l,X.env.kindOf m=some .cell):∀m∈n::l,X.env.kindOf m=some .cell:=λm hm=>by
 grind
theorem RoomH.rk{k j:Nat}{A:Around}(r:Room k A)(h:j<=k){x:Option Value}:L2H.RoomH j (A.mark x):=⟨by have:=r.dp;show A.depth+3 * j+5<_;omega,by have:=r.un;show A.units+16 * j+200<_;omega⟩
theorem qe{k:Nat}{A:Around}(r:L2H.RoomH k A):A.units+64<cLine:=by have:=r.un;omega
theorem OZ:Ip X []:=⟨λD y n h=>by cases h⟩
theorem O0{D:Str}{e':Addr}{yes no:List Str}{tab:List (Str×List Str×List Str)}(hm:X.mg D=some (.ref e'))(h1:((PySem.W.clsIn X.K e').isSome&&PySem.W.typeIn X.K (.ref e')==some (.type "type"))=true)
  (h2:∀c∈yes,∀C,X.mg c=some (.ref C)->qc X.K C/\PySem.W.kitOne X.K (.ref C) (.ref e')=some true) (aH:∀c∈no,∀C,X.mg c=some (.ref C)->qc X.K C/\PySem.W.kitOne X.K (.ref C) (.ref e')=some false) (r:Ip X tab):Ip X ((D,yes,no)::tab):=⟨λDN y n h' eA iu=>by
 rw[List.lookup_cons]at h';cases q:DN==D with
 |true =>
  grind
 |false =>
  rw[q]at h';exact r.at_ DN y n h' eA iu⟩
theorem zR{e':Addr}{b:Bool}:∀c∈([]:List Str),∀C,X.mg c=some (.ref C)->qc X.K C/\PySem.W.kitOne X.K (.ref C) (.ref e')=some b:=λc h=>by cases h
theorem O1{e' C:Addr}{b:Bool}{c:Str}{l:List Str}(hm:X.mg c=some (.ref C))(t:qc X.K C)(h:PySem.W.kitOne X.K (.ref C) (.ref e')=some b)(r:∀c∈l,∀C,X.mg c=some (.ref C)->qc X.K C/\PySem.W.kitOne X.K (.ref C) (.ref e')=some b):∀c'∈c::l,∀C,X.mg c'=some (.ref C)->qc X.K C/\PySem.W.kitOne X.K (.ref C) (.ref e')=some b:=λc' h' eA iu=>by
 grind
theorem XU{e9:List Str}:zL X e9 []:=⟨λc g h=>by cases h⟩
theorem XW{e9:List Str}{c:Str}{C:Addr}{g:aB}{tab:List (Str×aB)}(hm:X.mg c=some (.ref C))(h1:∀c'∈e9,∀eA,X.mg c'=some (.ref eA)->PySem.W.notFirst X.K C (.ref eA)=true)(h2:PySem.W.findIn X.K (.ref C) "__ne__"=some (some (.builtin "object.__ne__")))(aH:PySem.W.mroIn X.K C (.type "object")=some true)(r:zL X e9 tab):zL X e9 ((c,g)::tab):=⟨λc' g' h' eA iu=>by
 unfold jH at h';rw[List.lookup_cons]at h';cases q:c'==c with
 |true =>
  grind
 |false =>
  rw[q]at h';exact r.at_ c' g' h' eA iu⟩
theorem XY{C:Addr}:∀c'∈([]:List Str),∀eA,X.mg c'=some (.ref eA)->PySem.W.notFirst X.K C (.ref eA)=true:=λc h=>by cases h
theorem XZ{C D:Addr}{c:Str}{l:List Str}(hm:X.mg c=some (.ref D))(h:PySem.W.notFirst X.K C (.ref D)=true)(r:∀c'∈l,∀eA,X.mg c'=some (.ref eA)->PySem.W.notFirst X.K C (.ref eA)=true):∀c'∈c::l,∀eA,X.mg c'=some (.ref eA)->PySem.W.notFirst X.K C (.ref eA)=true:=λc' h' eA iu=>by
 grind
end
def rl(T:dj)(l:aB)(L:dj->Option aB):dj->Option aB:=λrj=>open Classical in if rj=T then some l else L rj
def X0:dj->Option aB:=λ_=>none
section
variable{P:Program}{w:World}{K:PySem.W.Frag}{mg:Str->Option Value}{base:Heap}
def DP(P:Program)(w:World)(K:PySem.W.Frag)(mg:Str->Option Value)(base:Heap)(k:Nat)(L:dj->Option aB):Prop:=∀T l,L T=some l->nT P w K mg base k T l
theorem nT.mono{j k:Nat}{T:dj}{l:aB}(h:nT P w K mg base j T l)(e:j<=k):nT P w K mg base k T l:=λA outer s H f c' a_ pm doc cG dz ρ S caps vs Q E hr=>h A outer s H f c' a_ pm doc cG dz ρ S caps vs Q E (hr.mono e)
theorem ahD{k:Nat}:DP P w K mg base k X0:=λT l h=>by cases h
theorem zS{j k:Nat}{T:dj}{l:aB}{L:dj->Option aB}(h:nT P w K mg base j T l)(e:j<=k)(r:DP P w K mg base k L):DP P w K mg base k (rl T l L):=λrj nO h'=>by
 unfold rl at h';split at h'
 .rename_i q
  cases h';subst q;exact h.mono e
 .exact r rj nO h'
end
theorem zT{T:dj}{l:aB}{L:dj->Option aB}:rl T l L T=some l:=if_pos rfl
theorem mh{T rj:dj}{l:aB}{L:dj->Option aB}(h:rj.id≠T.id):rl T l L rj=L rj:=if_neg λe=>h (by rw[e])
open PySem PySem.Spec L2
section
theorem ahE{A:Around}(h:A.units+64<cLine):A.units<cLine:=by omega
end
open PySem PySem.Spec L2 PyProof.Rows
def ltP:b_:=λd e S=>match toP S d,toP S e with
 |some a,some b=>open Classical in if PySem.W.alike a b=true/\a≠.none/\a.depth<=50 then .ok (.bl (PySem.W.dataLt a b)) S else .bad
 |_,_=>.bad
def X1:b_:=eu lR ltP
open PySem PySem.Spec L2
theorem ahF{a b:Char}(h:a.toNat=b.toNat):a=b:=Char.ext (UInt32.toNat_inj.mp h)
@[simp] theorem ahG{a b:String}:Str.ofString a=Str.ofString b↔a=b:=by
 constructor
 .intro h
  rw[Str.ofString_eq_toList,Str.ofString_eq_toList]at h;have h2:a.toList.map Char.toNat=b.toList.map Char.toNat:=by
   have:=congrArg (λs:Str=>s.cps.toList) h;simpa using this
  have aH:a.toList=b.toList:=List.map_inj_right (λx y h=>ahF h) |>.mp h2
  exact String.toList_inj.mp aH
 grind
theorem oV(a:String):ku (Str.ofString a).cps.toList:=by
 rw[Str.ofString_eq_toList];intro c hc;simp at hc;obtain⟨d,_,rfl⟩:=hc;have:=d.valid;have h2:d.toNat=d.val.toNat:=rfl;omega
theorem zU(a:String):Str.ofString a=aj (Str.ofString a).cps.toList:=(zl _).symm
@[simp] theorem awb{neg:Bool}{a b:String}{S:Store}:aQ neg (.str (Str.ofString a)) (.str (Str.ofString b)) S=.ok (.bl (if neg=true then !decide (a=b)else decide (a=b))) S:=by
 have e:(aj (Str.ofString a).cps.toList=aj (Str.ofString b).cps.toList)=(a=b):=by rw[<-zU,<-zU];simp
 have e2:((Str.ofString a).cps.toList=(Str.ofString b).cps.toList)=(a=b):=by rw[<-e];simp
 cases neg
 .rw[zU a,zU b,w1 (oV a) (oV b)];grind
 .rw[zU a,zU b,uS (oV a) (oV b)];grind
section
variable{sl:aT}{S:Store}{P:D->Store->Prop}{X:D->Store->Prop}{Q:hJ}{f1:aM}{fa:du}{fb fs:SX}
@[simp] theorem awc{c d:Str}{g:aB}{tab:List (Str×aB)}:jH ((c,g)::tab) d=if d=c then some g else jH tab d:=by
 unfold jH;grind
@[simp] theorem awd{d:Str}:jH [] d=none:=(rfl)
@[simp] theorem awe{tab:List (Str×List Str×List Str)}{c:Str}{ns:List Str}{vs:List D}{DN:Str}:vb tab [.ins c ns vs,.cls DN] S=match tab.lookup DN with
  |some (yes,no)=>if c∈yes then .ok (.bl true) S else if c∈no then .ok (.bl false) S else .bad
  |none=>.bad:=(rfl)
@[simp] theorem awf{l:List Nat}:We (nV (.str (aj l)) S) P X=(l.length<=1000000/\P (.str (aj l)) S):=by
 unfold nV;simp only[mP];by_cases h:l.length<=1000000
 .simp[h]
 .simp[h]
@[simp] theorem awg{gs:ib}{ds:List D}:a0 (XP gs (.lst ds) sl S) Q=a0 (gs ds sl S) Q:=by rfl
def DQ(d:D)(k:Str->List Str->List D->Prop):Prop:=match d with
 | .exc c ns ds=>k c ns ds
 |_=>False
@[simp] theorem ahH{c:Str}{ns:List Str}{ds:List D}{k:Str->List Str->List D->Prop}:DQ (.exc c ns ds) k=k c ns ds:=(rfl)
@[simp] theorem O2{f:aM}:a0 (eL f sl S) Q=We (f sl S) (λd ao=>DQ d λc ns ds=>Q.ex (.ins c ns ds) sl ao) (λe ao=>Q.ex e sl ao):=by
 unfold eL;cases o:f sl S with
 |ok d S1=>cases d<;>simp[DQ]
 |ex e S1=>simp
 |bad=>simp
@[simp] theorem O3{c tag:Str}{b5:List Str}{ds:List D}:We (eo c tag b5 ds S) P X=(ds.length=b5.length/\P (.exc c (b5.reverse++[("tag":Str)]) (ds.reverse++[D.str tag])) S):=by
 unfold eo;by_cases h:ds.length=b5.length
 .simp[h]
 .simp[h]
@[simp] theorem awh{i:Nat}:(Il i Q).rt=Q.rt:=(rfl)
@[simp] theorem awi{i:Nat}{e:D}:(Il i Q).ex e sl S=False:=(rfl)
@[simp] theorem awj{tab:List (Str×Bool)}{i:Nat}:a0 (Dl tab i fb fs sl S) Q=a0 (fb sl S) { Q with ex:=DF tab i fs Q }:=by
 unfold Dl;cases o:fb sl S with
 |nx a' S1=>simp
 |bk a' S1=>simp
 |ct a' S1=>simp
 |rt d S1=>simp
 |bad=>simp
 |ex e a' S1 =>
  simp only[CH];cases e with
  |ins c ns ds =>
   unfold DF;dsimp only;cases q:tab.lookup c with
   |none=>simp
   |some b =>
    cases b with
    |false=>simp
    |true =>
     dsimp only;cases sI:fs (a'.set i (some (.exc c ns ds))) S1<;>simp[Il]
  |_=>simp[DF]
@[simp] theorem awk{f:Str}{cs:List Str}:We (j_ f cs f1 sl S) P X=We (f1 sl S) (λd S1=>DQ d λc ns vs=>c∈cs/\lU (gq f ns vs) λv=>P v S1) X:=by
 unfold j_;rw[gB];congr 1;funext d S1;cases d with
 |exc c ns vs =>
  simp only[ahH];by_cases h:c∈cs
  .simp only[if_pos h,h,true_and]
   cases gq f ns vs<;>simp
  .simp[h]
 |_=>simp[DQ]
@[simp] theorem awl{i:Nat}{op:Int->Int->Int}{fe:aM}{a:Int}(h:sl[i]?=some (some (.int a))):a0 (uN i op fe sl S) Q=We (fe sl S) (λe S1=>∃b,e=.int b/\Q.nx (sl.set i (some (.int (op a b)))) S1) (λe ao=>Q.ex e sl ao):=by
 unfold uN;rw[h];dsimp only;rw[sW];congr 1;funext e S1;cases e<;>simp
@[simp] theorem awm:We (oU sl S) P X=False:=by unfold oU;simp
theorem tE{cn N:List Str}{aU:List (Str×Addr)}{d a:D}{ds b:List D}(h:conv cn N aU sl d=some a)(h2:jN cn N aU sl ds=some b):jN cn N aU sl (d::ds)=some (a::b):=by rw[jN,h,h2]
theorem xm{cn N:List Str}{aU:List (Str×Addr)}:jN cn N aU sl []=some []:=by rw[jN]
theorem O4{cn N:List Str}{aU:List (Str×Addr)}{ds b:List D}(h:jN cn N aU sl ds=some b):conv cn N aU sl (.lst ds)=some (.lst b):=by rw[conv,h];rfl
@[simp] theorem DR{cn N:List Str}{aU:List (Str×Addr)}{g:aB}:We (nS cn N aU g fa sl S) P X=We (fa sl S) (λds S1=>lU (jN cn N aU sl ds) λgp=>We (g gp S1) (λd S2=>(eD d=true/\g0 S2=true)/\P d S2) (λ_ _=>False)) X:=by
 unfold nS;rw[gB];congr 1;funext ds S1;cases e:jN cn N aU sl ds with
 |none=>simp
 |some gp =>
  simp only[q1];cases g gp S1 with
  |ok d S2 =>
   simp only[aS];by_cases h:eD d=true/\g0 S2=true
   .simp_all
   .rw[if_neg h];simp_all
  |ex e S2=>simp
  |bad=>simp
@[simp] theorem X2{ti:Nat}{X3:Addr}{aU:List (Str×Addr)}{T:dj}:We (iA ti X3 aU T sl S) P X=(S[ti]?=some (.tab X3 T.qual)/\P (.lam T (cloFrom aU T.scope.names [])) S):=by
 unfold iA;apply propext;constructor
 .intro h
  split at h
  .rename_i q2 q e
   split at h
   .simp_all
   simp_all
  simp_all
 simp_all
theorem O5{L:dj->Option aB}{i:Nat}{T:dj}{caps:List D}{l:aB}(h1:sl[i]?=some (some (.dN T caps)))(h2:L T=some l)(aH:g0 S=true)(bT:dw caps=true):We (Dz L i sl S) P X=We (l caps S) P X:=by
 unfold Dz;grind
theorem zV{fC:List D}{fl:aM}{caps:List D}:We (u' fC fl caps S) P X=We (fl ((caps++fC).map some) S) (e3 S P) (e3 S X):=Hz
theorem zW{cn N:List Str}{aU:List (Str×Addr)}{T:dj}{caps:List D}(h1:T.names.Nodup)(h2:∀n∈T.names,n∈cn/\T.scope.names.lookup n=some .free)(aH:zH N sl T.names=some caps):conv cn N aU sl (.lam T (cloFrom aU T.scope.names []))=some (.dN T caps):=by
 rw[conv,if_pos ⟨rfl,h1,h2⟩,aH];rfl
@[simp] theorem ahI{n:Nat}{fC ds:List D}{g:aB}(h:ds.length=n):Iq n fC g ds S=g ds S:=if_pos h
end
def zX:SX :=
 (aL (qM 0 1 (ae (ak qb (ae (eName 0) ah)) (ae (ak qb (ae (eName 1) ah)) ah)))
 (aL (qN (aI (aq jd (eName 1) (af (.int 0))))
 (qM 0 1 (ae (eName 1) (ae (aq jB (eName 0) (eName 1)) ah))))
 (a8 (eName 0))))
def DS:aB:=bZ 2 (bI 2 zX)
def xq:SX :=
 (a8 (gn (ak dM (ae (eName 0) (ae (af (.ty "int")) ah))) (Gx (ak dM (ae (eName 0) (ae (af (.ty "bool")) ah))))))
def oW:aB:=bZ 1 (bI 1 xq)
def vf:SX :=
 (aL (bE (dc (aI (ak oW (ae (eName 1) ah))))
 (eL (ak (eo "InvalidRatio" "InvalidRatio" ["value"]) (ae (eName 1) ah)))
 bG)
 (aL (bE (d2 (dc (aI (ak oW (ae (eName 2) ah)))) (aI (aq (aQ false) (eName 2) (af (.int 0)))))
 (eL (ak (eo "InvalidRatio" "InvalidRatio" ["value"]) (ae (eName 2) ah)))
 bG)
 (aL (bJ (ak DS (ae (eName 1) (ae (eName 2) ah))) (aP 3))
 (aL (pV ["Ratio"] "own_top" (eF (aI (aq jd (eName 2) (af (.int 0)))) (aq j0 (eName 1) (eName 3)) (aq j0 (oB G2 (eName 1)) (eName 3))) (eName 0))
 (pV ["Ratio"] "own_bottom" (aq j0 (ak qb (ae (eName 2) ah)) (eName 3)) (eName 0))))))
def zY:aB:=Iq 3 [(.int 1)] (bI 4 vf)
def zZ:SX :=
 (aL (qM 2 3 (ae (ak qb (ae (eName 0) ah)) (ae (ak qb (ae (eName 1) ah)) ah)))
 (aL (qN (aI (aq jd (eName 3) (af (.int 0))))
 (qM 2 3 (ae (eName 3) (ae (aq jB (ak j2 (ae (eName 2) ah)) (eName 3)) ah))))
 (a8 (eName 2))))
def DT:aB:=bZ 2 (bI 4 zZ)
def z1:SX :=
 (aL (bJ (ak DT (ae (eName 0) (ae (eName 1) ah))) (aP 2))
 (a8 (eF (aI (aq jd (eName 1) (af (.int 0)))) (ak bu (ae (aq j0 (eName 0) (eName 2)) (ae (aq j0 (eName 1) (eName 2)) ah))) (ak bu (ae (aq kR (af (.int 0)) (aq j0 (eName 0) (eName 2))) (ae (aq kR (af (.int 0)) (aq j0 (eName 1) (eName 2))) ah))))))
def z2:aB:=bZ 2 (bI 3 z1)
def Iu:SX :=
 (a8 (cR "own_bottom" [("Ratio",.fld)] (eName 0)))
def DU:aB:=bZ 1 (bI 1 Iu)
def Iv:SX :=
 (a8 (cR "own_top" [("Ratio",.fld)] (eName 0)))
def DV:aB:=bZ 1 (bI 1 Iv)
def xr:SX :=
 (a8 (eF (aI (ak (vb [("Ratio",["Ratio"],[])]) (ae (eName 0) (ae (af (.cls "Ratio")) ah)))) (ak bu (ae (cR "top" [("Ratio",.prop DV)] (eName 0)) (ae (cR "bottom" [("Ratio",.prop DU)] (eName 0)) ah))) (af .non)))
def tF:aB:=bZ 1 (bI 1 xr)
def O6:SX :=
 (a8 (gn (ak (vb [("Ratio",["Ratio"],[])]) (ae (eName 1) (ae (af (.cls "Ratio")) ah))) (gn (aq (aQ false) (cR "own_top" [("Ratio",.fld)] (eName 0)) (cR "own_top" [("Ratio",.fld)] (eName 1))) (aq (aQ false) (cR "own_bottom" [("Ratio",.fld)] (eName 0)) (cR "own_bottom" [("Ratio",.fld)] (eName 1))))))
def rm:aB:=bZ 2 (bI 2 O6)
def Bd(n:Nat)(x:Int):Prop:=x.natAbs<2 ^ n
theorem Bd.mono{n m:Nat}{x:Int}(h:Bd n x)(hl:n<=m):Bd m x:=mA h (Nat.pow_le_pow_right (by decide) hl)
theorem Bd.log{n:Nat}{x:Int}(h:Bd n x)(hn:0<n):x.natAbs.log2<n:=by
 by_cases h0:x.natAbs=0
 .simp_all
 .exact(Nat.log2_lt h0).mpr h
theorem Bd.mul{n m:Nat}{x y:Int}(h:Bd n x)(h2:Bd m y):Bd (n+m) (x * y):=by
 unfold Bd at *;rw[Int.natAbs_mul,Nat.pow_add];by_cases q:y.natAbs=0
 .rw[q,Nat.mul_zero];exact Nat.mul_pos (Nat.pow_pos (by decide)) (Nat.pow_pos (by decide))
 .exact Nat.mul_lt_mul_of_lt_of_le h (jv h2) (Nat.pow_pos (by decide))
theorem Bd.neg{n:Nat}{x:Int}(h:Bd n x):Bd n (-x):=by unfold Bd at *;omega
theorem Bd.of_le{n:Nat}{x y:Int}(h:Bd n x)(h2:y.natAbs<=x.natAbs):Bd n y:=ou h2 h
theorem ahJ{a b k:Nat}(hb:0<b)(qf:b<=a)(h:a * b<2 ^ k):∃j,j<k/\b * (a % b)<2 ^ j:=by
 have hk:0<k:=by
  rcases Nat.eq_zero_or_pos k with rfl|h'
  .have:0<a * b:=Nat.mul_pos (by omega) hb
   omega
  .exact h'
 refine⟨k - 1,by omega,?_⟩;have h1:2 * (a % b)<=a:=by
  have h2:=Nat.mod_lt a hb;have aH:a % b+b<=a:=by
   have:=Nat.div_add_mod a b;have cZ:0<a / b:=Nat.div_pos qf hb;have oX:b * 1<=b * (a / b):=yw b cZ;omega
  omega
 have h2:2 * (b * (a % b))<=a * b:=by
  calc 2 * (b * (a % b))=(2 * (a % b)) * b:=by grind
  _<=a * b:=KR b h1
 have aH:2 ^ k=2 * 2 ^ (k - 1):=by
  conv=>lhs;rw[show k=(k - 1)+1 by omega]
  rw[Nat.pow_succ,Nat.mul_comm]
 omega
def qg(g:Nat)(k:Nat)(a b:Int):Prop:=∃m n:Nat,a=m/\b=n/\Nat.gcd m n=g/\((n<=m/\m * n<2 ^ k)\/(1<=k/\m<n/\m * n<2 ^ (k - 1)))
theorem qg.step{g k:Nat}{a b:Int}(h:qg g k a b)(hb:0<b):∃j,j<k/\qg g j b (a % b):=by
 obtain⟨m,n,rfl,rfl,hg,h⟩:=h;have hn:0<n:=by omega
 have e:((m:Int) % (n:Int))=((m % n:Nat):Int):=by simp
 have z3:Nat.gcd n (m % n)=g:=by rw[<-hg,Nat.gcd_comm m n,Nat.gcd_rec n m,Nat.gcd_comm]
 rcases h with⟨h1,h2⟩|⟨h0,h1,h2⟩
 .obtain⟨j,cK,aH⟩:=ahJ hn h1 h2
  exact⟨j,cK,n,m % n,rfl,e,z3,.inl ⟨jv (Nat.mod_lt _ hn),aH⟩⟩
 .refine⟨k - 1,by omega,n,m % n,rfl,e,z3,.inl ⟨jv (Nat.mod_lt _ hn),?_⟩⟩
  rw[Nat.mod_eq_of_lt h1,Nat.mul_comm];exact h2
theorem qg.start{n m:Nat}{p q:Int}(h:Bd n p)(h2:Bd m q):qg (Int.gcd p q) (n+m+1) (if p<0 then -p else p) (if q<0 then -q else q):=by
 have e:∀x:Int,(if x<0 then -x else x)=(x.natAbs:Int):=λx=>by omega
 refine⟨p.natAbs,q.natAbs,e p,e q,rfl,?_⟩;have aH:p.natAbs * q.natAbs<2 ^ (n+m):=by have:=h.mul h2;unfold Bd at this;rwa [Int.natAbs_mul]at this
 grind
theorem qg.last{g k:Nat}{a b:Int}(h:qg g k a b)(hb:¬0<b):a=g:=by
 obtain⟨m,n,rfl,rfl,hg,_⟩:=h;simp_all
theorem X4{p q:Int}{n m:Nat}(hp:Bd n p)(hq:Bd m q)(hl:n+m<900000)(S:Store):DS [.int p,.int q] S=.ok (.int (Int.gcd p q)) S:=by
 refine bp ?_;unfold DS;refine dF rfl ?_;simp[zX,qb];refine zq (n+m+1) (λk sl S1=>S1=S/\∃a b,sl=[some (.int a),some (.int b)]/\qg (Int.gcd p q) k a b) ⟨rfl,_,_,rfl,qg.start hp hq⟩ (by omega) ?_;rintro k sl S1 ⟨rfl,a,b,rfl,h⟩;by_cases hb:0<b
 .simp[hb,oO hb]
  obtain⟨j,h1,h2⟩:=h.step hb;grind
 .simp[hb]
  exact h.last hb
theorem ahK{p q:Int}{n m:Nat}(hp:Bd n p)(hq:Bd m q)(hl:n+m<900000)(S:Store):DT [.int p,.int q] S=.ok (.int (Int.gcd p q)) S:=by
 refine bp ?_;unfold DT;refine dF rfl ?_;simp[zZ,qb];refine zq (n+m+1) (λk sl S1=>S1=S/\∃a b,sl=[some (.int p),some (.int q),some (.int a),some (.int b)]/\qg (Int.gcd p q) k a b) ⟨rfl,_,_,rfl,qg.start hp hq⟩ (by omega) ?_;rintro k sl S1 ⟨rfl,a,b,rfl,h⟩;by_cases hb:0<b
 .simp[hb,oO hb,j2]
  obtain⟨j,h1,h2⟩:=h.step hb;grind
 .simp[hb]
  exact h.last hb
def num(p q:Int):Int:=if 0<q then p / (Int.gcd p q:Int)else(-p) / (Int.gcd p q:Int)
def den(p q:Int):Int:=(q.natAbs:Int) / (Int.gcd p q:Int)
theorem z4{p q:Int}(hq:q≠0):0<(Int.gcd p q:Int):=by
 simp_all
theorem den_pos{p q:Int}(hq:q≠0):0<den p q:=by
 unfold den;have h:=z4 (p:=p) hq;refine Int.ediv_pos_of_pos_of_dvd (by omega) (by omega) ?_;have:=Int.gcd_dvd_right p q;exact Int.dvd_natAbs.mpr this
theorem O7{x:Int}{g:Int}(hg:0<g)(hd:g ∣ x):(x / g).natAbs<=x.natAbs:=by
 obtain⟨k,rfl⟩:=hd;rw[Int.mul_ediv_cancel_left _ (by omega),Int.natAbs_mul];exact Nat.le_mul_of_pos_left _ (by omega)
theorem Bd.num{n:Nat}{p q:Int}(h:Bd n p)(hq:q≠0):Bd n (Z.num p q):=by
 unfold Z.num;have hg:=z4 (p:=p) hq;have hd:(Int.gcd p q:Int) ∣ p:=Int.gcd_dvd_left p q;split
 .exact h.of_le (O7 hg hd)
 .exact h.neg.of_le (O7 hg (Int.dvd_neg.mpr hd))
theorem Bd.den{n:Nat}{p q:Int}(h:Bd n q)(hq:q≠0):Bd n (Z.den p q):=by
 unfold Z.den;have hg:=z4 (p:=p) hq;refine Bd.of_le (x:=q) h ?_;refine Nat.le_trans (O7 hg ?_) (by simp);exact Int.dvd_natAbs.mpr (Int.gcd_dvd_right p q)
theorem X5{n:Nat}{p q:Int}(h:Bd n q)(hq:q≠0):Bd n (Int.gcd p q:Int):=by
 refine h.of_le ?_;have:=Nat.le_of_dvd (by omega) (Int.gcd_dvd_natAbs_right p q);omega
def Iw(p q:Int):D:=.tup [.int (num p q),.int (den p q)]
theorem ahL{p q:Int}{n m:Nat}(hp:Bd n p)(hq:Bd m q)(hl:n+m<8000)(hm:0<m)(h0:q≠0)(S:Store):z2 [.int p,.int q] S=.ok (Iw p q) S:=by
 refine bp ?_;unfold z2;refine dF rfl ?_;have hg:=z4 (p:=p) h0;have O8:=(X5 (p:=p) hq h0).log hm;have aw:∀i S,j0 (.int i) (.int (Int.gcd p q)) S=.ok (.int (i / (Int.gcd p q:Int))) S:=λi S=>wX hg (by omega) S;simp[z1,ahK hp hq (by omega)];by_cases nN:0<q
 .have ea:(q.natAbs:Int)=q:=by omega
  simp[nN,aw,Iw,num,den,ea];exact cx (by simp) ⟨rfl,rfl⟩
 .have ea:(q.natAbs:Int) = -q:=by omega
  simp[nN,aw,Iw,num,den,ea,FU (Int.gcd_dvd_left p q),FU (Int.gcd_dvd_right p q)];exact cx (by simp) ⟨rfl,rfl⟩
theorem ahM{S1:Store}{c:Str}{ns:List Str}{vs:List D}(h:bH S1.length vs=true):dq (eI (S1++[.ins c ns vs]) S1.length 6) (.ptr S1.length)=some (.ins c ns vs):=by
 rw[dq,eI,if_neg (ni _)];rw[List.getElem?_append_right (Nat.le_refl _)];simp only[Nat.sub_self,KH];rw[jmp h];rfl
theorem ahN{S S1:Store}{P:D->Store->Prop}{c:Str}{ns:List Str}{vs:List D}(h:fz S S1)(aR:bH S.length vs=true)(p:P (.ins c ns vs) S1):e3 S P (.ptr S1.length) (S1++[.ins c ns vs]):=by
 refine CM h ?_ p;rw[<-h.len]at aR ⊢;exact ahM aR
theorem Iy{cs:List Str}{f c:Str}{n:Nat}{v:D}{S:Store}{ns:List Str}{vs:List D}(h:S[n]?=some (.ins c ns vs))(hc:c∈cs)(hn:ns.length<1000):pU cs f (.ptr n) v S=some (S.set n (.ins c (j3 f v ns vs).1 (j3 f v ns vs).2)):=by
 simp only[pU,h];grind
theorem X6(i:Int)(S:Store):oW [.int i] S=.ok (.bl true) S:=by
 refine bp ?_;unfold oW;refine dF rfl ?_;simp[xq]
@[simp] theorem awn(i:Int)(S:Store):G2 (.int i) S=.ok (.int (-i)) S:=(rfl)
def kz(p q:Int):D:=.ins "Ratio" ["own_top","own_bottom"] [.int p,.int q]
@[simp] theorem X7{k:Nat}{p q:Int}:bf k (kz p q)=true:=by simp[kz]
theorem Iz{v:D}:j3 "own_top" v [] []=((["own_top"]:List Str),[v]):=by simp[j3]
theorem X8{v u:D}:j3 "own_bottom" v ["own_top"] [u]=((["own_top","own_bottom"]:List Str),[u,v]):=by
 rfl
theorem ahO{p q:Int}{n m:Nat}(hp:Bd n p)(hq:Bd m q)(hl:n+m<8000)(hm:0<m)(h0:q≠0)(S:Store){P X:D->Store->Prop}(bU:P .non (S++[.ins "Ratio" ["own_top","own_bottom"] [.int (num p q),.int (den p q)]])) :
  We (bI 4 vf [.ptr S.length,.int p,.int q] (S++[.ins "Ratio" [] []])) P X:=by
 refine zp.mpr ?_;have hg:=z4 (p:=p) h0;have O8:=(X5 (p:=p) hq h0).log hm;have aw:∀i S,j0 (.int i) (.int (Int.gcd p q)) S=.ok (.int (i / (Int.gcd p q:Int))) S:=λi S=>wX hg (by omega) S;have ea:(if q<0 then -q else q)=(q.natAbs:Int):=by split<;>omega
 have O9:=fz.set (S:=S++[.ins "Ratio" [] []]) (n:=S.length) (m:=.ins "Ratio" ["own_top","own_bottom"] [.int (num p q),.int (den p q)]) (by simp[jy]);rw[q8 rfl]at O9;by_cases nN:0<q
 .simp[vf,X6,h0,X4 hp hq (by omega),nN,aw,qb,ea]
  refine⟨_,Iy (c:="Ratio") (ns:=[]) (vs:=[]) (by simp) (by simp) (by simp),_,Iy (c:="Ratio") (ns:=["own_top"]) (vs:=[.int (p / (Int.gcd p q:Int))]) (by simp[Iz]) (by simp) (by simp),?_⟩;rw[q8 rfl,q8 rfl];simp only[Iz,X8];have:num p q=p / (Int.gcd p q:Int):=by simp[num,nN]
  rw[<-this];exact pZ O9 (by simp) bU
 .simp[vf,X6,h0,X4 hp hq (by omega),nN,aw,qb,ea]
  refine⟨_,Iy (c:="Ratio") (ns:=[]) (vs:=[]) (by simp) (by simp) (by simp),_,Iy (c:="Ratio") (ns:=["own_top"]) (vs:=[.int ((-p) / (Int.gcd p q:Int))]) (by simp[Iz]) (by simp) (by simp),?_⟩;rw[q8 rfl,q8 rfl];simp only[Iz,X8];have:num p q=(-p) / (Int.gcd p q:Int):=by simp[num,nN]
  rw[<-this];exact pZ O9 (by simp) bU
section
variable{S:Store}{P X:D->Store->Prop}{p q:Int}{n m:Nat}
theorem ahP(hp:Bd n p)(hq:Bd m q)(hl:n+m<8000)(hm:0<m)(h0:q≠0)(h:P (kz (num p q) (den p q)) S):We (pT "Ratio" zY [.int p,.int q] S) (e3 S P) X:=by
 unfold pT;rw[gB];unfold zY;rw[ahI (by simp)];refine ahO hp hq hl hm h0 S ?_;simp;exact ahN (fz.refl S) (by simp) h
theorem ahQ:num p 1=p:=by simp[num]
theorem ahR:den p 1=1:=by simp[den]
@[simp] theorem awo:iR S (kz p q)=some (("Ratio":Str),(["own_top","own_bottom"]:List Str),([.int p,.int q]:List D)):=(rfl)
@[simp] theorem awp{u v:D}:gq "own_top" ["own_top","own_bottom"] [u,v]=some u:=by simp[gq]
@[simp] theorem awq{u v:D}:gq "own_bottom" ["own_top","own_bottom"] [u,v]=some v:=by
 rfl
@[simp] theorem awr{t:List (Str×List Str×List Str)}:vb (("Ratio",["Ratio"],[])::t) [kz p q,.cls "Ratio"] S=.ok (.bl true) S:=by
 rfl
end
structure LT(n:Nat)(p q:Int):Prop where
 up:Bd n p
 dn:Bd n q
 pos:0<q
 one:Int.gcd p q=1
theorem LT.mono{n m:Nat}{p q:Int}(h:LT n p q)(hl:n<=m):LT m p q:=⟨h.up.mono hl,h.dn.mono hl,h.pos,h.one⟩
theorem LT.num{n:Nat}{p q:Int}(h:LT n p q):Z.num p q=p:=by simp[Z.num,h.pos,h.one]
theorem LT.den{n:Nat}{p q:Int}(h:LT n p q):Z.den p q=q:=by
 have:=h.pos;have e:(q.natAbs:Int)=q:=by omega
 simp[Z.den,h.one,e]
theorem X9{p q:Int}(hq:q≠0):Int.gcd (num p q) (den p q)=1:=by
 have hg:0<Int.gcd p q:=Int.gcd_pos_of_ne_zero_right p hq;have e:=Int.gcd_ediv_gcd_ediv_gcd hg;have h1:(Int.gcd p q:Int) ∣ p:=Int.gcd_dvd_left p q;have h2:(Int.gcd p q:Int) ∣ q:=Int.gcd_dvd_right p q;unfold num den;by_cases nN:0<q
 .grind
 .have ea:(q.natAbs:Int) = -q:=by omega
  rw[if_neg nN,ea,FU h1,FU h2,Int.gcd_neg,Int.neg_gcd];exact e
theorem LT.of{n m:Nat}{p q:Int}(hp:Bd n p)(hq:Bd m q)(h0:q≠0):LT (n+m) (Z.num p q) (Z.den p q) :=
 ⟨(hp.num h0).mono (Nat.le_add_right n m),(hq.den h0).mono (Nat.le_add_left m n),den_pos h0,X9 h0⟩
section
variable{S:Store}{p q:Int}
@[simp] theorem aws:DV [kz p q] S=.ok (.int p) S:=by
 refine bp ?_;unfold DV;refine dF rfl ?_;simp[Iv]
@[simp] theorem awt:DU [kz p q] S=.ok (.int q) S:=by
 refine bp ?_;unfold DU;refine dF rfl ?_;simp[Iu]
def tG(p q:Int):D:=.tup [.int p,.int q]
@[simp] theorem X_{k:Nat}{p q:Int}:bf k (tG p q)=true:=by simp[tG]
theorem ahS:Iw p q=tG (num p q) (den p q):=rfl
@[simp] theorem ahT:tF [kz p q] S=.ok (tG p q) S:=by
 refine bp ?_;unfold tF;refine dF rfl ?_;simp[xr,tG];exact cx (by simp) ⟨rfl,rfl⟩
end
@[simp] theorem awu{S:Store}{p q:Int}:a7 (tG p q) (.int 0) S=.ok (.int p) S:=rfl
@[simp] theorem awv{S:Store}{p q:Int}:a7 (tG p q) (.int 1) S=.ok (.int q) S:=rfl
theorem ahU{K:PySem.W.Frag}{D:Addr}(h:F0 K D=true):ExcC K D:=by
 unfold F0 at h;simp only[Bool.and_eq_true,decide_eq_true_eq]at h;obtain⟨h1,h2,aH,bT,cZ,oX⟩:=h;exact⟨h1,h2,aH,bT,cZ,XJ K,XM K,oX⟩
structure DW(K:PySem.W.Frag)(C Cb ox ab:Addr)(bm:List Value)(R nw it:String)(nx:Value)(fs:List Str):Prop where
 zy:PySem.W.keepIn K (.ref C)=true
 xi:PySem.W.excInitIn K C bm nw=true
 xo:PySem.W.excOver K C bm=true
 aww:(PySem.W.clsIn K C).isSome=true
 xs:PySem.W.findIn K (.ref C) "__setattr__"=some (some (.builtin "object.__setattr__"))
 awx:PySem.W.hasDictIn K C=true
 awy:PySem.W.findIn K (.ref C) "__init__"=some (some (.ref ox))
 Cq:PySem.W.typeIn K (.ref ox)=some (.type "function")
 awz:PySem.W.subIn K (.ref C) (.type "BaseException")=some true
 awA:PySem.W.subIn K (.ref C) (.type R)=some true
 awB:PySem.W.typeIn K (.ref C)=some (.type "type")
 awC:PySem.W.mroIn K C (.ref C)=some true
 awD:PySem.W.ks_superIn K C C "__init__"=some (some nx)
 awE:PySem.W.mroIn K C (.ref Cb)=some true
 awF:PySem.W.ks_superIn K C Cb "__init__"=some (some (.builtin it))
 awG:(K.lookup ab).map (·.cls)=some (.type "function")
 awH:PySem.W.fnIn K ab=true
 xe:F0 K C=true
 xa:(fs.all λf=>decide (PySem.W.findIn K (.ref C) f=some none))=true
theorem kb{K:PySem.W.Frag}{C Cb ox ab:Addr}{bm:List Value}{R nw it:String}{nx:Value}{fs:List Str}(h:uw K C Cb ox ab bm R nw it nx fs=true):DW K C Cb ox ab bm R nw it nx fs:=by
 unfold uw at h;obtain⟨h1,h⟩:=Bool.and_eq_true_iff.mp h;obtain⟨h2,h⟩:=Bool.and_eq_true_iff.mp h;obtain⟨aH,h⟩:=Bool.and_eq_true_iff.mp h;obtain⟨bT,h⟩:=Bool.and_eq_true_iff.mp h;obtain⟨cZ,h⟩:=Bool.and_eq_true_iff.mp h;obtain⟨oX,h⟩:=Bool.and_eq_true_iff.mp h;obtain⟨O_,h⟩:=Bool.and_eq_true_iff.mp h;obtain⟨tH,h⟩:=Bool.and_eq_true_iff.mp h;obtain⟨ahV,h⟩:=Bool.and_eq_true_iff.mp h;obtain⟨ahW,h⟩:=Bool.and_eq_true_iff.mp h;obtain⟨ahX,h⟩:=Bool.and_eq_true_iff.mp h;obtain⟨O',h⟩:=Bool.and_eq_true_iff.mp h;obtain⟨ahY,h⟩:=Bool.and_eq_true_iff.mp h;obtain⟨Pa,h⟩:=Bool.and_eq_true_iff.mp h;obtain⟨ahZ,h⟩:=Bool.and_eq_true_iff.mp h;obtain⟨ah0,h⟩:=Bool.and_eq_true_iff.mp h;obtain⟨ah1,h⟩:=Bool.and_eq_true_iff.mp h;obtain⟨HQ,h⟩:=Bool.and_eq_true_iff.mp h;exact⟨h1,h2,aH,bT,of_decide_eq_true cZ,oX,of_decide_eq_true O_,of_decide_eq_true tH,of_decide_eq_true ahV,of_decide_eq_true ahW,of_decide_eq_true ahX,of_decide_eq_true O',of_decide_eq_true ahY,of_decide_eq_true Pa,of_decide_eq_true ahZ,of_decide_eq_true ah0,ah1,HQ,h⟩
theorem DW.at_{K:PySem.W.Frag}{C Cb ox ab:Addr}{bm:List Value}{R nw it:String}{nx:Value}{fs:List Str}(h:DW K C Cb ox ab bm R nw it nx fs){f:Str}(hf:fs.contains f=true):PySem.W.findIn K (.ref C) f=some none :=
 of_decide_eq_true (List.all_eq_true.mp h.xa f (List.contains_iff_mem.mp hf))
theorem DW.xf{K:PySem.W.Frag}{C Cb ox ab:Addr}{bm:List Value}{R nw it:String}{nx:Value}{fs:List Str}(h:DW K C Cb ox ab bm R nw it nx fs):XfC K C:=by
 have:=ahU h.xe;exact⟨this.hg,this.hk,this.hs,this.hd⟩
open PySem PySem.Spec L2
theorem X':∀(k wk n:Nat) (ds:List Char),n<2 ^ k->(Nat.toDigitsCore 10 wk n ds).length<=ds.length+(k+1)
 |k,0,n,ds,h=>by simp[Nat.toDigitsCore]
 |k,wk+1,n,ds,h=>by
  unfold Nat.toDigitsCore;simp only;split
  .simp
  .rename_i h0
   match k,h with
   |0,h=>omega
   |k+1,h =>
    have h2:n / 10<2 ^ k:=by rw[Nat.pow_succ]at h;omega
    have:=X' k wk (n / 10) (Nat.digitChar (n % 10)::ds) h2;grind
theorem Ya{k n:Nat}(h:n<2 ^ k):(Nat.repr n).length<=k+1:=by
 have:=X' k (n+1) n [] h;simpa[Nat.repr,Nat.toDigits]using this
def fO(i:Int):List Nat:=(Str.ofString (toString i)).cps.toList
theorem vg{k:Nat}{i:Int}(h:Bd k i):(fO i).length<=k+2:=by
 have e:(fO i).length=(toString i).length:=by
  have:=PyProof.Rows.ofString_len (toString i);unfold fO;simpa[Str.length]using this
 rw[e];cases i with
 |ofNat m =>
  have:=Ya (k:=k) (n:=m) (by unfold Bd at h;simpa using h);show(Nat.repr m).length<=_;omega
 |negSucc m =>
  have:=Ya (k:=k) (n:=m+1) (by unfold Bd at h;simpa using h);show("-"++Nat.repr (m+1)).length<=_;have h1:"-".length=1:=by decide
  rw[String.length_append];omega
theorem Pb(i:Int):ku (fO i):=oV _
def Pg(d:D)(k:List Nat->Prop):Prop:=match d with
 | .str y=>k y.cps.toList
 |_=>False
@[simp] theorem ah2{l:List Nat}{k:List Nat->Prop}:Pg (.str (aj l)) k=k l:=by rfl
section
variable{sl:aT}{S:Store}{P X:D->Store->Prop}
theorem Ph{acc:List Nat}:We (tA [] (aj acc) sl S) P X=P (.str (aj acc)) S:=by rw[tA];simp
theorem Pj{f:aM}{fs:List aM}{acc:List Nat}:We (tA (f::fs) (aj acc) sl S) P X=We (f sl S) (λd S1=>Pg d λl=>acc.length+l.length<=1000000/\We (tA fs (aj (acc++l)) sl S1) P X) X:=by
 rw[tA,gB];congr 1;funext d S1;cases d with
 |str y =>
  obtain⟨l,rfl⟩:∃l,y=aj l:=⟨_,(zl y).symm⟩
  rw[ah2];simp only[Nn,mP,List.length_append];by_cases h:acc.length+l.length<=1000000
  .grind
  .rw[if_neg h];simp[h]
 |_=>simp[Pg]
@[simp] theorem awI{fs:List aM}:We (DJ fs sl S) P X=We (tA fs (aj []) sl S) P X:=by rfl
@[simp] theorem awJ:Str.ofString "/"=aj [47]:=by rfl
@[simp] theorem awK:Str.ofString ")"=aj [41]:=by rfl
def cM(p q:Int):List Nat:=if q=1 then fO p else fO p++47::fO q
def DX:SX :=
 (a8 (eF (aI (aq (aQ false) (cR "own_bottom" [("Ratio",.fld)] (eName 0)) (af (.int 1)))) (ak va (ae (cR "own_top" [("Ratio",.fld)] (eName 0)) ah)) (DJ [(oB nV (cR "own_top" [("Ratio",.fld)] (eName 0))),(af (.str "/")),(oB nV (cR "own_bottom" [("Ratio",.fld)] (eName 0)))])))
def rn:aB:=bZ 1 (bI 1 DX)
def xt:SX :=
 (a8 (eF (aI (aq (aQ false) (aq a7 (eName 0) (af (.int 1))) (af (.int 1)))) (ak va (ae (aq a7 (eName 0) (af (.int 0))) ah)) (aq bC (aq bC (ak va (ae (aq a7 (eName 0) (af (.int 0))) ah)) (af (.str "/"))) (ak va (ae (aq a7 (eName 0) (af (.int 1))) ah)))))
def z5:aB:=bZ 1 (bI 1 xt)
variable{p q:Int}{n:Nat}
theorem ah3(hp:Bd n p)(hq:Bd n q):(cM p q).length<=2 * n+5:=by
 have:=vg hp;have:=vg hq;unfold cM;grind
theorem ah4:ku (cM p q):=by
 unfold cM;split
 .exact Pb p
 .intro c hc
  simp at hc;rcases hc with hc|rfl|hc
  .exact Pb p c hc
  .decide
  .exact Pb q c hc
theorem IA{i:Int}(h:Bd n i)(hl:n<=1000):va [.int i] S=.ok (.str (aj (fO i))) S:=by
 have:i.natAbs.log2<1920:=by have:=(h.mono (show n<=n+1 by omega)).log (by omega);omega
 unfold va;simp only[if_pos this];rfl
theorem Yb{i:Int}(h:Bd n i)(hl:n<=1000):nV (.int i) S=.ok (.str (aj (fO i))) S:=by
 have:i.natAbs.log2<1920:=by have:=(h.mono (show n<=n+1 by omega)).log (by omega);omega
 unfold nV;simp only[if_pos this];rfl
theorem Yc(h:LT n p q)(hl:n<=1000):rn [kz p q] S=.ok (.str (aj (cM p q))) S:=by
 refine bp ?_;unfold rn;refine dF rfl ?_;have i1:=vg h.up;have i2:=vg h.dn;by_cases h1:q=1
 .simp[DX,h1,IA h.up hl,cM]
 .simp[DX,h1,Pj,Ph,Yb h.up hl,Yb h.dn hl,cM]
  omega
theorem ah5(h:LT n p q)(hl:n<=1000):z5 [tG p q] S=.ok (.str (aj (cM p q))) S:=by
 refine bp ?_;unfold z5;refine dF rfl ?_;have i1:=vg h.up;have i2:=vg h.dn;by_cases h1:q=1
 .simp[xt,h1,IA h.up hl,cM]
 .simp[xt,h1,IA h.up hl,IA h.dn hl,cM]
  omega
theorem Yd:True:=trivial
theorem Pk{d:D}(h:Z.plain 11 d):q6 [d,d] S=.ok (.bl true) S:=af0 11 d S h
theorem ah6{p q:Int}:eD (kz p q)=true:=by rfl
theorem Ye:∀cs:List Int,dw (cs.map .int)=true
 |[]=>rfl
 |c::cs=>by rw[cF,dw,Ye cs];rfl
theorem Yf{cs:List Int}{a g s:Int}:yJ (f7 cs a g s)=true:=by simp[f7,yJ,dw,eD,Ye]
theorem Pl{n:Nat}{cs:List Int}{S ao:Store}(h:g0 S=true)(bL:Drawn n cs S ao):g0 ao=true:=by
 obtain⟨_,a,g,s,rfl⟩:=bL;unfold g0 at *;rw[List.all_eq_true]at *;intro x hx;rcases List.mem_or_eq_of_mem_set hx with hx|rfl
 .exact h x hx
 .exact Yf
theorem Yg{S:Store}{m:dH}(h:g0 S=true)(h2:yJ m=true):g0 (S++[m])=true:=by
 simp[g0]at *;grind
end
end Z
namespace ZW
structure Al where
 inv:Nat->Nat
 I:Nat->Nat->Bool
 lt:Nat->Nat->Bool
structure Al.Ok(A:Al)(ok:Nat->Prop):Prop where
 ah7:∀a,ok a->ok (A.inv a)
 ah8:∀a,ok a->A.inv (A.inv a)=a
 ah9:∀a,ok a->A.inv a≠a
 sym:∀a b,ok a->ok b->A.I a b=A.I b a
 awL:∀a b,ok a->ok b->A.I (A.inv a) b=A.I a b
 awM:∀a,ok a->A.I a a=false
 asym:∀a b,A.lt a b=true->A.lt b a=false
 tri:∀a b,ok a->ok b->A.lt a b=false->A.lt b a=false->a=b
 trans:∀a b c,A.lt a b=true->A.lt b c=true->A.lt a c=true
variable{A:Al}{ok:Nat->Prop}
def put(A:Al):List Nat->Nat->List Nat
 |[],s=>[s]
 |c::w,s =>
  if c=A.inv s then w
  else if A.I c s=true then
   (if put A w s=s::w then(if A.lt c s=true then s::c::w else c::s::w)else c::put A w s)
  else s::c::w
def T(A:Al):List Nat->Nat->Prop
 |[],_=>True
 |c::w,s=>c≠A.inv s/\(A.I c s=true->A.lt c s=true/\T A w s)
def P(A:Al)(ok:Nat->Prop):List Nat->Prop
 |[]=>True
 |c::w=>ok c/\P A ok w/\T A w c
variable{A:Al}
def N(A:Al)(dQ w:List Nat):List Nat:=w.foldl (put A) dQ
@[simp] theorem awN{dQ:List Nat}:N A dQ []=dQ:=rfl
@[simp] theorem awO{dQ:List Nat}{s:Nat}{w:List Nat}:N A dQ (s::w)=N A (put A dQ s) w:=rfl
end ZW
namespace Z
open PySem PySem.Spec L2
def z6(c:Nat):Bool:=decide (97<=c/\c<=122)
def IB(c:Nat):Bool:=decide (65<=c/\c<=90)
def Yh(c:Nat):Prop:=z6 c=true\/IB c=true
def low(c:Nat):Nat:=if IB c=true then c+32 else c
def inv(c:Nat):Nat:=if z6 c=true then c - 32 else c+32
theorem ah7:True:=trivial
theorem ah8:True:=trivial
theorem ah9:True:=trivial
def aia(a b:Nat):Bool:=decide (low a<low b\/(low a=low b/\IB a=false/\IB b=true))
def aib(ps:List (Nat×Nat))(a b:Nat):Bool:=decide (low a≠low b/\(min (low a) (low b),max (low a) (low b))∈ps)
def tI(ps:List (Nat×Nat)):ZW.Al:=⟨inv,aib ps,aia⟩
def aic:SX :=
 (aL (bJ (cC (ak aeR (ae (ak d_ (ae (dD il Cj (eName 1) ah) (ae (dD il Cj (eName 2) ah) ah))) ah))) (XP (c1 (aP 3) (c1 (aP 4) gH))))
 (a8 (aq dy (aq bC (eName 3) (eName 4)) (cR "pairs" [("Threads",.fld)] (eName 0)))))
def aid:aB:=bZ 3 (bI 5 aic)
def aie:SX :=
 (a8 (ak bu (ae (dD il Cj (eName 0) ah) (ae (dD il aef (eName 0) ah) ah))))
def Yi:aB:=bZ 1 (bI 1 aie)
def aif:SX :=
 (a8 (eF (aI (dD il aeg (eName 0) ah)) (dD il aee (eName 0) ah) (dD il Cj (eName 0) ah)))
def aih:aB:=bZ 1 (bI 1 aif)
def aii:SX :=
 (aL (bJ (ak cz (ae (eName 1) ah)) (aP 3))
 (aL (qN (lE (aI (aq jd (eName 3) (af (.int 0)))) (aI (cQ "commute" [("Threads",aid)] (eName 0) (ae (aq a7 (eName 1) (aq kR (eName 3) (af (.int 1)))) (ae (eName 2) ah)))))
 (uN 3 (λi j=>i - j) (af (.int 1))))
 (aL (bE (lE (aI (aq jd (eName 3) (af (.int 0)))) (aI (aq (aQ false) (aq a7 (eName 1) (aq kR (eName 3) (af (.int 1)))) (ak aih (ae (eName 2) ah)))))
 (a8 (aq bC (e0 false (eName 1) fN (ec (aq kR (eName 3) (af (.int 1))))) (e0 false (eName 1) (ec (eName 3)) fN)))
 bG)
 (aL (qN (lE (aI (aq X1 (eName 3) (ak cz (ae (eName 1) ah)))) (aI (aq X1 (ak Yi (ae (aq a7 (eName 1) (eName 3)) ah)) (ak Yi (ae (eName 2) ah)))))
 (uN 3 (λi j=>i+j) (af (.int 1))))
 (a8 (aq bC (aq bC (e0 false (eName 1) fN (ec (eName 3))) (eName 2)) (e0 false (eName 1) (ec (eName 3)) fN)))))))
def aij:aB:=bZ 3 (bI 4 aii)
def aik:SX :=
 (aL (bJ (af (.str "")) (aP 2))
 (aL (uE (ey (eName 1)) (aP 3)
 (bJ (cQ "put" [("Threads",aij)] (eName 0) (ae (eName 2) (ae (eName 3) ah))) (aP 2)))
 (a8 (eName 2))))
def ail:aB:=bZ 2 (bI 4 aik)
def aim:SX :=
 (aL (bE (d2 (dc (aI (ak dM (ae (eName 1) (ae (af (.ty "str")) ah))))) (dc (aI (ak mM (ae (cC (cw (ey (eName 1)) (aP 2) cv (aq dy (dD il Cj (eName 2) ah) (cR "letters" [("Threads",.fld)] (eName 0))) [2])) ah)))))
 (a8 (af (.bl false)))
 bG)
 (a8 (aq (aQ false) (cQ "normal" [("Threads",ail)] (eName 0) (ae (eName 1) ah)) (eName 1))))
def Pm:aB:=bZ 2 (bI 3 aim)
section
variable{S:Store}{c:Nat}
@[simp] theorem awP:il S (iV c)=true:=rfl
end
def ain(ps:List (Nat×Nat)):List D:=ps.map λp=>.str (aj [p.1,p.2])
def aio(ls:List Nat)(ps:List (Nat×Nat)):D:=.ins "Threads" ["letters","pairs"] [.str (aj ls),.tup (ain ps)]
section
@[simp] theorem awQ{u v:D}:gq "pairs" ["letters","pairs"] [u,v]=some v:=by
 rfl
end
section
variable{s:Nat}{ps:List (Nat×Nat)}{w:List Nat}
def putL(ps:List (Nat×Nat))(w:List Nat)(s:Nat):List Nat:=(ZW.put (tI ps) w.reverse s).reverse
end
section
variable{ps:List (Nat×Nat)}{w:List Nat}
def aip(ps:List (Nat×Nat))(w:List Nat):List Nat:=w.foldl (putL ps) []
end
section
variable{ls:List Nat}{ps:List (Nat×Nat)}
def aiq(ls:List Nat)(bw:List (Nat×Nat)):Prop:=∀p∈bw,p.1<p.2/\p.1∈ls/\p.2∈ls
def air(ps:List (Nat×Nat)):Prop:=ps.Pairwise λp q=>p.1<q.1\/(p.1=q.1/\p.2<q.2)
end
def up(c:Nat):Nat:=if z6 c=true then c - 32 else c
end Z
namespace ZK
open PySem PySem.W PySem.Calls PyProof.Rows He He5
theorem eC.sup{prog:Program}{K:Frag}{d:eC}(e:v9 K (d.at_ K)=d.val)(hn:d.name="__init__")(c:d.ok K prog.main.file=true):ZX.s8 prog K (d.at_ K) (d.cls K) d.qual d.params d.body d.scope:=by
 obtain⟨eS,c2⟩:=ba c;obtain⟨c3,ais⟩:=ba c2;unfold v9 at e;cases q:K.lookup (d.at_ K)with
 |none =>
  grind
 |some o =>
  obtain⟨cL,od,GO,hX⟩:=o;rw[q]at eS e;cases GO with
  |func fd =>
   obtain⟨n1,n2,za,Pn,VN,Hk,VO,VP,Yj,Yk,Yl,Ym,ait,Yn,aiu⟩:=fd;have e2:(some (n1,n2,za,Pn,VN,Hk,aiu,VP):F1)=some (d.name,d.qual,d.params,.stmts d.body,d.scope,mainGlobals,builtinsNs,.none):=e;simp only[Option.some.injEq,Prod.mk.injEq]at e2;obtain⟨h1,h2,aH,bT,cZ,oX,O_,tH⟩:=e2;subst h1 h2 aH bT cZ oX O_ tH;have aiv:(K5 K (d.cls K) VO&&K6 K d.qual prog.main.file ait)=true:=eS;obtain⟨dS,cX⟩:=ba aiv;unfold K5 at dS;unfold K6 at cX;split at dS
   .rename_i x cc
    obtain⟨ji,vh⟩:=ba dS;have ji:=of_decide_eq_true ji;subst ji;split at cX
    .rename_i cy
     obtain⟨HV,z7⟩:=ba cX;unfold TQ at vh;split at vh
     .rename_i jD qR E sl0 hq
      have vh:=of_decide_eq_true vh;subst vh;unfold TU at z7;split at z7
      .rename_i awR awS vs a' DY
       split at z7
       .rename_i f ei bP
        obtain⟨p4,bL⟩:=Option.isSome_iff_exists.mp c3;have b3:K.lookup (d.at_ K)=some ⟨cL,od,.func (ksFn "__init__" d.qual d.params d.body d.scope .none Yj Yk Yl Ym (.ref cy) Yn cc),hX⟩:=by rw[q,<-hn]
        have aiw:=of_decide_eq_true ais;exact⟨⟨cL,od,"__init__",Yj,Yk,Yl,Ym,cy,cc,Yn,hX,b3,HV,⟨_,_,_,_,_,_,DY,bP,z7⟩,⟨_,_,_,hq⟩⟩,⟨_,bL⟩,aiw⟩
       .cases z7
      .cases z7
     .cases vh
    .cases cX
   .cases dS
  |_=>cases eS
theorem Yo{K:Frag}{p:Addr}(h:F3 K p=true):∃pr,recIn K p "property"=some (.ref (F2 K p)::pr):=by
 unfold F3 at h;unfold F2;grind
abbrev tJ:Type:=((Bool×List He.FnW)×List F1)×Bool
def Yp(fn:List DefA)(fs:List eC)(ei:List Defn)(ex:Frag->Bool)(g:Addr->Option Obj)(K:Frag):tJ:=(((fn.all λd=>d.ok K,fn.map λd=>fnA K (d.at_ K)),fs.map λd=>v9 K (d.at_ K)),ex K&&tabsB g ei K)
def obsZ(n:v')(fn:List DefA)(fs:List eC)(ei:List Defn)(ex:Frag->Bool)(g:Addr->Option Obj):tJ:=Yp fn fs ei ex g (jw n g)
def z8(fn:List DefA)(fs:List eC):tJ:=(((true,fn.map DefA.val),fs.map eC.val),true)
structure xu(fn:List DefA)(fs:List eC)(ei:List Defn)(ex:Frag->Bool)(h:Heap)(K:Frag):Prop where
 ok:(fn.all λd=>d.ok K)=true
 at_:(fn.map λd=>fnA K (d.at_ K))=fn.map DefA.val
 sup:(fs.map λd=>v9 K (d.at_ K))=fs.map eC.val
 more:ex K=true
 hd:∀p∈ei,codeHdIn K (cT K p).1 (cT K p).2=true
 out:∀p∈ei,K.lookup (cT K p).2=none
 empty:∀p∈ei,h.get? (cT K p).2=some { cls:=.none,data:=.fields #[] }
theorem aix{n:v'}{fn:List DefA}{fs:List eC}{ei:List Defn}{ex:Frag->Bool}{h:Heap}(e:obsZ n fn fs ei ex h.get?=z8 fn fs):xu fn fs ei ex h (jw n h.get?):=by
 have aw:(fn.all λd=>d.ok (jw n h.get?))=true:=congrArg (λz:tJ=>z.1.1.1) e;have e2:(fn.map λd=>fnA (jw n h.get?) (d.at_ (jw n h.get?)))=fn.map DefA.val:=congrArg (λz:tJ=>z.1.1.2) e;have a6:(fs.map λd=>v9 (jw n h.get?) (d.at_ (jw n h.get?)))=fs.map eC.val:=congrArg (λz:tJ=>z.1.2) e;have dA:(ex (jw n h.get?)&&tabsB h.get? ei (jw n h.get?))=true:=congrArg (λz:tJ=>z.2) e;obtain⟨h1,h2⟩:=ba dA;have key:∀p∈ei,codeHdIn (jw n h.get?) (cT (jw n h.get?) p).1 (cT (jw n h.get?) p).2=true/\∃o,h.get? (cT (jw n h.get?) p).2=some o/\emptyTab o=true:=λp hp=>by
  obtain⟨aH,bT⟩:=ba (List.all_eq_true.mp h2 p hp);grind
 exact⟨aw,e2,a6,h1,λp hp=>(key p hp).1,λp hp=>by
  obtain⟨_,o,q,z⟩:=key p hp;exact frT_none q z,λp hp=>by
  obtain⟨_,o,q,z⟩:=key p hp;rw[q,emptyTab_eq z]⟩
def Yq(n:v')(fn:List DefA)(fs:List eC)(ei:List Defn)(ex:Frag->Bool):Hook where
 α:=tJ
 obs:=λs=>obsZ n fn fs ei ex s.heap.get?
 val:=λ_=>z8 fn fs
 says:=λw h=>∃K:Frag,K.In h/\xu fn fs ei ex h K
 of:=λ_ _ e=>⟨_,frT_in,aix e⟩
 keeps:=λ_ _ _ ⟨K,hK,c⟩ k=>⟨K,Frag.In.keeps hK k,⟨c.ok,c.at_,c.sup,c.more,c.hd,c.out,λp hp=>k _ _ (c.empty p hp)⟩⟩
theorem aiy{n:v'}{fn:List DefA}{fs:List eC}{ei:List Defn}{ex:Frag->Bool}{g:Addr->Option Obj}{s:Shared}(h:∀a,g a=s.heap.get? a):obsZ n fn fs ei ex g=(Yq n fn fs ei ex).obs s:=by
 have e:g=s.heap.get?:=funext h;rw[e]<;>rfl
theorem xu.def_{fn:List DefA}{fs:List eC}{ei:List Defn}{ex:Frag->Bool}{h:Heap}{K:Frag}(c:xu fn fs ei ex h K)(i:Nat){d:DefA}(hi:fn[i]?=some d:=by rfl):∃fd,L2.FunD K d.name d.qual d.params d.body d.scope (d.dvs K) (d.kws K) (d.at_ K) fd:=by
 have h1:=List.all_eq_true.mp c.ok d (jV hi);have h2:=congrArg (λl=>l[i]?) c.at_;simp only[List.getElem?_map,hi,yv]at h2;exact DefA.funD (Option.some.inj h2) h1
theorem xu.IC{fn:List DefA}{fs:List eC}{ei:List Defn}{ex:Frag->Bool}{h:Heap}{K:Frag}(c:xu fn fs ei ex h K)(i:Nat){d:eC}(hi:fs[i]?=some d:=by rfl):v9 K (d.at_ K)=d.val:=by
 have h2:=congrArg (λl=>l[i]?) c.sup;grind
theorem Pp{K:Frag}{x qual:Str}{params:Arguments}{body:List Stmt}{scope:Scope}{dvs:List L2.V}{kws:List (Str×L2.V)}{p:Str×Option Str}{fd:FuncData}(F:L2.FunD K x qual params body scope dvs kws (fAd K p) fd):fd.code=.ref (codeOf K p):=by
 obtain⟨cL,od,cG,kV,doc,pm,an,c7,ct,hX,e,l,c,_,_⟩:=F.ex;subst e;obtain⟨jD,hc⟩:=codeIn_ref c;have:=codeOf_eq l (c:=jD) (by omega);grind
end ZK
namespace Z
open PySem PySem.Spec L2 PyProof.Rows
theorem aiz(z:Str):((Builtin.Str.strSliceIndices none none (-1) z.length).filterMap (z.cps[·]?))=z.cps.toList.reverse:=by
 have e:Builtin.Str.strSliceIndices none none (-1) z.length=sliceRange ((z.length:Int) - 1) (-1) (-1):=by
  unfold Builtin.Str.strSliceIndices;simp
 rw[e,PySem.W.krv_sliceRange,PySem.W.krv_range,List.filterMap_reverse];show((List.range z.cps.size).filterMap (z.cps[·]?)).reverse=_;have h:=PySem.W.krv_all (α:=Value);have go:∀{α:Type} (xs:Array α),(List.range xs.size).filterMap (xs[·]?)=xs.toList:=λxs=>PySem.W.krv_all xs;rw[go]
def IE(hand:Bool):D->Store->Out D:=λd S=>match d with
 | .str s=>if s.length<=1000000 then .ok (.str ⟨s.cps.toList.reverse.toArray⟩) S else .bad
 | .tup _=>.bad
 | .b8 _=>.bad
 |d=>(match dJ S d with
  |some xs=>if hand=true then .ok (.ptr S.length) (S++[.lst xs.reverse])else .ok (.lst xs.reverse) S
  |none=>.bad)
def xv(hand:Bool)(fa:aM):aM:=λsl S=>(fa sl S).bind λd S1=>IE hand d S1
section
variable{X:Cx}{W:WX}
theorem Yr{hand:Bool}{e:Expr}{fa:aM}{k:Nat}{p1 p2 cq pos:Pos}(ha:E X W e fa):E X W (.Subscript e (.Slice none none (some (.UnaryOp .USub (.Constant (.int 1) k p1) p2)) cq) pos) (xv hand fa):=by
 refine⟨λpins s σ H Q I h=>?_⟩;obtain⟨ρ,S,sl,w,rs,p⟩:=h;refine Subscript_ (thn (ha.run pins s σ H _ I ⟨ρ,S,sl,w,rs,aV.fJ p⟩) λv s1 ⟨x,H1,I1,r1,aA,S1,d,x1,aF,rd,_,mW⟩=>?_);have eG:PO X (some (.UnaryOp .USub (.Constant (.int 1) k p1) p2)) (tPart (tUn (rU λi=>.int (-i)) (tC (.int 1)))):=po_some (pe_un un_neg pe_int);refine wpAny_Slice (thn (po_none.run pins s1 σ H1 (λo aD=>o=none/\aD=H1) I1 ⟨rfl,rfl⟩) λz9 s2 ⟨l,aD,I2,pl,el,e2⟩=>?_);subst el e2;refine thn (po_none.run pins s2 σ aD (λo hT=>o=none/\hT=aD) I2 ⟨rfl,rfl⟩) λDZ s3 ⟨u,hT,wW,pu,DH,a6⟩=>?_;subst DH a6;refine thn (eG.run pins s3 σ hT (λo kl=>o=some (-1)/\kl=hT) wW ⟨1,rfl,-1,rfl,rfl,rfl⟩) λvs s4 ⟨o,kl,D0,ps,wH,dA⟩=>?_;subst wH dA;have mX:Inv X pins σ kl { s4 with heap:=s4.heap.push { cls:=.type "slice",data:=.fields #[z9,DZ,vs] } }:=D0.kept (t':=s4.toks) λb ob q=>Heap.get?_push_of_some _ q;have Ys:∀xs,dJ S1 d=some xs->(∀ys,d≠.tup ys/\d≠.b8 ys)->aV X.K X.mg (λC d H'=>W C d σ H') aA kl Q (if hand=true then .ok (.ptr S1.length) (S1++[.lst xs.reverse])else .ok (.lst xs.reverse) S1) ->
   wpAny (model X.prog X.w) X.A (subscriptTail e (.Slice none none (some (.UnaryOp .USub (.Constant (.int 1) k p1) p2)) cq) v (.ref s4.heap.objs.size)) (EP X pins σ Q) X.xe { s4 with heap:=s4.heap.push { cls:=.type "slice",data:=.fields #[z9,DZ,vs] } }:=λxs ex hn p=>by
  obtain⟨a,us,aw,h1,dk⟩:=wL aF rd ex hn;subst aw;obtain rfl:v=Value.ref a:=r1;obtain⟨its,r,ht,hz⟩:=mX.list h1;have hlen:=r.length;refine tail_any (ops:=[.ref a,.ref s4.heap.objs.size]) ht.isList.typeIs (PySem.slot_list_getitem.lookup) ?_ (by rfl);refine wpAny_getItem_list_slice ht.isList (Heap.IsSliceOf.new _ z9 DZ vs) pl pu ps (by decide) ?_ (by grind);rw[PySem.W.krv_pick];have hp:kl (s4.heap.push { cls:=.type "slice",data:=.fields #[z9,DZ,vs] }).objs.size=none:=mX.hok.fresh (Nat.le_refl _);refine⟨.ref _,_,mX.laid (t':=s4.toks) (o:=.lst us.reverse) (λb ob q=>Heap.get?_push_of_some _ q) (Nat.le_refl _) ?_,rfl,?_⟩
  .exact⟨by grind,_,0,r.reverse,Heap.get?_push_size _ rfl⟩
  .cases hand with
   |true=>rw[if_pos rfl]at p;exact L6 p aF (H2 dk) hp
   |false=>rw[if_neg kK]at p;exact yP p aF (H2 dk) hp
 show wpAny (model X.prog X.w) X.A (subscriptTail e (.Slice none none (some (.UnaryOp .USub (.Constant (.int 1) k p1) p2)) cq) v (.ref s4.heap.objs.size)) (EP X pins σ Q) X.xe { s4 with heap:=s4.heap.push { cls:=.type "slice",data:=.fields #[z9,DZ,vs] } };cases d with
 |str z =>
  unfold IE at mW;simp only at mW;split at mW
  .rename_i hl
   have ex:=fM rd;subst ex;obtain⟨t,rfl⟩:=r1;obtain⟨nO,rfl,el⟩:=IsPart.raw pl;obtain⟨uA,rfl,DH⟩:=IsPart.raw pu;obtain⟨s',rfl,es⟩:=IsPart.raw ps;refine tail_any (ops:=[.str z t,.ref s4.heap.objs.size]) (typeIs_str _ _ _) (F.slot_str_getitem.lookup) ?_ (by rfl);cases nO with
   |some _=>cases el
   |none =>
   cases uA with
   |some _=>cases DH
   |none =>
   cases s' with
   |none=>cases es
   |some q =>
   obtain⟨i,ti⟩:=q;obtain rfl:i = -1:=Option.some.inj es;refine wpAny_getItem_str_slice (l:=none) (u:=none) (st:=some (-1,ti)) ⟨_,Heap.get?_push_size _ rfl,rfl,rfl⟩ rfl ?_;have hz:(⟨z.cps.toList.reverse.toArray⟩:Str).length<=sizeLine:=by
    have h1:=jY hl;show z.cps.toList.reverse.toArray.size<=sizeLine;rw[ly,List.length_reverse,Array.length_toList];exact h1
   have hm:sliceMade z t none none (some (-1,ti))=.str ⟨z.cps.toList.reverse.toArray⟩:=by
    unfold sliceMade slicePicked;rw[if_neg (by simp)];congr 2;exact congrArg List.toArray (aiz z)
   rw[hm];exact⟨hz,.str _,kl,mX.tok _,⟨_,rfl⟩,cA mW aF nC⟩
  .exact mW.elim
 |tup xs=>exact mW.elim
 |b8 xs=>exact mW.elim
 |lst xs=>exact Ys xs rfl (by simp) mW
 |ck xs=>exact Ys _ rfl (by simp) mW
 |ptr n =>
  have mW:aV X.K X.mg (λC d H'=>W C d σ H') aA kl Q (match dJ S1 (.ptr n)with
   |some xs=>if hand=true then .ok (.ptr S1.length) (S1++[.lst xs.reverse])else .ok (.lst xs.reverse) S1
   |none=>.bad):=mW
  split at mW
  .grind
  .exact mW.elim
 |_=>exact mW.elim
def D1(S:Store)(d:D):Option (List D):=match d with
 | .tup xs=>some xs
 | .b8 xs=>some xs
 |d=>dJ S d
end
open PySem PySem.Spec L2
def Pq(G:Store->Prop)(g:d4)(bt:cJ)(D2:gI)(g1:d4)(D3:cJ)(fe:aM)(D4:List Nat)(n:Nat)(sl:aT):List D->Store->Out Unit
 |[],S=>open Classical in if G S then .ok () S else .bad
 |x::xs,S=>open Classical in if G S then(match g x sl S with
  | .nx a' S1=>(match bt a' S1 with
   | .ok true S2=>(match D2 a' S2 with
    | .ok p a4=>(match jf p.2 g1 D3 fe n (df a' D4) p.1 a4 with
     | .ok _ bR=>Pq G g bt D2 g1 D3 fe D4 n sl xs bR
     |_=>.bad)
    |_=>.bad)
   | .ok false S2=>Pq G g bt D2 g1 D3 fe D4 n sl xs S2
   |_=>.bad)
  |_=>.bad)else .bad
def aiA(it:gI)(g:d4)(bt:cJ)(D2:gI)(g1:d4)(D3:cJ)(fe:aM)(own D4:List Nat):aM:=λsl S=>(it sl S).bind λp S1=>(Pq p.2 g bt D2 g1 D3 fe D4 S1.length (df sl own) p.1 (S1++[.lst []])).bind λ_ S2=>.ok (.ptr S1.length) S2
open PySem PySem.Spec L2
section
variable{S:Store}{P X:D->Store->Prop}
@[simp] theorem awT{xs:List D}:We (IE false (.lst xs) S) P X=P (.lst xs.reverse) S:=by
 have e:IE false (.lst xs) S=.ok (.lst xs.reverse) S:=rfl;rw[e,aS]
end
end Z
namespace ZM
def bP:Int->Nat->Int×Nat
 |n,0=>(n,0)
 |n,e+1=>if n % 2=0 then bP (n / 2) e else(n,e+1)
def Low(p:Int×Nat):Prop:=p.2=0\/p.1 % 2=1
def yI(p:Int×Nat):Rat:=(p.1:Rat) * 2 ^ (-(p.2:Int))
def aiB(n:Int)(e:Nat)(t:Int):Int×Nat:=bP (n * 2 ^ (t - e).toNat) (e - t:Int).toNat
def aiC(p q:Int×Nat):Int×Nat:=bP (p.1 * 2 ^ (max p.2 q.2 - p.2)+q.1 * 2 ^ (max p.2 q.2 - q.2)) (max p.2 q.2)
abbrev vi:=Int×(Int×Nat)
def vi.ok(x:vi):Prop:=Low x.2
def aiD(x y:vi):vi:=(x.1+y.1,aiC x.2 (aiB y.2.1 y.2.2 x.1))
def aiE:vi:=(0,(0,0))
structure aiF(v B:Nat)(x:vi):Prop where
 t:x.1.natAbs<=B
 n:x.2.1.natAbs<=2 ^ ((v+1) * B) * 2 ^ x.2.2
 e:x.2.2<=B
abbrev z_:=List (Int×Int)
def val:z_->Int->Int
 |[],_=>0
 |(q,n)::r,p=>if q=p then n else val r p
def aiG(xs:z_):Prop:=xs.Pairwise (λa b=>a.1<b.1)/\∀a∈xs,a.2≠0
def aiH(f:Int->Int)(ks:List Int):z_:=(ks.filter λp=>decide (f p≠0)).map λp=>(p,f p)
def Yt(ks:List Int):List Int:=(ks.mergeSort λa b=>decide (a<=b)).eraseDups
abbrev qh:=Int×z_
def aiI(x:qh):Prop:=aiG x.2
def ro(x y:qh)(p:Int):Int:=val x.2 p+val y.2 (p - x.1)
def aiJ(x y:qh):List Int:=x.2.map (·.1)++y.2.map λa=>a.1+x.1
def aiK(x y:qh):qh:=(x.1+y.1,aiH (ro x y) (Yt (aiJ x y)))
def aiL:qh:=(0,[])
end ZM
namespace Z
open PySem PySem.Spec L2 PyProof.Rows
@[simp] theorem awU(xs:List Int):Im (xs.map D.int)=some xs:=by
 induction xs with
 |nil=>rfl
 |cons x xs ih=>rw[cF,Im,ih];rfl
def aiM:wh:=λd S=>match d8 S d with
 |some ds=>(match Im ds with
  |some xs=>if xs.length<60 then .ok (.ptr S.length) (S++[.lst ((ZM.Yt xs).map D.int)])else .bad
  |none=>.bad)
 |_=>.bad
theorem aiN(l:Addr)(items:Array Value)(n:Nat)(dd:Option Addr)(sl:Array (Option Value))(u:Tok) :
  Meets (Builtin.«tuple.__mul__» ⟨[.ref l,.int 1 u],[]⟩) (λ_ R s=>s.heap.get? l=some { cls:=.type "tuple",dict:=dd,data:=.seq items n,slots:=sl }/\R (.ok (.ret (.ref l))) s) :=
 .of_wp λprog w A R s h=>by
  obtain⟨hp,g,d,tk,os⟩:=s;obtain⟨hl,h⟩:=h;have f1:=AutoSeq1.idx_int;have eS:(items.isEmpty||(1:Int)==1)=true:=by simp
  wp_walk using wpAny_loadPart' hl
  grind
section
variable{X:Cx}
theorem aiO:OpR X (binaryOp .Mult) (λx y H Q=>∃l xs,x=V.ref l/\y=.int 1/\SqT X.K H l xs/\Q (.ref l) H):=by
 intro pins s σ H x y v u Q I aJ bS ⟨l,xs,ex,ew,d9,q⟩;subst ex ew;cases aJ;obtain⟨t,rfl⟩:=bS;obtain⟨its,r,⟨⟨cls,dd,data,sl⟩,aY,hc,n,hd⟩,hs⟩:=I.tuple d9;cases hc;cases hd;refine wpAny_binaryOp_repeat_ref (T:="tuple") (U:="int") (by decide) ⟨_,aY,rfl⟩ (λs'=>typeIs_int s' 1 t) noFill_tuple_mul F.fills_int_mul F.slot_int_rmul repeat_tuple F.slot_int_index.lookup ?_;refine call_meets F.slot_int_rmul (typeIs_int s 1 t) F.entry_int_rmul (F.args_int_rmul_2 _ _) (int_rmul_tuple 1 t l its.toArray n dd sl) ⟨aY,rfl,⟨_,aY,rfl⟩,?_⟩;refine call_meets F.slot_tuple_mul ⟨_,aY,rfl⟩ F.entry_tuple_mul (F.args_tuple_mul_2 _ _) (aiN l its.toArray n dd sl t) ⟨aY,?_⟩;exact⟨.ref l,H,I,rfl,q⟩
end
def D5:b_:=λd e S=>match d,e with
 | .tup xs,.int k=>if k=1 then .ok (.tup xs) S else if xs≠[]/\2<=k/\k<=1000/\xs.length<=1000 then .ok (.tup (B7 k.toNat xs)) S else .bad
 |_,_=>.bad
section
variable{X:Cx}
theorem aiP:de X (binaryOp .Mult) D5:=by
 refine⟨_,aiO.or op_repT,λWp ρ H S d e x y Q w aJ bS p=>?_⟩;unfold D5 at p;split at p
 .rename_i xs k
  have Pr:=aJ;rw[Rep]at aJ;obtain⟨a,vs,aw,t,r1⟩:=aJ;split at p
  .rename_i hk
   subst hk;exact .inl ⟨a,vs,aw,f6 bS,t.eQ,by rw[<-aw];exact cA p w Pr⟩
  .split at p
   .rename_i hl
    refine .inr ⟨a,k,vs,aw,f6 bS,t.eQ,λe=>hl.1 (by subst e;exact List.eq_nil_of_length_eq_zero r1.len),hl.2.1,hl.2.2.1,by rw[<-r1.len];omega,λq hq=>yO p w (r1.rep k.toNat) hq⟩
   .exact p.elim
 .exact p.elim
def D6:b_:=eu ho D5
theorem Yu:de X (binaryOp .Mult) D6:=sU.or aiP
end
end Z
namespace ZM
structure aiQ(v c B:Nat)(x:qh):Prop where
 s:x.1.natAbs<=B
 p:∀a∈x.2,a.1.natAbs<=B/\a.2.natAbs<=B * 2 ^ v
 l:x.2.length<=c
inductive IG:Nat->List Int->Prop
 |two (a:Int):IG 2 [a]
 |three (a b c:Int):IG 3 [a,b,c]
 |four (a b c d e f:Int):IG 4 [a,b,c,d,e,f]
def aiR:List Int->List Int->List Int
 |[a],[x]=>[a+x]
 |[a,b,c],[x,y,z]=>[a+x,b+a * z+y,c+z]
 |[a,b,c,d,e,f],[x,y,z,u,v,w]=>[a+x,b+a * u+y,c+a * v+b * w+z,d+u,e+d * w+v,f+w]
 |xs,_=>xs
def aiS:Nat->List Int
 |2=>[0]
 |3=>[0,0,0]
 |_=>[0,0,0,0,0,0]
variable{x:List Int}
def aiT(B:Nat)(x:List Int):Prop:=∀a∈x,a.natAbs<=2 ^ B
end ZM
namespace Z
open PySem PySem.Spec L2 ZM
section
variable{ps:List (Nat×Nat)}{ls u v w:List Nat}
def aiU(ls:List Nat)(ps:List (Nat×Nat))(w:List Nat):Prop:=(∀c∈w,Yh c/\low c∈ls)/\aip ps w=w
def aiV(ps:List (Nat×Nat))(u v:List Nat):List Nat:=v.foldl (putL ps) u
end
inductive hZ where
 |D7 (ls:List Nat) (ps:List (Nat×Nat))
 |st (n:Nat)
 |z'
 |D8
 |bo (a b:hZ)
inductive f' where
 |w (l:List Nat)
 |s (l:List Int)
 |l (x:qh)
 |d (x:vi)
 |p (a b:f')
deriving DecidableEq
def hZ.ok:hZ->Prop
 | .D7 ls ps=>afV ls/\1<=ls.length/\ls.length<=5/\aiq ls ps/\air ps
 | .st n=>2<=n/\n<=4
 | .z'=>True
 | .D8=>True
 | .bo a b=>a.ok/\b.ok
def hZ.dep:hZ->Nat
 | .bo a b=>1+max a.dep b.dep
 |_=>0
def D9:hZ->f'->Prop
 | .D7 ls ps,.w l=>aiU ls ps l
 | .st n,.s l=>IG n l
 | .z',.l x=>aiI x
 | .D8,.d x=>vi.ok x
 | .bo A B,.p a b=>D9 A a/\D9 B b
 |_,_=>False
def Pt(v c n:Nat):f'->Prop
 | .w l=>l.length<=c
 | .s l=>aiT ((v+1) * n) l
 | .l x=>aiQ v c n x
 | .d x=>aiF v n x
 | .p a b=>Pt v c n a/\Pt v c n b
def mul:hZ->f'->f'->f'
 | .D7 _ ps,.w u,.w v=>.w (aiV ps u v)
 | .st _,.s u,.s v=>.s (aiR u v)
 | .z',.l x,.l y=>.l (aiK x y)
 | .D8,.d x,.d y=>.d (aiD x y)
 | .bo A B,.p a b,.p c d=>.p (mul A a c) (mul B b d)
 |_,e,_=>e
def one:hZ->f'
 | .D7 _ _=>.w []
 | .st n=>.s (aiS n)
 | .z'=>.l aiL
 | .D8=>.d aiE
 | .bo A B=>.p (one A) (one B)
def aiW(xs:List Int):D:=.tup (xs.map .int)
def Pu(a:Int×Int):D:=.tup [.int a.1,.int a.2]
def f'.D:f'->Z.D
 | .w u=>.str (aj u)
 | .s u=>aiW u
 | .l x=>.tup [.int x.1,.b8 (x.2.map Pu)]
 | .d x=>.tup [.int x.1,.int x.2.1,.int x.2.2]
 | .p a b=>.tup [a.D,b.D]
def hZ.D:hZ->Z.D
 | .D7 ls ps=>aio ls ps
 | .st n=>.ins "Stairs" ["size"] [.int n]
 | .z'=>.ins "Lamps" [] []
 | .D8=>.ins "Doubler" [] []
 | .bo a b=>.ins "Both" ["one","other"] [a.D,b.D]
def aiX:SX :=
 (a8 (cC (aiA (pP (ae (cR "size" [("Stairs",.fld)] (eName 0)) ah)) (aP 1) cv (aeE (ae (aq bC (eName 1) (af (.int 1))) (ae (cR "size" [("Stairs",.fld)] (eName 0)) ah))) (aP 2) cv (ak bu (ae (eName 1) (ae (eName 2) ah))) [1,2] [2])))
def aiY:aB:=bZ 1 (bI 3 aiX)
def aiZ:SX :=
 (aL (bE (d2 (dc (aI (ak dM (ae (eName 1) (ae (af (.ty "tuple")) ah))))) (d2 (aI (aq (aQ true) (ak cz (ae (eName 1) ah)) (af (.int 3)))) (dc (aI (ak mM (ae (cC (cw (ey (eName 1)) (aP 2) cv (ak oW (ae (eName 2) ah)) [2])) ah))))))
 (a8 (af (.bl false)))
 bG)
 (a8 (uB (aq (aQ false) (aq a7 (eName 1) (af (.int 2))) (af (.int 0))) (gn (aq jd (aq a7 (eName 1) (af (.int 2))) (af (.int 0))) (aq (aQ false) (aq jB (aq a7 (eName 1) (af (.int 1))) (af (.int 2))) (af (.int 1)))))))
def Pw:aB:=bZ 2 (bI 3 aiZ)
def ai0:SX :=
 (aL (bE (d2 (dc (aI (ak dM (ae (eName 1) (ae (af (.ty "tuple")) ah))))) (d2 (aI (aq (aQ true) (ak cz (ae (eName 1) ah)) (af (.int 2)))) (d2 (dc (aI (ak oW (ae (aq a7 (eName 1) (af (.int 0))) ah)))) (dc (aI (ak dM (ae (aq a7 (eName 1) (af (.int 1))) (ae (af (.ty "tuple")) ah))))))))
 (a8 (af (.bl false)))
 bG)
 (aL (uE (ey (aq a7 (eName 1) (af (.int 1)))) (aP 2)
 (bE (d2 (dc (aI (ak dM (ae (eName 2) (ae (af (.ty "tuple")) ah))))) (d2 (aI (aq (aQ true) (ak cz (ae (eName 2) ah)) (af (.int 2)))) (d2 (dc (aI (ak oW (ae (aq a7 (eName 2) (af (.int 0))) ah)))) (dc (aI (ak oW (ae (aq a7 (eName 2) (af (.int 1))) ah)))))))
 (a8 (af (.bl false)))
 bG))
 (aL (bJ (cC (cw (ey (aq a7 (eName 1) (af (.int 1)))) (hj (c1 (aP 4) (c1 (aP 5) gH))) cv (eName 4) [4,5])) (aP 3))
 (a8 (gn (aq aeX (af (.int 0)) (cC (cw (ey (aq a7 (eName 1) (af (.int 1)))) (hj (c1 (aP 4) (c1 (aP 5) gH))) cv (eName 5) [4,5]))) (aq (aQ false) (eName 3) (cC (oB aiM (eName 3)))))))))
def Px:aB:=bZ 2 (bI 6 ai0)
def ai1:SX :=
 (a8 (gn (ak dM (ae (eName 1) (ae (af (.ty "tuple")) ah))) (gn (aq (aQ false) (ak cz (ae (eName 1) ah)) (ak cz (ae (cQ "spots" [("Stairs",aiY)] (eName 0) ah) ah))) (ak mM (ae (cC (cw (ey (eName 1)) (aP 2) cv (ak oW (ae (eName 2) ah)) [2])) ah)))))
def Py:aB:=bZ 2 (bI 3 ai1)
def ai2:SX :=
 (a8 (af (.bl false)))
def Pz:aB:=bZ 2 (bI 2 ai2)
def ai3(again:aB):SX :=
 (aL (bE (d2 (dc (aI (ak dM (ae (eName 1) (ae (af (.ty "tuple")) ah))))) (aI (aq (aQ true) (ak cz (ae (eName 1) ah)) (af (.int 2)))))
 (a8 (af (.bl false)))
 bG)
 (a8 (gn (cQ "is_element" [("World",Pz),("Stairs",Py),("Threads",Pm),("Lamps",Px),("Doubler",Pw),("Both",again)] (cR "one" [("Both",.fld)] (eName 0)) (ae (aq a7 (eName 1) (af (.int 0))) ah)) (cQ "is_element" [("World",Pz),("Stairs",Py),("Threads",Pm),("Lamps",Px),("Doubler",Pw),("Both",again)] (cR "other" [("Both",.fld)] (eName 0)) (ae (aq a7 (eName 1) (af (.int 1))) ah)))))
def Yv:Nat->aB
 |0=>λ_ _=>.bad
 |k+1=>bZ 2 (bI 2 (ai3 (Yv k)))
def ai4:aB:=Yv 3
def ai5:SX :=
 (a8 (gn (ak oW (ae (eName 0) ah)) (oC kS kS (eName 1) (eName 0) (eName 2))))
def ai6:aB:=bZ 3 (bI 3 ai5)
open PySem PySem.Spec L2 PyProof.Rows
section
variable{X:Cx}{W:WX}{e:Expr}{es:List Expr}{fe:aM}{p:Pos}
def mj(fe:aM)(fr:du):du:=λsl S=>(fe sl S).bind λd S1=>match D1 S1 d with
 |some xs=>(fr sl S1).bind λds S2=>.ok (xs++ds) S2
 |none=>.bad
theorem ai7{K:PySem.W.Frag}{mg:Str->Option Value}{ρ:List Addr}{H:Hp}{S:Store}{d:D}{v:V}{xs:List D}(w:aN K mg ρ H S)(r:Rep K mg ρ H d v)(ew:D1 S d=some xs):∃t us,v=.ref t/\(SqT K H t us\/SqL K H t us)/\ay K mg ρ H xs us:=by
 cases d with
 |tup zs =>
  cases ew;rw[Rep]at r;obtain⟨t,us,aw,tt,dk⟩:=r;exact⟨t,us,aw,.inl tt.eQ,dk⟩
 |b8 zs =>
  cases ew;rw[Rep]at r;obtain⟨t,us,aw,tt,dk⟩:=r;exact⟨t,us,aw,.inl tt.eQ,dk⟩
 |_ =>
  obtain⟨t,us,aw,h1,dk⟩:=wL w r ew (by intros;exact⟨nofun,nofun⟩);exact⟨t,us,aw,.inr h1,dk⟩
theorem PB{fr:du}(he:E X W e fe)(hr:gQ X W es fr)(hs:starEach (.Starred e p::es) X.env=(true,eval e X.env)::starEach es X.env:=by rfl):gQ X W (.Starred e p::es) (mj fe fr) :=
 PA.imp (StX.pa_star he hr hs) λσ H Q h=>by
  obtain⟨ρ,S,sl,w,rs,p⟩:=h;refine⟨ρ,S,sl,w,rs,aV.mono (aV.sd p) λv H1 ⟨aA,S1,d,x1,aF,r1,_,p1⟩=>?_⟩;split at p1
  .rename_i xs ew
   obtain⟨t,us,aw,ht,dk⟩:=ai7 aF r1 ew;refine⟨t,us,aw,ht,aA,S1,sl,aF,rs.ext x1,eZ.mono (eZ.sd p1) λys aD ⟨aO,S2,ds,x2,cm,r2,_,p2⟩=>?_⟩;exact p2 (us++ys) aO aD Ext.refl cm ((dk.ext x2).append r2)
  .exact p1.elim
end
def xA:kX:=λd ds S=>match d,ds with
 | .str a,[.str b]=>if b.length≠0/\a.length<=1000000 then .ok (.tup [.str (Txt.partition a b).1,.str (Txt.partition a b).2.1,.str (Txt.partition a b).2.2]) S else .bad
 |_,_=>.bad
section
variable{X:Cx}
theorem ai8:wF X "str.partition" xA:=by
 refine⟨_,mt_partition,λWp ρ H S d ds x xs Q w aJ cu p=>?_⟩;unfold xA at p;split at p
 .rename_i a b
  split at p
  .rename_i hl
   obtain⟨v,e2,r2⟩:=lK cu;refine⟨a,b,fM aJ,by rw[e2,fM r2],by simp[hl.1],jY hl.2,λq hq=>yO (ds:=[.str _,.str _,.str _]) p w (MO [_,_,_]) hq⟩
  .exact p.elim
 .exact p.elim
end
open PySem PySem.Spec L2 PyProof.Rows PySem.Builtin.Str
theorem ai9{a:Str}{n:Int}(h1:0<=n)(h2:n<=1000)(aH:a.length<=1000):MulOk a n:=by
 refine⟨?_,λh _=>?_,λh _=>?_⟩
 .grind
 .have hn:1<=n:=by omega
  have e:(1001:Int)<=(2 ^ 63 - 1) / n:=by
   rw[Int.le_ediv_iff_mul_le (by omega)];omega
  omega
 .unfold tooLong sizeLine
  have:a.length * n.toNat<=1000 * 1000:=v8 aH (by omega);grind
section
variable{X:Cx}
theorem aja:OpR X (binaryOp .Mult) (λx y H Q=>∃a n,x=V.str a/\y=.int n/\0<=n/\n<=1000/\a.length<=1000/\Q (.str (Txt.mul a n)) H):=by
 intro pins s σ H x y v u Q I aJ bS ⟨a,n,ex,ew,h1,h2,aH,q⟩;subst ex ew;obtain⟨t,rfl⟩:=aJ;obtain⟨nI,rfl⟩:=bS;exact SB.mul (ai9 h1 h2 aH) λt' k=>⟨.str (Txt.mul a n),H,I.tok k,⟨t',rfl⟩,q⟩
def tK:b_:=λd e S=>match d,e with
 | .str a,.int n=>if 0<=n/\n<=1000/\a.length<=1000 then .ok (.str (Txt.mul a n)) S else .bad
 |_,_=>.bad
theorem ajb:de X (binaryOp .Mult) tK:=by
 refine⟨_,aja,λWp ρ H S d e x y Q w aJ bS p=>?_⟩;unfold tK at p;split at p
 .rename_i a n
  split at p
  .rename_i hl
   exact⟨a,n,fM aJ,f6 bS,hl.1,hl.2.1,hl.2.2,cA p w nC⟩
  .exact p.elim
 .exact p.elim
def kA:b_:=eu ho tK
theorem rq:de X (binaryOp .Mult) kA:=sU.or ajb
end
open PySem PySem.Spec L2 PyProof.Rows
inductive nW (h:Heap) (x:Addr):Value->Prop
 |nil:nW h x .none
 |cons {b:Addr} {o:Obj} {vs:Array Value} {c:Value} (ne:x≠b) (h0:h.get? b=some o) (hd:o.data=.fields vs) (hc:vs[2]?=some c) (r:nW h x c):nW h x (.ref b)
inductive qi (h:Heap):Bool->Value->Value->Prop
 |refl {v:Value}:qi h false v v
 |step {b:Addr} {o:Obj} {vs:Array Value} {c v:Value} {t:Bool} (h0:h.get? b=some o) (hd:o.data=.fields vs) (hc:vs[2]?=some c) (hn:c≠.none) (r:qi h t c v):qi h true (.ref b) v
theorem qi.on{h:Heap}{t:Bool}{u v:Value}{b:Addr}{o:Obj}{vs:Array Value}{c:Value}(x:qi h t u v)(ev:v=.ref b)(h0:h.get? b=some o)(hd:o.data=.fields vs)(hc:vs[2]?=some c)(hn:c≠.none):qi h true u c:=by
 induction x with
 |refl=>subst ev;exact .step h0 hd hc hn .refl
 |step h1 Hr Cg wZ r ih=>exact .step h1 Hr Cg wZ (ih ev)
section
variable{prog:Program}{w:World}{A:Around}{E:Value->Shared->Prop}{s:Shared}
theorem qi.ajc{h:Heap}{u v:Value}(x:qi h true u v):∃(b:Addr) (o:Obj) (vs:Array Value) (c:Value) (t:Bool),u=.ref b/\h.get? b=some o/\o.data=.fields vs/\vs[2]?=some c/\qi h t c v:=by
 cases x with
 |step h0 hd hc hn r=>grind
theorem ajd{x:Addr}{R:Result->Shared->Prop}(k4:R (.ok (.ret .none)) s):∀{o:Value},nW s.heap x o->o≠.none->∀(D_:Value) (xB t:Bool),qi s.heap t D_ o->(xB=true->t=true) ->
  codeAny (model prog w) A (.builtin "proto.unchain" ⟨[.ref x,o,D_,.bool xB],[]⟩) R s:=by
 intro o ch
 induction ch with
 |nil=>simp
 | @cons b ob vs c ne h0 hd hc r ih =>
  intro _ D_ xB t hb ht;refine codeAny_builtin HotX.entry_unchain ?_;show wpAny _ _ (field (.ref b) 2 >>= _) _ _ s;refine wpAny_bind (wpAny_field h0 hd hc ?_);by_cases hn:c=.none
  .subst hn
   rw[if_pos (show(Value.none==Value.none)=true from rfl)]
   first
   |exact wpAny_bind (wpAny_pure (wpAny_pure k4))
   |exact wpAny_pure k4
  .rw[if_neg (by grind)]
   have Yw:¬((c==Value.ref x)=true):=λe=>by
    have e:c=.ref x:=by simpa using e
    subst e;cases r with
    |cons ne2 _ _ _ _=>exact ne2 rfl
   have hH:=hb.on rfl h0 hd hc hn;have go:∀(IH:Value),(∃t',qi s.heap t' IH c/\((!xB)=true->t'=true))->codeAny (model prog w) A (.builtin "proto.unchain" ⟨[.ref x,c,IH,.bool (!xB)],[]⟩) R s:=λIH ⟨t',h1,h2⟩=>ih hn IH (!xB) t' h1 h2
   first
   |rw[if_neg Yw]
   |(refine wpAny_bind ?_;rw[if_neg Yw];refine wpAny_pure ?_)
   by_cases hs:(c==D_)=true
   .rw[if_pos hs]
    first
    |exact wpAny_bind (wpAny_rule (wpAny_bind (wpAny_pure (wpAny_pure k4))))
    |exact wpAny_bind (wpAny_rule (wpAny_pure k4))
   .rw[if_neg hs]
    cases xB with
    |false =>
     refine wpAny_bind (wpAny_pure ?_);exact wpAny_pure ⟨Code.quiet_builtin _ (by simp),go D_ ⟨true,hH,λ_=>rfl⟩⟩
    |true =>
     have ht:=ht rfl;subst ht;obtain⟨b',e6,fy,c',t',rfl,mQ,gd,gc,gr⟩:=hb.ajc;refine wpAny_bind (wpAny_field mQ gd gc ?_);exact wpAny_pure ⟨Code.quiet_builtin _ (by simp),go c' ⟨true,gr.on rfl h0 hd hc hn,λe=>by cases e⟩⟩
theorem nW.to{h h':Heap}{x:Addr}{v:Value}(c:nW h x v)(k:∀b o,x≠b->h.get? b=some o->h'.get? b=some o):nW h' x v:=by
 induction c with
 |nil=>exact .nil
 |cons ne h0 hd hc r ih=>exact .cons ne (k _ _ ne h0) hd hc ih
theorem PD{x1 a:Addr}{Q:Value->Shared->Prop}(ch:nW s.heap a (.ref x1))(q:Q .none s) :
  wpAny (model prog w) A (holding [Value.ref a] (runValue (.builtin "proto.unchain" ⟨[.ref a,.ref x1,.ref x1,.bool false],[]⟩))) Q E s :=
 wpAny_holding (wpAny_runValue (ajd q ch (by simp) (.ref x1) false false .refl (λe=>by cases e)))
theorem jps{α:Type}{a x1:Addr}{dI:Obj}{vs:Array Value}{Q:α->Shared->Prop}(hh:A.handled=some (.ref x1))(ch:nW s.heap a (.ref x1))(ha:s.heap.get? a=some dI)(hD:dI.data=.fields vs)(hi:2<vs.size)
  (lG:E (.ref a) { s with heap:=s.heap.update a (Obj.mapFields (·.setIfInBounds 2 (.ref x1))) }):wpAny (model prog w) A (raiseNew (.ref a):Sem α) Q E s:=by
 have d5:x1≠a:=by
  cases ch with
  |cons ne _ _ _ _=>grind
 unfold raiseNew;refine wpAny_bind (wpAny_handled ?_);rw[hh];have hb:(Value.ref x1 != Value.ref a)=true:=HotX.ref_bne d5
 first
 |(show wpAny _ _ (if(Value.ref x1 != Value.ref a)=true then _ else _) _ _ _
   rw[if_pos hb]
   first
   |exact wpAny_bind (PD ch (wpAny_bind (HotX.chained ha hD hi (wpAny_throw lG))))
   |exact wpAny_bind (wpAny_bind (PD ch (HotX.chained ha hD hi (wpAny_throw lG)))))
 |(refine wpAny_bind ?_
   show wpAny _ _ (if(Value.ref x1 != Value.ref a)=true then _ else _) _ _ _;rw[if_pos hb];exact wpAny_bind (PD ch (HotX.chained ha hD hi (wpAny_throw lG))))
open HotX in
theorem aje{env:Env}{x c:Sem Value}{Q:Flow->Shared->Prop}{x1:Addr}
  (gK:∀(s:Shared) (e7:Value->Shared->Prop),e7 .none s->wpAny (model prog w) A c e7 E s)
  (h:wpAny (model prog w) A x (λv s₁=>∃a dI vs cls,v=.ref a/\s₁.heap.get? a=some dI/\dI.cls=cls/\dI.data=.fields vs/\vs[1]?=some .none/\4<vs.size/\A.handled=some (.ref x1)/\nW s₁.heap a (.ref x1) /\
   PySem.W.Looks (model prog w) s₁.heap (isSubtype cls (.type "BaseException")) true/\PySem.W.Looks (model prog w) (noneFrom s₁.heap a) (typeOf cls) (.type "type") /\
   E (.ref a) { s₁ with heap:=(noneFrom s₁.heap a).update a (Obj.mapFields (·.setIfInBounds 2 (.ref x1))) }) E s) :
  wpAny (model prog w) A (raiseStmt env (some x) (some c)) Q E s:=by
 unfold raiseStmt;dsimp only;refine wpAny_bind (wpAny_mono h (λv s₁ h₁=>?_) λ_ _ x=>x);obtain⟨a,dI,vs,cls,rfl,ha,ajf,hd,h1,hi,hh,rk,ajg,ajh,lG⟩:=h₁;have LT:PySem.W.Looks (model prog w) s₁.heap (typeOf (.ref a)) cls:=λA Q E s k q=>wpAny_typeOf_ref (k _ _ ha) (by grind);have aji:PySem.W.Looks (model prog w) s₁.heap (isInstance (.ref a) (.type "BaseException")) true:=LT.andThen ajg;have ajj:∀{e7:Bool->Shared->Prop},e7 false s₁->wpAny (model prog w) A (isType (.ref a)) e7 E s₁:=by
  intro e7 hq;simp only[isType,loadHead];refine wpAny_bind (wpAny_loadPart ha ?_);rw[hd];exact wpAny_pure hq
 have w9:=Obj.data_mapFields hd (·.setIfInBounds 3 .none);have PF:=Heap.get?_update_self (Obj.mapFields (·.setIfInBounds 3 .none)) ha (Obj.isFreed_of_fields w9);obtain⟨Aa,rh⟩:=noneFrom_at ha hd;have s3:3<vs.size:=by omega
 have s4:4<(vs.setIfInBounds 3 Value.none).size:=by rw[set_size];exact hi
 have s2:2<((vs.setIfInBounds 3 Value.none).setIfInBounds 4 (Value.bool true)).size:=by rw[set_size,set_size];omega
 have Pa:((vs.setIfInBounds 3 Value.none).setIfInBounds 4 (Value.bool true))[1]?=some Value.none:=set_other (by decide) (set_other (by decide) h1);have awV:((dI.mapFields (·.setIfInBounds 3 .none)).mapFields (·.setIfInBounds 4 (.bool true))).cls=cls:=by rw[Obj.cls_mapFields,Obj.cls_mapFields];exact ajf
 have ajk:PySem.W.Looks (model prog w) (noneFrom s₁.heap a) (typeOf (.ref a)) cls:=λA Q E s k q=>wpAny_typeOf_ref (k _ _ Aa) (by grind);have ajl:∀{e7:Bool->Shared->Prop},e7 false { s₁ with heap:=noneFrom s₁.heap a }->wpAny (model prog w) A (isType (.ref a)) e7 E { s₁ with heap:=noneFrom s₁.heap a }:=by
  intro e7 hq;simp only[isType,loadHead];refine wpAny_bind (wpAny_loadPart Aa ?_);rw[rh];exact wpAny_pure hq
 have ajm:nW (noneFrom s₁.heap a) a (.ref x1):=rk.to λb o ne e=>by rw[noneFrom_other ne];exact e
 have rest:wpAny (model prog w) A (do
   let b <-isType (.ref a)
   if b=true then do
    let e <-holding [.ref a] (raisedFor (.ref a) (.ref a))
    setFlight e none
    raiseNew e
   else do
    let e <-raisedInstance (.ref a)
    setFlight e none
    raiseNew e:Sem Flow) Q E { s₁ with heap:=noneFrom s₁.heap a }:=by
  refine wpAny_bind (ajl ?_);simp only[uq,if_false];unfold raisedInstance;refine wpAny_bind (wpAny_bind (ajk.here (wpAny_bind (ajh.here ?_))));rw[if_pos (beq_self_eq_true _)];refine wpAny_pure ?_;unfold setFlight;refine wpAny_bind (wpAny_bind (wpAny_field Aa rh Pa ?_));rw[if_neg (by decide)];refine wpAny_pure ?_;exact jps hh ajm Aa rh s2 lG
 refine wpAny_bind (wpAny_holding (gK _ _ (wpAny_bind (wpAny_pure ?_))));dsimp only;refine wpAny_bind (wpAny_holding ?_);unfold excFromValue isExcClass;refine wpAny_bind (wpAny_bind (ajj ?_));simp only[uq,if_false];refine wpAny_pure ?_;simp only[uq,if_false];refine wpAny_bind (aji.here ?_);simp only[if_true];refine wpAny_pure ?_
 first
 |rw[if_pos (show(Value.none==Value.none)=true from rfl)]
 |(show wpAny _ _ (if(Value.none==Value.none)=true then _ else _) _ _ _;rw[if_pos (show(Value.none==Value.none)=true from rfl)])
 |simp only[beq_self_eq_true,if_true]
 first
 |refine wpAny_bind (wpAny_pure (wpAny_bind (wpAny_setField ha hd s3 (wpAny_bind (wpAny_setField PF w9 s4 ?_)))))
 |refine wpAny_bind (wpAny_pure (wpAny_bind (wpAny_bind (wpAny_setField ha hd s3 (wpAny_bind (wpAny_setField PF w9 s4 ?_))))))
 |refine wpAny_bind (wpAny_bind (wpAny_pure (wpAny_bind (wpAny_setField ha hd s3 (wpAny_setField PF w9 s4 ?_)))))
 first
 |exact rest
 |(dsimp only;exact rest)
 |(refine wpAny_pure ?_;exact rest)
 |(simp only[bind_pure_comp] ;exact rest)
end
inductive oY (pn:List (Addr×Obj)):Value->Prop
 |nil:oY pn .none
 |cons {b:Addr} {o:Obj} {vs:Array Value} {c:Value} (h:(b,o)∈pn) (hd:o.data=.fields vs) (hc:vs[2]?=some c) (r:oY pn c):oY pn (.ref b)
theorem oY.mono{l nO:List (Addr×Obj)}{v:Value}(c:oY l v)(k:∀p∈l,p∈nO):oY nO v:=by
 induction c with
 |nil=>exact .nil
 |cons h hd hc r ih=>exact .cons (k _ h) hd hc ih
theorem ajn{B:Heap}{H:Hp}{v:Value}(c:Chain B H v):∃l:List (Addr×Obj),oY l v/\∀p∈l,B.get? p.1=some p.2/\H p.1=none/\∃vs,p.2.data=.fields vs:=by
 induction c with
 |nil=>exact⟨[],.nil,by simp⟩
 | @cons b o vs c h n hd hc r ih =>
  obtain⟨l,h1,h2⟩:=ih;refine⟨(b,o)::l,.cons (by simp) hd hc (h1.mono λp hp=>by simp[hp]),λp hp=>?_⟩;grind
def D'(X:Cx):Prop:=∃a:Addr,X.A.handled=some (.ref a)/\oY X.pn (.ref a)
section
variable{X:Cx}{pins:List (Addr×Obj)}{σ:L2.St}{H:Hp}{s:Shared}
theorem ajo(I:Inv X pins σ H s){p:Addr×Obj}(hp:p∈X.pn++pins):p.1∉frs X.stack:=λhm=>by
 obtain⟨_,_,h1,h2,_⟩:=I.pin p hp;rcases fQ.mp (I.stkSub _ hm)with z|z
 .exact h1 z
 .exact h2 z
theorem oY.ajp{x:Addr}{v:Value}(c:oY X.pn v)(I:Inv X pins σ H s)(hx:s.heap.get? x=none):nW s.heap x v:=by
 induction c with
 |nil=>exact .nil
 |cons h hd hc r ih =>
  have P:=(I.pin _ (nj _ h)).1;exact .cons (λe=>by grind) P hd hc ih
theorem oY.chain{v:Value}(c:oY X.pn v)(I:Inv X pins σ H s):Chain (PySem.W.hideAll s.heap (frs X.stack)) H v:=by
 induction c with
 |nil=>exact .nil
 |cons h hd hc r ih =>
  have P:=I.pin _ (nj _ h);exact .cons (PySem.W.hideAll_get _ P.1 (ajo I (nj _ h))) P.2.1 hd hc ih
end
theorem ajq{X:Cx}{W:WX}{e:Expr}{t:L2.St->Hp->XK->Prop}{j:Nat}{oL pos:Pos}(hc:D' X)(tk:Takes X W)(he:L2H.PMk5 X e t) :
  PS X (.Raise (some e) (some (.Constant .none j oL)) pos) (λ_ σ H=>t σ H λcls d H'=>W cls d σ H'):=by
 refine⟨λpins s σ H D I h=>?_⟩;obtain⟨x1,hh,Yx⟩:=hc;show wpAny _ _ (do standAt pos;raiseStmt X.env (some (do let v <-eval e X.env;standAt pos;pure v)) (some (do let v <-eval (.Constant .none j oL) X.env;standAt pos;pure v))) _ _ _;refine wpAny_bind (wpAny_standAt (aje (x1:=x1) (λs2 Q2 b3=>wpAny_bind (Constant_none (wpAny_bind (wpAny_standAt (wpAny_pure b3))))) (wpAny_bind (wpAny_mono (he pins s σ H _ I h) (λu s1 aR=>wpAny_bind (wpAny_standAt (wpAny_pure ?_))) λ_ _ x=>x))));obtain⟨⟨a,dI,vs,dP,H',cls,d,rfl,J,k,d5,ha,hz,hd,h1,na,os,jc,r,q⟩,cZ⟩:=aR;have hi:4<vs.size:=cZ a dI vs rfl ha hd;have vh:∀b u,dP.heap.get? b=some u->(HotX.noneFrom s1.heap a).get? b=some u:=λb u z=>by
  have PH:a≠b:=λy=>by
   grind
  rw[HotX.noneFrom_other PH];exact k b u z
 obtain⟨r1,_⟩:=r (model X.prog X.w) s1.heap (J.kIn.keeps k);obtain⟨_,r2⟩:=r (model X.prog X.w) (HotX.noneFrom s1.heap a) (J.kIn.keeps vh);have ajr:=Yx.ajp J d5;have ajs:nW s1.heap a (.ref x1):=ajr.to λb o _ z=>k b o z;obtain⟨Aa,rh⟩:=HotX.noneFrom_at ha hd;have O':(((vs.setIfInBounds 3 Value.none).setIfInBounds 4 (Value.bool true)).setIfInBounds 2 (Value.ref x1))[1]?=some Value.none:=HotX.set_other (by decide) (HotX.set_other (by decide) (HotX.set_other (by decide) h1));have awW:(((vs.setIfInBounds 3 Value.none).setIfInBounds 4 (Value.bool true)).setIfInBounds 2 (Value.ref x1))[2]?=some (Value.ref x1):=by
  rw[Array.getElem?_setIfInBounds_self_of_lt (by grind)]
 have Yy:=Obj.data_mapFields rh (·.setIfInBounds 2 (Value.ref x1));refine⟨a,dI,vs,cls,rfl,ha,hz.1,hd,h1,hi,hh,ajs,r1,r2,tk _ _ (XE.new J (λb u z=>?_) d5 (Heap.get?_update_self _ Aa (Obj.isFreed_of_fields Yy))
  ⟨by rw[Obj.cls_mapFields,Obj.cls_mapFields,Obj.cls_mapFields];exact hz.1,by rw[HandSPX.dict_mapFields,HandSPX.dict_mapFields,HandSPX.dict_mapFields];exact hz.2.1,λws sR=>⟨.ref x1,by grind,Yx.chain J⟩⟩ Yy O' na os jc q)⟩
 have PH:a≠b:=λy=>by
  grind
 show((HotX.noneFrom s1.heap a).update a (Obj.mapFields (·.setIfInBounds 2 (.ref x1)))).get? b=some u;rw[Heap.get?_update_other _ _ PH];grind
end Z
namespace L2
open PySem PySem.Spec PyProof.Rows
def Yz(K:PySem.W.Frag)(cs:List Value)(ts:TS)(nQ:WX)(D:Ends):WX:=λcls d σ H =>
 ∃b,PySem.W.exmAny K cls cs=some b/\(b=true->ts D σ H)/\(b=false->nQ cls d σ H)
section
variable{X:Cx}{pins:List (Addr×Obj)}{σ:St}{H:Hp}{s:Shared}
theorem Inv.ajt(I:Inv X pins σ H s)(a:Addr){l:List (Addr×Obj)}(hl:∀p∈l,s.heap.get? p.1=some p.2/\H p.1=none/\p.1≠X.env.locals/\p.1∉X.fs/\∀v,p.2.data≠.cell v):Inv (L2H.suiteX X a (l++(X.pn++pins))) [] σ H s :=
 L2H.suiteX_of (show Inv (X.suite a (l++(X.pn++pins))) [] σ H s from⟨I.ok.suite _ _,I.os,I.bare,I.base,I.loc,I.cell,I.free,I.freeC,λp hp=>by
  have H4:p∈l++(X.pn++pins):=by rw[rY]at hp;exact hp
  rcases nh.mp H4 with h|h
  .exact hl p h
  .exact I.pin p h,I.hok,I.len⟩)
theorem Ea{a:Addr}{l H5:List (Addr×Obj)}(I:Inv (L2H.suiteX X a (l++(X.pn++pins))) H5 σ H s)(ok:X.Ok):Inv X pins σ H s:=by
 have J:Inv (X.suite a (l++(X.pn++pins))) H5 σ H s:=I.wish λ_ _=>False;exact⟨ok,J.os,J.bare,J.base,J.loc,J.cell,J.free,J.freeC,λp hp=>J.pin p (nj _ (KS _ hp)),J.hok,J.len⟩
end
section
variable{X:Cx}{cs:List Value}{body suite:List Stmt}{nR:Stmt}{test:Expr}{pos pos':Pos}{tb:WX->TS}{ts:TS}{nQ:WX}
theorem aju(hs:X.stack=X.env::X.outer)(hf:X.env.frame=some X.env.locals)(hc:De X test cs)(PL:∀hd:Option Value,PassesOwnAt (model X.prog X.w) (X.A.mark hd) X.A X.env X.xe)(tk:Z.Takes X nQ)
  (hb:∀(W:WX) (pn:List (Addr×Obj)) (xe:Value->Shared->Prop),Z.Takes (X.tr pn xe) W->PassesOwn (model X.prog X.w) X.A X.env xe->PSs (X.tr pn xe) body (tb W))
  (w7:∀(a:Addr) (pn:List (Addr×Obj)),Z.Takes (L2H.suiteX X a pn) nQ->Z.D' (L2H.suiteX X a pn)->PSs (L2H.suiteX X a pn) (nR::suite) ts) :
  PS X (.Try body [.ExceptHandler (some test) none (nR::suite) pos'] [] [] pos) (λD σ H=>tb (Yz X.K cs ts nQ D) D σ H):=by
 refine⟨λpins s σ H D I h=>?_⟩;have ok:=I.ok;have gU:X.A.frames=some (X.env::X.outer):=by rw[ok.frames,hs]
 refine wpAny_Try_except ?_;refine wpAny_mono ((hb (Yz X.K cs ts nQ D) (X.pn++pins) (λe s₁=>wpAny (model X.prog X.w) X.A (noteFrame e X.env) (λ_ s₂=>wpAny (model X.prog X.w) X.A (setFlight e none) (λ_ Oi =>
  wpAny (model X.prog X.w) X.A (handleBy e X.env [.ExceptHandler (some test) none (nR::suite) pos']) (SP X pins D) X.xe Oi) X.xe s₂) X.xe s₁) (λu s' xx=>?_) PassesOwn.looking).run [] s σ H D (I.toTry _) h) (λf s1 f9=>?_) (λe s1 he=>he)
 ·
  obtain⟨a,B,dP,agz,bA,H',cls,d,rfl,hP,nb,up,sr,na,os,jc,b,kv,Oj,lX⟩:=xx;have J:Inv X pins bA H' dP:=hP.ofTry ok;have Ol:Sky B (X.env::X.outer) a (Z.gT B H' cls d) X.env.locals s'.heap:=by rw[<-hs];exact sr
  show wpAny (model X.prog X.w) X.A (noteFrame (.ref a) X.env) _ _ _;refine L2N.Sky.land Z.gT.steady gU hf Ol λaH uX w8=>?_;have Om:Inv X pins bA H' { s' with heap:=aH }:=J.landed nb uX.1 (up.trans w8) os jc;obtain⟨agA,agB,H6,Oo,w9⟩:=uX.there;have a4:Inv (X.suite a (X.pn++pins)) [] bA H' { s' with heap:=aH }:=Om.Oa a;refine wpAny_handleBy_cons (codeAny_handlers_test ?_) (by intro q;cases q);have LT:PySem.W.Looks (model X.prog X.w) aH (typeOf (.ref a)) cls:=λA Q E s k q=>wpAny_typeOf_ref (k _ _ H6) (by rw[Oo.1];exact q);refine hc a (X.pn++pins) bA H' { s' with heap:=aH } cls b _ _ a4 kv LT λc oT Oq Ot ji LM=>?_;have w_:=Xb ji uX;have Dg:aH.UpToSlots oT.heap:=λb o e _=>⟨o.slots,ji b o e⟩
  have Dh:oT.os=dP.os:=Oq.trans os;have Di:AllBare oT.gens:=by rw[Ot];exact jc
  refine LM.here ?_;cases b with
  |true =>
   refine codeAny_handlers_suite ?_;refine HandSPX.lands_againZ w_ λbT uY w'=>?_;have Ov:Inv X pins bA H' { oT with heap:=bT }:=J.landed nb uY.1 (((up.trans w8).trans Dg).trans w') Dh Di;obtain⟨H8,Xc,Xd,Ou,rh⟩:=uY.there;have nofr:∀{b:Addr} {o:Obj} {vs:Array Value},bT.get? b=some o->o.data=.fields vs->b∉frs (X.env::X.outer):=λ{b o vs} e dd hm=>by
    obtain⟨_,e6,cN,GU⟩:=uY.2.2.1.mem hm;grind
   have awX:∀{b:Addr} {o:Obj} {vs:Array Value},bT.get? b=some o->o.data=.fields vs->b≠X.env.locals/\b∉X.fs:=λ{b o vs} e dd=>by
    have H7:=nofr e dd;refine⟨λz=>H7 (A9.mpr ⟨X.env,ow,by rw[hf,z]⟩),λhm=>?_⟩;obtain⟨e2,he,q⟩:=A9.mp hm;exact H7 (A9.mpr ⟨e2,iH _ he,q⟩)
   have awY:∀{o:Obj} {vs:Array Value},o.data=.fields vs->∀v,o.data≠.cell v:=λ{o vs} e v z=>by grind
   obtain⟨lD,Ii,ajv⟩:=Ou.2.2 Xc rh;obtain⟨l,ik,sH⟩:=Z.ajn ajv;have ajw:∀p∈(a,H8)::l,({ oT with heap:=bT }:Shared).heap.get? p.1=some p.2/\H' p.1=none/\p.1≠X.env.locals/\p.1∉X.fs/\∀v,p.2.data≠.cell v:=λp hp=>by
    rcases fQ.mp hp with rfl|hp
    .grind
    .obtain⟨bN,b3,vs,e1⟩:=sH p hp
     have w2:bT.get? p.1=some p.2:=uY.1 _ _ bN;grind
   have bR:=Ov.ajt a ajw;have rk:Z.D' (L2H.suiteX X a (((a,H8)::l)++(X.pn++pins))):=⟨a,rfl,.cons (nj _ ow) rh Ii (ik.mono λp hp=>nj _ (iH _ hp))⟩
   have ajx:Z.Takes (L2H.suiteX X a (((a,H8)::l)++(X.pn++pins))) nQ:=λu2 s2 x2=>by
    obtain⟨a2,Vt,ajy,awZ,kQ,aD,ajz,zb,e2,I2,ajA,ajB,ajC,ajD,os2,ajE,cm⟩:=x2;exact tk u2 s2 ⟨a2,Vt,ajy,pins,kQ,aD,ajz,zb,e2,Ea I2 ok,ajA,ajB,ajC,ajD,os2,ajE,cm⟩
   refine wpAny_mono ((w7 a _ ajx rk).run [] _ _ H' _ bR (Oj rfl)) (λf lY f9=>?_) (λxk lY z=>PL (some (.ref a)) xk lY z);cases f with
   |next =>
    obtain⟨p9,hI,dB,lZ⟩:=f9;exact⟨_,_,Ea dB ok,lZ⟩
   |brk =>
    obtain⟨p9,hI,dB,lZ⟩:=f9;exact⟨_,_,Ea dB ok,lZ⟩
   |cont =>
    obtain⟨p9,hI,dB,lZ⟩:=f9;exact⟨_,_,Ea dB ok,lZ⟩
   |ret u =>
    obtain⟨v6,p9,hI,dB,Ow,lZ⟩:=f9;exact⟨_,_,_,Ea dB ok,Ow,lZ⟩
  |false =>
   show wpAny _ X.A (handleBy (.ref a) X.env []) _ _ _;refine wpAny_handleBy_nil ?_;obtain⟨dS,cX,agD,dI,vs,T,Og,agE,he,hz,hd,h1,hr⟩:=id w_;unfold PySem.passOn;refine wpAny_bind (wpAny_field he hd h1 ?_);rw[if_neg (show ¬((Value.ref T==Value.none)=true)from by simp)];have fin:wpAny (model X.prog X.w) X.A (setFlight (.ref a) X.env.frame) (λ_ s4=>wpAny (model X.prog X.w) X.A (throw (.ref a):Sem Flow) (SP X pins D) X.xe s4) X.xe oT:=by
    rw[hf];refine HandSPX.setFlight_upZ w_ λbT agF w'=>wpAny_throw (tk _ _ ?_);exact⟨a,B,dP,pins,bA,H',cls,d,rfl,J,nb,((up.trans w8).trans Dg).trans w',.inr (.inr (by grind)),na,Dh,Di,lX rfl⟩
   first
    |exact wpAny_bind (wpAny_pure (wpAny_bind fin))
    |exact wpAny_bind fin
 .cases f with
  |next =>
   obtain⟨bA,H',hP,q⟩:=f9;exact wpAny_execs_nil ⟨bA,H',hP.ofTry ok,q⟩
  |brk =>
   obtain⟨bA,H',hP,q⟩:=f9;exact⟨bA,H',hP.ofTry ok,q⟩
  |cont =>
   obtain⟨bA,H',hP,q⟩:=f9;exact⟨bA,H',hP.ofTry ok,q⟩
  |ret u =>
   obtain⟨v,bA,H',hP,r,q⟩:=f9;exact⟨v,bA,H',hP.ofTry ok,r,q⟩
end
end L2
namespace Z
open PySem PySem.Spec L2 PyProof.Rows
def Ab(tab:List (Str×Bool))(fb fs:SX):SX:=λsl S=>match fb sl S with
 | .ex (.ins c ns ds) a' S1=>(match tab.lookup c with
  |some true=>fs a' S1
  |some false=>.ex (.ins c ns ds) a' S1
  |none=>.bad)
 |o=>o
theorem ajF{X:Cx}{W:WX}{cs:List Value}{tab:List (Str×Bool)}{body suite:List Stmt}{nR:Stmt}{test:Expr}{pos pos':Pos}{fb fs:SX}(hs:X.stack=X.env::X.outer)(hf:X.env.frame=some X.env.locals)(hc:De X test cs)(PL:∀hd:Option Value,PassesOwnAt (model X.prog X.w) (X.A.mark hd) X.A X.env X.xe)(tk:Takes X W)(ht:Dm X cs tab)
  (hb:∀(l':WX) (pn:List (Addr×Obj)) (xe:Value->Shared->Prop),Takes (X.tr pn xe) l'->gm (X.tr pn xe) l' body fb)
  (w7:∀(a:Addr) (pn:List (Addr×Obj)),Takes (L2H.suiteX X a pn) W->D' (L2H.suiteX X a pn)->gm (L2H.suiteX X a pn) W (nR::suite) fs) :
  ES X W (.Try body [.ExceptHandler (some test) none (nR::suite) pos'] [] [] pos) (Ab tab fb fs):=by
 refine PS.imp (aju (tb:=λl'=>wg X.K X.mg l' fb) (ts:=wg X.K X.mg W fs) hs hf hc PL tk (λl' pn xe gZ _=>hb l' pn xe gZ) w7) λD σ H ⟨ρ,S,sl,w,rs,p⟩=>?_;refine⟨ρ,S,sl,w,rs,?_⟩;unfold Ab at p;cases o:fb sl S with
 |nx a' S1=>rw[o]at p;exact p
 |bk a' S1=>rw[o]at p;exact p
 |ct a' S1=>rw[o]at p;exact p
 |rt d S1=>rw[o]at p;exact p
 |bad=>rw[o]at p;exact p.elim
 |ex e a' S1 =>
  rw[o]at p;intro C dd iO aA H1 x1 aF lQ r1;obtain⟨c,ns,ds,kj,hD,u0,rfl,hm,rfl,rfl,nd,hd,hn,cu⟩:=r1;dsimp only at p;cases q:tab.lookup c with
  |none=>rw[q]at p;exact p.elim
  |some b =>
   refine⟨b,ht c b q kj hm,λOz=>?_,λOA=>?_⟩
   .subst Oz
    rw[q]at p;exact⟨aA,S1,a',aF,lQ,bV.from x1 p⟩
   .subst OA
    rw[q]at p;exact p _ _ iO aA H1 x1 aF lQ ⟨c,ns,ds,kj,hD,u0,rfl,hm,rfl,rfl,nd,hd,hn,cu⟩
section
variable{X:Cx}{W:WX}{k:Nat}{C:Addr}{x tag:Str}{b5:List Str}{p pos:Pos}{e:Expr}{es:List Expr}{fa:du}{pins:List (Addr×Obj)}{σ:L2.St}{H:Hp}{s:Shared}
theorem ajG{c:Str}{us:List Value}{vs:List V}{Q:Value->Shared->Prop}(M:k2 X.prog X.w X.K X.mg X.base c C k tag b5)(hr:L2H.RoomH (k+1) X.A)(I:Inv X pins σ H s)(r:Vals vs us)(hl:vs.length=b5.length)(hz:b5.length<=100)
  (h:∀a d h' gZ t' m,(∀b o,s.heap.get? b=some o->h'.get? b=some o)->s.heap.objs.size<=a->s.heap.objs.size<=d->a≠d->h'.get? a=some (ZX.exd C t' (some d))->h'.Ns1 d m->(∀g,RelO ((kx tag b5 vs).lookup g) (m g))->Q (.ref a) { s with heap:=h',toks:=gZ }) :
  wpAny (model X.prog X.w) X.A (call (.ref C) us) Q X.xe s:=by
 obtain⟨B,newId,N6,hN,C7,FB,q,N7,N8,F⟩:=M.ex I.ok.mod;obtain⟨nm,WQ,hO,bs,bm,WR,sn,sub,ab,col,dd,pJ,dS,cX,ji,HV,gW,d9⟩:=PySem.W.excInit_of I.kIn q;obtain⟨hp,g,C9,tk,os⟩:=s;have C_:us.length=b5.length:=by rw[<-r.length];exact hl
 have kk:∀b o,hp.get? b=some o->((hp.push (PySem.W.kdv_tup us)).push (PySem.HandSPX.excO C hp.objs.size)).get? b=some o:=λb o e=>Heap.get?_push_of_some _ (Heap.get?_push_of_some _ e);have jh:((hp.push (PySem.W.kdv_tup us)).push (PySem.HandSPX.excO C hp.objs.size)).get? (hp.objs.size+1)=some (PySem.HandSPX.excO C hp.objs.size):=by heap_get
 have eR:hp.objs.size+1+1=((hp.push (PySem.W.kdv_tup us)).push (PySem.HandSPX.excO C hp.objs.size)).objs.size:=by rw[Heap.size_push,Heap.size_push]
 have N9:X.base.get? (hp.objs.size+1)=none:=by
  cases e:X.base.get? (hp.objs.size+1)with
  |none=>rfl
  |some o=>exact absurd (Heap.lt_size (I.bk _ _ e)) (Nat.not_lt.mpr (Nat.le_succ _))
 have dep:=(L2H.RoomH.make hr C us []).dp;refine wpAny_call (PySem.HandSPX.call_own FB d9 gW (PySem.W.looks_findIn I.kIn N7) (λself=>PySem.W.bind_fn I.kIn self N8) (by rw[C_,sizeLine_eq];omega) ?_);refine F _ _ (hp.objs.size+1) hp.objs.size us vs _ _ (by omega) (λb o e=>kk b o (I.bk b o e)) N9 jh r (if_pos hl) λh' gZ t' bM m rg C4 hx hn rel=>?_;refine⟨rfl,?_⟩;have N_:∀b o,hp.get? b=some o->h'.get? b=some o:=λb o e=>rg b o (h_ (qE (Heap.lt_size e) (uk _))) (kk b o e);grind
theorem ajH{c:Str}{us:List Value}{vs:List V}{Q:XK}(M:k2 X.prog X.w X.K X.mg X.base c C k tag b5)(hr:L2H.RoomH (k+1) X.A)(I:Inv X pins σ H s)(r:Vals vs us)(hl:vs.length=b5.length)(hz:b5.length<=100)
  (h:∀d,H d=none->Q (.ref C) (some d) (upd H d (.xd (kx tag b5 vs)))) :
  wpAny (model X.prog X.w) X.A (call (.ref C) us) (λu s'=>L2N.MkP X pins σ Q u s'/\L2H.Six u s') X.xe s:=by
 refine ajG M hr I r hl hz λa d h' gZ t' m N_ ha hd ne hx hn rel=>?_;have C':H a=none:=I.hok.fresh ha;have zG:H d=none:=I.hok.fresh hd;obtain⟨G,g1,g2⟩:=restrict h' λb=>decide (b≠a);have Dc:∀b,b≠a->G.get? b=h'.get? b:=λb hb=>g1 b (decide_eq_true hb);have ge:G.get? a=none:=g2 a (by simp);have N':∀b o,s.heap.get? b=some o->G.get? b=some o:=λb o e=>by rw[Dc b (h_ (mA (Heap.lt_size e) ha))];grind
 have cP:∀b o,G.get? b=some o->h'.get? b=some o:=λb o e=>by
  grind
 have J:Inv X pins σ (upd H d (.xd (kx tag b5 vs))) { s with heap:=G,toks:=gZ }:=I.laid (t':=gZ) N' hd ⟨m,hn.at λo y=>(Dc d (g8 ne)).trans y,rel⟩;refine⟨⟨a,_,_,{ s with heap:=G,toks:=gZ },_,.ref C,some d,rfl,J,cP,ge,hx,⟨rfl,rfl,λvs e=>by cases e;rfl⟩,rfl,rfl,by rw[upd_ne ne];exact C',rfl,J.bare,raises_own M.exC M.tyC,h d zG⟩,λjE dI ws ea hg qW=>?_⟩;cases ea;have hg:h'.get? a=some dI:=hg;rw[hx]at hg;cases hg;cases qW;simp
theorem ajI(tk:Takes X W)(rk:D' X)(M:k2 X.prog X.w X.K X.mg X.base x C k tag b5)(hr:L2H.RoomH (k+1) X.A)(hz:b5.length<=100)(ha:gQ X W (e::es) fa){pr oL:Pos}{j:Nat}(hg:Gl X x:=by rfl)
  (gR:(x==("__debug__":Str))=false:=by decide) (he:starEach (e::es) X.env=(false,eval e X.env)::starEach es X.env:=by rfl) (fK:(backTo pos (starEach es X.env)).any (·.1)=false:=by rfl) :
  ES X W (.Raise (some (.Call (.Name x p) (e::es) [] pos)) (some (.Constant .none j oL)) pr) (eL (ak (eo x tag b5) fa)):=by
 refine PS.imp (ajq rk tk (t:=λσ H Q=>wd X.K X.mg W fa σ H λvs H1=>vs.length=b5.length/\∀d,H1 d=none->Q (.ref C) (some d) (upd H1 d (.xd (kx tag b5 vs)))) ?_) λeE σ H ⟨ρ,S,sl,w,rs,p⟩=>?_
 .intro pins s σ H Q I h
  refine wpAny_Call_Name_kw (ld_glob I hg M.hm ?_ gR);refine qD (h₀:=X.base) I.ok.mod.kin M.keep (thn (ha.run pos pins s σ H _ I h) λus s1 ⟨vs,H1,I1,r,hl,q⟩=>⟨I1.kIn,?_⟩) he fK;exact ajH M hr I1 r hl hz q
 .refine⟨ρ,S,sl,w,rs,?_⟩
  unfold eL ak at p;cases o:fa sl S with
  |ok ds S1 =>
   intro vs aA H1 x1 aF r1;have p:bV X.K X.mg W ρ H eE (match eo x tag b5 ds S1 with|.ok (.exc c ns ds) ao=>.ex (.ins c ns ds) sl ao|.ok _ _=>.bad|.ex e ao=>.ex e sl ao|.bad=>.bad):=by
    rw[o]at p;exact p
   unfold eo at p;by_cases hl:ds.length=b5.length
   .rw[if_pos hl]at p
    exact⟨by rw[<-r1.len];exact hl,λd hd=>W_ M.hm aF (rs.ext x1) r1 hl hd (bV.from x1 p)⟩
   .rw[if_neg hl]at p
    exact p.elim
  |ex e S1 =>
   have p:bV X.K X.mg W ρ H eE (.ex e sl S1):=by rw[o]at p;exact p
   exact λC dd aA H1 x1 aF r1=>p C dd σ aA H1 x1 aF (rs.ext x1) r1
  |bad=>rw[o]at p;exact p.elim
end
def Eb(cn N:List Str)(aU:List (Str×Addr))(fe:aM):aM:=λsl S=>(fe sl S).bind λd S1=>match conv cn N aU sl d with
 |some d'=>.ok d' S1
 |none=>.bad
def Ec(N:Nat)(fe:aM):aB:=λds S=>fin S (fe (ds.map some++List.replicate (N - ds.length) none) S)
section
variable{X:Cx}{pins:List (Addr×Obj)}{σ:L2.St}{H:Hp}{s:Shared}
theorem YB(I:Inv X pins σ H s)(xh:∀x,X.fn x=true):∀(cn:List Str),(∀n∈cn,X.env.kindOf n=some .cell)->∃cs:Cs,iz cs (frs X.stack) H s.heap/\(∀b o,cs.lookup b=some o->X.s_0.heap.objs.size<=b)/\∀n∈cn,∃c o,X.env.cells.lookup n=some c/\cs.lookup c=some o
 |[],_=>⟨([]:Cs),⟨(λc o h=>by simp at h),(λc o h=>by simp at h),(λc o h=>by simp at h)⟩,(λc o h=>by simp at h),(λn h=>by simp at h)⟩
 |n::cn,hk=>by
  obtain⟨cs,h1,h2,aH⟩:=YB I xh cn λm hm=>hk m (iH _ hm);obtain⟨c,hc⟩:=I.ok.has n (.inl (hk n (ow ..)));obtain⟨v,o,aY,hd⟩:=I.cell n c hc;have Ib:=I.ok.cab n c (xh n) hc;have OD:=I.cne n c hc;have Df:c∉frs X.stack:=λhm=>by
   rcases fQ.mp (I.stkSub c hm)with e|e
   .exact OD e
   .obtain⟨_,e6,mS,_⟩:=I.ok.funs.mem e
    exact absurd (mA (Heap.lt_size mS) Ib) (ni _)
  have cons:∀{b:Addr} {u:Obj},((c,o)::cs).lookup b=some u->(b=c/\u=o)\/cs.lookup b=some u:=λ{b u} h=>by
   grind
  refine⟨(c,o)::cs,⟨λb u h=>?_,λb u h=>?_,λb u h=>?_⟩,λb u h=>?_,λm hm=>?_⟩
  .rcases cons h with⟨rfl,rfl⟩|h
   .exact aY
   .exact h1.get b u h
  .rcases cons h with⟨rfl,rfl⟩|h
   .exact I.freeC n _ hc
   .exact h1.non b u h
  .rcases cons h with⟨rfl,rfl⟩|h
   .exact Df
   .exact h1.nofs b u h
  .grind
  grind
end
section
variable{P:Program}{w:World}{K:PySem.W.Frag}{mg:Str->Option Value}{base:Heap}
theorem ajJ{x qual:Str}{params:Arguments}{scope:Scope}{f:Addr}{fd:FuncData}{N ps cn:List Str}{k:Nat}{e:Expr}{pos:Pos}{stb:List Stmt}{fe:List (Str×Addr)->aM}(F:FunD K x qual params stb scope [] [] f fd)(Sc:FnScope N ps scope)(eG:stb=[.Return (some e) pos])(Ox:Binds K fd ps [])
  (hk:∀n∈cn,scope.names.lookup n=some .cell)
  (hb:∀(A:Around) (outer:List Env) (s:Shared) (H:Hp) (E:XK),L2H.RoomH k (A.deeper (envOfC qual scope s.heap.objs.size f fd.code)) ->
   Z.E (Dj (Z.CX P w) P w K mg base N qual scope f fd.code A outer s H E) (λc d _ H'=>E c d H') e (fe (cellsFrom (s.heap.objs.size+1) scope.names []))) :
  aZ P w K mg base (k+1) f (bZ ps.length (vd λaU=>Ec N.length (Eb cn N aU (fe aU)))):=by
 subst eG;obtain⟨cL,od,cG,kV,doc,pm,an,c7,ct,hX,rfl,lk,g9,_,_⟩:=F.ex;intro A outer s H us vs Q E hr bB r ⟨ρ,S,ds,dQ,cu,p⟩;have hr:=L2H.roomH_of hr;unfold bZ at p;split at p
 .rename_i p8
  have hl:vs.length=ps.length:=by rw[<-cu.len];exact p8
  have C_:us.length=ps.length:=by rw[<-r.length];exact hl
  have KX:K.In s.heap:=bB.mod.kin.keeps λb o e=>(bB.bs b o e).1;have lim:s.heap.NoLimit:=bB.mod.nolimit.keeps λb o e=>(bB.bs b o e).1;have p_:=Ox s us KX (by grind);rw[rY]at p_;have Dk:∀y∈ps.zip us,scope.names.lookup y.1=some .local\/(scope.names.lookup y.1=some .cell/\((cellsFrom (s.heap.objs.size+1) scope.names []).lookup y.1).isSome=true):=fun⟨n,v⟩ bD=>by
   rcases Sc.par n (uo bD).1 with q|q
   .exact .inl q
   .exact .inr ⟨q,KO _ _ _ (.inl q)⟩
  refine codeAny_call_function hr.depth (KX _ _ lk) rfl Sc.co Sc.gen rfl (KP KX g9) (p_ _ _ _ _ ?_);refine wpAny_newFunctionEnv_cells Sc.kind Dk λenv he s1 x=>?_;subst he;refine⟨lim.keeps x.toInCall.keep,codeAny_func ?_⟩;have I:=Xf (CX:=Z.CX P w) (E:=E) (cd:=c7) (f:=f) (qual:=qual) Sc bB hl r x;have p2:aV K mg E ρ H Q (Ec N.length (Eb cn N (cellsFrom (s.heap.objs.size+1) scope.names []) (fe (cellsFrom (s.heap.objs.size+1) scope.names []))) ds S):=by
   unfold vd at p;split at p
   .grind
   .exact p.elim
  have cq:aV K mg E ρ H Q ((fe (cellsFrom (s.heap.objs.size+1) scope.names []) (ds.map some++List.replicate (N.length - ds.length) none) S).bind λd S1=>match conv cn N (cellsFrom (s.heap.objs.size+1) scope.names []) (ds.map some++List.replicate (N.length - ds.length) none) d with
   |some d'=>.ok d' S1
   |none=>.bad):=yU dQ p2
  refine wpAny_execs_cons (wpAny_Return_some (thn ((hb A outer s H E (hr.deeper _)).run [] s1 (L2.start N vs) H _ I ⟨ρ,S,_,dQ,yV cu,aV.fJ cq⟩) λu s' ⟨v,H1,J,aW,aA,S1,d,x1,aF,r1,_,d3⟩=>?_));show CE outer P w H s Q u s';obtain⟨cs,c,xj,k3⟩:=YB J (λ_=>rfl) cn λn hn=>hk n hn;cases eJ:conv cn N (cellsFrom (s.heap.objs.size+1) scope.names []) (ds.map some++List.replicate (N.length - ds.length) none) d with
  |none=>rw[eJ]at d3;exact d3.elim
  |some d' =>
   rw[eJ]at d3;have bY:=Xp J aF ((yV (N:=N) cu).ext x1) c (λn hn=>hk n hn) k3 d d' v eJ r1;have yS:∀b o,s.heap.get? b=some o->cs.lookup b=none:=λb o e=>by
    cases y:cs.lookup b with
    |none=>rfl
    |some cL=>exact absurd (Heap.lt_size e) (Nat.not_lt.mpr (xj b cL y))
   have un:Un (frs outer) [] H (eU cs H1) s.heap s'.heap:=⟨J.base.keep,J.base.slot,λb o e n hx=>by rw[eV (yS b o e)];exact J.base.free b o e n hx,J.base.there,
    λb xs e=>by rw[eV (c.out (J.base.tups b xs e))];exact J.base.tups b xs e,λb o u e=>by rw[eV (c.out (J.base.frzs b o u e))];exact J.base.frzs b o u e,
    λb bw e=>by
     obtain⟨more,h⟩:=J.base.tbls b bw e;exact⟨more,by rw[eV (c.out h)];exact h⟩⟩
   exact⟨v,eU cs H1,J.os,J.bare,un,Ia c J.hok,aW,d3 v aA (eU cs H1) (iY c) (OB c aF) bY⟩
 .exact p.elim
end
theorem ajK{cn N:List Str}{aU:List (Str×Addr)}{ti:Nat}{P:Addr}{T:dj}{ds caps:List D}{S:Store}(bO:S[ti]?=some (.tab P T.qual))(h1:T.names.Nodup)(h2:∀n∈T.names,n∈cn/\T.scope.names.lookup n=some .free)(aH:zH N (ds.map some++List.replicate (N.length - ds.length) none) T.names=some caps)(aR:bH S.length caps=true) :
  Ec N.length (Eb cn N aU (iA ti P aU T)) ds S=.ok (.dN T caps) S:=by
 unfold Ec Eb;have e:iA ti P aU T (ds.map some++List.replicate (N.length - ds.length) none) S=.ok (.lam T (cloFrom aU T.scope.names [])) S:=by
  unfold iA;rw[bO];simp
 rw[e];show fin S (match conv cn N aU _ (.lam T (cloFrom aU T.scope.names []))with
  |some d'=>.ok d' S
  |none=>.bad)=_
 rw[zW h1 h2 aH];refine bp ?_;rw[Hz,aS];exact cx (by rw[bf];exact aR) ⟨rfl,rfl⟩
def xC:aB:=λds S=>match ds with
 |[.str a]=>(match PySem.intText? a with
  |some n=>if a.length<=640 then .ok (.int n) S else .bad
  |none=>.bad)
 |_=>.bad
theorem ajL{X:Cx}:iL X (.type "int") xC:=by
 refine⟨_,call_int_str,λWp ρ H S ds xs Q w r p=>?_⟩;unfold xC at p;split at p
 .rename_i a
  obtain⟨v,e,h1⟩:=lK r;rw[fM h1]at e;split at p
  .rename_i n en
   split at p
   .rename_i hl
    exact⟨a,n,e,en,hl,cA p w ie⟩
   .exact p.elim
  .exact p.elim
 .exact p.elim
def nX:aB:=pG j2 xC
theorem PN{X:Cx}:iL X (.type "int") nX:=sE.or ajL
def jj(l:List Nat):Nat:=l.foldl (λa c=>a * 10+(c - 48)) 0
section
variable{S:Store}{l:List Nat}
theorem PR(h:∀c∈l,48<=c/\c<=57)(d5:l≠[])(hl:l.length<=640):nX [.str (aj l)] S=.ok (.int (jj l)) S:=by
 have e:PySem.intText? (aj l)=some ((jj l:Nat):Int):=PySem.intText_digits (x:=aj l) (λc hc=>h c (by omega)) (by omega) (by rw[mP];omega);have:xC [.str (aj l)] S=.ok (.int (jj l)) S:=by
  unfold xC;simp only[e,mP];rw[if_pos hl]
 unfold nX pG;rw[this];rfl
theorem ajM(h:∀c∈l,48<=c/\c<=57)(d5:l≠[])(hl:l.length<=600):nX [.str (aj (45::l))] S=.ok (.int (-(jj l:Int))) S:=by
 have e:PySem.intText? (aj (45::l))=some (-((jj l:Nat):Int)):=PySem.intText_neg (x:=aj (45::l)) (cs:=l) (by simp[aj]) (λc hc=>h c hc) d5 (by rw[mP,List.length_cons];omega);have:xC [.str (aj (45::l))] S=.ok (.int (-(jj l:Int))) S:=by
  unfold xC;simp only[e,mP,List.length_cons];rw[if_pos (by omega)]
 unfold nX pG;rw[this];rfl
end
structure II(K:PySem.W.Frag)(C p g:Addr)(m:Str):Prop where
 at_:PySem.W.findCls K (.ref C) (.type "type") m=some (.get (.builtin "staticmethod.__get__") (.ref p) .none (.ref C))
 rc:∃rest,PySem.W.recIn K p "staticmethod"=some (.ref g::rest)
 rd:PySem.W.readsIn K C (.type "type")=true
 ga:PySem.W.specialIn K (.ref C) "__getattribute__"=some (some (.builtin "type.__getattribute__"))
 kp:PySem.W.keepIn K (.ref g)=true
theorem ajN{K:PySem.W.Frag}{C p g:Addr}{m:Str}(h:K7 K C p g m=true):II K C p g m:=by
 unfold K7 at h;rw[Bool.and_eq_true,Bool.and_eq_true,Bool.and_eq_true,Bool.and_eq_true]at h;obtain⟨h1,h2,aH,bT,cZ⟩:=h;refine⟨?_,?_,aH,of_decide_eq_true bT,cZ⟩
 .grind
 grind
section
variable{X:Cx}{W:WX}{k:Nat}{C p g:Addr}{sem:aB}{c m:Str}{p1 apos pos:Pos}{e:Expr}{es:List Expr}{fa:du}{pl:Sem Bool}
theorem ajO{pins:List (Addr×Obj)}{σ:L2.St}{H:Hp}{s:Shared}{A:Around}{E:Value->Shared->Prop}{Q:Value×List Value->Shared->Prop}(I:Inv X pins σ H s)(M:II X.K C p g m)(h:Q (.ref g,[]) { s with toks:=s.toks+1 }) :
  wpAny (model X.prog X.w) A (getMethod (.ref C) m pl) Q E s:=by
 obtain⟨rest,hp⟩:=M.rc;refine PySem.W.method_cls I.kIn M.ga (PySem.W.cls_bind I.kIn M.rd M.at_ ?_);exact wpAny_call (PySem.W.sm_get (s:={ s with toks:=s.toks+1 }) I.kIn hp (PySem.W.handed_on rfl h))
theorem ajP(tk:Takes X W)(F:aZ X.prog X.w X.K X.mg X.base k g sem)(hr:Room k X.A)(hm:X.mg c=some (.ref C))(M:II X.K C p g m)(ha:gQ X W (e::es) fa)(hg:Gl X c:=by rfl)(gR:(c==("__debug__":Str))=false:=by decide)
  (he:starEach (e::es) X.env=(false,eval e X.env)::starEach es X.env:=by rfl) (fK:(backTo pos (starEach es X.env)).any (·.1)=false:=by rfl)
  (ht:eval (.Call (.Attribute (.Name c p1) m apos) (e::es) [] pos) X.env=(do
   let gu <-eval (.Name c p1) X.env
   standAt apos.atName
   let (f,first) <-holding [gu] (getMethod gu m pl)
   callWith pos f first (backTo pos (starEach (e::es) X.env)) (backToKw pos (keywordEach [] X.env))):=by rfl) :
  E X W (.Call (.Attribute (.Name c p1) m apos) (e::es) [] pos) (ak sem fa):=by
 refine⟨λpins s σ H Q I h=>?_⟩;refine KD (pl:=pl) (ld_glob I hg hm ?_ gR) ht;refine ajO I M ?_;have ajQ:=I.tok (s.toks+1);have h':=si (k:=λvs H1=>wU X.K X.mg sem vs H1 Q (WE W σ)) h λρ S H1 ds vs w r p=>⟨ρ,S,ds,w,r,p⟩
 refine qD (h₀:=X.base) (first:=[]) I.ok.mod.kin M.kp (thn (ha.run pos pins _ σ H _ ajQ h') λus s1 ⟨vs,H1,I1,r,q⟩=>⟨I1.kIn,?_⟩) he fK;exact Cz F hr (su tk σ) I1 r q
end
def TV(w:World)(S:Store):D->Option (List D×List D)
 | .er dE ks vs=>open Classical in if dE=w then some (ks,vs)else none
 | .ptr n=>match S[n]? with
  |some (.er dE ks vs)=>open Classical in if dE=w then some (ks,vs)else none
  |_=>none
 |_=>none
open PySem PySem.Spec L2 ZM
section
variable{S:Store}
theorem PU{sl:aT}{f:aM}{k:Nat}(h:f sl S=.ok (.int k) S)(hk:k<2 ^ 60):pP (ae f ah) sl S=.ok (lP 0 k,λ_=>True) S:=by
 have h2:(2:Int) ^ 62=4611686018427387904:=by decide
 have aH:(2:Nat) ^ 60=1152921504606846976:=by decide
 have:=Wm h (by omega) (by omega);grind
end
open PySem PySem.Spec L2 ZM
section
def dv(xs:z_):List D:=xs.map λa=>.int a.2
end
open PySem PySem.Spec L2
mutual
def mY:D->PyData
 | .non=>.none
 | .bl b=>.bool b
 | .int i=>.int i
 | .str s=>.str s
 | .lst xs=>.list (rr xs)
 | .tup xs=>.tuple (rr xs)
 | .b8 xs=>.tuple (rr xs)
 |_=>.none
def rr:List D->List PyData
 |[]=>[]
 |d::ds=>mY d::rr ds
end
mutual
theorem PV:∀(k:Nat) (d:D),plain k d->gX d=some (mY d)/\(mY d).canLay0=true/\(mY d).depth<=k
 |k,.non,_=>⟨rfl,rfl,jW _⟩
 |k,.bl b,_=>⟨rfl,rfl,jW _⟩
 |k,.int i,_=>⟨rfl,rfl,jW _⟩
 |k,.str s,h=>by
  have h:ku s.cps.toList:=by cases k<;>simpa[plain]using h
  refine⟨rfl,?_,jW _⟩;show PyData.strOk s=true;generalize hl:s.cps.toList=l at h;have e:s=aj l:=by rw[<-hl,zl]
  subst e;unfold PyData.strOk;simp;exact h
 |0,.tup xs,h=>by simp[plain]at h
 |0,.b8 xs,h=>by simp[plain]at h
 |0,.lst xs,h=>by simp[plain]at h
 |k+1,.tup xs,h=>by
  rw[plain]at h;obtain⟨h1,h2,aH⟩:=IJ k xs h.1;refine⟨by rw[gX,h1];rfl,?_,?_⟩
  .rw[mY,PyData.canLay0];exact h2
  .rw[mY,PyData.depth];omega
 |k+1,.b8 xs,h=>by
  rw[plain]at h;obtain⟨h1,h2,aH⟩:=IJ k xs h.1;refine⟨by rw[gX,h1];rfl,?_,?_⟩
  .rw[mY,PyData.canLay0];exact h2
  .rw[mY,PyData.depth];omega
 |k+1,.lst xs,h=>by
  rw[plain]at h;obtain⟨h1,h2,aH⟩:=IJ k xs h.1;refine⟨by rw[gX,h1];rfl,?_,?_⟩
  .rw[mY,PyData.canLay0];exact h2
  .rw[mY,PyData.depth];omega
 |k,.ty _,h=>by cases k<;>simp[plain]at h
 |k,.cls _,h=>by cases k<;>simp[plain]at h
 |k,.dct _ _,h=>by cases k<;>simp[plain]at h
 |k,.ins _ _ _,h=>by cases k<;>simp[plain]at h
 |k,.ptr _,h=>by cases k<;>simp[plain]at h
 |k,.ck _,h=>by cases k<;>simp[plain]at h
 |k,.exc _ _ _,h=>by cases k<;>simp[plain]at h
 |k,.lam _ _,h=>by cases k<;>simp[plain]at h
 |k,.dN _ _,h=>by cases k<;>simp[plain]at h
theorem IJ:∀(k:Nat) (ds:List D),jL k ds->jC ds=some (rr ds)/\PyData.canLayAll0 (rr ds)=true/\PyData.depthAll (rr ds)<=k
 |k,[],_=>⟨rfl,rfl,jW _⟩
 |k,d::ds,h=>by
  rw[jL]at h;obtain⟨a1,a2,a3⟩:=PV k d h.1;obtain⟨b1,hH,DA⟩:=IJ k ds h.2;refine⟨by rw[jC,a1,b1,rr],?_,?_⟩
  .rw[rr,PyData.canLayAll0,a2,hH];rfl
  .rw[rr,PyData.depthAll];omega
end
theorem YC{k:Nat}{d:D}(h:plain k d)(hk:k<=60):SeqAt.shaped (mY d)=true:=by
 obtain⟨_,h2,aH⟩:=PV k d h;unfold SeqAt.shaped;grind
theorem YD{k:Nat}{d:D}{S:Store}(h:plain k d):toP S d=some (mY d):=by
 have:=(PV k d h).1;cases d with
 |ptr n=>cases k<;>simp[plain]at h
 |_=>exact this
def eqv(d e:D):Bool:=PyData.eqv (mY d) (mY e)
theorem IK{j k:Nat}{d e:D}{S:Store}{neg:Bool}(h:plain j d)(h2:plain k e)(cK:j<=60)(hk:k<=60):aQ neg d e S=.ok (.bl (if neg=true then !eqv d e else eqv d e)) S:=by
 simp only[aQ,YD h,YD h2];rw[if_pos ⟨YC h cK,YC h2 hk⟩];rfl
mutual
def sm:D->D->Bool
 | .tup xs,.tup ys=>Ac xs ys
 | .tup xs,.b8 ys=>Ac xs ys
 | .b8 xs,.tup ys=>Ac xs ys
 | .b8 xs,.b8 ys=>Ac xs ys
 | .lst xs,.lst ys=>Ac xs ys
 | .non,.non=>true
 | .bl a,.bl b=>decide (a=b)
 | .int a,.int b=>decide (a=b)
 | .str a,.str b=>decide (a=b)
 |_,_=>false
def Ac:List D->List D->Bool
 |[],[]=>true
 |x::xs,y::ys=>sm x y&&Ac xs ys
 |_,_=>false
end
open PySem PySem.Spec L2 ZM
section
variable{n:Nat}
theorem ajR{α:Type}[BEq α][LawfulBEq α](l:List α):(List.range l.length).filterMap (λk=>match l[k]? with|some a=>if a∈l.take k then none else some a|none=>none)=l.eraseDups:=by
 have:∀(m r:List α),l=m++r->(List.range m.length).filterMap (λk=>match l[k]? with|some a=>if a∈l.take k then none else some a|none=>none)=m.eraseDups:=λm=>by
  induction hn:m.length generalizing m with
  |zero=>intro r _;have:m=[]:=List.eq_nil_of_length_eq_zero hn;subst this;simp
  |succ n ih =>
   intro r h;have d5:m≠[]:=λe=>by subst e;simp at hn
   obtain⟨fS,a,rfl⟩:∃fS a,m=fS++[a]:=⟨m.dropLast,m.getLast d5,(List.dropLast_concat_getLast d5).symm⟩
   have lH:fS.length=n:=by simpa using hn
   have ih:=ih fS lH ([a]++r) (by rw[h];simp);rw[List.range_succ,List.filterMap_append,ih,List.eraseDups_append];congr 1;have aw:l[n]?=some a:=by rw[h,<-lH];simp
   have e2:l.take n=fS:=by rw[h,<-lH];simp
   simp only[FV,KQ,aw,e2];by_cases hm:a∈fS
   .rw[if_pos hm]
    simp[List.removeAll,hm]
   .rw[if_neg hm]
    have a6:List.removeAll [a] fS=[a]:=by simp[List.removeAll,hm]
    rw[a6,List.eraseDups_cons];simp
 simpa using this l [] (by simp)
end
section
variable{S:Store}{sl:aT}{G:Store->Prop}{g:d4}{bt:cJ}{fe:aM}{it:gI}{own:List Nat}{xs:List D}
theorem ajS(p:D->Bool)(cS:D->D)(hit:it sl S=.ok (xs,G) S)(hl:xs.length<=1000000)(cP:∀acc,G (S++[.lst acc]))
  (step:∀x∈xs,∀acc,∃a',g x (df sl own) (S++[.lst acc])=.nx a' (S++[.lst acc])/\bt a' (S++[.lst acc])=.ok (p x) (S++[.lst acc])/\(p x=true->fe a' (S++[.lst acc])=.ok (cS x) (S++[.lst acc]))) :
  cw it g bt fe own sl S=.ok (.ptr S.length) (S++[.lst ((xs.filter p).map cS)]):=by
 refine bp (Wl p cS hit hl cP (λx hx acc=>?_) ⟨rfl,rfl⟩);obtain⟨a',aw,e2,a6⟩:=step x hx acc;simp_all
theorem YF{f:aM}{acc:List D}(h:f sl S=.ok (.ptr S.length) (S++[.lst acc]))(aR:bH S.length acc=true):cC f sl S=.ok (.lst acc) S:=by
 refine bp ?_;rw[CN,h,aS];exact HA (fz.refl S) aR (by simp)
theorem ajT(p:D->Bool)(cS:D->D)(hit:it sl S=.ok (xs,G) S)(hl:xs.length<=1000000)(cP:∀acc,G (S++[.lst acc]))
  (step:∀x∈xs,∀acc,∃a',g x (df sl own) (S++[.lst acc])=.nx a' (S++[.lst acc])/\bt a' (S++[.lst acc])=.ok (p x) (S++[.lst acc])/\(p x=true->fe a' (S++[.lst acc])=.ok (cS x) (S++[.lst acc])))
  (aR:∀x∈xs,p x=true->bf S.length (cS x)=true):cC (cw it g bt fe own) sl S=.ok (.lst ((xs.filter p).map cS)) S:=by
 refine YF (ajS p cS hit hl cP step) ?_;rw[lV];grind
end
section
def kB(x y:qh)(ks:List Int):z_:=ks.map λp=>(p,ro x y p)
theorem ajU{x y:qh}{ks:List Int}{p q:Int}:((p,ro x y p)∈kB x y ks)↔p∈ks:=by
 unfold kB;grind
theorem YG{α β:Type}{f g:α->Option β}:∀{l:List α},(∀x∈l,f x=g x)->l.filterMap f=l.filterMap g
 |[],_=>rfl
 |a::l,h=>by
  rw[FV,FV,h a (by simp),YG λx hx=>h x (by simp[hx])]
theorem PY(x y:qh)(ks:List Int):((lP 0 (kB x y ks).length).filter (λd=>match d with|.int k=>decide (((kB x y ks).getD k.toNat (0,0)).2≠0) && !decide ((kB x y ks).getD k.toNat (0,0)∈(kB x y ks).take k.toNat)|_=>false)).map (λd=>match d with|.int k=>Pu ((kB x y ks).getD k.toNat (0,0))|d=>d)
  = ((ks.eraseDups.filter λp=>decide (ro x y p≠0)).map λp=>(p,ro x y p)).map Pu:=by
 have h0:(kB x y ks).length=ks.length:=by simp[kB]
 have h1:∀(k:Nat) (a:Int),ks[k]?=some a->(kB x y ks).getD k (0,0)=(a,ro x y a):=λk a h=>by simp[kB,List.getD,h]
 have h2:∀(k:Nat) (p:Int),((p,ro x y p)∈(kB x y ks).take k)↔p∈ks.take k:=λk p=>by
  have:(kB x y ks).take k=kB x y (ks.take k):=by simp[kB]
  rw[this];exact ajU (q:=0)
 have aH:=ajR ks;rw[<-aH,List.filter_filterMap,List.map_filterMap,List.map_filterMap];unfold lP;rw[h0,List.filter_map,ov,<-List.filterMap_eq_map,<-List.filterMap_eq_filter,List.filterMap_filterMap];refine YG λk hk=>?_;have hk:=List.mem_range.mp hk;obtain⟨a,e⟩:∃a,ks[k]?=some a:=⟨_,pE hk⟩
 have bB:((0:Int)+(k:Int)).toNat=k:=by omega
 have g1:=h1 k a e;have h2:=h2 k a;have PZ:(kB x y ks)[k]?.getD (0,0)=(a,ro x y a):=by rw[<-g1];exact(List.getD_eq_getElem?_getD ..).symm
 simp only[Function.comp,bB,g1,e];by_cases hm:a∈ks.take k
 .have:=h2.mpr hm
  simp[hm,this,Option.guard,PZ]
 .have:¬(a,ro x y a)∈(kB x y ks).take k:=λq=>hm (h2.mp q)
  by_cases hz:ro x y a=0
  .simp[hm,this,hz,Option.guard,Option.filter,PZ]
  .simp[hm,this,hz,Option.guard,Option.filter,PZ]
end
section
theorem YH{α:Type}{f:α->D}{Q:α->Prop}:∀{ys:List D},(∀y∈ys,∃c,y=f c/\Q c)->∃l:List α,ys=l.map f/\∀c∈l,Q c
 |[],_=>⟨[],rfl,by simp⟩
 |y::ys,h=>by
  obtain⟨t,e,ht⟩:=h y (by simp);obtain⟨ts,e2,h2⟩:=YH (ys:=ys) λy bD=>h y (by simp[bD]);exact⟨t::ts,by grind,λt' aw0=>by
   grind⟩
end
theorem ajV:∀(k:Nat) (d:D),plain k d->plain (k+1) d:=λk=>by
 induction k with
 |zero=>intro d h;cases d<;>first|(simp[plain]at h;done)|(simp[plain];done)|(simp[plain]at h ⊢;exact h)
 |succ k ih =>
  have ajW:∀xs,jL k xs->jL (k+1) xs:=λxs h=>s7.mpr λx hx=>ih x (s7.mp h x hx);intro d h;cases d<;>first|(simp[plain]at h;done)|(simp[plain];done)|(rw[plain]at h ⊢;exact⟨ajW _ h.1,h.2⟩)|(simp[plain]at h ⊢;exact h)
theorem ajX{j k:Nat}(h:j<=k){d:D}(hd:plain j d):plain k d:=by
 induction k with
 |zero=>grind
 |succ k ih =>
  by_cases e:j=k+1
  .grind
  .exact ajV _ _ (ih (by omega))
section
variable{S S1 S2:Store}{sl:aT}{f f1 f2:aM}{fs:du}{d e r:D}{ds:List D}{Q:hJ}
theorem aX{i:Nat}(h:sl[i]?=some (some d)):eName i sl S=.ok d S:=NI h
theorem bh:ah sl S=.ok [] S:=rfl
theorem aE(h:f sl S=.ok d S1)(h2:fs sl S1=.ok ds S2):ae f fs sl S=.ok (d::ds) S2:=by simp only[ae,h,h2,pW]
theorem dG{sem:aB}(h:fs sl S=.ok ds S1)(h2:sem ds S1=.ok r S2):ak sem fs sl S=.ok r S2:=by simp only[ak,h,pW];exact h2
theorem dr{sem:b_}(h:f1 sl S=.ok d S)(h2:f2 sl S=.ok e S1)(aH:sem d e S1=.ok r S2):aq sem f1 f2 sl S=.ok r S2:=by simp only[aq,h,h2,pW];exact aH
theorem nY(h:fs sl S=.ok ds S)(hl:ds.length<=1000000):ak d_ fs sl S=.ok (.lst ds) S:=dG h (by unfold d_;grind)
theorem hv(h:fs sl S=.ok ds S)(hl:ds.length<=1000000):ak bu fs sl S=.ok (.tup ds) S:=dG h (by unfold bu;grind)
theorem YJ{r:SX}(h:f sl S=.ok (.bl true) S)(hq:Q.nx sl S):a0 (bE (dc (aI f)) r bG sl S) Q:=by
 simp_all
theorem iB{i:Nat}(h:f sl S=.ok d S)(hq:Q.nx (sl.set i (some d)) S):a0 (bJ f (aP i) sl S) Q:=by
 simp_all
theorem YK{xs:List D}{k:Nat}(h:∀x∈xs,plain k x)(hk:k<=10)(hl:xs.length<=1000):q6 [.lst xs,.lst xs] S=.ok (.bl true) S:=by
 refine Pk ?_;rw[plain];exact⟨s7.mpr λx hx=>ajX hk (h x hx),by omega⟩
end
def xD:SX :=
 (a8 (ak z2 (ae (ak j7 (ae (eName 0) (ae (ak d_ (ae (af (.int 1)) (ae (af (.int 1)) (ae (af (.int 1)) (ae (af (.int 2)) (ae (aq kR (af (.int 0)) (af (.int 1))) (ae (aq kR (ak iy (ae (eName 0) (ae (af (.int 9)) ah))) (af (.int 4))) ah))))))) ah))) (ae (ak j7 (ae (eName 0) (ae (ak d_ (ae (af (.int 1)) (ae (af (.int 1)) (ae (af (.int 1)) (ae (af (.int 2)) (ae (af (.int 3)) ah)))))) ah))) ah))))
def Ed:aB:=bZ 1 (bI 1 xD)
def YL:SX :=
 (a8 (ak dM (ae (eName 0) (ae (ak bu (ae (af (.ty "list")) (ae (af (.ty "tuple")) ah))) ah))))
def IL:aB:=bZ 1 (bI 1 YL)
end Z
noncomputable section
namespace ZK
open PySem PySem.Spec PySem.W PySem.Calls PyProof.Rows L2 He He5
theorem ajY{YM:Type}{o:Option SharedT}{f:SharedT->Bool}{h:SharedT->YM}{v:YM}{n:v'}{IM IQ:List DefA}{fs:List eC}{ei:List Defn}{ex:Frag->Bool}
  (h1:o.map (λs=>(f s,h s,F5 IM (jw n (HandSHeadRun.getT s))))=some (true,v,(true,IM.map DefA.val)))
  (h2:o.map (λs=>K8 IQ fs (jw n (HandSHeadRun.getT s)))=some ((true,IQ.map DefA.val),fs.map eC.val))
  (aH:o.map (λs=>K9 ei ex (HandSHeadRun.getT s) (jw n (HandSHeadRun.getT s)))=some true) :
  o.map (λs=>(f s,h s,obsZ n (IM++IQ) fs ei ex (HandSHeadRun.getT s)))=some (true,v,z8 (IM++IQ) fs):=by
 cases o with
 |none=>simp at h1
 |some s =>
  simp only[yv,Option.some.injEq,Prod.mk.injEq,F5,K8,K9]at h1 h2 aH;obtain⟨a1,a2,a3,u6⟩:=h1;obtain⟨⟨b1,hH⟩,DA⟩:=h2;simp only[yv,obsZ,Yp,z8,List.all_append,List.map_append];grind
end ZK
end
namespace Z
open PySem PySem.Spec L2
abbrev dV(K:PySem.W.Frag)(n q:Str)(s:Stmt)(a:Addr)(fd:FuncData):Prop:=FunD K n q (defArgs s) (defBody s) (defScope s) [] [] a fd
end Z
namespace ZK
def P0(R:Prop):List mE->Prop
 |[]=>R
 |x::l=>x.p->P0 R l
def YN(R:Prop):List (List mE)->Prop
 |[]=>R
 |x::l=>P0 (YN R l) x
theorem YP{R:Prop}:∀{l:List mE},A' l=true->P0 R l->R
 |[],_,r=>r
 |x::l,h,r=>by
  have h:(@decide x.p x.d&&A' l)=true:=h;rw[Bool.and_eq_true]at h;exact YP h.2 (r (@of_decide_eq_true _ x.d h.1))
theorem YQ{R:Prop}:∀{l:List (List mE)},F6 l=true->YN R l->R
 |[],_,r=>r
 |x::l,h,r=>by
  have h:(A' x&&F6 l)=true:=h;rw[Bool.and_eq_true]at h;exact YQ h.2 (YP h.1 r)
end ZK
namespace GQ
open PySem PySem.SeqAt
open AutoSeq1 (wpAny_loadPart')
open MeetsSeq MeetsSeq2 MeetsSeq3 SeqRoads2
section
variable{prog:Program}{w:World}{A:Around}{R:Result->Shared->Prop}
theorem ajZ(l b:Addr)(N:Nat)(I:Nat->Shared->Prop)(hl:ListI prog w A (λe s'=>R (.error e) s') l b N I)
  (fin:∀s,I N s->R (.ok (.ret (.bool false))) s) (k:Nat) :
  ∀i:Nat,N - i=k->i<=N->∀s,I i s ->
   wpAny (model prog w) A.in1 (Builtin.«list.__eq__.loop» ⟨[.ref l,.ref b,rawInt i,rawInt 3],[]⟩) (FinOf prog w A R) (λe s'=>R (.error e) s') s:=by
 induction k with
 |zero =>
  intro i hk hi s h;obtain⟨items,tL,n,n2,ik,kv,tM,ru,_⟩:=hl _ _ h;have P1:i=N:=by omega
  have k4:R (.ok (.ret (.bool false))) s:=fin s (P1▸h);obtain⟨hp,g,d,tk,os⟩:=s
  wp_walk using wpAny_loadPart' ik,wpAny_loadPart' kv
  have P2:items[((i:Nat):Int).toNat]?=none:=by simp;omega
  have P4:tL[((i:Nat):Int).toNat]?=none:=by simp;omega
  rw[P2,P4]
  wp_walk using wpAny_loadPart' ik,wpAny_loadPart' kv
  show R (.ok (.ret (.bool (items.size != tL.size)))) _;grind
 |succ k ih =>
  intro i hk hi s h;obtain⟨items,tL,n,n2,ik,kv,tM,ru,turn⟩:=hl _ _ h;have c6:i<items.size:=by omega
  have YR:i<tL.size:=by omega
  have ht:=turn c6 YR;obtain⟨hp,g,d,tk,os⟩:=s
  wp_walk using wpAny_loadPart' ik,wpAny_loadPart' kv
  have P2:items[((i:Nat):Int).toNat]?=some items[i]:=by simp[c6]
  have P4:tL[((i:Nat):Int).toNat]?=some tL[i]:=by simp[YR]
  have hc:((i:Int)+1)=((i+1:Nat):Int):=by omega
  rw[P2,P4];refine wpAny_bind (wpAny_mono ht (λr s2 h2=>?_) λ_ _ x=>x);obtain⟨hr,h2⟩:=h2;subst hr;have gy:=ih (i+1) (by omega) (by omega) s2 h2;obtain⟨IT,g2,zb,q_,os2⟩:=s2
  wp_walk
  rw[hc];exact⟨plainId_quiet plain_eq_loop _,codeAny_builtin entry_eq_loop (by
   rw[Around.under_plainId plain_eq_loop _];exact gy)⟩
theorem aj0(l b:Addr)(N:Nat)(I:Nat->Shared->Prop)(hl:ListI prog w A (λe s'=>R (.error e) s') l b N I)
  (fin:∀s,I N s->R (.ok (.ret (.bool false))) s) {s:Shared} (h:I 0 s) :
  wpAny (model prog w) A.in1 (Builtin.«list.__ne__» ⟨[.ref l,.ref b],[]⟩) (FinOf prog w A R) (λe s'=>R (.error e) s') s:=by
 obtain⟨items,tL,n,n2,ik,kv,tM,ru,_⟩:=hl _ _ h;have gy:=ajZ (A:=A) (R:=R) l b N I hl fin _ 0 rfl (jW _) s h;obtain⟨hp,g,d,tk,os⟩:=s;have f3:=AutoSeq1.sub_list_list;have d5:¬(items.size != tL.size)=true:=by simp[tM,ru]
 wp_walk using wpAny_loadPart' ik,wpAny_loadPart' kv
 exact⟨plainId_quiet plain_eq_loop _,codeAny_builtin entry_eq_loop (by
  rw[Around.under_plainId plain_eq_loop _];exact gy)⟩
end
section
variable{prog:Program}{w:World}{A:Around}{E:Value->Shared->Prop}{s:Shared}
theorem aj1{l b:Addr}{N:Nat}{Q:Value->Shared->Prop}(aR:A.units<cLine)(I:Nat->Shared->Prop)(hl:ListI prog w A E l b N I)
  (fin:∀s,I N s->Q (.bool false) s) (h:I 0 s):wpAny (model prog w) A (richCompare .NotEq (.ref l) (.ref b)) Q E s:=by
 obtain⟨items,tL,n,n2,ik,kv,_,_,_⟩:=hl _ _ h;refine wpAny_richCompare_same_room (op:=.NotEq) ⟨_,ik,rfl⟩ ⟨_,kv,rfl⟩ F.slot_list_ne (call_here F.slot_list_ne ⟨_,ik,rfl⟩ F.entry_list_ne (F.args_list_ne_2 _ _) ?_) aR;exact aj0 (R:=wants (λv s'=>v≠.notImplemented/\Q v s') E) l b N I hl (λs' q=>⟨(λx=>nomatch x),fin s' q⟩) h
end
end GQ
namespace Z
open PySem PySem.Spec L2 PyProof.Rows
def iZ:Nat->Around->Around
 |0,A=>A
 |i+1,A=>(iZ i A).in1
theorem P5{k:Nat}:∀{i:Nat} {A:Around},Room (k+i) A->Room k (iZ i A)
 |0,_,h=>h
 |i+1,A,h=>Room.in1 (P5 (k:=k+1) (i:=i) (by grind))
section
variable{X:Cx}{W:WX}
theorem YS{pins:List (Addr×Obj)}{σ:L2.St}{H:Hp}{s:Shared}(I:Inv X pins σ H s):∀i,Env0 X.prog X.w X.K X.mg X.base (iZ i X.A) X.stack s H
 |0=>I.env0
 |i+1=>(YS I i).in1
theorem aj2{i k:Nat}{f:Addr}{pins:List (Addr×Obj)}{σ:L2.St}{H:Hp}{s:Shared}{Q:VK}{us:List Value}{vs:List V}{sp:Sp}{E:XK}(F:FnR X.prog X.w X.K X.mg X.base (Z.CX X.prog X.w) k f sp)(hr:Room k (iZ i X.A))(hx:PassesAt (Z.CX X.prog X.w) X σ E)(I:Inv X pins σ H s)(r:Vals vs us)(h:sp vs H Q E) :
  wpAny (model X.prog X.w) (iZ i X.A) (PySem.call (.ref f) us) (EP X pins σ Q) X.xe s:=by
 refine wpAny_call (codeAny_mono (F (iZ i X.A) X.stack s H us vs Q E hr (YS I i) r h) λr s' hq=>?_);cases r with
 |error e=>exact hx pins H s e s' I hq
 |ok fl =>
  cases fl<;>first|exact False.elim hq|exact I.after hq
def Ad(e9:List Str)(tab:List (Str×aB))(S:Store):Nat->D->D->Prop
 |0,_,_=>False
 |n+1,d,e=>match d,e with
  | .int i,.int j=>i=j
  | .bl i,.bl j=>i=j
  | .str i,.str j=>i=j
  | .non,.non=>True
  | .tup xs,.tup ys=>xs.length=ys.length/\∀(i:Nat) x y,xs[i]?=some x->ys[i]?=some y->Ad e9 tab S n x y
  | .b8 xs,.b8 ys=>xs.length=ys.length/\∀(i:Nat) x y,xs[i]?=some x->ys[i]?=some y->Ad e9 tab S n x y
  | .lst xs,.lst ys=>xs.length=ys.length/\∀(i:Nat) x y,xs[i]?=some x->ys[i]?=some y->Ad e9 tab S n x y
  | .ins c ns vs,.ins c' sx fy=>c'∈e9/\∃g,jH tab c=some g/\g [.ins c ns vs,.ins c' sx fy] S=.ok (.bl true) S
  |_,_=>False
def Gone(X:Cx)(pins:List (Addr×Obj))(σ:L2.St)(ρ:List Addr)(H:Hp)(S:Store)(s':Shared):Prop:=∃av H',Inv X pins σ H' s'/\Ext ρ H av H'/\aN X.K X.mg av H' S
def P6(X:Cx)(i:Nat)(P:Store->D->D->Prop):Prop :=
 ∀(pins:List (Addr×Obj)) (s:Shared) (σ:L2.St) (ρ:List Addr) (H:Hp) (S:Store) (d e:D) (x y:V) (u v:Value),Inv X pins σ H s->RelV x u->RelV y v->aN X.K X.mg ρ H S->Rep X.K X.mg ρ H d x->Rep X.K X.mg ρ H e y->P S d e ->
  wpAny (model X.prog X.w) (iZ i X.A) (eqBool u v) (λr s'=>r=true/\Gone X pins σ ρ H S s') X.xe s
theorem P7{P:Store->D->D->Prop}{i:Nat}(h:P6 X (i+1) P){pins:List (Addr×Obj)}{s:Shared}{σ:L2.St}{ρ:List Addr}{H:Hp}{S:Store}{xs ys:List D}{vs ws:List V}{its jO:List Value}
  (I:Inv X pins σ H s) (w:aN X.K X.mg ρ H S) (aJ:ay X.K X.mg ρ H xs vs) (bS:ay X.K X.mg ρ H ys ws) (r:Vals vs its) (r2:Vals ws jO) (p:∀(i:Nat) x y,xs[i]?=some x->ys[i]?=some y->P S x y)
  (j:Nat) (h1:j<its.toArray.size) (h2:j<jO.toArray.size) :
  wpAny (model X.prog X.w) (iZ i X.A).in1 (eqBool its.toArray[j] jO.toArray[j]) (λr s2=>r=true/\Gone X pins σ ρ H S s2) X.xe s:=by
 have g1:its[j]?=some its.toArray[j]:=by
  have nr:j<its.length:=by simpa using h1
  rw[pE nr]<;>simp
 have g2:jO[j]?=some jO.toArray[j]:=by
  have BU:j<jO.length:=by simpa using h2
  rw[pE BU]<;>simp
 have dS:j<vs.length:=by rw[r.length];simpa using h1
 have cX:j<ws.length:=by rw[r2.length];simpa using h2
 obtain⟨u,aR,cU⟩:=r.get (pE dS);obtain⟨v,bP,aW⟩:=r2.get (pE cX);rw[g1]at aR;rw[g2]at bP;rw[Option.some.inj aR,Option.some.inj bP];obtain⟨x,hx,Pr⟩:=aJ.get' (pE dS);obtain⟨y,bD,aj3⟩:=bS.get' (pE cX);exact h pins s σ ρ H S x y _ _ u v I cU aW w Pr aj3 (p j x y hx bD)
theorem Gone.trans{pins:List (Addr×Obj)}{σ:L2.St}{ρ av:List Addr}{H H':Hp}{S:Store}{s':Shared}(x:Ext ρ H av H')(g:Gone X pins σ av H' S s'):Gone X pins σ ρ H S s':=by
 obtain⟨aO,aD,I2,x2,cm⟩:=g;exact⟨aO,aD,I2,x.trans x2,cm⟩
theorem YT{P:Store->D->D->Prop}{i:Nat}(h:P6 X (i+1) P){pins:List (Addr×Obj)}{σ:L2.St}{ρ:List Addr}{H:Hp}{S:Store}{xs ys:List D}{d e:D}{a b:Addr}
  (rd:Rep X.K X.mg ρ H d (.ref a)) (re:Rep X.K X.mg ρ H e (.ref b)) (hd:d8 S d=some xs) (he:d8 S e=some ys) (hl:xs.length=ys.length) (p:∀(i:Nat) x y,xs[i]?=some x->ys[i]?=some y->P S x y) :
  GQ.ListI X.prog X.w (iZ i X.A) X.xe a b xs.length (λ_ s'=>Gone X pins σ ρ H S s'):=by
 intro j s' q;obtain⟨aA,H1,I1,x1,aF⟩:=q;obtain⟨jE,vs,ea,ha,aJ⟩:=lI aF (rd.ext x1) hd;obtain⟨b',ws,eb,hb,bS⟩:=lI aF (re.ext x1) he;cases ea;cases eb;obtain⟨z,its,k,r,aw⟩:=I1.hok a _ ha;obtain⟨ig,jO,cX,r2,e2⟩:=I1.hok b _ hb;refine⟨its.toArray,jO.toArray,k,cX,aw,e2,by rw[ly,<-r.length,aJ.len],by rw[ly,<-r2.length,hl,bS.len],λh1 h2=>?_⟩;exact wpAny_mono (P7 h I1 aF aJ bS r r2 p j h1 h2) (λr s2 q=>⟨q.1,q.2.trans x1⟩) λ_ _ x=>x
theorem YV{e9:List Str}{tab:List (Str×aB)}{N:Nat}(tk:Takes X W)(k4:Room N X.A)(h1:zK X "__eq__" N tab)(ht:zL X e9 tab):∀n i,i+n<=N->P6 X i (λS d e=>Ad e9 tab S n d e)
 |0,i,_=>λpins s σ ρ H S d e x y u v I cU aW w rd re p=>p.elim
 |n+1,i,hi=>λpins s σ ρ H S d e x y u v I cU aW w rd re p=>by
  have aR:(iZ i X.A).units<cLine:=(P5 (k:=0) (k4.mono (by omega))).units0;have ih:=YV tk k4 h1 ht n (i+1) (by omega);unfold Ad at p;have flat:∀{x y:V},RelV x u->RelV y v->flatV x=true->flatV y=true->eqV x y=true->wpAny (model X.prog X.w) (iZ i X.A) (eqBool u v) (λr s'=>r=true/\Gone X pins σ ρ H S s') X.xe s:=λaJ bS aj4 Ee e=>by
   have q:=eqAt_V (A:=iZ i X.A) (s:=s) aJ bS aj4 Ee;rw[e]at q;exact q X.prog X.w X.xe _ ⟨rfl,ρ,H,I,Ext.refl,w⟩
  have refs:∀{a b:Addr},u=.ref a->v=.ref b->(a≠b->wpAny (model X.prog X.w) (iZ i X.A) (richCompare .Eq (.ref a) (.ref b)) (λr s'=>r=.bool true/\Gone X pins σ ρ H S s') X.xe s)->wpAny (model X.prog X.w) (iZ i X.A) (eqBool u v) (λr s'=>r=true/\Gone X pins σ ρ H S s') X.xe s:=λ{a b} ea eb h=>by
   subst ea eb;by_cases qf:a=b
   .subst qf
    exact SeqAt.EqAt.same (A:=iZ i X.A) (s:=s) (.ref a) X.prog X.w X.xe _ ⟨rfl,ρ,H,I,Ext.refl,w⟩
   .exact GQ.eqBool_refG qf (wpAny_mono (h qf) (λr s' q=>⟨true,q.1,rfl,q.2⟩) λ_ _ x=>x)
  split at p
  .rename_i a b
   rw[Rep]at rd re;subst rd re p;exact flat cU aW rfl rfl (by simp[eqV])
  .rename_i a b
   rw[Rep]at rd re;subst rd re p;exact flat cU aW rfl rfl (by simp[eqV])
  .rename_i a b
   rw[Rep]at rd re;subst rd re p;exact flat cU aW rfl rfl (by simp[eqV])
  .rw[Rep]at rd re
   subst rd re;exact flat cU aW rfl rfl (by simp[eqV])
  .rename_i xs ys
   rw[Rep]at rd re;obtain⟨a,vs,ea,kW,aJ⟩:=rd;obtain⟨b,ws,eb,tb,bS⟩:=re;subst ea eb;refine refs cU aW λqf=>?_;obtain⟨its,r,e,z⟩:=I.tuple kW.eQ;obtain⟨jO,r2,e2,ig⟩:=I.tuple tb.eQ;have eR:its.toArray.size=jO.toArray.size:=by rw[ly,ly,<-r.length,<-r2.length,<-aJ.len,<-bS.len];exact p.1
   refine GQ.rc_tupG eR aR (λ_ s'=>Gone X pins σ ρ H S s') e e2 (λj h1 h2 s' q=>?_) (λs' q=>⟨rfl,q⟩) ⟨ρ,H,I,Ext.refl,w⟩;obtain⟨aA,H1,I1,x1,aF⟩:=q;exact wpAny_mono (P7 ih I1 aF (aJ.ext x1) (bS.ext x1) r r2 p.2 j h1 h2) (λr s2 q=>⟨q.1,q.2.trans x1⟩) λ_ _ x=>x
  .rename_i xs ys
   rw[Rep]at rd re;obtain⟨a,vs,ea,kW,aJ⟩:=rd;obtain⟨b,ws,eb,tb,bS⟩:=re;subst ea eb;refine refs cU aW λqf=>?_;obtain⟨its,r,e,z⟩:=I.tuple kW.eQ;obtain⟨jO,r2,e2,ig⟩:=I.tuple tb.eQ;have eR:its.toArray.size=jO.toArray.size:=by rw[ly,ly,<-r.length,<-r2.length,<-aJ.len,<-bS.len];exact p.1
   refine GQ.rc_tupG eR aR (λ_ s'=>Gone X pins σ ρ H S s') e e2 (λj h1 h2 s' q=>?_) (λs' q=>⟨rfl,q⟩) ⟨ρ,H,I,Ext.refl,w⟩;obtain⟨aA,H1,I1,x1,aF⟩:=q;exact wpAny_mono (P7 ih I1 aF (aJ.ext x1) (bS.ext x1) r r2 p.2 j h1 h2) (λr s2 q=>⟨q.1,q.2.trans x1⟩) λ_ _ x=>x
  .rename_i xs ys
   have aj5:=rd;have aj6:=re;rw[Rep]at rd re;obtain⟨a,vs,ea,kW,aJ⟩:=rd;obtain⟨b,ws,eb,tb,bS⟩:=re;subst ea eb;refine refs cU aW λqf=>?_;exact GQ.rc_listG aR (λ_ s'=>Gone X pins σ ρ H S s') (YT ih aj5 aj6 (by rfl) (by rfl) p.1 p.2) (λs' q=>⟨rfl,q⟩) ⟨ρ,H,I,Ext.refl,w⟩
  .rename_i c ns vs c' sx fy
   obtain⟨aY,g,nK,hg⟩:=p;obtain⟨a,C,bM,fs,ex,hm,ea,hn,cu⟩:=yX w rd (by rfl:iR S (.ins c ns vs)=some (c,ns,vs));obtain⟨b,eA,IU,u0,M5,iu,eb,lH,Ie⟩:=yX w re (by rfl:iR S (.ins c' sx fy)=some (c',sx,fy));obtain⟨f,k,oN,F,hk⟩:=h1.at_ c g nK C hm;subst ex M5;refine refs cU aW λqf=>?_;obtain⟨zA,od,J⟩:=XG I ea;obtain⟨ob,aw1,aj7⟩:=XG I eb;obtain⟨nr,_⟩:=ht.at_ c g nK C hm;have hr:Room k (iZ i X.A):=P5 (hk.mono (by omega));refine PySem.W.ahp (op:=.Eq) aR I.kIn J aj7.type (nr c' aY eA iu) oN.at_ oN.fn (wpAny_mono (aj2 (us:=[.ref a,.ref b]) (vs:=[.ref a,.ref b]) (Q:=λz H'=>z=.bl true/\∃av,Ext ρ H av H'/\aN X.K X.mg av H' S) F hr (su tk σ) I (.cons rfl (.cons rfl .nil)) ⟨ρ,S,[_,_],w,ay.cons rd (ay.cons re ay.nil),by rw[hg];exact λv av H' x dE b2=>⟨nB b2,av,x,dE⟩⟩) (λmK s' ⟨z,H',ko,aj8,Cd,av,x,dE⟩=>?_) λ_ _ z=>z);subst Cd;cases aj8;exact⟨rfl,av,H',ko,x,dE⟩
  grind
def eqO(neg:Bool)(e9:List Str)(tab:List (Str×aB))(n:Nat):b_:=λd e S=>match d8 S d,d8 S e with
 |some xs,some ys=>(open Classical in if xs.length=ys.length then(if ∀(i:Nat) x y,xs[i]?=some x->ys[i]?=some y->Ad e9 tab S n x y then .ok (.bl (!neg)) S else .bad)else .ok (.bl neg) S)
 |_,_=>.bad
theorem aj9{e9:List Str}{tab:List (Str×aB)}{n:Nat}{neg:Bool}(tk:Takes X W)(k4:Room (n+1) X.A)(h1:zK X "__eq__" (n+1) tab)(ht:zL X e9 tab):nU X W (compareOp (if neg=true then .NotEq else .Eq)) (eqO neg e9 tab n):=⟨λpins s σ ρ H S d e x y v u Q I aW cU w rd re p=>by
 have aR:X.A.units<cLine:=(k4.mono (jW _)).units0;have ih:=YV tk k4 h1 ht n 1 (by omega);unfold eqO at p;split at p
 .rename_i xs ys ed ee
  obtain⟨a,vs,ea,ha,aJ⟩:=lI w rd ed;obtain⟨b,ws,eb,hb,bS⟩:=lI w re ee;subst ea eb;obtain rfl:v=Value.ref a:=aW;obtain rfl:u=Value.ref b:=cU;split at p
  .rename_i hl
   split at p
   .rename_i hp
    have fin:∀s',Gone X pins σ ρ H S s'->EP X pins σ Q (.bool (!neg)) s':=λs' g=>by
     obtain⟨av,H',ko,x,dE⟩:=g;exact⟨.bl (!neg),H',ko,rfl,p _ av H' x dE iS⟩
    have li:=YT (i:=0) (pins:=pins) (σ:=σ) ih rd re ed ee hl hp;cases neg with
    |false=>exact GQ.rc_listG aR _ li fin ⟨ρ,H,I,Ext.refl,w⟩
    |true=>exact GQ.aj1 aR _ li fin ⟨ρ,H,I,Ext.refl,w⟩
   .exact p.elim
  .rename_i hl
   obtain⟨z,its,k,r,aw⟩:=I.hok a _ ha;obtain⟨ig,jO,cX,r2,e2⟩:=I.hok b _ hb;have eR:(its.toArray.size != jO.toArray.size)=true:=by
    rw[ly,ly,<-r.length,<-r2.length,<-aJ.len,<-bS.len];exact bne_iff_ne.mpr hl
   have fin:EP X pins σ Q (.bool neg) s:=⟨.bl neg,H,I,rfl,p _ ρ H Ext.refl w iS⟩
   have l1:s.heap.IsList a its.toArray:=⟨_,aw,rfl,_,rfl⟩
   have l2:s.heap.IsList b jO.toArray:=⟨_,e2,rfl,_,rfl⟩
   cases neg with
   |false=>exact SeqAt.RcAt.lists_lengths l1 l2 eR aR _ _ _ _ fin
   |true=>exact SeqAt.RcNeAt.lists_lengths l1 l2 eR aR _ _ _ _ fin
 .exact p.elim⟩
theorem YW{e9:List Str}{tab:List (Str×aB)}{n:Nat}(tk:Takes X W)(k4:Room (n+1) X.A)(h1:zK X "__eq__" (n+1) tab)(ht:zL X e9 tab):nU X W (compareOp .NotEq) (eqO true e9 tab n):=aj9 (neg:=true) tk k4 h1 ht
end
section
variable{X:Cx}{W:WX}
def vj:b_:=λd e S=>match d,e with
 | .tup xs,.tup []=>.ok (.bl (decide (xs=[]))) S
 |_,_=>.bad
theorem aka(aR:X.A.units<cLine):nU X W (compareOp .Eq) vj:=⟨λpins s σ ρ H S d e x y v u Q I aW cU w rd re p=>by
 unfold vj at p;split at p
 .rename_i xs
  rw[Rep]at rd re;obtain⟨a,vs,ea,kW,aJ⟩:=rd;obtain⟨b,ws,eb,tb,bS⟩:=re;subst ea eb;obtain rfl:v=Value.ref a:=aW;obtain rfl:u=Value.ref b:=cU;obtain⟨its,r,e,z⟩:=I.tuple kW.eQ;obtain⟨jO,r2,e2,ig⟩:=I.tuple tb.eQ;have h2:jO.length=0:=by rw[<-r2.length,<-bS.len];rfl
  have h1:its.length=xs.length:=by rw[<-r.length,<-aJ.len]
  refine SeqAt.RcAt.tuples (e:=λ_=>true) e e2 aR (λj _ h=>?_) _ _ _ _ ?_
  .rw[ly]at h;omega
  .have:((List.range (min its.toArray.size jO.toArray.size)).all (λ_=>true)&&its.toArray.size==jO.toArray.size)=decide (xs=[]):=by
    rw[ly,ly,h1,h2];cases xs<;>simp
   rw[this];exact⟨.bl (decide (xs=[])),H,I,rfl,p _ ρ H Ext.refl w iS⟩
 .exact p.elim⟩
end
end Z
namespace ZG
open PySem PySem.Spec GenW
open Sem (wp)
def akb:Frame->Frame
 | .ret _ h g l c p kp=>.ret (λ_=>.unsupported "") h g l c p kp
 | .gen _ _ l c p=>.ret (λ_=>.unsupported "") none false l c p []
def dead:GenState->GenState
 | .suspended _ l c p fs cl=>.suspended (λ_=>.unsupported "") l c p (fs.map akb) cl
 |x=>x
def YX:GenState->Bool
 | .suspended .. => true
 |_=>false
def YZ:List Frame->Bool
 |[]=>true
 | .gen .. :: _=>false
 |_::fs=>YZ fs
def akc:GenState->Bool
 | .suspended _ _ _ _ fs _=>YZ fs
 |_=>true
abbrev GM:=Nat->Option GenState
def rest(G:GM)(s:Shared):Shared:={ s with gens:=s.gens.mapIdx λi x=>(G i).getD x }
structure aT(G:GM)(s:Shared):Prop where
 at_:∀i x,G i=some x->YX x=true/\s.gens[i]?=some (dead x)
 aw2:∀(i:Nat) (x:GenState),s.gens[i]?=some x->akc x=true
abbrev nZ:=End->Shared->Prop
def cE(M:Model)(A:Around)(c:Code)(t:Sem PySem.Fin)(fs:List Frame)(s:Shared)(F:nZ):Prop :=
 ∀(jk:PySem.Ctx) (p:Pos),jk.code=c->jk.Woken A->∃e s',Runs M jk p t fs s e s'/\F e s'
section
variable{M:Model}{A:Around}{F:nZ}{c:Code}{fs:List Frame}{s:Shared}{env:Env}{K:Flow->Sem PySem.Fin}{J:Value->Sem PySem.Fin}{gd:Bool->Bool}{lv:List Value->List Value}
theorem rv{α:Type}{m:Sem α}{K:α->Sem PySem.Fin}{H:Value->Sem PySem.Fin}{gd lv}
  (h:wpAny M (A.over c fs) m (λa s'=>cE M A c (K a) fs s' F) (λx s'=>cE M A c (H x) fs s' F) s):cE M A c (m.wrap K H gd lv) fs s F:=by
 rintro jk p rfl mZ;exact runs_wrap_of_wp K H gd lv m (h (jk.over fs) p (mZ.over fs)) (λa dX s' h'=>h' jk dX rfl mZ) (λx dX s' h'=>h' jk dX rfl mZ)
theorem P8{dX:Pos}{k:Unit->Sem PySem.Fin}(h:cE M A c (k ()) fs s F):cE M A c (.at dX k) fs s F :=
 rv (m:=standAt dX) (K:=k) (H:=.raise) (gd:=id) (lv:=id) (wpAny_standAt h)
theorem akd{l:List Value}{k:Unit->Sem PySem.Fin}(h:cE M A c (k ()) fs s F):cE M A c (.point l k) fs s F :=
 rv (m:=point) (K:=k) (H:=.raise) (gd:=id) (lv:=λ_=>l) (wpAny_point h)
theorem ake{c':Code}{h g l}{k:Result->Sem PySem.Fin}(hc:∀p,cE M A c' (M.den c') (.ret k h g l c p []::fs) s F):cE M A c (.call c' h g l k) fs s F:=by
 rintro jk p rfl mZ;obtain⟨e,s',hr,he⟩:=hc p (jk.goto c') p rfl (mZ.goto c');exact⟨e,s',runs_call_seg hr,he⟩
theorem P9{k h g l c₁ p₁ kp}(r:Result)(hk:cE M A c₁ (k r) fs s F):cE M A c (leafOf r) (.ret k h g l c₁ p₁ kp::fs) s F:=by
 rintro jk p rfl mZ;obtain⟨e,s',hr,he⟩:=hk (jk.goto c₁) p₁ rfl (mZ.goto c₁);exact⟨e,s',Runs.pop r hr,he⟩
theorem akf{c':Code}(hq:c'.quiet=true)(hc:cE M A c' (M.den c') fs s F):cE M A c (.pure (.again c')) fs s F:=by
 rintro jk p rfl mZ;obtain⟨e,s',hr,he⟩:=hc (jk.goto c') p rfl (mZ.goto c');exact⟨e,s',Runs.head (c₁:=c') (λ_ _ x=>.again hq x) hr,he⟩
theorem Y0(r:Result)(h:F (.ret r) s):cE M A c (leafOf r) [] s F:=by
 rintro jk p rfl _;exact⟨.ret r,s,Runs.leaf r,h⟩
theorem akg{v g l}{k:Resume->Sem PySem.Fin}(C5:splitAtGen fs=none)(h:∀p,F (.susp v g l k c p fs) s):cE M A c (.yield v g l k) fs s F:=by
 rintro jk p rfl _;exact⟨_,s,Runs.yield' fs C5,h p⟩
theorem Y1{st:Stmt}{rest:List Stmt}
  (h:cE M A c ((exec st env).wrap (λf=>match f with|.next=>(execs rest env).wrap K J gd lv|f=>K f) J gd lv) fs s F):cE M A c ((execs (st::rest) env).wrap K J gd lv) fs s F:=by
 rw[execs_cons_wrap];exact h
theorem akh{e:Expr}{P_ pos:Pos}(C5:splitAtGen fs=none)(sP:gd false=false)(aki:fs.any Frame.guarded=false)
  (h:wpAny M (A.over c fs) (eval e env) (λv s'=>∀(g:Bool) (l:List Value) (k:Resume->Sem PySem.Fin) (p:Pos),(End.susp v g l k c p fs).quiet=true ->
    (∀x vk jZ,(match x with|.ref _=>False|_=>cE M A c (K .next) fs jZ vk)->cE M A c (k (.send x)) fs jZ vk)->F (.susp v g l k c p fs) s')
   (λx s'=>cE M A c (J x) fs s' F) s) (mb:env.scope.isCoroutine=false:=by rfl) (hi:interactive env=false:=by rfl) :
  cE M A c ((exec (.Expr (.Yield (some e) P_) pos) env).wrap K J gd lv) fs s F:=by
 rw[exec_Expr env _ pos hi rfl];show cE M A c (.at pos λ_=>((eval e env >>= λv=>(standAt P_ >>= λ_=>yieldOut env v)) >>= λx =>
  dropValue (.Yield (some e) P_) pos x).wrap K J gd lv) fs s F
 have bD:∀v,yieldOut env v=yieldValue v:=λv=>by simp only[yieldOut,mb,uq,if_false]
 simp only[bD];refine P8 ?_;rw[Sem.bind_eq_wrap',Sem.bind_eq_wrap',Sem.wrap_wrap,Sem.wrap_wrap];refine rv (wpAny_mono h (λv s' h'=>?_) λ_ _ x=>x);refine P8 (akg C5 λp=>?_);refine h' _ _ _ p (by simp[End.quiet,sP,aki]) λx vk jZ hx=>?_;cases x<;>first|exact hx|exact hx.elim
end
section
variable{prog:Program}{w:World}{A:Around}{F:nZ}{fs:List Frame}{s:Shared}{env:Env}
abbrev xE(env:Env)(e:Value):Sem PySem.Fin:=(do noteFrame e env;theTreesLotGoes e:Sem Unit).wrap (λ_=>.raise e) .raise id id
theorem akj{body:List Stmt}
  (h:cE (model prog w) A (.func body env) ((execs body env).wrap (λf=>.pure (.done (.ret (match f with|.ret v=>v|_=>.none))))
   (λe=>(leaving env e).wrap (λ_=>.raise e) .raise id id) id id) fs s F) :
  cE (model prog w) A (.func body env) ((model prog w).den (.func body env)) fs s F:=by
 show cE _ A _ (.point [] λ_=>((execs body env).onRaise (leaving env)) >>= _) fs s F;refine akd ?_;rw[Sem.onRaise_eq_wrap,Sem.bind_eq_wrap',Sem.wrap_wrap];rw[Sem.wrap_congr (execs body env) _ _ (K':=λf=>.pure (.done (.ret (match f with|.ret v=>v|_=>.none))))
  (H':=λe=>(leaving env e).wrap (λ_=>.raise e) .raise id id) (λf=>by cases f<;>rfl)
  (λe=>by rw[Sem.bind_eq_wrap,Sem.wrap_wrap];rfl)]
 exact h
end
def P'(M:Model)(A:Around)(gs:GenState)(s:Shared)(F:nZ):Prop:=match gs with
 | .fresh c=>cE M A c (M.den c) [] s F
 | .suspended k _ c _ fs _=>cE M A c (k (.send .none)) fs s F
 |_=>False
theorem akk{M:Model}{A:Around}{F:nZ}{E:Value->Shared->Prop}{s:Shared}{g:Nat}{gs:GenState}{l:List Value}{α:Type}{k:GenResult->Sem α}{Q:α->Shared->Prop}(hg:s.gens[g]?=some gs)
  (kc:P' M A gs (s.setGen g .running) F)
  (hF:∀e s₁,F e s₁->e.quiet=true/\wpAny M A (k e.result) Q E (s₁.setGen g e.genState)) :
  wpAny M A (.resume g (.send .none) l k) Q E s:=by
 intro jk p mZ;rw[Sem.wp_resume];cases gs with
 |fresh c =>
  obtain⟨e₁,s₁,hr,he⟩:=kc (jk.wake c p) p rfl (mZ.wake c p);obtain⟨h1,h2⟩:=hF e₁ s₁ he;exact⟨_,_,by unfold Wakes;rw[hg];exact⟨e₁,s₁,hr,h1,rfl,rfl⟩,h2 jk p mZ⟩
 |suspended aw3 l₀ c₀ p₀ aw4 cl =>
  obtain⟨e₁,s₁,hr,he⟩:=kc (jk.wake c₀ p) p₀ rfl (mZ.wake c₀ p);obtain⟨h1,h2⟩:=hF e₁ s₁ he;exact⟨_,_,by unfold Wakes;rw[hg];exact⟨e₁,s₁,hr,h1,rfl,rfl⟩,h2 jk p mZ⟩
 |running=>exact kc.elim
 |finished=>exact kc.elim
open PySem PySem.Spec GenW PyProof.Rows
section
variable{P:Program}{w:World}{A:Around}{E:Value->Shared->Prop}{s:Shared}
theorem Y2{a:Addr}{g:Nat}{gs:GenState}{F:nZ}{Q:Option Value->Shared->Prop}(hh:A.handled=none)
  (hl:s.heap.NoLimit) (vl:A.depth<recursionLimit) (hg:s.heap.IsGen a g) (k5:s.gens[g]?=some gs)
  (kc:P' (model P w) A.in1 gs (s.setGen g .running) F)
  (IV:∀v g₀ l k c p fs s₁,F (.susp v g₀ l k c p fs) s₁->(End.susp v g₀ l k c p fs).quiet=true/\Q (some v) (s₁.setGen g (End.susp v g₀ l k c p fs).genState))
  (k4:∀r s₁,F (.ret r) s₁->((r=.ok (.ret .none)\/r=.ok .next)/\∀h',(∀b o,s₁.heap.get? b=some o->h'.get? b=some o)->Q none { s₁.setGen g .finished with heap:=h' }) \/
   ∃e,r=.error e/\s₁.heap.IsGen a g/\L2.NotStop (model P w) e s₁.heap/\E e (s₁.setGen g .finished)) :
  wpAny (model P w) A (pyNext (.ref a)) Q E s:=by
 unfold pyNext;refine wpAny_bind (wpAny_attempt (wpAny_callSpecial?_slot (name:=Str.ofString "__next__") hg.typeIs slot_gen_next
  (wpAny_call_entry slot_gen_next hg.typeIs entry_gen_next ?_ (args_gen_next _))))
 show wpAny _ A.in1 (Builtin.Generator.genWake (.ref a) (.send .none)) _ _ s;unfold Builtin.Generator.genWake;refine wpAny_bind (wpAny_holding (wpAny_genNumber hg (wpAny_bind (wpAny_genState k5 ?_))));cases gs with
 |running=>exact kc.elim
 |finished=>exact kc.elim
 |_ =>
  refine wpAny_bind (wpAny_roomToWake hl vl ?_);show wpAny _ A.in1 (.resume g (.send .none) [] _) _ _ s;refine akk k5 kc λx s₁ hx=>?_;cases x with
  |susp v g₀ l k c p fs =>
   obtain⟨h1,h2⟩:=IV v g₀ l k c p fs s₁ hx;exact⟨h1,wpAny_pure ⟨v,rfl,wpAny_pure h2⟩⟩
  |ret x =>
   refine⟨rfl,?_⟩;rcases k4 x s₁ hx with⟨hr,hp⟩|⟨e,rfl,akl,fV,hq⟩
   .have qj:End.result (.ret x)=.returned .none:=by
     rcases hr with hr|hr<;>rw[hr]<;>rfl
    first|rw[qj]|simp only[qj]
    show wpAny _ A.in1 (newExc (.type "StopIteration") [] >>= _) _ _ _;refine wpAny_bind ?_;simp only[newExc,newTuple];refine wpAny_bind (wpAny_newObj_type ?_ (by size_fits));refine wpAny_bind (m:=firstArgMember _ _) (wpAny_of_eq (a:=Value.none) (by first|rfl|(simp only[firstArgMember];rfl)) ?_);refine wpAny_newObj_type ?_ (by size_fits);simp only[raiseNew];refine wpAny_bind (wpAny_bind (wpAny_handled ?_))
    first|rw[show A.in1.handled=none from hh]|rw[hh]
    refine wpAny_throw ?_;refine wpAny_bind (wpAny_isInstance (T:="StopIteration") (b:=true) ⟨_,Heap.get?_push_size _ rfl,rfl⟩ isSubtype_stop ?_);exact wpAny_pure (hp _ λb o hb=>Heap.get?_push_of_some _ (Heap.get?_push_of_some _ hb))
   .obtain⟨o,nm,hO,aY,hc,hd,ql⟩:=akl
    show wpAny _ A.in1 (Builtin.Generator.genLeft (.ref a) e) _ _ _;unfold Builtin.Generator.genLeft Builtin.Generator.madeByALambda;refine wpAny_bind (wpAny_bind (wpAny_load (o:=o) aY (wpAny_pure ?_)));refine wpAny_bind (fV _ _ _ _ rfl ?_);rw[Bool.and_false,if_neg kK];unfold Builtin.Generator.genEscaped
    first
     |refine wpAny_bind (fV _ _ _ _ rfl ?_)
     |refine wpAny_bind (wpAny_pure (wpAny_bind (fV _ _ _ _ rfl ?_)))
    rw[if_pos (show(!false)=true from rfl)]
    first
     |refine wpAny_throw ?_
     |refine wpAny_bind (wpAny_throw ?_)
    refine wpAny_bind (fV _ _ _ _ rfl ?_);rw[if_neg kK];exact wpAny_throw hq
end
open PySem PySem.Spec GenW PyProof.Rows L2
def tN(n:Nat)(h:Heap):Heap:={ h with objs:=h.objs.extract 0 n }
def akm(n:Nat)(s:Shared):Shared:={ s with heap:=tN n s.heap }
theorem akn{objs:Array Obj}{n b:Nat}:(objs.extract 0 n)[b]?=if b<n then objs[b]? else none:=by
 rw[Array.getElem?_extract];by_cases e:b<n
 .rw[if_pos e]
  by_cases e2:b<objs.size
  .rw[if_pos (by omega)]
   simp
  .rw[if_neg (by omega),Array.getElem?_eq_none (by omega)]
 .rw[if_neg e,if_neg (by omega)]
theorem Y3{n:Nat}{h:Heap}{b:Addr}:(tN n h).get? b=if b<n then h.get? b else none:=by
 unfold Heap.get?;show(match(h.objs.extract 0 n)[b]? with|some ⟨_,_,.freed,_⟩=>none|o=>o)=_;rw[akn];by_cases e:b<n
 .rw[if_pos e,if_pos e]
  rfl
 .rw[if_neg e,if_neg e]
theorem Qa{n:Nat}{h:Heap}(hn:n<=h.objs.size):(tN n h).objs.size=n:=by
 show(h.objs.extract 0 n).size=n;rw[Array.size_extract];omega
theorem Qb{n:Nat}{h:Heap}{b:Addr}{o:Obj}(e:(tN n h).get? b=some o):b<n/\h.get? b=some o:=by
 rw[Y3]at e;split at e
 .rename_i hb
  exact⟨hb,e⟩
 .cases e
theorem Ae{n:Nat}{h:Heap}{b:Addr}{o:Obj}(hb:b<n)(e:h.get? b=some o):(tN n h).get? b=some o:=by
 rw[Y3,if_pos hb,e]
def rx(P:Program)(w:World)(K:PySem.W.Frag)(mg:Str->Option Value)(base:Heap)(N:List Str)(qual:Str)(scope:Scope)(f:Addr)(cd:Value)(A:Around)(outer:List Env)(n:Addr)(s:Shared)(H:Hp)(pn:List (Addr×Obj))(xe:Value->Shared->Prop):Cx where
 prog:=P
 w:=w
 K:=K
 mg:=mg
 base:=base
 A:=A.deeper (envOfC qual scope n f cd)
 N:=N
 s_0:=akm n s
 H_0:=H
 env:=envOfC qual scope n f cd
 outer:=outer
 stack:=envOfC qual scope n f cd::outer
 ex:=[]
 calm:=true
 fn:=λ_=>true
 pn:=pn
 xe:=xe
section
variable{base:Heap}{n:Addr}{s:Shared}
theorem Y4:∀{l:List Env},s.heap.FunFrames base l->(∀b∈frs l,b<n)->(tN n s.heap).FunFrames base l
 |[],_,_=>trivial
 |env::l,h,hb=>by
  obtain⟨h1,⟨L,o,hf,hn,aY,hd⟩,h2⟩:=h;have hm:L∈frs (env::l):=by simp[frs,hf]
  refine⟨h1,⟨L,o,hf,hn,Ae (hb L hm) aY,hd⟩,Y4 h2 λb Qc=>hb b ?_⟩;simp only[frs,FV]at Qc ⊢;cases env.frame with
  |none=>exact Qc
  |some x=>exact iH _ Qc
end
open PySem PySem.Spec GenW PyProof.Rows L2
open Classical in
def tO(n:Addr)(own fs:List Addr)(H:Hp)(h:Heap):List (Addr×Obj):=(List.range h.objs.size).filterMap λb=>match h.get? b with
 |some o=>if n<b/\b∉own/\H b=none/\b∉fs/\(∀v,o.data≠.cell v)then some (b,o)else none
 |none=>none
theorem Qd{n:Addr}{own fs:List Addr}{H:Hp}{h:Heap}{p:Addr×Obj}:p∈tO n own fs H h↔h.get? p.1=some p.2/\n<p.1/\p.1∉own/\H p.1=none/\p.1∉fs/\∀v,p.2.data≠.cell v:=by
 unfold tO;rw[List.mem_filterMap];constructor
 .rintro⟨b,hb,e⟩
  split at e
  .rename_i o aY
   split at e
   .rename_i q
    cases e;exact⟨aY,q⟩
   .cases e
  .cases e
 .rintro⟨h1,h2⟩
  refine⟨p.1,List.mem_range.mpr (Heap.lt_size h1),?_⟩;rw[h1];dsimp only;rw[if_pos h2]
open Classical in
def IW(n:Addr)(own:List Addr)(H:Hp)(h:Heap):List Addr:=n::own++(List.range h.objs.size).filter λb=>decide (n<=b/\H b=none/\∃o v,h.get? b=some o/\o.data=.cell v)
open Classical in
theorem Ef{n b:Addr}{own:List Addr}{H:Hp}{h:Heap}:b∈IW n own H h↔b=n\/b∈own\/(n<=b/\H b=none/\∃o v,h.get? b=some o/\o.data=.cell v):=by
 unfold IW;rw[List.cons_append,List.mem_cons,List.mem_append,List.mem_filter];refine or_congr Iff.rfl (or_congr Iff.rfl ?_);rw[decide_eq_true_iff];exact⟨λh=>h.2,λh=>⟨List.mem_range.mpr (by obtain⟨_,_,o,v,e,_⟩:=h;exact Heap.lt_size e),h⟩⟩
structure xF(X:Cx)(pins:List (Addr×Obj))(n:Addr)(own:List Addr)(H:Hp):Prop where
 s0:∀b,n<=b->H b=none->b∈X.ex\/X.s_0.heap.objs.size<=b
 hn:H n=none
 Y5:∀b∈own,H b=none
 loc:X.env.locals≠n/\X.env.locals∉own
 tP:∀x c,X.env.cells.lookup x=some c->c<n
 fs:∀b∈frs X.stack,b<n
 pin:∀p∈X.pn++pins,p.1≠n/\p.1∉own
 own:∀b∈own,n<b
section
variable{X:Cx}{A:Around}{N:List Str}{qual:Str}{scope:Scope}{f:Addr}{cd:Value}{n:Addr}{own:List Addr}{s s1:Shared}{H H1:Hp}{pins:List (Addr×Obj)}{xe:Value->Shared->Prop}{σ jl:L2.St}
theorem ako(I:Inv X pins σ H s)(y:xF X pins n own H){vm:List (Addr×Obj)}(jm:Inv (rx X.prog X.w X.K X.mg X.base N qual scope f cd A X.stack n s H (tO n own (frs X.stack) H s.heap) xe) vm jl H1 s1)(hk:∀b u,H b=some u->H1 b≠none):Inv X pins σ H1 s1:=by
 have IX:∀b:Addr,b∉(rx X.prog X.w X.K X.mg X.base N qual scope f cd A X.stack n s H (tO n own (frs X.stack) H s.heap) xe).ex:=λb h=>absurd (show b∈([]:List Addr)from h) (by simp);have above:∀b o,s.heap.get? b=some o->H b=none->b∉frs X.stack->b∉IW n own H s.heap->¬b<n->s1.heap.get? b=some o/\H1 b=none:=λb o e hn hf hc hb=>by
  have h1:¬b=n/\b∉own/\¬(n<=b/\H b=none/\∃o v,s.heap.get? b=some o/\o.data=.cell v):=by
   rw[Ef]at hc;exact⟨λz=>hc (.inl z),λz=>hc (.inr (.inl z)),λz=>hc (.inr (.inr z))⟩
  have hm:(b,o)∈tO n own (frs X.stack) H s.heap:=Qd.mpr ⟨e,Nat.lt_of_le_of_ne (Nat.le_of_not_lt hb) (λz=>h1.1 z.symm),h1.2.1,hn,hf,λv bP=>h1.2.2 ⟨Nat.le_of_not_lt hb,hn,o,v,e,bP⟩⟩;obtain⟨bN,b3,_⟩:=jm.pin (b,o) (nj _ hm);exact⟨bN,b3⟩
 refine I.call' (ch:=IW n own H s.heap) (jm.os.trans rfl) ⟨λb o e hn hf hc=>?_,λb o e hn hf hc=>?_,λb o e hn hc=>?_,λb o e hc=>?_,jm.base.tups,jm.base.frzs,jm.base.tbls⟩ jm.hok jm.bare λb hb=>?_
 .by_cases q:b<n
  .exact jm.base.keep b o (Ae q e) hn hf (IX b)
  .exact(above b o e hn hf hc q).1
 .exact jm.base.slot b o (Ae (y.fs b hf) e) hn hf (IX b)
 .by_cases q:b<n
  .exact jm.base.free b o (Ae q e) hn (IX b)
  .exact(above b o e hn (λz=>q (y.fs b z)) hc q).2
 .by_cases q:b<n
  .exact jm.base.there b o (Ae q e) (IX b)
  .cases hh:H b with
   |none=>exact⟨o,(above b o e hh (λz=>q (y.fs b z)) hc q).1⟩
   |some u =>
    cases b3:s1.heap.get? b with
    |some e6=>exact⟨e6,rfl⟩
    |none=>exact absurd (jm.hok.gone b3) (hk b u hh)
 .have Y6:n<=b:=by
   rcases Ef.mp hb with h|h|h
   .exact Nat.le_of_eq h.symm
   .exact jv (y.own b h)
   .exact h.1
  have akp:H b=none:=by
   rcases Ef.mp hb with h|h|h
   .rw[h];exact y.hn
   .exact y.Y5 b h
   .exact h.2.1
  refine⟨y.s0 b Y6 akp,λz=>?_,λx c hx z=>?_,λp hp z=>?_⟩
  .rcases Ef.mp hb with h|h|h
   .exact y.loc.1 (z.symm.trans h)
   .exact y.loc.2 (z▸h)
   .obtain⟨_,_,o,v,e,bP⟩:=h
    obtain⟨m,⟨e6,es,eP,mS,mG,_⟩,_⟩:=I.loc;rw[<-z,e]at mS;cases mS;rw[bP]at mG;cases mG
  .exact absurd (mA (z▸y.tP x c hx) Y6) (ni _)
  .obtain⟨p1,p2⟩:=y.pin p hp
   rcases Ef.mp hb with h|h|h
   .exact p1 (z.trans h)
   .exact p2 (z▸h)
   .obtain⟨_,_,o,v,e,bP⟩:=h
    obtain⟨bN,_,_,_,OI⟩:=I.pin p hp;rw[z,e]at bN;cases bN;exact OI v bP
theorem akq(hn:H n=none):∀p∈tO n own (frs X.stack) H s.heap,s.heap.get? p.1=some p.2/\H p.1=none/\p.1≠n/\p.1∉frs X.stack/\∀v,p.2.data≠.cell v:=λp hp=>by
 obtain⟨h1,h2,aH,bT,cZ,oX⟩:=Qd.mp hp;exact⟨h1,bT,um h2,cZ,oX⟩
end
def ry(X:Cx)(W:WX)(u:Value)(s':Shared):Prop :=
 ∃(a:Addr) (B:Heap) (dP:Shared) (pins:List (Addr×Obj)) (σ:L2.St) (H:Hp) (cls:Value) (d:Option Addr),
  u=.ref a/\Inv X pins σ H dP/\(∀b o,dP.heap.get? b=some o->b∉frs X.stack->B.get? b=some o)/\dP.heap.UpToSlots s'.heap /\
   HandSPX.FlyingZ B X.outer a (Z.gT B H cls d) s'.heap/\H a=none/\s'.os=dP.os/\AllBare s'.gens/\W cls d σ H
section
variable{X:Cx}{W:WX}{s':Shared}
theorem akr{h1 h2 aH:Heap}(a:h1.UpToSlots h2)(b:h2.UpToSlots aH):h1.UpToSlots aH:=λx o e hd=>by
 obtain⟨sl,aw⟩:=a x o e hd;obtain⟨bK,e2⟩:=b x _ aw hd;exact⟨bK,e2⟩
theorem aks(hs:X.stack=X.env::X.outer)(hf:X.env.frame=some X.env.locals){E₁:Value->Shared->Prop}{u:Value}(x:Z.XE X W u s') :
  wpAny (model X.prog X.w) X.A (leaving X.env u) (λ_ jZ=>ry X W u jZ) E₁ s':=by
 obtain⟨a,B,dP,pins,σ,H,cls,d,rfl,I,nb,up,sr,na,os,jc,w⟩:=x;have gU:X.A.frames=some (X.env::X.outer):=by rw[I.ok.frames,hs]
 have fin:∀h',HandSPX.FlyingZ B X.outer a (Z.gT B H cls d) h'->s'.heap.UpToSlots h'->ry X W (.ref a) { s' with heap:=h' }:=λh' fl Ma =>
  ⟨a,B,dP,pins,σ,H,cls,d,rfl,I,nb,akr up Ma,fl,na,os,jc,w⟩
 rw[hs]at sr;rcases sr with⟨dx,hn,hl,dI,vs,he,hz,hd,h1⟩|fl|hd
 .exact PXN.leaving_firstZ Z.gT.steady gU hl hf he dx hn hd h1 hz fin
 .exact PXN.leaves_onZ Z.gT.steady gU hf fl fin
 .exact HandSPX.leaves_heldZ hf hd fin
end
section
variable{n:Addr}
def gone(n:Addr)(h:Heap):Heap:=h.update n λo=>{ o with data:=.freed }
end
inductive xG where
 |done
 |ex (e:Z.D)
theorem Eg{X:Cx}{pins:List (Addr×Obj)}{σ:L2.St}{H:Hp}{s s':Shared}(I:Inv X pins σ H s)(h:s'.heap=s.heap)(aY:s'.os=s.os)(hb:AllBare s'.gens):Inv X pins σ H s':=by
 obtain⟨h0,g,d,t,o⟩:=s';obtain rfl:h0=s.heap:=h;obtain rfl:o=s.os:=aY;exact⟨I.ok,I.os,hb,I.base,I.loc,I.cell,I.free,I.freeC,I.pin,I.hok,I.len⟩
def akt(fp:List Addr)(s s':Shared):Prop:=(∀b∈fp,∀o,s.heap.get? b=some o->s'.heap.get? b=some o)/\∀(j:Nat) (x:GenState),s.gens[j]?=some x->YX x=true->s'.gens[j]?=some x
abbrev aku:=Nat->List Addr->List Addr->Hp->Shared->Prop
abbrev aw5:=Z.aT->Z.Store->Z.Out (List Z.D×xG×(Z.Store->Prop))
section
variable(X:Cx)(N:List Str)(qual:Str)(scope:Scope)(f:Addr)(cd:Value)(n:Addr)(own:List Addr)(s:Shared)(H:Hp)(W:WX)
def rz:Cx:=rx X.prog X.w X.K X.mg X.base N qual scope f cd X.A.in1 X.stack n s H (tO n own (frs X.stack) H s.heap) (λ_ _=>True)
def fD:Cx:=rx X.prog X.w X.K X.mg X.base N qual scope f cd X.A.in1 X.stack n s H (tO n own (frs X.stack) H s.heap)
 (λe s'=>wpAny (model X.prog X.w) (X.A.in1.deeper (envOfC qual scope n f cd)) (leaving (envOfC qual scope n f cd) e) (λ_ jZ=>ry (rz X N qual scope f cd n own s H) W e jZ) (λ_ _=>False) s')
end
section
variable{X:Cx}{N:List Str}{qual:Str}{scope:Scope}{f:Addr}{cd:Value}{n:Addr}{own:List Addr}{s s1:Shared}{H H1:Hp}{W:WX}{pins:List (Addr×Obj)}{σ:L2.St}
theorem IY:Inv (fD X N qual scope f cd n own s H W) pins σ H1 s1↔Inv (rz X N qual scope f cd n own s H) pins σ H1 s1:=by
 have e:fD X N qual scope f cd n own s H W=(rz X N qual scope f cd n own s H).wish (fD X N qual scope f cd n own s H W).xe:=rfl;rw[e];exact⟨λI=>I.unwish,λI=>I.wish _⟩
theorem akv:Z.Takes (fD X N qual scope f cd n own s H W) W:=λu s' x=>by
 refine wpAny_mono (aks (X:=fD X N qual scope f cd n own s H W) (E₁:=λ_ _=>False) rfl rfl x) (λ_ jZ q=>?_) λ_ _ z=>z;obtain⟨a,B,dP,pins,σ,akw,cls,d,e,I,r⟩:=q;exact⟨a,B,dP,pins,σ,akw,cls,d,e,IY.mp I,r⟩
theorem Y7:PassesOwn (model (fD X N qual scope f cd n own s H W).prog (fD X N qual scope f cd n own s H W).w) (fD X N qual scope f cd n own s H W).A (fD X N qual scope f cd n own s H W).env (fD X N qual scope f cd n own s H W).xe :=
 passes_of (X:=fD X N qual scope f cd n own s H W) (K:=λe jZ=>ry (rz X N qual scope f cd n own s H) W e jZ) (E₁:=λ_ _=>False) rfl
theorem Y8{jl:L2.St}{vm:List (Addr×Obj)}(I:Inv X pins σ H s)(y:xF X pins n own H)(jm:Inv (fD X N qual scope f cd n own s H W) vm jl H1 s1)(hk:∀b u,H b=some u->H1 b≠none):Inv X pins σ H1 s1:=ako I y (IY.mp jm) hk
theorem Qe{K:PySem.W.Frag}{mg:Str->Option Value}{ρ av:List Addr}{ao:Z.Store}(x:Z.Ext ρ H av H1)(dE:Z.aN K mg av H1 ao):∀b u,H b=some u->H1 b≠none:=λb u e=>by
 by_cases hb:b∈ρ
 .obtain⟨t,ht⟩:=x.pre
  exact dE.tr b (by rw[ht];exact nj _ hb)
 .rcases x.keep b u hb e with z|⟨_,od,z⟩
  .rw[z];simp
  .rw[z];simp
end
open PySem PySem.Spec GenW PyProof.Rows L2
structure xH where
 pre:List Stmt
 tg:Expr
 iter:Expr
 As:List Stmt
 Af:Expr
 Ag:Pos
 pos:Pos
 xI:List Stmt
 akx:Pos
def xH.Qf(h:xH):Stmt:=.Expr (.Yield (some h.Af) h.Ag) h.pos
def xH.loop(h:xH):List Stmt:=h.As++h.Qf::h.xI
def xH.body(h:xH):List Stmt:=h.pre++[.For h.tg h.iter h.loop [] h.akx]
abbrev yD:Flow->Sem PySem.Fin:=λfl=>.pure (.done (.ret (match fl with|.ret v=>v|_=>.none)))
abbrev IZ(env:Env):Value->Sem PySem.Fin:=λe=>(leaving env e).wrap (λ_=>.raise e) .raise id id
abbrev Y9(env:Env):Flow->Sem PySem.Fin:=λfl=>match fl with|.next=>(execs [] env).wrap yD (IZ env) id id|fl=>yD fl
abbrev Y_(env:Env):Result->Sem PySem.Fin:=λr=>((match r with|.ok fl=>(.pure fl:Sem Flow)|.error e=>.raise e).onRaise (L2.cameBack env)).wrap (Y9 env) (IZ env) id id
abbrev lC(env:Env)(body:List Stmt)(p:Pos):List Frame:=[.ret (Y_ env) none (id false) (id []) (.func body env) p []]
section
variable{s:Shared}{F:nZ}
theorem Y'{M:Model}{A:Around}{c:Code}{fs:List Frame}{env:Env}{K:Flow->Sem PySem.Fin}{J:Value->Sem PySem.Fin}{gd:Bool->Bool}{lv:List Value->List Value}{rest:List Stmt}:∀(As:List Stmt) {s:Shared},
  cE M A c ((execs As env).wrap (λfl=>match fl with|.next=>(execs rest env).wrap K J gd lv|fl=>K fl) J gd lv) fs s F->cE M A c ((execs (As++rest) env).wrap K J gd lv) fs s F:=by
 have e:∀As:List Stmt,(execs As env).wrap (λfl=>match fl with|.next=>(execs rest env).wrap K J gd lv|fl=>K fl) J gd lv=(execs (As++rest) env).wrap K J gd lv:=λAs=>by
  induction As with
  |nil=>rfl
  |cons a As ih =>
   rw[List.cons_append,execs_cons_wrap,execs_cons_wrap];refine Sem.wrap_congr _ _ _ (λfl=>?_) λ_=>rfl;cases fl with
   |next=>exact ih
   |_=>rfl
 intro As s h;rw[<-e];exact h
end
structure Old(X:Cx)(fL:Hp)(n a:Addr):Prop where
 s0:∀b,n<=b->fL b=none->b∈X.ex\/X.s_0.heap.objs.size<=b
 loc:X.env.locals≠n/\X.env.locals≠a
 tP:∀x c,X.env.cells.lookup x=some c->c<n
 fs:∀b∈frs X.stack,b<n
 I0:∀b∈X.fs,b<n
 bs:X.base.objs.size<=n
 na:n<a
structure Eh where
 N:List Str
 qual:Str
 scope:Scope
 f:Addr
 cd:Value
 n:Addr
 a:Addr
 g:Nat
 sh:xH
abbrev Eh.ev(q:Eh):Env:=envOfC q.qual q.scope q.n q.f q.cd
structure Ah where
 xs:List Z.D
 ds:List Z.D
 fin:xG
 slA:Nat->Z.aT
 aw6:Nat->Z.aT
 slY:Nat->Z.aT
 sl0:Z.aT
 gC:Z.Store->Prop
 G:Z.Store->Prop
section
variable{X:Cx}{q:Eh}{kn:List Addr}{fL:Hp}{ρ:List Addr}{H:Hp}{pins:List (Addr×Obj)}{S:Z.Store}
theorem aky(o:Old X fL q.n q.a)(hx:Z.Ext kn fL ρ H)(w:Z.aN X.K X.mg ρ H S)(hn:H q.n=none){own:List Addr}(hp:∀p∈X.pn++pins,p.1∉q.a::q.n::own)(aY:∀b∈own,q.n<b/\H b=none/\b≠X.env.locals):xF X pins q.n own H where
 s0:=λb hb akz=>by
  refine o.s0 b hb ?_;cases z:fL b with
  |none=>rfl
  |some u=>exact absurd akz (Qe hx w b u z)
 hn:=hn
 Y5:=λb hb=>(aY b hb).2.1
 loc:=⟨o.loc.1,λz=>(aY _ z).2.2 rfl⟩
 tP:=o.tP
 fs:=o.fs
 pin:=λp hm=>by
  have:=hp p hm;simp only[List.mem_cons,not_or]at this;exact⟨this.2.1,this.2.2⟩
 own:=λb hb=>(aY b hb).1
end
section
variable{X:Cx}{q:Eh}{fL:Hp}{H:Hp}{s:Shared}
theorem akA{own:List Addr}(o:Old X fL q.n q.a)(ml:s.heap.IsGen q.a q.g)(ha:H q.a=none)(akB:q.a∉own):∃ob nm hO,(q.a,ob)∈tO q.n own (frs X.stack) H s.heap/\ob.cls=.type "generator"/\ob.data=.fields #[.int q.g 0,nm,hO]/\ob.slots = #[]:=by
 obtain⟨ob,nm,hO,aY,hc,hd,hs⟩:=ml;refine⟨ob,nm,hO,Qd.mpr ⟨aY,o.na,akB,ha,λz=>absurd (qE o.na (o.fs _ z)) (ni _),λv z=>?_⟩,hc,hd,hs⟩;have z:ob.data=.cell v:=z;rw[hd]at z;cases z
end
structure Ei(X:Cx)(n a:Addr):Prop where
 s0:X.s_0.heap.objs.size<=n
 loc:X.env.locals<n
 tP:∀x c,X.env.cells.lookup x=some c->c<n
 fs:∀b∈frs X.stack,b<n
 I0:∀b∈X.fs,b<n
 bs:X.base.objs.size<=n
 na:n<a
theorem Ei.old{X:Cx}{n a:Addr}(o:Ei X n a){fL:Hp}:Old X fL n a:=⟨λb hb _=>.inr (Nat.le_trans o.s0 hb),⟨h_ o.loc,h_ (qE o.loc o.na)⟩,o.tP,o.fs,o.I0,o.bs,o.na⟩
section
variable{X:Cx}{pins:List (Addr×Obj)}{σ:L2.St}{H:Hp}{s:Shared}
theorem akC(I:Inv X pins σ H s){a:Addr}(ha:s.heap.objs.size<a):Ei X s.heap.objs.size a where
 s0:=I.sz
 loc:=I.lt
 tP:=λx c h=>by
  obtain⟨v,ob,aY,_⟩:=I.cell x c h;exact Heap.lt_size aY
 fs:=λb hb=>by
  rcases fQ.mp (I.stkSub b hb)with z|z
  .rw[z];exact I.lt
  .exact Nat.lt_of_not_le λh=>I.nofs h z
 I0:=λb hb=>Nat.lt_of_not_le λh=>I.nofs h hb
 bs:=Nat.le_trans I.ok.bsz I.sz
 na:=ha
end
theorem aw7.gen:True:=trivial
abbrev oZ(S:Z.Store):Prop:=∀m∈S,Z.jy S.length m=true
theorem Room.Zb{k:Nat}{A:Around}(r:Room k A):A.depth<recursionLimit:=by have:=r.dp;omega
end ZG
namespace Z
open PySem PySem.Spec L2 PyProof.Rows
theorem Zd:∀{ss:List Str} {us:List Value},us.map TY=ss.map some->Vals (ss.map V.str) us
 |[],[],_=>.nil
 |s::ss,u::us,h=>by
  simp only[cF,List.cons.injEq]at h;refine .cons ?_ (Zd h.2);cases u with
  |str x t =>
   have e:some x=some s:=h.1;cases e;exact⟨t,rfl⟩
  |_=>exact nomatch (show(none:Option Str)=some s from h.1)
 |[],_::_,h=>by simp at h
 |_::_,[],h=>by simp at h
theorem akD{K:PySem.W.Frag}{a:Addr}{ss:List Str}(h:K_ K a ss=true):Gn K a (ss.map V.str):=by
 unfold K_ at h;split at h
 .rename_i c bM its n sl e
  rw[Bool.and_eq_true,Bool.and_eq_true,decide_eq_true_iff,decide_eq_true_iff,decide_eq_true_iff]at h;exact⟨_,its,n,e,h.1,rfl,h.2.1,Zd h.2.2⟩
 .cases h
section
variable{X:Cx}{W:WX}{x:Str}{pos:Pos}
theorem I3{ss:List Str}{ds:List D}(h:∃a,X.mg x=some (.ref a)/\Gn X.K a (ss.map V.str))(e:ds=ss.map D.str:=by rfl)(hg:Gl X x:=by rfl)(hd:(x==("__debug__":Str))=false:=by decide):E X W (.Name x pos) (af (.tup ds)):=by
 subst e;obtain⟨a,h,t⟩:=h;exact L4 (v:=.ref a) hg h rfl (λρ H=>by rw[Rep];exact⟨a,_,rfl,.inr t,MO ss⟩) hd
end
end Z
namespace ZG
open PySem PySem.Spec GenW PyProof.Rows L2
theorem I4:∀(names:List (Str×NameKind)) (n:Nat) (acc:List (Str×Addr)) (p:Str×Addr),p∈cellsFrom n names acc->p∈acc\/(n<=p.2/\∃k,(p.1,k)∈names)
 |[],n,acc,p,h=>.inl h
 |(x,k)::r,n,acc,p,h=>by
  rw[cellsFrom]at h;split at h
  .rcases I4 r (n+1) _ p h with q|⟨q,Qg,hk⟩
   .rcases fQ.mp q with q|q
    .subst q;exact .inr ⟨Nat.le_refl _,k,ow⟩
    .exact .inl q
   .exact .inr ⟨by omega,Qg,iH _ hk⟩
  .rcases I4 r n _ p h with q|⟨q,Qg,hk⟩
   .exact .inl q
   .exact .inr ⟨q,Qg,iH _ hk⟩
theorem Qh:∀(names:List (Str×NameKind)) (n:Nat) (acc:List (Str×Addr)),(acc.Pairwise λx y=>x.2≠y.2)->(∀p∈acc,p.2<n)->(cellsFrom n names acc).Pairwise λx y=>x.2≠y.2
 |[],n,acc,h,_=>h
 |(x,k)::r,n,acc,h,hl=>by
  rw[cellsFrom];split
  .exact Qh r (n+1) _ (List.pairwise_cons.mpr ⟨λp hp=>um (hl p hp),h⟩) λp hp=>by
    rcases fQ.mp hp with q|q
    .subst q;exact uk n
    .exact Nat.lt_succ_of_lt (hl p q)
  .exact Qh r n _ h hl
structure Ej(N:List Str)(scope:Scope):Prop where
 kind:scope.kind=.function
 r':∀y∈scope.names,y.2≠.free
abbrev yW(scope:Scope)(n:Addr):List (Str×Addr):=cellsFrom (n+1) scope.names []
def k6(scope:Scope)(n:Addr):List Addr:=scope.names.filterMap λy=>(yW scope n).lookup y.1
theorem I5{scope:Scope}{n b:Addr}(h:b∈k6 scope n):∃x,(yW scope n).lookup x=some b:=by
 obtain⟨y,_,e⟩:=A9.mp h;exact⟨y.1,e⟩
theorem Qi{scope:Scope}{n b:Addr}{x:Str}(h:(yW scope n).lookup x=some b):b∈k6 scope n:=by
 rcases I4 _ _ _ _ (ju h)with q|⟨_,k,hk⟩
 .cases q
 .exact A9.mpr ⟨(x,k),hk,h⟩
theorem Ze{scope:Scope}{n b:Addr}{x:Str}(h:(yW scope n).lookup x=some b):n<b:=by
 rcases I4 _ _ _ _ (ju h)with q|⟨q,_⟩
 .cases q
 .exact q
theorem Qj{scope:Scope}{n b:Addr}(h:b∈k6 scope n):n<b:=by
 obtain⟨x,e⟩:=I5 h;exact Ze e
structure Ai(N:List Str)(scope:Scope)(env:Env)(n:Addr)(σ:L2.St)(h:Heap):Prop where
 loc:∃m,h.Ns n m/\∀(i:Nat) (x:Str) (v:V),N[i]?=some x->σ[i]?=some (some v)->Vis scope x->∃u,RelV v u/\Look env h m x u
 cell:∀x c,(yW scope n).lookup x=some c->∃v,h.IsCell c v
 len:σ.length=N.length
section
variable{P:Program}{w:World}{K:PySem.W.Frag}{mg:Str->Option Value}{base:Heap}{N:List Str}{qual:Str}{scope:Scope}{f:Addr}{cd:Value}{A:Around}{outer:List Env}{n:Addr}{s s':Shared}{H H':Hp}{pn pins:List (Addr×Obj)}{xe:Value->Shared->Prop}{σ:L2.St}
theorem akE(S:Ej N scope)(hd:A.handled=none)(bB:Env0 P w K mg base A outer s H)(hn:n<=s.heap.objs.size)(gU:∀b∈frs outer,b<n)(hb:base.objs.size<=n)(Ek:Ai N scope (envOfC qual scope n f cd) n σ s.heap)(dZ:H n=none)(gW:∀b∈k6 scope n,H b=none)
  (El:∀p∈pn++pins,s.heap.get? p.1=some p.2/\H p.1=none/\p.1≠n/\p.1∉frs outer/\∀v,p.2.data≠.cell v) :
  Inv (rx P w K mg base N qual scope f cd A outer n s H pn xe) pins σ H s where
 ok:={
  mod:=bB.mod
  kind:=S.kind
  glob:=rfl
  blt:=rfl
  above:=by
   show(tN n s.heap).objs.size<=n;rw[Qa hn];exact Nat.le_refl _
  inj:=λx y c h1 h2=>name_of_addr (Qh _ _ _ .nil (λp hp=>by cases hp)) (ju h1) (ju h2)
  has:=λx h=>by
   have h:scope.names.lookup x=some .cell\/scope.names.lookup x=some .free:=h;rcases h with h|h
   .exact cell_has h
   .exact absurd rfl (S.r' _ (ju h))
  cab:=λx c _ h=>by
   show(tN n s.heap).objs.size<=c;rw[Qa hn];exact jv (Ze h)
  hd:=λ_=>hd
  frames:=Around.frames_deeper bB.frames
  stk:=.inr ⟨rfl,rfl⟩
  exf:=λb h=>absurd (show b∈([]:List Addr)from h) (by simp)
  bs:=λb o e=>⟨Ae (mA (Heap.lt_size e) hb) (bB.bs b o e).1,(bB.bs b o e).2⟩
  bsz:=by
   show base.objs.size<=(tN n s.heap).objs.size;rw[Qa hn];exact hb
  noex:=λb o _ h=>absurd (show b∈([]:List Addr)from h) (by simp)
  exfs:=λb h=>absurd (show b∈([]:List Addr)from h) (by simp)
  funs:=Y4 bB.funs gU
  frf:=bB.frf }
 os:=rfl
 bare:=bB.bare
 base:={
  keep:=λb o e _ _ _=>(Qb e).2
  slot:=λb o e _ _ _=>⟨o.slots,(Qb e).2⟩
  free:=λb o _ h _=>h
  there:=λb o e _=>⟨o,(Qb e).2⟩
  tups:=λb xs h=>h
  frzs:=λb o u h=>h
  tbls:=λb ps h=>⟨#[],by rw[Array.append_empty];exact h⟩ }
 loc:=Ek.loc
 cell:=Ek.cell
 free:=dZ
 freeC:=λx c h=>gW c (Qi h)
 pin:=El
 hok:=bB.hok
 len:=Ek.len
theorem akF(I:Inv (rx P w K mg base N qual scope f cd A outer n s H pn xe) pins σ H' s'):Ai N scope (envOfC qual scope n f cd) n σ s'.heap/\H' n=none/\∀b∈k6 scope n,H' b=none :=
 ⟨⟨I.loc,I.cell,I.len⟩,I.free,λb hb=>by
  obtain⟨x,e⟩:=I5 hb;exact I.freeC x b e⟩
end
section
variable{X:Cx}{N:List Str}{qual:Str}{scope:Scope}{f:Addr}{cd:Value}{n:Addr}{own:List Addr}{s s1:Shared}{H H1:Hp}{W:WX}{pins:List (Addr×Obj)}{σ:L2.St}
theorem akG{jl:L2.St}{vm:List (Addr×Obj)}(S:Ej N scope)(hd:X.A.handled=none)(I:Inv X pins σ H s)(y:xF X pins n own H)(hn:n<=s.heap.objs.size)(hb:X.base.objs.size<=n)(Ek:Ai N scope (envOfC qual scope n f cd) n jl s.heap)(dZ:H n=none)(gW:∀b∈k6 scope n,H b=none)
  (El:∀p∈vm,s.heap.get? p.1=some p.2/\H p.1=none/\p.1≠n/\p.1∉frs X.stack/\∀v,p.2.data≠.cell v):Inv (fD X N qual scope f cd n own s H W) vm jl H s:=by
 refine IY.mpr (akE S hd ?_ hn y.fs hb Ek dZ gW λp hp=>?_)
 .have bB:=I.env0
  exact⟨bB.frames,bB.mod,bB.bs,bB.bsz,bB.funs,bB.frf,bB.hok,bB.bare⟩
 .rcases nh.mp hp with z|z
  .exact akq dZ p z
  .exact El p z
theorem akH{jl:L2.St}{vm:List (Addr×Obj)}(jm:Inv (fD X N qual scope f cd n own s H W) vm jl H1 s1):Ai N scope (envOfC qual scope n f cd) n jl s1.heap/\H1 n=none/\∀b∈k6 scope n,H1 b=none:=akF (IY.mp jm)
end
def akI(X:Cx)(cl:List Addr)(H:Hp)(h:Heap):Prop:=∀b∈cl,(∃o v,h.get? b=some o/\o.data=.cell v)/\H b=none/\b≠X.env.locals/\(∀x c,X.env.cells.lookup x=some c->c≠b)/\(b∈X.ex\/X.s_0.heap.objs.size<=b)
section
variable{X:Cx}{pins:List (Addr×Obj)}{σ:L2.St}{H:Hp}
structure Qk(X:Cx)(pins:List (Addr×Obj))(σ:L2.St)(H:Hp)(N:List Str)(qual:Str)(scope:Scope)(f:Addr)(cd:Value)(body:List Stmt)(vs:List V)(n a:Addr)(g:Nat)(s':Shared):Prop where
 old:Ei X n a
 I6:a<s'.heap.objs.size
 inv:Inv X pins σ H s'
 gen:s'.heap.IsGen a g
 at_:s'.gens[g]?=some (.fresh (.func body (envOfC qual scope n f cd)))
 fr:Ai N scope (envOfC qual scope n f cd) n (start N vs) s'.heap
 hn:H n=none
 ha:H a=none
 hc:∀b∈k6 scope n,H b=none
 pins:∀p∈X.pn++pins,p.1<n
end
section
variable{X:Cx}{pins:List (Addr×Obj)}{σ:L2.St}{H:Hp}{s:Shared}{f:Addr}{name qual:Str}{params:Arguments}{body:List Stmt}{scope:Scope}{cG kV doc pm c7 ct cL:Value}{an od:Option Addr}{hX:Array (Option Value)}{N ps:List Str}{us:List Value}{vs:List V}{args:Args}
theorem akJ(I:Inv X pins σ H s)(hd:X.A.handled=none)(tQ:X.A.depth<recursionLimit)(lk:X.K.lookup f=some ⟨cL,od,.func (PySem.W.fnOf name qual params body scope cG kV doc pm an c7 ct),hX⟩)(g9:PySem.W.codeIn X.K c7 qual=true)
  (Sc:GScope N ps scope) (hb:BindsTo s (PySem.W.fnOf name qual params body scope cG kV doc pm an c7 ct) args (ps.zip us)) (r:Vals vs us) (hl:vs.length=ps.length) :
  codeAny (model X.prog X.w) X.A (.call (.ref f) args) (λr s'=>∃(a:Addr) (g:Nat),r=.ok (.ret (.ref a))/\Qk X pins σ H N qual scope f c7 body vs s.heap.objs.size a g s') s:=by
 have bB:=I.env0;have KX:X.K.In s.heap:=I.kIn;have lim:s.heap.NoLimit:=I.nolimit;have Dk:∀y∈ps.zip us,scope.names.lookup y.1=some .local\/(scope.names.lookup y.1=some .cell/\((cellsFrom (s.heap.objs.size+1) scope.names []).lookup y.1).isSome=true):=fun⟨nn,v⟩ bD=>by
  rcases Sc.par nn (uo bD).1 with q|q
  .exact .inl q
  .exact .inr ⟨q,KO _ _ _ (.inl q)⟩
 refine codeAny_call_generator tQ (KX _ _ lk) rfl Sc.co Sc.gen rfl (KP KX g9) (hb _ _ _ _ ?_);refine wpAny_newFunctionEnv_cells Sc.kind Dk λenv he s1 x=>?_;subst he;have akK:s1.heap.NoLimit:=lim.keeps x.toInCall.keep;refine⟨akK,?_⟩;obtain⟨h1,tk,Zf,Aj⟩:=x.done;have os1:s1.os=s.os:=by rw[Zf]
 have akL:s1.gens=s.gens:=by rw[Zf]
 have akM:s.heap.objs.size<s1.heap.objs.size:=x.toInCall.ns.lt;have jm:=inv_startG (E:=λ_ _ _=>False) Sc hd bB hl r x;have I1:Inv X pins σ H s1:=I.call' (ch:=[]) os1 (Un.kept x.toInCall.keep) (I.hok.kept x.toInCall.keep) (by rw[akL];exact I.bare) λb z=>by simp at z
 have main:∀(go:Obj) (nm hO:Value) (q_:Nat),go.cls=.type "generator"->go.data=.fields #[.int s1.gens.size 0,nm,hO]->go.slots = #[]->(∀h:Heap,(h.push go).get? h.objs.size=some go) ->
   Qk X pins σ H N qual scope f c7 body vs s.heap.objs.size s1.heap.objs.size s1.gens.size { s1 with gens:=s1.gens.push (.fresh (.func body (envOfC qual scope s.heap.objs.size f c7))),toks:=q_,heap:=s1.heap.push go }:=by
  intro go nm hO q_ akN akO k5 Zg;have kp:∀b o,s1.heap.get? b=some o->(s1.heap.push go).get? b=some o:=λb o e=>Heap.get?_push_of_some _ e;have zy:∀{c:Addr} {v:Option Value},s1.heap.IsCell c v->(s1.heap.push go).IsCell c v:=λ{c v} ⟨o,e,r⟩=>⟨o,kp _ _ e,r⟩
  refine⟨akC I akM,Heap.lt_size (Zg s1.heap),?_,⟨go,nm,hO,Zg _,akN,akO,k5⟩,Array.getElem?_push_size ..,⟨?_,?_,jm.len⟩,I.hok.fresh (Nat.le_refl _),I1.hok.fresh (Nat.le_refl _),λb hb=>I.hok.fresh (jv (Qj hb)),λp hp=>?_⟩
  .exact I1.call' (ch:=[]) rfl (Un.kept kp) (I1.hok.kept kp) (AllBare.push I1.bare rfl) λb z=>by simp at z
  .obtain⟨m,⟨o,es,eP,aY,bY⟩,look⟩:=jm.loc
   refine⟨m,⟨o,es,eP,kp _ _ aY,bY⟩,λi y v hi bP bD=>?_⟩;obtain⟨u,cU,lk⟩:=look i y v hi bP bD;refine⟨u,cU,?_⟩;rcases lk with e|⟨k,c,hc,ic⟩
   .exact .inl e
   .exact .inr ⟨k,c,hc,zy ic⟩
  .intro y c hc
   obtain⟨v,ic⟩:=jm.cell y c hc;exact⟨v,zy ic⟩
  .exact Heap.lt_size (I.pin p hp).1
 exact⟨_,_,rfl,main _ _ _ _ rfl rfl rfl λh=>Heap.get?_push_size _ rfl⟩
end
abbrev xJ:=Z.aT->Z.Store->Z.Out (List Z.D×xG×(Nat->Z.Store->Prop)×(Nat->Z.Store->Z.Store))
section
variable{M:Model}{A:Around}{F:nZ}{c:Code}{fs:List Frame}{s:Shared}{env:Env}{K:Flow->Sem PySem.Fin}{J:Value->Sem PySem.Fin}{gd:Bool->Bool}{lv:List Value->List Value}
theorem akP{test:Expr}{body orelse:List Stmt}{pos:Pos}
  (h:∀p,cE M A (.whileLoop test body orelse env) (M.den (.whileLoop test body orelse env))
   (.ret (λr=>((match r with|.ok f=>(.pure f:Sem Flow)|.error e=>.raise e).onRaise (L2.cameBack env)).wrap K J gd lv) none (gd false) (lv []) c p []::fs) s F) :
  cE M A c ((exec (.While test body orelse pos) env).wrap K J gd lv) fs s F :=
 P8 (ake h)
end
section
variable{prog:Program}{w:World}{A:Around}{F:nZ}{fs:List Frame}{s:Shared}{env:Env}
theorem akQ{test:Expr}{body:List Stmt}
  (h:wpAny (model prog w) (A.over (.whileLoop test body [] env) fs) (isTrue test env (eval test env)) (λb s' =>
    if b=true then
     cE (model prog w) A (.whileLoop test body [] env) ((execs body env).wrap (λf=>match f with
      | .next|.cont=>.pure (.again (.whileLoop test body [] env))
      | .brk=>.pure (.done .next)
      | .ret v=>.pure (.done (.ret v))) (xE env) id id) fs s' F
    else cE (model prog w) A (.whileLoop test body [] env) (leafOf (.ok .next)) fs s' F)
   (λx s'=>cE (model prog w) A (.whileLoop test body [] env) (xE env x) fs s' F) s) :
  cE (model prog w) A (.whileLoop test body [] env) ((model prog w).den (.whileLoop test body [] env)) fs s F:=by
 show cE _ A _ ((whileTurn test body [] env).onRaise (λx=>do noteFrame x env;theTreesLotGoes x)) fs s F;unfold whileTurn;rw[Sem.onRaise_eq_wrap,Sem.bind_eq_wrap',Sem.wrap_wrap];refine rv (wpAny_mono h (λb s' hb=>?_) λx s' hx=>?_)
 .cases b with
  |true =>
   rw[if_pos rfl]at hb;show cE _ A _ (Sem.wrap _ _ _ _ (if true=true then _ else _)) fs s' F;rw[if_pos rfl,Sem.bind_eq_wrap',Sem.wrap_wrap];rw[Sem.wrap_congr (execs body env) _ _ (K':=λf=>match f with
      | .next|.cont=>.pure (.again (.whileLoop test body [] env))
      | .brk=>.pure (.done .next)
      | .ret v=>.pure (.done (.ret v))) (H':=xE env)
    (λf=>by cases f<;>rfl)
    (λe=>by first|exact Sem.bind_eq_wrap _ _|(show(do noteFrame e env;theTreesLotGoes e:Sem Unit).bind (λ_=>.raise e)=_;rw[Sem.bind_eq_wrap]))]
   exact hb
  |false =>
   rw[if_neg kK]at hb;show cE _ A _ (Sem.wrap _ _ _ _ (if false=true then _ else _)) fs s' F;rw[if_neg kK];exact hb
 .show cE _ A _ ((do noteFrame x env;theTreesLotGoes x:Sem Unit).bind (λ_=>(.raise x:Sem PySem.Fin))) fs s' F
  rw[Sem.bind_eq_wrap];exact hx
end
structure mn where
 pre:List Stmt
 test:Expr
 As:List Stmt
 Af:Expr
 Ag:Pos
 pos:Pos
 xI:List Stmt
 Zh:Pos
def mn.Qf(h:mn):Stmt:=.Expr (.Yield (some h.Af) h.Ag) h.pos
def mn.loop(h:mn):List Stmt:=h.As++h.Qf::h.xI
def mn.body(h:mn):List Stmt:=h.pre++[.While h.test h.loop [] h.Zh]
abbrev Zi(t:Expr)(body:List Stmt)(env:Env):Flow->Sem PySem.Fin:=λfl=>match fl with
 | .next|.cont=>.pure (.again (.whileLoop t body [] env))
 | .brk=>.pure (.done .next)
 | .ret v=>.pure (.done (.ret v))
structure I7(C:Cx)(W:WX)(sh:mn)(fT:Z.cJ)(fA:Z.SX)(fE:Z.aM)(fB:Z.SX):Prop where
 t:Z.kO C W sh.test fT
 A:Z.gm C W sh.As fA
 e:Z.E C W sh.Af fE
 B:Z.gm C W sh.xI fB
def n0(fT:Z.cJ)(fA:Z.SX)(fE:Z.aM)(ds:List Z.D)(slA slY:Nat->Z.aT)(j:Nat)(S ao:Z.Store):Prop :=
 if h:j<ds.length then fT (slA j) S=.ok true S/\fA (slA j) S=.nx (slY j) ao/\fE (slY j) ao=.ok ds[j] ao else fT (slA j) S=.ok false S/\ao=S
structure Ql(gC:Nat->Z.Store->Prop)(U:Nat->Z.Store->Z.Store)(fT:Z.cJ)(fA:Z.SX)(fE:Z.aM)(fB:Z.SX)(ds:List Z.D)(slA slY:Nat->Z.aT):Prop where
 b:∀i,i<ds.length->∀S,gC (i+1) S->∃S1,fB (slY i) S=.nx (slA (i+1)) S1/\n0 fT fA fE ds slA slY (i+1) S1 (U (i+1) S)
section
variable{X:Cx}{N:List Str}{qual:Str}{scope:Scope}{f:Addr}{cd:Value}{n:Addr}{own:List Addr}{s s1:Shared}{H H1:Hp}{W:WX}{sh:mn}{F:nZ}{p:Pos}
theorem I8:X.A.in1.over (.func sh.body (envOfC qual scope n f cd)) []=X.A.in1.deeper (envOfC qual scope n f cd):=over_func
theorem Em:X.A.in1.over (.whileLoop sh.test sh.loop [] (envOfC qual scope n f cd)) (lC (envOfC qual scope n f cd) sh.body p)=X.A.in1.deeper (envOfC qual scope n f cd):=(over_loop rfl rfl).trans I8
theorem I9(hF:∀e s2,ry (rz X N qual scope f cd n own s H) W e s2->F (.ret (.error e)) s2){e:Value}(h:((fD X N qual scope f cd n own s H W)).xe e s1):cE (model X.prog X.w) X.A.in1 (.func sh.body (envOfC qual scope n f cd)) (IZ (envOfC qual scope n f cd) e) [] s1 F:=by
 refine rv ?_;rw[I8];exact wpAny_mono h (λ_ s2 q=>Y0 (.error e) (hF e s2 q)) λ_ _ z=>z.elim
theorem Zj(hF:∀e s2,ry (rz X N qual scope f cd n own s H) W e s2->F (.ret (.error e)) s2){e:Value}(h:cameBackBy (model X.prog X.w) (X.A.in1.deeper (envOfC qual scope n f cd)) (envOfC qual scope n f cd) ((fD X N qual scope f cd n own s H W)).xe e s1):cE (model X.prog X.w) X.A.in1 (.func sh.body (envOfC qual scope n f cd)) (Y_ (envOfC qual scope n f cd) (.error e)) [] s1 F:=by
 show cE _ _ _ (((L2.cameBack (envOfC qual scope n f cd) e).bind λ_=>(Sem.raise e:Sem Flow)).wrap (Y9 (envOfC qual scope n f cd)) (IZ (envOfC qual scope n f cd)) id id) _ _ _;rw[Sem.bind_eq_wrap,Sem.wrap_wrap];refine rv ?_;rw[I8];exact wpAny_mono h (λ_ s2 hx=>I9 hF hx) λx s2 hx=>I9 hF hx
theorem Zk(hF:∀e s2,ry (rz X N qual scope f cd n own s H) W e s2->F (.ret (.error e)) s2){e:Value}(h:((fD X N qual scope f cd n own s H W)).xe e s1):cE (model X.prog X.w) X.A.in1 (.whileLoop sh.test sh.loop [] (envOfC qual scope n f cd)) (xE (envOfC qual scope n f cd) e) (lC (envOfC qual scope n f cd) sh.body p) s1 F:=by
 have hp:PassesOwn (model X.prog X.w) (X.A.in1.deeper (envOfC qual scope n f cd)) (envOfC qual scope n f cd) ((fD X N qual scope f cd n own s H W)).xe:=Y7;refine rv ?_;rw[Em];refine wpAny_bind (wpAny_mono (hp e s1 h) (λ_ s2 xj=>wpAny_theTreesLotGoes ?_) λy s2 xj=>?_)
 .exact P9 (.error e) (Zj hF xj)
 .exact P9 (.error y) (Zj hF xj)
theorem akR(h:F (.ret (.ok (.ret .none))) s1):cE (model X.prog X.w) X.A.in1 (.whileLoop sh.test sh.loop [] (envOfC qual scope n f cd)) (leafOf (.ok .next)) (lC (envOfC qual scope n f cd) sh.body p) s1 F :=
 P9 (.ok .next) (Y0 (.ok (.ret .none)) h)
def Zm(X:Cx)(tR:Env)(sh:mn)(p:Pos)(gs:GenState):Prop :=
 ∃(k:Resume->Sem PySem.Fin) (l:List Value) (dX:Pos) (cl:Bool),gs=.suspended k l (.whileLoop sh.test sh.loop [] tR) dX (lC tR sh.body p) cl/\gs.bare=true /\
  ∀(vk:nZ) (s2:Shared),cE (model X.prog X.w) X.A.in1 (.whileLoop sh.test sh.loop [] tR) ((execs sh.xI tR).wrap (Zi sh.test sh.loop tR) (xE tR) id id) (lC tR sh.body p) s2 vk ->
   cE (model X.prog X.w) X.A.in1 (.whileLoop sh.test sh.loop [] tR) (k (.send .none)) (lC tR sh.body p) s2 vk
variable{fT:Z.cJ}{fA fB:Z.SX}{fE:Z.aM}{ds:List Z.D}{slA slY:Nat->Z.aT}{gC:Nat->Z.Store->Prop}{U:Nat->Z.Store->Z.Store}{ρ aA:List Addr}{S ao:Z.Store}
structure I_(X:Cx)(N:List Str)(qual:Str)(scope:Scope)(f:Addr)(cd:Value)(n:Addr)(own:List Addr)(s:Shared)(H:Hp)(W:WX)(sh:mn)(ds:List Z.D)(slY:Nat->Z.aT)(ρ:List Addr)(ao:Z.Store)(j:Nat)(F:nZ):Prop where
 fe:∀e s2,ry (rz X N qual scope f cd n own s H) W e s2->F (.ret (.error e)) s2
 fd:j=ds.length->∀s2 kQ aO aD,Inv (fD X N qual scope f cd n own s H W) [] kQ aD s2->Z.Ext ρ H aO aD->Z.aN X.K X.mg aO aD ao->F (.ret (.ok (.ret .none))) s2
 Ee:∀(hl:j<ds.length) p v g l k c dX fs s2 x kQ aO aD,Inv (fD X N qual scope f cd n own s H W) [] kQ aD s2->RelV x v->Z.Ext ρ H aO aD->Z.aN X.K X.mg aO aD ao->Z.cH X.K X.mg aO aD kQ (slY j)->Z.Rep X.K X.mg aO aD ds[j] x ->
   (End.susp v g l k c dX fs).quiet=true->Zm X (envOfC qual scope n f cd) sh p (End.susp v g l k c dX fs).genState->F (.susp v g l k c dX fs) s2
theorem Zo(hc:I7 (fD X N qual scope f cd n own s H W) W sh fT fA fE fB)(mb:scope.isCoroutine=false)(hint:interactive (envOfC qual scope n f cd)=false)
  {j:Nat} (cK:j<=ds.length) (hh:n0 fT fA fE ds slA slY j S ao) (vn:I_ X N qual scope f cd n own s H W sh ds slY ρ ao j F)
  {iO:L2.St} (I1:Inv (fD X N qual scope f cd n own s H W) [] iO H1 s1) (x1:Z.Ext ρ H aA H1) (aF:Z.aN X.K X.mg aA H1 S) (r1:Z.cH X.K X.mg aA H1 iO (slA j)) :
  cE (model X.prog X.w) X.A.in1 (.whileLoop sh.test sh.loop [] (envOfC qual scope n f cd)) ((model X.prog X.w).den (.whileLoop sh.test sh.loop [] (envOfC qual scope n f cd))) (lC (envOfC qual scope n f cd) sh.body p) s1 F:=by
 have ex:∀{e:Value} {s2:Shared},((fD X N qual scope f cd n own s H W)).xe e s2->cE (model X.prog X.w) X.A.in1 (.whileLoop sh.test sh.loop [] (envOfC qual scope n f cd)) (xE (envOfC qual scope n f cd) e) (lC (envOfC qual scope n f cd) sh.body p) s2 F:=λh=>Zk vn.fe h;refine akQ ?_;rw[Em];unfold n0 at hh;by_cases hl:j<ds.length
 .rw[dif_pos hl]at hh
  obtain⟨h1,h2,aH⟩:=hh;refine wpAny_mono (hc.t.run [] s1 iO H1 (λb H'=>b=true/\∃av,Z.Ext aA H1 av H'/\Z.aN X.K X.mg av H' S) I1 ⟨aA,S,slA j,aF,r1,?_⟩) (λb s4 bT=>?_) λe s4 h=>ex h
  .rw[h1]
   exact λav H' y dE=>⟨rfl,av,y,dE⟩
  .obtain⟨kl,D0,rfl,uD,c0,sg⟩:=bT
   rw[if_pos rfl];have dk:=r1.ext c0;refine Y' sh.As ?_;refine rv ?_;rw[Em];refine wpAny_mono (hc.A.run _ s4 iO kl { nx:=λbA H'=>∃av,Z.Ext uD kl av H'/\Z.aN X.K X.mg av H' ao/\Z.cH X.K X.mg av H' bA (slY j),rt:=λ_ _=>False } D0 ⟨uD,S,slA j,sg,dk,?_⟩) (λfl s5 cZ=>?_) λe s5 h=>ex h
   .rw[h2]
    exact λbA av H' y dE b2=>⟨av,y,dE,b2⟩
   cases fl with
   |next =>
    obtain⟨wu,qQ,mX,nz,cB,lF,iP⟩:=cZ;refine Y1 ?_;refine akh rfl rfl rfl ?_ mb hint;rw[Em];refine wpAny_mono (hc.e.run _ s5 wu qQ (λv H'=>∃av,Z.Ext nz qQ av H'/\Z.aN X.K X.mg av H' ao/\Z.Rep X.K X.mg av H' ds[j] v) mX ⟨nz,ao,slY j,lF,iP,?_⟩) (λv lY oX=>?_) λe lY h=>ex h
    .rw[aH]
     exact λv av H' y dE b2=>⟨av,y,dE,b2⟩
    .obtain⟨akS,hI,xK,aW,qY,b7,sS,aJ⟩:=oX
     intro g l k dX hq qj;exact vn.Ee hl p v g l k _ dX _ lY akS wu qY hI xK aW (x1.trans (c0.trans (cB.trans b7))) sS (iP.ext b7) aJ hq ⟨k,l,dX,_,rfl,End.bare_of_quiet hq,λvk s2 hg=>qj .none vk s2 hg⟩
   |brk=>obtain⟨_,_,_,z⟩:=cZ;exact z.elim
   |cont=>obtain⟨_,_,_,z⟩:=cZ;exact z.elim
   |ret v=>obtain⟨_,_,_,_,_,z⟩:=cZ;exact z.elim
 .rw[dif_neg hl]at hh
  obtain⟨h1,rfl⟩:=hh;have akT:j=ds.length:=by omega
  refine wpAny_mono (hc.t.run [] s1 iO H1 (λb H'=>b=false/\∃av,Z.Ext aA H1 av H'/\Z.aN X.K X.mg av H' ao) I1 ⟨aA,ao,slA j,aF,r1,?_⟩) (λb s4 bT=>?_) λe s4 h=>ex h
  .rw[h1]
   exact λav H' y dE=>⟨rfl,av,y,dE⟩
  .obtain⟨kl,D0,rfl,uD,c0,sg⟩:=bT
   rw[if_neg kK];exact akR (vn.fd akT s4 iO uD kl D0 (x1.trans c0) sg)
theorem akU(hc:I7 (fD X N qual scope f cd n own s H W) W sh fT fA fE fB)(L:Ql gC U fT fA fE fB ds slA slY)(mb:scope.isCoroutine=false)(hint:interactive (envOfC qual scope n f cd)=false){i:Nat}(hi:i<ds.length)(kE:gC (i+1) S)
  (vn:I_ X N qual scope f cd n own s H W sh ds slY ρ (U (i+1) S) (i+1) F)
  {iO:L2.St} (I1:Inv (fD X N qual scope f cd n own s H W) [] iO H s) (aF:Z.aN X.K X.mg ρ H S) (r1:Z.cH X.K X.mg ρ H iO (slY i)) :
  cE (model X.prog X.w) X.A.in1 (.whileLoop sh.test sh.loop [] (envOfC qual scope n f cd)) ((execs sh.xI (envOfC qual scope n f cd)).wrap (Zi sh.test sh.loop (envOfC qual scope n f cd)) (xE (envOfC qual scope n f cd)) id id) (lC (envOfC qual scope n f cd) sh.body p) s F:=by
 obtain⟨S1,hb,hh⟩:=L.b i hi S kE;refine rv ?_;rw[Em];refine wpAny_mono (hc.B.run _ s iO H { nx:=λbA H'=>∃av,Z.Ext ρ H av H'/\Z.aN X.K X.mg av H' S1/\Z.cH X.K X.mg av H' bA (slA (i+1)),rt:=λ_ _=>False } I1 ⟨ρ,S,slY i,aF,r1,?_⟩) (λfl s5 cZ=>?_) λe s5 h=>Zk vn.fe h
 .rw[hb]
  exact λbA av H' y dE b2=>⟨av,y,dE,b2⟩
 cases fl with
 |next =>
  obtain⟨wu,qQ,mX,nz,cB,lF,iP⟩:=cZ;refine akf rfl ?_;exact Zo hc mb hint hi hh vn mX cB lF iP
 |brk=>obtain⟨_,_,_,z⟩:=cZ;exact z.elim
 |cont=>obtain⟨_,_,_,z⟩:=cZ;exact z.elim
 |ret v=>obtain⟨_,_,_,_,_,z⟩:=cZ;exact z.elim
variable{fG:Z.SX}{sl0:Z.aT}
theorem akV(hpre:Z.gm (fD X N qual scope f cd n own s H W) W sh.pre fG)(hc:I7 (fD X N qual scope f cd n own s H W) W sh fT fA fE fB)(mb:scope.isCoroutine=false)(hint:interactive (envOfC qual scope n f cd)=false)
  (I':∀e s2,ry (rz X N qual scope f cd n own s H) W e s2->F (.ret (.error e)) s2)
  (vo:(∃S1 S2,fG sl0 S=.nx (slA 0) S1/\n0 fT fA fE ds slA slY 0 S1 S2/\I_ X N qual scope f cd n own s H W sh ds slY ρ S2 0 F) \/
   (∃e sl,fG sl0 S=.ex e sl S/\∀C dd kQ aO aD,Z.Ext ρ H aO aD->Z.aN X.K X.mg aO aD S->Z.oA X.K X.mg aO aD e C dd->W C dd kQ aD))
  {iO:L2.St} (I1:Inv (fD X N qual scope f cd n own s H W) [] iO H s) (aF:Z.aN X.K X.mg ρ H S) (r1:Z.cH X.K X.mg ρ H iO sl0) :
  cE (model X.prog X.w) X.A.in1 (.func sh.body (envOfC qual scope n f cd)) ((model X.prog X.w).den (.func sh.body (envOfC qual scope n f cd))) [] s F:=by
 refine akj ?_;refine Y' sh.pre ?_;refine rv ?_;rw[I8];rcases vo with⟨S1,S2,aw,hh,vn⟩|⟨e,sl,aw,sq⟩
 .refine wpAny_mono (hpre.run _ s iO H { nx:=λbA H'=>∃av,Z.Ext ρ H av H'/\Z.aN X.K X.mg av H' S1/\Z.cH X.K X.mg av H' bA (slA 0),rt:=λ_ _=>False } I1 ⟨ρ,S,sl0,aF,r1,?_⟩) (λfl s5 cZ=>?_) λe s5 h=>I9 I' h
  .rw[aw]
   exact λbA av H' y dE b2=>⟨av,y,dE,b2⟩
  cases fl with
  |next =>
   obtain⟨wu,qQ,mX,nz,cB,lF,iP⟩:=cZ;refine Y1 ?_;refine akP λp=>?_;exact Zo hc mb hint (jW _) hh vn mX cB lF iP
  |brk=>obtain⟨_,_,_,z⟩:=cZ;exact z.elim
  |cont=>obtain⟨_,_,_,z⟩:=cZ;exact z.elim
  |ret v=>obtain⟨_,_,_,_,_,z⟩:=cZ;exact z.elim
 .refine wpAny_mono (hpre.run _ s iO H { nx:=λ_ _=>False,rt:=λ_ _=>False } I1 ⟨ρ,S,sl0,aF,r1,?_⟩) (λfl s5 cZ=>?_) λe s5 h=>I9 I' h
  .rw[aw]
   exact λC dd bA av H' y dE b2 hx=>sq C dd bA av H' y dE hx
  .cases fl with
   |next=>obtain⟨_,_,_,z⟩:=cZ;exact z.elim
   |brk=>obtain⟨_,_,_,z⟩:=cZ;exact z.elim
   |cont=>obtain⟨_,_,_,z⟩:=cZ;exact z.elim
   |ret v=>obtain⟨_,_,_,_,_,z⟩:=cZ;exact z.elim
end
structure tS where
 N:List Str
 qual:Str
 scope:Scope
 f:Addr
 cd:Value
 n:Addr
 a:Addr
 g:Nat
 sh:mn
abbrev tS.ev(q:tS):Env:=envOfC q.qual q.scope q.n q.f q.cd
abbrev tS.Zq(q:tS):Eh:=⟨q.N,q.qual,q.scope,q.f,q.cd,q.n,q.a,q.g,⟨[],q.sh.test,q.sh.test,[],q.sh.Af,q.sh.Ag,q.sh.pos,[],q.sh.Zh⟩⟩
structure tT where
 ds:List Z.D
 fin:xG
 slA:Nat->Z.aT
 slY:Nat->Z.aT
 sl0:Z.aT
 gC:Nat->Z.Store->Prop
 U:Nat->Z.Store->Z.Store
def o1(X:Cx)(q:tS)(m:tT)(kn:List Addr)(fL:Hp):aku:=λi fp ρ H s =>
 Z.Ext kn fL ρ H/\H q.n=none/\H q.a=none/\s.heap.IsGen q.a q.g/\fp=[q.a,q.n]/\∃jl,Ai q.N q.scope q.ev q.n jl s.heap/\(∀b∈k6 q.scope q.n,H b=none/\fL b=none)/\∃gs,s.gens[q.g]?=some gs /\
  ((i=0/\gs=.fresh (.func q.sh.body q.ev)/\Z.cH X.K X.mg ρ H jl m.sl0) \/
   (∃k p,i=k+1/\k<m.ds.length/\Zm X q.ev q.sh p gs/\Z.cH X.K X.mg ρ H jl (m.slY k)))
structure En(X:Cx)(q:tS)(m:tT)(fG:Z.SX)(fT:Z.cJ)(fA:Z.SX)(fE:Z.aM)(fB:Z.SX):Prop where
 sc:Ej q.N q.scope
 co:q.scope.isCoroutine=false
 int:interactive q.ev=false
 pre:∀own s H W,Z.gm (fD X q.N q.qual q.scope q.f q.cd q.n own s H W) W q.sh.pre fG
 pc:∀own s H W,I7 (fD X q.N q.qual q.scope q.f q.cd q.n own s H W) W q.sh fT fA fE fB
 pl:((∀S,m.gC 0 S->∃S1,fG m.sl0 S=.nx (m.slA 0) S1/\n0 fT fA fE m.ds m.slA m.slY 0 S1 (m.U 0 S))/\Ql m.gC m.U fT fA fE fB m.ds m.slA m.slY/\m.fin=.done) \/
  (m.ds=[]/\∃e,m.fin=.ex e/\∀S,m.gC 0 S->∃sl,fG m.sl0 S=.ex e sl S)
section
variable{X:Cx}{q:tS}{m:tT}{kn:List Addr}{fL:Hp}{fG:Z.SX}{fT:Z.cJ}{fA:Z.SX}{fE:Z.aM}{fB:Z.SX}{i:Nat}{fp ρ:List Addr}{H:Hp}{s:Shared}{pins:List (Addr×Obj)}{σ:L2.St}{S:Z.Store}{W:WX}{F:nZ}
theorem Zr(d:En X q m fG fT fA fE fB)(o:Old X fL q.n q.a)(hd:X.A.handled=none)(hi:i<=m.ds.length)(kE:m.gC i S)(t:o1 X q m kn fL i fp ρ H s)(I:Inv X pins σ H s)(w:Z.aN X.K X.mg ρ H S)(hp:∀p∈X.pn++pins,p.1∉fp)
  (I':xF X pins q.n [] H->∀e s2,ry (rz X q.N q.qual q.scope q.f q.cd q.n [] (s.setGen q.g .running) H) W e s2->F (.ret (.error e)) s2)
  (akW:∀e,m.fin=.ex e->i=m.ds.length->∀C dd kQ aO aD,Z.Ext ρ H aO aD->Z.aN X.K X.mg aO aD S->Z.oA X.K X.mg aO aD e C dd->W C dd kQ aD)
  (lG:m.fin=.done->xF X pins q.n [] H->I_ X q.N q.qual q.scope q.f q.cd q.n [] (s.setGen q.g .running) H W q.sh m.ds m.slY ρ (m.U i S) i F) :
  ∃gs,s.gens[q.g]?=some gs/\P' (model X.prog X.w) X.A.in1 gs (s.setGen q.g .running) F:=by
 obtain⟨oS,hn,ha,ml,rfl,jl,gU,j',gs,k5,vo⟩:=t;refine⟨gs,k5,?_⟩;have ko:Inv X pins σ H (s.setGen q.g .running):=Eg I rfl rfl (allBare_setGen I.bare rfl);have eR:q.n<=(s.setGen q.g .running).heap.objs.size:=by
  obtain⟨mm,fV,_⟩:=gU.loc;exact jv fV.lt
 have y:xF X pins q.n [] H:=aky (q:=q.Zq) o oS w hn hp (by simp);have I1:Inv (fD X q.N q.qual q.scope q.f q.cd q.n [] (s.setGen q.g .running) H W) [] jl H (s.setGen q.g .running):=akG d.sc hd ko y eR o.bs gU hn (λb hb=>(j' b hb).1) (λp hp=>by cases hp);rcases vo with⟨rfl,rfl,r0⟩|⟨k,p,rfl,hk,qj,Qm⟩
 .refine akV (hpre:=d.pre _ _ _ _) (hc:=d.pc _ _ _ _) (ds:=m.ds) (slA:=m.slA) (slY:=m.slY) d.co d.int (I' y) ?_ I1 w r0
  rcases d.pl with⟨h1,L,hf⟩|⟨h1,e,h2,aH⟩
  .obtain⟨S1,aw,hh⟩:=h1 S kE
   exact .inl ⟨S1,_,aw,hh,lG hf y⟩
  .obtain⟨sl,aw⟩:=aH S kE
   exact .inr ⟨e,sl,aw,λC dd kQ aO aD=>akW e h2 (by rw[h1];rfl) C dd kQ aO aD⟩
 .obtain⟨kk,l,dX,cl,rfl,aw8,kc⟩:=qj
  rcases d.pl with⟨h1,L,hf⟩|⟨h1,_⟩
  .exact kc F _ (akU (d.pc _ _ _ _) L d.co d.int hk kE (lG hf y) I1 w Qm)
  .rw[h1]at hk
   simp at hk
theorem akX(o:Old X fL q.n q.a)(t:o1 X q m kn fL i fp ρ H s)(I:Inv X pins σ H s):(∃g,s.heap.IsGen q.a g)/\(∀b∈fp,(∃o,s.heap.get? b=some o/\∀v,o.data≠.cell v)/\H b=none/\b≠X.env.locals/\b∉X.fs)/\akI X (k6 q.scope q.n) H s.heap:=by
 obtain⟨oS,hn,ha,ml,rfl,jl,gU,j',gs,k5,vo⟩:=t;have young:∀b,q.n<=b->b∉X.fs:=λb hb=>λz=>absurd (mA (o.I0 b z) hb) (ni _);have akY:∃o,s.heap.get? q.a=some o/\∀v,o.data≠.cell v:=by
  obtain⟨o,nm,hO,aY,_,hd,_⟩:=ml;exact⟨o,aY,λv z=>by rw[hd]at z;cases z⟩
 have on:∃o,s.heap.get? q.n=some o/\∀v,o.data≠.cell v:=by
  obtain⟨mm,⟨o,es,eP,aY,hd,_⟩,_⟩:=gU.loc;exact⟨o,aY,λv z=>by rw[hd]at z;cases z⟩
 refine⟨⟨q.g,ml⟩,λb hb=>?_,λb hb=>?_⟩;rotate_left
 .obtain⟨x,hx⟩:=I5 hb
  obtain⟨v,ob,aY,bP⟩:=gU.cell x b hx;refine⟨⟨ob,_,aY,bP⟩,(j' b hb).1,λz=>?_,λy c hc=>h_ (qE (o.tP y c hc) (Qj hb)),o.s0 b (jv (Qj hb)) (j' b hb).2⟩;obtain⟨mm,⟨e6,es,eP,mS,mG,_⟩,_⟩:=I.loc;rw[<-z,aY]at mS;cases mS;rw[bP]at mG;cases mG
 simp only[List.mem_cons,gM,or_false]at hb;rcases hb with rfl|rfl
 .exact⟨akY,ha,g8 o.loc.2,young _ (jv o.na)⟩
 .exact⟨on,hn,g8 o.loc.1,young _ (Nat.le_refl _)⟩
theorem akZ(t:o1 X q m kn fL i fp ρ H s):q.a∈fp/\q.n∈fp:=by
 obtain⟨_,_,_,_,rfl,_⟩:=t;simp
theorem ak0{av:List Addr}{H':Hp}{s':Shared}(t:o1 X q m kn fL (i+1) fp ρ H s)(x:Z.Ext ρ H av H')(gF:∀b∈fp,H' b=none)(hk:akt fp s s')(Qn:∀b∈k6 q.scope q.n,H' b=none)(Zt:∀b∈k6 q.scope q.n,∀o,s.heap.get? b=some o->s'.heap.get? b=some o):o1 X q m kn fL (i+1) fp av H' s':=by
 have hm:=akZ t;obtain⟨oS,hn,ha,ml,Qo,jl,gU,j',gs,k5,vo⟩:=t;refine⟨oS.trans x,gF _ hm.2,gF _ hm.1,?_,Qo,jl,⟨?_,?_,gU.len⟩,λb hb=>⟨Qn b hb,(j' b hb).2⟩,?_⟩
 .obtain⟨o,nm,hO,aY,r⟩:=ml
  exact⟨o,nm,hO,hk.1 _ hm.1 o aY,r⟩
 .obtain⟨mm,⟨o,es,eP,aY,r⟩,look⟩:=gU.loc
  refine⟨mm,⟨o,es,eP,hk.1 _ hm.2 o aY,r⟩,λi x v h1 h2 aH=>?_⟩;obtain⟨u,cU,lk⟩:=look i x v h1 h2 aH;refine⟨u,cU,?_⟩;rcases lk with e|⟨k,c,hc,cL,eJ,qa⟩
  .exact .inl e
  .exact .inr ⟨k,c,hc,cL,Zt c (Qi hc) cL eJ,qa⟩
 .intro x c hc
  obtain⟨v,cL,eJ,qa⟩:=gU.cell x c hc;exact⟨v,cL,Zt c (Qi hc) cL eJ,qa⟩
 .rcases vo with⟨z,_⟩|⟨k,p,e,c6,qj,Qm⟩
  .omega
  .refine⟨gs,?_,.inr ⟨k,p,e,c6,qj,Qm.ext x⟩⟩
   obtain⟨kk,l,dX,cl,rfl,_⟩:=qj;exact hk.2 _ _ k5 rfl
theorem ak1(d:En X q m fG fT fA fE fB)(o:Old X fL q.n q.a)(hd:X.A.handled=none)(vl:X.A.depth<recursionLimit)(hi:i<m.ds.length)(kE:m.gC i S)(t:o1 X q m kn fL i fp ρ H s)(I:Inv X pins σ H s)(w:Z.aN X.K X.mg ρ H S)(hp:∀p∈X.pn++pins,p.1∉fp) :
  wpAny (model X.prog X.w) X.A (pyNext (.ref q.a)) (λr s1=>∃u x av H' Zu,r=some u/\RelV x u/\Inv X pins σ H' s1/\Z.Ext ρ H av H'/\Z.aN X.K X.mg av H' (m.U i S)/\Z.Rep X.K X.mg av H' m.ds[i] x/\o1 X q m kn fL (i+1) Zu av H' s1/\∀p∈X.pn++pins,p.1∉Zu) X.xe s:=by
 have ml:=t.2.2.2.1;have ha:=t.2.2.1;have oS:=t.1;have Qo:=t.2.2.2.2.1;have Ja:∀b∈k6 q.scope q.n,fL b=none:=λb hb=>by
  obtain⟨_,_,_,_,_,_,_,j',_⟩:=t;exact(j' b hb).2
 have ko:Inv X pins σ H (s.setGen q.g .running):=Eg I rfl rfl (allBare_setGen I.bare rfl);obtain⟨gs,k5,kc⟩:=Zr (W:=λ_ _ _ _=>False) (F:=λe s2=>match e with
   | .susp v mQ l k c dX fs=>(End.susp v mQ l k c dX fs).quiet=true/\∃x av H',RelV x v/\Inv X pins σ H' s2/\Z.Ext ρ H av H'/\Z.aN X.K X.mg av H' (m.U i S)/\Z.Rep X.K X.mg av H' m.ds[i] x/\(q.g<s2.gens.size->o1 X q m kn fL (i+1) fp av H' (s2.setGen q.g (End.susp v mQ l k c dX fs).genState))
   | .ret _=>False) d o hd (jv hi) kE t I w hp (λy e s2 h=>by obtain⟨_,_,_,_,_,_,_,_,_,_,_,_,_,_,_,_,z⟩:=h;exact z.elim) (λe _ z=>by omega) (λ_ y=>{
    fe:=λe s2 h=>by obtain⟨_,_,_,_,_,_,_,_,_,_,_,_,_,_,_,_,z⟩:=h;exact z.elim
    fd:=λz=>by omega
    Ee:=λhl p v g l k c dX fs s2 x kQ aO aD Eo aW x2 cm r2 aJ hq qj=>by
     have Qp:=akH Eo;obtain⟨ob,nm,hO,hr,hc,ak2,ql⟩:=akA (q:=q.Zq) (s:=s.setGen q.g .running) (own:=[]) o ml ha (by simp);obtain⟨a1,a2,_⟩:=Eo.pin (q.a,ob) (nj _ hr);exact⟨hq,x,aO,aD,aW,Y8 ko y Eo (Qe x2 cm),x2,cm,aJ,λeR=>⟨oS.trans x2,Qp.2.1,a2,⟨ob,nm,hO,a1,hc,ak2,ql⟩,Qo,kQ,Qp.1,λb hb=>⟨Qp.2.2 b hb,Ja b hb⟩,_,setGen_at eR,.inr ⟨i,p,rfl,hl,qj,r2⟩⟩⟩ })
 have O8:q.g<s.gens.size:=(Array.getElem?_eq_some_iff.mp k5).1;refine wpAny_gsz (n:=q.g+1) O8 (Y2 hd I.nolimit vl ml k5 kc (λv g₀ l k c p fs s₁ h=>?_) λr s₁ h=>h.elim);obtain⟨hq,x,av,H',aW,I1,x1,aF,aJ,t1⟩:=h;refine⟨hq,λeR=>⟨v,x,av,H',fp,rfl,aW,Eg I1 rfl rfl (allBare_setGen I1.bare (End.bare_of_quiet hq)),x1,aF,aJ,t1 ?_,hp⟩⟩;have e:(s₁.setGen q.g (End.susp v g₀ l k c p fs).genState).gens.size=s₁.gens.size:=setGen_size _ _ _;have eR:q.g+1<=(s₁.setGen q.g (End.susp v g₀ l k c p fs).genState).gens.size:=eR;omega
theorem ak3(d:En X q m fG fT fA fE fB)(o:Old X fL q.n q.a)(hd:X.A.handled=none)(vl:X.A.depth<recursionLimit)(Ep:m.fin=.done)(kE:m.gC m.ds.length S)(t:o1 X q m kn fL m.ds.length fp ρ H s)(I:Inv X pins σ H s)(w:Z.aN X.K X.mg ρ H S)(hp:∀p∈X.pn++pins,p.1∉fp) :
  wpAny (model X.prog X.w) X.A (pyNext (.ref q.a)) (λr s1=>r=none/\∃av H',Inv X pins σ H' s1/\Z.Ext ρ H av H'/\Z.aN X.K X.mg av H' (m.U m.ds.length S)) X.xe s:=by
 have ml:=t.2.2.2.1;have ko:Inv X pins σ H (s.setGen q.g .running):=Eg I rfl rfl (allBare_setGen I.bare rfl);obtain⟨gs,k5,kc⟩:=Zr (W:=λ_ _ _ _=>False) (F:=λe s2=>e=.ret (.ok (.ret .none))/\∃av H',Inv X pins σ H' s2/\Z.Ext ρ H av H'/\Z.aN X.K X.mg av H' (m.U m.ds.length S)) d o hd (Nat.le_refl _) kE t I w hp (λy e s2 h=>by obtain⟨_,_,_,_,_,_,_,_,_,_,_,_,_,_,_,_,z⟩:=h;exact z.elim) (λe z _=>by rw[Ep]at z;cases z) (λ_ y=>{
    fe:=λe s2 h=>by obtain⟨_,_,_,_,_,_,_,_,_,_,_,_,_,_,_,_,z⟩:=h;exact z.elim
    fd:=λ_ s2 kQ aO aD Eo x2 cm=>⟨rfl,aO,aD,Y8 ko y Eo (Qe x2 cm),x2,cm⟩
    Ee:=λhl=>absurd hl (ni _) })
 refine Y2 hd I.nolimit vl ml k5 kc (λv g₀ l k c p fs s₁ h=>?_) λr s₁ h=>?_
 .cases h.1
 .obtain⟨e,av,H',I1,x1,aF⟩:=h
  cases e;refine .inl ⟨.inl rfl,λh' hk=>⟨rfl,av,H',?_,x1,aF⟩⟩;exact(Eg (s':=s₁.setGen q.g .finished) I1 rfl rfl (allBare_setGen I1.bare rfl)).kept (h':=h') (t':=s₁.toks) hk
end
abbrev xM:=Nat->List Z.D->Option tT
def xN(off n:Nat)(fC:List Z.D)(rA:xM)(fa:Z.du):xJ:=λsl S=>(fa sl S).bind λds S1 =>
 if ds.length=n then(match rA (S1.length+off) (ds++fC)with
  |some M=>.ok (M.ds,M.fin,M.gC,M.U) S1
  |none=>.bad)else .bad
def Ak(X:Cx)(W:WX)(iter:Expr)(ge:xJ):Prop :=
 ∀(pins:List (Addr×Obj)) (s:Shared) (σ:L2.St) (ρ:List Addr) (H:Hp) (S:Z.Store) (sl:Z.aT),Inv X pins σ H s->Z.aN X.K X.mg ρ H S->Z.cH X.K X.mg ρ H σ sl->match ge sl S with
 | .bad=>True
 | .ex e S1=>(∀C dd av H',Z.Ext ρ H av H'->Z.aN X.K X.mg av H' S1->Z.oA X.K X.mg av H' e C dd->W C dd σ H')->wpAny (model X.prog X.w) X.A (eval iter X.env) (λ_ _=>False) X.xe s
 | .ok p S1=>wpAny (model X.prog X.w) X.A (eval iter X.env) (λv s1=>∃(q:tS) (m:tT) (aA:List Addr) (H1:Hp) (fG:Z.SX) (fT:Z.cJ) (fA:Z.SX) (fE:Z.aM) (fB:Z.SX),v=.ref q.a/\p=(m.ds,m.fin,m.gC,m.U)/\Inv X pins σ H1 s1/\Z.Ext ρ H aA H1/\Z.aN X.K X.mg aA H1 S1 /\
   En X q m fG fT fA fE fB/\Ei X q.n q.a/\q.a<s1.heap.objs.size/\o1 X q m aA H1 0 [q.a,q.n] aA H1 s1/\(∀nN∈X.pn++pins,nN.1<q.n) /\
   ∀e,m.fin=.ex e->∀C dd av H',Z.oA X.K X.mg av H' e C dd->PySem.W.subIn X.K C (.type "StopIteration")=some false) X.xe s
theorem Ak.gen:True:=trivial
theorem ak4{X:Cx}{pins:List (Addr×Obj)}{σ:L2.St}{H:Hp}{q:tS}{m:tT}{ρ:List Addr}{s':Shared}{vs:List V}(h:Qk X pins σ H q.N q.qual q.scope q.f q.cd q.sh.body vs q.n q.a q.g s')(r:Z.cH X.K X.mg ρ H (start q.N vs) m.sl0):o1 X q m ρ H 0 [q.a,q.n] ρ H s' :=
 ⟨Z.Ext.refl,h.hn,h.ha,h.gen,rfl,_,h.fr,λb hb=>⟨h.hc b hb,h.hc b hb⟩,_,h.at_,.inl ⟨rfl,rfl,r⟩⟩
section
variable{X:Cx}{W:WX}{f:Addr}{name qual:Str}{params:Arguments}{body:List Stmt}{scope:Scope}{cG kV doc pm c7 ct cL:Value}{an od:Option Addr}{hX:Array (Option Value)}{N ps:List Str}{n off:Nat}{dfs:List Value}{dvs:List V}{fC:List Z.D}{x:Str}{p pos:Pos}{e:Expr}{es:List Expr}{fa:Z.du}{rA:xM}{sh:mn}{fG:Z.SX}{fT:Z.cJ}{fA:Z.SX}{fE:Z.aM}{fB:Z.SX}
theorem ak5(hc:X.A.handled=none)(tQ:X.A.depth<recursionLimit)(lk:X.K.lookup f=some ⟨cL,od,.func (PySem.W.fnOf name qual params sh.body scope cG kV doc pm an c7 ct),hX⟩)(g9:PySem.W.codeIn X.K c7 qual=true)
  (Sc:GScope N ps scope) (hb:Binds X.K (PySem.W.fnOf name qual params sh.body scope cG kV doc pm an c7 ct) ps dfs) (hd:Vals dvs dfs) (tu:∀ρ H,Z.ay X.K X.mg ρ H fC dvs)
  (ak6:∀h args M,rA h args=some M->args.length=ps.length/\M.sl0=args.map some++List.replicate (N.length - ps.length) none/\(∀n a g,En X ⟨N,qual,scope,f,c7,n,a,g,sh⟩ M fG fT fA fE fB) /\
   ∀e,M.fin=.ex e->∀C dd av H',Z.oA X.K X.mg av H' e C dd->PySem.W.subIn X.K C (.type "StopIteration")=some false)
  (hm:X.mg x=some (.ref f)) (hk:PySem.W.keepIn X.K (.ref f)=true) (ha:Z.gQ X W (e::es) fa) (hg:Gl X x:=by rfl) (gR:(x==("__debug__":Str))=false:=by decide)
  (he:starEach (e::es) X.env=(false,eval e X.env)::starEach es X.env:=by rfl) (fK:(backTo pos (starEach es X.env)).any (·.1)=false:=by rfl) :
  Ak X W (.Call (.Name x p) (e::es) [] pos) (xN off n fC rA fa):=by
 intro pins s σ ρ H S sl I w rs;unfold xN;cases bN:fa sl S with
 |bad=>trivial
 |ex aw S1 =>
  intro sq;refine wpAny_Call_Name_kw (ld_glob I hg hm ?_ gR);refine qD (h₀:=X.base) I.ok.mod.kin hk (thn (ha.run pos pins s σ H (λ_ _=>False) I ⟨ρ,S,sl,w,rs,?_⟩) λus s1 ⟨vs,H1,_,_,z⟩=>z.elim) he fK;rw[bN];exact λC dd av H' y dE r=>sq C dd av H' y dE r
 |ok ds S1 =>
  dsimp only[Z.Out.bind];by_cases hl:ds.length=n
  .rw[if_pos hl]
   cases e1:rA (S1.length+off) (ds++fC)with
   |none=>trivial
   |some M =>
    obtain⟨hlen,ql,ak7,fV⟩:=ak6 _ _ _ e1;show wpAny _ _ _ _ _ _;refine wpAny_Call_Name_kw (ld_glob I hg hm ?_ gR);refine qD (h₀:=X.base) I.ok.mod.kin hk (thn (ha.run pos pins s σ H (λvs H1=>∃aA,Z.Ext ρ H aA H1/\Z.aN X.K X.mg aA H1 S1/\Z.ay X.K X.mg aA H1 ds vs) I ⟨ρ,S,sl,w,rs,?_⟩) λus s1 ⟨vs,H1,I1,r,aA,x1,aF,rd⟩=>⟨I1.kIn,?_⟩) he fK
    .rw[bN]
     exact λvs aA H1 y dE r=>⟨aA,y,dE,r⟩
    have Qq:Z.ay X.K X.mg aA H1 (ds++fC) (vs++dvs):=rd.append (tu aA H1);have ul:(us++dfs).length=ps.length:=by rw[<-(r.append hd).length,<-Qq.len,hlen]
    refine wpAny_call (codeAny_mono (akJ (pins:=pins) (σ:=σ) (H:=H1) (us:=us++dfs) (vs:=vs++dvs) I1 hc tQ lk g9 Sc (hb s1 us I1.kIn ul) (r.append hd) (by rw[<-Qq.len,hlen])) λbY s3 ⟨a,g,fU,Ah⟩=>?_);subst fU;refine⟨⟨N,qual,scope,f,c7,s1.heap.objs.size,a,g,sh⟩,M,aA,H1,fG,fT,fA,fE,fB,rfl,rfl,Ah.inv,x1,aF,ak7 _ _ _,Ah.old,Ah.I6,ak4 (q:=⟨N,qual,scope,f,c7,s1.heap.objs.size,a,g,sh⟩) Ah ?_,Ah.pins,fV⟩;rw[ql];have h0:=Z.yV (N:=N) Qq;rw[hlen]at h0;exact h0
  .rw[if_neg hl]
   trivial
end
def o2(h:Nat)(bw:Nat->List Z.D)(i:Nat)(S:Z.Store):Prop:=oZ S/\(i=0->S.length=h)/\(0<i->S[h]?=some (.lst (bw (i - 1))))
def h3(h:Nat)(bw:Nat->List Z.D)(i:Nat)(S:Z.Store):Z.Store:=if i=0 then S++[.lst (bw 0)]else S.set h (.lst (bw i))
structure o3(np n3 h:Nat)(fG:Z.SX)(fT:Z.cJ)(fA:Z.SX)(fE:Z.aM)(fB:Z.SX)(args:List Z.D)(M:tT)(bw:Nat->List Z.D):Prop where
 len:args.length=np
 sl0:M.sl0=args.map some++List.replicate (n3 - np) none
 fin:M.fin=.done
 Jb:M.gC=o2 h bw
 u:M.U=h3 h bw
 st:∀S,o2 h bw 0 S->∃S1,fG M.sl0 S=.nx (M.slA 0) S1/\n0 fT fA fE M.ds M.slA M.slY 0 S1 (h3 h bw 0 S)
 lp:Ql (o2 h bw) (h3 h bw) fT fA fE fB M.ds M.slA M.slY
 cl:∀i,i<=M.ds.length->Z.bH 0 (bw i)=true
open Classical in
def xO(np n3:Nat)(fG:Z.SX)(fT:Z.cJ)(fA:Z.SX)(fE:Z.aM)(fB:Z.SX):xM:=λh args =>
 if q:∃M bw,o3 np n3 h fG fT fA fE fB args M bw then some q.choose else none
section
variable{np n3 h:Nat}{fG:Z.SX}{fT:Z.cJ}{fA:Z.SX}{fE:Z.aM}{fB:Z.SX}{args:List Z.D}{M iC:tT}{bw qs':Nat->List Z.D}
theorem ak8(q:xO np n3 fG fT fA fE fB h args=some M):∃bw,o3 np n3 h fG fT fA fE fB args M bw:=by
 unfold xO at q;split at q
 .rename_i z
  cases q;exact z.choose_spec
 .cases q
theorem Qr{sl eH:Z.aT}{S ao:Z.Store}{o:Z.SO}(a:o=.nx sl S)(b:o=.nx eH ao):sl=eH/\S=ao:=by
 rw[a]at b;cases b;exact⟨rfl,rfl⟩
def rB(h:Nat)(bw:Nat->List Z.D):Nat->Z.Store
 |0=>List.replicate h (.lst [])
 |i+1=>h3 h bw i (rB h bw i)
theorem Er:∀i,(rB h bw (i+1)).length=h+1
 |0=>by simp[rB,h3]
 |i+1=>by
  show(h3 h bw (i+1) (rB h bw (i+1))).length=_;unfold h3;rw[if_neg (by omega),List.length_set,Er i]
theorem ak9{m:Nat}{l:List Z.D}(q:Z.bH 0 l=true):Z.bH m l=true:=Z.iw (jW m) l q
theorem Qs(hc:∀i,i<=M.ds.length->Z.bH 0 (bw i)=true):∀i,i<=M.ds.length+1->oZ (rB h bw i)
 |0,_=>λm hm=>by
  rw[(List.mem_replicate.mp hm).2];rfl
 |i+1,hi=>λm hm=>by
  have ih:=Qs hc i (by omega);have hm:m∈h3 h bw i (rB h bw i):=hm;have hq:∀k,Z.jy k (.lst (bw i))=true:=λk=>ak9 (hc i (by omega));unfold h3 at hm;rw[Er];split at hm
  .rename_i e
   subst e;rcases nh.mp hm with hm|hm
   .rw[(List.mem_replicate.mp hm).2]
    rfl
   .rw[qA.mp hm]
    exact hq _
  .rename_i e
   rcases List.mem_or_eq_of_mem_set hm with hm|rfl
   .obtain⟨j,rfl⟩:∃j,i=j+1:=⟨i - 1,by omega⟩
    have:=ih m hm;rw[Er]at this;exact this
   .exact hq _
theorem Zv(hc:∀i,i<=M.ds.length->Z.bH 0 (bw i)=true):∀i,i<=M.ds.length+1->o2 h bw i (rB h bw i)
 |0,hi=>⟨Qs hc 0 hi,λ_=>by simp[rB],λz=>by omega⟩
 |i+1,hi=>⟨Qs hc (i+1) hi,λz=>by omega,λ_=>by
  show(h3 h bw i (rB h bw i))[h]?=_;rw[Nat.add_sub_cancel];unfold h3;split
  .rename_i e
   subst e;simp[rB]
  .rename_i e
   obtain⟨j,rfl⟩:∃j,i=j+1:=⟨i - 1,by omega⟩
   rw[mz (by rw[Er];omega)]⟩
theorem Zw{S:Z.Store}{i:Nat}(e:∀j,j<i->bw j=qs' j)(q:o2 h bw i S):o2 h qs' i S:=⟨q.1,q.2.1,λz=>by rw[<-e (i - 1) (by omega)];exact q.2.2 z⟩
theorem Zx{i:Nat}{S:Z.Store}(bO:i=0\/h<S.length)(e:h3 h bw i S=h3 h qs' i S):bw i=qs' i:=by
 unfold h3 at e;split at e
 .rename_i z
  subst z;have:=List.append_cancel_left e;injection this with this _
  injection this
 .rename_i z
  have hh:h<S.length:=bO.resolve_left z;have:=congrArg (λl:Z.Store=>l[h]?) e;simp only[mz hh]at this;injection this with this
  injection this
theorem Zy{ds gp:List Z.D}{slA Zz slY ZA:Nat->Z.aT}{j:Nat}{S S1 S2:Z.Store}(ea:slA j=Zz j)(a:n0 fT fA fE ds slA slY j S S1)(b:n0 fT fA fE gp Zz ZA j S S2):(j<ds.length↔j<gp.length)/\S1=S2/\∀(h1:j<ds.length) (h2:j<gp.length),slY j=ZA j/\ds[j]=gp[j]:=by
 unfold n0 at a b;by_cases h1:j<ds.length
 .rw[dif_pos h1]at a
  by_cases h2:j<gp.length
  .rw[dif_pos h2,<-ea]at b
   obtain⟨aw,e2⟩:=Qr a.2.1 b.2.1;refine⟨⟨λ_=>h2,λ_=>h1⟩,e2,λ_ _=>⟨aw,?_⟩⟩;have bN:=a.2.2;rw[aw,e2,b.2.2]at bN;exact(Z.Out.ok.inj bN).1.symm
  .rw[dif_neg h2,<-ea]at b
   have:=a.1.symm.trans b.1;cases this
 .rw[dif_neg h1]at a
  by_cases h2:j<gp.length
  .rw[dif_pos h2,<-ea]at b
   have:=a.1.symm.trans b.1;cases this
  .rw[dif_neg h2]at b
   exact⟨⟨λz=>absurd z h1,λz=>absurd z h2⟩,a.2.trans b.2.symm,λz=>absurd z h1⟩
theorem o3.step(F:o3 np n3 h fG fT fA fE fB args M bw)(G:o3 np n3 h fG fT fA fE fB args iC qs'):∀i,i<=M.ds.length->i<=iC.ds.length->(i<M.ds.length↔i<iC.ds.length)/\(∀j,j<=i->bw j=qs' j)/\∀(h1:i<M.ds.length) (h2:i<iC.ds.length),M.slY i=iC.slY i/\M.ds[i]=iC.ds[i]
 |0,_,_=>by
  have p1:=Zv (h:=h) F.cl 0 (by omega);obtain⟨S1,aw,Qt⟩:=F.st _ p1;obtain⟨S2,e2,Qu⟩:=G.st _ (Zw (qs':=qs') (λj cK=>by omega) p1);rw[F.sl0]at aw;rw[G.sl0]at e2;obtain⟨ea,es⟩:=Qr aw e2;subst es;obtain⟨r1,r2,cg⟩:=Zy ea Qt Qu;exact⟨r1,λj cK=>by rw[Nat.le_zero.mp cK];exact Zx (.inl rfl) r2,cg⟩
 |i+1,h1,h2=>by
  obtain⟨_,eq,r⟩:=o3.step F G i (by omega) (by omega);obtain⟨ew,_⟩:=r (by omega) (by omega);have p1:=Zv (h:=h) F.cl (i+1) (by omega);obtain⟨S1,aw,Qt⟩:=F.lp.b i (by omega) _ p1;obtain⟨S2,e2,Qu⟩:=G.lp.b i (by omega) _ (Zw (qs':=qs') (λj cK=>eq j (by omega)) p1);rw[ew]at aw;obtain⟨ea,es⟩:=Qr aw e2;subst es;obtain⟨r1,r2,cg⟩:=Zy ea Qt Qu;have a6:bw (i+1)=qs' (i+1):=Zx (.inr (by rw[Er];omega)) r2;refine⟨r1,λj cK=>?_,cg⟩;by_cases z:j=i+1
  .rw[z];exact a6
  .exact eq j (by omega)
theorem o3.same(F:o3 np n3 h fG fT fA fE fB args M bw)(G:o3 np n3 h fG fT fA fE fB args iC qs'):M.ds=iC.ds/\∀j,j<=M.ds.length->bw j=qs' j:=by
 have hl:M.ds.length=iC.ds.length:=by
  rcases Nat.lt_trichotomy M.ds.length iC.ds.length with z|z|z
  .have:=(F.step G M.ds.length (Nat.le_refl _) (by omega)).1
   omega
  .exact z
  .have:=(F.step G iC.ds.length (by omega) (Nat.le_refl _)).1
   omega
 refine⟨List.ext_getElem hl λj h1 h2=>((F.step G j (by omega) (by omega)).2.2 h1 h2).2,(F.step G M.ds.length (Nat.le_refl _) (by omega)).2.1⟩
theorem ala(F:o3 np n3 h fG fT fA fE fB args M bw):∃iC qs',xO np n3 fG fT fA fE fB h args=some iC/\iC.ds=M.ds/\iC.fin=.done/\iC.gC=o2 h qs'/\iC.U=h3 h qs'/\∀j,j<=M.ds.length->qs' j=bw j:=by
 unfold xO;have q:∃M bw,o3 np n3 h fG fT fA fE fB args M bw:=⟨M,bw,F⟩
 rw[dif_pos q];obtain⟨qs',G⟩:=q.choose_spec;obtain⟨aw,e2⟩:=F.same G;exact⟨_,qs',rfl,aw.symm,G.fin,G.Jb,G.u,λj cK=>(e2 j cK).symm⟩
end
end ZG
namespace ZJ
section
variable{α β:Type}[DecidableEq α][DecidableEq β]
def cs:List (α×Rat)->α->Rat
 |[],_=>0
 |(b,r)::l,a=>(if b=a then r else 0)+cs l a
def ZC(d:List (α×Rat)):List α:=d.map (·.1)
def look:List (α×Rat)->α->Option Rat
 |[],_=>none
 |(b,r)::d,a=>if b=a then some r else look d a
def put(d:List (α×Rat))(a:α)(r:Rat):List (α×Rat):=if a∈ZC d then d.map (λp=>if p.1=a then(p.1,r)else p)else d++[(a,r)]
def out(le:α->α->Bool)(d:List (α×Rat)):List (α×Rat):=(((ZC d).mergeSort le).filter λa=>decide (cs d a≠0)).map λa=>(a,cs d a)
end
section
variable{α β:Type}[DecidableEq α][DecidableEq β]
def k7(D n:Nat)(r:Rat):Prop:=∃z:Int,r * (D:Rat)=(z:Rat)/\z.natAbs<=n
theorem Qv(z:Int):Rat.divInt z 1=(z:Rat):=by
 have:=Rat.divInt_ofNat z 1;rw[Rat.mkRat_one]at this;exact this
theorem k7.size{D n:Nat}{r:Rat}(h:k7 D n r)(bL:0<D):r.num.natAbs<=n/\r.den<=D:=by
 obtain⟨z,e,l⟩:=h;have Yd:r.num * (D:Int)=z * (r.den:Int):=by
  have aw:r * (D:Rat)=Rat.divInt (r.num * (D:Int)) (r.den:Int):=by
   conv=>lhs;rw[<-KU r]
   rw[show((D:Nat):Rat)=Rat.divInt (D:Int) 1 by rw[Qv,Rat.intCast_natCast],Rat.divInt_mul_divInt,Int.mul_one]
  rw[aw,<-Qv z]at e;have:=(KW (by have:=r.den_nz;omega) (by decide)).mp e;simpa using this
 have hd:r.den ∣ D:=by
  have h1:(r.den:Int) ∣ r.num * (D:Int):=⟨z,by grind⟩
  have h2:r.den ∣ r.num.natAbs * D:=by
   have:=Int.natAbs_dvd_natAbs.mpr h1;rwa [Int.natAbs_mul,ur,ur]at this
  exact(Nat.Coprime.symm r.reduced).dvd_of_dvd_mul_left h2
 have hle:=Nat.le_of_dvd bL hd;refine⟨?_,hle⟩;have aH:r.num.natAbs * D=z.natAbs * r.den:=by
  have:=congrArg Int.natAbs Yd;rwa [Int.natAbs_mul,Int.natAbs_mul,ur,ur]at this
 have bT:z.natAbs * r.den<=z.natAbs * D:=yw _ hle;have cZ:r.num.natAbs * D<=z.natAbs * D:=by omega
 have:=Nat.le_of_mul_le_mul_right cZ bL;omega
end
end ZJ
namespace Z
open PySem PySem.Spec L2 ZM
section
variable{S:Store}{sl:aT}{f1 f2:aM}
theorem Qw{xs ys:List D}(h:f1 sl S=.ok (.lst xs) S)(h2:f2 sl S=.ok (.lst ys) S)(hl:xs.length+ys.length<=1000000):aq bC f1 f2 sl S=.ok (.lst (xs++ys)) S :=
 dr h h2 (bp (by simp_all))
theorem alb{x:D}(h:f1 sl S=.ok (.lst [x]) S):aq ho f1 (af (.int 5)) sl S=.ok (.lst [x,x,x,x,x]) S:=by
 refine dr h rfl ?_;rfl
end
def ek:f'->NestedKey
 | .w u=>.text (aj u)
 | .s u=>.tup (u.map .num)
 | .l x=>.tup [.num x.1,.tup (x.2.map λy=>.tup [.num y.1,.num y.2])]
 | .d x=>.tup [.num x.1,.num x.2.1,.num x.2.2]
 | .p a b=>.tup [ek a,ek b]
def bz(r:Rat):D:=kz r.num r.den
def eg(r:Rat):D:=tG r.num r.den
@[simp] theorem alc{k:Nat}{r:Rat}:bf k (eg r)=true:=X_
abbrev vp(n:Nat)(r:Rat):Prop:=LT n r.num r.den
theorem vp.of{n:Nat}{r:Rat}(h1:r.num.natAbs<2 ^ n)(h2:r.den<2 ^ n):vp n r :=
 ⟨h1,by unfold Bd;omega,by have:=r.den_pos;omega,by show Nat.gcd r.num.natAbs (Int.natAbs (r.den:Int))=1;rw[ur];exact r.reduced⟩
theorem Qx{P Q:Int}(mq:0<Q)(x:Rat)(h:x=Rat.divInt P Q):num P Q=x.num/\den P Q=x.den:=by
 have hq:Q≠0:=by omega
 have hp:=den_pos (p:=P) hq;have hg:=z4 (p:=P) hq;have eS:=X9 (p:=P) hq;have aw:num P Q * (Int.gcd P Q:Int)=P:=by
  unfold num;rw[if_pos mq];exact Int.ediv_mul_cancel (Int.gcd_dvd_left ..)
 have e2:den P Q * (Int.gcd P Q:Int)=Q:=by
  unfold den;rw[show(Q.natAbs:Int)=Q by omega];exact Int.ediv_mul_cancel (Int.gcd_dvd_right ..)
 have hn:((den P Q).toNat:Int)=den P Q:=by omega
 let y:Rat:=⟨num P Q,(den P Q).toNat,by omega,by
  have eS:Nat.gcd (num P Q).natAbs (den P Q).natAbs=1:=eS;grind⟩
 have bD:y=Rat.divInt (num P Q) (den P Q):=by
  rw[<-hn];exact(KU y).symm
 have ald:y=x:=by
  rw[bD,h,KW (by omega) hq]
  calc num P Q * Q=num P Q * (den P Q * (Int.gcd P Q:Int)):=congrArg (num P Q * ·) e2.symm
   _=(num P Q * (Int.gcd P Q:Int)) * den P Q:=by rw[Int.mul_comm (den P Q),Int.mul_assoc]
   _=P * den P Q:=congrArg (· * den P Q) aw
 rw[<-ald];exact⟨rfl,hn.symm⟩
theorem ale{α:Type}{row:α->D}{l:List α}{sl:aT}{S ao:Store}{Q:hJ}{G:Store->Prop}{g:d4}{body:SX}{it:gI}(hit:it sl S=.ok (l.map row,G) ao)(I:List α->aT->Store->Prop)(h0:I [] sl ao)
  (step:∀p x post sl S,l=p++x::post->I p sl S->G S/\a0 (g (row x) sl S) ⟨λa' S1=>a0 (body a' S1) ⟨λbK S2=>I (p++[x]) bK S2,Q.nx,λbK S2=>I (p++[x]) bK S2,Q.rt,Q.ex⟩,λ_ _=>False,λ_ _=>False,λ_ _=>False,λ_ _ _=>False⟩)
  (hU:∀sl S,I l sl S->G S/\Q.nx sl S):a0 (uE it g body sl S) Q:=by
 refine afl hit (λpre sl S=>∃p q,l=p++q/\pre=p.map row/\I p sl S) ⟨[],l,rfl,rfl,h0⟩ ?_ ?_
 .rintro pre x post sl S he ⟨p,q,hl,rfl,hi⟩
  rw[hl,List.map_append,List.append_cancel_left_eq]at he;cases q with
  |nil=>cases he
  |cons y q =>
   rw[cF]at he;injection he with h1 h2
   subst h1;obtain⟨hg,hw⟩:=step p y q sl S hl hi;refine⟨hg,hw.mono (λa' S1 h=>h.mono ?_ (λ_ _ h=>h) ?_ (λ_ _ h=>h) (λ_ _ _ h=>h)) (λ_ _ h=>h) (λ_ _ h=>h) (λ_ _ h=>h) (λ_ _ _ h=>h)⟩
   .exact λbK S2 h=>⟨p++[y],q,by rw[hl];simp,by simp,h⟩
   .exact λbK S2 h=>⟨p++[y],q,by rw[hl];simp,by simp,h⟩
 .rintro sl S ⟨p,q,hl,he,hi⟩
  have:q=[]:=by
   have:=congrArg List.length he;rw[hl]at this;simp at this;exact this
  grind
section
variable{α:Type}{S S0:Store}{sl sl0:aT}{G:Store->Prop}{g:d4}{bt:cJ}{fe:aM}{it:gI}{own:List Nat}{row:α->D}
theorem Qy(p:α->Bool)(cS:α->D)(cP:∀acc,G (S0++[.lst acc])):∀(l:List α) (acc:List D),acc.length+l.length<=1000000 ->
  (∀a∈l,∀acc,∃a',g (row a) sl0 (S0++[.lst acc])=.nx a' (S0++[.lst acc])/\bt a' (S0++[.lst acc])=.ok (p a) (S0++[.lst acc])/\(p a=true->fe a' (S0++[.lst acc])=.ok (cS a) (S0++[.lst acc]))) ->
  jf G g bt fe S0.length sl0 (l.map row) (S0++[.lst acc])=.ok () (S0++[.lst (acc++(l.filter p).map cS)])
 |[],acc,_,_=>by
  show jf G g bt fe S0.length sl0 [] _=_;rw[jf,if_pos (cP acc)];simp
 |a::l,acc,hl,h=>by
  obtain⟨a',aw,e2,a6⟩:=h a (by simp) acc;have c6:acc.length<1000000:=by simp at hl;omega
  show jf G g bt fe S0.length sl0 (row a::l.map row) _=_;rw[jf,if_pos (cP acc),aw];dsimp only;rw[e2];cases hp:p a with
  |false =>
   dsimp only;rw[Qy p cS cP l acc (by grind) λb hb=>h b (by simp[hb]),List.filter_cons_of_neg (by simp[hp])]
  |true =>
   dsimp only;rw[a6 hp];dsimp only;rw[show(S0++[dH.lst acc])[S0.length]?=some (.lst acc)by simp];dsimp only;rw[if_pos c6,show(S0++[dH.lst acc]).set S0.length (.lst (acc++[cS a]))=S0++[.lst (acc++[cS a])]by simp,Qy p cS cP l (acc++[cS a]) (by grind) λb hb=>h b (by simp[hb]),List.filter_cons_of_pos (by simp[hp])];simp
theorem alf{l:List α}(p:α->Bool)(cS:α->D)(hit:it sl S=.ok (l.map row,G) S)(hl:l.length<=1000000)(cP:∀acc,G (S++[.lst acc]))
  (step:∀a∈l,∀acc,∃a',g (row a) (df sl own) (S++[.lst acc])=.nx a' (S++[.lst acc])/\bt a' (S++[.lst acc])=.ok (p a) (S++[.lst acc])/\(p a=true->fe a' (S++[.lst acc])=.ok (cS a) (S++[.lst acc]))) :
  cw it g bt fe own sl S=.ok (.ptr S.length) (S++[.lst ((l.filter p).map cS)]):=by
 have h:=Qy (sl0:=df sl own) p cS cP l [] (by grind) step;unfold cw;simp_all
theorem alg{l:List α}(p:α->Bool)(cS:α->D)(hit:it sl S=.ok (l.map row,G) S)(hl:l.length<=1000000)(cP:∀acc,G (S++[.lst acc]))
  (step:∀a∈l,∀acc,∃a',g (row a) (df sl own) (S++[.lst acc])=.nx a' (S++[.lst acc])/\bt a' (S++[.lst acc])=.ok (p a) (S++[.lst acc])/\(p a=true->fe a' (S++[.lst acc])=.ok (cS a) (S++[.lst acc])))
  (aR:∀a∈l,p a=true->bf S.length (cS a)=true):cC (cw it g bt fe own) sl S=.ok (.lst ((l.filter p).map cS)) S:=by
 refine YF (alf p cS hit hl cP step) ?_;rw[lV];grind
theorem o4{l:List α}(cS:α->D)(hit:it sl S=.ok (l.map row,G) S)(hl:l.length<=1000000)(cP:∀acc,G (S++[.lst acc]))
  (step:∀a∈l,∀acc,∃a',g (row a) (df sl own) (S++[.lst acc])=.nx a' (S++[.lst acc])/\fe a' (S++[.lst acc])=.ok (cS a) (S++[.lst acc]))
  (aR:∀a∈l,bf S.length (cS a)=true):cC (cw it g cv fe own) sl S=.ok (.lst (l.map cS)) S:=by
 have:=alg (bt:=cv) (fe:=fe) (own:=own) (sl:=sl) (g:=g) (λ_=>true) cS hit hl cP (λa ha acc=>by
  obtain⟨a',h1,h2⟩:=step a ha acc;exact⟨a',h1,rfl,λ_=>h2⟩) λa ha _=>aR a ha
 rw[this,KI.mpr λa _=>rfl]
end
end Z
namespace ZG
open PySem PySem.Spec GenW PyProof.Rows L2
structure Qz(C:Cx)(W:WX)(sh:mn)(fG:Z.SX)(fT:Z.cJ)(fA:Z.SX)(fE:Z.aM)(fB:Z.SX):Prop where
 pre:Z.gm C W sh.pre fG
 t:Z.kO C W sh.test fT
 A:Z.gm C W sh.As fA
 e:Z.E C W sh.Af fE
 B:Z.gm C W sh.xI fB
def ZD(k j:Nat)(b:List Stmt):mn:=match b.drop k with
 | .While t l _ p::_=>(match l.drop j with
  | .Expr (.Yield (some e) Ag) ps::r=>⟨b.take k,t,l.take j,e,Ag,ps,r,p⟩
  |_=>⟨[],t,[],t,p,p,[],p⟩)
 |_=>⟨[],.Name "" ⟨0,0,0,0⟩,[],.Name "" ⟨0,0,0,0⟩,⟨0,0,0,0⟩,⟨0,0,0,0⟩,[],⟨0,0,0,0⟩⟩
structure Jc(P:Program)(w:World)(K:PySem.W.Frag)(mg:Str->Option Value)(base:Heap)(k:Nat)(f:Addr)(n:Nat)(fC:List Z.D)(rA:xM):Prop where
 run:∀{X:Cx} {W:WX} {x:Str} {p pos:Pos} {e:Expr} {es:List Expr} {fa:Z.du} (off:Nat),X.prog=P->X.w=w->X.K=K->X.mg=mg->X.base=base->Room k X.A->mg x=some (.ref f)->PySem.W.keepIn K (.ref f)=true ->
  Z.gQ X W (e::es) fa->Gl X x->(x==("__debug__":Str))=false ->
  starEach (e::es) X.env=(false,eval e X.env)::starEach es X.env->(backTo pos (starEach es X.env)).any (·.1)=false ->
  Ak X W (.Call (.Name x p) (e::es) [] pos) (xN off n fC rA fa)
section
variable{P:Program}{w:World}{K:PySem.W.Frag}{mg:Str->Option Value}{base:Heap}{k:Nat}{f:Addr}{n:Nat}{fC:List Z.D}{x qual:Str}{params:Arguments}{stb:List Stmt}{scope:Scope}{dvs:List V}{kws:List (Str×V)}{fd:FuncData}{N ps:List Str}{its:List Value}{dfs:List V}{sh:mn}{fG:Z.SX}{fT:Z.cJ}{fA:Z.SX}{fE:Z.aM}{fB:Z.SX}
theorem alh(F:FunD K x qual params stb scope dvs kws f fd)(ZE:stb=sh.body)(Sc:GScope N ps scope)(ag:Ej N scope)
  (hb:Binds K fd ps its) (ali:Vals dfs its) (tu:∀ρ H,Z.ay K mg ρ H fC dfs)
  (hint:∀n cd,interactive (envOfC qual scope n f cd)=false)
  (hd:∀(cd:Value) (A:Around) (outer:List Env) (n:Addr) (s:Shared) (H:Hp) (pn:List (Addr×Obj)) (xe:Value->Shared->Prop) (W:WX),Z.Takes (rx P w K mg base N qual scope f cd A outer n s H pn xe) W->PassesOwn (model P w) (A.deeper (envOfC qual scope n f cd)) (envOfC qual scope n f cd) xe ->
   Room k (A.deeper (envOfC qual scope n f cd))->Qz (rx P w K mg base N qual scope f cd A outer n s H pn xe) W sh fG fT fA fE fB) :
  Jc P w K mg base (k+2) f n fC (xO ps.length N.length fG fT fA fE fB):=by
 subst ZE;refine⟨λ{X W y p pos e es fa} off bU hw hK hm alj hr QA zE ha hg gR he fK=>?_⟩;subst bU hw hK hm alj;obtain⟨cL,od,cG,kV,doc,pm,an,c7,ct,hX,rfl,lk,g9,bL,aw9⟩:=F.ex;refine ak5 (fG:=fG) (fT:=fT) (fA:=fA) (fE:=fE) (fB:=fB) hr.hd (Room.Zb hr) lk g9 Sc hb ali tu (λh args M oN=>?_) QA zE ha hg gR he fK;obtain⟨bw,FM⟩:=ak8 oN;refine⟨FM.len,by rw[FM.sl0],λn a g=>?_,λe he=>by rw[FM.fin]at he;cases he⟩;have pc:∀own s H W,Qz (fD X N qual scope f c7 n own s H W) W sh fG fT fA fE fB:=λown s H W =>
  hd c7 X.A.in1 X.stack n s H _ _ W akv Y7 ((hr.in1).deeper _)
 exact⟨ag,Sc.co,hint n c7,λown s H W=>(pc own s H W).pre,λown s H W=>⟨(pc own s H W).t,(pc own s H W).A,(pc own s H W).e,(pc own s H W).B⟩,
  .inl ⟨λS q=>by rw[FM.Jb]at q;rw[FM.u];exact FM.st S q,by rw[FM.Jb,FM.u];exact FM.lp,FM.fin⟩⟩
end
section
variable{X:Cx}{W:WX}{k off:Nat}{f:Addr}{n:Nat}{fC:List Z.D}{rA:xM}{x:Str}{p pos:Pos}{e:Expr}{es:List Expr}{fa:Z.du}
theorem alk(F:Jc X.prog X.w X.K X.mg X.base k f n fC rA)(hr:Room k X.A)(hm:X.mg x=some (.ref f))(hk:PySem.W.keepIn X.K (.ref f)=true)(ha:Z.gQ X W (e::es) fa)(hg:Gl X x:=by rfl)(gR:(x==("__debug__":Str))=false:=by decide)(he:starEach (e::es) X.env=(false,eval e X.env)::starEach es X.env:=by rfl)
  (fK:(backTo pos (starEach es X.env)).any (·.1)=false:=by rfl):Ak X W (.Call (.Name x p) (e::es) [] pos) (xN off n fC rA fa) :=
 F.run off rfl rfl rfl rfl rfl hr hm hk ha hg gR he fK
end
def xG.alm(fin:xG)(u:Z.Store->Z.Store):Z.Store->Z.Out Unit:=match fin with
 | .done=>λS=>.ok () (u S)
 | .ex _=>λ_=>.bad
def m3(gC:Nat->Z.Store->Prop)(U:Nat->Z.Store->Z.Store)(fin:xG)(g:Z.d4)(bt:Z.cJ)(fe:Z.aM)(n:Nat)(sl:Z.aT):Nat->List Z.D->Z.Store->Z.Out Unit
 |i,[],S=>open Classical in if gC i S then fin.alm (U i) S else .bad
 |i,x::xs,S=>open Classical in if gC i S then(match g x sl (U i S)with
  | .nx a' S1=>(match bt a' S1 with
   | .ok true S2=>(match fe a' S2 with
    | .ok d a4=>(match a4[n]? with
     |some (.lst acc)=>if acc.length<1000000 then m3 gC U fin g bt fe n sl (i+1) xs (a4.set n (.lst (acc++[d])))else .bad
     |_=>.bad)
    |_=>.bad)
   | .ok false S2=>m3 gC U fin g bt fe n sl (i+1) xs S2
   |_=>.bad)
  |_=>.bad)else .bad
end ZG
namespace Z
open PySem PySem.Spec L2 ZM
section
variable{α:Type}[DecidableEq α]
theorem axa.pos:True:=trivial
end
def i5(i:Nat):D:=.int (i:Int)
abbrev FS:=List (f'×Rat)
structure o5 where
 ends:List Rat
 starts:List ((Nat×f')×Rat)
 Am:List ((Nat×Nat×f')×Rat)
def Sm(W:hZ)(s:Nat)(a:f'):Prop:=1<=s/\D9 W a/\Pt 0 (2 * s) (10 * s - 2) a
def QB(ss:List ((Nat×f')×Rat))(j:Nat):FS:=(ss.filter λp=>decide (p.1.1=j)).map λp=>(p.1.2,p.2)
section
theorem g3:True:=trivial
theorem g2:True:=trivial
end
section
variable{S:Store}{sl:aT}{Q:hJ}{d:D}{xs:List D}{f1:aM}{eS c2:cJ}{b b':Bool}{r:SX}
theorem Es(h:f1 sl S=.ok (.bl b) S):aI f1 sl S=.ok b S:=bp (by simp_all)
theorem aln(h:eS sl S=.ok b S):dc eS sl S=.ok (!b) S:=bp (by simp_all)
theorem alo(h:eS sl S=.ok false S)(h2:c2 sl S=.ok b S):d2 eS c2 sl S=.ok b S:=bp (by simp_all)
theorem QC{g:SX}(h:eS sl S=.ok true S)(hq:a0 (r sl S) Q):a0 (bE eS r g sl S) Q:=by
 simp_all
theorem Jd{g:SX}(h:eS sl S=.ok false S)(hq:a0 (g sl S) Q):a0 (bE eS r g sl S) Q:=by
 simp_all
theorem Je(h:Q.nx sl S):a0 (bG sl S) Q:=by simp_all
theorem alp{k:nD}(h:j1 S d=some k)(hb:c4 k "list"=some b)(hc:c4 k "tuple"=some b'):IL [d] S=.ok (.bl (b||b')) S:=by
 refine bp ?_;unfold IL;refine dF rfl ?_;simp[YL,h,qT,hb,hc]
theorem alq:IL [.lst xs] S=.ok (.bl true) S:=alp (b:=true) (b':=false) rfl rfl rfl
def alr:aM:=(ak mM (ae (cC (cw (ey (e0 false (eName 5) fN (ec (eName 3)))) (aP 6) cv (ak ai6 (ae (eName 6) (ae (af (.int 0)) (ae (aq kR (eName 1) (af (.int 1))) ah)))) [6])) ah))
def als:aM:=(cQ "is_element" [("World",Pz),("Stairs",Py),("Threads",Pm),("Lamps",Px),("Doubler",Pw),("Both",ai4)] (eName 0) (ae (aq a7 (eName 5) (eName 3)) ah))
def Xv:cJ:=(d2 (dc (aI alr)) (dc (aI als)))
end
structure QD(S:Store)(d:D)(xs:List D):Prop where
 s:∀T,eK (S++T) d=some xs
 k:∀T,IL [d] (S++T)=.ok (.bl true) (S++T)
 l:∀T,cz [d] (S++T)=.ok (.int xs.length) (S++T)
theorem QD.lst{S:Store}{xs:List D}:QD S (.lst xs) xs:=⟨λ_=>rfl,λ_=>alq,λ_=>HI⟩
theorem QD.ptr:True:=trivial
section
variable{S:Store}{n:Nat}{cs:List Int}
theorem ZF{α:Type}{f:α->D}{Q:α->Prop}{ys xs:List D}{E:D->D->Prop}(h:∀y∈ys,∃x∈xs,E x y)(lG:∀x y,E x y->∃c,y=f c/\Q c):∃l:List α,ys=l.map f/\∀c∈l,Q c:=YH λy bD=>by
 grind
theorem QE{p q z:Int}(hq:q≠0)(h:p * 6=z * q)(hz:z.natAbs<=24):ZJ.k7 6 24 (Rat.divInt p q):=by
 refine⟨z,?_,hz⟩;rw[show(((6:Nat):Rat))=Rat.divInt 6 1 by rfl,Rat.divInt_mul_divInt,<-ZJ.Qv z,Int.mul_one];exact(KW hq (by decide)).mpr (by omega)
theorem alu{p q:Int}(h1 : -4<=p)(h2:p<=4)(aH:q=1\/q=2\/q=3):z2 [.int p,.int q] S=.ok (eg (Rat.divInt p q)) S/\ZJ.k7 6 24 (Rat.divInt p q):=by
 have b1:Bd 4 p:=by unfold Bd;have:(2:Nat) ^ 4=16:=by decide
                    omega
 have hH:Bd 4 q:=by unfold Bd;have:(2:Nat) ^ 4=16:=by decide
                    omega
 have hq:0<q:=by omega
 constructor
 .rw[ahL b1 hH (by decide) (by decide) (by omega),ahS]
  obtain⟨aw,e2⟩:=Qx (P:=p) hq _ rfl;rw[aw,e2];rfl
 .rcases aH with rfl|rfl|rfl
  .exact QE (z:=p * 6) (by decide) (by omega) (by omega)
  .exact QE (z:=p * 3) (by decide) (by omega) (by omega)
  .exact QE (z:=p * 2) (by decide) (by omega) (by omega)
theorem alv:lW n cs (Ed [.ptr n]) (λd=>∃r:Rat,d=eg r/\ZJ.k7 6 24 r):=λS dx=>by
 unfold Ed;refine dF rfl ?_;show a0 (xD [some (.ptr n)] S) _;simp[xD];refine(oQ (by omega) (by omega)).hW dx λd S1 ⟨j,cK,e⟩ hu=>?_;subst e;simp;refine(zx (by simp) (by simp) (by simp)).hW hu.1 λd S2 hd j9=>?_;refine(zx (by simp) (by simp) (by simp)).hW j9.1 λd' a4 mG mr=>?_;have ZI:=(hu.trans j9).trans mr;obtain⟨p,rfl,h1,h2⟩:∃p:Int,d=.int p /\ -4<=p/\p<=4:=by
  grind
 obtain⟨q,rfl,aH⟩:∃q:Int,d'=.int q/\(q=1\/q=2\/q=3):=by
  grind
 obtain⟨aw,e2⟩:=alu (S:=a4) h1 h2 aH;rw[aw,aS];exact uV ZI alc ⟨ZI,_,rfl,e2⟩
end
section
variable{α β:Type}
def xP(f:α->Rat):List α->Rat
 |[]=>0
 |x::l=>f x+xP f l
variable[DecidableEq α][DecidableEq β]
end
section
variable{S:Store}{k:Nat}
def Cl(G:Store):Prop:=∀m∈G,∀k,jy k m=true
theorem Cl.ok(h:Cl S):∀m∈S,jy S.length m=true:=λm hm=>h m hm _
end
structure axb where
 axc:List (Str×aB)
 axd:List (Str×aB)
 lp:aB
 le:aB
 axe:aB
 lm:aB
section
variable{W:hZ}{l m:FS}
def lD(W:hZ)(l m:FS):FS:=l.flatMap λp=>m.map λq=>(mul W p.1 q.1,p.2 * q.2)
theorem axf.symm:True:=trivial
end
def qm:SX :=
 (aL (bE (d2 (dc (aI (oC kS kS (af (.int 1)) (ak cz (ae (eName 0) ah)) (af (.int 30))))) (dc (aI (ak mM (ae (cC (cw (ey (eName 0)) (aP 1) cv (aq dy (eName 1) (af (.str "0123456789"))) [1])) ah)))))
 (a8 (af (.bl false)))
 bG)
 (a8 (uB (aq (aQ false) (eName 0) (af (.str "0"))) (aq (aQ true) (aq a7 (eName 0) (af (.int 0))) (af (.str "0"))))))
def o6:aB:=bZ 1 (bI 2 qm)
open PySem PySem.Spec L2 ZM TL
section
variable{S:Store}{sl:aT}
theorem alw{f:aM}{d:D}{xs:List D}(h:f sl S=.ok d S)(hs:D1 S d=some xs):mj f ah sl S=.ok xs S:=by
 unfold mj;rw[h];show(match D1 S d with
  |some xs=>(ah sl S).bind λds S2=>.ok (xs++ds) S2
  |none=>.bad)=_
 rw[hs];show Out.ok (xs++[]) S=_;simp
theorem Jf{l:List Nat}(h:∀c∈l,c<128):ku l:=λc hc=>by
 grind
end
open PySem PySem.Spec L2 ZM
section
variable{S:Store}
theorem QF{neg:Bool}{d:D}:aQ neg d d S=.bad\/aQ neg d d S=.ok (.bl (!neg)) S:=by
 unfold aQ;cases toP S d with
 |none=>simp
 |some p =>
  dsimp only;by_cases h:SeqAt.shaped p=true
  .rw[if_pos ⟨h,h⟩]
   have hc:PyData.eqv p p=true:=by
    unfold SeqAt.shaped at h;rw[Bool.and_eq_true]at h;exact SeqAt.eqv_refl p h.1
   grind
  grind
end
open PySem PySem.Spec L2 ZM
def alx(g:Nat)(p:(Nat×f')×Rat):(Nat×f')×Rat:=((p.1.1+g,p.1.2),p.2)
def aly(g:Nat)(q:(Nat×Nat×f')×Rat):(Nat×Nat×f')×Rat:=((q.1.1+g,q.1.2.1+g,q.1.2.2),q.2)
def alz(P Q:o5):o5:=⟨P.ends++Q.ends,P.starts++Q.starts.map (alx P.ends.length),P.Am++Q.Am.map (aly P.ends.length)⟩
section
theorem HZ:True:=trivial
end
theorem QG{o:SO}{sl:aT}{S:Store}(h:a0 o ⟨λeH ao=>eH=sl/\ao=S,λ_ _=>False,λ_ _=>False,λ_ _=>False,λ_ _ _=>False⟩):o=.nx sl S:=by
 cases o<;>simp_all
section
theorem ZL{j k:Nat}(h:j<=k):∀m,jy j m=true->jy k m=true
 | .lst xs,q=>iw h xs q
 | .dct _ ks vs,q=>by
  simp only[jy,Bool.and_eq_true]at q ⊢;exact⟨iw h _ q.1,iw h _ q.2⟩
 | .er _ ks vs,q=>by
  simp only[jy,Bool.and_eq_true]at q ⊢;exact⟨iw h _ q.1,iw h _ q.2⟩
 | .ins _ _ vs,q=>iw h vs q
 | .tab _ _,_=>rfl
 | .dead,_=>rfl
end
abbrev Jg:b_:=eu (aQ true) (eqO true ["Ratio"] [("Ratio",rm)] 12)
inductive aC where
 |go (x:List Nat)
 |stay
 |none
 |loop
 |scale (r:Rat)
 |seq
 |alt
inductive ag where
 |nd (k:aC) (cs:List ag)
def aC.word:aC->String
 | .go _=>"go"
 | .stay=>"stay"
 | .none=>"none"
 | .loop=>"loop"
 | .scale _=>"scale"
 | .seq=>"seq"
 | .alt=>"alt"
def aC.pay(f:Rat->D):aC->List D
 | .go x=>[.str (aj x)]
 | .scale r=>[f r]
 |_=>[]
structure o7(x:List Nat):Prop where
 pos:1<=x.length
 le:x.length<=8
 abc:∀c∈x,c∈abc
 ns:x≠[115,116,97,121]
 nn:x≠[110,111,110,101]
def aC.fit(b:Rat->Prop):aC->Nat->Prop
 | .go x,n=>n=0/\o7 x
 | .stay,n=>n=0
 | .none,n=>n=0
 | .loop,n=>n=1
 | .scale r,n=>n=1/\b r
 | .seq,n=>2<=n/\n<=6
 | .alt,n=>2<=n/\n<=6
theorem aC.fit_le{b:Rat->Prop}{k:aC}{n:Nat}(h:k.fit b n):n<=6:=by
 cases k<;>simp only[aC.fit]at h<;>omega
mutual
def ag.dat(f:Rat->D):ag->D
 | .nd k cs=>.tup (.str (Str.ofString k.word)::(k.pay f++ag.Et f cs))
def ag.Et(f:Rat->D):List ag->List D
 |[]=>[]
 |c::cs=>ag.dat f c::ag.Et f cs
def ag.size:ag->Nat
 | .nd _ cs=>ag.sizes cs+1
def ag.sizes:List ag->Nat
 |[]=>0
 |c::cs=>ag.size c+ag.sizes cs
def ag.dep:ag->Nat
 | .nd _ cs=>ag.deps cs+1
def ag.deps:List ag->Nat
 |[]=>0
 |c::cs=>max (ag.dep c) (ag.deps cs)
def ag.ok(b:Rat->Prop):ag->Prop
 | .nd k cs=>k.fit b cs.length/\ag.rC b cs
def ag.rC(b:Rat->Prop):List ag->Prop
 |[]=>True
 |c::cs=>ag.ok b c/\ag.rC b cs
def ag.pre:List Nat->ag->List (List Nat×ag)
 |s,.nd k cs=>(s,.nd k cs)::ag.kd s 0 cs
def ag.kd:List Nat->Nat->List ag->List (List Nat×ag)
 |_,_,[]=>[]
 |s,i,c::cs=>ag.pre (s++[i]) c++ag.kd s (i+1) cs
end
def ag.cj:ag->aC|.nd k _=>k
def ag.cs:ag->List ag|.nd _ cs=>cs
theorem ag.ZO{f:Rat->D}:∀cs:List ag,ag.Et f cs=cs.map (ag.dat f)
 |[]=>by rw[ag.Et];rfl
 |c::cs=>by rw[ag.Et,ag.ZO cs];rfl
theorem ag.hy{f:Rat->D}(k:aC)(cs:List ag):ag.dat f (.nd k cs)=.tup (.str (Str.ofString k.word)::(k.pay f++cs.map (ag.dat f))):=by rw[ag.dat,ag.ZO]
theorem ag.QH{b:Rat->Prop}:∀{cs:List ag},ag.rC b cs↔∀c∈cs,ag.ok b c
 |[]=>by simp[ag.rC]
 |c::cs=>by rw[ag.rC,ag.QH (cs:=cs)];simp
theorem ag.i6{b:Rat->Prop}{k:aC}{cs:List ag}:ag.ok b (.nd k cs)↔k.fit b cs.length/\∀c∈cs,ag.ok b c:=by rw[ag.ok,ag.QH]
theorem ag.ind{motive:ag->Prop}(h:∀k cs,(∀c∈cs,motive c)->motive (.nd k cs)):∀P,motive P:=λP =>
 ag.rec (motive_1:=motive) (motive_2:=λcs=>∀c∈cs,motive c) (λk cs ih=>h k cs ih) (λc hc=>by cases hc) (λc cs h1 h2 d hd=>by
  rcases fQ.mp hd with rfl|hd
  .exact h1
  .exact h2 d hd) P
theorem ag.Eu{k:aC}{cs:List ag}{c:ag}(hc:c∈cs):c.dep+1<=(ag.nd k cs).dep:=by
 rw[ag.dep.eq_def (ag.nd k cs)];simp only
 induction cs with
 |nil=>cases hc
 |cons d cs ih =>
  rw[ag.deps];rcases fQ.mp hc with rfl|hc
  .omega
  .have:=ih hc;omega
theorem ag.vq(P:ag):1<=P.dep:=by cases P;rw[ag.dep];omega
theorem ag.size_pos(P:ag):1<=P.size:=by cases P;rw[ag.size];omega
def hA(s:List Nat):Nat->List ag->List (List Nat×ag)
 |_,[]=>[]
 |i,c::cs=>(s++[i],c)::hA s (i+1) cs
def ag.tU(t:List (List Nat×ag)):List (List Nat×ag):=t.flatMap λp=>ag.pre p.1 p.2
theorem ZP(s:List Nat):∀(i:Nat) (cs:List ag),ag.tU (hA s i cs)=ag.kd s i cs
 |i,[]=>by rw[ag.kd];rfl
 |i,c::cs=>by
  rw[ag.kd,hA];rw[<-ZP s (i+1) cs];rfl
def ZQ:List (List Nat×ag)->List (List Nat×ag)
 |[]=>[]
 |(s,.nd _ cs)::r=>hA s 0 cs++r
def fY(P:ag):Nat->List (List Nat×ag)
 |0=>[([],P)]
 |i+1=>ZQ (fY P i)
theorem alA:∀t:List (List Nat×ag),ag.tU (ZQ t)=(ag.tU t).tail
 |[]=>rfl
 |(s,.nd k cs)::r=>by
  show ag.tU (hA s 0 cs++r)=(ag.pre s (.nd k cs)++ag.tU r).tail;rw[ag.pre,List.cons_append,List.tail_cons,<-ZP];show List.flatMap _ _=_;rw[List.flatMap_append];rfl
theorem Jh(P:ag):∀i,ag.tU (fY P i)=(ag.pre [] P).drop i
 |0=>by show ag.pre [] P++[]=_;simp
 |i+1=>by rw[fY,alA,Jh P i,List.tail_drop]
theorem ZR(s:List Nat)(p:ag)(r:List (List Nat×ag)):∃t,ag.tU ((s,p)::r)=(s,p)::t:=by
 obtain⟨k,cs⟩:=p;exact⟨_,by show ag.pre s (.nd k cs)++_=_;rw[ag.pre,List.cons_append]⟩
theorem Ji{P:ag}{i:Nat}(h:i<(ag.pre [] P).length):∃r,fY P i=(ag.pre [] P)[i]::r:=by
 have e:=Jh P i;rw[List.drop_eq_getElem_cons h]at e;cases q:fY P i with
 |nil=>rw[q]at e;cases e
 |cons x r =>
  obtain⟨s,p⟩:=x;rw[q]at e;obtain⟨t,e2⟩:=ZR s p r;rw[e2]at e;injection e with e _
  exact⟨r,by rw[e]⟩
theorem QI{P:ag}{i:Nat}(h:(ag.pre [] P).length<=i):fY P i=[]:=by
 have e:=Jh P i;rw[List.drop_eq_nil_of_le h]at e;cases q:fY P i with
 |nil=>rfl
 |cons x r =>
  obtain⟨s,p⟩:=x;rw[q]at e;obtain⟨t,e2⟩:=ZR s p r;rw[e2]at e;cases e
mutual
theorem ag.vr:∀(s:List Nat) (P:ag),(ag.pre s P).length=P.size
 |s,.nd k cs=>by rw[ag.pre,ag.size,List.length_cons,ag.ZS s 0 cs]
theorem ag.ZS:∀(s:List Nat) (i:Nat) (cs:List ag),(ag.kd s i cs).length=ag.sizes cs
 |s,i,[]=>by rw[ag.kd,ag.sizes];rfl
 |s,i,c::cs=>by rw[ag.kd,ag.sizes,List.length_append,ag.vr (s++[i]) c,ag.ZS s (i+1) cs]
end
theorem ag.QJ{b:Rat->Prop}:∀(P:ag) (s:List Nat),P.ok b->∀p∈ag.pre s P,p.2.ok b/\p.1.length+p.2.dep<=s.length+P.dep:=by
 refine ag.ind λk cs ih s h p hp=>?_;rw[ag.pre]at hp;rcases fQ.mp hp with rfl|hp
 .exact⟨h,Nat.le_refl _⟩
 .have hc:=(ag.i6.mp h).2
  have key:∀(l:List ag) (i:Nat),(∀c∈l,c∈cs)->p∈ag.kd s i l->p.2.ok b/\p.1.length+p.2.dep<=s.length+(ag.nd k cs).dep:=by
   intro l
   induction l with
   |nil=>intro i _ hp;rw[ag.kd]at hp;cases hp
   |cons c l xQ =>
    intro i hl hp;rw[ag.kd]at hp;rcases nh.mp hp with hp|hp
    .have nE:=hl c (by simp)
     obtain⟨h1,h2⟩:=ih c nE (s++[i]) (hc c nE) p hp;have:=ag.Eu (k:=k) nE;rw[List.length_append,List.length_singleton]at h2;exact⟨h1,by omega⟩
    .exact xQ (i+1) (λd hd=>hl d (by simp[hd])) hp
  exact key cs 0 (λc hc=>hc) hp
theorem QK{P:ag}{i:Nat}:(fY P i).length<=P.size:=by
 have h1:(fY P i).length<=(ag.tU (fY P i)).length:=by
  generalize fY P i=t
  induction t with
  |nil=>exact jW _
  |cons x t ih =>
   obtain⟨s,q⟩:=x;show _<=(ag.pre s q++ag.tU t).length;rw[List.length_append,ag.vr];have:=q.size_pos;simp only[List.length_cons];omega
 rw[Jh,List.length_drop,ag.vr]at h1;omega
def d0(s:List Nat):D:=.tup (s.map fun(i:Nat)=>.int (i:Int))
def g4(f:Rat->D)(p:List Nat×ag):D:=.tup [d0 p.1,p.2.dat f]
theorem Jj{k:Nat}(s:List Nat):bf k (d0 s)=true:=by
 unfold d0;rw[Nz];exact Wi (by
  rw[lV];intro d hd;obtain⟨i,_,rfl⟩:=iI.mp hd;rfl)
theorem m4{f:Rat->D}(hf:∀k r,bf k (f r)=true):∀(P:ag) (k:Nat),bf k (P.dat f)=true:=by
 refine ag.ind λcj cs ih k=>?_;rw[ag.hy,Nz,HB,Wh];have h1:bH k (cj.pay f)=true:=by cases cj<;>simp[aC.pay,hf]
 have h2:bH k (cs.map (ag.dat f))=true:=by
  rw[lV];intro d hd;obtain⟨c,hc,rfl⟩:=iI.mp hd;exact ih c hc k
 rw[h1,h2];simp
theorem Ew{f:Rat->D}(hf:∀k r,bf k (f r)=true)(p:List Nat×ag)(k:Nat):bf k (g4 f p)=true:=by
 unfold g4;rw[Nz,HB,HB,Jj,m4 hf];simp
open PySem PySem.Spec L2
def m5:SX :=
 (aL (bE (aI (aq dy (aq a7 (eName 0) (af (.int 0))) (ak bu (ae (af (.str "seq")) (ae (af (.str "alt")) ah)))))
 (a8 (ak oJ (ae (e0 false (eName 0) (ec (af (.int 1))) fN) ah)))
 bG)
 (a8 (eF (aI (aq dy (aq a7 (eName 0) (af (.int 0))) (ak bu (ae (af (.str "loop")) (ae (af (.str "scale")) ah))))) (ak d_ (ae (aq a7 (eName 0) (aq kR (ak cz (ae (eName 0) ah)) (af (.int 1)))) ah)) (ak d_ ah))))
def rD:aB:=bZ 1 (bI 1 m5)
def xR:SX :=
 (aL (bJ (af (.str "abcdefghijklmnopqrstuvwxyz")) (aP 2))
 (aL (bJ (dD il lM (af (.str "")) (ae (cC (cw (pP (ae (ak iy (ae (eName 0) (ae (af (.int 8)) ah))) ah)) (aP 4) cv (ak j7 (ae (eName 0) (ae (eName 2) ah))) [4])) ah)) (aP 3))
 (aL (bJ (ak bu (ae (ak iy (ae (eName 0) (ae (aq bC (ak cz (ae (eName 3) ah)) (af (.int 1))) ah))) (ae (ak iy (ae (eName 0) (ae (af (.int 26)) ah))) ah))) (hj (c1 (aP 5) (c1 (aP 6) gH))))
 (aL (bJ (cC (cw (pP (ae (eName 1) ah)) (aP 4) cv (aq bC (aq bC (e0 false (eName 3) fN (ec (eName 5))) (aq a7 (eName 2) (aq jB (ak j2 (ae (aq bC (eName 6) (aq ho (af (.int 3)) (eName 4))) ah)) (af (.int 26))))) (e0 false (eName 3) (ec (eName 5)) fN)) [4])) (aP 7))
 (a8 (cC (cw (ey (eName 7)) (aP 8) cv (eF (aI (aq dy (eName 8) (ak bu (ae (af (.str "stay")) (ae (af (.str "none")) ah))))) (aq bC (eName 8) (af (.str "q"))) (eName 8)) [8])))))))
def Ex:aB:=bZ 2 (bI 9 xR)
def rE(again:aB):SX :=
 (aL (bJ (ak iy (ae (eName 0) (ae (af (.int 9)) ah))) (aP 3))
 (aL (bE (d2 (aI (aq lR (eName 2) (af (.int 2)))) (aI (aq lR (eName 3) (af (.int 2)))))
 (a8 (ak j7 (ae (eName 0) (ae (aq bC (aq ho (ak d_ (ae (ak bu (ae (af (.str "go")) (ae (ak j7 (ae (eName 0) (ae (eName 1) ah))) ah))) ah)) (af (.int 5))) (ak d_ (ae (ak bu (ae (af (.str "stay")) ah)) (ae (ak bu (ae (af (.str "none")) ah)) ah)))) ah))))
 bG)
 (aL (bE (aI (aq lR (eName 3) (af (.int 4))))
 (a8 (ak bu (ae (af (.str "loop")) (ae (ak again (ae (eName 0) (ae (eName 1) (ae (aq kR (eName 2) (af (.int 1))) ah)))) ah))))
 bG)
 (aL (bE (aI (aq (aQ false) (eName 3) (af (.int 4))))
 (a8 (ak bu (ae (af (.str "scale")) (ae (ak Ed (ae (eName 0) ah)) (ae (ak again (ae (eName 0) (ae (eName 1) (ae (aq kR (eName 2) (af (.int 1))) ah)))) ah)))))
 bG)
 (aL (bJ (aq bC (af (.int 2)) (ak iy (ae (eName 0) (ae (eF (aI (aq jd (eName 2) (af (.int 3)))) (af (.int 2)) (af (.int 1))) ah)))) (aP 4))
 (aL (bJ (cC (cw (pP (ae (eName 4) ah)) (aP 6) cv (ak again (ae (eName 0) (ae (eName 1) (ae (aq j0 (aq kR (eName 2) (af (.int 1))) (eName 4)) ah)))) [6])) (aP 5))
 (a8 (aq bC (ak bu (ae (ak j7 (ae (eName 0) (ae (ak d_ (ae (af (.str "seq")) (ae (af (.str "alt")) ah))) ah))) ah)) (ak Ca (ae (eName 5) ah))))))))))
def xS:Nat->aB
 |0=>λ_ _=>.bad
 |k+1=>bZ 3 (bI 7 (rE (xS k)))
def ZU:aB:=xS 9
def tV:SX :=
 (aL (bE (d2 (dc (aI (ak dM (ae (eName 0) (ae (af (.ty "str")) ah))))) (d2 (dc (aI (oC kS kS (af (.int 1)) (ak cz (ae (eName 0) ah)) (af (.int 8))))) (aI (aq dy (eName 0) (af (.tup [.str "stay",.str "none"]))))))
 (a8 (af (.bl false)))
 bG)
 (a8 (ak mM (ae (cC (cw (ey (eName 0)) (aP 1) cv (aq dy (eName 1) (af (.str "abcdefghijklmnopqrstuvwxyz"))) [1])) ah))))
def vt:aB:=bZ 1 (bI 2 tV)
def iD:SX :=
 (aL (bE (aI (aq dy (aq a7 (eName 0) (af (.int 0))) (ak bu (ae (af (.str "seq")) (ae (af (.str "alt")) ah)))))
 (a8 (ak oJ (ae (e0 false (eName 0) (ec (af (.int 1))) fN) ah)))
 bG)
 (a8 (eF (aI (aq dy (aq a7 (eName 0) (af (.int 0))) (ak bu (ae (af (.str "loop")) (ae (af (.str "scale")) ah))))) (ak d_ (ae (aq a7 (eName 0) (oB G2 (af (.int 1)))) ah)) (ak d_ ah))))
def k8:aB:=bZ 1 (bI 1 iD)
def kF(isr:aB):SX :=
 (aL (bE (d2 (dc (aI (ak dM (ae (eName 0) (ae (af (.ty "tuple")) ah))))) (d2 (aI (aq (aQ false) (ak cz (ae (eName 0) ah)) (af (.int 0)))) (dc (aI (ak dM (ae (aq a7 (eName 0) (af (.int 0))) (ae (af (.ty "str")) ah)))))))
 (a8 (af (.bl false)))
 bG)
 (aL (bE (aI (aq dy (aq a7 (eName 0) (af (.int 0))) (af (.tup [.str "stay",.str "none"]))))
 (a8 (aq (aQ false) (ak cz (ae (eName 0) ah)) (af (.int 1))))
 bG)
 (aL (bE (aI (aq (aQ false) (aq a7 (eName 0) (af (.int 0))) (af (.str "go"))))
 (a8 (gn (aq (aQ false) (ak cz (ae (eName 0) ah)) (af (.int 2))) (ak vt (ae (aq a7 (eName 0) (af (.int 1))) ah))))
 bG)
 (aL (bE (aI (aq dy (aq a7 (eName 0) (af (.int 0))) (ak bu (ae (af (.str "seq")) (ae (af (.str "alt")) ah)))))
 (a8 (oC kS kS (af (.int 2)) (aq kR (ak cz (ae (eName 0) ah)) (af (.int 1))) (af (.int 6))))
 bG)
 (aL (bE (aI (aq (aQ false) (aq a7 (eName 0) (af (.int 0))) (af (.str "loop"))))
 (a8 (aq (aQ false) (ak cz (ae (eName 0) ah)) (af (.int 2))))
 bG)
 (a8 (gn (aq (aQ false) (aq a7 (eName 0) (af (.int 0))) (af (.str "scale"))) (gn (aq (aQ false) (ak cz (ae (eName 0) ah)) (af (.int 3))) (ak isr (ae (aq a7 (eName 0) (af (.int 1))) (ae (af (.cls "Ratio")) ah)))))))))))
def xT(isr:aB):aB:=bZ 1 (bI 1 (kF isr))
def Ey(isr:aB):SX :=
 (aL (qM 1 2 (ae (ak oE (ae (ak bu (ae (ak bu ah) (ae (eName 0) ah))) ah)) (ae (af (.int 0)) ah)))
 (qN (aI (aq (eu (aQ true) (eqO true ["Ratio"] [("Ratio",rm)] 12)) (eName 1) (ak d_ ah)))
 (aL (bJ (dD iT sL (eName 1) ah) (hj (c1 (aP 3) (c1 (aP 4) gH))))
 (aL (uN 2 (λi j=>i+j) (af (.int 1)))
 (aL (bE (d2 (aI (aq jd (eName 2) (af (.int 40)))) (d2 (aI (aq wx (ak cz (ae (eName 3) ah)) (af (.int 8)))) (dc (aI (ak (xT isr) (ae (eName 4) ah))))))
 (eL (ak (eo "InvalidPlan" "InvalidPlan" ["path"]) (ae (eName 3) ah)))
 bG)
 (aL (bJ (cC (cw (pR (ae (ak k8 (ae (eName 4) ah)) ah)) (hj (c1 (aP 6) (c1 (aP 7) gH))) cv (ak bu (ae (ak bu (mj (eName 3) (ae (eName 6) ah))) (ae (eName 7) ah))) [6,7])) (aP 5))
 (km (dD iT uL (eName 1) (ae (xv false (eName 5)) ah)))))))))
def vu(isr:aB):aB:=bZ 1 (bI 8 (Ey isr))
def QL(isr:aB):SX :=
 (aL (km (ak (vu isr) (ae (eName 0) ah)))
 (bJ (ak oE (ae (ak bu (ae (ak bu ah) (ae (eName 0) ah))) ah)) (aP 1)))
def Jk(isr:aB):cJ :=
 (aI (aq (eu (aQ true) (eqO true ["Ratio"] [("Ratio",rm)] 12)) (eName 1) (ak d_ ah)))
def QM(isr:aB):SX :=
 (bJ (dD iT sL (eName 1) ah) (hj (c1 (aP 2) (c1 (aP 3) gH))))
def QN(isr:aB):aM :=
 (ak bu (ae (eName 2) (ae (eName 3) ah)))
def Jl(isr:aB):SX :=
 (aL (bJ (cC (cw (pR (ae (ak k8 (ae (eName 3) ah)) ah)) (hj (c1 (aP 5) (c1 (aP 6) gH))) cv (ak bu (ae (ak bu (mj (eName 2) (ae (eName 5) ah))) (ae (eName 6) ah))) [5,6])) (aP 4))
 (km (dD iT uL (eName 1) (ae (xv false (eName 4)) ah))))
def ZV(isr:aB):ZG.xM:=ZG.xO 1 7 (QL isr) (Jk isr) (QM isr) (QN isr) (Jl isr)
def QO(isr:aB)(off:Nat):du->ZG.xJ:=ZG.xN off 1 [] (ZV isr)
open PySem PySem.Spec L2
def Jm(S:Store)(n:Nat):Option Str:=match S[n]? with
 |some (.ins c _ _)=>some c
 |_=>none
def Ez(cs:List Str)(f:Str)(op:Int->Int->Int)(fo fe:aM):SX:=λsl S=>(fo sl S).toS sl λo S1=>match o with
 | .ptr n=>(match S1[n]? with
  |some (.ins c ns vs)=>if c∈cs then(match gq f ns vs with
   |some (.int i)=>(fe sl S1).toS sl λe S2=>(match e with
    | .int j=>if Jm S2 n=some c then(match pU cs f (.ptr n) (.int (op i j)) S2 with
     |some a4=>.nx sl a4
     |none=>.bad)else .bad
    |_=>.bad)
   |_=>.bad)else .bad
  |_=>.bad)
 |_=>.bad
theorem k9{X:Cx}{f:Str}{C:Addr}(h:NoAttr X.K C f):Nh X f C .fld:=h
section
variable{X:Cx}{W:WX}{o e:Expr}{fo fe:aM}{pos oK:Pos}
theorem ZY{cs:List Str}{fl:Str}(hc:∀c∈cs,∀C,X.mg c=some (.ref C)->Cls X.K C/\NoAttr X.K C fl)(aY:E X W o fo)(he:E X W e fe):ES X W (.AugAssign (.Attribute o fl oK) .Add e pos) (Ez cs fl (λi j=>i+j) fo fe):=by
 refine PS.imp (ps_fldaug aY he in_add) λD σ H ⟨ρ,S,sl,w,rs,p⟩=>?_;refine⟨ρ,S,sl,w,rs,aV.mono (bV.Cr rs p) λx H1 ⟨aA,S1,e6,x1,aF,lQ,r1,p1⟩=>?_⟩;split at p1
 .rename_i n
  split at p1
  .rename_i c ns vs en
   split at p1
   .rename_i gK
    rw[Rep]at r1;obtain⟨a,ea,q⟩:=r1;obtain⟨C,bM,fs,hm,h1,hn,cu⟩:=aF.ob n a _ q en;obtain⟨dS,cX⟩:=hc c gK C hm;split at p1
    .rename_i i wI
     obtain⟨v,bP,aW⟩:=GZ hn cu wI;rw[Rep]at aW;subst aW;refine⟨a,C,bM,fs,_,ea,h1,dS,cX,bP,aA,S1,sl,aF,lQ,aV.mono (bV.Cr lQ p1) λy aD ⟨aO,S2,cN,x2,cm,Hb,r2,p2⟩=>?_⟩;split at p2
     .rename_i j
      rw[Rep]at r2;subst r2;split at p2
      .rename_i j'
       split at p2
       .rename_i a4 a6
        unfold pU at a6;simp only at a6;split at a6
        .rename_i c' sx fy Z0
         have alB:c'=c:=by
          unfold Jm at j';rw[Z0]at j';exact Option.some.inj j'
         subst alB;split at a6
         .rename_i axg
          cases a6;have b3:=x2.get q;obtain⟨eA,IU,u0,iu,nr,lH,Ie⟩:=cm.ob n a _ b3 Z0;have alC:eA=C:=by
           rw[hm]at iu;injection iu with z
           injection z with z
           exact z.symm
          subst alC;have xp:Ext aO aD aO (upd aD a (.ins eA IU (putF fl (.int (i+j)) u0))):=Ext.putL b3;obtain⟨lL,ig⟩:=Ng (f:=fl) (d:=.int (i+j)) (v:=.int (i+j)) (ρ:=aO) (H:=aD) (by rw[Rep]) lH Ie;refine⟨i,j,rfl,rfl,IU,u0,nr,by grind,?_⟩;exact p2 _ aO _ xp (cm.put (m:=.ins c' (j3 fl (.int (i+j)) sx fy).1 (j3 fl (.int (i+j)) sx fy).2) b3 ⟨eA,IU,_,hm,upd_same,lL,ig.ext xp⟩) (Hb.ext xp)
         .cases a6
        .cases a6
       .exact p2.elim
      .exact p2.elim
     .exact p2.elim
    .exact p1.elim
   .exact p1.elim
  .exact p1.elim
 .exact p1.elim
end
def rF(again:aB):SX :=
 (aL (bE (aI (aq (aQ false) (aq a7 (eName 0) (af (.int 0))) (af (.str "go"))))
 (a8 (aq a7 (eName 0) (af (.int 1))))
 bG)
 (aL (bJ (cC (cw (ey (ak rD (ae (eName 0) ah))) (aP 2) cv (ak again (ae (eName 2) ah)) [2])) (aP 1))
 (aL (bE (aI (aq (aQ false) (aq a7 (eName 0) (af (.int 0))) (af (.str "loop"))))
 (a8 (aq bC (aq bC (af (.str "[")) (aq a7 (eName 1) (af (.int 0)))) (af (.str "]"))))
 bG)
 (aL (bE (aI (aq (aQ false) (aq a7 (eName 0) (af (.int 0))) (af (.str "scale"))))
 (a8 (aq bC (aq bC (ak z5 (ae (aq a7 (eName 0) (af (.int 1))) ah)) (af (.str ":"))) (aq a7 (eName 1) (af (.int 0)))))
 bG)
 (a8 (eF (aI (aq (aQ false) (eName 1) (ak d_ ah))) (aq a7 (eName 0) (af (.int 0))) (aq bC (aq bC (af (.str "(")) (dD il lM (eF (aI (aq (aQ false) (aq a7 (eName 0) (af (.int 0))) (af (.str "seq")))) (af (.str ", ")) (af (.str " | "))) (ae (eName 1) ah))) (af (.str ")")))))))))
def vv:Nat->aB
 |0=>λ_ _=>.bad
 |k+1=>bZ 1 (bI 3 (rF (vv k)))
def tW:aB:=vv 9
def k_(again:aB):SX :=
 (aL (bE (aI (aq (aQ false) (aq a7 (eName 0) (af (.int 0))) (af (.str "go"))))
 (a8 (aq a7 (eName 0) (af (.int 1))))
 bG)
 (aL (bE (aI (aq dy (aq a7 (eName 0) (af (.int 0))) (af (.tup [.str "stay",.str "none"]))))
 (a8 (aq a7 (eName 0) (af (.int 0))))
 bG)
 (aL (bE (aI (aq (aQ false) (aq a7 (eName 0) (af (.int 0))) (af (.str "loop"))))
 (a8 (DJ [(af (.str "[")),(oB nV (ak again (ae (aq a7 (eName 0) (af (.int 1))) ah))),(af (.str "]"))]))
 bG)
 (aL (bE (aI (aq (aQ false) (aq a7 (eName 0) (af (.int 0))) (af (.str "scale"))))
 (a8 (DJ [(oB nV (cQ "text" [("Ratio",rn)] (aq a7 (eName 0) (af (.int 1))) ah)),(af (.str ":")),(oB nV (ak again (ae (aq a7 (eName 0) (af (.int 2))) ah)))]))
 bG)
 (aL (bJ (eF (aI (aq (aQ false) (aq a7 (eName 0) (af (.int 0))) (af (.str "seq")))) (af (.str ", ")) (af (.str " | "))) (aP 1))
 (a8 (aq bC (aq bC (af (.str "(")) (dD il lM (eName 1) (ae (cC (cw (ey (e0 false (eName 0) (ec (af (.int 1))) fN)) (aP 2) cv (ak again (ae (eName 2) ah)) [2])) ah))) (af (.str ")")))))))))
def qn:Nat->aB
 |0=>λ_ _=>.bad
 |k+1=>bZ 1 (bI 3 (k_ (qn k)))
def QP:aB:=qn 9
def tX:SX :=
 (a8 (uB (ak o6 (ae (eName 0) ah)) (gn (aq (aQ false) (e0 false (eName 0) fN (ec (af (.int 1)))) (af (.str "-"))) (gn (aq (aQ true) (eName 0) (af (.str "-0"))) (ak o6 (ae (e0 false (eName 0) (ec (af (.int 1))) fN) ah))))))
def xU:aB:=bZ 1 (bI 1 tX)
def xV:SX :=
 (aL (bE (dc (aI (ak dM (ae (eName 0) (ae (af (.ty "str")) ah)))))
 (eL (ak (eo "InvalidText" "InvalidText" ["given"]) (ae (eName 0) ah)))
 bG)
 (aL (bJ (dD il xA (eName 0) (ae (af (.str "/")) ah)) (hj (c1 (aP 1) (c1 (aP 2) (c1 (aP 3) gH)))))
 (aL (bE (d2 (dc (aI (ak xU (ae (eName 1) ah)))) (lE (aI (aq (aQ true) (eName 2) (af (.str "")))) (d2 (dc (aI (ak o6 (ae (eName 3) ah)))) (aI (aq (aQ false) (eName 3) (af (.str "0")))))))
 (eL (ak (eo "InvalidText" "InvalidText" ["given"]) (ae (eName 0) ah)))
 bG)
 (aL (bJ (cC (ak (pT "Ratio" zY) (ae (ak nX (ae (eName 1) ah)) (ae (eF (aI (aq (aQ true) (eName 2) (af (.str "")))) (ak nX (ae (eName 3) ah)) (af (.int 1))) ah)))) (aP 4))
 (aL (bE (aI (aq (aQ true) (cQ "text" [("Ratio",rn)] (eName 4) ah) (eName 0)))
 (eL (ak (eo "InvalidText" "InvalidText" ["given"]) (ae (eName 0) ah)))
 bG)
 (a8 (eName 4)))))))
def tY:aB:=bZ 1 (bI 5 xV)
def EA:SX :=
 (aL (pV ["TextReader"] "whole" (eName 1) (eName 0))
 (pV ["TextReader"] "at" (af (.int 0)) (eName 0)))
def xW:aB:=bZ 2 (bI 2 EA)
def EB:SX :=
 (aL (bJ (aq (aQ false) (e0 false (cR "whole" [("TextReader",.fld)] (eName 0)) (ec (cR "at" [("TextReader",.fld)] (eName 0))) (ec (aq bC (cR "at" [("TextReader",.fld)] (eName 0)) (ak cz (ae (eName 1) ah))))) (eName 1)) (aP 2))
 (aL (Ez ["TextReader"] "at" (λi j=>i+j) (eName 0) (eF (aI (eName 2)) (ak cz (ae (eName 1) ah)) (af (.int 0))))
 (a8 (eName 2))))
def iE:aB:=bZ 2 (bI 3 EB)
def xX(again:aB):SX :=
 (aL (bJ (ak oE (ae (cQ "plan" [("TextReader",again)] (eName 0) (ae (aq bC (eName 1) (af (.int 1))) ah)) ah)) (aP 2))
 (aL (bJ (eF (aI (cQ "taken" [("TextReader",iE)] (eName 0) (ae (af (.str ", ")) ah))) (af (.str "seq")) (af (.str "alt"))) (aP 3))
 (aL (bE (lE (aI (aq (aQ false) (eName 3) (af (.str "alt")))) (dc (aI (cQ "taken" [("TextReader",iE)] (eName 0) (ae (af (.str " | ")) ah)))))
 (eL (ak (eo "InvalidText" "InvalidText" ["given"]) (ae (cR "whole" [("TextReader",.fld)] (eName 0)) ah)))
 bG)
 (aL (km (dD iT sJ (eName 2) (ae (cQ "plan" [("TextReader",again)] (eName 0) (ae (aq bC (eName 1) (af (.int 1))) ah)) ah)))
 (aL (qN (aI (cQ "taken" [("TextReader",iE)] (eName 0) (ae (eF (aI (aq (aQ false) (eName 3) (af (.str "seq")))) (af (.str ", ")) (af (.str " | "))) ah)))
 (km (dD iT sJ (eName 2) (ae (cQ "plan" [("TextReader",again)] (eName 0) (ae (aq bC (eName 1) (af (.int 1))) ah)) ah))))
 (aL (bE (dc (aI (cQ "taken" [("TextReader",iE)] (eName 0) (ae (af (.str ")")) ah))))
 (eL (ak (eo "InvalidText" "InvalidText" ["given"]) (ae (cR "whole" [("TextReader",.fld)] (eName 0)) ah)))
 bG)
 (a8 (ak bu (ae (eName 3) (mj (eName 2) ah))))))))))
def EC(again:aB):aB:=bZ 2 (bI 4 (xX again))
def ED:SX :=
 (aL (bJ (cR "at" [("TextReader",.fld)] (eName 0)) (aP 2))
 (aL (qN (lE (aI (aq lR (cR "at" [("TextReader",.fld)] (eName 0)) (ak cz (ae (cR "whole" [("TextReader",.fld)] (eName 0)) ah)))) (aI (aq dy (aq a7 (cR "whole" [("TextReader",.fld)] (eName 0)) (cR "at" [("TextReader",.fld)] (eName 0))) (eName 1))))
 (Ez ["TextReader"] "at" (λi j=>i+j) (eName 0) (af (.int 1))))
 (a8 (e0 false (cR "whole" [("TextReader",.fld)] (eName 0)) (ec (eName 2)) (ec (cR "at" [("TextReader",.fld)] (eName 0)))))))
def rG:aB:=bZ 2 (bI 3 ED)
def rH(again:aB):SX :=
 (aL (bE (aI (aq jd (eName 1) (af (.int 8))))
 (eL (ak (eo "InvalidText" "InvalidText" ["given"]) (ae (cR "whole" [("TextReader",.fld)] (eName 0)) ah)))
 bG)
 (aL (bE (aI (cQ "taken" [("TextReader",iE)] (eName 0) (ae (af (.str "[")) ah)))
 (aL (bJ (ak bu (ae (af (.str "loop")) (ae (cQ "plan" [("TextReader",again)] (eName 0) (ae (aq bC (eName 1) (af (.int 1))) ah)) ah))) (aP 2))
 (aL (bE (dc (aI (cQ "taken" [("TextReader",iE)] (eName 0) (ae (af (.str "]")) ah))))
 (eL (ak (eo "InvalidText" "InvalidText" ["given"]) (ae (cR "whole" [("TextReader",.fld)] (eName 0)) ah)))
 bG)
 (a8 (eName 2))))
 bG)
 (aL (bE (aI (cQ "taken" [("TextReader",iE)] (eName 0) (ae (af (.str "(")) ah)))
 (a8 (cQ "row" [("TextReader",(EC again))] (eName 0) (ae (eName 1) ah)))
 bG)
 (aL (bJ (cQ "run_of" [("TextReader",rG)] (eName 0) (ae (af (.str "abcdefghijklmnopqrstuvwxyz")) ah)) (aP 3))
 (aL (bE (aI (aq dy (eName 3) (af (.tup [.str "stay",.str "none"]))))
 (a8 (ak bu (ae (eName 3) ah)))
 bG)
 (aL (bE (aI (aq (aQ true) (eName 3) (af (.str ""))))
 (a8 (ak bu (ae (af (.str "go")) (ae (eName 3) ah))))
 bG)
 (aL (bJ (ak tY (ae (cQ "run_of" [("TextReader",rG)] (eName 0) (ae (af (.str "-/0123456789")) ah)) ah)) (aP 4))
 (aL (bE (dc (aI (cQ "taken" [("TextReader",iE)] (eName 0) (ae (af (.str ":")) ah))))
 (eL (ak (eo "InvalidText" "InvalidText" ["given"]) (ae (cR "whole" [("TextReader",.fld)] (eName 0)) ah)))
 bG)
 (a8 (ak bu (ae (af (.str "scale")) (ae (eName 4) (ae (cQ "plan" [("TextReader",again)] (eName 0) (ae (aq bC (eName 1) (af (.int 1))) ah)) ah)))))))))))))
def m6:Nat->aB
 |0=>λ_ _=>.bad
 |k+1=>bZ 2 (bI 5 (rH (m6 k)))
def Jo:aB:=m6 9
def Jp(isr:aB):SX :=
 (aL (km (ak (vu isr) (ae (eName 0) ah)))
 (a8 (ak QP (ae (eName 0) ah))))
def Jq(isr:aB):SX :=
 (aL (bE (dc (aI (ak dM (ae (eName 0) (ae (af (.ty "str")) ah)))))
 (eL (ak (eo "InvalidText" "InvalidText" ["given"]) (ae (eName 0) ah)))
 bG)
 (aL (bJ (ak (pT "TextReader" xW) (ae (eName 0) ah)) (aP 1))
 (aL (Ab [("InvalidRatio",true),("InvalidText",true),("InvalidPlan",true)]
 (aL (bJ (cQ "plan" [("TextReader",Jo)] (eName 1) (ae (af (.int 1)) ah)) (aP 2))
 (km (ak (vu isr) (ae (eName 2) ah))))
 (eL (ak (eo "InvalidText" "InvalidText" ["given"]) (ae (eName 0) ah))))
 (aL (bE (aI (aq lR (cR "at" [("TextReader",.fld)] (eName 1)) (ak cz (ae (eName 0) ah))))
 (eL (ak (eo "InvalidText" "InvalidText" ["given"]) (ae (eName 0) ah)))
 bG)
 (a8 (eName 2))))))
end Z
namespace GL
open PySem
section
variable{prog:Program}{w:World}{A:Around}{R:Result->Shared->Prop}{I S:Addr}{res:Value}{n:Nat}
abbrev lo(acc:Array Value)(c:Nat):Obj:={ cls:=.type "list",dict:=none,data:=.seq acc c,slots := #[] }
structure Walk(prog:Program)(w:World)(A:Around)(I S:Addr)(n:Nat)(St:Nat->Shared->Prop)(E:Value->Shared->Prop)(D:Shared->Prop):Prop where
 item:∀i s,i<n->St i s->wpAny (model prog w) A (pyNext (.ref I)) (λr s1=>∃v acc c,r=some v/\s1.heap.get? S=some (lo acc c)/\acc.size<=1000000/\St (i+1) { s1 with heap:=s1.heap.update S (Obj.mapSeq (·.push v)) }) E s
 done:∀s,St n s->wpAny (model prog w) A (pyNext (.ref I)) (λr s1=>r=none/\D s1) E s
theorem alD{St:Nat->Shared->Prop}{D:Shared->Prop}(W:Walk prog w A.in1 I S n St (λe s'=>R (.error e) s') D)(bL:∀s',D s'->R (.ok (.ret res)) s') :
  ∀(k i:Nat) (s:Shared),n - i=k->i<=n->St i s->codeAny (model prog w) A (.builtin "list.extend.loop" ⟨[.ref S,.ref I,res],[]⟩) R s:=by
 have lH:1000000<=sizeLine:=by rw[sizeLine_eq];decide
 intro k
 induction k with
 |zero =>
  intro i s hk hi eG;have alE:i=n:=by omega
  subst alE;refine codeAny_builtin F.entry_extend_loop ?_;rw[Around.under_plainId F.plain_extend_loop _];show wpAny _ A.in1 (pyNext (.ref I) >>= _) _ _ s;refine wpAny_bind (wpAny_mono (W.done s eG) (λr s' h=>?_) λ_ _ x=>x);obtain⟨rfl,h⟩:=h;exact wpAny_pure (bL s' h)
 |succ k ih =>
  intro i s hk hi eG;have c6:i<n:=by omega
  refine codeAny_builtin F.entry_extend_loop ?_;rw[Around.under_plainId F.plain_extend_loop _];show wpAny _ A.in1 (pyNext (.ref I) >>= _) _ _ s;refine wpAny_bind (wpAny_mono (W.item i s c6 eG) (λr s' h=>?_) λ_ _ x=>x);obtain⟨v,acc,c,rfl,alF,eR,alG⟩:=h;show wpAny _ A.in1 (updateSeq S (·.push v) >>= _) _ _ _;refine wpAny_bind ?_;refine wpAny_updateSeq alF rfl (wpAny_pure ⟨plainId_quiet F.plain_extend_loop _,ih (i+1) _ (by omega) c6 alG⟩) (by omega) (by show(acc.push v).size<=sizeLine+1;rw[Array.size_push];omega)
theorem alH{s:Shared}{St:Nat->Shared->Prop}{D:Shared->Prop}(W:Walk prog w A.in1 I S n St (λe s'=>R (.error e) s') D)(bL:∀s',D s'->R (.ok (.ret res)) s'){g:Nat}(hg:s.heap.IsGen I g)(Jr:S≠I){c₀:Nat}
  (bO:s.heap.get? S=some { cls:=.type "list",data:=.seq #[] c₀ })
  (eG:∀h' c',h'.get? S=some (lo #[] c')->(∀b o,b≠S->s.heap.get? b=some o->h'.get? b=some o)->(∀b,b≠S->h'.get? b=s.heap.get? b)->St 0 { s with heap:=h' }) :
  wpAny (model prog w) A.in1 (Builtin.List.listExtendWith (.ref S) (.ref I) res)
   (λfin s'=>match fin with|.done f=>R (.ok f) s'|.again c'=>c'.quiet=true/\codeAny (model prog w) A c' R s') (λe s'=>R (.error e) s') s:=by
 have d9:s.TypeIs (.ref I) "generator":=by
  obtain⟨o,nm,hO,e,hc,_⟩:=hg;exact⟨o,e,hc⟩
 unfold Builtin.List.listExtendWith;refine wpAny_bind (wpAny_typeOf d9 ?_);have h1:Builtin.List.listSameRef (.ref S) (.ref I)=false:=by simp[Builtin.List.listSameRef,Jr]
 have h2:(Value.type "generator"==Value.type "list")=false:=by decide
 have aH:(Value.type "generator"==Value.type "tuple")=false:=by decide
 simp only[h1,h2,aH,Bool.or_false,uq,if_false];refine wpAny_bind (wpAny_pyIter_gen hg ?_);refine wpAny_bind (wpAny_holding ?_);unfold Builtin.List.listLengthHint;refine wpAny_bind (wpAny_specialOf d9 F.gen_no_len ?_);show wpAny _ A.in1 (specialOf (Value.ref I) (Str.ofString "__length_hint__") >>= _) _ _ _;refine wpAny_bind (wpAny_specialOf d9 F.gen_no_hint ?_);refine wpAny_pure ?_;show wpAny _ A.in1 (rule "list.extend.makes-room" >>= λ_=>Builtin.List.listTouch (.ref S) >>= λ_ =>
  again (.builtin "list.extend.loop" ⟨[.ref S,.ref I,res],[]⟩)) _ _ _
 refine wpAny_bind (wpAny_rule ?_);refine wpAny_bind ?_;show wpAny _ A.in1 (updateSeq S (·.push .none) >>= λ_=>updateSeq S (·.pop)) _ _ _;refine wpAny_bind (wpAny_updateSeq bO rfl ?_);have Js:=Heap.get?_update_self (Obj.mapSeq (·.push Value.none)) bO rfl;refine wpAny_updateSeq (hz:=by seq_fits) Js rfl ?_;have alI:=Heap.get?_update_self (Obj.mapSeq (·.pop)) Js rfl;have e9:∀b,b≠S->((s.heap.update S (Obj.mapSeq (·.push Value.none))).update S (Obj.mapSeq (·.pop))).get? b=s.heap.get? b :=
  λb hb=>(Heap.get?_update_other _ _ (g8 hb)).trans (Heap.get?_update_other _ _ (g8 hb))
 exact wpAny_pure ⟨plainId_quiet F.plain_extend_loop _,alD W bL n 0 _ rfl (jW _) (eG _ _ alI (λb o hb e=>(e9 b hb).trans e) e9)⟩
theorem alJ{s:Shared}{St:Nat->Shared->Prop}{D:Shared->Prop}(W:Walk prog w A.in1 I S n St (λe s'=>R (.error e) s') D)(bL:∀s',D s'->R (.ok (.ret .none)) s'){g:Nat}(hg:s.heap.IsGen I g)(Jr:S≠I)
  (bO:s.heap.get? S=some { cls:=.type "list",data:=.seq #[] })
  (eG:∀h' c',h'.get? S=some (lo #[] c')->(∀b,b≠S->h'.get? b=s.heap.get? b)->St 0 { s with heap:=h' }) :
  wpAny (model prog w) A.in1 (Builtin.«list.__init__» ⟨[.ref S,.ref I],[]⟩)
   (λfin s'=>match fin with|.done f=>R (.ok f) s'|.again c'=>c'.quiet=true/\codeAny (model prog w) A c' R s') (λe s'=>R (.error e) s') s:=by
 show wpAny _ A.in1 (do let old <-Builtin.List.listItems (.ref S);Builtin.List.listUpdate (.ref S) (λ_ => #[]);letGo old.toList.reverse;Builtin.List.listExtendWith (.ref S) (.ref I) .none) _ _ s;refine wpAny_bind ?_;unfold Builtin.List.listItems;refine wpAny_bind (wpAny_seqItems bO rfl (wpAny_pure ?_));show wpAny _ A.in1 (updateSeq S (λ_ => #[]) >>= λ_=>letGo (#[]:Array Value).toList.reverse >>= λ_=>Builtin.List.listExtendWith (.ref S) (.ref I) .none) _ _ s;refine wpAny_bind (wpAny_updateSeq bO rfl ?_);have Js:=Heap.get?_update_self (Obj.mapSeq (λ_=>(#[]:Array Value))) bO rfl;have e9:∀b,b≠S->(s.heap.update S (Obj.mapSeq (λ_=>(#[]:Array Value)))).get? b=s.heap.get? b:=λb hb=>Heap.get?_update_other _ _ (g8 hb);refine wpAny_bind (wpAny_letGo ?_);have z3:(s.heap.update S (Obj.mapSeq (λ_=>(#[]:Array Value)))).IsGen I g:=by
  obtain⟨o,nm,hO,e,r⟩:=hg;exact⟨o,nm,hO,(e9 I (g8 Jr)).trans e,r⟩
 exact alH (s:={ s with heap:=s.heap.update S (Obj.mapSeq (λ_=>(#[]:Array Value))) }) W bL z3 Jr Js λh' c' e _ hk=>eG h' c' e λb hb=>(hk b hb).trans (e9 b hb)
end
section
variable{prog:Program}{w:World}{A:Around}{E:Value->Shared->Prop}{s:Shared}{I:Addr}{n:Nat}
theorem alK{Q:Value->Shared->Prop}{St:Nat->Shared->Prop}{D:Shared->Prop}(W:Walk prog w A.in1.in1 I s.heap.objs.size n St E D){g:Nat}(hg:s.heap.IsGen I g)
  (eG:∀h' c',h'.get? s.heap.objs.size=some (lo #[] c')->(∀b o,s.heap.get? b=some o->h'.get? b=some o)->St 0 { s with heap:=h' })
  (mq:∀s',D s'->Q (.ref s.heap.objs.size) s') :
  wpAny (model prog w) A (call (.type "list") [.ref I]) Q E s:=by
 have c6:I<s.heap.objs.size:=by
  obtain⟨o,nm,hO,e,r⟩:=hg;exact Heap.lt_size e
 refine callType_codes (Q₁:=λobj s₁=>obj=.ref s.heap.objs.size/\s₁={ s with heap:=s.heap.push { cls:=.type "list",data:=.seq #[] } }) F.called_list (F.typeCall_list_1 _) F.entry_list_init
  (code_list_new _ ⟨rfl,rfl⟩) λobj s₁ h₁=>?_
 obtain⟨rfl,rfl⟩:=h₁;have bO:(s.heap.push { cls:=.type "list",data:=.seq #[] }).get? s.heap.objs.size=some { cls:=.type "list",data:=.seq #[] }:=Heap.get?_push_size _ rfl;have kp:∀b o,s.heap.get? b=some o->(s.heap.push { cls:=.type "list",data:=.seq #[] }).get? b=some o:=λb o e=>Heap.get?_push_of_some _ e;have z3:(s.heap.push { cls:=.type "list",data:=.seq #[] }).IsGen I g:=by
  obtain⟨o,nm,hO,e,r⟩:=hg;exact⟨o,nm,hO,kp _ _ e,r⟩
 refine⟨⟨_,bO,rfl⟩,F.args_list_init_2 _ _,alJ (n:=n) (s:={ s with heap:=s.heap.push { cls:=.type "list",data:=.seq #[] } }) ?_ (D:=D) (λs' h=>⟨rfl,mq s' h⟩) z3 (um c6) bO λh' c' e hk=>eG h' c' e λb o eb=>?_⟩
 .exact W
 .have hb:b≠s.heap.objs.size:=h_ (Heap.lt_size eb)
  rw[hk b hb];exact kp b o eb
end
end GL
namespace ZG
open PySem PySem.Spec GenW PyProof.Rows L2
abbrev n4(X:Cx):Cx:={ X with A:=X.A.in1.in1 }
def An(ge:xJ):Z.aM:=λsl S=>(ge sl S).bind λp S1=>(m3 p.2.2.1 p.2.2.2 p.2.1 (Z.aP 0) Z.cv (Z.eName 0) S1.length [none] 0 p.1 (S1++[.lst []])).bind λ_ S2=>.ok (.ptr S1.length) S2
section
variable{X:Cx}{W:WX}{pos p:Pos}{iter:Expr}{ge:xJ}
theorem alL(h:X.Ok):(n4 X).Ok:={ h with }
theorem alM{pins:List (Addr×Obj)}{σ:L2.St}{H:Hp}{s:Shared}(I:Inv X pins σ H s):Inv (n4 X) pins σ H s:={ I with ok:=alL I.ok }
theorem alN(h:(n4 X).Ok):X.Ok:={ h with }
theorem alO{pins:List (Addr×Obj)}{σ:L2.St}{H:Hp}{s:Shared}(I:Inv (n4 X) pins σ H s):Inv X pins σ H s:={ I with ok:=alN I.ok }
theorem alP(hd:X.A.handled=none)(vl:X.A.depth<recursionLimit)(hi:Ak (n4 X) W iter ge)(hg:Gl X "list")(hm:X.mg "list"=none)(eG:starEach [iter] X.env=[(false,eval iter X.env)]:=by rfl):Z.E X W (.Call (.Name "list" p) [iter] [] pos) (An ge):=by
 refine⟨λpins s σ H Q I h=>?_⟩;obtain⟨ρ,S,sl,w,rs,pp⟩:=h;have pp:Z.aV X.K X.mg (λC d H'=>W C d σ H') ρ H Q ((ge sl S).bind λp S1=>(m3 p.2.2.1 p.2.2.2 p.2.1 (Z.aP 0) Z.cv (Z.eName 0) S1.length [none] 0 p.1 (S1++[.lst []])).bind λ_ S2=>.ok (.ptr S1.length) S2):=pp;have h0:=hi pins s σ ρ H S sl (alM I) w rs;refine wpAny_Call_Name_kw (ld_blt I hg hm (u:=.type "list") rfl ?_ (by decide) (by decide));rw[eG];show wpAny _ _ (callWith pos (.type "list") [] (backTo pos [(false,eval iter X.env)]) []) _ _ _;cases hq:ge sl S with
 |bad=>rw[hq]at pp;exact pp.elim
 |ex e S1 =>
  rw[hq]at pp h0;have h1:=wpAny_of_in1 (wpAny_of_in1 (A:=X.A.in1) (h0 λC dd av H' y dE r=>pp C dd av H' y dE r));refine PySem.callWith_type rfl (Calls.evalArgs_plain (Calls.spliced_cons (thn h1 λ_ _ z=>z.elim)))
 |ok pr S1 =>
  rw[hq]at pp h0;have h1:=wpAny_of_in1 (wpAny_of_in1 (A:=X.A.in1) h0);refine PySem.callWith_type rfl (Calls.evalArgs_plain (Calls.spliced_cons (thn h1 λv s1 bP=>Calls.spliced_nil ?_)));obtain⟨q,m,aA,H1,fG,fT,fA,fE,fB,aw,e2,I1,x1,aF,C9,o,I6,t,El,fV⟩:=bP;subst aw e2;have p1:Z.aV X.K X.mg (λC d H'=>W C d σ H') aA H1 Q ((m3 m.gC m.U m.fin (Z.aP 0) Z.cv (Z.eName 0) S1.length [none] 0 m.ds (S1++[.lst []])).bind λ_ S2=>.ok (.ptr S1.length) S2):=Z.aV.from x1 pp;obtain⟨oS,alQ,alR,ml,axh,jl,gU,Ja,gs,k5,vo⟩:=t;have Z1:∀b∈k6 q.scope q.n,b<s1.heap.objs.size:=λb hb=>by
   obtain⟨x,hx⟩:=I5 hb;obtain⟨v,ob,aY,_⟩:=gU.cell x b hx;exact Heap.lt_size aY
  generalize bL:s1.heap.objs.size=D at Z1;have Cw:H1 D=none:=I1.hok.fresh (Nat.le_of_eq bL);have b0:Z.Ext aA H1 (aA++[D]) (upd H1 D (.lst [])):=Z.Ext.hand Cw;have ia:Z.aN X.K X.mg (aA++[D]) (upd H1 D (.lst [])) (S1++[.lst []]):=aF.hand Cw ⟨[],upd_same,Z.ay.nil⟩;have QR:(aA++[D])[S1.length]?=some D:=by rw[<-aF.len];simp
  have Jt:∀b,b<D->upd H1 D (.lst []) b=H1 b:=λb hb=>upd_ne (h_ hb);have cq:=Z.aV.from b0 p1;generalize axi:aA++[D]=mI at b0 ia QR cq;generalize alS:upd H1 D (.lst [])=hT at b0 ia Jt cq;have alT:∀p0∈(n4 X).pn++pins,p0.1∉[q.a,q.n]:=λp0 alU=>by
   simp only[List.mem_cons,gM,or_false,not_or];have:=El p0 alU;exact⟨h_ (qE this o.na),h_ this⟩
  refine GL.alK (I:=q.a) (n:=m.ds.length) (St:=λi s'=>∃av H' ao fp,Inv (n4 X) pins σ H' s'/\Z.Ext mI hT av H'/\Z.aN X.K X.mg av H' ao/\o1 (n4 X) q m aA H1 i fp av H' s'/\(∀p0∈(n4 X).pn++pins,p0.1∉fp) /\
   Z.aV X.K X.mg (λC d H'=>W C d σ H') av H' Q ((m3 m.gC m.U m.fin (Z.aP 0) Z.cv (Z.eName 0) S1.length [none] i (m.ds.drop i) ao).bind λ_ S2=>.ok (.ptr S1.length) S2))
   (D:=λs'=>∃H',Inv (n4 X) pins σ H' s'/\Q (.ref D) H') ⟨?_,?_⟩ (g:=q.g) ml ?_ ?_
  .rw[bL]
   rintro i s5 c6 ⟨nz,qQ,dO,alV,mX,cB,lF,EF,QS,ez⟩;rw[(Kz c6).symm,m3]at ez;by_cases kE:m.gC i dO
   .rw[if_pos kE]at ez
    have ti:=ak1 C9 o.old hd vl c6 kE EF mX lF QS;refine thn ti λr lY ⟨u,x,qY,hI,QT,hr,cU,xK,b7,sS,aJ,Z2,alW⟩=>?_;subst hr;have iq:=Z.aV.from b7 ez;have QU:=(cB.trans b7).get QR;obtain⟨⟨axj,axk⟩,Z3,Z4⟩:=akX o.old Z2 xK;have iq:Z.aV X.K X.mg (λC d H'=>W C d σ H') qY hI Q ((match(m.U i dO)[S1.length]? with
     |some (.lst acc)=>if acc.length<1000000 then m3 m.gC m.U m.fin (Z.aP 0) Z.cv (Z.eName 0) S1.length [none] (i+1) (m.ds.drop (i+1)) ((m.U i dO).set S1.length (.lst (acc++[m.ds[i]])))else .bad
     |_=>.bad).bind λ_ S2=>.ok (.ptr S1.length) S2):=iq
    split at iq
    .rename_i alX ea
     split at iq
     .rename_i hl
      obtain⟨us,h1,ra⟩:=sS.ob S1.length D _ QU ea;obtain⟨axl,its,c,sO,e⟩:=xK.hok D _ h1;have eR:its.length<1000000:=by rw[<-sO.length,<-ra.len];exact hl
      have Z5:∀b∈QT,b≠D:=λb hb p_=>by
       have:=(Z3 b hb).2.1;rw[p_,h1]at this;cases this
      have Z6:∀b∈k6 q.scope q.n,b≠D:=λb hb p_=>by
       have:=(Z4 b hb).2.1;rw[p_,h1]at this;cases this
      have e9:∀b,b≠D->(lY.heap.update D (Obj.mapSeq (·.push u))).get? b=lY.heap.get? b:=λb hb=>Heap.get?_update_other _ _ (g8 hb);have zJ:=Heap.get?_update_self (Obj.mapSeq (·.push u)) e rfl;have hx:Z.Ext qY hI qY (upd hI D (.lst (us++[x]))):=Z.Ext.putL QU;have J:Inv (n4 X) pins σ (upd hI D (.lst (us++[x]))) { lY with heap:=lY.heap.update D (Obj.mapSeq (·.push u)) }:=by
       refine xK.write (t':=lY.toks) (by rw[h1];trivial) (.inl rfl) (λb v hb q=>(e9 b hb).trans q) ⟨_,zJ⟩ ⟨?_,its++[u],c+1,sO.append (.cons cU .nil),?_⟩
       .rw[List.length_append,List.length_singleton,sO.length]
        have hb:1000000<=sizeLine:=by rw[sizeLine_eq];decide
        omega
       .rw[zJ]
        simp[Obj.mapSeq]
      have gF:∀b∈QT,upd hI D (.lst (us++[x])) b=none:=λb hb=>(upd_ne (Z5 b hb)).trans (Z3 b hb).2.1;have Qn:∀b∈k6 q.scope q.n,upd hI D (.lst (us++[x])) b=none:=λb hb=>(upd_ne (Z6 b hb)).trans (Z4 b hb).2.1;refine⟨u,its.toArray,c,rfl,e,by rw[ly];omega,qY,upd hI D (.lst (us++[x])),_,QT,J,(cB.trans b7).trans hx,sS.put (m:=.lst (alX++[m.ds[i]])) QU ⟨_,upd_same,(ra.append (Z.ay.cons aJ Z.ay.nil)).ext hx⟩,ak0 Z2 hx gF ⟨λb hb ob eb=>(e9 b (Z5 b hb)).trans eb,λj y h _=>h⟩ Qn (λb hb ob eb=>(e9 b (Z6 b hb)).trans eb),alW,Z.aV.from hx iq⟩
     .exact iq.elim
    .exact iq.elim
   .rw[if_neg kE]at ez
    exact ez.elim
  .rintro s5 ⟨nz,qQ,dO,alV,mX,cB,lF,EF,QS,ez⟩
   rw[List.drop_length,m3]at ez;by_cases kE:m.gC m.ds.length dO
   .rw[if_pos kE]at ez
    cases Ep:m.fin with
    |ex e=>rw[Ep]at ez;exact ez.elim
    |done =>
     rw[Ep]at ez;have ez:Z.aV X.K X.mg (λC d H'=>W C d σ H') nz qQ Q (.ok (.ptr S1.length) (m.U m.ds.length dO)):=ez;have wM:=ak3 C9 o.old hd vl Ep kE EF mX lF QS;refine thn wM λr lY ⟨hr,qY,hI,xK,b7,sS⟩=>⟨hr,hI,xK,?_⟩
     exact Z.cA (d:=.ptr S1.length) (Z.aV.from b7 ez) sS (by rw[Z.Rep];exact⟨D,rfl,(cB.trans b7).get QR⟩)
   .rw[if_neg kE]at ez
    exact ez.elim
  .rw[bL]
   intro h' c' e kp;have J:Inv (n4 X) pins σ hT { s1 with heap:=h' }:=by
    rw[<-alS];exact I1.laid (t':=s1.toks) kp (Nat.le_of_eq bL) ⟨jW _,[],c',.nil,e⟩
   refine⟨mI,hT,S1++[.lst []],[q.a,q.n],J,Z.Ext.refl,ia,⟨b0,?_,?_,?_,rfl,jl,⟨?_,?_,gU.len⟩,?_,gs,k5,?_⟩,alT,by simpa using cq⟩
   .rw[Jt _ (by rw[<-bL];exact qE o.na I6)];exact alQ
   .rw[Jt _ (by rw[<-bL];exact I6)];exact alR
   .obtain⟨ob,nm,hO,aY,r⟩:=ml
    exact⟨ob,nm,hO,kp _ _ aY,r⟩
   .obtain⟨mm,⟨ob,es,eP,aY,r⟩,look⟩:=gU.loc
    refine⟨mm,⟨ob,es,eP,kp _ _ aY,r⟩,λi x v h1 h2 aH=>?_⟩;obtain⟨u,cU,lk⟩:=look i x v h1 h2 aH;refine⟨u,cU,?_⟩;rcases lk with e|⟨k,c,hc,cL,eJ,qa⟩
    .exact .inl e
    .exact .inr ⟨k,c,hc,cL,kp _ _ eJ,qa⟩
   .intro x c hc
    obtain⟨v,cL,eJ,qa⟩:=gU.cell x c hc;exact⟨v,cL,kp _ _ eJ,qa⟩
   .intro b hb
    exact⟨by rw[Jt _ (Z1 b hb)];exact(Ja b hb).1,(Ja b hb).1⟩
   .rcases vo with⟨_,e,r0⟩|⟨k,p,e,_⟩
    .exact .inl ⟨rfl,e,r0.ext b0⟩
    .omega
  .rw[bL]
   rintro s' ⟨H',ko,ej⟩;exact⟨.ref D,H',alO ko,rfl,ej⟩
theorem alY{k:Nat}(hr:Room k X.A)(hi:Ak (n4 X) W iter ge)(hg:Gl X "list")(hm:X.mg "list"=none)(eG:starEach [iter] X.env=[(false,eval iter X.env)]:=by rfl):Z.E X W (.Call (.Name "list" p) [iter] [] pos) (An ge):=alP hr.hd (Room.Zb hr) hi hg hm eG
end
end ZG
namespace TR
open PySem PySem.Spec L2 Z TL
def gD(n:Nat):List Nat:=(Nat.toDigits 10 n).map Char.toNat
theorem PY(s:String):(Str.ofString s).cps.toList=s.toList.map Char.toNat:=by rw[Str.ofString_eq_toList]
theorem Ju(n:Nat):fO (n:Int)=gD n:=by
 unfold fO gD;rw[PY];show(Nat.repr n).toList.map Char.toNat=_;rw[Nat.toList_repr]
theorem alZ(n:Nat):fO (-((n+1:Nat):Int))=45::gD (n+1):=by
 unfold fO gD;rw[PY];show("-"++Nat.repr (n+1)).toList.map Char.toNat=_;rw[String.toList_append,List.map_append,Nat.toList_repr];rfl
theorem Jv{n c:Nat}(h:c∈gD n):48<=c/\c<=57:=by
 obtain⟨d,hd,rfl⟩:=iI.mp h;have:=Nat.isDigit_of_mem_toDigits (by omega) (by omega) hd;unfold Char.isDigit at this;simp only[Bool.and_eq_true,decide_eq_true_eq]at this;have h1:d.toNat=d.val.toNat:=rfl;obtain⟨a,b⟩:=this;have jE:(48:UInt32).toNat<=d.val.toNat:=UInt32.le_iff_toNat_le.mp a;have b':d.val.toNat<=(57:UInt32).toNat:=UInt32.le_iff_toNat_le.mp b;rw[h1];exact⟨jE,b'⟩
theorem QV(n:Nat):gD n≠[]:=by
 unfold gD;simp
theorem EG{n:Nat}(h:n<10):gD n=[48+n]:=by
 unfold gD;rw[Nat.toDigits_of_lt_base h];simp[Nat.toNat_digitChar_of_lt_ten h]
theorem QW{n:Nat}(h:10<=n):gD n=gD (n / 10)++[48+n % 10]:=by
 unfold gD;rw[Nat.toDigits_of_base_le (by omega) h,List.map_append];simp[Nat.toNat_digitChar_of_lt_ten (Nat.mod_lt n (by omega:10>0))]
theorem al0(l:List Nat)(c:Nat):jj (l++[c])=jj l * 10+(c - 48):=by
 unfold jj;rw[List.foldl_append];rfl
theorem QX(n:Nat):jj (gD n)=n:=by
 induction n using Nat.strongRecOn with
 |ind n ih =>
  by_cases h:n<10
  .rw[EG h]
   simp[jj]
  .rw[QW (by omega),al0,ih (n / 10) (by omega)]
   omega
theorem QY{n:Nat}(h:n≠0):(gD n).headD 0≠48:=by
 induction n using Nat.strongRecOn with
 |ind n ih =>
  by_cases h2:n<10
  .rw[EG h2]
   show 48+n≠48;omega
  .rw[QW (by omega)]
   have:=ih (n / 10) (by omega) (by omega);cases e:gD (n / 10)with
   |nil=>exact absurd e (QV _)
   |cons c r =>
    rw[e]at this;exact this
theorem al1{n k:Nat}(h:n<10 ^ k)(hk:0<k):(gD n).length<=k:=by
 unfold gD;rw[List.length_map];exact(Nat.length_toDigits_le_iff (by omega) hk).mpr h
theorem al2:gD 0=[48]:=EG (by omega)
theorem al3(l:List Nat)(h:∀c∈l,48<=c/\c<=57):jj l<10 ^ l.length:=by
 have key:∀(l:List Nat) (a:Nat),(∀c∈l,48<=c/\c<=57)->l.foldl (λa c=>a * 10+(c - 48)) a<(a+1) * 10 ^ l.length:=λl=>by
  induction l with
  |nil=>intro a _;simp
  |cons c l ih =>
   intro a h;have hc:=h c (by simp);have:=ih (a * 10+(c - 48)) λd hd=>h d (by simp[hd]);rw[FW,List.length_cons,Nat.pow_succ];refine mA this ?_;have e:(a+1) * (10 ^ l.length * 10)=((a+1) * 10) * 10 ^ l.length:=by
    rw[Nat.mul_assoc,Nat.mul_comm 10]
   rw[e];exact KR _ (by omega)
 have:=key l 0 h;unfold jj;simpa using this
def ke(l:List Nat):Bool:=decide (1<=l.length/\l.length<=30)&&(l.all (λc=>decide (48<=c/\c<=57))&&(decide (l=[48])||decide (l.headD 0≠48)))
def o8(l:List Nat):Bool:=ke l||(decide (l.take 1=[45])&&(decide (l≠[45,48])&&ke (l.drop 1)))
def gE(l:List Nat):Int:=if ke l=true then jj l else -(jj (l.drop 1):Int)
def k':List Nat->Option (List Nat×List Nat)
 |[]=>none
 |x::l=>if x=47 then some ([],l)else(k' l).map λp=>(x::p.1,p.2)
theorem Jw:∀{l a b:List Nat},k' l=some (a,b)->l=a++47::b/\47∉a
 |[],a,b,h=>by cases h
 |x::l,a,b,h=>by
  unfold k' at h;split at h
  .rename_i e
   cases h;subst e;exact⟨rfl,by simp⟩
  .rename_i e
   obtain⟨p,hp,he⟩:=fx.mp h;obtain⟨p1,p2⟩:=p;cases he;obtain⟨bN,b3⟩:=Jw hp;refine⟨by rw[bN];rfl,λhm=>?_⟩;rcases fQ.mp hm with h|h
   .exact e h.symm
   .exact b3 h
theorem Z7:∀{l:List Nat},k' l=none->47∉l
 |[],h=>by simp
 |x::l,h=>by
  unfold k' at h;split at h
  .cases h
  .rename_i e
   have:=Z7 (Option.map_eq_none_iff.mp h);intro hm;rcases fQ.mp hm with h|h
   .exact e h.symm
   .exact this h
theorem Z8:∀(a b:List Nat),47∉a->k' (a++47::b)=some (a,b)
 |[],b,_=>rfl
 |x::a,b,h=>by
  simp only[List.mem_cons,not_or]at h;rw[List.cons_append,k',if_neg (λe=>h.1 e.symm),Z8 a b h.2];rfl
theorem Z9:∀(a:List Nat),47∉a->k' a=none
 |[],_=>rfl
 |x::a,h=>by
  simp only[List.mem_cons,not_or]at h;rw[k',if_neg (λe=>h.1 e.symm),Z9 a h.2];rfl
def dg(l:List Nat):List Nat:=match k' l with
 |some (a,_)=>a
 |none=>l
def gb(l:List Nat):List Nat:=match k' l with
 |some _=>[47]
 |none=>[]
def fF(l:List Nat):List Nat:=match k' l with
 |some (_,b)=>b
 |none=>[]
theorem al4(l:List Nat):Txt.partition (aj l) (aj [47])=(aj (dg l),aj (gb l),aj (fF l)):=by
 unfold dg gb fF;cases h:k' l with
 |none=>exact partition_none (y:=aj [47]) (s:=47) (S:=[]) rfl (Z7 h)
 |some p =>
  obtain⟨a,b⟩:=p;obtain⟨e,h2⟩:=Jw h;have e2:aj l=aj a++aj [47]++aj b:=by
   rw[e,Z.Nn,Z.Nn];simp
  rw[e2];exact partition_app (y:=aj [47]) (s:=47) (S:=[]) rfl h2
def mw(l:List Nat):Bool:=o8 (dg l)&&(decide (gb l=[])||(ke (fF l)&&decide (fF l≠[48])))
def fZ(l:List Nat):Nat:=if gb l=[]then 1 else jj (fF l)
def fP(l:List Nat):Option (Int×Int):=if mw l=true/\cM (num (gE (dg l)) (fZ l)) (den (gE (dg l)) (fZ l))=l then some (num (gE (dg l)) (fZ l),den (gE (dg l)) (fZ l))else none
theorem Z_{l:List Nat}{r:Int×Int}(h:fP l=some r):cM r.1 r.2=l/\mw l=true/\r=(num (gE (dg l)) (fZ l),den (gE (dg l)) (fZ l)):=by
 unfold fP at h;split at h
 .rename_i hc
  cases h;exact⟨hc.2,hc.1,rfl⟩
 .cases h
theorem EH{l:List Nat}(h:ke l=true):(∀c∈l,48<=c/\c<=57)/\1<=l.length/\l.length<=30/\(l=[48]\/l.headD 0≠48):=by
 unfold ke at h;simp only[Bool.and_eq_true,Bool.or_eq_true,decide_eq_true_eq]at h;obtain⟨h1,h2,aH⟩:=h;exact⟨λc hc=>by simpa using List.all_eq_true.mp h2 c hc,h1.1,h1.2,aH⟩
theorem al5:(10:Nat) ^ 30<2 ^ 100:=by decide
theorem QZ{l:List Nat}(h:ke l=true):Bd 100 (jj l):=by
 obtain⟨h1,_,aH,_⟩:=EH h;have:=al3 l h1;have bT:10 ^ l.length<=10 ^ 30:=Nat.pow_le_pow_right (by omega) aH;have:=al5;unfold Bd;rw[ur];omega
theorem al6{l:List Nat}(h:ke l=true)(h0:l≠[48]):0<jj l:=by
 obtain⟨h1,h2,_,bT⟩:=EH h;have bT:=bT.resolve_left h0;have key:∀(r:List Nat) (a:Nat),0<a->0<r.foldl (λa c=>a * 10+(c - 48)) a:=λr=>by
  induction r with
  |nil=>exact λa h=>h
  |cons c r ih =>
   intro a h;rw[FW];refine ih _ ?_;omega
 cases l with
 |nil=>simp at h2
 |cons c r =>
  have hc:=h1 c (by simp);have bT:c≠48:=bT;unfold jj;rw[FW];refine key r _ ?_;omega
theorem Z'{l:List Nat}(h:o8 l=true):Bd 100 (gE l):=by
 unfold gE;split
 .rename_i hd
  exact QZ hd
 .rename_i hd
  unfold o8 at h;simp only[Bool.or_eq_true,Bool.and_eq_true]at h;exact(QZ (h.resolve_left hd).2.2).neg
theorem aac{l:List Nat}(h:mw l=true):Bd 100 (fZ l)/\(fZ l:Int)≠0:=by
 unfold mw at h;simp only[Bool.and_eq_true,Bool.or_eq_true,decide_eq_true_eq]at h;unfold fZ;split
 .exact⟨by unfold Bd;decide,by decide⟩
 .rename_i hb
  obtain⟨h1,h2⟩:=h.2.resolve_left hb;have:=al6 h1 h2;exact⟨QZ h1,by omega⟩
theorem Q0{l:List Nat}(h:mw l=true):o8 (dg l)=true:=by
 unfold mw at h;simp only[Bool.and_eq_true]at h;exact h.1
theorem aad{l:List Nat}{p q:Int}(h:fP l=some (p,q)):LT 200 p q:=by
 obtain⟨_,hf,e⟩:=Z_ h;cases e;obtain⟨hb,h0⟩:=aac hf;exact LT.of (n:=100) (m:=100) (Z' (Q0 hf)) hb h0
theorem Q5{n:Nat}(h:n<10 ^ 30):ke (gD n)=true:=by
 unfold ke;simp only[Bool.and_eq_true,Bool.or_eq_true,decide_eq_true_eq];refine⟨⟨List.length_pos_iff.mpr (QV n),al1 h (by omega)⟩,List.all_eq_true.mpr λc hc=>by simpa using Jv hc,?_⟩;by_cases h0:n=0
 .subst h0
  exact .inl al2
 .exact .inr (QY h0)
theorem aae{n:Nat}:47∉gD n:=λh=>by
 have:=Jv h;omega
theorem Q6(p:Int):(∃n:Nat,p=n/\fO p=gD n)\/∃n:Nat,p = -((n+1:Nat):Int)/\fO p=45::gD (n+1):=by
 cases p with
 |ofNat n=>exact .inl ⟨n,rfl,Ju n⟩
 |negSucc n=>exact .inr ⟨n,rfl,alZ n⟩
theorem al7{p:Int}(h:p.natAbs<10 ^ 30):o8 (fO p)=true/\gE (fO p)=p/\47∉fO p:=by
 rcases Q6 p with⟨n,rfl,e⟩|⟨n,rfl,e⟩
 .rw[e]
  have hd:=Q5 (n:=n) (by omega);refine⟨by unfold o8;rw[hd];rfl,?_,aae⟩;unfold gE;rw[if_pos hd,QX]
 .rw[e]
  have hd:=Q5 (n:=n+1) (by omega);have zG:ke (45::gD (n+1))=false:=by
   unfold ke;simp
  have d5:gD (n+1)≠[48]:=λe2=>by
   have:=QY (n:=n+1) (by omega);rw[e2]at this;exact this rfl
  refine⟨?_,?_,?_⟩
  .unfold o8
   rw[zG,List.drop_succ_cons,List.drop_zero,hd];simp[d5]
  .unfold gE
   rw[zG,if_neg (by simp),List.drop_succ_cons,List.drop_zero,QX]
  .simp only[List.mem_cons,not_or]
   exact⟨by omega,aae⟩
theorem aaf{n:Nat}{p q:Int}(h:LT n p q)(hp:p.natAbs<10 ^ 30)(hq:q.natAbs<10 ^ 30):fP (cM p q)=some (p,q):=by
 obtain⟨s1,s2,s3⟩:=al7 hp;by_cases h1:q=1
 .subst h1
  have e:cM p 1=fO p:=by unfold cM;rw[if_pos rfl]
  rw[e];have hc:=Z9 _ s3;have aw:dg (fO p)=fO p:=by unfold dg;rw[hc]
  have e2:gb (fO p)=[]:=by unfold gb;rw[hc]
  have a6:fZ (fO p)=1:=by unfold fZ;rw[if_pos e2]
  unfold fP mw;rw[aw,e2,a6,s1,s2];have n1:num p ((1:Nat):Int)=p:=ahQ;have ny:den p ((1:Nat):Int)=1:=ahR;rw[n1,ny,e];simp
 .have e:cM p q=fO p++47::fO q:=by unfold cM;rw[if_neg h1]
  obtain⟨m,rfl⟩:∃m:Nat,q=m:=⟨q.toNat,by have:=h.pos;omega⟩
  have hm:m<10 ^ 30:=by omega
  have axm:=h.pos;have hd:=Q5 hm;have hc:k' (cM p m)=some (fO p,fO m):=by rw[e];exact Z8 _ _ s3
  have aw:dg (cM p m)=fO p:=by unfold dg;rw[hc]
  have e2:gb (cM p m)=[47]:=by unfold gb;rw[hc]
  have dA:fF (cM p m)=gD m:=by unfold fF;rw[hc,<-Ju]
  have a6:fZ (cM p m)=m:=by unfold fZ;rw[e2,if_neg (by simp),dA,QX]
  have d5:gD m≠[48]:=λe2=>by
   have:=QY (n:=m) (by omega);rw[e2]at this;exact this rfl
  unfold fP mw;rw[aw,e2,a6,dA,s1,s2,h.num,h.den,hd];simp[d5]
open PySem PySem.Spec L2 Z ZM TL
section
variable{S:Store}{v d:D}{sl:aT}{Q:hJ}{l:List Nat}
def Lo(l:List Nat):Prop:=∀c∈l,c<128
theorem n5(h:Lo l):ku l:=Jf h
theorem EI{c:Nat}(h:c<128):ku [c]:=Jf λd hd=>by simp at hd;omega
theorem qo{f:aM}{d:D}{S1:Store}(h:f sl S=.ok d S1)(hq:Q.rt d S1):a0 (a8 f sl S) Q:=by
 rw[sX,h,aS];exact hq
theorem EJ{f1:aM}{fl fu:wK}{lo hi:Option Int}{r:List Nat}(h:f1 sl S=.ok (.str (aj l)) S)(h1:fl sl S=.ok lo S)(h2:fu sl S=.ok hi S)(hl:l.length<=1000000)(hr:cutS (aj l) lo hi=aj r):e0 false f1 fl fu sl S=.ok (.str (aj r)) S:=bp (by
 rw[Nx,h,aS,h1,aS,h2,aS,Ww,hr];exact⟨hl,rfl,rfl⟩)
theorem xY{f:aM}{i:Int}(h:f sl S=.ok (.int i) S):ec f sl S=.ok (some i) S:=by
 unfold ec;rw[h];rfl
theorem Lo.take(h:Lo l)(n:Nat):Lo (l.take n):=λc hc=>h c (FX hc)
theorem Lo.drop(h:Lo l)(n:Nat):Lo (l.drop n):=λc hc=>h c (KY hc)
def tZ:List Nat:=[48,49,50,51,52,53,54,55,56,57]
theorem al8{c:Nat}:c∈tZ↔48<=c/\c<=57:=by
 simp only[tZ,List.mem_cons,gM,or_false];omega
theorem Q7(jP:Lo l)(hl:l.length<=1000):o6 [.str (aj l)] S=.ok (.bl (ke l)) S:=by
 refine bp ?_;unfold o6;refine dF rfl ?_;show a0 (qm [some (.str (aj l)),none] S) _;unfold qm;have EK:l.length<=1000000:=by omega
 have h2:oC kS kS (af (.int 1)) (ak cz (ae (eName 0) ah)) (af (.int 30)) [some (.str (aj l)),none] S=.ok (.bl (decide (1<=l.length/\l.length<=30))) S:=bp (by
  by_cases q:1<=(l.length:Int)
  .have:(1:Nat)<=l.length:=by omega
   simp[q,EK,this];omega
  .have:¬(1:Nat)<=l.length:=by omega
   simp[q,EK,this])
 have hlit:("0123456789":Str)=aj tZ:=by decide +kernel
 have p1:=ajT (S:=S) (sl:=[some (.str (aj l)),none]) (it:=ey (eName 0)) (g:=aP 1) (bt:=cv) (fe:=aq dy (eName 1) (af (.str "0123456789"))) (own:=[1]) (xs:=l.map iV) (λ_=>true) (λd=>match d with|.str s=>.bl (decide (s.cps.toList.headD 0∈tZ))|d=>d) (p3 (NI rfl) (by simp)) (by simp;omega) (λacc=>by simp) (λd hd acc=>by
   obtain⟨a,ha,rfl⟩:=iI.mp hd;exact⟨_,rfl,rfl,λ_=>bp (by rw[hlit];simp[df])⟩) (λd hd _=>by
   obtain⟨a,ha,rfl⟩:=iI.mp hd;simp)
 have e2:((l.map iV).filter (λ_=>true)).map (λd=>match d with|.str s=>D.bl (decide (s.cps.toList.headD 0∈tZ))|d=>d)=l.map λc=>.bl (decide (c∈tZ)):=by
  rw[afo,ov];rfl
 rw[e2]at p1;have aH:=dG (aE p1 bh) afy;have al9:(l.all λc=>decide (48<=c/\c<=57))=l.all λc=>decide (c∈tZ):=by
  congr 1;funext c;exact decide_eq_decide.mpr al8.symm
 unfold ke;rw[al9];by_cases bN:1<=l.length/\l.length<=30
 .by_cases b3:(l.all λc=>decide (c∈tZ))=true
  .refine bF (λsl S1=>S1=S/\sl=[some (.str (aj l)),none]) ?_ ?_
   .rw[hL,uP,nL,e8,h2,aS,d6,decide_eq_true bN,rZ,if_neg (by simp),nL,e8,aH,aS,d6,b3,rZ,if_neg (by simp),j5]
    exact⟨rfl,rfl⟩
   rintro sl S1 ⟨rfl,rfl⟩;rw[decide_eq_true bN,b3,Bool.true_and,Bool.true_and];obtain⟨c,r,rfl⟩:∃c r,l=c::r:=by
    cases l with
    |nil=>simp at bN
    |cons c r=>exact⟨c,r,rfl⟩
   have hc:c<128:=jP c (by simp);have a1:aq (aQ false) (eName 0) (af (.str "0")) [some (.str (aj (c::r))),none] S1=.ok (.bl (decide (c::r=[48]))) S1:=dr (aX rfl) rfl (w1 (b:=[48]) (n5 jP) (EI (by omega)));have uU:aq a7 (eName 0) (af (.int 0)) [some (.str (aj (c::r))),none] S1=.ok (iV c) S1:=bp (by
    have i4:r.length<=999999:=by simp at EK;omega
    simp[i4])
   have a2:aq (aQ true) (aq a7 (eName 0) (af (.int 0))) (af (.str "0")) [some (.str (aj (c::r))),none] S1=.ok (.bl (!decide (c=48))) S1:=dr uU rfl (by
    have:=uS (S:=S1) (EI hc) (EI (c:=48) (by omega));rw[show iV c=D.str (aj [c])from rfl,show D.str (Str.ofString "0")=D.str (aj [48])from rfl,this];simp)
   rw[sX,Wb,a1,aS];by_cases h:c::r=[48]
   .rw[decide_eq_true h,d6,if_pos rfl,kr]
    exact cx rfl ⟨rfl,rfl⟩
   .rw[decide_eq_false h,d6,if_neg (by simp),a2,aS,kr]
    refine cx rfl ⟨?_,rfl⟩;simp
  .have b3:(l.all λc=>decide (c∈tZ))=false:=by simpa using b3
   refine bF (λ_ _=>False) ?_ (λ_ _ h=>h.elim);rw[hL,uP,nL,e8,h2,aS,d6,decide_eq_true bN,rZ,if_neg (by simp),nL,e8,aH,aS,d6,b3,qF,if_pos rfl];refine qo rfl ?_;rw[kr];exact cx rfl ⟨by simp,rfl⟩
 .refine bF (λ_ _=>False) ?_ (λ_ _ h=>h.elim)
  rw[hL,uP,nL,e8,h2,aS,d6,decide_eq_false bN,qF,if_pos rfl,if_pos rfl];refine qo rfl ?_;rw[kr];exact cx rfl ⟨by simp,rfl⟩
def h4(v:D):D:=.ins "InvalidText" ["given","tag"] [v,.str "InvalidText"]
theorem EL{k:Nat}(h:bf k d=true):bf k (h4 d)=true:=by simp[h4,h]
theorem Q8{i:Nat}(h:sl[i]?=some (some d))(hq:Q.ex (h4 d) sl S):a0 (eL (ak (eo "InvalidText" "InvalidText" ["given"]) (ae (eName i) ah)) sl S) Q:=by
 rw[O2,gY,aE (aX h) bh,aS,O3];refine⟨rfl,?_⟩;exact hq
theorem Q9{o R:Out D}(h:We o (λd ao=>R=.ok d ao) (λe ao=>R=.ex e ao)):o=R:=by
 unfold We at h;cases o with
 |ok d T=>exact h.symm
 |ex e T=>exact h.symm
 |bad=>exact h.elim
theorem ama(jP:Lo l)(hl:l.length<=1000):xU [.str (aj l)] S=.ok (.bl (o8 l)) S:=by
 refine bp ?_;unfold xU;refine dF rfl ?_;show a0 (tX [some (.str (aj l))] S) _;unfold tX o8;have a1:=dG (aE (aX (sl:=[some (.str (aj l))]) (i:=0) rfl) bh) (Q7 (S:=S) jP hl);have a2:aq (aQ false) (e0 false (eName 0) fN (ec (af (.int 1)))) (af (.str "-")) [some (.str (aj l))] S=.ok (.bl (decide (l.take 1=[45]))) S :=
  dr (EJ (aX rfl) rfl (xY rfl) (by omega) (afw l)) rfl (w1 (b:=[45]) (n5 (jP.take 1)) (EI (by omega)))
 have a3:aq (aQ true) (eName 0) (af (.str "-0")) [some (.str (aj l))] S=.ok (.bl (decide (l≠[45,48]))) S:=dr (aX rfl) rfl (by
  have:=uS (S:=S) (b:=[45,48]) (n5 jP) (Jf λc hc=>by simp at hc;omega);rw[show Str.ofString "-0"=aj [45,48]from rfl,this];simp)
 have u6:=dG (aE (EJ (sl:=[some (.str (aj l))]) (S:=S) (f1:=eName 0) (fl:=ec (af (.int 1))) (fu:=fN) (aX rfl) (xY rfl) rfl (by omega) (afv l)) bh) (Q7 (S:=S) (jP.drop 1) (by simp;omega));rw[sX,Wb,a1,aS,d6];cases ke l
 .rw[if_neg (by simp),CL,a2,aS,d6]
  by_cases h1:l.take 1=[45]
  .rw[decide_eq_true h1,if_pos rfl,CL,a3,aS,d6]
   by_cases h2:l≠[45,48]
   .rw[decide_eq_true h2,if_pos rfl,u6,aS,kr]
    exact cx rfl ⟨by simp,rfl⟩
   .rw[decide_eq_false h2,if_neg (by simp),kr]
    exact cx rfl ⟨by simp,rfl⟩
  .rw[decide_eq_false h1,if_neg (by simp),kr]
   exact cx rfl ⟨by simp,rfl⟩
 .rw[if_pos rfl,kr]
  exact cx rfl ⟨rfl,rfl⟩
theorem amb(h:o8 l=true):nX [.str (aj l)] S=.ok (.int (gE l)) S:=by
 unfold gE;split
 .rename_i hd
  obtain⟨h1,h2,aH,_⟩:=EH hd;exact PR h1 (by intro e;subst e;simp at h2) (by omega)
 .rename_i hd
  unfold o8 at h;simp only[Bool.or_eq_true,Bool.and_eq_true,decide_eq_true_eq]at h;obtain⟨h1,h2,aH⟩:=h.resolve_left hd;obtain⟨dS,cX,ji,_⟩:=EH aH;cases l with
  |nil=>cases h1
  |cons c r =>
   have hc:c=45:=by simpa using h1
   subst hc;have ji:r.length<=30:=by simpa using ji
   exact ajM dS (by intro e;subst e;simp at cX) (by omega)
theorem amc(h:Lo l):Lo (dg l)/\Lo (gb l)/\Lo (fF l):=by
 unfold dg gb fF;cases e:k' l with
 |none=>exact⟨h,(λc hc=>by cases hc),λc hc=>by cases hc⟩
 |some p =>
  obtain⟨a,b⟩:=p;obtain⟨rfl,_⟩:=Jw e;exact⟨λc hc=>h c (by simp[hc]),(λc hc=>by simp at hc;omega),λc hc=>h c (by simp[hc])⟩
theorem amd:(dg l).length<=l.length/\(fF l).length<=l.length:=by
 unfold dg fF;cases e:k' l with
 |none=>exact⟨Nat.le_refl _,by simp⟩
 |some p =>
  obtain⟨a,b⟩:=p;obtain⟨rfl,_⟩:=Jw e;exact⟨by simp,by simp;omega⟩
def Q_(o:Option (Int×Int))(l:List Nat)(S:Store):Out D:=match o with
 |some r=>.ok (kz r.1 r.2) S
 |none=>.ex (h4 (.str (aj l))) S
theorem ame{i j k:Nat}{d e f:D}:a0 (hj (c1 (aP i) (c1 (aP j) (c1 (aP k) gH))) (.tup [d,e,f]) sl S) Q=Q.nx (((sl.set i (some d)).set j (some e)).set k (some f)) S:=by
 rw[afa,Nv,hV];dsimp only;rw[Nv,hV];dsimp only;rw[Nv,hV];dsimp only;rw[afb]
theorem amf(jP:Lo l)(hl:l.length<=1000):tY [.str (aj l)] S=Q_ (fP l) l S:=by
 refine Q9 ?_;unfold tY;refine dF rfl ?_;show a0 (xV [some (.str (aj l)),none,none,none,none] S) _;unfold xV;obtain⟨lo1,aag,aah⟩:=amc jP;obtain⟨len1,axn⟩:=amd (l:=l);have raised:∀(sl:aT) (Q:hJ),fP l=none->sl[0]?=some (some (.str (aj l)))->Q.ex=(sY S (λd ao=>Q_ (fP l) l S=.ok d ao) (λe ao=>Q_ (fP l) l S=.ex e ao)).ex->a0 (eL (ak (eo "InvalidText" "InvalidText" ["given"]) (ae (eName 0) ah)) sl S) Q:=λsl Q h h0 mq=>by
  refine Q8 h0 ?_;rw[mq,pY];refine cx (EL rfl) ?_;rw[h];rfl
 refine bF (λsl S1=>S1=S/\sl=[some (.str (aj l)),none,none,none,none]) ?_ ?_
 .have e:ak dM (ae (eName 0) (ae (af (.ty "str")) ah)) [some (.str (aj l)),none,none,none,none] S=.ok (.bl true) S:=bp (by simp)
  exact YJ e ⟨rfl,rfl⟩
 rintro sl S1 ⟨rfl,rfl⟩;refine bF (λsl S2=>S2=S1/\sl=[some (.str (aj l)),some (.str (aj (dg l))),some (.str (aj (gb l))),some (.str (aj (fF l))),none]) ?_ ?_
 .have aw:dD il xA (eName 0) (ae (af (.str "/")) ah) [some (.str (aj l)),none,none,none,none] S1=.ok (.tup [.str (aj (dg l)),.str (aj (gb l)),.str (aj (fF l))]) S1:=by
   refine bp ?_;rw[Ny,aX rfl,aS,if_pos (by rfl),aE (d:=.str (aj [47])) rfl bh,aS];have:xA (.str (aj l)) [.str (aj [47])] S1=.ok (.tup [.str (aj (dg l)),.str (aj (gb l)),.str (aj (fF l))]) S1:=by
    unfold xA;dsimp only;have hc:(aj [47]).length≠0/\(aj l).length<=1000000:=⟨by decide,by rw[mP];omega⟩
    rw[if_pos hc,al4]
   rw[this,aS];exact⟨rfl,rfl⟩
  rw[jK,aw,aS,ame];exact⟨rfl,rfl⟩
 rintro sl S2 ⟨rfl,rfl⟩;refine bF (λsl a4=>a4=S2/\mw l=true/\sl=[some (.str (aj l)),some (.str (aj (dg l))),some (.str (aj (gb l))),some (.str (aj (fF l))),none]) ?_ ?_
 .have a1:=dG (aE (aX (sl:=[some (.str (aj l)),some (.str (aj (dg l))),some (.str (aj (gb l))),some (.str (aj (fF l))),none]) (i:=1) rfl) bh) (ama (S:=S2) lo1 (by omega))
  have a2:aq (aQ true) (eName 2) (af (.str "")) [some (.str (aj l)),some (.str (aj (dg l))),some (.str (aj (gb l))),some (.str (aj (fF l))),none] S2=.ok (.bl (!decide (gb l=[]))) S2:=dr (aX rfl) rfl (uS (b:=[]) (n5 aag) (by intro c hc;cases hc));have a3:=dG (aE (aX (sl:=[some (.str (aj l)),some (.str (aj (dg l))),some (.str (aj (gb l))),some (.str (aj (fF l))),none]) (i:=3) rfl) bh) (Q7 (S:=S2) aah (by omega));have u6:aq (aQ false) (eName 3) (af (.str "0")) [some (.str (aj l)),some (.str (aj (dg l))),some (.str (aj (gb l))),some (.str (aj (fF l))),none] S2=.ok (.bl (decide (fF l=[48]))) S2:=dr (aX rfl) rfl (w1 (b:=[48]) (n5 aah) (EI (by omega)));have nf:mw l=false->fP l=none:=λh=>by
   unfold fP;rw[if_neg];rintro⟨h1,_⟩;rw[h]at h1;cases h1
  rw[hL,uP,nL,e8,a1,aS,d6];cases h1:o8 (dg l)
  .rw[qF,if_pos rfl,if_pos rfl]
   refine raised _ _ (nf ?_) rfl rfl;unfold mw;rw[h1];rfl
  .rw[rZ,if_neg (by simp),Hx,e8,a2,aS,d6]
   by_cases h2:gb l=[]
   .rw[decide_eq_true h2,rZ,if_neg (by simp),if_neg (by simp),j5]
    refine⟨rfl,?_,rfl⟩;unfold mw;rw[h1,decide_eq_true h2];rfl
   .rw[decide_eq_false h2,qF,if_pos rfl,uP,nL,e8,a3,aS,d6]
    have hf:mw l=(ke (fF l)&&decide (fF l≠[48])):=by
     unfold mw;rw[h1,decide_eq_false h2];rfl
    cases aH:ke (fF l)
    .rw[qF,if_pos rfl,if_pos rfl]
     refine raised _ _ (nf ?_) rfl rfl;rw[hf,aH];rfl
    .rw[rZ,if_neg (by simp),e8,u6,aS,d6]
     by_cases bT:fF l=[48]
     .rw[decide_eq_true bT,if_pos rfl]
      refine raised _ _ (nf ?_) rfl rfl;rw[hf,aH,bT];rfl
     .rw[decide_eq_false bT,if_neg (by simp),j5]
      refine⟨rfl,?_,rfl⟩;rw[hf,aH,decide_eq_true bT];rfl
 rintro sl a4 ⟨rfl,hf,rfl⟩;obtain⟨hb,h0⟩:=aac hf;have hs:=Z' (Q0 hf);have c6:LT 200 (num (gE (dg l)) (fZ l)) (den (gE (dg l)) (fZ l)):=LT.of (n:=100) (m:=100) hs hb h0;refine bF (λsl bR=>bR=a4/\sl=[some (.str (aj l)),some (.str (aj (dg l))),some (.str (aj (gb l))),some (.str (aj (fF l))),some (kz (num (gE (dg l)) (fZ l)) (den (gE (dg l)) (fZ l)))]) ?_ ?_
 .have a2:aq (aQ true) (eName 2) (af (.str "")) [some (.str (aj l)),some (.str (aj (dg l))),some (.str (aj (gb l))),some (.str (aj (fF l))),none] a4=.ok (.bl (!decide (gb l=[]))) a4:=dr (aX rfl) rfl (uS (b:=[]) (n5 aag) (by intro c hc;cases hc))
  have b1:=dG (aE (aX (sl:=[some (.str (aj l)),some (.str (aj (dg l))),some (.str (aj (gb l))),some (.str (aj (fF l))),none]) (i:=1) rfl) bh) (amb (S:=a4) (Q0 hf));have hH:eF (aI (aq (aQ true) (eName 2) (af (.str "")))) (ak nX (ae (eName 3) ah)) (af (.int 1)) [some (.str (aj l)),some (.str (aj (dg l))),some (.str (aj (gb l))),some (.str (aj (fF l))),none] a4=.ok (.int (fZ l)) a4:=bp (by
   rw[Nw,e8,a2,aS,d6];unfold fZ;by_cases h2:gb l=[]
   .rw[decide_eq_true h2,rZ,if_neg (by simp),if_pos h2,show af (.int 1) [some (.str (aj l)),some (.str (aj (dg l))),some (.str (aj (gb l))),some (.str (aj (fF l))),none] a4=.ok (.int 1) a4 from rfl,aS]
    exact⟨rfl,rfl⟩
   .have hd:ke (fF l)=true:=by
     unfold mw at hf;simp only[Bool.and_eq_true,Bool.or_eq_true,decide_eq_true_eq]at hf;exact(hf.2.resolve_left h2).1
    obtain⟨dS,cX,ji,_⟩:=EH hd;rw[decide_eq_false h2,qF,if_pos rfl,if_neg h2,dG (aE (aX rfl) bh) (PR dS (by intro e;rw[e]at cX;simp at cX) (by omega)),aS];exact⟨rfl,rfl⟩)
  rw[jK,CN,gY,aE b1 (aE hH bh),aS];refine ahP hs hb (by omega) (by omega) h0 ?_;rw[hV];exact⟨rfl,rfl⟩
 rintro sl bR ⟨rfl,rfl⟩;have ht:cQ "text" [("Ratio",rn)] (eName 4) ah [some (.str (aj l)),some (.str (aj (dg l))),some (.str (aj (gb l))),some (.str (aj (fF l))),some (kz (num (gE (dg l)) (fZ l)) (den (gE (dg l)) (fZ l)))] bR=.ok (.str (aj (cM (num (gE (dg l)) (fZ l)) (den (gE (dg l)) (fZ l))))) bR:=bp (by
  have:=Yc (S:=bR) c6 (by omega);simp[this])
 have a1:=dr (sem:=aQ true) ht (aX (i:=0) rfl) (uS ah4 (n5 jP));by_cases h:cM (num (gE (dg l)) (fZ l)) (den (gE (dg l)) (fZ l))=l
 .have hr:fP l=some (num (gE (dg l)) (fZ l),den (gE (dg l)) (fZ l)):=by
   unfold fP;rw[if_pos ⟨hf,h⟩]
  refine bF (λsl dO=>dO=bR/\sl=[some (.str (aj l)),some (.str (aj (dg l))),some (.str (aj (gb l))),some (.str (aj (fF l))),some (kz (num (gE (dg l)) (fZ l)) (den (gE (dg l)) (fZ l)))]) ?_ ?_
  .rw[hL,e8,a1,aS,d6,decide_eq_true h,rZ,if_neg (by simp),j5]
   exact⟨rfl,rfl⟩
  rintro sl dO ⟨rfl,rfl⟩;refine qo (aX rfl) ?_;rw[kr];refine cx X7 ?_;rw[hr];rfl
 .have hr:fP l=none:=by
   unfold fP;rw[if_neg λq=>h q.2]
  refine bF (λ_ _=>False) ?_ (λ_ _ h=>h.elim);rw[hL,e8,a1,aS,d6,decide_eq_false h,qF,if_pos rfl];exact raised _ _ hr rfl rfl
end
end TR
namespace Z
open PySem PySem.Spec L2 ZM
section
variable{b:Bool}
theorem Q':∀{xs:List D} {ps:List PyData},jC xs=some ps->ps.length=xs.length
 |[],ps,h=>by rw[jC]at h;cases h;rfl
 |x::xs,ps,h=>by
  rw[jC]at h;split at h
  .rename_i a b ea eb
   cases h;rw[List.length_cons,List.length_cons,Q' eb]
  .cases h
end
section
variable{W:hZ}{a:f'}
def t0(W:hZ)(j:Nat):FS:=if j=0 then[(one W,1)]else[]
def t1(a:f')(j:Nat):FS:=if j=1 then[(a,1)]else[]
end
section
variable{k:Nat}
theorem tri(g:Nat->Nat->Nat->Rat)(hk:k<=3):xP (λi=>xP (λh=>g h (i - h) (k - i)) (List.range (i+1))) (List.range (k+1))=xP (λi=>xP (λh=>g i h (k - i - h)) (List.range (k - i+1))) (List.range (k+1)):=by
 have bT:k=0\/k=1\/k=2\/k=3:=by omega
 have r1:List.range 1=[0]:=rfl;have r2:List.range 2=[0,1]:=rfl;have cg:List.range 3=[0,1,2]:=rfl;have dk:List.range 4=[0,1,2,3]:=rfl;rcases bT with rfl|rfl|rfl|rfl
 all_goals simp[r1,r2,cg,dk,xP,Rat.add_zero,Rat.add_assoc,Rat.add_comm,Rat.add_left_comm]
end
section
theorem ez:True:=trivial
theorem zu:True:=trivial
end
section
variable{W:hZ}{P:o5}
def z8(W:hZ)(P:o5)(a:f'):Nat->Nat×f'->Rat
 |0,x=>if x.2=a then P.ends.getD x.1 0 else 0
 |m+1,x=>xP (λq=>if q.1.1=x.1 then q.2 * z8 W P a m (q.1.2.1,mul W x.2 q.1.2.2)else 0) P.Am
end
structure PW(W:hZ)(P:o5):Prop where
 st:∀p∈P.starts,p.1.1<P.ends.length/\D9 W p.1.2
 rd:∀q∈P.Am,q.1.1<P.ends.length/\q.1.2.1<P.ends.length/\D9 W q.1.2.2
section
variable{W:hZ}{P:o5}{e:Rat}
def amg(W:hZ)(e:Rat):Option f'->o5
 |none=>⟨[e],[((0,one W),1)],[]⟩
 |some a=>⟨[0,e],[((0,one W),1)],[((0,1,a),1)]⟩
variable{v:Option f'}
def amh(W:hZ)(e:Rat)(v:Option f')(P:o5):o5:=alz P (amg W e v)
end
section
variable{S:Store}{W:hZ}{P:o5}{sl:aT}{f g:aM}
section
variable{u:D}
theorem ami{c:cJ}{g:aM}{b:Bool}(h:c sl S=.ok b S)(h1:b=true->f sl S=.ok u S)(h2:b=false->g sl S=.ok u S):eF c f g sl S=.ok u S:=by
 refine bp ?_;rw[Nw,h,aS];cases b with
 |true=>rw[if_pos rfl,h1 rfl,aS];exact⟨rfl,rfl⟩
 |false=>rw[if_neg (by simp),h2 rfl,aS];exact⟨rfl,rfl⟩
end
variable{e:Rat}{v:Option f'}
structure Lt(W:hZ)(P Q:o5)(e:Rat)(v:Option f'):Prop where
 eq:Q=amh W e v P
 bB:e≠0
 axo:ZJ.k7 6 24 e
 sm:∀a,v=some a->Sm W 1 a
end
open PySem PySem.Spec L2 ZW
section
variable{ps:List (Nat×Nat)}{c x:Nat}{u v:List Nat}{f:List Nat->Int}
def aai(v:List Nat):Prop:=∀c∈v,z6 c=true
def bN(ps:List (Nat×Nat))(x:Nat)(v:List Nat):Option (List Nat):=if(put (tI ps) v (inv x)).length<v.length then some (put (tI ps) v (inv x))else none
def alt(ps:List (Nat×Nat))(x:Nat)(f:List Nat->Int):Nat->List Nat->Int
 |0,v=>f v
 |n+1,v=>f v - ((bN ps x v).elim 0 (alt ps x f n))
def p7(ps:List (Nat×Nat))(v:List Nat):Prop:=∀u x y,aai u->P (tI ps) Yh u->z6 x=true->aai y->v≠N (tI ps) (put (tI ps) (put (tI ps) u x) x) y
end
abbrev Tab:=List (List Nat×Int)
def getT:Tab->List Nat->Int
 |[],_=>0
 |p::t,u=>if p.1=u then p.2 else getT t u
section
variable{u v:List Nat}{ps:List (Nat×Nat)}{x n:Nat}{neg:Bool}
def one?(u v:List Nat):Int:=if u=v then 1 else 0
def hh(ps:List (Nat×Nat))(neg:Bool)(x:Nat):Nat->List Nat->List Nat->Int
 |0,_,_=>0
 |n+1,u,v=>if neg=true then -(one? (putL ps u x) v+hh ps neg x n (putL ps u x) v)else one? (putL ps u x) v
end
section
variable{ps:List (Nat×Nat)}{x:Nat}{v:List Nat}
def l1(ps:List (Nat×Nat))(x:Nat)(v:List Nat):Option (List Nat):=if(N (tI ps) [inv x] v.reverse).length<v.length then some (N (tI ps) [inv x] v.reverse)else none
end
open ZM
section
theorem gr:True:=trivial
end
open ZM
def zs{aaj:Type}(f:aaj->Int):List aaj->Int
 |[]=>0
 |a::l=>f a+zs f l
open PySem PySem.Spec L2 ZM
section
theorem axp.z':True:=trivial
end
end Z
namespace ZSg
open PySem PySem.Spec L2 Z ZM
section
variable{u v:List Nat}{d c:Nat}{ps:List (Nat×Nat)}
def hF(ps:List (Nat×Nat))(c d:Nat)(v u:List Nat):Int:=hh ps (!z6 c) (low c) (d - u.length) u v
end
section
theorem axq.inv:True:=trivial
end
end ZSg
namespace ZRw
open Z ZM
abbrev Ra:=Nat×f'
abbrev Ent:=List (Ra×Rat)
def z9(l:Ent)(a:Ra):Rat:=(ZJ.look l a).getD 0
abbrev amj(r:Rat):Nat:=r.num.toNat
abbrev amk:=Ent×List (List Rat)
def tP(t:amk)(a:Ra):Nat:=amj ((ZJ.look t.1 a).getD (t.2.length:Rat))
section
theorem t0:True:=trivial
end
end ZRw
namespace Z
open PySem PySem.Spec L2 ZM ZRw
section
variable{i:Nat}
theorem Rb{α:Type}(f:α->D):∀(i:Nat) (l:List α),pQ i (l.map f)=(l.zipIdx i).map λq=>.tup [i5 q.2,f q.1]
 |_,[]=>rfl
 |i,x::l=>by
  rw[cF,pQ,List.zipIdx_cons,cF,Rb f (i+1) l];rfl
end
end Z
namespace ZL2
open Z
abbrev Row:=List Rat
abbrev at_(r:Row)(c:Nat):Rat:=r.getD c 0
abbrev St:=List Row×List (Nat×Row)
end ZL2
set_option exponentiation.threshold 2000
namespace Z
open PySem PySem.Spec L2 ZM
instance axr:DecidableEq o5:=λP Q=>if h:P.ends=Q.ends/\P.starts=Q.starts/\P.Am=Q.Am then isTrue (by cases P;cases Q;simp_all)else isFalse λe=>h (by rw[e];exact⟨rfl,rfl,rfl⟩)
section
variable{S:Store}{b:Rat->Prop}{f:Rat->D}{P:ag}{isr:aB}
theorem aak{a:String}:∀{l:List String},inD (.str (Str.ofString a)) (l.map λx=>.str (Str.ofString x))=decide (a∈l)
 |[]=>by simp[inD]
 |x::l=>by
  have ih:=aak (a:=a) (l:=l);unfold inD at ih ⊢;rw[cF,List.any_cons,ih];have:y2 (.str (Str.ofString x)) (.str (Str.ofString a))=decide (x=a):=by
   show(Str.ofString x==Str.ofString a)=_;by_cases h:x=a
   .subst h;simp
   .have:¬Str.ofString x=Str.ofString a:=λe=>h (ahG.mp e)
    simp[h,this]
  rw[this];by_cases h:x=a
  .subst h;simp
  .have h2:¬a=x:=λe=>h e.symm
   simp[h,h2]
theorem d7{a x y:String}:dy (.str (Str.ofString a)) (.tup [.str (Str.ofString x),.str (Str.ofString y)]) S=.ok (.bl (decide (a=x\/a=y))) S:=by
 rw[NM (xs:=[x,y].map λx=>.str (Str.ofString x)) rfl rfl (by simp[oI]),aak];simp
theorem vw{k:aC}{cs:List ag}:a7 ((ag.nd k cs).dat f) (.int 0) S=.ok (.str (Str.ofString k.word)) S:=by
 rw[ag.hy];refine bp ?_;simp
theorem vx{x:D}{xs:List D}:je (x::xs) (some 1) none=xs:=afu (x::xs) 1
variable(aR:∀k r,bf k (f r)=true)
include aR
theorem Rc{n:Nat}{cs:List ag}:bH n (cs.map (ag.dat f))=true:=by
 rw[lV];intro d hd;obtain⟨c,hc,rfl⟩:=iI.mp hd;exact m4 aR c n
theorem aml(h:P.ok b):k8 [P.dat f] S=.ok (.lst (P.cs.map (ag.dat f))) S:=by
 obtain⟨k,cs⟩:=P;have hf:=(ag.i6.mp h).1;refine bp ?_;unfold k8;refine dF rfl ?_;have hd:=vw (f:=f) (k:=k) (cs:=cs) (S:=S);rw[ag.hy]at hd ⊢;have f5:bf S.length (.lst (cs.map (ag.dat f)))=true:=Rc aR;have hl:cs.length<=1000:=by have:=aC.fit_le hf;omega
 show a0 (iD [_] S) _;cases k with
 |go x =>
  have e:cs=[]:=eO.mp hf.1;subst e;simp[iD,hd,d7,aC.word,aC.pay,ag.cs];exact cx f5 ⟨rfl,rfl⟩
 |stay =>
  have e:cs=[]:=eO.mp hf;subst e;simp[iD,hd,d7,aC.word,aC.pay,ag.cs];exact cx f5 ⟨rfl,rfl⟩
 |none =>
  have e:cs=[]:=eO.mp hf;subst e;simp[iD,hd,d7,aC.word,aC.pay,ag.cs];exact cx f5 ⟨rfl,rfl⟩
 |loop =>
  obtain⟨c,rfl⟩:=hR.mp hf;simp[iD,hd,d7,aC.word,aC.pay,ag.cs,HF];exact cx f5 ⟨rfl,rfl⟩
 |scale r =>
  obtain⟨c,rfl⟩:=hR.mp hf.1;simp[iD,hd,d7,aC.word,aC.pay,ag.cs,HF];exact cx f5 ⟨rfl,rfl⟩
 |seq =>
  simp[iD,hd,d7,aC.word,aC.pay,ag.cs,vx,oJ];exact cx f5 ⟨rfl,rfl⟩
 |alt =>
  simp[iD,hd,d7,aC.word,aC.pay,ag.cs,vx,oJ];exact cx f5 ⟨rfl,rfl⟩
theorem aal(h:P.ok b):rD [P.dat f] S=.ok (.lst (P.cs.map (ag.dat f))) S:=by
 obtain⟨k,cs⟩:=P;have hf:=(ag.i6.mp h).1;refine bp ?_;unfold rD;refine dF rfl ?_;have hd:=vw (f:=f) (k:=k) (cs:=cs) (S:=S);rw[ag.hy]at hd ⊢;have f5:bf S.length (.lst (cs.map (ag.dat f)))=true:=Rc aR;have hl:cs.length<=1000:=by have:=aC.fit_le hf;omega
 show a0 (m5 [_] S) _;cases k with
 |go x =>
  have e:cs=[]:=eO.mp hf.1;subst e;simp[m5,hd,d7,aC.word,aC.pay,ag.cs];exact cx f5 ⟨rfl,rfl⟩
 |stay =>
  have e:cs=[]:=eO.mp hf;subst e;simp[m5,hd,d7,aC.word,aC.pay,ag.cs];exact cx f5 ⟨rfl,rfl⟩
 |none =>
  have e:cs=[]:=eO.mp hf;subst e;simp[m5,hd,d7,aC.word,aC.pay,ag.cs];exact cx f5 ⟨rfl,rfl⟩
 |loop =>
  obtain⟨c,rfl⟩:=hR.mp hf;simp[m5,hd,d7,aC.word,aC.pay,ag.cs];exact cx f5 ⟨rfl,rfl⟩
 |scale r =>
  obtain⟨c,rfl⟩:=hR.mp hf.1;simp[m5,hd,d7,aC.word,aC.pay,ag.cs];exact cx f5 ⟨rfl,rfl⟩
 |seq =>
  simp[m5,hd,d7,aC.word,aC.pay,ag.cs,vx,oJ];exact cx f5 ⟨rfl,rfl⟩
 |alt =>
  simp[m5,hd,d7,aC.word,aC.pay,ag.cs,vx,oJ];exact cx f5 ⟨rfl,rfl⟩
omit aR
theorem Rf{x:List Nat}:dy (.str (aj x)) (.tup [.str (Str.ofString "stay"),.str (Str.ofString "none")]) S=.ok (.bl (decide (x=[115,116,97,121]\/x=[110,111,110,101]))) S:=by
 have aw:Str.ofString "stay"=aj [115,116,97,121]:=rfl;have e2:Str.ofString "none"=aj [110,111,110,101]:=rfl;rw[aw,e2,NM (xs:=[.str (aj [115,116,97,121]),.str (aj [110,111,110,101])]) rfl rfl (by simp[oI])];have go:∀y:List Nat,y2 (.str (aj y)) (.str (aj x))=decide (x=y):=λy=>by
  show(aj y==aj x)=_;by_cases h:x=y
  .subst h;simp
  .have h2:¬y=x:=λe=>h e.symm
   simp[h,h2]
 have:inD (.str (aj x)) [.str (aj [115,116,97,121]),.str (aj [110,111,110,101])]=decide (x=[115,116,97,121]\/x=[110,111,110,101]):=by
  unfold inD;simp only[List.any_cons,List.any_nil,go];simp
 rw[this]
theorem aam{x:List Nat}(h:o7 x):vt [.str (aj x)] S=.ok (.bl true) S:=by
 refine bp ?_;unfold vt;refine dF rfl ?_;have h1:=h.pos;have h2:=h.le;have aH:=Rf (S:=S) (x:=x);have bT:¬(x=[115,116,97,121]\/x=[110,111,110,101]):=λz=>z.elim h.ns h.nn;have e:cC (cw (ey (eName 0)) (aP 1) cv (aq dy (eName 1) (af (.str "abcdefghijklmnopqrstuvwxyz"))) [1]) [some (.str (aj x)),none] S=.ok (.lst (x.map λ_=>.bl true)) S :=
  o4 (l:=x) (row:=iV) (λ_=>.bl true) (p3 (d:=.str (aj x)) (aX (i:=0) rfl) (by simp[V9])) (by omega) (λacc=>by simp[V9]) (λc hc acc=>⟨_,rfl,dr (aX (i:=1) rfl) rfl (by
   rw[WM,Wr];simp[h.abc c hc])⟩) λc hc=>rfl
 show a0 (tV [some (.str (aj x)),none] S) _;have a6:((x.length:Int)<=8):=by omega
 have dA:((1:Int)<=x.length):=by omega
 unfold tV;generalize cC (cw (ey (eName 0)) (aP 1) cv (aq dy (eName 1) (af (.str "abcdefghijklmnopqrstuvwxyz"))) [1])=F at e ⊢;simp[aH,bT,a6,dA,e,Wy];omega
def t2(isr:aB)(b:Rat->Prop)(f:Rat->D):Prop:=∀r S,b r->isr [f r,.cls "Ratio"] S=.ok (.bl true) S
theorem amm(hi:t2 isr b f)(h:P.ok b):xT isr [P.dat f] S=.ok (.bl true) S:=by
 obtain⟨k,cs⟩:=P;have hf:=(ag.i6.mp h).1;refine bp ?_;unfold xT;refine dF rfl ?_;have hd:=vw (f:=f) (k:=k) (cs:=cs) (S:=S);rw[ag.hy]at hd ⊢;have hl:cs.length<=1000:=by have:=aC.fit_le hf;omega
 show a0 (kF isr [_] S) _;cases k with
 |go x =>
  have e:cs=[]:=eO.mp hf.1;subst e;have hn:=aam (S:=S) hf.2;simp[kF,hd,d7,aC.word,aC.pay,ag.cs,hn]
 |stay =>
  have e:cs=[]:=eO.mp hf;subst e;simp[kF,hd,d7,aC.word,aC.pay,ag.cs]
 |none =>
  have e:cs=[]:=eO.mp hf;subst e;simp[kF,hd,d7,aC.word,aC.pay,ag.cs]
 |loop =>
  obtain⟨c,rfl⟩:=hR.mp hf;simp[kF,hd,d7,aC.word,aC.pay,ag.cs]
 |scale r =>
  obtain⟨c,rfl⟩:=hR.mp hf.1;have hr:=hi r S hf.2;simp[kF,hd,d7,aC.word,aC.pay,ag.cs,hr]
 |seq =>
  have a6:((2:Int)<=cs.length):=by have:=hf.1;omega
  have dA:((cs.length:Int)<=6):=by have:=hf.2;omega
  simp[kF,hd,d7,aC.word,aC.pay,ag.cs,a6,dA];omega
 |alt =>
  have a6:((2:Int)<=cs.length):=by have:=hf.1;omega
  have dA:((cs.length:Int)<=6):=by have:=hf.2;omega
  simp[kF,hd,d7,aC.word,aC.pay,ag.cs,a6,dA];omega
end
section
variable{S:Store}{b:Rat->Prop}{f:Rat->D}
theorem amn{n:Nat}{xs:List D}(h:S[n]?=some (.lst xs)):Jg (.ptr n) (.lst []) S=.ok (.bl (!decide (xs=[]))) S:=by
 have h1:d8 S (.ptr n)=some xs:=by simp[d8,h]
 have aY:eqO true ["Ratio"] [("Ratio",rm)] 12 (.ptr n) (.lst []) S=.ok (.bl (!decide (xs=[]))) S:=by
  unfold eqO;rw[h1];simp only[HE];cases xs with
  |nil=>rw[if_pos rfl,if_pos (by intro i x y e;simp at e)];rfl
  |cons x xs=>rw[if_neg (by simp)];simp
 have key:aQ true (.ptr n) (.lst []) S=.bad\/aQ true (.ptr n) (.lst []) S=.ok (.bl (!decide (xs=[]))) S:=by
  unfold aQ;have e2:toP S (.lst [])=some (.list []):=rfl;rw[e2];have aw:toP S (.ptr n)=(jC xs).map .list:=by
   show(match S[n]? with
    |some (.lst ds)=>(jC ds).map PyData.list
    |_=>none)=_
   rw[h]
  rw[aw];cases q:jC xs with
  |none=>exact .inl rfl
  |some ps =>
   have hl:=Q' q;simp only[yv];split
   .right
    have:PyData.eqv (.list ps) (.list [])=decide (xs=[]):=by
     cases ps with
     |nil =>
      cases xs with
      |nil=>rfl
      |cons x xs=>simp at hl
     |cons p ps =>
      cases xs with
      |nil=>simp at hl
      |cons x xs=>simp[PyData.eqv,PyData.eqvAll]
    rw[this];rfl
   .exact .inl rfl
 unfold Jg;rcases key with e|e
 .rw[iX e];exact aY
 .rw[w0 e]
def cI(f:Rat->D)(t:List (List Nat×ag)):List D:=(t.map (g4 f)).reverse
theorem aan:cI f []=[]:=rfl
theorem Jx{p:List Nat×ag}{t:List (List Nat×ag)}:cI f (p::t)=cI f t++[g4 f p]:=by simp[cI]
theorem Rg{t u:List (List Nat×ag)}:cI f (t++u)=cI f u++(t.map (g4 f)).reverse:=by simp[cI]
theorem amo{n:Nat}{p:List Nat×ag}{t:List (List Nat×ag)}(h:S[n]?=some (.lst (cI f (p::t)))):sL (.ptr n) [] S=.ok (g4 f p) (S.set n (.lst (cI f t))):=by
 unfold sL;simp only[h];rw[Jx];simp
theorem aao{sl:aT}{fe:aM}{fr:du}{d:D}{xs ds:List D}(h:fe sl S=.ok d S)(hs:D1 S d=some xs)(h2:fr sl S=.ok ds S):mj fe fr sl S=.ok (xs++ds) S:=by
 unfold mj;simp only[h,pW,hs,h2]
theorem Ao(s:List Nat):∀(i:Nat) (cs:List ag),hA s i cs=(cs.zipIdx i).map λq=>(s++[q.2],q.1)
 |i,[]=>rfl
 |i,c::cs=>by rw[hA,List.zipIdx_cons,cF,Ao s (i+1) cs]
theorem aap{sl:aT}{s:List Nat}{p:ag}{i j k l:Nat}(aR:∀k r,bf k (f r)=true)(hp:p.ok b)(hs:s.length<=1000)(hi:sl[i]?=some (some (d0 s)))(cK:sl[j]?=some (some (p.dat f)))(hk:k<sl.length)(hl:l<sl.length)(h1:i≠k)(h2:i≠l)(aH:k≠l) :
  cC (cw (pR (ae (ak k8 (ae (eName j) ah)) ah)) (hj (c1 (aP k) (c1 (aP l) gH))) cv (ak bu (ae (ak bu (mj (eName i) (ae (eName k) ah))) (ae (eName l) ah))) [k,l]) sl S=.ok (.lst ((hA s 0 p.cs).map (g4 f))) S:=by
 have hc:p.cs.length<=6:=by
  obtain⟨cj,cs⟩:=p;exact aC.fit_le (ag.i6.mp hp).1
 have hit:pR (ae (ak k8 (ae (eName j) ah)) ah) sl S=.ok ((p.cs.zipIdx 0).map λq=>.tup [i5 q.2,q.1.dat f],λS2=>eK S2 (.lst (p.cs.map (ag.dat f)))=some (p.cs.map (ag.dat f))) S:=by
  rw[Wn (dG (aE (aX cK) bh) (aml aR hp)) (q4 _),Rb]
 rw[o4 (l:=p.cs.zipIdx 0) (row:=λq=>.tup [i5 q.2,q.1.dat f]) (λq=>g4 f (s++[q.2],q.1)) hit (by simp;omega) (λacc=>by simp) (λq hq acc=>?_) (λq hq=>Ew aR _ _),Ao,ov]
 .rfl
 .refine⟨((df sl [k,l]).set k (some (i5 q.2))).set l (some (q.1.dat f)),?_,?_⟩
  .simp[hj,c1,gH,aP]
  .have j6:(((df sl [k,l]).set k (some (i5 q.2))).set l (some (q.1.dat f)))[i]?=some (some (d0 s)):=by
    simp only[df];rw[lx (g8 h2),lx (g8 h1),lx (g8 h1),lx (g8 h2)];exact hi
   have hK:(((df sl [k,l]).set k (some (i5 q.2))).set l (some (q.1.dat f)))[k]?=some (some (i5 q.2)):=by
    simp only[df];rw[lx (g8 aH),mz (by simpa using hk)]
   have dZ:(((df sl [k,l]).set k (some (i5 q.2))).set l (some (q.1.dat f)))[l]?=some (some (q.1.dat f)):=by
    simp only[df];rw[mz (by simpa using hl)]
   have aw:mj (eName i) (ae (eName k) ah) (((df sl [k,l]).set k (some (i5 q.2))).set l (some (q.1.dat f))) (S++[.lst acc])=.ok ((s.map fun(i:Nat)=>D.int (i:Int))++[i5 q.2]) (S++[.lst acc]):=by
    exact aao (aX j6) rfl (aE (aX hK) bh)
   have e2:d0 (s++[q.2])=.tup ((s.map fun(i:Nat)=>D.int (i:Int))++[i5 q.2]):=by
    unfold d0;rw[List.map_append];rfl
   unfold g4;rw[e2];exact hv (aE (hv aw (by simp;omega)) (aE (aX dZ) bh)) (by simp)
end
section
variable{S:Store}{b:Rat->Prop}{f:Rat->D}{P:ag}{isr:aB}
theorem aaq{sl:aT}{ty:Store->D->Bool}{g:kX}{fo:aM}{fs:du}{d r:D}{ds:List D}{S1:Store}(h:fo sl S=.ok d S)(hd:fs sl S=.ok ds S)(ht:ty S d=true)(h2:g d ds S=.ok r S1):dD ty g fo fs sl S=.ok r S1:=by
 unfold dD;simp only[h,hd,pW];simp[ht,h2]
theorem Rh{sl:aT}{i n:Nat}{xs:List D}(hi:sl[i]?=some (some (.ptr n)))(h:S[n]?=some (.lst xs)):aI (aq Jg (eName i) (ak d_ ah)) sl S=.ok (!decide (xs=[])) S:=by
 have:aq Jg (eName i) (ak d_ ah) sl S=.ok (.bl (!decide (xs=[]))) S:=dr (aX hi) (nY bh (by simp)) (amn h);unfold aI;rw[this];rfl
theorem Ri{sl a':aT}{S1 S2:Store}{Q:hJ}{fe:aM}{g:d4}{d:D}(h:fe sl S=.ok d S1)(hg:g d sl S1=.nx a' S2)(hq:Q.nx a' S2):a0 (bJ fe g sl S) Q:=by
 simp[h,hg,hq]
theorem ER{sl:aT}{S1:Store}{Q:hJ}{fe:aM}{d:D}(h:fe sl S=.ok d S1)(hq:Q.nx sl S1):a0 (km fe sl S) Q:=by
 simp[h,hq]
theorem Rj{sl:aT}{i n:Nat}{fe:aM}{xs ys:List D}(hi:sl[i]?=some (some (.ptr n)))(h:S[n]?=some (.lst xs))(he:fe sl S=.ok (.lst ys) S)(hl:xs.length+ys.length<=1000000):dD iT uL (eName i) (ae fe ah) sl S=.ok .non (S.set n (.lst (xs++ys))):=by
 refine aaq (aX hi) (aE he bh) (HS h) ?_;unfold uL;simp only[h,HE];rw[if_pos hl]
theorem Rk{sl:aT}{i n:Nat}{p:List Nat×ag}{t:List (List Nat×ag)}(hi:sl[i]?=some (some (.ptr n)))(h:S[n]?=some (.lst (cI f (p::t)))):dD iT sL (eName i) ah sl S=.ok (g4 f p) (S.set n (.lst (cI f t))) :=
 aaq (aX hi) bh (HS h) (amo h)
theorem Rl{sl:aT}{fe:aM}{xs:List D}(h:fe sl S=.ok (.lst xs) S):xv false fe sl S=.ok (.lst xs.reverse) S:=by
 unfold xv;simp only[h,pW];rfl
theorem Rm{t:List (List Nat×ag)}:(cI f t).length=t.length:=by simp[cI]
theorem Rn(aR:∀k r,bf k (f r)=true)(hi:t2 isr b f)(h:P.ok b)(hs:P.size<=40)(hd:P.dep<=8):vu isr [P.dat f] S=.ok .non S:=by
 refine bp ?_;unfold vu;refine dF rfl ?_;show a0 (Ey isr ([some (P.dat f)]++List.replicate 7 none) S) _;unfold Ey;refine bF (λsl S1=>S1=S++[.lst (cI f [([],P)])]/\sl=[some (P.dat f),some (.ptr S.length),some (.int 0),none,none,none,none,none]) ?_ ?_
 .simp
  rfl
 rintro sl S1 ⟨rfl,rfl⟩;refine zq P.size (λk sl S1=>∃i b0 c0 cB b7 cY,k+i=P.size/\S1=S++[.lst (cI f (fY P i))]/\sl=[some (P.dat f),some (.ptr S.length),some (.int ((i:Nat):Int)),b0,c0,cB,b7,cY]) ⟨0,none,none,none,none,none,rfl,rfl,rfl⟩ (by omega) ?_;rintro k sl S1 ⟨i,b0,c0,cB,b7,cY,hk,rfl,rfl⟩;have hg:(S++[dH.lst (cI f (fY P i))])[S.length]?=some (.lst (cI f (fY P i))):=CU rfl;rw[Rh (i:=1) (n:=S.length) rfl hg,aS];have hlen:=ag.vr [] P;by_cases c6:i<(ag.pre [] P).length
 .obtain⟨r,fU⟩:=Ji c6
  generalize hp:(ag.pre [] P)[i]=p at fU;obtain⟨s,p⟩:=p;have mO:(s,p)∈ag.pre [] P:=by rw[<-hp];exact v7 _
  obtain⟨hok,C1⟩:=ag.QJ P [] h _ mO;have tQ:=p.vq;simp only[mB,Nat.zero_add]at C1;have ql:s.length<8:=by omega
  rw[fU]at hg ⊢;have d5:(cI f ((s,p)::r)=[])=False:=by rw[Jx];simp
  simp only[d5,decide_false,qF,if_true];have aar:r.length<=40:=by
   have:=QK (P:=P) (i:=i);rw[fU]at this;simp at this;omega
  refine bF (λsl S2=>S2=S++[.lst (cI f r)]/\sl=[some (P.dat f),some (.ptr S.length),some (.int ((i:Nat):Int)),some (d0 s),some (p.dat f),cB,b7,cY]) (Ri (Rk (i:=1) rfl hg) rfl ⟨q8 rfl,rfl⟩) ?_;rintro sl S2 ⟨rfl,rfl⟩;refine bF (λsl S2=>S2=S++[.lst (cI f r)]/\sl=[some (P.dat f),some (.ptr S.length),some (.int ((i+1:Nat):Int)),some (d0 s),some (p.dat f),cB,b7,cY]) ?_ ?_
  .simp
  rintro sl S2 ⟨rfl,rfl⟩;refine bF (λsl S2=>S2=S++[.lst (cI f r)]/\sl=[some (P.dat f),some (.ptr S.length),some (.int ((i+1:Nat):Int)),some (d0 s),some (p.dat f),cB,b7,cY]) ?_ ?_
  .have aw:¬((i:Int)+1>40):=by omega
   have e2:¬((s.length:Int)>=8):=by omega
   have a6:=amm (S:=S++[.lst (cI f r)]) hi hok;simp[aw,e2,a6,d0]
  rintro sl S2 ⟨rfl,rfl⟩;refine bF (λsl S2=>S2=S++[.lst (cI f r)]/\sl=[some (P.dat f),some (.ptr S.length),some (.int ((i+1:Nat):Int)),some (d0 s),some (p.dat f),some (.lst ((hA s 0 p.cs).map (g4 f))),b7,cY]) (iB (aap aR hok (by omega) (i:=3) (j:=4) rfl rfl (by simp) (by simp) (by omega) (by omega) (by omega)) ⟨rfl,rfl⟩) ?_;rintro sl S2 ⟨rfl,rfl⟩;have aas:(hA s 0 p.cs).length<=6:=by
   rw[Ao];obtain⟨cj,cs⟩:=p;simp;exact aC.fit_le (ag.i6.mp hok).1
  refine ER (Rj (i:=1) (ys:=((hA s 0 p.cs).map (g4 f)).reverse) rfl (CU rfl) (Rl (aX (i:=5) rfl)) (by rw[Rm];simp;omega)) ⟨k - 1,by omega,i+1,some (d0 s),some (p.dat f),_,b7,cY,by omega,?_,rfl⟩;rw[q8 rfl,fY,fU];obtain⟨cj,cs⟩:=p;show _=S++[dH.lst (cI f (hA s 0 cs++r))]
  rw[Rg];rfl
 .rw[QI (by omega)]
  simp[aan];exact uQ (fz.refl S) rfl ⟨rfl,rfl⟩
def Jy(f:Rat->D)(L:List (List Nat×ag)):Nat->Option D
 |0=>none
 |j+1=>(L[j]?).map λp=>.lst ((hA p.1 0 p.2.cs).map (g4 f))
def xZ(f:Rat->D)(P:ag)(h:Nat)(i:Nat):aT:=[some (P.dat f),some (.ptr h),((ag.pre [] P)[i]?).map λp=>d0 p.1,((ag.pre [] P)[i]?).map λp=>p.2.dat f,Jy f (ag.pre [] P) i,none,none]
def x3(f:Rat->D)(P:ag)(h:Nat):Nat->aT
 |0=>[some (P.dat f),some (.ptr h),none,none,none,none,none]
 |i+1=>[some (P.dat f),some (.ptr h),((ag.pre [] P)[i]?).map λp=>d0 p.1,((ag.pre [] P)[i]?).map λp=>p.2.dat f,Jy f (ag.pre [] P) (i+1),none,none]
def vy(f:Rat->D)(P:ag)(i:Nat):List D:=cI f (fY P i).tail
def Jz(f:Rat->D)(P:ag)(h:Nat):ZG.tT where
 ds:=(ag.pre [] P).map (g4 f)
 fin:=.done
 slA:=x3 f P h
 slY:=xZ f P h
 sl0:=[some (P.dat f)]++List.replicate 6 none
 gC:=ZG.o2 h (vy f P)
 U:=ZG.h3 h (vy f P)
theorem aat{h j:Nat}(cK:j<=(ag.pre [] P).length)(hg:S[h]?=some (.lst (cI f (fY P j)))):ZG.n0 (Jk isr) (QM isr) (QN isr) ((ag.pre [] P).map (g4 f)) (x3 f P h) (xZ f P h) j S (S.set h (.lst (vy f P j))):=by
 have amq:∃x2 b0 c0,x3 f P h j=[some (P.dat f),some (.ptr h),x2,b0,c0,none,none]/\c0=Jy f (ag.pre [] P) j:=by
  cases j with
  |zero=>exact⟨_,_,_,rfl,rfl⟩
  |succ i=>exact⟨_,_,_,rfl,rfl⟩
 obtain⟨x2,b0,c0,JA,dA⟩:=amq;have d9:Jk isr (x3 f P h j) S=.ok (!decide (cI f (fY P j)=[])) S:=by
  rw[JA];exact Rh (i:=1) rfl hg
 unfold ZG.n0;by_cases c6:j<(ag.pre [] P).length
 .rw[dif_pos (by simpa using c6)]
  obtain⟨r,fU⟩:=Ji c6;have nG:(ag.pre [] P)[j]?=some (ag.pre [] P)[j]:=pE c6;have IV:xZ f P h j=[some (P.dat f),some (.ptr h),some (d0 (ag.pre [] P)[j].1),some ((ag.pre [] P)[j].2.dat f),c0,none,none]:=by
   unfold xZ;rw[nG,dA];rfl
  refine⟨?_,?_,?_⟩
  .rw[d9,fU]
   have:(cI f ((ag.pre [] P)[j]::r)=[])=False:=by rw[Jx];simp
   simp only[this,decide_false,qF]
  .rw[JA,IV]
   rw[fU]at hg;refine QG ?_;refine Ri (Rk (i:=1) rfl hg) rfl ⟨rfl,?_⟩;unfold vy;rw[fU];rfl
  .rw[IV,List.getElem_map]
   exact hv (aE (aX (i:=2) rfl) (aE (aX (i:=3) rfl) bh)) (by simp)
 .rw[dif_neg (by simpa using c6)]
  have e:=QI (P:=P) (i:=j) (by omega);rw[e]at hg;refine⟨by rw[d9,e];rfl,?_⟩;unfold vy;rw[e];obtain⟨hn,e2⟩:=List.getElem?_eq_some_iff.mp hg;show S.set h (.lst (cI f []))=S;rw[<-e2,A8]
theorem amr{h:Nat}(aR:∀k r,bf k (f r)=true)(hi:t2 isr b f)(bU:P.ok b)(hs:P.size<=40)(hd:P.dep<=8):ZG.o3 1 7 h (QL isr) (Jk isr) (QM isr) (QN isr) (Jl isr) [P.dat f] (Jz f P h) (vy f P) where
 len:=rfl
 sl0:=rfl
 fin:=rfl
 Jb:=rfl
 u:=rfl
 st:=λS ⟨_,hl,_⟩=>by
  have hl:=hl rfl;refine⟨S++[.lst (cI f (fY P 0))],?_,?_⟩
  .refine QG ?_
   unfold QL;show a0 (aL _ _ ([some (P.dat f)]++List.replicate 6 none) S) _;refine bF (λsl S1=>sl=[some (P.dat f)]++List.replicate 6 none/\S1=S) (ER (dG (aE (aX (i:=0) rfl) bh) (Rn aR hi bU hs hd)) ⟨rfl,rfl⟩) ?_;rintro sl S1 ⟨rfl,rfl⟩;rw[<-hl];simp[Jz,x3,fY];rfl
  .have:=aat (S:=S++[.lst (cI f (fY P 0))]) (isr:=isr) (P:=P) (f:=f) (h:=h) (j:=0) (jW _) (CU hl)
   rw[q8 hl]at this;show ZG.n0 _ _ _ _ _ _ 0 _ (if 0=0 then _ else _);rw[if_pos rfl];exact this
 lp:=⟨λi P1 S ⟨hc,_,hq⟩=>by
  have hq:=hq (by omega);have c6:i<(ag.pre [] P).length:=by simpa[Jz]using P1
  obtain⟨r,fU⟩:=Ji c6;have wI:(ag.pre [] P)[i]?=some (ag.pre [] P)[i]:=pE c6;generalize hp:(ag.pre [] P)[i]=p at fU wI;obtain⟨s,p⟩:=p;have mO:(s,p)∈ag.pre [] P:=by rw[<-hp];exact v7 _
  obtain⟨hok,C1⟩:=ag.QJ P [] bU _ mO;have tQ:=p.vq;simp only[mB,Nat.zero_add]at C1;have hh:h<S.length:=(List.getElem?_eq_some_iff.mp hq).1;have hq:S[h]?=some (.lst (cI f r)):=by
   rw[hq];show some (dH.lst (cI f (fY P (i+1 - 1)).tail))=_;rw[Nat.add_sub_cancel,fU];rfl
  have aar:r.length<=40:=by
   have:=QK (P:=P) (i:=i);rw[fU]at this;simp at this;omega
  have aas:(hA s 0 p.cs).length<=6:=by
   rw[Ao];obtain⟨cj,cs⟩:=p;simp;exact aC.fit_le (ag.i6.mp hok).1
  have et:cI f (fY P (i+1))=cI f r++((hA s 0 p.cs).map (g4 f)).reverse:=by
   rw[fY,fU];obtain⟨cj,cs⟩:=p;show cI f (hA s 0 cs++r)=_;rw[Rg];rfl
  refine⟨S.set h (.lst (cI f (fY P (i+1)))),?_,?_⟩
  .refine QG ?_
   have ams:xZ f P h i=[some (P.dat f),some (.ptr h),some (d0 s),some (p.dat f),Jy f (ag.pre [] P) i,none,none]:=by
    unfold xZ;rw[wI];rfl
   have JA:x3 f P h (i+1)=[some (P.dat f),some (.ptr h),some (d0 s),some (p.dat f),some (.lst ((hA s 0 p.cs).map (g4 f))),none,none]:=by
    show[some (P.dat f),some (.ptr h),((ag.pre [] P)[i]?).map λp=>d0 p.1,((ag.pre [] P)[i]?).map λp=>p.2.dat f,((ag.pre [] P)[i]?).map λp=>.lst ((hA p.1 0 p.2.cs).map (g4 f)),none,none]=_;rw[wI];rfl
   show a0 (Jl isr (xZ f P h i) S) _;show a0 _ ⟨λeH ao=>eH=x3 f P h (i+1)/\_,_,_,_,_⟩;rw[ams,JA];unfold Jl;refine bF (λsl S2=>S2=S/\sl=[some (P.dat f),some (.ptr h),some (d0 s),some (p.dat f),some (.lst ((hA s 0 p.cs).map (g4 f))),none,none]) (iB (aap aR hok (by omega) (i:=2) (j:=3) rfl rfl (by simp) (by simp) (by omega) (by omega) (by omega)) ⟨rfl,rfl⟩) ?_;rintro sl S2 ⟨rfl,rfl⟩;refine ER (Rj (i:=1) (ys:=((hA s 0 p.cs).map (g4 f)).reverse) rfl hq (Rl (aX (i:=4) rfl)) (by rw[Rm];simp;omega)) ⟨rfl,?_⟩;rw[et]
  .have:=aat (S:=S.set h (.lst (cI f (fY P (i+1))))) (isr:=isr) (P:=P) (f:=f) (h:=h) (j:=i+1) c6 (mz hh)
   rw[uv]at this;show ZG.n0 _ _ _ _ _ _ (i+1) _ (if i+1=0 then _ else _);rw[if_neg (by omega)];exact this⟩
 cl:=λi _=>by
  rw[lV];intro d hd;obtain⟨p,_,rfl⟩:=iI.mp (List.mem_reverse.mp hd);exact Ew aR p 0
end
def dt(x:List Nat):D:=.str (aj x)
def amt(acc:List (List Nat))(p:List Nat×ag):List (List Nat):=match p.2 with
 | .nd (.go x) _=>if x∈acc then acc else acc++[x]
 |_=>acc
def ag.names(P:ag):List (List Nat):=(ag.pre [] P).foldl amt []
section
variable{S S1:Store}{b:Rat->Prop}{f:Rat->D}{P:ag}{isr:aB}
structure aau(isr:aB)(b:Rat->Prop)(f:Rat->D)(P:ag):Prop where
 aR:∀k r,bf k (f r)=true
 hi:t2 isr b f
 ok:P.ok b
 sz:P.size<=40
 dp:P.dep<=8
theorem EV{off:Nat}{fa:du}{sl:aT}(A:aau isr b f P)(h:fa sl S=.ok [P.dat f] S1):∃qs',QO isr off fa sl S=.ok ((ag.pre [] P).map (g4 f),.done,ZG.o2 (S1.length+off) qs',ZG.h3 (S1.length+off) qs') S1/\∀j,j<=(ag.pre [] P).length->qs' j=vy f P j:=by
 obtain⟨iC,qs',aw,e2,a6,dA,e5,xk⟩:=ZG.ala (amr (h:=S1.length+off) A.aR A.hi A.ok A.sz A.dp);refine⟨qs',?_,λj cK=>xk j (by simpa[Jz]using cK)⟩;unfold QO ZG.xN ZV;rw[h];simp only[pW];rw[if_pos (show[P.dat f].length=1 from rfl),show[P.dat f]++([]:List D)=[P.dat f]from rfl,aw];show Out.ok (iC.ds,iC.fin,iC.gC,iC.U) S1=_;rw[e2,a6,dA,e5];rfl
theorem amu{S1 T:Store}{acc:List D}(h:bH S1.length acc=true):dq (eI (S1++.lst acc::T) S1.length 6) (.ptr S1.length)=some (.lst acc):=by
 rw[dq,eI,if_neg (ni _)];rw[List.getElem?_append_right (Nat.le_refl _)];simp only[Nat.sub_self,KH];rw[jmp h];rfl
theorem amv{sl:aT}{fe:aM}{acc:List D}{T:Store}(h:fe sl S=.ok (.ptr S.length) (S++.lst acc::T))(aR:bH S.length acc=true):cC fe sl S=.ok (.lst acc) S:=by
 refine bp ?_;rw[CN,h,aS];exact CM (fz.refl S) (amu aR) (by simp)
def qp(S:Store)(acc:List D)(i:Nat)(bw:Nat->List D):Store:=match i with
 |0=>S++[.lst acc]
 |i+1=>S++[.lst acc,.lst (bw i)]
theorem amw{acc q:List D}(h:ZG.oZ S)(ha:bH 0 acc=true)(hq:bH 0 q=true):ZG.oZ (S++[.lst acc,.lst q]):=λm hm=>by
 rcases nh.mp hm with z|z
 .exact ZL (by simp) m (h m z)
 .simp only[List.mem_cons,gM,or_false]at z
  rcases z with rfl|rfl
  .exact iw (jW _) _ ha
  .exact iw (jW _) _ hq
theorem amx{acc:List D}(h:ZG.oZ S)(ha:bH 0 acc=true):ZG.oZ (S++[.lst acc]):=λm hm=>by
 rcases nh.mp hm with z|z
 .exact ZL (by simp) m (h m z)
 .rw[qA.mp z]
  exact iw (jW _) _ ha
theorem aav{acc:List D}{i:Nat}{bw:Nat->List D}(h:ZG.oZ S)(ha:bH 0 acc=true)(hq:∀j,j<i->bH 0 (bw j)=true):ZG.o2 (S.length+1) bw i (qp S acc i bw):=by
 cases i with
 |zero=>exact⟨amx h ha,λ_=>by simp[qp],λz=>absurd z (ni _)⟩
 |succ i=>exact⟨amw h ha (hq i (uk i)),λz=>by omega,λ_=>by simp[qp]⟩
theorem aaw{acc:List D}{i:Nat}{bw:Nat->List D}:ZG.h3 (S.length+1) bw i (qp S acc i bw)=S++[.lst acc,.lst (bw i)]:=by
 cases i with
 |zero=>simp[ZG.h3,qp]
 |succ i=>simp[ZG.h3,qp]
section
variable{α:Type}{row:α->D}{bw:Nat->List D}{g:d4}{bt:cJ}{fe:aM}{sl0:aT}
theorem Ro(p:α->Bool)(cS:α->D)(gW:ZG.oZ S)(aR:∀a,p a=true->bf 0 (cS a)=true):∀(l:List α) (i:Nat) (acc:List D),(∀j,j<=i+l.length->bH 0 (bw j)=true)->acc.length+l.length<=1000000->bH 0 acc=true ->
  (∀a∈l,∀T,∃a',g (row a) sl0 T=.nx a' T/\bt a' T=.ok (p a) T/\(p a=true->fe a' T=.ok (cS a) T)) ->
  ∃T,ZG.m3 (ZG.o2 (S.length+1) bw) (ZG.h3 (S.length+1) bw) .done g bt fe S.length sl0 i (l.map row) (qp S acc i bw)=.ok () (S++.lst (acc++(l.filter p).map cS)::T)
 |[],i,acc,hq,_,ha,_=>by
  refine⟨[.lst (bw i)],?_⟩;show ZG.m3 _ _ _ g bt fe _ sl0 i [] _=_;rw[ZG.m3,if_pos (aav gW ha λj cK=>hq j (by omega))];show Out.ok () (ZG.h3 _ _ _ _)=_;rw[aaw];simp
 |a::l,i,acc,hq,hl,ha,h=>by
  obtain⟨a',aw,e2,a6⟩:=h a (by simp) (S++[.lst acc,.lst (bw i)]);have c6:acc.length<1000000:=by simp at hl;omega
  show ∃T,ZG.m3 _ _ _ g bt fe _ sl0 i (row a::l.map row) _=_;rw[ZG.m3,if_pos (aav gW ha λj cK=>hq j (by omega)),aaw,aw];dsimp only;rw[e2];cases hp:p a with
  |true =>
   have L3:bH 0 (acc++[cS a])=true:=by
    rw[Wh,ha,HB,aR a hp];rfl
   obtain⟨T,Rp⟩:=Ro p cS gW aR l (i+1) (acc++[cS a]) (λj cK=>hq j (by simp;omega)) (by simp at hl ⊢;omega) L3 λb hb=>h b (by simp[hb]);refine⟨T,?_⟩;dsimp only;rw[a6 hp];dsimp only;rw[show(S++[dH.lst acc,.lst (bw i)])[S.length]?=some (.lst acc)by simp];dsimp only;rw[if_pos c6,show(S++[dH.lst acc,.lst (bw i)]).set S.length (.lst (acc++[cS a]))=qp S (acc++[cS a]) (i+1) bw by simp[qp],Rp];simp[hp]
  |false =>
   obtain⟨T,Rp⟩:=Ro p cS gW aR l (i+1) acc (λj cK=>hq j (by simp;omega)) (by simp at hl ⊢;omega) ha λb hb=>h b (by simp[hb]);refine⟨T,?_⟩;dsimp only;rw[show S++[dH.lst acc,.lst (bw i)]=qp S acc (i+1) bw from rfl,Rp];simp[hp]
end
theorem amy(aR:∀k r,bf k (f r)=true){i:Nat}:bH 0 (vy f P i)=true:=by
 rw[lV];intro d hd;obtain⟨p,_,rfl⟩:=iI.mp (List.mem_reverse.mp hd);exact Ew aR p 0
end
section
theorem amz{l:List (List Nat)}{n:Nat}:bH n (l.map dt)=true:=by
 rw[lV];intro d hd;obtain⟨x,_,rfl⟩:=iI.mp hd;rfl
end
section
variable{S:Store}
theorem vz:∀(k:Nat) (r:Rat),bf k (eg r)=true:=λk r=>X_
theorem m7:∀(k:Nat) (r:Rat),bf k (bz r)=true:=λk r=>X7
theorem amA{xs:List D}:eu (aQ false) vj (.tup xs) (.tup []) S=.ok (.bl (decide (xs=[]))) S:=by
 have aY:vj (.tup xs) (.tup []) S=.ok (.bl (decide (xs=[]))) S:=rfl;have key:aQ false (.tup xs) (.tup []) S=.bad\/aQ false (.tup xs) (.tup []) S=.ok (.bl (decide (xs=[]))) S:=by
  unfold aQ;have e2:toP S (.tup [])=some (.tuple []):=rfl;rw[e2];have aw:toP S (.tup xs)=(jC xs).map .tuple:=rfl;rw[aw];cases q:jC xs with
  |none=>exact .inl rfl
  |some ps =>
   have hl:=Q' q;simp only[yv];split
   .right
    have:PyData.eqv (.tuple ps) (.tuple [])=decide (xs=[]):=by
     cases ps with
     |nil =>
      cases xs with
      |nil=>rfl
      |cons x xs=>simp at hl
     |cons p ps =>
      cases xs with
      |nil=>simp at hl
      |cons x xs=>simp[PyData.eqv,PyData.eqvAll]
    rw[this];rfl
   .exact .inl rfl
 rcases key with e|e
 .rw[iX e];exact aY
 .rw[w0 e]
theorem aax{x:D}{xs:List D}(h:xs≠[])(hl:xs.length<=1000):bC (.tup [x]) (.tup xs) S=.ok (.tup (x::xs)) S:=by
 have e:bC (.tup [x]) (.tup xs) S=wy (.tup [x]) (.tup xs) S:=iX (by rfl);rw[e];unfold wy;simp only;rw[if_pos ⟨by simp,h,by simp;omega⟩];rfl
theorem ag.EW{k:aC}{cs:List ag}{c:ag}(hc:c∈cs):c.size+1<=(ag.nd k cs).size:=by
 rw[ag.size.eq_def (ag.nd k cs)];simp only
 induction cs with
 |nil=>cases hc
 |cons d cs ih =>
  rw[ag.sizes];rcases fQ.mp hc with rfl|hc
  .omega
  .have:=ih hc;omega
end
section
variable{n:Nat}{cs:List Int}{S:Store}{P:D->Store->Prop}{X:D->Store->Prop}
theorem amB{sl:aT}(dx:j8 S n cs)(h0:sl[0]?=some (some (.ptr n)))(h2:sl[2]?=some (some (.str (aj abc))))(hl:sl.length=9)(h:∀(l:List Nat) ao,l.length<=7->(∀c∈l,c∈abc)->Drawn n cs S ao->P (.lst (l.map iV)) ao) :
  We (cw (pP (ae (ak iy (ae (eName 0) (ae (af (.int 8)) ah))) ah)) (aP 4) cv (ak j7 (ae (eName 0) (ae (eName 2) ah))) [4] sl S) (e3 S P) X:=by
 obtain⟨c,S0,hc,nF,CQ⟩:∃(c:Nat) (S0:Store),ak iy (ae (eName 0) (ae (af (.int 8)) ah)) sl S=.ok (.int (c:Int)) S0/\c<=7/\Drawn n cs S S0:=by
  have hw:We (ak iy (ae (eName 0) (ae (af (.int 8)) ah)) sl S) (λd S0=>∃c:Nat,d=.int (c:Int)/\c<=7/\Drawn n cs S S0) (λ_ _=>False):=by
   simp[h0];refine(oQ (by omega) (by omega)).hW dx λd S1 ⟨j,cK,e⟩ hu=>?_;subst e;exact⟨j,rfl,by omega,hu⟩
  obtain⟨d,S0,e,c,rfl,bN,b3⟩:=hw.get;exact⟨c,S0,e,bN,b3⟩
 have hit:=Wm hc (by omega) (by omega);refine WL (S:=S) (S0:=S0) CQ hit (by simp[lP];omega) (λ_ _ _=>trivial) (λ_ d=>∃c∈abc,d=iV c) (λx hx ao acc bL=>?_) (λ_ d ⟨c,_,e⟩=>by simp_all) λys ao hl bD bL=>?_
 .rw[hV]
  have g:∀i,i≠4->((df sl [4]).set 4 (some x))[i]?=sl[i]?:=λi hi=>by
   rw[lx (g8 hi)];show(sl.set 4 none)[i]?=_;grind
  have mQ:=(g 0 (by decide)).trans h0;have g2:=(g 2 (by decide)).trans h2;generalize (df sl [4]).set 4 (some x)=a' at mQ g2;simp[mQ,g2];exact(afS (l:=abc) (by decide) (by decide)).app bL.1 λd bR hd qq=>⟨bR,rfl,qq,hd⟩
 .obtain⟨l,rfl,sH⟩:=ZF (f:=iV) (Q:=λc=>c∈abc) bD λx y ⟨c,h1,h2⟩=>⟨c,h2,h1⟩
  refine h l ao ?_ sH (CQ.trans bL);have:l.length=c:=by simpa[lP]using hl
  omega
def jQ(l:List Nat)(at_ first k:Nat):List Nat:=l.take at_++[97+(first+3 * k) % 26]++l.drop at_
def x4(x:List Nat):List Nat:=if x=[115,116,97,121]\/x=[110,111,110,101]then x++[113]else x
theorem amC{l:List Nat}{a b k:Nat}(hl:l.length<=7)(ha:∀c∈l,c∈abc):o7 (x4 (jQ l a b k)):=by
 have hm:∀c∈jQ l a b k,c∈abc:=λc hc=>by
  unfold jQ at hc;simp only[List.mem_append,List.mem_singleton]at hc;rcases hc with(h|h)|h
  .exact ha c (FX h)
  .rw[CT];omega
  .exact ha c (KY h)
 have hlen:(jQ l a b k).length=l.length+1:=by
  unfold jQ;simp only[List.length_append,List.length_take,List.length_drop,List.length_singleton];omega
 unfold x4;split
 .rename_i h
  rcases h with h|h<;>rw[h]<;>exact⟨by decide,by decide,by decide,by decide,by decide⟩
 .rename_i h
  exact⟨by omega,by omega,hm,λe=>h (.inl e),λe=>h (.inr e)⟩
theorem amD{many:Nat}(hm:many<=20):lW n cs (Ex [.ptr n,.int many]) (λd=>∃l:List (List Nat),d=.lst (l.map dt)/\l.length=many/\∀x∈l,o7 x):=λS dx=>by
 unfold Ex;refine dF rfl ?_;show a0 (xR [some (.ptr n),some (.int many),none,none,none,none,none,none,none] S) _;unfold xR;rw[Nt,jK,CJ,hV];refine bF (λsl S1=>∃l:List Nat,l.length<=7/\(∀c∈l,c∈abc)/\Drawn n cs S S1/\sl=[some (.ptr n),some (.int many),some (.str (aj abc)),some (.str (aj l)),none,none,none,none,none]) ?_ ?_
 .rw[jK,afe,CJ]
  refine⟨rfl,?_⟩;rw[iW,CN];refine amB dx rfl rfl rfl λl S1 h1 h2 bL=>?_;rw[q3,afU,afC (l:=l) rfl];refine⟨by omega,?_⟩;rw[hV];exact⟨l,h1,h2,bL,rfl⟩
 rintro sl S1 ⟨l,hl,amE,hu,rfl⟩;refine bF (λsl S2=>∃a b:Nat,a<=l.length/\b<26/\Drawn n cs S S2/\sl=[some (.ptr n),some (.int many),some (.str (aj abc)),some (.str (aj l)),none,some (.int a),some (.int b),none,none]) ?_ ?_
 .simp
  refine⟨by omega,?_⟩;refine(oQ (many:=(l.length:Int)+1) (by omega) (by omega)).hW hu.1 λd S2 ⟨a,ha,e⟩ j9=>?_;subst e;refine(oQ (many:=26) (by omega) (by omega)).hW j9.1 λd a4 ⟨b,hb,e⟩ mr=>?_;subst e;exact⟨a,by omega,b,by omega,(hu.trans j9).trans mr,rfl,rfl⟩
 rintro sl S2 ⟨a,b,ha,hb,j9,rfl⟩;have DB:cC (cw (pP (ae (eName 1) ah)) (aP 4) cv (aq bC (aq bC (e0 false (eName 3) fN (ec (eName 5))) (aq a7 (eName 2) (aq jB (ak j2 (ae (aq bC (eName 6) (aq ho (af (.int 3)) (eName 4))) ah)) (af (.int 26))))) (e0 false (eName 3) (ec (eName 5)) fN)) [4]) [some (.ptr n),some (.int many),some (.str (aj abc)),some (.str (aj l)),none,some (.int a),some (.int b),none,none] S2=.ok (.lst ((List.range many).map λk=>dt (jQ l a b k))) S2:=by
  refine(o4 (l:=List.range many) (row:=fun(i:Nat)=>D.int (0+(i:Int))) (λk=>dt (jQ l a b k)) (PU (aX (i:=1) rfl) (ou hm (by decide))) (by simp;omega) (λacc=>trivial) (λk hk acc=>?_) (λk hk=>rfl)).trans rfl;have HR:k<many:=List.mem_range.mp hk;refine⟨[some (.ptr n),some (.int many),some (.str (aj abc)),some (.str (aj l)),some (.int (0+(k:Int))),some (.int a),some (.int b),none,none],rfl,?_⟩;refine bp ?_;have ea:atI abc (((b:Int)+3 * (k:Int)) % 26)=some (97+(b+3 * k) % 26):=by
   have aw:((b:Int)+3 * (k:Int)) % 26=(((b+3 * k) % 26:Nat):Int):=by omega
   rw[aw];have Rq:(b+3 * k) % 26<26:=Nat.mod_lt _ (by decide);generalize (b+3 * k) % 26=m at Rq;have:m<abc.length:=by simpa[abc]using Rq
   simp[atI,ixN,abc];rw[if_pos (by omega)];simp[Rq]
  simp;refine⟨by omega,?_⟩;rw[s6 _ (by decide) (by omega),aS];simp[oO (show(0:Int)<26 by decide),ea];exact⟨by simp[abc],by omega,by omega,by omega,by simp[jQ,dt]⟩
 refine bF (λsl a4=>a4=S2/\sl=[some (.ptr n),some (.int many),some (.str (aj abc)),some (.str (aj l)),none,some (.int a),some (.int b),some (.lst ((List.range many).map λk=>dt (jQ l a b k))),none]) (iB DB ⟨rfl,rfl⟩) ?_;rintro sl a4 ⟨rfl,rfl⟩;have OH:cC (cw (ey (eName 7)) (aP 8) cv (eF (aI (aq dy (eName 8) (ak bu (ae (af (.str "stay")) (ae (af (.str "none")) ah))))) (aq bC (eName 8) (af (.str "q"))) (eName 8)) [8]) [some (.ptr n),some (.int many),some (.str (aj abc)),some (.str (aj l)),none,some (.int a),some (.int b),some (.lst ((List.range many).map λk=>dt (jQ l a b k))),none] a4=.ok (.lst ((List.range many).map λk=>dt (x4 (jQ l a b k)))) a4:=by
  refine o4 (l:=List.range many) (row:=λk=>dt (jQ l a b k)) (λk=>dt (x4 (jQ l a b k))) (p3 (aX (i:=7) rfl) (q4 _)) (by simp;omega) (λacc=>q4 _) (λk hk acc=>?_) (λk hk=>rfl);refine⟨[some (.ptr n),some (.int many),some (.str (aj abc)),some (.str (aj l)),none,some (.int a),some (.int b),some (.lst ((List.range many).map λk=>dt (jQ l a b k))),some (dt (jQ l a b k))],rfl,?_⟩;have hlen:(jQ l a b k).length<=8:=by
   unfold jQ;simp only[List.length_append,List.length_take,List.length_drop,List.length_singleton];omega
  generalize jQ l a b k=x at hlen;refine ami (b:=decide (x=[115,116,97,121]\/x=[110,111,110,101])) ?_ (λhb=>?_) (λhb=>?_)
  .unfold aI
   rw[dr (aX (i:=8) rfl) (hv (aE rfl (aE rfl bh)) (by simp)) Rf];rfl
  .have hx:x=[115,116,97,121]\/x=[110,111,110,101]:=of_decide_eq_true hb
   unfold x4;rw[if_pos hx];refine dr (aX (i:=8) rfl) rfl (bp ?_);show We (bC (.str (aj x)) (.str (aj [113])) _) _ _;simp;exact⟨by omega,rfl⟩
  .have hx:¬(x=[115,116,97,121]\/x=[110,111,110,101]):=of_decide_eq_false hb
   unfold x4;rw[if_neg hx];exact aX (i:=8) rfl
 rw[sX,OH,aS];rw[kr];refine uV j9 ?_ ⟨j9,(List.range many).map λk=>x4 (jQ l a b k),by rw[ov];rfl,by simp,λx hx=>?_⟩
 .show bf _ (D.lst _)=true
  rw[afk,lV];intro d hd;obtain⟨k,_,rfl⟩:=iI.mp hd;rfl
 .obtain⟨k,_,rfl⟩:=iI.mp hx
  exact amC hl amE
theorem ag.aay{c:Nat}:∀{Ps:List ag},(∀P∈Ps,P.size<=c)->ag.sizes Ps<=Ps.length * c
 |[],_=>by rw[ag.sizes];omega
 |P::Ps,h=>by
  rw[ag.sizes,List.length_cons,Nat.succ_mul];have:=h P (by simp);have:=ag.aay (Ps:=Ps) λQ mq=>h Q (by simp[mq]);omega
theorem ag.aaz{c:Nat}:∀{Ps:List ag},(∀P∈Ps,P.dep<=c)->ag.deps Ps<=c
 |[],_=>by rw[ag.deps];omega
 |P::Ps,h=>by
  rw[ag.deps];have:=h P (by simp);have:=ag.aaz (Ps:=Ps) λQ mq=>h Q (by simp[mq]);omega
theorem aaA{names:List (List Nat)}(d5:names≠[])(hn:∀x∈names,o7 x)(hl:names.length<=100):∀(k room:Nat),room<=k->1<=k->room<=100->lW n cs (xS k [.ptr n,.lst (names.map dt),.int room]) (λd=>∃P:ag,d=P.dat eg/\P.ok (ZJ.k7 6 24)/\P.size<=3 * room+1/\P.dep<=max 1 room)
 |0,room,_,h,_=>absurd h (by omega)
 |k+1,room,hr,_,jn=>λS dx=>by
  have ih:=aaA d5 hn hl k;rw[xS];refine dF rfl ?_;show a0 (rE (xS k) [some (.ptr n),some (.lst (names.map dt)),some (.int room),none,none,none,none] S) _;unfold rE;refine bF (λsl S1=>∃w:Nat,w<9/\Drawn n cs S S1/\sl=[some (.ptr n),some (.lst (names.map dt)),some (.int room),some (.int w),none,none,none]) ?_ ?_
  .simp
   refine(oQ (by omega) (by omega)).hW dx λd S1 ⟨w,hw,e⟩ bL=>?_;subst e;exact⟨w,by omega,bL,rfl⟩
  rintro sl S1 ⟨w,hw,hu,rfl⟩;have amF:lW n cs (j7 [.ptr n,.lst (names.map dt)]) (λd=>∃x∈names,d=dt x):=(zx (by simpa using d5) (by simp;omega) amz).imp λd hd=>by
   obtain⟨x,hx,rfl⟩:=iI.mp hd;exact⟨x,hx,rfl⟩
  have Cg:d2 (aI (aq lR (eName 2) (af (D.int 2)))) (aI (aq lR (eName 3) (af (D.int 2)))) [some (D.ptr n),some (D.lst (List.map dt names)),some (D.int (room:Int)),some (D.int (w:Int)),none,none,none] S1=.ok (decide (room<2\/w<2)) S1:=bp (by
   simp;by_cases h:room<2
   .have:(room:Int)<2:=by omega
    simp[h,this]
   .have:¬(room:Int)<2:=by omega
    simp[h,this];omega)
  by_cases eS:room<2\/w<2
  .refine bF (λ_ _=>False) ?_ (λ_ _ h=>h.elim)
   refine QC (by rw[Cg,decide_eq_true eS]) ?_;rw[sX];rw[gY,iW,aX (i:=0) rfl,aS,iW];rw[CK,CK,gY,iW,gY,iW,CJ,iW,gY,iW,aX (i:=0) rfl,aS,iW,aX (i:=1) rfl,aS,q3];refine amF.hW hu.1 λd S2 ⟨x,hx,e⟩ j9=>?_;subst e;have em:ho (.lst [.tup [.str (Str.ofString "go"),dt x]]) (.int 5) S2=.ok (.lst [.tup [.str (Str.ofString "go"),dt x],.tup [.str (Str.ofString "go"),dt x],.tup [.str (Str.ofString "go"),dt x],.tup [.str (Str.ofString "go"),dt x],.tup [.str (Str.ofString "go"),dt x]]) S2:=alb (sl:=[]) (f1:=af (.lst [.tup [.str (Str.ofString "go"),dt x]])) (S:=S2) rfl;simp[em];refine(zx (by simp) (by simp) (by simp[dt])).hW j9.1 λd a4 hd mr=>?_;have bU:∃P:ag,d=P.dat eg/\P.ok (ZJ.k7 6 24)/\P.size=1/\P.dep=1:=by
    simp at hd;rcases hd with rfl|rfl|rfl
    .exact⟨.nd (.go x) [],rfl,⟨⟨rfl,hn x hx⟩,trivial⟩,rfl,rfl⟩
    .exact⟨.nd .stay [],rfl,⟨rfl,trivial⟩,rfl,rfl⟩
    .exact⟨.nd .none [],rfl,⟨rfl,trivial⟩,rfl,rfl⟩
   obtain⟨P,rfl,h1,h2,aH⟩:=bU;exact uV ((hu.trans j9).trans mr) (m4 vz P _) ⟨(hu.trans j9).trans mr,P,rfl,h1,by omega,by omega⟩
  refine bF (λsl S2=>S2=S1/\sl=[some (.ptr n),some (.lst (names.map dt)),some (.int room),some (.int w),none,none,none]) (Jd (by rw[Cg,decide_eq_false eS]) (Je ⟨rfl,rfl⟩)) ?_;rintro sl S2 ⟨rfl,rfl⟩;have axs:2<=room:=by omega
  have fU:(room:Int) - 1=((room - 1:Nat):Int):=by omega
  have nF:aI (aq lR (eName 3) (af (D.int 4))) [some (D.ptr n),some (D.lst (List.map dt names)),some (D.int (room:Int)),some (D.int (w:Int)),none,none,none] S2=.ok (decide (w<4)) S2:=bp (by
   simp;omega)
  by_cases c2:w<4
  .refine bF (λ_ _=>False) ?_ (λ_ _ h=>h.elim)
   refine QC (by rw[nF,decide_eq_true c2]) ?_;simp;rw[fU];refine(ih (room - 1) (by omega) (by omega) (by omega)).hW hu.1 λd a4 ⟨P,e,h1,h2,aH⟩ mr=>?_;subst e;refine uV (hu.trans mr) ?_ ⟨hu.trans mr,.nd .loop [P],rfl,⟨rfl,h1,trivial⟩,?_,?_⟩
   .exact m4 vz (.nd .loop [P]) _
   .show P.size+0+1<=_
    omega
   .show max P.dep 0+1<=_
    omega
  refine bF (λsl a4=>a4=S2/\sl=[some (.ptr n),some (.lst (names.map dt)),some (.int room),some (.int w),none,none,none]) (Jd (by rw[nF,decide_eq_false c2]) (Je ⟨rfl,rfl⟩)) ?_;rintro sl a4 ⟨rfl,rfl⟩;have aaB:aI (aq (aQ false) (eName 3) (af (D.int 4))) [some (D.ptr n),some (D.lst (List.map dt names)),some (D.int (room:Int)),some (D.int (w:Int)),none,none,none] a4=.ok (decide (w=4)) a4:=bp (by
   simp;omega)
  by_cases c3:w=4
  .refine bF (λ_ _=>False) ?_ (λ_ _ h=>h.elim)
   refine QC (by rw[aaB,decide_eq_true c3]) ?_;simp;refine alv.hW hu.1 λd bR ⟨r,e,hr⟩ qq=>?_;subst e;rw[fU];refine(ih (room - 1) (by omega) (by omega) (by omega)).hW qq.1 λd dO ⟨P,e,h1,h2,aH⟩ n6=>?_;subst e;have bL:=(hu.trans qq).trans n6;refine uV bL ?_ ⟨bL,.nd (.scale r) [P],rfl,⟨⟨rfl,hr⟩,h1,trivial⟩,?_,?_⟩
   .exact m4 vz (.nd (.scale r) [P]) _
   .show P.size+0+1<=_
    omega
   .show max P.dep 0+1<=_
    omega
  refine bF (λsl bR=>bR=a4/\sl=[some (.ptr n),some (.lst (names.map dt)),some (.int room),some (.int w),none,none,none]) (Jd (by rw[aaB,decide_eq_false c3]) (Je ⟨rfl,rfl⟩)) ?_;rintro sl bR ⟨rfl,rfl⟩;refine bF (λsl dO=>∃m:Nat,2<=m/\m<=3/\Drawn n cs S dO/\sl=[some (.ptr n),some (.lst (names.map dt)),some (.int room),some (.int w),some (.int m),none,none]) ?_ ?_
  .by_cases aH:3<room
   .have Rr:(3:Int)<(room:Int):=by omega
    simp[Rr];refine(oQ (many:=2) (by omega) (by omega)).hW hu.1 λd dO ⟨j,cK,e⟩ n6=>?_;subst e;simp;exact⟨j+2,by omega,by omega,hu.trans n6,by omega⟩
   .have Rr:¬(3:Int)<(room:Int):=by omega
    simp[Rr];refine(oQ (many:=1) (by omega) (by omega)).hW hu.1 λd dO ⟨j,cK,e⟩ n6=>?_;subst e;simp;exact⟨j+2,by omega,by omega,hu.trans n6,by omega⟩
  rintro sl dO ⟨m,q7,axt,n6,rfl⟩;have hq:(room - 1) / m+1<=room:=by
   have:=Nat.div_le_self (room - 1) m;omega
  have axu:m * ((room - 1) / m)<=room - 1:=Nat.mul_div_le _ _;refine bF (λsl dB=>∃Ps:List ag,Ps.length=m/\(∀P∈Ps,P.ok (ZJ.k7 6 24)/\P.size<=3 * ((room - 1) / m)+1/\P.dep<=max 1 ((room - 1) / m))/\Drawn n cs S dB/\sl=[some (.ptr n),some (.lst (names.map dt)),some (.int room),some (.int w),some (.int m),some (.lst (Ps.map (ag.dat eg))),none]) ?_ ?_
  .rw[jK,CN]
   refine WL (S:=dO) (S0:=dO) (Drawn.refl n6.1) (PU (aX (i:=4) rfl) (by omega)) (by simp[lP];omega) (λ_ _ _=>trivial) (λ_ d=>∃P:ag,d=P.dat eg/\(P.ok (ZJ.k7 6 24)/\P.size<=3 * ((room - 1) / m)+1/\P.dep<=max 1 ((room - 1) / m))) (λx hx ao acc bL=>?_) (λ_ d ⟨P,e,_⟩=>by rw[e];exact m4 vz P _) λys ao hl bD bL=>?_
   .rw[hV]
    have ed:j0 (.int ((room:Int) - 1)) (.int m) (ao++[.lst acc])=.ok (.int (((room - 1) / m:Nat):Int)) (ao++[.lst acc]):=by
     rw[wX (by omega) (by have:=HK (i:=(m:Int)) (by omega);omega),fU];rfl
    simp[df];rw[ed,aS];refine(ih ((room - 1) / m) (by omega) (by omega) (by omega)).app bL.1 λd dB hd rJ=>?_;exact⟨dB,rfl,rJ,hd⟩
   .obtain⟨Ps,rfl,bU⟩:=ZF bD λx y h=>h
    rw[hV];exact⟨Ps,by simpa[lP]using hl,bU,n6.trans bL,rfl⟩
  rintro sl dB ⟨Ps,hl,bU,rJ,rfl⟩;simp;refine(zx (by simp) (by simp) (by simp)).hW rJ.1 λd dU hd aaC=>?_;have WT:Ps.map (ag.dat eg)≠[]:=by
   intro h;rw[List.map_eq_nil_iff]at h;rw[h]at hl;simp at hl;omega
  rw[aax WT (by simp;omega),aS];have eR:=ag.aay λP h=>(bU P h).2.1;have tQ:=ag.aaz λP h=>(bU P h).2.2;rw[hl]at eR;have a6:m * (3 * ((room - 1) / m)+1)=3 * (m * ((room - 1) / m))+m:=by rw[Nat.mul_add,Nat.mul_one,Nat.mul_left_comm]
  rw[a6]at eR;have axv:(room - 1) / m<=(room - 1) / 2:=Nat.div_le_div_left q7 (by decide);have hok:ag.rC (ZJ.k7 6 24) Ps:=ag.QH.mpr λP h=>(bU P h).1;have amG:∃P:ag,D.tup (d::Ps.map (ag.dat eg))=P.dat eg/\P.ok (ZJ.k7 6 24)/\P.size=ag.sizes Ps+1/\P.dep=ag.deps Ps+1:=by
   simp at hd;rcases hd with rfl|rfl
   .exact⟨.nd .seq Ps,by rw[ag.hy];rfl,⟨⟨by omega,by omega⟩,hok⟩,rfl,rfl⟩
   .exact⟨.nd .alt Ps,by rw[ag.hy];rfl,⟨⟨by omega,by omega⟩,hok⟩,rfl,rfl⟩
  obtain⟨P,e,h1,h2,aH⟩:=amG;rw[e];exact uV (rJ.trans aaC) (m4 vz P _) ⟨rJ.trans aaC,P,rfl,h1,by omega,by omega⟩
end
open PySem PySem.Spec L2 ZM TL
def gL(s:List Nat):List (List Nat)->List Nat
 |[]=>[]
 |[x]=>x
 |x::y::r=>x++(s++gL s (y::r))
def dh:List Nat:=[44,32]
def eW:List Nat:=[32,124,32]
def aC.wrap:aC->List (List Nat)->List Nat
 | .go x,_=>x
 | .stay,_=>[115,116,97,121]
 | .none,_=>[110,111,110,101]
 | .loop,ts=>[91]++ts.headD []++[93]
 | .scale r,ts=>cM r.num r.den++[58]++ts.headD []
 | .seq,ts=>[40]++gL dh ts++[41]
 | .alt,ts=>[40]++gL eW ts++[41]
mutual
def ag.txt:ag->List Nat
 | .nd k cs=>k.wrap (ag.EX cs)
def ag.EX:List ag->List (List Nat)
 |[]=>[]
 |c::cs=>ag.txt c::ag.EX cs
end
theorem ag.aaD:∀cs:List ag,ag.EX cs=cs.map ag.txt
 |[]=>by rw[ag.EX];rfl
 |c::cs=>by rw[ag.EX,ag.aaD cs];rfl
theorem ag.m8(k:aC)(cs:List ag):(ag.nd k cs).txt=k.wrap (cs.map ag.txt):=by rw[ag.txt,ag.aaD]
theorem Ap(s:List Nat):∀xs:List (List Nat),(gL s xs).length<=(xs.map List.length).sum+xs.length * s.length
 |[]=>by simp[gL]
 |[x]=>by simp[gL]
 |x::y::r=>by
  have ih:=Ap s (y::r);rw[gL];simp only[List.length_append,cF,r3,List.length_cons]at ih ⊢;rw[Nat.add_mul,Nat.one_mul];omega
theorem aaE{B:Nat}:∀cs:List ag,(∀c∈cs,c.txt.length<=B * c.size)->((cs.map ag.txt).map List.length).sum<=B * ag.sizes cs
 |[],_=>by simp
 |c::cs,h=>by
  have h1:=h c (by simp);have h2:=aaE cs λd hd=>h d (by simp[hd]);rw[ag.sizes,Nat.mul_add];simp only[cF,r3];omega
theorem ag.Ru{b:Rat->Prop}{B:Nat}(hb:∀r,b r->(cM r.num r.den).length+1<=B)(dx:20<=B):∀P:ag,P.ok b->P.txt.length<=B * P.size:=by
 refine ag.ind λcj cs ih h=>?_;have hf:=(ag.i6.mp h).1;have hs:=aaE cs λc hc=>ih c hc ((ag.i6.mp h).2 c hc);rw[ag.m8,ag.size,Nat.mul_add,Nat.mul_one];cases cj with
 |go x=>have:=hf.2.le;simp only[aC.wrap];omega
 |stay=>simp only[aC.wrap,List.length_cons,mB];omega
 |none=>simp only[aC.wrap,List.length_cons,mB];omega
 |loop =>
  obtain⟨c,rfl⟩:=hR.mp hf;simp only[aC.wrap,cF,FY,List.length_append,List.length_cons,mB,qB,r3,List.sum_nil]at hs ⊢;omega
 |scale r =>
  obtain⟨c,rfl⟩:=hR.mp hf.1;have:=hb r hf.2;simp only[aC.wrap,cF,FY,List.length_append,List.length_cons,mB,qB,r3,List.sum_nil]at hs ⊢;omega
 |seq =>
  have oX:=hf.2;have:=Ap dh (cs.map ag.txt);rw[List.length_map]at this;simp only[aC.wrap,List.length_append,List.length_cons,mB];have e:dh.length=2:=rfl;rw[e]at this;omega
 |alt =>
  have oX:=hf.2;have:=Ap eW (cs.map ag.txt);rw[List.length_map]at this;simp only[aC.wrap,List.length_append,List.length_cons,mB];have e:eW.length=3:=rfl;rw[e]at this;omega
theorem aaF(p q:Int):∀c∈cM p q,c=45\/c=47\/(48<=c/\c<=57):=by
 have d:∀p:Int,∀c∈fO p,c=45\/(48<=c/\c<=57):=λp c hc=>by
  rcases TR.Q6 p with⟨n,_,e⟩|⟨n,_,e⟩
  .rw[e]at hc
   exact .inr (TR.Jv hc)
  .rw[e]at hc
   rcases fQ.mp hc with h|h
   .exact .inl h
   .exact .inr (TR.Jv h)
 intro c hc;unfold cM at hc;split at hc
 .rcases d p c hc with h|h
  .exact .inl h
  .exact .inr (.inr h)
 .rcases nh.mp hc with hc|hc
  .rcases d p c hc with h|h
   .exact .inl h
   .exact .inr (.inr h)
  .rcases fQ.mp hc with h|h
   .exact .inr (.inl h)
   .rcases d q c h with h|h
    .exact .inl h
    .exact .inr (.inr h)
theorem aaG{s:List Nat}{c:Nat}:∀{xs:List (List Nat)},c∈gL s xs->c∈s\/∃x∈xs,c∈x
 |[],h=>by simp[gL]at h
 |[x],h=>.inr ⟨x,by simp,h⟩
 |x::y::r,h=>by
  rw[gL,List.mem_append,List.mem_append]at h;rcases h with h|h|h
  .exact .inr ⟨x,by simp,h⟩
  .exact .inl h
  .rcases aaG h with h|⟨z,hz,h⟩
   .exact .inl h
   .exact .inr ⟨z,iH _ hz,h⟩
theorem ag.JB{b:Rat->Prop}:∀P:ag,P.ok b->∀c∈P.txt,c<128:=by
 refine ag.ind λcj cs ih h=>?_;have hf:=(ag.i6.mp h).1;have aaH:∀x∈cs.map ag.txt,∀c∈x,c<128:=λx hx c hc=>by
  obtain⟨p,hp,rfl⟩:=iI.mp hx;exact ih p hp ((ag.i6.mp h).2 p hp) c hc
 have hh:∀c∈(cs.map ag.txt).headD [],c<128:=λc hc=>by
  cases e:cs.map ag.txt with
  |nil=>rw[e]at hc;cases hc
  |cons x r=>rw[e]at hc;exact aaH x (by rw[e];simp) c hc
 have cK:∀s:List Nat,(∀c∈s,c<128)->∀c∈gL s (cs.map ag.txt),c<128:=λs hs c hc=>by
  rcases aaG hc with h|⟨x,hx,h⟩
  .exact hs c h
  .exact aaH x hx c h
 intro c hc;rw[ag.m8]at hc;cases cj with
 |go x=>have:=CT.mp (hf.2.abc c hc);omega
 |stay=>simp only[aC.wrap,List.mem_cons,gM,or_false]at hc;omega
 |none=>simp only[aC.wrap,List.mem_cons,gM,or_false]at hc;omega
 |loop =>
  simp only[aC.wrap,List.mem_append,List.mem_cons,gM,or_false]at hc;rcases hc with(h|h)|h
  .omega
  .exact hh c h
  .omega
 |scale r =>
  simp only[aC.wrap,List.mem_append,List.mem_cons,gM,or_false]at hc;rcases hc with(h|h)|h
  .have:=aaF _ _ c h;omega
  .omega
  .exact hh c h
 |seq =>
  simp only[aC.wrap,List.mem_append,List.mem_cons,gM,or_false]at hc;rcases hc with(h|h)|h
  .omega
  .exact cK dh (by decide) c h
  .omega
 |alt =>
  simp only[aC.wrap,List.mem_append,List.mem_cons,gM,or_false]at hc;rcases hc with(h|h)|h
  .omega
  .exact cK eW (by decide) c h
  .omega
section
variable{S:Store}{sl:aT}
theorem aaI(s:List Nat):∀xs:List (List Nat),tl (Str.join (aj s) (xs.map aj))=gL s xs
 |[]=>rfl
 |[p]=>by rfl
 |p::q::r=>by
  have ih:=aaI s (q::r);rw[tl_join]at ih ⊢;rw[gL,<-ih];rfl
theorem amH(s:List Nat)(xs:List (List Nat)):Txt.join (aj s) (xs.map aj)=aj (gL s xs):=by
 refine ext_tl ?_;rw[join_eq,aaI]
theorem Rw{s:List Nat}{g:aM}{f:du}{xs:List (List Nat)}(hg:g sl S=.ok (.str (aj s)) S)(h:f sl S=.ok [.lst (xs.map λl=>.str (aj l))] S)(hl:(xs.map List.length).sum+xs.length * s.length<=1000000):dD il lM g f sl S=.ok (.str (aj (gL s xs))) S:=by
 refine bp ?_;rw[Ny,hg,aS,if_pos (by rfl),h,aS];have h0:dJ S (.lst (xs.map λl=>.str (aj l)))=some (xs.map λl=>.str (aj l)):=rfl;simp only[lM,h0,Wz];have e:(List.map (λx=>x.length) (List.map aj xs)).sum+(List.map aj xs).length * (aj s).length<=1000000:=by
  have h1:(List.map (λx=>x.length) (List.map aj xs)).sum=(xs.map List.length).sum:=by
   rw[ov];congr 1
  rw[h1,mP,List.length_map];exact hl
 rw[if_pos e,aS,amH];simp
end
section
variable{S S1:Store}{b:Rat->Prop}{sl:aT}
theorem aaJ:Str.ofString "["=aj [91]:=by rfl
theorem aaK:Str.ofString "]"=aj [93]:=by rfl
theorem JC:Str.ofString "("=aj [40]:=by rfl
theorem JD:Str.ofString ")"=aj [41]:=by rfl
theorem aaL:Str.ofString ":"=aj [58]:=by rfl
theorem JE:Str.ofString ", "=aj dh:=by rfl
theorem JF:Str.ofString " | "=aj eW:=by rfl
theorem JG{N:Nat}{cs:List ag}(h:∀c∈cs,c.txt.length<=N)(hl:cs.length<=6):((cs.map ag.txt).map List.length).sum<=6 * N:=by
 have:∀ds:List ag,(∀c∈ds,c.txt.length<=N)->((ds.map ag.txt).map List.length).sum<=ds.length * N:=λds=>by
  induction ds with
  |nil=>intro _;simp
  |cons d ds ih =>
   intro h;have h1:=h d (by simp);have h2:=ih λc hc=>h c (by simp[hc]);simp only[cF,r3,List.length_cons];rw[Nat.add_mul,Nat.one_mul];omega
 have h1:=this cs h;have h2:cs.length * N<=6 * N:=KR _ hl;omega
theorem amI{L B:Nat}(hb:∀r,b r->vp L r)(dZ:L<=1000)(tq:∀r,b r->(cM r.num r.den).length+1<=B)(dx:20<=B):∀(P:ag) (k:Nat),P.ok b->P.dep<=k->B * P.size<=100000->∀S,qn k [P.dat bz] S=.ok (.str (aj P.txt)) S:=by
 refine ag.ind λcj cs ih k h hk hz S=>?_;cases k with
 |zero=>have:=(ag.nd cj cs).vq;omega
 |succ k =>
  have hf:=(ag.i6.mp h).1;have gK:=(ag.i6.mp h).2;have m9:=aC.fit_le hf;have hlen:∀c∈cs,c.txt.length<=100000:=λc hc=>by
   have h1:=ag.Ru tq dx c (gK c hc);have h2:=yw B (jv (ag.EW (k:=cj) hc));omega
  have n7:∀c∈cs,∀S,qn k [c.dat bz] S=.ok (.str (aj c.txt)) S:=λc hc S=>ih c hc k (gK c hc) (by have:=ag.Eu (k:=cj) hc;omega) (by have:=yw B (jv (ag.EW (k:=cj) hc));omega) S;have hd:=vw (f:=bz) (k:=cj) (cs:=cs) (S:=S);refine bp ?_;rw[qn];refine dF rfl ?_;show a0 (k_ _ [some ((ag.nd cj cs).dat bz),none,none] S) _;rw[ag.hy]at hd ⊢;rw[ag.m8];cases cj with
  |go x =>
   have e:cs=[]:=eO.mp hf.1;subst e;simp[k_,hd,aC.word,aC.pay,aC.wrap]
  |stay =>
   have e:cs=[]:=eO.mp hf;subst e;simp[k_,hd,d7,aC.word,aC.pay,aC.wrap];rfl
  |none =>
   have e:cs=[]:=eO.mp hf;subst e;simp[k_,hd,d7,aC.word,aC.pay,aC.wrap];rfl
  |loop =>
   obtain⟨c,rfl⟩:=hR.mp hf;have hc:=n7 c (by simp);have hl:=hlen c (by simp);simp[k_,hd,d7,aC.word,aC.pay,aC.wrap,hc,Pj,Ph,aaJ,aaK];omega
  |scale r =>
   obtain⟨c,rfl⟩:=hR.mp hf.1;have hc:=n7 c (by simp);have hl:=hlen c (by simp);have hr:=Yc (S:=S) (hb r hf.2) dZ;have jn:=tq r hf.2;have rK:rn [bz r] S=.ok (.str (aj (cM r.num r.den))) S:=hr;have Rx:=(ag.nd (.scale r) [c]).size_pos;have MH:B<=100000:=Nat.le_trans (Nat.le_mul_of_pos_right B Rx) hz;have tM:iR S (bz r)=some (Str.ofString "Ratio",[Str.ofString "own_top",Str.ofString "own_bottom"],[D.int r.num,D.int r.den]):=by rfl
   simp[k_,hd,d7,aC.word,aC.pay,aC.wrap,hc,Pj,Ph,aaL,rK,tM,jH];omega
  |seq =>
   have amJ:cs.length<=6:=m9;have eJ:∀(w:D),cC (cw (ey (e0 false (eName 0) (ec (af (.int 1))) fN)) (aP 2) cv (ak (qn k) (ae (eName 2) ah)) [2]) [some (.tup (.str (Str.ofString "seq")::cs.map (ag.dat bz))),some w,none] S=.ok (.lst (cs.map λc=>.str (aj c.txt))) S:=λw =>
    o4 (l:=cs) (row:=ag.dat bz) (λc=>.str (aj c.txt)) (p3 (d:=.tup (cs.map (ag.dat bz))) (bp (by simp[vx])) (HD _)) (by omega) (λacc=>HD _) (λc hc acc=>⟨[some (.tup (.str (Str.ofString "seq")::cs.map (ag.dat bz))),some w,some (c.dat bz)],rfl,dG (aE (aX (i:=2) rfl) bh) (n7 c hc _)⟩) λc hc=>rfl
   have hsum:=JG hlen m9;have nG:=Rw (s:=dh) (g:=eName 1) (S:=S) (sl:=[some (.tup (.str (Str.ofString "seq")::cs.map (ag.dat bz))),some (.str (aj dh)),none]) (xs:=cs.map ag.txt) (aX (i:=1) rfl) (aE (by rw[ov];exact eJ (.str (aj dh))) bh) (by rw[List.length_map];have:=v8 m9 (show dh.length<=3 by decide);omega);have Aq:=Ap dh (cs.map ag.txt);have ql:dh.length<=3:=by decide
   have Ry:=v8 m9 ql;rw[List.length_map]at Aq;unfold k_;generalize dD il lM (eName 1) (ae (cC (cw (ey (e0 false (eName 0) (ec (af (D.int 1))) fN)) (aP 2) cv (ak (qn k) (ae (eName 2) ah)) [2])) ah)=J at nG ⊢;simp[hd,d7,aC.word,aC.pay,aC.wrap,JC,JD,JE,JF,nG];omega
  |alt =>
   have amJ:cs.length<=6:=m9;have eJ:∀(w:D),cC (cw (ey (e0 false (eName 0) (ec (af (.int 1))) fN)) (aP 2) cv (ak (qn k) (ae (eName 2) ah)) [2]) [some (.tup (.str (Str.ofString "alt")::cs.map (ag.dat bz))),some w,none] S=.ok (.lst (cs.map λc=>.str (aj c.txt))) S:=λw =>
    o4 (l:=cs) (row:=ag.dat bz) (λc=>.str (aj c.txt)) (p3 (d:=.tup (cs.map (ag.dat bz))) (bp (by simp[vx])) (HD _)) (by omega) (λacc=>HD _) (λc hc acc=>⟨[some (.tup (.str (Str.ofString "alt")::cs.map (ag.dat bz))),some w,some (c.dat bz)],rfl,dG (aE (aX (i:=2) rfl) bh) (n7 c hc _)⟩) λc hc=>rfl
   have hsum:=JG hlen m9;have nG:=Rw (s:=eW) (g:=eName 1) (S:=S) (sl:=[some (.tup (.str (Str.ofString "alt")::cs.map (ag.dat bz))),some (.str (aj eW)),none]) (xs:=cs.map ag.txt) (aX (i:=1) rfl) (aE (by rw[ov];exact eJ (.str (aj eW))) bh) (by rw[List.length_map];have:=v8 m9 (show eW.length<=3 by decide);omega);have Aq:=Ap eW (cs.map ag.txt);have ql:eW.length<=3:=by decide
   have Ry:=v8 m9 ql;rw[List.length_map]at Aq;unfold k_;generalize dD il lM (eName 1) (ae (cC (cw (ey (e0 false (eName 0) (ec (af (D.int 1))) fN)) (aP 2) cv (ak (qn k) (ae (eName 2) ah)) [2])) ah)=J at nG ⊢;simp[hd,d7,aC.word,aC.pay,aC.wrap,JC,JD,JE,JF,nG];omega
theorem amK{l:List (List Nat)}(hl:l.length<=1000000)(aY:∀u∈l,ku u):aQ false (.lst (l.map λl=>.str (aj l))) (.lst []) S=.ok (.bl (decide (l=[]))) S:=by
 have hp:plain 2 (.lst (l.map λl=>.str (aj l))):=by
  rw[plain];refine⟨s7.mpr λy h=>?_,by grind⟩;obtain⟨p,hp,rfl⟩:=iI.mp h;simpa[plain]using aY p hp
 rw[IK hp (by simp[plain,jL]:plain 2 (.lst [])) (by omega) (by omega)];cases l<;>rfl
theorem Rz{L B:Nat}(hb:∀r,b r->vp L r)(dZ:L<=1000)(tq:∀r,b r->(cM r.num r.den).length+1<=B)(dx:20<=B):∀(P:ag) (k:Nat),P.ok b->P.dep<=k->B * P.size<=100000->∀S,vv k [P.dat eg] S=.ok (.str (aj P.txt)) S:=by
 refine ag.ind λcj cs ih k h hk hz S=>?_;cases k with
 |zero=>have:=(ag.nd cj cs).vq;omega
 |succ k =>
  have hf:=(ag.i6.mp h).1;have gK:=(ag.i6.mp h).2;have m9:=aC.fit_le hf;have hlen:∀c∈cs,c.txt.length<=100000:=λc hc=>by
   have h1:=ag.Ru tq dx c (gK c hc);have h2:=yw B (jv (ag.EW (k:=cj) hc));omega
  have n7:∀c∈cs,∀S,vv k [c.dat eg] S=.ok (.str (aj c.txt)) S:=λc hc S=>ih c hc k (gK c hc) (by have:=ag.Eu (k:=cj) hc;omega) (by have:=yw B (jv (ag.EW (k:=cj) hc));omega) S;have hd:=vw (f:=eg) (k:=cj) (cs:=cs) (S:=S);have eJ:cC (cw (ey (ak rD (ae (eName 0) ah))) (aP 2) cv (ak (vv k) (ae (eName 2) ah)) [2]) [some ((ag.nd cj cs).dat eg),none,none] S=.ok (.lst (cs.map λc=>.str (aj c.txt))) S :=
   o4 (l:=cs) (row:=ag.dat eg) (λc=>.str (aj c.txt)) (p3 (dG (aE (aX (i:=0) rfl) bh) (aal vz h)) (q4 _)) (by omega) (λacc=>q4 _) (λc hc acc=>⟨[some ((ag.nd cj cs).dat eg),none,some (c.dat eg)],rfl,dG (aE (aX (i:=2) rfl) bh) (n7 c hc _)⟩) λc hc=>rfl
  refine bp ?_;rw[vv];refine dF rfl ?_;show a0 (rF _ [some ((ag.nd cj cs).dat eg),none,none] S) _;rw[ag.m8];unfold rF;by_cases kc:∃x,cj=.go x
  .obtain⟨x,rfl⟩:=kc
   have e:cs=[]:=eO.mp hf.1;subst e;rw[ag.hy]at hd ⊢;simp[hd,aC.word,aC.pay,aC.wrap]
  have hw:¬cj.word="go":=λe=>by cases cj<;>first|exact kc ⟨_,rfl⟩|simp[aC.word]at e
  refine bF (λsl S1=>S1=S/\sl=[some ((ag.nd cj cs).dat eg),none,none]) ?_ ?_
  .simp[hd,hw]
  rintro sl S1 ⟨rfl,rfl⟩;refine bF (λsl S2=>S2=S1/\sl=[some ((ag.nd cj cs).dat eg),some (.lst (cs.map λc=>.str (aj c.txt))),none]) (iB eJ ⟨rfl,rfl⟩) ?_;rintro sl S2 ⟨rfl,rfl⟩;clear eJ;have he:=amK (S:=S2) (l:=cs.map ag.txt) (by simp;omega) (λu aR=>by
   obtain⟨c,hc,rfl⟩:=iI.mp aR;exact Jf (ag.JB c (gK c hc)))
  rw[ov]at he;have aY:((λl=>D.str (aj l)) ∘ ag.txt)=λc=>D.str (aj c.txt):=rfl;rw[aY]at he;have nG:∀s:List Nat,s.length<=3->∀g:aM,g [some ((ag.nd cj cs).dat eg),some (.lst (cs.map λc=>.str (aj c.txt))),none] S2=.ok (.str (aj s)) S2->dD il lM g (ae (eName 1) ah) [some ((ag.nd cj cs).dat eg),some (.lst (cs.map λc=>.str (aj c.txt))),none] S2=.ok (.str (aj (gL s (cs.map ag.txt)))) S2:=λs hs g hg=>by
   have hsum:=JG hlen m9;have Ry:=v8 m9 hs;refine Rw (xs:=cs.map ag.txt) hg (aE (aX (i:=1) ?_) bh) (by rw[List.length_map];omega);rw[ov];rfl
  have Aq:∀s:List Nat,s.length<=3->(gL s (cs.map ag.txt)).length<=700000:=λs hs=>by
   have hsum:=JG hlen m9;have Ry:=v8 m9 hs;have:=Ap s (cs.map ag.txt);rw[List.length_map]at this;omega
  rw[ag.hy]at hd nG ⊢;cases cj with
  |go x=>exact(kc ⟨x,rfl⟩).elim
  |stay =>
   have e:cs=[]:=eO.mp hf;subst e;have he:aQ false (.lst []) (.lst []) S2=.ok (.bl true) S2:=he;simp[hd,he,aC.word,aC.pay,aC.wrap];rfl
  |none =>
   have e:cs=[]:=eO.mp hf;subst e;have he:aQ false (.lst []) (.lst []) S2=.ok (.bl true) S2:=he;simp[hd,he,aC.word,aC.pay,aC.wrap];rfl
  |loop =>
   obtain⟨c,rfl⟩:=hR.mp hf;have hl:=hlen c (by simp);simp[hd,aC.word,aC.pay,aC.wrap,aaJ,aaK];omega
  |scale r =>
   obtain⟨c,rfl⟩:=hR.mp hf.1;have hl:=hlen c (by simp);have hr:=ah5 (S:=S2) (hb r hf.2) dZ;have jn:=tq r hf.2;have rK:z5 [eg r] S2=.ok (.str (aj (cM r.num r.den))) S2:=hr;have Rx:=(ag.nd (.scale r) [c]).size_pos;have MH:B<=100000:=Nat.le_trans (Nat.le_mul_of_pos_right B Rx) hz;simp[hd,aC.word,aC.pay,aC.wrap,aaL,rK];omega
  |seq =>
   have d5:cs≠[]:=λe=>by subst e;simp[aC.fit]at hf
   have aw:=nG dh (by decide) (eF (aI (aq (aQ false) (aq a7 (eName 0) (af (.int 0))) (af (.str "seq")))) (af (.str ", ")) (af (.str " | "))) (bp (by simp[hd,aC.word,JE]));have cK:=Aq dh (by decide);generalize dD il lM (eF (aI (aq (aQ false) (aq a7 (eName 0) (af (.int 0))) (af (.str "seq")))) (af (.str ", ")) (af (.str " | "))) (ae (eName 1) ah)=J at aw ⊢;simp[hd,he,d5,aC.word,aC.pay,aC.wrap,JC,JD]at aw ⊢;simp[aw];omega
  |alt =>
   have d5:cs≠[]:=λe=>by subst e;simp[aC.fit]at hf
   have aw:=nG eW (by decide) (eF (aI (aq (aQ false) (aq a7 (eName 0) (af (.int 0))) (af (.str "seq")))) (af (.str ", ")) (af (.str " | "))) (bp (by simp[hd,aC.word,JF]));have cK:=Aq eW (by decide);generalize dD il lM (eF (aI (aq (aQ false) (aq a7 (eName 0) (af (.int 0))) (af (.str "seq")))) (af (.str ", ")) (af (.str " | "))) (ae (eName 1) ah)=J at aw ⊢;simp[hd,he,d5,aC.word,aC.pay,aC.wrap,JC,JD]at aw ⊢;simp[aw];omega
end
open PySem PySem.Spec L2 ZM TL TR
section
variable{S:Store}{sl:aT}{w r v:List Nat}{n i:Nat}
def bj(w r:List Nat):dH:=.ins "TextReader" ["whole","at"] [.str (aj w),.int ((w.length - r.length:Nat):Int)]
theorem JH(h:S[n]?=some (bj w r)):iR S (.ptr n)=some ((Str.ofString "TextReader"),[Str.ofString "whole",Str.ofString "at"],[D.str (aj w),.int ((w.length - r.length:Nat):Int)]):=by
 unfold bj at h;simp[iR,h]
theorem JI(hx:sl[i]?=some (some (.ptr n)))(h:S[n]?=some (bj w r)):cR "whole" [("TextReader",.fld)] (eName i) sl S=.ok (.str (aj w)) S:=by
 unfold cR;rw[aX hx];show(match iR S (.ptr n)with|some (c,ns,vs)=>_|none=>_)=_;rw[JH h];rfl
theorem Ar(hx:sl[i]?=some (some (.ptr n)))(h:S[n]?=some (bj w r)):cR "at" [("TextReader",.fld)] (eName i) sl S=.ok (.int ((w.length - r.length:Nat):Int)) S:=by
 unfold cR;rw[aX hx];show(match iR S (.ptr n)with|some (c,ns,vs)=>_|none=>_)=_;rw[JH h];rfl
theorem RA(h:r <:+ w):w.drop (w.length - r.length)=r:=by
 obtain⟨p,rfl⟩:=h;simp
theorem JK{k:Nat}:jy k (bj w r)=true:=rfl
theorem o9(h:S[n]?=some (bj w r)){r2:List Nat}:(S.set n (bj w r2))[n]?=some (bj w r2):=mz (List.getElem?_eq_some_iff.mp h).1
theorem aaM{fe:aM}{k:Nat}{r2:List Nat}(hx:sl[0]?=some (some (.ptr n)))(h:S[n]?=some (bj w r))(hf:fe sl S=.ok (.int (k:Int)) S)(hr:w.length - r2.length=w.length - r.length+k):Ez ["TextReader"] "at" (λi j=>i+j) (eName 0) fe sl S=.nx sl (S.set n (bj w r2)):=by
 have h0:=h;unfold bj at h0;unfold Ez;rw[aX hx];show(match S[n]? with|some (.ins c ns vs)=>_|_=>_)=_;rw[h0];dsimp only;rw[if_pos (by decide)];have aw:gq "at" [Str.ofString "whole",Str.ofString "at"] [D.str (aj w),.int ((w.length - r.length:Nat):Int)]=some (.int ((w.length - r.length:Nat):Int)):=rfl;rw[aw];dsimp only;rw[hf];rw[CG];dsimp only;have e2:Jm S n=some (Str.ofString "TextReader"):=by unfold Jm;rw[h0]
 rw[if_pos e2];unfold pU;dsimp only;rw[h0];dsimp only;rw[if_pos (by decide)];dsimp only;have a6:((w.length - r.length:Nat):Int)+(k:Int)=((w.length - r2.length:Nat):Int):=by omega
 rw[a6];rfl
theorem amL{n:Nat}(hn:n=S.length):xW [.ptr n,.str (aj w)] (S++[.ins "TextReader" [] []])=.ok .non (S++[bj w w]):=by
 subst hn;have mQ:(S++[dH.ins "TextReader" [] []])[S.length]?=some (.ins "TextReader" [] []):=by simp
 have aw:pV ["TextReader"] "whole" (eName 1) (eName 0) [some (.ptr S.length),some (.str (aj w))] (S++[.ins "TextReader" [] []])=.nx [some (.ptr S.length),some (.str (aj w))] (S++[.ins "TextReader" [Str.ofString "whole"] [.str (aj w)]]):=by
  unfold pV;rw[aX (i:=1) rfl,CG,aX (i:=0) rfl,CG];unfold pU;dsimp only;rw[mQ];dsimp only;rw[if_pos (by decide)];dsimp only[j3];rw[List.set_append_right _ _ (Nat.le_refl _),Nat.sub_self];rfl
 have g1:(S++[dH.ins "TextReader" [Str.ofString "whole"] [.str (aj w)]])[S.length]?=some (.ins "TextReader" [Str.ofString "whole"] [.str (aj w)]):=by simp
 have e2:pV ["TextReader"] "at" (af (.int 0)) (eName 0) [some (.ptr S.length),some (.str (aj w))] (S++[.ins "TextReader" [Str.ofString "whole"] [.str (aj w)]])=.nx [some (.ptr S.length),some (.str (aj w))] (S++[bj w w]):=by
  unfold pV;rw[show af (.int 0) [some (.ptr S.length),some (.str (aj w))] (S++[.ins "TextReader" [Str.ofString "whole"] [.str (aj w)]])=.ok (.int 0) (S++[.ins "TextReader" [Str.ofString "whole"] [.str (aj w)]])from rfl];rw[CG,aX (i:=0) rfl,CG];unfold pU;dsimp only;rw[g1];dsimp only;rw[if_pos (by decide)];dsimp only;have a6:j3 "at" (D.int 0) [Str.ofString "whole"] [D.str (aj w)]=([Str.ofString "whole",Str.ofString "at"],[D.str (aj w),.int 0]):=rfl;rw[a6];dsimp only;rw[List.set_append_right _ _ (Nat.le_refl _),Nat.sub_self];unfold bj;rw[Nat.sub_self];rfl
 refine bp ?_;unfold xW;refine dF rfl ?_;show a0 (EA [some (.ptr S.length),some (.str (aj w))] _) _;unfold EA;rw[Nt,aw,pX];dsimp only;rw[e2,pX,afj];have hk:fz (S++[dH.ins "TextReader" [] []]) (S++[bj w w]):=by
  have:=fz.set (S:=S++[dH.ins "TextReader" [] []]) (n:=S.length) (m:=bj w w) JK;rwa [List.set_append_right _ _ (Nat.le_refl _),Nat.sub_self]at this
 exact pZ hk rfl ⟨rfl,rfl⟩
theorem amM:pT "TextReader" xW [.str (aj w)] S=.ok (.ptr S.length) (S++[bj w w]):=by
 unfold pT;rw[amL rfl];rfl
theorem amN(h:S[n]?=some (bj w r))(hs:r <:+ w)(hw:w.length<=100000)(hl:Lo w)(bP:Lo v)(Au:v.length<=100):iE [.ptr n,.str (aj v)] S=.ok (.bl (decide (r.take v.length=v))) (S.set n (bj w (if r.take v.length=v then r.drop v.length else r))):=by
 have RB:=hs.length_le;have vA:Lo r:=λc hc=>hl c (hs.subset hc);refine bp ?_;unfold iE;refine dF rfl ?_;show a0 (EB [some (.ptr n),some (.str (aj v)),none] S) _;unfold EB;have amO:ak cz (ae (eName 1) ah) [some (.ptr n),some (.str (aj v)),none] S=.ok (.int (v.length:Int)) S:=bp (by simp;omega);have es:e0 false (cR "whole" [("TextReader",.fld)] (eName 0)) (ec (cR "at" [("TextReader",.fld)] (eName 0))) (ec (aq bC (cR "at" [("TextReader",.fld)] (eName 0)) (ak cz (ae (eName 1) ah)))) [some (.ptr n),some (.str (aj v)),none] S=.ok (.str (aj (r.take v.length))) S:=by
  refine EJ (JI (i:=0) rfl h) (xY (Ar (i:=0) rfl h)) (xY (dr (Ar (i:=0) rfl h) amO (V5 _ _ _))) (by omega) ?_;have e:((w.length - r.length:Nat):Int)+(v.length:Int)=((w.length - r.length+v.length:Nat):Int):=by omega
  rw[e,Wu];congr 1;rw[List.drop_take,RA hs];congr 1;omega
 have eb:=dr (sem:=aQ false) es (aX (i:=1) (d:=.str (aj v)) rfl) (w1 (n5 (vA.take v.length)) (n5 bP));refine bF (λsl S2=>S2=S/\sl=[some (.ptr n),some (.str (aj v)),some (.bl (decide (r.take v.length=v)))]) (iB eb ⟨rfl,rfl⟩) ?_;rintro sl S2 ⟨rfl,rfl⟩;have ek:eF (aI (eName 2)) (ak cz (ae (eName 1) ah)) (af (.int 0)) [some (.ptr n),some (.str (aj v)),some (.bl (decide (r.take v.length=v)))] S2=.ok (.int ((if r.take v.length=v then v.length else 0:Nat):Int)) S2:=bp (by
  by_cases q:r.take v.length=v
  .simp[q];omega
  .simp[q])
 have ha:=aaM (sl:=[some (.ptr n),some (.str (aj v)),some (.bl (decide (r.take v.length=v)))]) (r2:=if r.take v.length=v then r.drop v.length else r) rfl h ek (by
  by_cases q:r.take v.length=v
  .rw[if_pos q,if_pos q,List.length_drop]
   have:=congrArg List.length q;rw[List.length_take]at this;omega
  .rw[if_neg q,if_neg q];omega)
 refine bF (λsl a4=>a4=S2.set n (bj w (if r.take v.length=v then r.drop v.length else r))/\sl=[some (.ptr n),some (.str (aj v)),some (.bl (decide (r.take v.length=v)))]) ?_ ?_
 .rw[ha,pX]
  exact⟨rfl,rfl⟩
 rintro sl a4 ⟨rfl,rfl⟩;refine qo (aX (i:=2) rfl) ?_;rw[kr];exact pZ (fz.set JK) rfl ⟨rfl,rfl⟩
theorem aaN{p q:List Nat}(hp:∀c∈p,c∈v)(hq:∀c∈q.head?,c∉v):(p++q).takeWhile (λc=>decide (c∈v))=p/\(p++q).dropWhile (λc=>decide (c∈v))=q:=by
 rw[List.takeWhile_append_of_pos (by simpa using hp),List.dropWhile_append_of_pos (by simpa using hp)];cases q with
 |nil=>simp
 |cons c t =>
  have:=hq c (by simp);simp[this]
theorem amP(h:S[n]?=some (bj w r))(hs:r <:+ w)(hw:w.length<=100000):rG [.ptr n,.str (aj v)] S=.ok (.str (aj (r.takeWhile (λc=>decide (c∈v))))) (S.set n (bj w (r.dropWhile (λc=>decide (c∈v))))):=by
 have RB:=hs.length_le;refine bp ?_;unfold rG;refine dF rfl ?_;show a0 (ED [some (.ptr n),some (.str (aj v)),none] S) _;unfold ED;refine bF (λsl S2=>S2=S/\sl=[some (.ptr n),some (.str (aj v)),some (.int ((w.length - r.length:Nat):Int))]) (iB (Ar (i:=0) rfl h) ⟨rfl,rfl⟩) ?_;rintro sl S2 ⟨rfl,rfl⟩;refine bF (λsl a4=>∃p q,r=p++q/\(∀c∈p,c∈v)/\(∀c∈q.head?,c∉v)/\a4=S2.set n (bj w q)/\sl=[some (.ptr n),some (.str (aj v)),some (.int ((w.length - r.length:Nat):Int))]) ?_ ?_
 .refine zq r.length (λk sl a4=>∃p q,r=p++q/\(∀c∈p,c∈v)/\k=q.length/\a4=S2.set n (bj w q)/\sl=[some (.ptr n),some (.str (aj v)),some (.int ((w.length - r.length:Nat):Int))]) ⟨[],r,rfl,by simp,rfl,?_,rfl⟩ (by omega) ?_
  .have:=(List.getElem?_eq_some_iff.mp h)
   obtain⟨hn,e⟩:=this;rw[<-e,A8]
  rintro k sl a4 ⟨p,q,rfl,hp,rfl,rfl,rfl⟩;have hq:q <:+ w:=List.IsSuffix.trans (List.suffix_append _ _) hs;have hg:=o9 h (r2:=q);have a1:=Ar (i:=0) (sl:=[some (.ptr n),some (.str (aj v)),some (.int ((w.length - (p++q).length:Nat):Int))]) rfl hg;have a2:=JI (i:=0) (sl:=[some (.ptr n),some (.str (aj v)),some (.int ((w.length - (p++q).length:Nat):Int))]) rfl hg;have a3:ak cz (ae (cR "whole" [("TextReader",.fld)] (eName 0)) ah) [some (.ptr n),some (.str (aj v)),some (.int ((w.length - (p++q).length:Nat):Int))] (S2.set n (bj w q))=.ok (.int (w.length:Int)) (S2.set n (bj w q)):=by
   refine dG (aE a2 bh) ?_;exact bp (by simp;omega)
  have eS:=dr (sem:=lR) a1 a3 (V6 _ _ _);rw[Hx,e8,eS,aS,d6];cases q with
  |nil =>
   rw[decide_eq_false (by simp),if_neg (by simp),if_neg (by simp)];exact⟨p,[],rfl,hp,by simp,rfl,rfl⟩
  |cons c t =>
   have c6:w.length - (c::t).length<w.length:=by have:=hq.length_le;simp at this ⊢;omega
   have hd:=RA hq;rw[decide_eq_true (by omega),if_pos rfl];have hc:w[w.length - (c::t).length]?=some c:=by
    have:=congrArg (λl=>l[0]?) hd;simpa using this
   have u6:aq a7 (cR "whole" [("TextReader",.fld)] (eName 0)) (cR "at" [("TextReader",.fld)] (eName 0)) [some (.ptr n),some (.str (aj v)),some (.int ((w.length - (p++c::t).length:Nat):Int))] (S2.set n (bj w (c::t)))=.ok (iV c) (S2.set n (bj w (c::t))):=by
    refine dr a2 a1 (bp ?_);rw[afq];refine⟨by omega,c,?_,rfl,rfl⟩;unfold atI ixN;rw[if_pos (by omega),if_pos (by omega)];simpa using hc
   have c2:=dr (sem:=dy) u6 (aX (i:=1) (d:=.str (aj v)) rfl) Wr;rw[e8,c2,aS,d6];by_cases bP:c∈v
   .rw[decide_eq_true bP,if_pos rfl]
    have ha:=aaM (sl:=[some (.ptr n),some (.str (aj v)),some (.int ((w.length - (p++c::t).length:Nat):Int))]) (S:=S2.set n (bj w (c::t))) (fe:=af (.int 1)) (k:=1) (r2:=t) rfl hg rfl (by have:=hq.length_le;simp at this ⊢;omega);rw[ha,pX,uv];refine⟨t.length,by simp,p++[c],t,by simp,?_,rfl,rfl,by simp⟩;intro d hd;rcases nh.mp hd with h|h
    .exact hp d h
    .rw[qA.mp h];exact bP
   .rw[decide_eq_false bP,if_neg (by simp)]
    exact⟨p,c::t,rfl,hp,by simpa using bP,rfl,rfl⟩
 rintro sl a4 ⟨p,q,rfl,hp,hq,rfl,rfl⟩;have axw:q <:+ w:=List.IsSuffix.trans (List.suffix_append _ _) hs;obtain⟨aw,e2⟩:=aaN hp hq;rw[aw,e2];have hg:=o9 h (r2:=q);have es:=EJ (l:=w) (r:=p) (lo:=some ((w.length - (p++q).length:Nat):Int)) (hi:=some ((w.length - q.length:Nat):Int)) (JI (i:=0) (sl:=[some (.ptr n),some (.str (aj v)),some (.int ((w.length - (p++q).length:Nat):Int))]) rfl hg) (xY (aX (i:=2) rfl)) (xY (Ar (i:=0) rfl hg)) (by omega) (by
  rw[Wu,List.drop_take,RA hs];have:=hs.length_le;congr 1;have e:w.length - q.length - (w.length - (p++q).length)=p.length:=by simp at this ⊢;omega
  rw[e];simp)
 refine qo es ?_;rw[kr];exact pZ (fz.set JK) rfl ⟨rfl,rfl⟩
end
def t4:List Nat:=[115,116,97,121]
def t5:List Nat:=[110,111,110,101]
def fH:List Nat:=[45,47,48,49,50,51,52,53,54,55,56,57]
def dW(v r:List Nat):List Nat:=r.takeWhile (λc=>decide (c∈v))
def d1(v r:List Nat):List Nat:=r.dropWhile (λc=>decide (c∈v))
abbrev hB:=List Nat->Option (ag×List Nat)
def i7(P:hB)(s:List Nat):Nat->List Nat->Option (List ag×List Nat)
 |0,r=>some ([],r)
 |m+1,r=>if r.take s.length=s then(match P (r.drop s.length)with
  |some (p,r2)=>(i7 P s m r2).map λx=>(p::x.1,x.2)
  |none=>none)else some ([],r)
def m_(P:hB)(k:aC)(s:List Nat)(p1:ag)(r:List Nat):Option (ag×List Nat):=match P r with
 |some (p2,r2)=>(match i7 P s r2.length r2 with
  |some (ps,cg)=>if cg.take 1=[41]then some (.nd k (p1::p2::ps),cg.drop 1)else none
  |none=>none)
 |none=>none
def jo(P:hB)(l:List Nat):Option (ag×List Nat):=match P l with
 |some (p1,r1)=>if r1.take dh.length=dh then m_ P .seq dh p1 (r1.drop dh.length)else if r1.take eW.length=eW then m_ P .alt eW p1 (r1.drop eW.length)else none
 |none=>none
def m'(P:hB)(rest:List Nat):Option (ag×List Nat):=match fP (dW fH rest)with
 |some q=>if(d1 fH rest).take 1=[58]then(match P ((d1 fH rest).drop 1)with
  |some (p,r)=>some (.nd (.scale (Rat.divInt q.1 q.2)) [p],r)
  |none=>none)else none
 |none=>none
def n8(P:hB)(l:List Nat):Option (ag×List Nat) :=
 if dW abc l=t4 then some (.nd .stay [],d1 abc l)else if dW abc l=t5 then some (.nd .none [],d1 abc l)
 else if dW abc l≠[]then some (.nd (.go (dW abc l)) [],d1 abc l)else m' P (d1 abc l)
def vB(P:hB)(l:List Nat):Option (ag×List Nat):=match P l with
 |some (p,r)=>if r.take 1=[93]then some (.nd .loop [p],r.drop 1)else none
 |none=>none
def eX:Nat->hB
 |0,_=>none
 |k+1,l=>if l.take 1=[91]then vB (eX k) (l.drop 1)else if l.take 1=[40]then jo (eX k) (l.drop 1)else n8 (eX k) l
def Suf(P:hB):Prop:=∀l p r,P l=some (p,r)->r <:+ l
theorem x5{v r:List Nat}:d1 v r <:+ r:=List.dropWhile_suffix _
theorem aaO{P:hB}(bU:Suf P){s:List Nat}:∀{m:Nat} {l r:List Nat} {ps:List ag},i7 P s m l=some (ps,r)->r <:+ l
 |0,l,r,ps,h=>by cases h;exact List.suffix_refl _
 |m+1,l,r,ps,h=>by
  rw[i7]at h;split at h
  .split at h
   .rename_i p r2 e
    obtain⟨⟨x,y⟩,hx,bD⟩:=fx.mp h;cases bD;exact((aaO bU hx).trans (bU _ _ _ e)).trans (kL _ _)
   .cases h
  .cases h;exact List.suffix_refl _
theorem aaP{P:hB}(bU:Suf P){k:aC}{s:List Nat}{p1 p:ag}{l r:List Nat}(h:m_ P k s p1 l=some (p,r)):r <:+ l:=by
 unfold m_ at h;split at h
 .rename_i p2 r2 e
  split at h
  .rename_i ps cg e2
   split at h
   .cases h
    exact((kL _ _).trans (aaO bU e2)).trans (bU _ _ _ e)
   .cases h
  .cases h
 .cases h
theorem amQ{P:hB}(bU:Suf P):Suf (jo P):=λl p r h=>by
 unfold jo at h;split at h
 .rename_i p1 r1 e
  split at h
  .exact((aaP bU h).trans (kL _ _)).trans (bU _ _ _ e)
  .split at h
   .exact((aaP bU h).trans (kL _ _)).trans (bU _ _ _ e)
   .cases h
 .cases h
theorem amR{P:hB}(bU:Suf P):Suf (m' P):=λl p r h=>by
 unfold m' at h;split at h
 .split at h
  .split at h
   .rename_i e
    cases h;exact((bU _ _ _ e).trans (kL _ _)).trans x5
   .cases h
  .cases h
 .cases h
theorem aaQ:∀k,Suf (eX k)
 |0=>λl p r h=>by cases h
 |k+1=>λl p r h=>by
  have ih:=aaQ k;rw[eX]at h;split at h
  .unfold vB at h
   split at h
   .rename_i e
    split at h
    .cases h
     exact((kL _ _).trans (ih _ _ _ e)).trans (kL _ _)
    .cases h
   .cases h
  .split at h
   .exact(amQ ih _ _ _ h).trans (kL _ _)
   .unfold n8 at h
    split at h
    .cases h;exact x5
    .split at h
     .cases h;exact x5
     .split at h
      .cases h;exact x5
      .exact(amR ih _ _ _ h).trans x5
theorem EY{v x rest:List Nat}(hx:∀c∈x,c∈v)(hr:∀c∈rest.head?,c∉v):dW v (x++rest)=x/\d1 v (x++rest)=rest:=aaN hx hr
theorem RD{s r:List Nat}:(s++r).take s.length=s:=by simp
theorem RE{s r:List Nat}:(s++r).drop s.length=r:=by simp
def jq(s:List Nat):List (List Nat)->List Nat
 |[]=>[]
 |x::r=>s++(x++jq s r)
theorem JL{s:List Nat}:∀{x:List Nat} {r:List (List Nat)},gL s (x::r)=x++jq s r
 |x,[]=>by rw[jq,rY];rfl
 |x,y::r=>by rw[gL,JL,jq]
theorem aaR{P:hB}{s rest:List Nat}(hs:∀c∈s.head?,c∉abc)(x6:s≠[])(hr:∀c∈rest.head?,c∉abc)(jn:rest.take s.length≠s):∀(cs:List ag) (m:Nat),(∀c∈cs,∀t:List Nat,(∀c∈t.head?,c∉abc)->P (c.txt++t)=some (c,t))->cs.length<=m->i7 P s m (jq s (cs.map ag.txt)++rest)=some (cs,rest)
 |[],0,_,_=>rfl
 |[],m+1,_,_=>by
  rw[i7];show(if rest.take s.length=s then _ else some ([],rest))=some ([],rest);rw[if_neg jn]
 |c::cs,0,_,h=>by simp at h
 |c::cs,m+1,h,hm=>by
  have q7:cs.length<=m:=by simpa using hm
  have ih:=aaR hs x6 hr jn cs m (λd hd=>h d (iH _ hd)) q7;rw[cF,jq,i7,mC,mC,RD,if_pos rfl,RE];have hh:∀x∈(jq s (cs.map ag.txt)++rest).head?,x∉abc:=by
   cases cs with
   |nil=>exact hr
   |cons d ds =>
    rw[cF,jq];cases s with
    |nil=>exact(x6 rfl).elim
    |cons a s=>simpa using hs a rfl
  rw[h c (by simp) _ hh];dsimp only;rw[ih];rfl
theorem aaS{P:hB}{k:aC}{s rest:List Nat}(hs:∀c∈s.head?,c∉abc)(x6:s≠[])(ru:∀c∈s.head?,c≠41){p1 p2:ag}{cs:List ag}(h:∀c∈p2::cs,∀t:List Nat,(∀c∈t.head?,c∉abc)->P (c.txt++t)=some (c,t)):m_ P k s p1 (p2.txt++(jq s (cs.map ag.txt)++(41::rest)))=some (.nd k (p1::p2::cs),rest):=by
 unfold m_;have hr:∀c∈(41::rest).head?,c∉abc:=λc hc=>by
  have:c=41:=by simpa using hc.symm
  subst this;decide
 have jn:(41::rest).take s.length≠s:=λe=>by
  cases s with
  |nil=>exact x6 rfl
  |cons a s =>
   rw[List.length_cons,List.take_succ_cons]at e;injection e with e _
   exact ru a rfl e.symm
 have hh:∀x∈(jq s (cs.map ag.txt)++(41::rest)).head?,x∉abc:=by
  cases cs with
  |nil=>exact hr
  |cons d ds =>
   rw[cF,jq];cases s with
   |nil=>exact(x6 rfl).elim
   |cons a s=>simpa using hs a rfl
 rw[h p2 (by simp) _ hh];dsimp only;have hl:cs.length<=(jq s (cs.map ag.txt)++(41::rest)).length:=by
  have:∀xs:List (List Nat),xs.length<=(jq s xs).length:=λxs=>by
   induction xs with
   |nil=>simp
   |cons x xs ih =>
    rw[jq];have:1<=s.length:=List.length_pos_iff.mpr x6;simp only[List.length_cons,List.length_append];omega
  have:=this (cs.map ag.txt);rw[List.length_map]at this;rw[List.length_append];omega
 rw[aaR hs x6 hr jn cs _ (λc hc=>h c (iH _ hc)) hl];dsimp only;rw[if_pos (by rfl)];rfl
theorem EZ{a:Nat}{l:List Nat}:(a::l).take 1=[a]:=rfl
theorem amS(t:List Nat):∀c∈(93::t).head?,c∉abc:=λc hc=>by
 have:c=93:=by simpa using hc.symm
 subst this;decide
theorem aaT(p q:Int):cM p q≠[]:=λe=>by
 unfold cM at e;have d:fO p≠[]:=λh=>by
  rcases TR.Q6 p with⟨n,_,e⟩|⟨n,_,e⟩
  .rw[e]at h;exact TR.QV n h
  .rw[e]at h;cases h
 split at e
 .exact d e
 .simp at e
theorem amT{b:Rat->Prop}(hb:∀r,b r->fP (cM r.num r.den)=some (r.num,(r.den:Int))):∀(P:ag) (k:Nat),P.ok b->P.dep<=k->∀t:List Nat,(∀c∈t.head?,c∉abc)->eX k (P.txt++t)=some (P,t):=by
 have amU:∀l:List Nat,∀c∈(dh++l).head?,c∉abc:=λl c hc=>by
  have:c=44:=by simpa[dh]using hc.symm
  subst this;decide
 have amV:∀l:List Nat,∀c∈(eW++l).head?,c∉abc:=λl c hc=>by
  have:c=32:=by simpa[eW]using hc.symm
  subst this;decide
 refine ag.ind λcj cs ih k h hk t ht=>?_;cases k with
 |zero=>have:=(ag.nd cj cs).vq;omega
 |succ k =>
  have hf:=(ag.i6.mp h).1;have gK:=(ag.i6.mp h).2;have n7:∀c∈cs,∀t:List Nat,(∀c∈t.head?,c∉abc)->eX k (c.txt++t)=some (c,t):=λc hc t ht=>ih c hc k (gK c hc) (by have:=ag.Eu (k:=cj) hc;omega) t ht;rw[ag.m8,eX];cases cj with
  |go x =>
   have e:cs=[]:=eO.mp hf.1;subst e;have hx:=hf.2;obtain⟨aw,e2⟩:=EY (v:=abc) (rest:=t) hx.abc ht;have d5:x≠[]:=λe=>by have:=hx.pos;rw[e]at this;simp at this
   cases x with
   |nil=>exact(d5 rfl).elim
   |cons a x =>
    have ha:=CT.mp (hx.abc a (by simp));have bB:aC.wrap (.go (a::x)) ([].map ag.txt)++t=a::(x++t):=rfl;rw[bB];have n1:¬[a]=[91]:=λe=>by injection e with e _;omega
    have n2:¬[a]=[40]:=λe=>by injection e with e _;omega
    rw[EZ,if_neg n1,if_neg n2];show n8 _ ((a::x)++t)=_;unfold n8;have za:¬a::x=t4:=hx.ns;have Pn:¬a::x=t5:=hx.nn;rw[aw,e2,if_neg za,if_neg Pn,if_pos d5]
  |stay =>
   have e:cs=[]:=eO.mp hf;subst e;obtain⟨aw,e2⟩:=EY (v:=abc) (x:=t4) (rest:=t) (by decide) ht;show n8 _ (t4++t)=_;unfold n8;rw[aw,e2,if_pos rfl]
  |none =>
   have e:cs=[]:=eO.mp hf;subst e;obtain⟨aw,e2⟩:=EY (v:=abc) (x:=t5) (rest:=t) (by decide) ht;show n8 _ (t5++t)=_;unfold n8;rw[aw,e2,if_neg (by decide),if_pos rfl]
  |loop =>
   obtain⟨c,rfl⟩:=hR.mp hf;have hc:=n7 c (by simp) (93::t) (amS t);show vB (eX k) ((c.txt++[93])++t)=_;rw[mC];unfold vB;rw[show[93]++t=93::t from rfl,hc];dsimp only;rw[EZ,if_pos rfl];rfl
  |scale r =>
   obtain⟨c,rfl⟩:=hR.mp hf.1;have hc:=n7 c (by simp) t ht;have hr:=hb r hf.2;have jP:=aaF r.num r.den;have amW:∀c∈cM r.num r.den,c∈fH:=λc hc=>by
    have:=jP c hc;simp only[fH,List.mem_cons,gM,or_false];omega
   have bB:aC.wrap (.scale r) ([c].map ag.txt)++t=cM r.num r.den++(58::(c.txt++t)):=by simp[aC.wrap]
   rw[bB];obtain⟨aw,e2⟩:=EY (v:=fH) (x:=cM r.num r.den) (rest:=58::(c.txt++t)) amW (by
    intro d hd;have:d=58:=by simpa using hd.symm
    subst this;decide)
   have C':∀d∈(cM r.num r.den++(58::(c.txt++t))).head?,d∉abc:=λd hd=>by
    cases e:cM r.num r.den with
    |nil=>exact(aaT _ _ e).elim
    |cons a x =>
     rw[e]at hd jP;have hd:a=d:=by simpa using hd
     have:=jP a (by simp);rw[<-hd,CT];omega
   obtain⟨a6,dA⟩:=EY (v:=abc) (x:=[]) (rest:=cM r.num r.den++(58::(c.txt++t))) (by simp) C';rw[yx]at a6 dA;have Ik:∀z,z=91\/z=40->(cM r.num r.den++(58::(c.txt++t))).take 1≠[z]:=λz hz e=>by
    cases e5:cM r.num r.den with
    |nil=>exact(aaT _ _ e5).elim
    |cons a x =>
     rw[e5]at e jP;have e:a=z:=by simpa using e
     have:=jP a (by simp);omega
   rw[if_neg (Ik 91 (.inl rfl)),if_neg (Ik 40 (.inr rfl))];unfold n8;rw[a6,dA,if_neg (by decide),if_neg (by decide),if_neg (by simp)];unfold m';rw[aw,e2,hr];dsimp only;rw[EZ,if_pos rfl];show(match eX k (c.txt++t)with|some (p,axx)=>_|none=>_)=_;rw[hc];dsimp only;rw[KU]
  |seq =>
   cases cs with
   |nil=>simp[aC.fit]at hf
   |cons p1 cs =>
    cases cs with
    |nil=>simp[aC.fit]at hf
    |cons p2 cs =>
     have bB:aC.wrap .seq ((p1::p2::cs).map ag.txt)++t=40::(p1.txt++(dh++(p2.txt++(jq dh (cs.map ag.txt)++(41::t))))):=by
      simp only[aC.wrap,cF,JL,jq,mC,List.cons_append,yx]
     rw[bB,EZ,if_neg (by decide),if_pos rfl];show jo (eX k) (p1.txt++_)=_;unfold jo;rw[n7 p1 (by simp) _ (amU _)];dsimp only;rw[RD,if_pos rfl,RE];exact aaS (by decide) (by decide) (by decide) λc hc=>n7 c (iH _ hc)
  |alt =>
   cases cs with
   |nil=>simp[aC.fit]at hf
   |cons p1 cs =>
    cases cs with
    |nil=>simp[aC.fit]at hf
    |cons p2 cs =>
     have bB:aC.wrap .alt ((p1::p2::cs).map ag.txt)++t=40::(p1.txt++(eW++(p2.txt++(jq eW (cs.map ag.txt)++(41::t))))):=by
      simp only[aC.wrap,cF,JL,jq,mC,List.cons_append,yx]
     rw[bB,EZ,if_neg (by decide),if_pos rfl];show jo (eX k) (p1.txt++_)=_;unfold jo;rw[n7 p1 (by simp) _ (amV _)];dsimp only;rw[if_neg (by simp[eW,dh]),RD,if_pos rfl,RE];exact aaS (by decide) (by decide) (by decide) λc hc=>n7 c (iH _ hc)
open PySem PySem.Spec L2 ZM TL TR
def o_(S:Store)(n:Nat)(w:List Nat)(o:Option (ag×List Nat))(out:Out D):Prop :=
 We out (λd ao=>∃p r,o=some (p,r)/\d=p.dat bz/\r <:+ w/\ao=S.set n (bj w r)) (λe ao=>o=none/\(∃t,e=h4 (.str (aj t)))/\∃r,ao=S.set n (bj w r))
section
variable{S S1:Store}{sl:aT}{w r v:List Nat}{n i:Nat}
theorem JM{m:Str}{g:aB}{fa:du}{ds:List D}(hm:m∉[Str.ofString "whole",Str.ofString "at"])(hx:sl[0]?=some (some (.ptr n)))(h:S[n]?=some (bj w r))(ha:fa sl S=.ok ds S):cQ m [("TextReader",g)] (eName 0) fa sl S=g (.ptr n::ds) S:=by
 unfold cQ;rw[aX hx];show(match iR S (.ptr n)with|some (c,ns,_)=>_|none=>_)=_;rw[JH h];dsimp only;rw[if_neg hm];have e:jH [(Str.ofString "TextReader",g)] (Str.ofString "TextReader")=some g:=by simp[jH]
 rw[e];dsimp only;rw[ha];rfl
theorem aaU{fa:aM}(hx:sl[0]?=some (some (.ptr n)))(h:S[n]?=some (bj w r))(ha:fa sl S=.ok (.str (aj v)) S)(hs:r <:+ w)(hw:w.length<=100000)(hl:Lo w)(bP:Lo v)(Au:v.length<=100) :
  cQ "taken" [("TextReader",iE)] (eName 0) (ae fa ah) sl S=.ok (.bl (decide (r.take v.length=v))) (S.set n (bj w (if r.take v.length=v then r.drop v.length else r))):=by
 rw[JM (by decide) hx h (aE ha bh)];exact amN h hs hw hl bP Au
theorem RF{Q:hJ}(hx:sl[0]?=some (some (.ptr n)))(h:S[n]?=some (bj w r))(hq:Q.ex (h4 (.str (aj w))) sl S):a0 (eL (ak (eo "InvalidText" "InvalidText" ["given"]) (ae (cR "whole" [("TextReader",.fld)] (eName 0)) ah)) sl S) Q:=by
 rw[O2,gY,aE (JI hx h) bh,aS,O3];exact⟨rfl,hq⟩
def di(S:Store)(n:Nat)(w r:List Nat)(ps:List ag):Store:=S.set n (bj w r)++[.lst (ps.map (ag.dat bz))]
theorem JN(h:S[n]?=some (bj w v)){ps:List ag}:(di S n w r ps)[n]?=some (bj w r):=by
 have hn:=(List.getElem?_eq_some_iff.mp h).1;unfold di;rw[List.getElem?_append_left (by simpa using hn)];exact o9 h
theorem JO{ps:List ag}:(di S n w r ps)[S.length]?=some (.lst (ps.map (ag.dat bz))):=by
 unfold di;rw[List.getElem?_append_right (by simp)];simp
theorem RG(h:S[n]?=some (bj w v)){ps:List ag}{r2:List Nat}:(di S n w r ps).set n (bj w r2)=di S n w r2 ps:=by
 have hn:=(List.getElem?_eq_some_iff.mp h).1;unfold di;rw[KL _ _ (by simpa using hn),uv]
theorem amX{ps:List ag}{p:ag}:(di S n w r ps).set S.length (.lst (ps.map (ag.dat bz)++[p.dat bz]))=di S n w r (ps++[p]):=by
 unfold di;rw[List.set_append_right _ _ (by simp)];simp
theorem Av{r:List Nat}:fz S (S.set n (bj w r)):=fz.set JK
theorem RH{P:D->Store->Prop}{ps:List ag}{e:D}(he:∃t,e=h4 (.str (aj t)))(p:P e (S.set n (bj w r))):e3 S P e (di S n w r ps):=by
 obtain⟨t,rfl⟩:=he;exact uQ Av rfl p
theorem amY{fe:aM}{ps:List ag}{p:ag}{r2:List Nat}{sl:aT}(h:S[n]?=some (bj w v))(hx:sl[2]?=some (some (.ptr S.length)))(hf:fe sl (di S n w r ps)=.ok (p.dat bz) (di S n w r2 ps))(hl:ps.length<=100000) :
  dD iT sJ (eName 2) (ae fe ah) sl (di S n w r ps)=.ok .non (di S n w r2 (ps++[p])):=by
 unfold dD;rw[aX hx];show(if iT (di S n w r ps) (.ptr S.length)=true then _ else _)=_;rw[if_pos (HS JO)];have ha:ae fe ah sl (di S n w r ps)=.ok [p.dat bz] (di S n w r2 ps):=by
  unfold ae;rw[hf];rfl
 rw[ha];show sJ (.ptr S.length) [p.dat bz] (di S n w r2 ps)=_;unfold sJ;dsimp only;rw[JO];dsimp only;rw[if_pos (by rw[List.length_map];omega),amX]
theorem JP{again:aB}{d:Int}{S2:Store}(h0:sl[0]?=some (some (.ptr n)))(h1:sl[1]?=some (some (.int d)))(h:S2[n]?=some (bj w r)):cQ "plan" [("TextReader",again)] (eName 0) (ae (aq bC (eName 1) (af (.int 1))) ah) sl S2=again [.ptr n,.int (d+1)] S2 :=
 JM (by decide) h0 h (aE (dr (aX h1) rfl (V5 _ _ _)) bh)
theorem amZ{P:hB}{s:List Nat}{m:Nat}{r:List Nat}(hq:r.take s.length=s)(hs:s≠[])(hm:r.length<=m):∃k,m=k+1/\(r.drop s.length).length<=k/\(∀p r2,P (r.drop s.length)=some (p,r2)->i7 P s m r=(i7 P s k r2).map λx=>(p::x.1,x.2))/\(P (r.drop s.length)=none->i7 P s m r=none):=by
 have hl:s.length<=r.length:=by
  have:=congrArg List.length hq;rw[List.length_take]at this;omega
 have h1:1<=s.length:=List.length_pos_iff.mpr hs;cases m with
 |zero=>omega
 |succ k =>
  refine⟨k,rfl,by rw[List.length_drop];omega,λp r2 e=>?_,λe=>?_⟩
  .rw[i7,if_pos hq,e]
  .rw[i7,if_pos hq,e]
theorem am0{P:hB}{s:List Nat}{m:Nat}{r:List Nat}(hq:r.take s.length≠s):i7 P s m r=some ([],r):=by
 cases m with
 |zero=>rfl
 |succ k=>rw[i7,if_neg hq]
theorem am1{fe:aM}{fa:du}{e:D}{S2:Store}(h:fe sl S=.ex e S2):ae fe fa sl S=.ex e S2:=by
 unfold ae;rw[h];rfl
theorem aaV{P:hB}{again:aB}{d:Int}{ps:List ag}{Q:hJ}{sl:aT}(vC:∀(S:Store) (r:List Nat),r <:+ w->S[n]?=some (bj w r)->o_ S n w (P r) (again [.ptr n,.int (d+1)] S))(h:S[n]?=some (bj w v))(hs:r <:+ w)(hl:ps.length<=100000)(h0:sl[0]?=some (some (.ptr n)))(h1:sl[1]?=some (some (.int d)))(h2:sl[2]?=some (some (.ptr S.length)))
  (hok:∀p r2,P r=some (p,r2)->r2 <:+ w->Q.nx sl (di S n w r2 (ps++[p]))) (lX:P r=none->∀t r2,Q.ex (h4 (.str (aj t))) sl (di S n w r2 ps)) :
  a0 (km (dD iT sJ (eName 2) (ae (cQ "plan" [("TextReader",again)] (eName 0) (ae (aq bC (eName 1) (af (.int 1))) ah)) ah)) sl (di S n w r ps)) Q:=by
 have hp:=JP (again:=again) (sl:=sl) (d:=d) (S2:=di S n w r ps) h0 h1 (JN h);have hg:=vC (di S n w r ps) r hs (JN h);rw[<-hp]at hg;unfold o_ at hg;cases aY:cQ "plan" [("TextReader",again)] (eName 0) (ae (aq bC (eName 1) (af (.int 1))) ah) sl (di S n w r ps)with
 |ok x S2 =>
  rw[aY,aS]at hg;obtain⟨p,r2,e,rfl,jn,rfl⟩:=hg;rw[RG h]at aY;rw[Nu,amY h h2 aY hl,aS];exact hok p r2 e jn
 |ex e S2 =>
  rw[aY,uO]at hg;obtain⟨hn,⟨t,rfl⟩,r2,rfl⟩:=hg;rw[RG h]at aY;have ee:dD iT sJ (eName 2) (ae (cQ "plan" [("TextReader",again)] (eName 0) (ae (aq bC (eName 1) (af (.int 1))) ah)) ah) sl (di S n w r ps)=.ex (h4 (.str (aj t))) (di S n w r2 ps):=by
   unfold dD;rw[aX h2];show(if iT (di S n w r ps) (.ptr S.length)=true then _ else _)=_;rw[if_pos (HS JO)];have ha:=am1 (fa:=ah) aY;rw[ha];rfl
  rw[Nu,ee,uO];exact lX hn t r2
 |bad=>rw[aY,Np]at hg;exact hg.elim
theorem am2{P:hB}{again:aB}{d:Int}(bU:Suf P)(hw:w.length<=1000)(hl:Lo w)(vC:∀(S:Store) (r:List Nat),r <:+ w->S[n]?=some (bj w r)->o_ S n w (P r) (again [.ptr n,.int (d+1)] S))(h:S[n]?=some (bj w r))(hs:r <:+ w):o_ S n w (jo P r) (EC again [.ptr n,.int d] S):=by
 unfold EC o_;refine dF rfl ?_;show a0 (xX again [some (.ptr n),some (.int d),none,none] S) _;unfold xX;have aaW:=(List.getElem?_eq_some_iff.mp h).1;have aaX:Lo dh:=λc hc=>by simp[dh]at hc;omega
 have aaY:Lo eW:=λc hc=>by simp[eW]at hc;omega
 have am3:Lo [41]:=λc hc=>by simp at hc;omega
 refine bF (λsl S1=>∃p1 r1,P r=some (p1,r1)/\r1 <:+ w/\S1=di S n w r1 [p1]/\sl=[some (.ptr n),some (.int d),some (.ptr S.length),none]) ?_ ?_
 .rw[jK,gY,iW,JP (S2:=S) rfl rfl h]
  refine(vC S r hs h).mono ?_ ?_
  .rintro x S1 ⟨p1,r1,e,rfl,oR,rfl⟩
   rw[q3];have:oE [p1.dat bz] (S.set n (bj w r1))=.ok (.ptr S.length) (di S n w r1 [p1]):=by
    unfold oE;rw[if_pos (by simp),List.length_set];rfl
   rw[this,aS,hV];exact⟨p1,r1,e,oR,rfl,rfl⟩
  .rintro e S1 ⟨aY,he,r1,rfl⟩
   obtain⟨t,rfl⟩:=he;dsimp only;rw[pY];refine pZ Av rfl ⟨?_,⟨t,rfl⟩,r1,rfl⟩;unfold jo;rw[aY]
 rintro sl S1 ⟨p1,r1,am4,oR,rfl,rfl⟩;have qs:jo P r=if r1.take dh.length=dh then m_ P .seq dh p1 (r1.drop dh.length)else if r1.take eW.length=eW then m_ P .alt eW p1 (r1.drop eW.length)else none:=by
  unfold jo;rw[am4]
 have hex:∀{sl:aT} {bY:List Nat} {ps:List ag} {Q:hJ},jo P r=none->sl[0]?=some (some (.ptr n))->Q.ex=(sY S (λd ao=>∃p b2,jo P r=some (p,b2)/\d=p.dat bz/\b2 <:+ w/\ao=S.set n (bj w b2)) (λe ao=>jo P r=none/\(∃t,e=h4 (.str (aj t)))/\∃b2,ao=S.set n (bj w b2))).ex->a0 (eL (ak (eo "InvalidText" "InvalidText" ["given"]) (ae (cR "whole" [("TextReader",.fld)] (eName 0)) ah)) sl (di S n w bY ps)) Q:=λ{sl bY ps Q} aY hx mq=>by
  refine RF hx (JN h) ?_;rw[mq,pY];exact RH ⟨w,rfl⟩ ⟨aY,⟨w,rfl⟩,bY,rfl⟩
 have htk:∀{sl:aT} {bY:List Nat} {ps:List ag} {fa:aM} (v:List Nat),sl[0]?=some (some (.ptr n))->bY <:+ w->Lo v->v.length<=100->fa sl (di S n w bY ps)=.ok (.str (aj v)) (di S n w bY ps)->cQ "taken" [("TextReader",iE)] (eName 0) (ae fa ah) sl (di S n w bY ps)=.ok (.bl (decide (bY.take v.length=v))) (di S n w (if bY.take v.length=v then bY.drop v.length else bY) ps):=λ{sl bY ps fa} v hx hr bP Au hf=>by
  rw[aaU hx (JN h) hf hr (by omega) hl bP Au,RG h]
 refine bF (λsl S1=>S1=di S n w (if r1.take dh.length=dh then r1.drop dh.length else r1) [p1]/\sl=[some (.ptr n),some (.int d),some (.ptr S.length),some (.str (Str.ofString (if r1.take dh.length=dh then "seq" else "alt")))]) ?_ ?_
 .have aw:=htk (ps:=[p1]) (fa:=af (.str ", ")) (sl:=[some (.ptr n),some (.int d),some (.ptr S.length),none]) dh rfl oR aaX (by decide) rfl
  have e2:eF (aI (cQ "taken" [("TextReader",iE)] (eName 0) (ae (af (.str ", ")) ah))) (af (.str "seq")) (af (.str "alt")) [some (.ptr n),some (.int d),some (.ptr S.length),none] (di S n w r1 [p1])=.ok (.str (Str.ofString (if r1.take dh.length=dh then "seq" else "alt"))) (di S n w (if r1.take dh.length=dh then r1.drop dh.length else r1) [p1]):=by
   refine bp ?_;rw[Nw,e8,aw,aS,d6];by_cases q:r1.take dh.length=dh
   .rw[decide_eq_true q,if_pos rfl,if_pos q,if_pos q]
    simp
   .rw[decide_eq_false q,if_neg (by simp),if_neg q,if_neg q]
    simp
  rw[jK,e2,aS,hV];exact⟨rfl,rfl⟩
 rintro sl S1 ⟨rfl,rfl⟩;refine bF (λsl S1=>∃(k:aC) (s r2:List Nat),(k=.seq/\s=dh\/k=.alt/\s=eW)/\jo P r=m_ P k s p1 r2/\r2 <:+ w/\S1=di S n w r2 [p1]/\sl=[some (.ptr n),some (.int d),some (.ptr S.length),some (.str (Str.ofString k.word))]) ?_ ?_
 .by_cases q:r1.take dh.length=dh
  .rw[if_pos q]at qs ⊢
   rw[if_pos q,hL,Hx,e8];have eJ:aq (aQ false) (eName 3) (af (.str "alt")) [some (.ptr n),some (.int d),some (.ptr S.length),some (.str (Str.ofString "seq"))] (di S n w (r1.drop dh.length) [p1])=.ok (.bl false) (di S n w (r1.drop dh.length) [p1]):=dr (aX (i:=3) rfl) rfl (bp (by simp));rw[eJ,aS,d6,if_neg (by simp),if_neg (by simp),j5];exact⟨.seq,dh,_,.inl ⟨rfl,rfl⟩,qs,(kL _ _).trans oR,rfl,rfl⟩
  .rw[if_neg q]at qs ⊢
   rw[if_neg q,hL,Hx,e8];have eJ:aq (aQ false) (eName 3) (af (.str "alt")) [some (.ptr n),some (.int d),some (.ptr S.length),some (.str (Str.ofString "alt"))] (di S n w r1 [p1])=.ok (.bl true) (di S n w r1 [p1]):=dr (aX (i:=3) rfl) rfl (bp (by simp));have aw:=htk (ps:=[p1]) (fa:=af (.str " | ")) (sl:=[some (.ptr n),some (.int d),some (.ptr S.length),some (.str (Str.ofString "alt"))]) eW rfl oR aaY (by decide) rfl;rw[eJ,aS,d6,if_pos rfl,nL,e8,aw,aS,d6];by_cases b3:r1.take eW.length=eW
   .rw[if_pos b3]at qs ⊢
    rw[decide_eq_true b3,if_neg (by simp),j5];exact⟨.alt,eW,_,.inr ⟨rfl,rfl⟩,qs,(kL _ _).trans oR,rfl,rfl⟩
   .rw[if_neg b3]at qs ⊢
    rw[decide_eq_false b3,if_pos (by simp)];exact hex qs rfl rfl
 rintro sl S1 ⟨k,s,r2,hk,RJ,jn,rfl,rfl⟩;have zC:Lo s/\s≠[]/\s.length<=100:=by
  rcases hk with⟨_,rfl⟩|⟨_,rfl⟩
  .exact⟨aaX,by decide,by decide⟩
  .exact⟨aaY,by decide,by decide⟩
 have am5:∀S2,eF (aI (aq (aQ false) (eName 3) (af (.str "seq")))) (af (.str ", ")) (af (.str " | ")) [some (.ptr n),some (.int d),some (.ptr S.length),some (.str (Str.ofString k.word))] S2=.ok (.str (aj s)) S2:=λS2=>by
  rcases hk with⟨rfl,rfl⟩|⟨rfl,rfl⟩
  .exact bp (by simp[aC.word,JE])
  .exact bp (by simp[aC.word,JF])
 refine bF (λsl S1=>∃p2 cg,P r2=some (p2,cg)/\cg <:+ w/\S1=di S n w cg [p1,p2]/\sl=[some (.ptr n),some (.int d),some (.ptr S.length),some (.str (Str.ofString k.word))]) ?_ ?_
 .refine aaV vC h jn (by simp) rfl rfl rfl (λp2 cg e rK=>⟨p2,cg,e,rK,rfl,rfl⟩) λe t cg=>?_
  dsimp only;rw[pY];refine RH ⟨t,rfl⟩ ⟨?_,⟨t,rfl⟩,cg,rfl⟩;rw[RJ];unfold m_;rw[e]
 rintro sl S1 ⟨p2,cg,aaZ,rK,rfl,rfl⟩;have Aw:∀ps dk,i7 P s cg.length cg=some (ps,dk)->jo P r=if dk.take 1=[41]then some (.nd k (p1::p2::ps),dk.drop 1)else none:=λps dk e=>by
  rw[RJ];unfold m_;rw[aaZ];dsimp only;rw[e]
 have am6:i7 P s cg.length cg=none->jo P r=none:=λe=>by
  rw[RJ];unfold m_;rw[aaZ];dsimp only;rw[e]
 have axy:=rK.length_le;refine bF (λsl S1=>∃bw dk,i7 P s cg.length cg=some (bw,dk)/\bw.length<=1000/\dk <:+ w/\S1=di S n w dk (p1::p2::bw)/\sl=[some (.ptr n),some (.int d),some (.ptr S.length),some (.str (Str.ofString k.word))]) ?_ ?_
 .refine zq cg.length (λm sl S1=>∃bw bY,i7 P s cg.length cg=(i7 P s m bY).map (λx=>(bw++x.1,x.2))/\bY.length<=m/\bw.length+m<=1000/\bY <:+ w/\S1=di S n w bY (p1::p2::bw)/\sl=[some (.ptr n),some (.int d),some (.ptr S.length),some (.str (Str.ofString k.word))]) ⟨[],cg,by simp,Nat.le_refl _,by simp;omega,rK,rfl,rfl⟩ (by omega) ?_
  rintro m sl S1 ⟨bw,bY,E1,hm,hq,RK,rfl,rfl⟩;have aw:=htk (ps:=p1::p2::bw) (sl:=[some (.ptr n),some (.int d),some (.ptr S.length),some (.str (Str.ofString k.word))]) s rfl RK zC.1 zC.2.2 (am5 _);rw[e8,aw,aS,d6];by_cases q:bY.take s.length=s
  .obtain⟨fS,rfl,iu,am7,lX⟩:=amZ (P:=P) q zC.2.1 hm
   rw[decide_eq_true q,if_pos rfl,if_pos q];refine aaV vC h ((kL _ _).trans RK) (by simp;omega) rfl rfl rfl (λp iP e am8=>⟨fS,by omega,bw++[p],iP,?_,?_,?_,am8,rfl,rfl⟩) λe t iP=>?_
   .rw[E1,am7 p iP e,Option.map_map]
    congr 1;funext x;simp
   .have:=(bU _ _ _ e).length_le
    omega
   .rw[List.length_append,List.length_singleton];omega
   .dsimp only
    rw[pY];refine RH ⟨t,rfl⟩ ⟨?_,⟨t,rfl⟩,iP,rfl⟩;refine am6 ?_;rw[E1,lX e];rfl
  .rw[decide_eq_false q,if_neg (by simp),if_neg q]
   refine⟨bw,bY,?_,by omega,RK,rfl,rfl⟩;rw[E1,am0 q];simp
 rintro sl S1 ⟨bw,dk,E1,hq,aa0,rfl,rfl⟩;have Aw:=Aw bw dk E1;have aw:=htk (ps:=p1::p2::bw) (fa:=af (.str ")")) (sl:=[some (.ptr n),some (.int d),some (.ptr S.length),some (.str (Str.ofString k.word))]) [41] rfl aa0 am3 (by decide) rfl;refine bF (λsl S1=>dk.take 1=[41]/\S1=di S n w (dk.drop 1) (p1::p2::bw)/\sl=[some (.ptr n),some (.int d),some (.ptr S.length),some (.str (Str.ofString k.word))]) ?_ ?_
 .rw[hL,nL,e8,aw,aS,d6]
  by_cases q:dk.take 1=[41]
  .have ej:dk.take [41].length=[41]:=q
   rw[if_pos ej,decide_eq_true ej,if_neg (by simp),j5];exact⟨q,rfl,rfl⟩
  .have ej:¬dk.take [41].length=[41]:=q
   rw[if_neg ej,decide_eq_false ej,if_pos (by simp)];rw[if_neg q]at Aw;exact hex Aw rfl rfl
 rintro sl S1 ⟨q,rfl,rfl⟩;rw[if_pos q]at Aw;have eG:mj (eName 2) ah [some (.ptr n),some (.int d),some (.ptr S.length),some (.str (Str.ofString k.word))] (di S n w (dk.drop 1) (p1::p2::bw))=.ok ((p1::p2::bw).map (ag.dat bz)) (di S n w (dk.drop 1) (p1::p2::bw)):=by
  refine alw (aX (i:=2) rfl) ?_;show dJ _ (.ptr S.length)=_;simp[dJ,d8,JO]
 have Dq:(ag.nd k (p1::p2::bw)).dat bz=.tup (.str (Str.ofString k.word)::(p1::p2::bw).map (ag.dat bz)):=by
  rw[ag.hy];rcases hk with⟨rfl,rfl⟩|⟨rfl,rfl⟩<;>rfl
 have ht:=hv (aE (aX (i:=3) (sl:=[some (.ptr n),some (.int d),some (.ptr S.length),some (.str (Str.ofString k.word))]) rfl) eG) (by simp;omega);refine qo ht ?_;rw[kr,<-Dq];exact uQ Av (m4 m7 _ _) ⟨_,_,Aw,rfl,(kL _ _).trans aa0,rfl⟩
end
section
variable{S S1:Store}{sl:aT}{w r v:List Nat}{n i:Nat}
theorem JQ{a:Nat}(h:a<128):Lo [a]:=λc hc=>by simp at hc;omega
theorem am9{m:Nat}{p q:Int}(h:LT m p q):bz (Rat.divInt p q)=kz p q:=by
 obtain⟨h1,h2⟩:=Qx h.pos (Rat.divInt p q) rfl;unfold bz;rw[<-h1,<-h2,h.num,h.den]
theorem aa1{v:List Nat}{fa:aM}(hx:sl[0]?=some (some (.ptr n)))(h:S[n]?=some (bj w r))(hs:r <:+ w)(hw:w.length<=100000)(ha:fa sl S=.ok (.str (aj v)) S) :
  cQ "run_of" [("TextReader",rG)] (eName 0) (ae fa ah) sl S=.ok (.str (aj (dW v r))) (S.set n (bj w (d1 v r))):=by
 rw[JM (by decide) hx h (aE ha bh)];exact amP h hs hw
theorem ana:Str.ofString "-/0123456789"=aj fH:=by decide +kernel
theorem aa2(h:Lo r){v:List Nat}:Lo (dW v r):=λc hc=>h c (List.takeWhile_subset _ hc)
theorem aa3(h:Lo w)(hs:r <:+ w):Lo r:=λc hc=>h c (hs.subset hc)
theorem aa4(hw:w.length<=1000)(hl:Lo w):∀k,k<=8->∀(S:Store) (r:List Nat),r <:+ w->S[n]?=some (bj w r)->o_ S n w (eX k r) (m6 (k+1) [.ptr n,.int (9 - (k:Int))] S)
 |0,_,S,r,hs,h=>by
  unfold o_;rw[m6];refine dF rfl ?_;show a0 (rH (m6 0) [some (.ptr n),some (.int 9),none,none,none] S) _;unfold rH;refine bF (λ_ _=>False) ?_ (λ_ _ h=>h.elim);rw[hL];have e:aI (aq jd (eName 1) (af (.int 8))) [some (.ptr n),some (.int 9),none,none,none] S=.ok true S:=by rfl
  rw[e,aS,if_pos rfl];refine RF rfl h ?_;dsimp only;rw[pY];refine cx rfl ⟨rfl,⟨w,rfl⟩,r,?_⟩;obtain⟨hn,e⟩:=List.getElem?_eq_some_iff.mp h;rw[<-e,A8]
 |k+1,hk,S,r,hs,h=>by
  have ih:=aa4 hw hl k (by omega);have hd:(9 - ((k+1:Nat):Int))+1=9 - (k:Int):=by omega
  rw[<-hd]at ih;have aa5:¬(8:Int)<9 - ((k+1:Nat):Int):=by omega
  generalize (9 - ((k+1:Nat):Int))=d at ih aa5 ⊢;unfold o_;rw[m6];generalize m6 (k+1)=again at ih ⊢;refine dF rfl ?_;show a0 (rH again [some (.ptr n),some (.int d),none,none,none] S) _;unfold rH;have bU:=aaQ k;have fI:eX (k+1) r=if r.take 1=[91]then vB (eX k) (r.drop 1)else if r.take 1=[40]then jo (eX k) (r.drop 1)else n8 (eX k) r:=rfl
  generalize eX (k+1) r=o at fI ⊢;generalize eX k=P at ih bU fI;have hex:∀{sl:aT} {bY:List Nat} {Q:hJ},o=none->sl[0]?=some (some (.ptr n))->Q.ex=(sY S (λd ao=>∃p b2,o=some (p,b2)/\d=p.dat bz/\b2 <:+ w/\ao=S.set n (bj w b2)) (λe ao=>o=none/\(∃t,e=h4 (.str (aj t)))/\∃b2,ao=S.set n (bj w b2))).ex->a0 (eL (ak (eo "InvalidText" "InvalidText" ["given"]) (ae (cR "whole" [("TextReader",.fld)] (eName 0)) ah)) sl (S.set n (bj w bY))) Q:=λ{sl bY Q} aY hx mq=>by
   refine RF hx (o9 h) ?_;rw[mq,pY];exact pZ Av rfl ⟨aY,⟨w,rfl⟩,bY,rfl⟩
  have htk:∀{sl:aT} {bY:List Nat} {fa:aM} (v:List Nat),sl[0]?=some (some (.ptr n))->bY <:+ w->Lo v->v.length<=100->fa sl (S.set n (bj w bY))=.ok (.str (aj v)) (S.set n (bj w bY))->cQ "taken" [("TextReader",iE)] (eName 0) (ae fa ah) sl (S.set n (bj w bY))=.ok (.bl (decide (bY.take v.length=v))) (S.set n (bj w (if bY.take v.length=v then bY.drop v.length else bY))):=λ{sl bY fa} v hx hr bP Au hf=>by
   rw[aaU hx (o9 h) hf hr (by omega) hl bP Au,uv]
  have vC:∀{bY:List Nat},bY <:+ w->o_ S n w (P bY) (again [.ptr n,.int (d+1)] (S.set n (bj w bY))):=λ{bY} hr=>by
   have:=ih (S.set n (bj w bY)) bY hr (o9 h);unfold o_ at this ⊢;simpa only[uv]using this
  have Ax:∀{p:ag} {bY:List Nat},o=some (p,bY)->bY <:+ w->e3 S (λd ao=>∃p b2,o=some (p,b2)/\d=p.dat bz/\b2 <:+ w/\ao=S.set n (bj w b2)) (p.dat bz) (S.set n (bj w bY)):=λ{p bY} aY hr=>pZ Av (m4 m7 p _) ⟨p,bY,aY,rfl,hr,rfl⟩;have JR:∀{t bY:List Nat},o=none->e3 S (λe ao=>o=none/\(∃t,e=h4 (.str (aj t)))/\∃b2,ao=S.set n (bj w b2)) (h4 (.str (aj t))) (S.set n (bj w bY)):=λ{t bY} aY=>pZ Av rfl ⟨aY,⟨t,rfl⟩,bY,rfl⟩;have bO:S=S.set n (bj w r):=by
   obtain⟨hn,e⟩:=List.getElem?_eq_some_iff.mp h;rw[<-e,A8]
  refine bF (λsl S1=>S1=S.set n (bj w r)/\sl=[some (.ptr n),some (.int d),none,none,none]) ?_ ?_
  .rw[hL]
   have e:aI (aq jd (eName 1) (af (.int 8))) [some (.ptr n),some (.int d),none,none,none] S=.ok false S:=by
    have:aq jd (eName 1) (af (.int 8)) [some (.ptr n),some (.int d),none,none,none] S=.ok (.bl (decide (8<d))) S:=dr (aX (i:=1) rfl) rfl (V7 _ _ _);unfold aI;rw[this,decide_eq_false aa5];rfl
   rw[e,aS,if_neg (by simp),j5];exact⟨bO,rfl⟩
  rintro sl S1 ⟨rfl,rfl⟩;refine bF (λsl S1=>r.take 1≠[91]/\S1=S.set n (bj w r)/\sl=[some (.ptr n),some (.int d),none,none,none]) ?_ ?_
  .have aw:=htk (fa:=af (.str "[")) (sl:=[some (.ptr n),some (.int d),none,none,none]) [91] rfl hs (JQ (by decide)) (by decide) rfl
   rw[hL,e8,aw,aS,d6];by_cases q:r.take 1=[91]
   .have ej:r.take [91].length=[91]:=q
    rw[if_pos q]at fI;rw[decide_eq_true ej,if_pos rfl,if_pos ej];have oR:r.drop 1 <:+ w:=(kL _ _).trans hs;show a0 (aL _ _ _ (S.set n (bj w (r.drop 1)))) _;refine bF (λsl S1=>∃p r2,P (r.drop 1)=some (p,r2)/\r2 <:+ w/\S1=S.set n (bj w r2)/\sl=[some (.ptr n),some (.int d),some ((ag.nd .loop [p]).dat bz),none,none]) ?_ ?_
    .rw[jK,gY,iW]
     show We (Out.ok _ _) _ _;rw[aS,iW,JP (S2:=S.set n (bj w (r.drop 1))) rfl rfl (o9 h)];refine(vC oR).mono ?_ ?_
     .rintro x S1 ⟨p,r2,e,rfl,jn,rfl⟩
      rw[q3,Wx];refine⟨by simp,?_⟩;rw[hV];refine⟨p,r2,e,jn,rfl,?_⟩;rw[ag.hy];rfl
     .rintro e S1 ⟨aY,⟨t,rfl⟩,r2,rfl⟩
      dsimp only;rw[pY];refine JR ?_;rw[fI];unfold vB;rw[aY]
    rintro sl S1 ⟨p,r2,eP,jn,rfl,rfl⟩;have Aj:o=if r2.take 1=[93]then some (.nd .loop [p],r2.drop 1)else none:=by
     rw[fI];unfold vB;rw[eP]
    have e2:=htk (fa:=af (.str "]")) (sl:=[some (.ptr n),some (.int d),some ((ag.nd .loop [p]).dat bz),none,none]) [93] rfl jn (JQ (by decide)) (by decide) rfl;refine bF (λsl S1=>r2.take 1=[93]/\S1=S.set n (bj w (r2.drop 1))/\sl=[some (.ptr n),some (.int d),some ((ag.nd .loop [p]).dat bz),none,none]) ?_ ?_
    .rw[hL,nL,e8,e2,aS,d6]
     by_cases b3:r2.take 1=[93]
     .have E2:r2.take [93].length=[93]:=b3
      rw[if_pos E2,decide_eq_true E2,if_neg (by simp),j5];exact⟨b3,rfl,rfl⟩
     .have E2:¬r2.take [93].length=[93]:=b3
      rw[if_neg E2,decide_eq_false E2,if_pos (by simp)];rw[if_neg b3]at Aj;exact hex Aj rfl rfl
    rintro sl S1 ⟨b3,rfl,rfl⟩;rw[if_pos b3]at Aj;refine qo (aX (i:=2) rfl) ?_;exact Ax Aj ((kL _ _).trans jn)
   .have ej:¬r.take [91].length=[91]:=q
    rw[decide_eq_false ej,if_neg (by simp),if_neg ej,j5];exact⟨q,rfl,rfl⟩
  rintro sl S1 ⟨bN,rfl,rfl⟩;rw[if_neg bN]at fI;refine bF (λsl S1=>r.take 1≠[40]/\S1=S.set n (bj w r)/\sl=[some (.ptr n),some (.int d),none,none,none]) ?_ ?_
  .have aw:=htk (fa:=af (.str "(")) (sl:=[some (.ptr n),some (.int d),none,none,none]) [40] rfl hs (JQ (by decide)) (by decide) rfl
   rw[hL,e8,aw,aS,d6];by_cases q:r.take 1=[40]
   .have ej:r.take [40].length=[40]:=q
    rw[if_pos q]at fI;rw[decide_eq_true ej,if_pos rfl,if_pos ej];have oR:r.drop 1 <:+ w:=(kL _ _).trans hs;have qs:=am2 (n:=n) (S:=S.set n (bj w (r.drop 1))) (d:=d) bU hw hl (λS r hr h=>ih S r hr h) (o9 h) oR;unfold o_ at qs;simp only[uv]at qs;rw[sX,JM (ds:=[.int d]) (by decide) rfl (o9 h) (aE (aX (i:=1) rfl) bh)];refine qs.mono ?_ ?_
    .rintro x S1 ⟨p,r2,e,rfl,jn,rfl⟩
     exact Ax (fI.trans e) jn
    .rintro e S1 ⟨aY,⟨t,rfl⟩,r2,rfl⟩
     exact JR (fI.trans aY)
   .have ej:¬r.take [40].length=[40]:=q
    rw[decide_eq_false ej,if_neg (by simp),if_neg ej,j5];exact⟨q,rfl,rfl⟩
  rintro sl S1 ⟨b3,rfl,rfl⟩;rw[if_neg b3]at fI;have anb:=aa3 hl hs;have ik:d1 abc r <:+ w:=x5.trans hs;refine bF (λsl S1=>S1=S.set n (bj w (d1 abc r))/\sl=[some (.ptr n),some (.int d),none,some (.str (aj (dW abc r))),none]) ?_ ?_
  .have aw:=aa1 (v:=abc) (fa:=af (.str "abcdefghijklmnopqrstuvwxyz")) (sl:=[some (.ptr n),some (.int d),none,none,none]) rfl (o9 h) hs (by omega) (by rw[WM];rfl)
   rw[uv]at aw;rw[jK,aw,aS,hV];exact⟨rfl,rfl⟩
  rintro sl S1 ⟨rfl,rfl⟩;unfold n8 at fI;refine bF (λsl S1=>(dW abc r≠t4/\dW abc r≠t5)/\S1=S.set n (bj w (d1 abc r))/\sl=[some (.ptr n),some (.int d),none,some (.str (aj (dW abc r))),none]) ?_ ?_
  .have aw:aq dy (eName 3) (af (.tup [.str "stay",.str "none"])) [some (.ptr n),some (.int d),none,some (.str (aj (dW abc r))),none] (S.set n (bj w (d1 abc r)))=.ok (.bl (decide (dW abc r=t4\/dW abc r=t5))) (S.set n (bj w (d1 abc r))):=dr (aX (i:=3) rfl) rfl Rf
   rw[hL,e8,aw,aS,d6];by_cases q:dW abc r=t4\/dW abc r=t5
   .rw[decide_eq_true q,if_pos rfl]
    have et:ak bu (ae (eName 3) ah) [some (.ptr n),some (.int d),none,some (.str (aj (dW abc r))),none] (S.set n (bj w (d1 abc r)))=.ok (.tup [.str (aj (dW abc r))]) (S.set n (bj w (d1 abc r))):=hv (aE (aX (i:=3) rfl) bh) (by simp);refine qo et ?_;rcases q with q|q
    .rw[if_pos q]at fI
     have:=Ax fI ik;rw[ag.hy]at this;rw[q];exact this
    .rw[if_neg (by rw[q];decide),if_pos q]at fI
     have:=Ax fI ik;rw[ag.hy]at this;rw[q];exact this
   .rw[decide_eq_false q,if_neg (by simp),j5]
    exact⟨⟨λz=>q (.inl z),λz=>q (.inr z)⟩,rfl,rfl⟩
  rintro sl S1 ⟨⟨n1,n2⟩,rfl,rfl⟩;rw[if_neg n1,if_neg n2]at fI;refine bF (λsl S1=>dW abc r=[]/\S1=S.set n (bj w (d1 abc r))/\sl=[some (.ptr n),some (.int d),none,some (.str (aj (dW abc r))),none]) ?_ ?_
  .have aw:aq (aQ true) (eName 3) (af (.str "")) [some (.ptr n),some (.int d),none,some (.str (aj (dW abc r))),none] (S.set n (bj w (d1 abc r)))=.ok (.bl (!decide (dW abc r=[]))) (S.set n (bj w (d1 abc r))):=dr (aX (i:=3) rfl) rfl (uS (b:=[]) (n5 (aa2 anb)) (by intro c hc;cases hc))
   rw[hL,e8,aw,aS,d6];by_cases q:dW abc r=[]
   .rw[decide_eq_true q,if_neg (by simp),j5]
    exact⟨q,rfl,rfl⟩
   .rw[decide_eq_false q,if_pos (by simp)]
    rw[if_pos q]at fI;have et:ak bu (ae (af (.str "go")) (ae (eName 3) ah)) [some (.ptr n),some (.int d),none,some (.str (aj (dW abc r))),none] (S.set n (bj w (d1 abc r)))=.ok (.tup [.str "go",.str (aj (dW abc r))]) (S.set n (bj w (d1 abc r))):=hv (aE rfl (aE (aX (i:=3) rfl) bh)) (by simp);refine qo et ?_;have:=Ax fI ik;rw[ag.hy]at this;exact this
  rintro sl S1 ⟨za,rfl,rfl⟩;rw[if_neg (by simp[za])]at fI;have sH:d1 fH (d1 abc r) <:+ w:=x5.trans ik;have ND:=aa3 hl ik;generalize k4:d1 abc r=R at fI ik sH ND;have axz:=ik.length_le;have ql:(dW fH R).length<=1000:=by
   have:=(List.takeWhile_prefix (l:=R) (λc=>decide (c∈fH))).length_le;unfold dW;omega
  have aw:=aa1 (v:=fH) (fa:=af (.str "-/0123456789")) (sl:=[some (.ptr n),some (.int d),none,some (.str (aj (dW abc r))),none]) rfl (o9 h) ik (by omega) (by rw[ana];rfl);rw[uv]at aw;have e2:=amf (S:=S.set n (bj w (d1 fH R))) (aa2 (v:=fH) ND) ql;unfold m' at fI;cases hq:fP (dW fH R)with
  |none =>
   rw[hq]at e2 fI;refine bF (λ_ _=>False) ?_ (λ_ _ h=>h.elim);rw[jK,gY,iW,aw,aS,q3,e2];show We (Out.ex _ _) _ _;rw[uO];dsimp only;rw[pY];exact JR fI
  |some t6 =>
   rw[hq]at e2 fI;dsimp only at fI;have e2:tY [.str (aj (dW fH R))] (S.set n (bj w (d1 fH R)))=.ok (bz (Rat.divInt t6.1 t6.2)) (S.set n (bj w (d1 fH R))):=by
    rw[e2,am9 (aad hq)];rfl
   refine bF (λsl S1=>S1=S.set n (bj w (d1 fH R))/\sl=[some (.ptr n),some (.int d),none,some (.str (aj (dW abc r))),some (bz (Rat.divInt t6.1 t6.2))]) ?_ ?_
   .rw[jK,gY,iW,aw,aS,q3,e2,aS,hV]
    exact⟨rfl,rfl⟩
   rintro sl S1 ⟨rfl,rfl⟩;have a6:=htk (fa:=af (.str ":")) (sl:=[some (.ptr n),some (.int d),none,some (.str (aj (dW abc r))),some (bz (Rat.divInt t6.1 t6.2))]) [58] rfl sH (JQ (by decide)) (by decide) rfl;refine bF (λsl S1=>(d1 fH R).take 1=[58]/\S1=S.set n (bj w ((d1 fH R).drop 1))/\sl=[some (.ptr n),some (.int d),none,some (.str (aj (dW abc r))),some (bz (Rat.divInt t6.1 t6.2))]) ?_ ?_
   .rw[hL,nL,e8,a6,aS,d6]
    by_cases e1:(d1 fH R).take 1=[58]
    .have E3:(d1 fH R).take [58].length=[58]:=e1
     rw[if_pos E3,decide_eq_true E3,if_neg (by simp),j5];exact⟨e1,rfl,rfl⟩
    .have E3:¬(d1 fH R).take [58].length=[58]:=e1
     rw[if_neg E3,decide_eq_false E3,if_pos (by simp)];rw[if_neg e1]at fI;exact hex fI rfl rfl
   rintro sl S1 ⟨e1,rfl,rfl⟩;rw[if_pos e1]at fI;have rK:(d1 fH R).drop 1 <:+ w:=(kL _ _).trans sH;rw[sX,gY,iW];show We (Out.ok _ _) _ _;rw[aS,iW,aX (i:=4) rfl,aS,iW,JP (S2:=S.set n (bj w ((d1 fH R).drop 1))) rfl rfl (o9 h)];refine(vC rK).mono ?_ ?_
   .rintro x S1 ⟨p,r2,e,rfl,jn,rfl⟩
    rw[q3,Wx];refine⟨by simp,?_⟩;rw[e]at fI;have:=Ax fI jn;rw[ag.hy]at this;exact this
   .rintro e S1 ⟨aY,⟨t,rfl⟩,r2,rfl⟩
    rw[aY]at fI;exact JR fI
end
section
variable{S S1:Store}{sl:aT}{w r:List Nat}{n i:Nat}{b:Rat->Prop}{P:ag}{isr:aB}{L B:Nat}
structure RL(b:Rat->Prop)(L B:Nat):Prop where
 vA:∀r,b r->vp L r
 dZ:L<=1000
 len:∀r,b r->(cM r.num r.den).length+1<=B
 dx:20<=B
 rd:∀r,b r->fP (cM r.num r.den)=some (r.num,(r.den:Int))
theorem anc(R:RL b L B)(hi:t2 isr b bz)(h:P.ok b)(hs:P.size<=40)(hd:P.dep<=8)(hz:B * P.size<=100000):bI 1 (Jp isr) [P.dat bz] S=.ok (.str (aj P.txt)) S:=by
 refine bp ?_;rw[zp];show a0 (Jp isr [some (P.dat bz)] S) _;unfold Jp;refine bF (λsl S1=>S1=S/\sl=[some (P.dat bz)]) (ER (dG (aE (aX (i:=0) rfl) bh) (Rn m7 hi h hs hd)) ⟨rfl,rfl⟩) ?_;rintro sl S1 ⟨rfl,rfl⟩;refine qo (dG (aE (aX (i:=0) rfl) bh) (amI R.vA R.dZ R.len R.dx P 9 h (by omega) hz S1)) ?_;rw[kr];exact cx rfl ⟨rfl,rfl⟩
theorem ane{m:Str}{g:aB}{fa:du}{ds:List D}(hm:m∉[Str.ofString "whole",Str.ofString "at"])(hx:sl[i]?=some (some (.ptr n)))(h:S[n]?=some (bj w r))(ha:fa sl S=.ok ds S):cQ m [("TextReader",g)] (eName i) fa sl S=g (.ptr n::ds) S:=by
 unfold cQ;rw[aX hx];show(match iR S (.ptr n)with|some (c,ns,_)=>_|none=>_)=_;rw[JH h];dsimp only;rw[if_neg hm];have e:jH [(Str.ofString "TextReader",g)] (Str.ofString "TextReader")=some g:=by simp[jH]
 rw[e];dsimp only;rw[ha];rfl
end
def aC.wfit(b:Rat->Prop):aC->Nat->Prop
 | .go x,n=>n=0/\x≠[]/\(∀c∈x,c∈abc)/\x≠t4/\x≠t5
 | .stay,n=>n=0
 | .none,n=>n=0
 | .loop,n=>n=1
 | .scale r,n=>n=1/\b r
 | .seq,n=>2<=n
 | .alt,n=>2<=n
mutual
def ag.g5(b:Rat->Prop):ag->Prop
 | .nd k cs=>k.wfit b cs.length/\ag.x7 b cs
def ag.x7(b:Rat->Prop):List ag->Prop
 |[]=>True
 |c::cs=>ag.g5 b c/\ag.x7 b cs
end
theorem ag.aa6{b:Rat->Prop}:∀{cs:List ag},ag.x7 b cs↔∀c∈cs,ag.g5 b c
 |[]=>by simp[ag.x7]
 |c::cs=>by rw[ag.x7,ag.aa6 (cs:=cs)];simp
theorem ag.nc{b:Rat->Prop}{k:aC}{cs:List ag}:ag.g5 b (.nd k cs)↔k.wfit b cs.length/\∀c∈cs,ag.g5 b c:=by rw[ag.g5,ag.aa6]
structure kf(r:Rat):Prop where
 lt:LT 200 r.num (r.den:Int)
 rd:fP (cM r.num r.den)=some (r.num,(r.den:Int))
theorem anf{l:List Nat}{q:Int×Int}(h:fP l=some q):kf (Rat.divInt q.1 q.2)/\cM (Rat.divInt q.1 q.2).num (Rat.divInt q.1 q.2).den=l:=by
 have hl:=aad (p:=q.1) (q:=q.2) h;obtain⟨h1,h2⟩:=Qx hl.pos (Rat.divInt q.1 q.2) rfl;rw[hl.num]at h1;rw[hl.den]at h2;have ht:=(Z_ h).1;refine⟨⟨?_,?_⟩,?_⟩
 .rw[<-h1,<-h2];exact hl
 .rw[<-h1,<-h2,ht,h]
 .rw[<-h1,<-h2,ht]
def JS(P:hB)(k:Nat):Prop:=∀l p r,P l=some (p,r)->p.txt++r=l/\p.g5 kf/\p.dep<=k
theorem JT{s r:List Nat}(h:r.take s.length=s):s++r.drop s.length=r:=by
 conv=>rhs;rw[<-List.take_append_drop s.length r,h]
theorem E4{a:Nat}{r:List Nat}(h:r.take 1=[a]):a::r.drop 1=r:=JT (s:=[a]) h
theorem aa7{v r:List Nat}:dW v r++d1 v r=r:=List.takeWhile_append_dropWhile
theorem aa8{v:List Nat}{c:Nat}:∀{l:List Nat},c∈dW v l->c∈v
 |[],h=>by cases h
 |a::l,h=>by
  unfold dW at h;by_cases q:a∈v
  .rw[List.takeWhile_cons_of_pos (by simpa using q)]at h
   rcases fQ.mp h with rfl|h
   .exact q
   .exact aa8 (l:=l) h
  .rw[List.takeWhile_cons_of_neg (by simpa using q)]at h
   cases h
theorem E5{k:Nat}:∀{cs:List ag},(∀c∈cs,c.dep<=k)->ag.deps cs<=k
 |[],_=>by rw[ag.deps];omega
 |c::cs,h=>by
  have:=h c (by simp);have:=E5 (cs:=cs) λd hd=>h d (by simp[hd]);rw[ag.deps];omega
theorem aa9{P:hB}{k:Nat}(bU:JS P k){s:List Nat}:∀{m:Nat} {l r:List Nat} {ps:List ag},i7 P s m l=some (ps,r)->jq s (ps.map ag.txt)++r=l/\∀p∈ps,p.g5 kf/\p.dep<=k
 |0,l,r,ps,h=>by cases h;exact⟨rfl,by simp⟩
 |m+1,l,r,ps,h=>by
  rw[i7]at h;split at h
  .rename_i hq
   split at h
   .rename_i p r2 e
    obtain⟨⟨x,y⟩,hx,bD⟩:=fx.mp h;cases bD;obtain⟨aw,e2⟩:=aa9 bU hx;obtain⟨a6,dA,e5⟩:=bU _ _ _ e;refine⟨?_,?_⟩
    .rw[cF,jq,mC,mC,aw,a6]
     exact JT hq
    .intro q hq
     rcases fQ.mp hq with rfl|hq
     .exact⟨dA,e5⟩
     .exact e2 q hq
   .cases h
  .cases h;exact⟨rfl,by simp⟩
theorem abb{P:hB}{k:Nat}(bU:JS P k){cj:aC}{s:List Nat}{p1 p:ag}{l r:List Nat}(h:m_ P cj s p1 l=some (p,r)):∃cs,1<=cs.length/\p=.nd cj (p1::cs)/\(∀c∈cs,c.g5 kf/\c.dep<=k)/\gL s (cs.map ag.txt)++(41::r)=l:=by
 unfold m_ at h;split at h
 .rename_i p2 r2 e
  split at h
  .rename_i ps cg e2
   split at h
   .rename_i hq
    cases h;obtain⟨a6,dA,e5⟩:=bU _ _ _ e;obtain⟨xk,DB⟩:=aa9 bU e2;refine⟨p2::ps,by simp,rfl,?_,?_⟩
    .intro q hq
     rcases fQ.mp hq with rfl|hq
     .exact⟨dA,e5⟩
     .exact DB q hq
    .rw[E4 hq,cF,JL,mC,xk,a6]
   .cases h
  .cases h
 .cases h
theorem ang{P:hB}{k:Nat}(bU:JS P k):∀l p r,jo P l=some (p,r)->p.txt++r=40::l/\p.g5 kf/\p.dep<=k+1:=λl p r h=>by
 unfold jo at h;split at h
 .rename_i p1 r1 e
  obtain⟨a6,dA,e5⟩:=bU _ _ _ e;split at h
  .rename_i hq
   obtain⟨cs,h1,rfl,h2,aH⟩:=abb bU h;have mU:∀c∈p1::cs,c.g5 kf/\c.dep<=k:=λc hc=>by
    rcases fQ.mp hc with rfl|hc
    .exact⟨dA,e5⟩
    .exact h2 c hc
   refine⟨?_,?_,?_⟩
   .cases cs with
    |nil=>simp at h1
    |cons c cs =>
     rw[ag.m8,cF,cF];simp only[aC.wrap,gL,mC,List.cons_append,yx];rw[cF]at aH;rw[aH,JT hq,a6]
   .rw[ag.nc]
    exact⟨by show 2<=(p1::cs).length;simp;omega,λc hc=>(mU c hc).1⟩
   .rw[ag.dep]
    have:=E5 λc hc=>(mU c hc).2;omega
  .split at h
   .rename_i hq
    obtain⟨cs,h1,rfl,h2,aH⟩:=abb bU h;have mU:∀c∈p1::cs,c.g5 kf/\c.dep<=k:=λc hc=>by
     rcases fQ.mp hc with rfl|hc
     .exact⟨dA,e5⟩
     .exact h2 c hc
    refine⟨?_,?_,?_⟩
    .cases cs with
     |nil=>simp at h1
     |cons c cs =>
      rw[ag.m8,cF,cF];simp only[aC.wrap,gL,mC,List.cons_append,yx];rw[cF]at aH;rw[aH,JT hq,a6]
    .rw[ag.nc]
     exact⟨by show 2<=(p1::cs).length;simp;omega,λc hc=>(mU c hc).1⟩
    .rw[ag.dep]
     have:=E5 λc hc=>(mU c hc).2;omega
   .cases h
 .cases h
theorem RM:∀k,JS (eX k) k
 |0=>λl p r h=>by cases h
 |k+1=>λl p r h=>by
  have ih:=RM k;rw[eX]at h;split at h
  .rename_i hq
   unfold vB at h;split at h
   .rename_i p2 r2 e
    split at h
    .rename_i DY
     cases h;obtain⟨a6,dA,e5⟩:=ih _ _ _ e;refine⟨?_,ag.nc.mpr ⟨rfl,by simpa using dA⟩,?_⟩
     .rw[ag.m8]
      show([91]++p2.txt++[93])++r2.drop 1=l;rw[mC,mC,show[93]++r2.drop 1=r2 from E4 DY,a6];exact E4 hq
     .rw[ag.dep]
      have:=E5 (k:=k) (cs:=[p2]) (by simpa using e5);omega
    .cases h
   .cases h
  .split at h
   .rename_i hq
    obtain⟨aw,e2,a6⟩:=ang ih _ _ _ h;exact⟨aw.trans (E4 hq),e2,a6⟩
   .have f9:=aa7 (v:=abc) (r:=l)
    have qf:∀c∈dW abc l,c∈abc:=λc hc=>aa8 hc;unfold n8 at h;split at h
    .rename_i q
     cases h;rw[q]at f9;exact⟨f9,ag.nc.mpr ⟨rfl,by simp⟩,by rw[ag.dep,ag.deps];omega⟩
    .rename_i bN
     split at h
     .rename_i q
      cases h;rw[q]at f9;exact⟨f9,ag.nc.mpr ⟨rfl,by simp⟩,by rw[ag.dep,ag.deps];omega⟩
     .rename_i b3
      split at h
      .rename_i e1
       cases h;refine⟨?_,ag.nc.mpr ⟨⟨rfl,e1,qf,bN,b3⟩,by simp⟩,by rw[ag.dep,ag.deps];omega⟩;rw[ag.m8];exact f9
      .rename_i e1
       have e1:dW abc l=[]:=by simpa using e1
       rw[e1,yx]at f9;rw[f9]at h;have ru:=aa7 (v:=fH) (r:=l);unfold m' at h;split at h
       .rename_i t6 e
        split at h
        .rename_i DY
         split at h
         .rename_i p2 r2 e2
          cases h;obtain⟨a6,dA,e5⟩:=ih _ _ _ e2;obtain⟨b1,hH⟩:=anf e;refine⟨?_,ag.nc.mpr ⟨⟨rfl,b1⟩,by simpa using dA⟩,?_⟩
          .rw[ag.m8]
           show(cM _ _++[58]++p2.txt)++r=l;rw[hH,mC,mC,a6,show[58]++(d1 fH l).drop 1=d1 fH l from E4 DY];exact ru
          .rw[ag.dep]
           have:=E5 (k:=k) (cs:=[p2]) (by simpa using e5);omega
         .cases h
        .cases h
       .cases h
def ag.jr:ag->Bool
 | .nd (.go x) _=>decide (x.length<=8)
 | .nd .seq cs=>decide (cs.length<=6)
 | .nd .alt cs=>decide (cs.length<=6)
 | .nd _ _=>true
def n9(i:Nat)(q:List Nat×ag):Bool:=decide (40<=i)||(decide (8<=q.1.length) || !q.2.jr)
def t7:Nat->List (List Nat×ag)->Option (List Nat)
 |_,[]=>none
 |i,q::r=>if n9 i q=true then some q.1 else t7 (i+1) r
def ag.chk(P:ag):Option (List Nat):=t7 0 (ag.pre [] P)
def qt(s:List Nat):D:=.ins "InvalidPlan" ["path","tag"] [d0 s,.str "InvalidPlan"]
theorem RN{k:Nat}(s:List Nat):bf k (qt s)=true:=by
 have:=Jj (k:=k) s;simp[qt,this]
section
variable{S:Store}{b:Rat->Prop}{f:Rat->D}{P:ag}{isr:aB}
theorem anh{x:List Nat}(h0:x≠[])(h:∀c∈x,c∈abc)(n1:x≠t4)(n2:x≠t5)(hl:x.length<=100000):vt [.str (aj x)] S=.ok (.bl (decide (x.length<=8))) S:=by
 by_cases tH:x.length<=8
 .rw[decide_eq_true tH]
  exact aam ⟨List.length_pos_iff.mpr h0,tH,h,n1,n2⟩
 .rw[decide_eq_false tH]
  refine bp ?_;unfold vt;refine dF rfl ?_;have a6:¬((x.length:Int)<=8):=by omega
  have dA:((1:Int)<=x.length):=by omega
  show a0 (tV [some (.str (aj x)),none] S) _;unfold tV;refine bF (λ_ _=>False) ?_ (λ_ _ h=>h.elim);simp[a6,dA];omega
theorem RO:∀cs:List ag,cs.length<=ag.sizes cs
 |[]=>by simp
 |c::cs=>by
  have:=RO cs;have:=c.size_pos;rw[ag.sizes,List.length_cons];omega
theorem ani(hi:t2 isr b f)(h:P.g5 b)(hl:P.size<=1000)(ht:P.txt.length<=100000):xT isr [P.dat f] S=.ok (.bl P.jr) S:=by
 obtain⟨k,cs⟩:=P;have hf:=(ag.nc.mp h).1;refine bp ?_;unfold xT;refine dF rfl ?_;have hd:=vw (f:=f) (k:=k) (cs:=cs) (S:=S);rw[ag.hy]at hd ⊢;have hl:cs.length<=1000:=by have:=RO cs;rw[ag.size]at hl;omega
 show a0 (kF isr [_] S) _;cases k with
 |go x =>
  have e:cs=[]:=eO.mp hf.1;subst e;have hn:=anh (S:=S) hf.2.1 hf.2.2.1 hf.2.2.2.1 hf.2.2.2.2 (by rw[ag.m8]at ht;exact ht);simp[kF,hd,d7,aC.word,aC.pay,ag.cs,hn,ag.jr]
 |stay =>
  have e:cs=[]:=eO.mp hf;subst e;simp[kF,hd,d7,aC.word,aC.pay,ag.cs,ag.jr]
 |none =>
  have e:cs=[]:=eO.mp hf;subst e;simp[kF,hd,d7,aC.word,aC.pay,ag.cs,ag.jr]
 |loop =>
  obtain⟨c,rfl⟩:=hR.mp hf;simp[kF,hd,d7,aC.word,aC.pay,ag.cs,ag.jr]
 |scale r =>
  obtain⟨c,rfl⟩:=hR.mp hf.1;have hr:=hi r S hf.2;simp[kF,hd,d7,aC.word,aC.pay,ag.cs,hr,ag.jr]
 |seq =>
  have a6:((2:Int)<=cs.length):=by have:2<=cs.length:=hf;omega
  have dA:((cs.length:Int)<=6)=(cs.length<=6):=by simp;omega
  simp[kF,hd,d7,aC.word,aC.pay,ag.cs,a6,dA,ag.jr];omega
 |alt =>
  have a6:((2:Int)<=cs.length):=by have:2<=cs.length:=hf;omega
  have dA:((cs.length:Int)<=6)=(cs.length<=6):=by simp;omega
  simp[kF,hd,d7,aC.word,aC.pay,ag.cs,a6,dA,ag.jr];omega
theorem anj(aR:∀k r,bf k (f r)=true)(h:P.g5 b)(hl:P.cs.length<=1000):k8 [P.dat f] S=.ok (.lst (P.cs.map (ag.dat f))) S:=by
 obtain⟨k,cs⟩:=P;have hf:=(ag.nc.mp h).1;refine bp ?_;unfold k8;refine dF rfl ?_;have hd:=vw (f:=f) (k:=k) (cs:=cs) (S:=S);rw[ag.hy]at hd ⊢;have f5:bf S.length (.lst (cs.map (ag.dat f)))=true:=Rc aR;have hl:cs.length<=1000:=hl;show a0 (iD [_] S) _;cases k with
 |go x =>
  have e:cs=[]:=eO.mp hf.1;subst e;simp[iD,hd,d7,aC.word,aC.pay,ag.cs];exact cx f5 ⟨rfl,rfl⟩
 |stay =>
  have e:cs=[]:=eO.mp hf;subst e;simp[iD,hd,d7,aC.word,aC.pay,ag.cs];exact cx f5 ⟨rfl,rfl⟩
 |none =>
  have e:cs=[]:=eO.mp hf;subst e;simp[iD,hd,d7,aC.word,aC.pay,ag.cs];exact cx f5 ⟨rfl,rfl⟩
 |loop =>
  obtain⟨c,rfl⟩:=hR.mp hf;simp[iD,hd,d7,aC.word,aC.pay,ag.cs,HF];exact cx f5 ⟨rfl,rfl⟩
 |scale r =>
  obtain⟨c,rfl⟩:=hR.mp hf.1;simp[iD,hd,d7,aC.word,aC.pay,ag.cs,HF];exact cx f5 ⟨rfl,rfl⟩
 |seq =>
  simp[iD,hd,d7,aC.word,aC.pay,ag.cs,vx,oJ];exact cx f5 ⟨rfl,rfl⟩
 |alt =>
  simp[iD,hd,d7,aC.word,aC.pay,ag.cs,vx,oJ];exact cx f5 ⟨rfl,rfl⟩
theorem ank{sl:aT}{s:List Nat}{p:ag}{i j k l:Nat}(aR:∀k r,bf k (f r)=true)(hp:p.g5 b)(hc:p.cs.length<=1000)(hs:s.length<=1000)(hi:sl[i]?=some (some (d0 s)))(cK:sl[j]?=some (some (p.dat f)))(hk:k<sl.length)(hl:l<sl.length)(h1:i≠k)(h2:i≠l)(aH:k≠l) :
  cC (cw (pR (ae (ak k8 (ae (eName j) ah)) ah)) (hj (c1 (aP k) (c1 (aP l) gH))) cv (ak bu (ae (ak bu (mj (eName i) (ae (eName k) ah))) (ae (eName l) ah))) [k,l]) sl S=.ok (.lst ((hA s 0 p.cs).map (g4 f))) S:=by
 have hit:pR (ae (ak k8 (ae (eName j) ah)) ah) sl S=.ok ((p.cs.zipIdx 0).map λq=>.tup [i5 q.2,q.1.dat f],λS2=>eK S2 (.lst (p.cs.map (ag.dat f)))=some (p.cs.map (ag.dat f))) S:=by
  rw[Wn (dG (aE (aX cK) bh) (anj aR hp hc)) (q4 _),Rb]
 rw[o4 (l:=p.cs.zipIdx 0) (row:=λq=>.tup [i5 q.2,q.1.dat f]) (λq=>g4 f (s++[q.2],q.1)) hit (by simp;omega) (λacc=>by simp) (λq hq acc=>?_) (λq hq=>Ew aR _ _),Ao,ov]
 .rfl
 .refine⟨((df sl [k,l]).set k (some (i5 q.2))).set l (some (q.1.dat f)),?_,?_⟩
  .simp[hj,c1,gH,aP]
  .have j6:(((df sl [k,l]).set k (some (i5 q.2))).set l (some (q.1.dat f)))[i]?=some (some (d0 s)):=by
    simp only[df];rw[lx (g8 h2),lx (g8 h1),lx (g8 h1),lx (g8 h2)];exact hi
   have hK:(((df sl [k,l]).set k (some (i5 q.2))).set l (some (q.1.dat f)))[k]?=some (some (i5 q.2)):=by
    simp only[df];rw[lx (g8 aH),mz (by simpa using hk)]
   have dZ:(((df sl [k,l]).set k (some (i5 q.2))).set l (some (q.1.dat f)))[l]?=some (some (q.1.dat f)):=by
    simp only[df];rw[mz (by simpa using hl)]
   have aw:mj (eName i) (ae (eName k) ah) (((df sl [k,l]).set k (some (i5 q.2))).set l (some (q.1.dat f))) (S++[.lst acc])=.ok ((s.map fun(i:Nat)=>D.int (i:Int))++[i5 q.2]) (S++[.lst acc]):=by
    exact aao (aX j6) rfl (aE (aX hK) bh)
   have e2:d0 (s++[q.2])=.tup ((s.map fun(i:Nat)=>D.int (i:Int))++[i5 q.2]):=by
    unfold d0;rw[List.map_append];rfl
   unfold g4;rw[e2];exact hv (aE (hv aw (by simp;omega)) (aE (aX dZ) bh)) (by simp)
theorem RP{s x:List Nat}:∀{xs:List (List Nat)},x∈xs->x.length<=(gL s xs).length
 |[],h=>by cases h
 |[y],h=>by rw[qA.mp h];exact Nat.le_refl _
 |y::z::r,h=>by
  rw[gL];simp only[List.length_append];rcases fQ.mp h with rfl|h
  .omega
  .have:=RP (s:=s) h
   omega
theorem anl{k:aC}{cs:List ag}{c:ag}(h:(ag.nd k cs).g5 b)(hc:c∈cs):c.txt.length<=(ag.nd k cs).txt.length:=by
 have hf:=(ag.nc.mp h).1;have hm:c.txt∈cs.map ag.txt:=List.mem_map_of_mem hc;rw[ag.m8];cases k with
 |go x=>have e:cs=[]:=eO.mp hf.1;subst e;cases hc
 |stay=>have e:cs=[]:=eO.mp hf;subst e;cases hc
 |none=>have e:cs=[]:=eO.mp hf;subst e;cases hc
 |loop =>
  obtain⟨d,rfl⟩:=hR.mp hf;rw[qA.mp hc];simp[aC.wrap];omega
 |scale r =>
  obtain⟨d,rfl⟩:=hR.mp hf.1;rw[qA.mp hc];simp[aC.wrap];omega
 |seq =>
  have:=RP (s:=dh) hm;simp only[aC.wrap,List.length_append];omega
 |alt =>
  have:=RP (s:=eW) hm;simp only[aC.wrap,List.length_append];omega
theorem anm:∀(P:ag) (s:List Nat),P.g5 b->∀p∈ag.pre s P,p.2.g5 b/\p.2.size<=P.size/\p.2.txt.length<=P.txt.length:=by
 refine ag.ind λk cs ih s h p hp=>?_;have hw:=h;rw[ag.pre]at hp;rcases fQ.mp hp with rfl|hp
 .exact⟨h,Nat.le_refl _,Nat.le_refl _⟩
 .have hc:=(ag.nc.mp h).2
  have key:∀(l:List ag) (i:Nat),(∀c∈l,c∈cs)->p∈ag.kd s i l->p.2.g5 b/\p.2.size<=(ag.nd k cs).size/\p.2.txt.length<=(ag.nd k cs).txt.length:=by
   intro l
   induction l with
   |nil=>intro i _ hp;rw[ag.kd]at hp;cases hp
   |cons c l xQ =>
    intro i hl hp;rw[ag.kd]at hp;rcases nh.mp hp with hp|hp
    .have nE:=hl c (by simp)
     obtain⟨h1,h2,aH⟩:=ih c nE (s++[i]) (hc c nE) p hp;have:=ag.EW (k:=k) nE;have:=anl hw nE;exact⟨h1,by omega,by omega⟩
    .exact xQ (i+1) (λd hd=>hl d (by simp[hd])) hp
  exact key cs 0 (λc hc=>hc) hp
theorem RQ(aR:∀k r,bf k (f r)=true)(hi:t2 isr b f)(h:P.g5 b)(hs:P.size<=1000)(ht:P.txt.length<=100000):We (vu isr [P.dat f] S) (λd ao=>P.chk=none/\d=.non/\ao=S) (λe ao=>∃s,P.chk=some s/\e=qt s/\ao=S):=by
 unfold vu;refine dF rfl ?_;show a0 (Ey isr ([some (P.dat f)]++List.replicate 7 none) S) _;unfold Ey;refine bF (λsl S1=>S1=S++[.lst (cI f [([],P)])]/\sl=[some (P.dat f),some (.ptr S.length),some (.int 0),none,none,none,none,none]) ?_ ?_
 .simp
  rfl
 rintro sl S1 ⟨rfl,rfl⟩;refine zq 41 (λk sl S1=>∃i b0 c0 cB b7 cY,k+i=41/\1<=k/\P.chk=t7 i ((ag.pre [] P).drop i)/\S1=S++[.lst (cI f (fY P i))]/\sl=[some (P.dat f),some (.ptr S.length),some (.int ((i:Nat):Int)),b0,c0,cB,b7,cY]) ⟨0,none,none,none,none,none,rfl,by omega,rfl,rfl,rfl⟩ (by omega) ?_;rintro k sl S1 ⟨i,b0,c0,cB,b7,cY,hk,Aj,vD,rfl,rfl⟩;have hg:(S++[dH.lst (cI f (fY P i))])[S.length]?=some (.lst (cI f (fY P i))):=CU rfl;rw[Rh (i:=1) (n:=S.length) rfl hg,aS];have hlen:=ag.vr [] P;by_cases c6:i<(ag.pre [] P).length
 .obtain⟨r,fU⟩:=Ji c6
  rw[List.drop_eq_getElem_cons c6,t7]at vD;generalize hp:(ag.pre [] P)[i]=p at fU vD;obtain⟨s,p⟩:=p;have mO:(s,p)∈ag.pre [] P:=by rw[<-hp];exact v7 _
  obtain⟨hok,eR,ano⟩:=anm P [] h _ mO;simp only at hok eR ano;rw[fU]at hg ⊢;have d5:(cI f ((s,p)::r)=[])=False:=by rw[Jx];simp
  simp only[d5,decide_false,qF,if_true];have aar:r.length<=1000:=by
   have:=QK (P:=P) (i:=i);rw[fU]at this;simp at this;omega
  refine bF (λsl S2=>S2=S++[.lst (cI f r)]/\sl=[some (P.dat f),some (.ptr S.length),some (.int ((i:Nat):Int)),some (d0 s),some (p.dat f),cB,b7,cY]) (Ri (Rk (i:=1) rfl hg) rfl ⟨q8 rfl,rfl⟩) ?_;rintro sl S2 ⟨rfl,rfl⟩;refine bF (λsl S2=>S2=S++[.lst (cI f r)]/\sl=[some (P.dat f),some (.ptr S.length),some (.int ((i+1:Nat):Int)),some (d0 s),some (p.dat f),cB,b7,cY]) ?_ ?_
  .simp
  rintro sl S2 ⟨rfl,rfl⟩;refine bF (λsl S2=>n9 i (s,p)=false/\S2=S++[.lst (cI f r)]/\sl=[some (P.dat f),some (.ptr S.length),some (.int ((i+1:Nat):Int)),some (d0 s),some (p.dat f),cB,b7,cY]) ?_ ?_
  .have a6:=ani (S:=S++[.lst (cI f r)]) hi hok (by omega) (by omega)
   have eJ:d2 (aI (aq jd (eName 2) (af (.int 40)))) (d2 (aI (aq wx (ak cz (ae (eName 3) ah)) (af (.int 8)))) (dc (aI (ak (xT isr) (ae (eName 4) ah))))) [some (P.dat f),some (.ptr S.length),some (.int ((i+1:Nat):Int)),some (d0 s),some (p.dat f),cB,b7,cY] (S++[.lst (cI f r)])=.ok (n9 i (s,p)) (S++[.lst (cI f r)]):=by
    have eS:aI (aq jd (eName 2) (af (.int 40))) [some (P.dat f),some (.ptr S.length),some (.int ((i+1:Nat):Int)),some (d0 s),some (p.dat f),cB,b7,cY] (S++[.lst (cI f r)])=.ok (decide (40<=i)) (S++[.lst (cI f r)]):=Es (dr (aX (i:=2) rfl) rfl (by rw[V7];congr 2;exact decide_eq_decide.mpr (by omega)));have c2:aI (aq wx (ak cz (ae (eName 3) ah)) (af (.int 8))) [some (P.dat f),some (.ptr S.length),some (.int ((i+1:Nat):Int)),some (d0 s),some (p.dat f),cB,b7,cY] (S++[.lst (cI f r)])=.ok (decide (8<=s.length)) (S++[.lst (cI f r)]):=Es (dr (d:=.int (s.length:Int)) (dG (aE (aX (i:=3) rfl) bh) (bp (by simp[d0]))) rfl (by rw[ae3];congr 2;exact decide_eq_decide.mpr (by omega)));have c3:dc (aI (ak (xT isr) (ae (eName 4) ah))) [some (P.dat f),some (.ptr S.length),some (.int ((i+1:Nat):Int)),some (d0 s),some (p.dat f),cB,b7,cY] (S++[.lst (cI f r)])=.ok (!p.jr) (S++[.lst (cI f r)]):=aln (Es (dG (aE (aX (i:=4) rfl) bh) a6));refine bp ?_;unfold n9;rw[uP,eS,aS];by_cases bN:40<=i
    .rw[decide_eq_true bN,if_pos rfl]
     exact⟨rfl,rfl⟩
    .rw[decide_eq_false bN,if_neg (by simp),uP,c2,aS]
     by_cases b3:8<=s.length
     .rw[decide_eq_true b3,if_pos rfl]
      exact⟨rfl,rfl⟩
     .rw[decide_eq_false b3,if_neg (by simp),c3,aS]
      exact⟨rfl,rfl⟩
   rw[hL,eJ,aS];by_cases hb:n9 i (s,p)=true
   .rw[if_pos hb]
    rw[if_pos hb]at vD;rw[O2,gY,aE (aX (i:=3) rfl) bh,aS,O3];refine⟨rfl,?_⟩;show e3 S (λe ao=>∃s,P.chk=some s/\e=qt s/\ao=S) (qt s) (S++[dH.lst (cI f r)]);exact uQ (fz.refl S) (RN s) ⟨s,vD,rfl,rfl⟩
   .rw[if_neg hb,j5]
    exact⟨by simpa using hb,rfl,rfl⟩
  rintro sl S2 ⟨hb,rfl,rfl⟩;rw[hb,if_neg (by simp)]at vD;have axA:i<40/\s.length<8/\p.jr=true:=by
   unfold n9 at hb;simp at hb;exact⟨by omega,by omega,hb.2.2⟩
  have j':p.cs.length<=1000:=by
   obtain⟨cj,cs⟩:=p;have:=RO cs;rw[ag.size]at eR;show cs.length<=_;omega
  refine bF (λsl S2=>S2=S++[.lst (cI f r)]/\sl=[some (P.dat f),some (.ptr S.length),some (.int ((i+1:Nat):Int)),some (d0 s),some (p.dat f),some (.lst ((hA s 0 p.cs).map (g4 f))),b7,cY]) (iB (ank aR hok j' (by omega) (i:=3) (j:=4) rfl rfl (by simp) (by simp) (by omega) (by omega) (by omega)) ⟨rfl,rfl⟩) ?_;rintro sl S2 ⟨rfl,rfl⟩;have aas:(hA s 0 p.cs).length<=1000:=by
   rw[Ao];simpa using j'
  refine ER (Rj (i:=1) (ys:=((hA s 0 p.cs).map (g4 f)).reverse) rfl (CU rfl) (Rl (aX (i:=5) rfl)) (by rw[Rm];simp;omega)) ⟨k - 1,by omega,i+1,some (d0 s),some (p.dat f),_,b7,cY,by omega,by omega,vD,?_,rfl⟩;rw[q8 rfl,fY,fU];obtain⟨cj,cs⟩:=p;show _=S++[dH.lst (cI f (hA s 0 cs++r))]
  rw[Rg];rfl
 .rw[QI (by omega)]
  rw[List.drop_of_length_le (by omega),t7]at vD;simp[aan];exact uQ (fz.refl S) rfl ⟨vD,rfl,rfl⟩
end
open PySem PySem.Spec L2 ZM TL TR
def eY(w:List Nat):Option ag:=match eX 8 w with
 |some (p,r)=>if p.chk.isNone=true/\r=[]then some p else none
 |none=>none
theorem abd:∀cs:List ag,(∀c∈cs,c.size<=c.txt.length)->ag.sizes cs<=((cs.map ag.txt).map List.length).sum
 |[],_=>by rw[ag.sizes];omega
 |c::cs,h=>by
  have h1:=h c (by simp);have h2:=abd cs λd hd=>h d (by simp[hd]);rw[ag.sizes];simp only[cF,r3];omega
theorem RR(s:List Nat):∀xs:List (List Nat),(xs.map List.length).sum<=(gL s xs).length
 |[]=>by simp
 |[x]=>by simp[gL]
 |x::y::r=>by
  have ih:=RR s (y::r);rw[gL];simp only[List.length_append,cF,r3]at ih ⊢;omega
theorem ag.anp{b:Rat->Prop}:∀P:ag,P.g5 b->P.size<=P.txt.length:=by
 refine ag.ind λcj cs ih h=>?_;have hf:=(ag.nc.mp h).1;have hs:=abd cs λc hc=>ih c hc ((ag.nc.mp h).2 c hc);rw[ag.m8,ag.size];cases cj with
 |go x =>
  have e:cs=[]:=eO.mp hf.1;subst e;have:=List.length_pos_iff.mpr hf.2.1;simp only[aC.wrap,ag.sizes];omega
 |stay =>
  have e:cs=[]:=eO.mp hf;subst e;simp[aC.wrap,ag.sizes]
 |none =>
  have e:cs=[]:=eO.mp hf;subst e;simp[aC.wrap,ag.sizes]
 |loop =>
  obtain⟨c,rfl⟩:=hR.mp hf;simp only[aC.wrap,cF,FY,List.length_append,List.length_cons,mB,qB,r3,List.sum_nil]at hs ⊢;omega
 |scale r =>
  obtain⟨c,rfl⟩:=hR.mp hf.1;simp only[aC.wrap,cF,FY,List.length_append,List.length_cons,mB,qB,r3,List.sum_nil]at hs ⊢;omega
 |seq =>
  have:=RR dh (cs.map ag.txt);simp only[aC.wrap,List.length_append,List.length_cons,mB];omega
 |alt =>
  have:=RR eW (cs.map ag.txt);simp only[aC.wrap,List.length_append,List.length_cons,mB];omega
section
variable{S S1:Store}{sl:aT}{w r:List Nat}{n i:Nat}{isr:aB}
theorem anq{tab:List (Str×Bool)}{fb fs:SX}{Q:hJ}(h:a0 (fb sl S) { Q with ex:=λe a' S1=>∃c ns ds,e=.ins c ns ds/\tab.lookup c=some true/\a0 (fs a' S1) Q }):a0 (Ab tab fb fs sl S) Q:=by
 unfold Ab;cases e:fb sl S with
 |nx bK S2=>rw[e]at h;simpa using h
 |ct bK S2=>rw[e]at h;simpa using h
 |bk bK S2=>rw[e]at h;simpa using h
 |rt d S2=>rw[e]at h;simpa using h
 |ex d bK S2 =>
  rw[e,CH]at h;obtain⟨c,ns,ds,rfl,h1,h2⟩:=h;dsimp only;rw[h1];exact h2
 |bad=>rw[e]at h;simp at h
def rL(o:Option ag)(w:List Nat)(S:Store):Out D:=match o with
 |some p=>.ok (p.dat bz) S
 |none=>.ex (h4 (.str (aj w))) S
theorem anr(hi:t2 isr kf bz)(hw:w.length<=1000)(hl:Lo w):bI 3 (Jq isr) [.str (aj w)] S=rL (eY w) w S:=by
 refine Q9 ?_;rw[zp];show a0 (Jq isr [some (.str (aj w)),none,none] S) _;unfold Jq;refine bF (λsl S1=>S1=S/\sl=[some (.str (aj w)),none,none]) ?_ ?_
 .have e:ak dM (ae (eName 0) (ae (af (.ty "str")) ah)) [some (.str (aj w)),none,none] S=.ok (.bl true) S:=bp (by simp)
  exact YJ e ⟨rfl,rfl⟩
 rintro sl S1 ⟨rfl,rfl⟩;refine bF (λsl S2=>S2=S1++[bj w w]/\sl=[some (.str (aj w)),some (.ptr S1.length),none]) ?_ ?_
 .rw[jK,dG (aE (aX (i:=0) rfl) bh) amM,aS,hV]
  exact⟨rfl,rfl⟩
 rintro sl S2 ⟨rfl,rfl⟩;have hg:∀r,(S1++[bj w r])[S1.length]?=some (bj w r):=λr=>by simp
 have eG:∀r,(S1++[bj w w]).set S1.length (bj w r)=S1++[bj w r]:=λr=>by
  rw[List.set_append_right _ _ (Nat.le_refl _),Nat.sub_self];rfl
 have hex:∀{sl:aT} {bY:List Nat} {Q:hJ},eY w=none->sl[0]?=some (some (.str (aj w)))->Q.ex=(sY S1 (λd ao=>rL (eY w) w S1=.ok d ao) (λe ao=>rL (eY w) w S1=.ex e ao)).ex->a0 (eL (ak (eo "InvalidText" "InvalidText" ["given"]) (ae (eName 0) ah)) sl (S1++[bj w bY])) Q:=λ{sl bY Q} aY hx mq=>by
  refine Q8 hx ?_;rw[mq,pY];refine uQ (fz.refl S1) (EL rfl) ?_;rw[aY];rfl
 refine bF (λsl a4=>∃p r,eX 8 w=some (p,r)/\p.chk=none/\r <:+ w/\a4=S1++[bj w r]/\sl=[some (.str (aj w)),some (.ptr S1.length),some (p.dat bz)]) ?_ ?_
 .refine anq ?_
  refine bF (λsl a4=>∃p r,eX 8 w=some (p,r)/\r <:+ w/\a4=S1++[bj w r]/\sl=[some (.str (aj w)),some (.ptr S1.length),some (p.dat bz)]) ?_ ?_
  .have hk:=aa4 (n:=S1.length) (w:=w) hw hl 8 (Nat.le_refl _) (S1++[bj w w]) w (List.suffix_refl _) (hg _)
   rw[jK,ane (i:=1) (ds:=[.int 1]) (by decide) rfl (hg _) (aE rfl bh)];unfold o_ at hk;refine We.mono hk ?_ ?_
   .rintro d a4 ⟨p,r,e,rfl,hr,rfl⟩
    rw[hV];exact⟨p,r,e,hr,eG _,rfl⟩
   .rintro e a4 ⟨aY,⟨t,rfl⟩,r,rfl⟩
    rw[eG];refine⟨_,_,_,rfl,by decide,hex ?_ rfl rfl⟩;unfold eY;rw[aY]
  rintro sl a4 ⟨p,r,e,hr,rfl,rfl⟩;obtain⟨h1,h2,aH⟩:=RM 8 _ _ _ e;have hlen:=congrArg List.length h1;rw[List.length_append]at hlen;have eR:=ag.anp p h2;rw[Nu,gY,aE (aX (i:=2) rfl) bh,aS];refine(RQ m7 hi h2 (by omega) (by omega)).mono ?_ ?_
  .rintro d a4 ⟨hc,rfl,rfl⟩
   exact⟨p,r,e,hc,hr,rfl,rfl⟩
  .rintro d a4 ⟨s,hc,rfl,rfl⟩
   refine⟨_,_,_,rfl,by decide,hex ?_ rfl rfl⟩;unfold eY;rw[e];dsimp only;rw[hc];rfl
 rintro sl a4 ⟨p,r,e,hc,hr,rfl,rfl⟩;have mU:eY w=if r=[]then some p else none:=by
  unfold eY;rw[e];dsimp only;rw[hc];simp
 refine bF (λsl a4=>r=[]/\a4=S1++[bj w r]/\sl=[some (.str (aj w)),some (.ptr S1.length),some (p.dat bz)]) ?_ ?_
 .have RB:=hr.length_le
  have bB:ak cz (ae (eName 0) ah) [some (.str (aj w)),some (.ptr S1.length),some (p.dat bz)] (S1++[bj w r])=.ok (.int (w.length:Int)) (S1++[bj w r]):=bp (by simp;omega);have e:aq lR (cR "at" [("TextReader",.fld)] (eName 1)) (ak cz (ae (eName 0) ah)) [some (.str (aj w)),some (.ptr S1.length),some (p.dat bz)] (S1++[bj w r])=.ok (.bl (!decide (r=[]))) (S1++[bj w r]):=by
   refine dr (Ar (i:=1) rfl (hg _)) bB ?_;rw[V6];congr 2;cases r with
   |nil=>simp
   |cons a r=>simp at RB ⊢;omega
  rw[hL,e8,e,aS,d6];by_cases q:r=[]
  .rw[decide_eq_true q,if_neg (by simp),j5]
   exact⟨q,rfl,rfl⟩
  .rw[decide_eq_false q,if_pos (by simp)]
   rw[if_neg q]at mU;exact hex mU rfl rfl
 rintro sl a4 ⟨q,rfl,rfl⟩;rw[if_pos q]at mU;refine qo (aX (i:=2) rfl) ?_;rw[kr];refine uQ (fz.refl _) (m4 m7 p _) ?_;rw[mU];rfl
end
open PySem PySem.Spec L2 ZM TL TR
theorem abe:∀{L:List (List Nat×ag)} {i:Nat},t7 i L=none->∀(j:Nat) (h:j<L.length),n9 (i+j) L[j]=false
 |[],i,_,j,h=>absurd h (Nat.not_lt_zero j)
 |q::r,i,e,j,h=>by
  rw[t7]at e;by_cases hb:n9 i q=true
  .rw[if_pos hb]at e;cases e
  .rw[if_neg hb]at e
   cases j with
   |zero=>simpa using hb
   |succ j =>
    have:=abe e j (by simpa using h);rw[List.getElem_cons_succ,show i+(j+1)=i+1+j by omega];exact this
theorem abf:∀{L:List (List Nat×ag)} {i:Nat},(∀(j:Nat) (h:j<L.length),n9 (i+j) L[j]=false)->t7 i L=none
 |[],i,_=>rfl
 |q::r,i,h=>by
  have h0:=h 0 (by simp);rw[Nat.add_zero,List.getElem_cons_zero]at h0;rw[t7,h0,if_neg (by simp)];refine abf λj cK=>?_;have:=h (j+1) (by simpa using cK);rw[List.getElem_cons_succ,show i+(j+1)=i+1+j by omega]at this;exact this
theorem ant{b:Rat->Prop}:∀(P:ag) (s:List Nat),P.g5 b->(∀p∈ag.pre s P,p.2.jr=true)->P.ok b:=by
 refine ag.ind λk cs ih s h hp=>?_;obtain⟨hf,hc⟩:=ag.nc.mp h;have h0:=hp (s,.nd k cs) (by rw[ag.pre];simp);have key:∀(l:List ag) (i:Nat),(∀c∈l,c∈cs)->(∀p∈ag.kd s i l,p.2.jr=true)->∀c∈l,c.ok b:=by
  intro l
  induction l with
  |nil=>intro i _ _ c hc;cases hc
  |cons c l xQ =>
   intro i hl IT d hd;rw[ag.kd]at IT;rcases fQ.mp hd with rfl|hd
   .exact ih d (hl d (by simp)) _ (hc d (hl d (by simp))) λp hp=>IT p (nj _ hp)
   .exact xQ (i+1) (λe he=>hl e (by simp[he])) (λp hp=>IT p (KS _ hp)) d hd
 refine ag.i6.mpr ⟨?_,key cs 0 (λc hc=>hc) λp anu=>hp p (by rw[ag.pre];exact iH _ anu)⟩;cases k with
 |go x =>
  have tH:x.length<=8:=by simpa[ag.jr]using h0
  exact⟨hf.1,List.length_pos_iff.mpr hf.2.1,tH,hf.2.2.1,hf.2.2.2.1,hf.2.2.2.2⟩
 |stay=>exact hf
 |none=>exact hf
 |loop=>exact hf
 |scale r=>exact hf
 |seq=>exact⟨hf,by simpa[ag.jr]using h0⟩
 |alt=>exact⟨hf,by simpa[ag.jr]using h0⟩
theorem anv:∀(P:ag) (s:List Nat),∃p∈ag.pre s P,p.1.length+1=s.length+P.dep:=by
 refine ag.ind λk cs ih s=>?_;have key:∀(l:List ag) (i:Nat),(∀c∈l,c∈cs)->l=[]\/∃p∈ag.kd s i l,p.1.length+1=s.length+1+ag.deps l:=by
  intro l
  induction l with
  |nil=>intro i _;exact .inl rfl
  |cons c l xQ =>
   intro i hl;right;rw[ag.kd,ag.deps];obtain⟨p,hp,e⟩:=ih c (hl c (by simp)) (s++[i]);rw[List.length_append,List.length_singleton]at e;have hd:=c.vq;rcases xQ (i+1) (λd hd=>hl d (by simp[hd]))with rfl|⟨q,hq,e2⟩
   .refine⟨p,nj _ hp,?_⟩
    rw[ag.deps];omega
   .by_cases hle:ag.deps l<=c.dep
    .exact⟨p,nj _ hp,by omega⟩
    .exact⟨q,KS _ hq,by omega⟩
 rw[ag.pre,ag.dep];rcases key cs 0 (λc hc=>hc)with rfl|⟨p,hp,e⟩
 .exact⟨_,ow ..,by rw[ag.deps]⟩
 .exact⟨p,iH _ hp,by omega⟩
theorem anw{b:Rat->Prop}{P:ag}(h:P.g5 b)(hc:P.chk=none):P.ok b/\P.size<=40/\P.dep<=8:=by
 have hb:=abe hc;have hlen:=ag.vr [] P;refine⟨ant P [] h λp hp=>?_,?_,?_⟩
 .obtain⟨j,cK,rfl⟩:=List.getElem_of_mem hp
  have:=hb j cK;unfold n9 at this;simp at this;exact this.2.2
 .by_cases hs:P.size<=40
  .exact hs
  .have:=hb 40 (by omega)
   unfold n9 at this;simp at this
 .obtain⟨p,hp,e⟩:=anv P []
  obtain⟨j,cK,rfl⟩:=List.getElem_of_mem hp;have:=hb j cK;unfold n9 at this;simp at this e;omega
theorem anx{b:Rat->Prop}{P:ag}(h:P.ok b)(hs:P.size<=40)(hd:P.dep<=8):P.chk=none:=by
 refine abf λj cK=>?_;have hlen:=ag.vr [] P;obtain⟨h1,h2⟩:=ag.QJ P [] h _ (v7 cK);have tQ:=(ag.pre [] P)[j].2.vq;simp only[mB,Nat.zero_add]at h2 ⊢;have hf:(ag.pre [] P)[j].2.jr=true:=by
  generalize (ag.pre [] P)[j].2=q at h1;obtain⟨k,cs⟩:=q;have hf:=(ag.i6.mp h1).1;cases k with
  |go x=>simpa[ag.jr]using hf.2.le
  |seq=>simpa[ag.jr]using hf.2
  |alt=>simpa[ag.jr]using hf.2
  |_=>rfl
 unfold n9;rw[hf];simp;omega
theorem o':RL kf 200 410 where
 vA r h:=h.lt
 dZ:=by decide
 len r h:=by
  have:=ah3 h.lt.up h.lt.dn;omega
 dx:=by decide
 rd r h:=h.rd
theorem anz{w:List Nat}{p:ag}(h:eY w=some p):p.txt=w/\p.ok kf/\p.size<=40/\p.dep<=8:=by
 unfold eY at h;split at h
 .rename_i p2 r e
  split at h
  .rename_i hq
   cases h;obtain⟨h1,h2⟩:=hq;subst h2;obtain⟨aw,e2,a6⟩:=RM 8 _ _ _ e;rw[rY]at aw;obtain⟨a,c,d⟩:=anw e2 (by simpa using h1);exact⟨aw,a,c,d⟩
  .cases h
 .cases h
theorem JU{b:Rat->Prop}(hb:∀r,b r->fP (cM r.num r.den)=some (r.num,(r.den:Int))){P:ag}(h:P.ok b)(hs:P.size<=40)(hd:P.dep<=8):eY P.txt=some P:=by
 have e:=amT hb P 8 h hd [] (by simp);rw[rY]at e;unfold eY;rw[e];dsimp only;rw[anx h hs hd,if_pos ⟨rfl,rfl⟩]
open PySem PySem.Spec L2 ZM
section
variable{S:Store}{α:Type}{row:α->D}{bw:Nat->List D}{sl:aT}{ge:ZG.xJ}
theorem anA{l:List α}(DC:ge sl S=.ok (l.map row,.done,ZG.o2 (S.length+1) bw,ZG.h3 (S.length+1) bw) S)(gW:ZG.oZ S)(hq:∀j,j<=l.length->bH 0 (bw j)=true)(hl:l.length<=1000000)(aR:∀a,bf 0 (row a)=true):cC (ZG.An ge) sl S=.ok (.lst (l.map row)) S:=by
 obtain⟨T,e⟩:=Ro (S:=S) (sl0:=[none]) (g:=aP 0) (bt:=cv) (fe:=eName 0) (row:=row) (λ_=>true) row gW (λa _=>aR a) l 0 [] (λj cK=>hq j (by omega)) (by simpa using hl) rfl (λa _ T=>⟨[some (row a)],rfl,rfl,λ_=>rfl⟩);rw[KI.mpr λa _=>rfl]at e;refine amv (T:=T) ?_ ?_
 .unfold ZG.An
  rw[DC];simp only[pW];rw[show S++[dH.lst []]=qp S [] 0 bw from rfl,e];simp
 .rw[lV]
  intro d hd;obtain⟨x,hx,rfl⟩:=iI.mp hd;exact sZ (aR x)
end
open PySem PySem.Spec L2
theorem scp{N P:List Str}{sc:Scope}(a:sc.kind=.function:=by rfl)(b:sc.isCoroutine=false:=by rfl)(c:sc.isGenerator=false:=by rfl)(d:N.Nodup:=by decide +kernel)(e:List.take P.length N=P:=by rfl)
  (f:∀x∈P,List.lookup x sc.names=some NameKind.local\/List.lookup x sc.names=some NameKind.cell:=by decide +kernel) (g:∀y∈sc.names,y.snd≠NameKind.free:=by decide +kernel):FnScope N P sc:=⟨a,b,c,d,e,f,g⟩
theorem n_{X:Cx}{W:WX}{sts:List Stmt}{f:SX}(h:Z.Takes X W->PassesOwn (model X.prog X.w) X.A X.env X.xe->gm X W sts f)(t:Z.Takes X W:=by exact Z.takes_of rfl rfl rfl rfl)(p:PassesOwn (model X.prog X.w) X.A X.env X.xe:=by exact passes_of rfl):gm X W sts f:=h t p
theorem bq{j k:Nat}{A:Around}(r:Room k A)(h:j<=k:=by omega):Room j A:=r.mono h
theorem aJ{X:Cx}{W:WX}{a b:Expr}{fa fb:aM}{pos:Pos}{k:Nat}(hr:Room k X.A)(ha:E X W a fa)(hb:E X W b fb)(hs:PlainIx b:=by exact λ_ _=>rfl):E X W (.Subscript a b pos) (aq a7 fa fb):=adJ (aeY hr.units) ha hb hs
theorem gi{P:Program}{w:World}{K:PySem.W.Frag}{mg:Str->Option Value}{base:Heap}{x qual:Str}{params:Arguments}{stb:List Stmt}{scope:Scope}{dvs:List V}{kws:List (Str×V)}{f:Addr}{fd:FuncData}{N ps:List Str}{k:Nat}{body:SX}(F:FunD K x qual params stb scope dvs kws f fd)(Sc:FnScope N ps scope)(hd:Binds K fd ps [])
  (hb:∀{A:Around} {outer:List Env} {s:Shared} {H:Hp} {E:XK},Room k (A.deeper (PyProof.Rows.envOfC qual scope s.heap.objs.size f fd.code))->Z.Takes (cxOf (Z.CX P w) P w K mg base N qual scope f fd.code A outer s H E) (λc d _ H'=>E c d H') ->
   PassesOwn (model (cxOf (Z.CX P w) P w K mg base N qual scope f fd.code A outer s H E).prog (cxOf (Z.CX P w) P w K mg base N qual scope f fd.code A outer s H E).w) (cxOf (Z.CX P w) P w K mg base N qual scope f fd.code A outer s H E).A (cxOf (Z.CX P w) P w K mg base N qual scope f fd.code A outer s H E).env (cxOf (Z.CX P w) P w K mg base N qual scope f fd.code A outer s H E).xe ->
   gm (cxOf (Z.CX P w) P w K mg base N qual scope f fd.code A outer s H E) (λc d _ H'=>E c d H') stb body):aZ P w K mg base (k+1) f (bZ ps.length (bI N.length body)) :=
 sT (tx F Sc λA outer s H E hr=>n_ (hb hr)) hd
section
variable{K:PySem.W.Frag}{x qual:Str}{params:Arguments}{body:List Stmt}{scope:Scope}{kws:List (Str×V)}{f:Addr}{fd:FuncData}{a b c:Str}(F:FunD K x qual params body scope [] kws f fd)
abbrev JV(qual:Str)(x:Str)(params:Arguments)(body:List Stmt)(scope:Scope)(ps:List Str)(us:List Value):Prop:=∀(kV doc pm:Value) (an:Option Addr) (c7 ct:Value),bindArgs (W.fnOf x qual params body scope Value.none kV doc pm an c7 ct) { pos:=us }=pure (ps.zip us)
include F
theorem anB(h:JV qual x params body scope [] []:=by exact λ_ _ _ _ _ _=>rfl):Binds K fd [] []:=F.bindsN λ_ _ _ _ _ _ us hl=>match us,hl with|[],_=>h ..
theorem hC(h:∀u,JV qual x params body scope [a] [u]:=by exact λ_ _ _ _ _ _ _=>rfl):Binds K fd [a] []:=F.bindsN λ_ _ _ _ _ _ us hl=>match us,hl with|[u],_=>h u ..
theorem n'(h:∀u v,JV qual x params body scope [a,b] [u,v]:=by exact λ_ _ _ _ _ _ _ _=>rfl):Binds K fd [a,b] []:=F.bindsN λ_ _ _ _ _ _ us hl=>match us,hl with|[u,v],_=>h u v ..
theorem anC(h:∀u v w,JV qual x params body scope [a,b,c] [u,v,w]:=by exact λ_ _ _ _ _ _ _ _ _=>rfl):Binds K fd [a,b,c] []:=F.bindsN λ_ _ _ _ _ _ us hl=>match us,hl with|[u,v,w],_=>h u v w ..
end
end Z
namespace K32
open PySem PySem.Spec L2 Z PyProof.Rows
def my:dj:=⟨0,zN (fX (ka (i3 (OY (i3 (defBody pF) 2)) 4)) 0),zO (fX (ka (i3 (OY (i3 (defBody pF) 2)) 4)) 0),zP (defScope pF) (fX (ka (i3 (OY (i3 (defBody pF) 2)) 4)) 0),"law.<locals>.<lambda>",[],["_law_bent"]⟩
def oa:dj:=⟨1,zN (fX (fX (ka (i3 (defBody fR) 4)) 0) 0),zO (fX (fX (ka (i3 (defBody fR) 4)) 0) 0),zP (defScope fR) (fX (fX (ka (i3 (defBody fR) 4)) 0) 0),"_law_bounds_so.<locals>.<lambda>",[],["_law_full"]⟩
def oc:dj:=⟨2,zN (fX (fX (ka (i3 (defBody fR) 4)) 0) 1),zO (fX (fX (ka (i3 (defBody fR) 4)) 0) 1),zP (defScope fR) (fX (fX (ka (i3 (defBody fR) 4)) 0) 1),"_law_bounds_so.<locals>.<lambda>",[(V.int 0)],["_law_over"]⟩
def oe:dj:=⟨3,zN (fX (fX (ka (i3 (defBody fR) 4)) 0) 2),zO (fX (fX (ka (i3 (defBody fR) 4)) 0) 2),zP (defScope fR) (fX (fX (ka (i3 (defBody fR) 4)) 0) 2),"_law_bounds_so.<locals>.<lambda>",[(V.int 0)],["_law_deep"]⟩
def pa:dj:=⟨4,zN (fX (fX (fX (ka (i3 (defBody fR) 6)) 0) 0) 0),zO (fX (fX (fX (ka (i3 (defBody fR) 6)) 0) 0) 0),zP (defScope fR) (fX (fX (fX (ka (i3 (defBody fR) 6)) 0) 0) 0),"_law_bounds_so.<locals>.<lambda>",[],["_law_full"]⟩
def la:dj:=⟨5,zN (ka (i3 (defBody s_0) 0)),zO (ka (i3 (defBody s_0) 0)),zP (defScope s_0) (ka (i3 (defBody s_0) 0)),"_law_asker.<locals>.<lambda>",[],["_law_asked"]⟩
def x8(Ps:Nat->Addr)(aU:List (Str×Addr)):aM :=
 (iA 0 (Ps 0) aU la)
def pd(Ps:Nat->Addr):aB:=bZ 1 (vd λaU=>Ec 1 (Eb ["_law_asked"] ["_law_asked"] aU (x8 Ps aU)))
def x9:SX :=
 (aL (bE (aI (aq dy (j_ "tag" ["InvalidRatio","InvalidText","InvalidPlan"] (eName 0)) (ak bu (ae (af (.str "InvalidRatio")) (ae (af (.str "InvalidWorld")) (ae (af (.str "InvalidElement")) (ae (af (.str "InvalidStep")) (ae (af (.str "InvalidLimit")) ah))))))))
 (a8 (j_ "value" ["InvalidRatio"] (eName 0)))
 bG)
 (aL (bE (aI (aq dy (j_ "tag" ["InvalidRatio","InvalidText","InvalidPlan"] (eName 0)) (ak bu (ae (af (.str "InvalidName")) (ae (af (.str "WrongKind")) (ae (af (.str "CircularName")) (ae (af (.str "UnknownName")) ah)))))))
 (a8 oU)
 bG)
 (aL (bE (aI (aq dy (j_ "tag" ["InvalidRatio","InvalidText","InvalidPlan"] (eName 0)) (ak bu (ae (af (.str "InvalidPlan")) (ae (af (.str "EmptyLoop")) ah)))))
 (a8 (j_ "path" ["InvalidPlan"] (eName 0)))
 bG)
 (aL (bE (aI (aq dy (j_ "tag" ["InvalidRatio","InvalidText","InvalidPlan"] (eName 0)) (ak bu (ae (af (.str "TooMany")) (ae (af (.str "CapacityExceeded")) ah)))))
 (a8 oU)
 bG)
 (aL (bE (aI (aq dy (j_ "tag" ["InvalidRatio","InvalidText","InvalidPlan"] (eName 0)) (ak bu (ae (af (.str "InvalidText")) (ae (af (.str "InvalidProgram")) ah)))))
 (a8 (eF (aI (aq (aQ false) (j_ "tag" ["InvalidRatio","InvalidText","InvalidPlan"] (eName 0)) (af (.str "InvalidText")))) (j_ "given" ["InvalidText"] (eName 0)) oU))
 bG)
 (aL (bE (aI (aq dy (j_ "tag" ["InvalidRatio","InvalidText","InvalidPlan"] (eName 0)) (ak bu (ae (af (.str "InUse")) (ae (af (.str "Breaks")) ah)))))
 (a8 (eF (aI (aq (aQ false) (j_ "tag" ["InvalidRatio","InvalidText","InvalidPlan"] (eName 0)) (af (.str "InUse")))) oU (ak bu (ae oU (ae oU ah)))))
 bG)
 (aL (bE (aI (aq dy (j_ "tag" ["InvalidRatio","InvalidText","InvalidPlan"] (eName 0)) (ak bu (ae (af (.str "InvalidCommand")) (ae (af (.str "InvalidPage")) ah)))))
 (a8 (eF (aI (aq (aQ false) (j_ "tag" ["InvalidRatio","InvalidText","InvalidPlan"] (eName 0)) (af (.str "InvalidCommand")))) oU oU))
 bG)
 (a8 (eF (aI (aq (aQ false) (j_ "tag" ["InvalidRatio","InvalidText","InvalidPlan"] (eName 0)) (af (.str "InvalidReader")))) oU (af .non))))))))))
def x':aB:=bZ 1 (bI 1 x9)
def E6:SX :=
 (aL (bE (d2 (dc (aI (ak dM (ae (eName 0) (ae (af (.ty "tuple")) ah))))) (d2 (aI (aq (aQ false) (ak cz (ae (eName 0) ah)) (af (.int 0)))) (dc (aI (ak dM (ae (aq a7 (eName 0) (af (.int 0))) (ae (af (.ty "str")) ah)))))))
 (a8 (af (.bl false)))
 bG)
 (aL (bE (aI (aq dy (aq a7 (eName 0) (af (.int 0))) (af (.tup [.str "stay",.str "none"]))))
 (a8 (aq (aQ false) (ak cz (ae (eName 0) ah)) (af (.int 1))))
 bG)
 (aL (bE (aI (aq (aQ false) (aq a7 (eName 0) (af (.int 0))) (af (.str "go"))))
 (a8 (gn (aq (aQ false) (ak cz (ae (eName 0) ah)) (af (.int 2))) (ak vt (ae (aq a7 (eName 0) (af (.int 1))) ah))))
 bG)
 (aL (bE (aI (aq dy (aq a7 (eName 0) (af (.int 0))) (ak bu (ae (af (.str "seq")) (ae (af (.str "alt")) ah)))))
 (a8 (oC kS kS (af (.int 2)) (aq kR (ak cz (ae (eName 0) ah)) (af (.int 1))) (af (.int 6))))
 bG)
 (aL (bE (aI (aq (aQ false) (aq a7 (eName 0) (af (.int 0))) (af (.str "loop"))))
 (a8 (aq (aQ false) (ak cz (ae (eName 0) ah)) (af (.int 2))))
 bG)
 (a8 (gn (aq (aQ false) (aq a7 (eName 0) (af (.int 0))) (af (.str "scale"))) (gn (aq (aQ false) (ak cz (ae (eName 0) ah)) (af (.int 3))) (ak (vb [("Ratio",["Ratio"],[])]) (ae (aq a7 (eName 0) (af (.int 1))) (ae (af (.cls "Ratio")) ah)))))))))))
def RU:aB:=bZ 1 (bI 1 E6)
def rM:SX :=
 (aL (qM 1 2 (ae (ak oE (ae (ak bu (ae (ak bu ah) (ae (eName 0) ah))) ah)) (ae (af (.int 0)) ah)))
 (qN (aI (aq (eu (aQ true) (eqO true ["Ratio"] [("Ratio",rm)] 12)) (eName 1) (ak d_ ah)))
 (aL (bJ (dD iT sL (eName 1) ah) (hj (c1 (aP 3) (c1 (aP 4) gH))))
 (aL (uN 2 (λi j=>i+j) (af (.int 1)))
 (aL (bE (d2 (aI (aq jd (eName 2) (af (.int 40)))) (d2 (aI (aq wx (ak cz (ae (eName 3) ah)) (af (.int 8)))) (dc (aI (ak RU (ae (eName 4) ah))))))
 (eL (ak (eo "InvalidPlan" "InvalidPlan" ["path"]) (ae (eName 3) ah)))
 bG)
 (aL (bJ (cC (cw (pR (ae (ak k8 (ae (eName 4) ah)) ah)) (hj (c1 (aP 6) (c1 (aP 7) gH))) cv (ak bu (ae (ak bu (mj (eName 3) (ae (eName 6) ah))) (ae (eName 7) ah))) [6,7])) (aP 5))
 (km (dD iT uL (eName 1) (ae (xv false (eName 5)) ah)))))))))
def g6:aB:=bZ 1 (bI 8 rM)
def ya:SX :=
 (aL (km (ak g6 (ae (eName 0) ah)))
 (a8 (ak QP (ae (eName 0) ah))))
def yb:aB:=bZ 1 (bI 1 ya)
def qm:SX :=
 (aL (bE (d2 (dc (aI (oC kS kS (af (.int 1)) (ak cz (ae (eName 0) ah)) (af (.int 30))))) (dc (aI (ak mM (ae (cC (cw (ey (eName 0)) (aP 1) cv (aq dy (eName 1) (af (.str "0123456789"))) [1])) ah)))))
 (a8 (af (.bl false)))
 bG)
 (a8 (uB (aq (aQ false) (eName 0) (af (.str "0"))) (aq (aQ true) (aq a7 (eName 0) (af (.int 0))) (af (.str "0"))))))
def o6:aB:=bZ 1 (bI 2 qm)
def tX:SX :=
 (a8 (uB (ak o6 (ae (eName 0) ah)) (gn (aq (aQ false) (e0 false (eName 0) fN (ec (af (.int 1)))) (af (.str "-"))) (gn (aq (aQ true) (eName 0) (af (.str "-0"))) (ak o6 (ae (e0 false (eName 0) (ec (af (.int 1))) fN) ah))))))
def xU:aB:=bZ 1 (bI 1 tX)
def xV:SX :=
 (aL (bE (dc (aI (ak dM (ae (eName 0) (ae (af (.ty "str")) ah)))))
 (eL (ak (eo "InvalidText" "InvalidText" ["given"]) (ae (eName 0) ah)))
 bG)
 (aL (bJ (dD il xA (eName 0) (ae (af (.str "/")) ah)) (hj (c1 (aP 1) (c1 (aP 2) (c1 (aP 3) gH)))))
 (aL (bE (d2 (dc (aI (ak xU (ae (eName 1) ah)))) (lE (aI (aq (aQ true) (eName 2) (af (.str "")))) (d2 (dc (aI (ak o6 (ae (eName 3) ah)))) (aI (aq (aQ false) (eName 3) (af (.str "0")))))))
 (eL (ak (eo "InvalidText" "InvalidText" ["given"]) (ae (eName 0) ah)))
 bG)
 (aL (bJ (cC (ak (pT "Ratio" zY) (ae (ak nX (ae (eName 1) ah)) (ae (eF (aI (aq (aQ true) (eName 2) (af (.str "")))) (ak nX (ae (eName 3) ah)) (af (.int 1))) ah)))) (aP 4))
 (aL (bE (aI (aq (aQ true) (cQ "text" [("Ratio",rn)] (eName 4) ah) (eName 0)))
 (eL (ak (eo "InvalidText" "InvalidText" ["given"]) (ae (eName 0) ah)))
 bG)
 (a8 (eName 4)))))))
def tY:aB:=bZ 1 (bI 5 xV)
def rH(again:aB):SX :=
 (aL (bE (aI (aq jd (eName 1) (af (.int 8))))
 (eL (ak (eo "InvalidText" "InvalidText" ["given"]) (ae (cR "whole" [("TextReader",.fld)] (eName 0)) ah)))
 bG)
 (aL (bE (aI (cQ "taken" [("TextReader",iE)] (eName 0) (ae (af (.str "[")) ah)))
 (aL (bJ (ak bu (ae (af (.str "loop")) (ae (cQ "plan" [("TextReader",again)] (eName 0) (ae (aq bC (eName 1) (af (.int 1))) ah)) ah))) (aP 2))
 (aL (bE (dc (aI (cQ "taken" [("TextReader",iE)] (eName 0) (ae (af (.str "]")) ah))))
 (eL (ak (eo "InvalidText" "InvalidText" ["given"]) (ae (cR "whole" [("TextReader",.fld)] (eName 0)) ah)))
 bG)
 (a8 (eName 2))))
 bG)
 (aL (bE (aI (cQ "taken" [("TextReader",iE)] (eName 0) (ae (af (.str "(")) ah)))
 (a8 (cQ "row" [("TextReader",(EC again))] (eName 0) (ae (eName 1) ah)))
 bG)
 (aL (bJ (cQ "run_of" [("TextReader",rG)] (eName 0) (ae (af (.str "abcdefghijklmnopqrstuvwxyz")) ah)) (aP 3))
 (aL (bE (aI (aq dy (eName 3) (af (.tup [.str "stay",.str "none"]))))
 (a8 (ak bu (ae (eName 3) ah)))
 bG)
 (aL (bE (aI (aq (aQ true) (eName 3) (af (.str ""))))
 (a8 (ak bu (ae (af (.str "go")) (ae (eName 3) ah))))
 bG)
 (aL (bJ (ak tY (ae (cQ "run_of" [("TextReader",rG)] (eName 0) (ae (af (.str "-/0123456789")) ah)) ah)) (aP 4))
 (aL (bE (dc (aI (cQ "taken" [("TextReader",iE)] (eName 0) (ae (af (.str ":")) ah))))
 (eL (ak (eo "InvalidText" "InvalidText" ["given"]) (ae (cR "whole" [("TextReader",.fld)] (eName 0)) ah)))
 bG)
 (a8 (ak bu (ae (af (.str "scale")) (ae (eName 4) (ae (cQ "plan" [("TextReader",again)] (eName 0) (ae (aq bC (eName 1) (af (.int 1))) ah)) ah)))))))))))))
def m6:Nat->aB
 |0=>λ_ _=>.bad
 |k+1=>bZ 2 (bI 5 (rH (m6 k)))
def Jo:aB:=m6 9
def og:SX :=
 (aL (bE (dc (aI (ak dM (ae (eName 0) (ae (af (.ty "str")) ah)))))
 (eL (ak (eo "InvalidText" "InvalidText" ["given"]) (ae (eName 0) ah)))
 bG)
 (aL (bJ (ak (pT "TextReader" xW) (ae (eName 0) ah)) (aP 1))
 (aL (Ab [("InvalidRatio",true),("InvalidText",true),("InvalidPlan",true)]
 (aL (bJ (cQ "plan" [("TextReader",Jo)] (eName 1) (ae (af (.int 1)) ah)) (aP 2))
 (km (ak g6 (ae (eName 2) ah))))
 (eL (ak (eo "InvalidText" "InvalidText" ["given"]) (ae (eName 0) ah))))
 (aL (bE (aI (aq lR (cR "at" [("TextReader",.fld)] (eName 1)) (ak cz (ae (eName 0) ah))))
 (eL (ak (eo "InvalidText" "InvalidText" ["given"]) (ae (eName 0) ah)))
 bG)
 (a8 (eName 2))))))
def jar:aB:=bZ 1 (bI 3 og)
def E7:aB:=u' [] (ak jar (ae (eName 0) ah))
def E8:aB:=u' [] (ak g6 (ae (eName 0) ah))
def E9:aB:=u' [(.int 0)] (ak g6 (ae (eName 0) ah))
def E_:aB:=u' [(.int 0)] (ak g6 (ae (ak bu (ae (af (.str "loop")) (ae (ak jar (ae (eName 0) ah)) ah))) ah))
def E':aB:=u' [] (aq (aQ false) (ak jar (ae (ak yb (ae (eName 0) ah)) ah)) (eName 0))
def Fb:aB:=u' [] (ak jar (ae (eName 0) ah))
def pe(Ps:Nat->Addr):dj->Option aB:=rl my E7 (rl oa E8 (rl oc E9 (rl oe E_ (rl pa E' (rl la Fb (X0))))))
def rN(Ps:Nat->Addr):SX :=
 (Dl [("InvalidRatio",true),("InvalidText",true),("InvalidPlan",true)] 1
 (a8 (ak bu (ae (af (.str "value")) (ae (Dz (pe Ps) 0) ah))))
 (a8 (ak bu (ae (j_ "tag" ["InvalidRatio","InvalidText","InvalidPlan"] (eName 1)) (ae (ak x' (ae (eName 1) ah)) ah)))))
def kG(Ps:Nat->Addr):aB:=bZ 1 (bI 2 (rN Ps))
def vE(Ps:Nat->Addr):SX :=
 (a8 (cC (cw (ey (eName 0)) (aP 1) cv (ak (kG Ps) (ae (eName 1) ah)) [1])))
def oh(Ps:Nat->Addr):aB:=bZ 1 (bI 2 (vE Ps))
def RV:SX :=
 (aL (km (ak g6 (ae (eName 0) ah)))
 (bJ (ak oE (ae (ak bu (ae (ak bu ah) (ae (eName 0) ah))) ah)) (aP 1)))
def RW:cJ :=
 (aI (aq (eu (aQ true) (eqO true ["Ratio"] [("Ratio",rm)] 12)) (eName 1) (ak d_ ah)))
def RX:SX :=
 (bJ (dD iT sL (eName 1) ah) (hj (c1 (aP 2) (c1 (aP 3) gH))))
def RY:aM :=
 (ak bu (ae (eName 2) (ae (eName 3) ah)))
def R0:SX :=
 (aL (bJ (cC (cw (pR (ae (ak k8 (ae (eName 3) ah)) ah)) (hj (c1 (aP 5) (c1 (aP 6) gH))) cv (ak bu (ae (ak bu (mj (eName 2) (ae (eName 5) ah))) (ae (eName 6) ah))) [5,6])) (aP 4))
 (km (dD iT uL (eName 1) (ae (xv false (eName 4)) ah))))
def R1:ZG.xM:=ZG.xO 1 7 RV RW RX RY R0
def EV(off:Nat):du->ZG.xJ:=ZG.xN off 1 [] R1
def t8(Ps:Nat->Addr)(aU:List (Str×Addr)):SX :=
 (aL (bJ (aq bC (ak bu (ae (af (.str "seq")) ah)) (aq D6 (ak bu (ae (ak bu (ae (af (.str "go")) (ae (af (.str "a")) ah))) ah)) (af (.int 6)))) (aP 0))
 (aL (bJ (ak bu (ae (af (.str "alt")) (ae (eName 0) (ae (eName 0) (ae (eName 0) (ae (eName 0) (ae (eName 0) (ae (ak bu (ae (af (.str "seq")) (ae (ak bu (ae (af (.str "go")) (ae (af (.str "a")) ah))) (ae (ak bu (ae (af (.str "go")) (ae (af (.str "a")) ah))) (ae (ak bu (ae (af (.str "go")) (ae (af (.str "b")) ah))) ah))))) ah)))))))) (aP 1))
 (aL (bJ (aq bC (e0 false (eName 1) fN (ec (af (.int 6)))) (ak bu (ae (ak bu (ae (af (.str "seq")) (ae (ak bu (ae (af (.str "go")) (ae (af (.str "a")) ah))) (ae (ak bu (ae (af (.str "go")) (ae (af (.str "a")) ah))) (ae (ak bu (ae (af (.str "go")) (ae (af (.str "b")) ah))) (ae (ak bu (ae (af (.str "go")) (ae (af (.str "b")) ah))) ah)))))) ah))) (aP 2))
 (aL (bJ (aq bC (aq bC (aq kA (af (.str "[")) (af (.int 7))) (af (.str "a"))) (aq kA (af (.str "]")) (af (.int 7)))) (aP 3))
 (aL (bJ (nS ["_law_full","_law_over","_law_deep"] ["_law_row","_law_full","_law_over","_law_deep","_law_told","_law_due","_law_late","_law_wrong","_law_one"] aU (oh Ps) (ae (ak d_ (ae (iA 1 (Ps 1) aU oa) (ae (iA 1 (Ps 1) aU oc) (ae (iA 1 (Ps 1) aU oe) ah)))) ah)) (aP 4))
 (aL (bJ (ak d_ (ae (ak bu (ae (af (.str "value")) (ae (af .non) ah))) (ae (ak bu (ae (af (.str "InvalidPlan")) (ae (ak bu (ae (af (.int 5)) (ae (af (.int 3)) ah))) ah))) (ae (ak bu (ae (af (.str "InvalidPlan")) (ae (aq D6 (ak bu (ae (af (.int 0)) ah)) (af (.int 8))) ah))) ah)))) (aP 5))
 (aL (bJ (ak d_ (ae (aq a7 (nS ["_law_full","_law_over","_law_deep"] ["_law_row","_law_full","_law_over","_law_deep","_law_told","_law_due","_law_late","_law_wrong","_law_one"] aU (kG Ps) (ae (iA 1 (Ps 1) aU pa) ah)) (af (.int 1))) (ae (ak cz (ae (cC (ZG.An (EV 1 (ae (eName 1) ah)))) ah)) ah))) (aP 6))
 (aL (bJ (nS ["_law_full","_law_over","_law_deep"] ["_law_row","_law_full","_law_over","_law_deep","_law_told","_law_due","_law_late","_law_wrong","_law_one"] aU (oh Ps) (ae (ak d_ (ae (ak (pd Ps) (ae (ak tW (ae (eName 2) ah)) ah)) (ae (ak (pd Ps) (ae (aq bC (aq bC (af (.str "[")) (eName 3)) (af (.str "]"))) ah)) ah))) ah)) (aP 7))
 (a8 (gn (ak q6 (ae (eName 4) (ae (eName 5) ah))) (gn (ak q6 (ae (eName 6) (ae (ak d_ (ae (af (.bl true)) (ae (af (.int 40)) ah))) ah))) (aq (aQ false) (cC (cw (ey (eName 7)) (aP 8) cv (aq a7 (eName 8) (af (.int 0))) [8])) (aq kA (ak d_ (ae (af (.str "InvalidText")) ah)) (af (.int 2)))))))))))))))
def Ay(Ps:Nat->Addr):aB:=bZ 0 (vd λaU=>bI 9 (t8 Ps aU))
def vF(again:aB):SX :=
 (aL (bJ (ak Ca (ae (cC (cw (ey (ak rD (ae (eName 0) ah))) (aP 2) cv (ak again (ae (eName 2) ah)) [2])) ah)) (aP 1))
 (aL (bE (aI (aq (aQ false) (aq a7 (eName 0) (af (.int 0))) (af (.str "scale"))))
 (a8 (ak bu (ae (af (.str "scale")) (ae (ak tF (ae (aq a7 (eName 0) (af (.int 1))) ah)) (ae (aq a7 (eName 1) (af (.int 0))) ah)))))
 bG)
 (a8 (eF (aI (aq (eu (aQ false) vj) (eName 1) (ak bu ah))) (eName 0) (aq bC (ak bu (ae (aq a7 (eName 0) (af (.int 0))) ah)) (eName 1))))))
def vG:Nat->aB
 |0=>λ_ _=>.bad
 |k+1=>bZ 1 (bI 3 (vF (vG k)))
def R3:aB:=vG 9
def rO(Ps:Nat->Addr)(aU:List (Str×Addr)):SX :=
 (aL (bJ (ak CO (ae (eName 0) ah)) (aP 1))
 (aL (bJ (ak Ex (ae (eName 1) (ae (af (.int 3)) ah))) (aP 2))
 (aL (uE (pP (ae (af (.int 8)) ah)) (aP 3)
 (aL (bJ (ak tW (ae (ak ZU (ae (eName 1) (ae (eName 2) (ae (aq bC (af (.int 1)) (ak iy (ae (eName 1) (ae (af (.int 8)) ah)))) ah)))) ah)) (aP 4))
 (aL (bJ (ak j7 (ae (eName 1) (ae (ak d_ (ae (af (.str "")) (ae (af (.str " ")) (ae (af (.str ",")) (ae (af (.str "|")) (ae (af (.str "(")) (ae (af (.str ")")) (ae (af (.str "[")) (ae (af (.str "]")) (ae (af (.str ":")) (ae (af (.str "a")) (ae (af (.str "A")) (ae (af (.str ", ")) (ae (af (.str " | ")) (ae (af (.str "1:")) (ae (af (.str "0")) ah)))))))))))))))) ah))) (aP 5))
 (aL (bJ (ak iy (ae (eName 1) (ae (aq bC (ak cz (ae (eName 4) ah)) (af (.int 1))) ah))) (aP 6))
 (aL (bJ (aq bC (aq bC (e0 false (eName 4) fN (ec (eName 6))) (eName 5)) (e0 false (eName 4) (ec (aq bC (eName 6) (ak iy (ae (eName 1) (ae (af (.int 2)) ah))))) fN)) (aP 7))
 (aL (bJ (nS ["_law_bent"] ["_law_script","_law_bag_here","_law_names","_law_turn","_law_shown","_law_sign","_law_at","_law_bent","_law_told","_law_odd","_law_far","_law_one"] aU (kG Ps) (ae (iA 2 (Ps 2) aU my) ah)) (aP 8))
 (bE (aI (aq (aQ false) (aq a7 (eName 8) (af (.int 0))) (af (.str "value"))))
 (bE (aI (aq (aQ true) (ak tW (ae (ak R3 (ae (aq a7 (eName 8) (af (.int 1))) ah)) ah)) (eName 7)))
 (a8 (af (.bl false)))
 bG)
 (bE (d2 (dc (aI (ak q6 (ae (eName 8) (ae (ak bu (ae (af (.str "InvalidText")) (ae (eName 7) ah))) ah))))) (aI (aq (aQ false) (eName 7) (eName 4))))
 (a8 (af (.bl false)))
 bG))))))))
 (aL (bJ (ak d_ (ae (af (.str "")) (ae (af (.str " ")) (ae (af (.str "()")) (ae (af (.str "(a)")) (ae (af (.str "(a,b)")) (ae (af (.str "(a , b)")) (ae (af (.str "(a, b")) (ae (af (.str "a, b")) (ae (af (.str "a | b")) (ae (af (.str "(a|b)")) (ae (af (.str "(a, b | c)")) (ae (af (.str "[]")) (ae (af (.str "[a")) (ae (af (.str "a]")) ah))))))))))))))) (aP 9))
 (aL (bJ (aq bC (eName 9) (ak d_ (ae (af (.str "1:")) (ae (af (.str ":a")) (ae (af (.str "1a")) (ae (af (.str "2/4:a")) (ae (af (.str "-0:a")) (ae (af (.str "01:a")) (ae (af (.str "1/1:a")) (ae (af (.str "1 :a")) (ae (af (.str "1: a")) (ae (af (.str "abcdefghi")) (ae (af (.str "A")) (ae (af (.str "a b")) (ae (af (.str "[a][b]")) ah))))))))))))))) (aP 9))
 (aL (bJ (aq bC (eName 9) (ak d_ (ae (af (.str "(a, b, a, b, a, b, a)")) (ae (af (.str "(a | b | a | b | a | b | a)")) (ae (aq kA (af (.str "(")) (af (.int 400))) (ae (aq kA (af (.str "1:")) (af (.int 300))) (ae (aq bC (aq kA (af (.str "[")) (af (.int 300))) (af (.str "a"))) (ae (af .non) (ae (af (.int 3)) ah))))))))) (aP 9))
 (aL (bJ (aq bC (eName 9) (ak d_ (ae (ak bu (ae (af (.str "go")) (ae (af (.str "a")) ah))) (ae (ak d_ (ae (af (.str "a")) ah)) (ae (af (.str "(a, )")) (ae (af (.str "(, a)")) (ae (af (.str "1/0:a")) (ae (aq bC (aq kA (af (.str "7")) (af (.int 31))) (af (.str ":a"))) (ae (aq bC (aq bC (af (.str "1/")) (aq kA (af (.str "7")) (af (.int 31)))) (af (.str ":a"))) ah))))))))) (aP 9))
 (aL (bJ (ak jar (ae (aq bC (aq kA (af (.str "7")) (af (.int 30))) (af (.str ":a"))) ah)) (aP 10))
 (aL (bE (d2 (aI (aq (aQ true) (aq a7 (eName 10) (af (.int 0))) (af (.str "scale")))) (aI (aq (aQ true) (ak tF (ae (aq a7 (eName 10) (af (.int 1))) ah)) (ak bu (ae (ak nX (ae (aq kA (af (.str "7")) (af (.int 30))) ah)) (ae (af (.int 1)) ah))))))
 (a8 (af (.bl false)))
 bG)
 (a8 (gn (ak (Ay Ps) ah) (ak q6 (ae (nS ["_law_bent"] ["_law_script","_law_bag_here","_law_names","_law_turn","_law_shown","_law_sign","_law_at","_law_bent","_law_told","_law_odd","_law_far","_law_one"] aU (oh Ps) (ae (cC (cw (ey (eName 9)) (aP 11) cv (ak (pd Ps) (ae (eName 11) ah)) [11])) ah)) (ae (cC (cw (ey (eName 9)) (aP 11) cv (ak bu (ae (af (.str "InvalidText")) (ae (eName 11) ah))) [11])) ah))))))))))))))
theorem anD:FnScope ["_law_asked"] ["_law_asked"] (defScope s_0):=scp
theorem anE:FnScope ["_law_script"] ["_law_script"] (defScope s_1):=scp
theorem anF:FnScope ["_law_pair_here"] ["_law_pair_here"] (defScope Ba):=scp
theorem anG:FnScope ["_law_plan_here"] ["_law_plan_here"] (defScope Bb):=scp
theorem R4:FnScope ["_law_plan_here","_law_rows","_law_one"] ["_law_plan_here"] (defScope Bc):=scp
theorem JW:FnScope ["_law_found","_law_due","_law_a","_law_b"] ["_law_found","_law_due"] (defScope Be):=scp
theorem anH:FnScope ["_law_e"] ["_law_e"] (defScope ux):=scp
theorem anI:FnScope ["self","other"] ["self","other"] (defScope Bf):=scp
theorem R5:FnScope ["value","sign"] ["value"] (defScope Bg):=scp
theorem anJ:FnScope ["value"] ["value"] (defScope Bh):=scp
theorem anK:FnScope ["plan"] ["plan"] (defScope Bi):=scp
theorem vH:FnScope ["value","queue","many","path","part","rows","at","one"] ["value"] (defScope Bj):=scp
theorem anL:FnScope ["self"] ["self"] (defScope Bk):=scp
theorem JX:FnScope ["plan","between","one"] ["plan"] (defScope Bl):=scp
theorem anM:FnScope ["plan"] ["plan"] (defScope Bm):=scp
theorem anN:FnScope ["self","text"] ["self","text"] (defScope Bn):=scp
theorem R6:FnScope ["one","other"] ["one","other"] (defScope Bo):=scp
theorem anO:FnScope ["value"] ["value"] (defScope Bp):=scp
theorem abg:FnScope ["self","top","bottom","share"] ["self","top","bottom"] (defScope qH):=scp
theorem R7:FnScope ["text","sign"] ["text"] (defScope Bq):=scp
theorem anP:FnScope ["text"] ["text"] (defScope Br):=scp
theorem Fc:FnScope ["text","head","bar","tail","found"] ["text"] (defScope Bs):=scp
theorem abh:FnScope ["self","word","found"] ["self","word"] (defScope Bt):=scp
theorem R8:FnScope ["self","depth","found","word"] ["self","depth"] (defScope oy):=scp
theorem abi:FnScope ["self","signs","begin"] ["self","signs"] (defScope Bu):=scp
theorem JY:FnScope ["self","depth","found","word","ratio"] ["self","depth"] (defScope yE):=scp
theorem R9:FnScope ["text","reader","found"] ["text"] (defScope Bv):=scp
theorem abj:FnScope ["_law_ask","_law_e"] ["_law_ask"] (defScope Bw):=scp
theorem R_:FnScope ["_law_asks","_law_ask"] ["_law_asks"] (defScope Bx):=scp
theorem yc:GScope ["plan","queue","path","part","rows","at","one"] ["plan"] (defScope lA):=⟨rfl,rfl,rfl,by decide +kernel,rfl,by decide +kernel,by decide +kernel⟩
theorem anQ:ZG.Ej ["plan","queue","path","part","rows","at","one"] (defScope lA):=⟨rfl,by decide +kernel⟩
theorem qu:FnScope ["_law_row","_law_full","_law_over","_law_deep","_law_told","_law_due","_law_late","_law_wrong","_law_one"] [] (defScope fR):=scp
theorem JZ:FnScope ["_law_bag_here","_law_many","_law_cell","_law_digit","_law_seed"] ["_law_bag_here","_law_many"] (defScope By):=scp
theorem anR:FnScope ["_law_bag_here","_law_some"] ["_law_bag_here","_law_some"] (defScope Bz):=scp
theorem qv:FnScope ["_law_bag_here","_law_many","_law_letters","_law_stem","_law_k","_law_at","_law_first","_law_found","_law_one"] ["_law_bag_here","_law_many"] (defScope BA):=scp
theorem anS:FnScope ["self"] ["self"] (defScope BD):=scp
theorem anT:FnScope ["self"] ["self"] (defScope BE):=scp
theorem anU:FnScope ["_law_found"] ["_law_found"] (defScope BF):=scp
theorem J0:FnScope ["_law_plan_here","_law_inner_here","_law_one"] ["_law_plan_here"] (defScope BG):=scp
theorem R':FnScope ["_law_one","_law_other","_law_high","_law_low"] ["_law_one","_law_other"] (defScope BH):=scp
theorem abk:FnScope ["_law_up","_law_down","_law_share"] ["_law_up","_law_down"] (defScope BI):=scp
theorem anV:FnScope ["_law_bag_here"] ["_law_bag_here"] (defScope BJ):=scp
theorem Fd:FnScope ["_law_bag_here","_law_names","_law_room","_law_way","_law_many","_law_inner_here","_law_k"] ["_law_bag_here","_law_names","_law_room"] (defScope BK):=scp
theorem kg:FnScope ["_law_script","_law_bag_here","_law_names","_law_turn","_law_shown","_law_sign","_law_at","_law_bent","_law_told","_law_odd","_law_far","_law_one"] ["_law_script"] (defScope pF):=scp
theorem anW:u_ my []:=⟨rfl,rfl,rfl,by decide +kernel,by decide +kernel,by decide +kernel,by decide +kernel,by decide +kernel,rfl,(Ir rfl λ_ _ _ _ _=>rfl)⟩
theorem anY:u_ oa []:=⟨rfl,rfl,rfl,by decide +kernel,by decide +kernel,by decide +kernel,by decide +kernel,by decide +kernel,rfl,(Ir rfl λ_ _ _ _ _=>rfl)⟩
theorem anZ:u_ oc ["_law_a"]:=⟨rfl,rfl,rfl,by decide +kernel,by decide +kernel,by decide +kernel,by decide +kernel,by decide +kernel,rfl,(XS rfl λ_ _ _ _ _ _ _=>⟨_,rfl,rfl⟩)⟩
theorem an0:u_ oe ["_law_b"]:=⟨rfl,rfl,rfl,by decide +kernel,by decide +kernel,by decide +kernel,by decide +kernel,by decide +kernel,rfl,(XS rfl λ_ _ _ _ _ _ _=>⟨_,rfl,rfl⟩)⟩
theorem an1:u_ pa []:=⟨rfl,rfl,rfl,by decide +kernel,by decide +kernel,by decide +kernel,by decide +kernel,by decide +kernel,rfl,(Ir rfl λ_ _ _ _ _=>rfl)⟩
theorem an2:u_ la []:=⟨rfl,rfl,rfl,by decide +kernel,by decide +kernel,by decide +kernel,by decide +kernel,by decide +kernel,rfl,(Ir rfl λ_ _ _ _ _=>rfl)⟩
structure abl where
 (Az a_1 Fe AA AB AF Ff Fg Fh yd ph Fi AG Fj Fl AH Fm rP ye AI rQ pj t9 vI Fn AJ Fo Fp Fq Fs Ft Fu js rR AK Fv J1 yf Fw AO vJ Fx vK J2 J3 an3 an4 an5 oi J4 jR h5 jS J5:Addr)
structure c5(K:PySem.W.Frag)(mg:Str->Option Value)(ad:abl):Prop where
 x8:mg "_law_asker"=some (.ref ad.Az)
 Sb:PySem.W.keepIn K (.ref ad.Az)=true
 zr:mg "_law_bag"=some (.ref ad.a_1)
 an6:PySem.W.keepIn K (.ref ad.a_1)=true
 xt:mg "_law_frac_text"=some (.ref ad.Fe)
 an7:PySem.W.keepIn K (.ref ad.Fe)=true
 m5:mg "_law_inner"=some (.ref ad.AA)
 abm:PySem.W.keepIn K (.ref ad.AA)=true
 rF:mg "_law_plan_text"=some (.ref ad.AB)
 J6:PySem.W.keepIn K (.ref ad.AB)=true
 kZ:mg "_law_same"=some (.ref ad.AF)
 Fy:PySem.W.keepIn K (.ref ad.AF)=true
 x9:mg "_law_field"=some (.ref ad.Ff)
 an8:PySem.W.keepIn K (.ref ad.Ff)=true
 tV:mg "is_name"=some (.ref ad.Fg)
 an9:PySem.W.keepIn K (.ref ad.Fg)=true
 E6:mg "has_form"=some (.ref ad.Fh)
 aoa:PySem.W.keepIn K (.ref ad.Fh)=true
 iD:mg "inside"=some (.ref ad.yd)
 abn:PySem.W.keepIn K (.ref ad.yd)=true
 rM:mg "check_plan"=some (.ref ad.ph)
 AQ:PySem.W.keepIn K (.ref ad.ph)=true
 k_:mg "text_from"=some (.ref ad.Fi)
 J7:PySem.W.keepIn K (.ref ad.Fi)=true
 ya:mg "plan_text"=some (.ref ad.AG)
 aob:PySem.W.keepIn K (.ref ad.AG)=true
 zX:mg "common_divisor"=some (.ref ad.Fj)
 aoc:PySem.W.keepIn K (.ref ad.Fj)=true
 xq:mg "is_whole"=some (.ref ad.Fl)
 abo:PySem.W.keepIn K (.ref ad.Fl)=true
 qm:mg "is_digits"=some (.ref ad.AH)
 Sd:PySem.W.keepIn K (.ref ad.AH)=true
 tX:mg "is_signed"=some (.ref ad.Fm)
 aod:PySem.W.keepIn K (.ref ad.Fm)=true
 og:mg "read_plan"=some (.ref ad.rP)
 Fz:PySem.W.keepIn K (.ref ad.rP)=true
 rN:mg "_law_why"=some (.ref ad.ye)
 Se:PySem.W.keepIn K (.ref ad.ye)=true
 vE:mg "_law_whys"=some (.ref ad.AI)
 Sf:PySem.W.keepIn K (.ref ad.AI)=true
 aoe:mg "parts"=some (.ref ad.rQ)
 aof:PySem.W.keepIn K (.ref ad.rQ)=true
 t8:mg "_law_bounds_so"=some (.ref ad.pj)
 aog:PySem.W.keepIn K (.ref ad.pj)=true
 hM:mg "_law_pick"=some (.ref ad.t9)
 rS:PySem.W.keepIn K (.ref ad.t9)=true
 nM:mg "_law_of"=some (.ref ad.vI)
 yg:PySem.W.keepIn K (.ref ad.vI)=true
 xR:mg "_law_name"=some (.ref ad.Fn)
 aoh:PySem.W.keepIn K (.ref ad.Fn)=true
 xr:mg "_law_pair"=some (.ref ad.AJ)
 abp:PySem.W.keepIn K (.ref ad.AJ)=true
 vF:mg "_law_own"=some (.ref ad.Fo)
 abq:PySem.W.keepIn K (.ref ad.Fo)=true
 zZ:mg "_law_gcd"=some (.ref ad.Fp)
 aoi:PySem.W.keepIn K (.ref ad.Fp)=true
 z1:mg "_law_frac"=some (.ref ad.Fq)
 aoj:PySem.W.keepIn K (.ref ad.Fq)=true
 xD:mg "_law_small_frac"=some (.ref ad.Fs)
 aok:PySem.W.keepIn K (.ref ad.Fs)=true
 rE:mg "_law_plan"=some (.ref ad.Ft)
 J8:PySem.W.keepIn K (.ref ad.Ft)=true
 rO:mg "law"=some (.ref ad.Fu)
 axB:PySem.W.keepIn K (.ref ad.Fu)=true
 fg:mg "Ratio"=some (.ref ad.js)
 lg:Cls K ad.js
 Sh:Mk K ad.js ad.yf
 vL:NoAttr K ad.js "own_bottom"
 vM:NoAttr K ad.js "own_top"
 abr:Meth K ad.js "__eq__" ad.AK
 abt:Meth K ad.js "text" ad.Fv
 Si:qc K ad.js
 J9:PySem.W.findIn K (.ref ad.js) "__ne__"=some (some (.builtin "object.__ne__"))
 FA:PySem.W.mroIn K ad.js (.type "object")=some true
 J_:PySem.W.notFirst K ad.js (.ref ad.js)=true
 abu:PySem.W.notFirst K ad.js (.ref ad.rR)=true
 aol:PropOf K ad.js "bottom" ad.an4 ad.J2
 aom:PropOf K ad.js "top" ad.an5 ad.J3
 ep:mg "TextReader"=some (.ref ad.rR)
 eB:Cls K ad.rR
 Sj:Mk K ad.rR ad.J1
 pk:NoAttr K ad.rR "at"
 pq:NoAttr K ad.rR "whole"
 AU:Meth K ad.rR "plan" ad.vK
 aon:Meth K ad.rR "row" ad.vJ
 abv:Meth K ad.rR "run_of" ad.Fx
 vN:Meth K ad.rR "taken" ad.AO
 aoo:II K ad.js ad.an3 ad.Fw "read"
 FC:PySem.W.kitOne K (.ref ad.js) (.ref ad.js)=some true
 Sl:((PySem.W.clsIn K ad.js).isSome&&PySem.W.typeIn K (.ref ad.js)==some (.type "type"))=true
 aop:mg "WayError"=some (.ref ad.oi)
 aoq:mg "Missing"=some (.ref ad.J4)
 lh:mg "InvalidRatio"=some (.ref ad.jR)
 lj:mg "InvalidText"=some (.ref ad.h5)
 ll:mg "InvalidPlan"=some (.ref ad.jS)
 aor:mg "NothingLeft"=some (.ref ad.J5)
 oj:XfC K ad.jS
 aos:PySem.W.findIn K (.ref ad.jS) "path"=some none
 pw:PySem.W.findIn K (.ref ad.jS) "tag"=some none
 om:XfC K ad.jR
 px:PySem.W.findIn K (.ref ad.jR) "tag"=some none
 aot:PySem.W.findIn K (.ref ad.jR) "value"=some none
 oo:XfC K ad.h5
 aou:PySem.W.findIn K (.ref ad.h5) "given"=some none
 pz:PySem.W.findIn K (.ref ad.h5) "tag"=some none
 Sn:PySem.W.exmAny K (.ref ad.jS) [.ref ad.h5,.ref ad.jS,.ref ad.jR]=some true
 Sq:PySem.W.exmAny K (.ref ad.jS) [.ref ad.oi,.ref ad.J4,.ref ad.J5]=some true
 Sr:PySem.W.exmAny K (.ref ad.jR) [.ref ad.h5,.ref ad.jS,.ref ad.jR]=some true
 Ss:PySem.W.exmAny K (.ref ad.jR) [.ref ad.oi,.ref ad.J4,.ref ad.J5]=some true
 Sv:PySem.W.exmAny K (.ref ad.h5) [.ref ad.h5,.ref ad.jS,.ref ad.jR]=some true
 Sw:PySem.W.exmAny K (.ref ad.h5) [.ref ad.oi,.ref ad.J4,.ref ad.J5]=some true
 aov:∃t,mg "DIGITS"=some (.str "0123456789" t)
 abw:∃t,mg "LETTERS"=some (.str "abcdefghijklmnopqrstuvwxyz" t)
 abx:∃t,mg "MOST_DEPTH"=some (.int 8 t)
 aow:∃t,mg "MOST_DIGITS"=some (.int 30 t)
 aox:∃t,mg "MOST_INSIDE"=some (.int 6 t)
 aoy:∃t,mg "MOST_NAME"=some (.int 8 t)
 aoz:∃t,mg "MOST_PARTS"=some (.int 40 t)
 J':∃a,mg "WORDS"=some (.ref a)/\Gn K a ((["stay","none"]:List Str).map V.str)
 yh:mg "abs"=none
 FD:mg "all"=none
 FE:mg "bool"=none
 Ka:mg "enumerate"=none
 lq:mg "int"=none
 h6:mg "isinstance"=none
 h7:mg "len"=none
 t_:mg "list"=none
 AV:mg "range"=none
 pA:mg "str"=none
 vO:mg "tuple"=none
 Sx:mg "zip"=none
section
variable{P:Program}{w:World}{K:PySem.W.Frag}{mg:Str->Option Value}{base:Heap}{ad:abl}
theorem aoA:∀y∈la.scope.names,y.2=.free->(defScope s_0).names.lookup y.1=some .cell:=by decide +kernel
theorem aoB(Ps:Nat->Addr)(T:c5 K mg ad){fd:FuncData}{cc:Addr}(F:dV K "_law_asker" "_law_asker" s_0 ad.Az fd)(ky:LamX.TabB base mg cc (Ps 0))(hc:fd.code=.ref cc):aZ P w K mg base 1 ad.Az (pd Ps):=by
 have aoC:=aoA;refine ajJ (N:=["_law_asked"]) (ps:=["_law_asked"]) (cn:=["_law_asked"]) (k:=0) (fe:=λaU=>x8 Ps aU) F anD rfl (hC F) (by decide +kernel) λA outer s H E hr=>?_;unfold x8;exact(Ij (ti:=0) (T:=la) ky hc rfl rfl rfl aoC)
theorem aoD(T:c5 K mg ad){fd:FuncData}(F:dV K "_law_bag" "_law_bag" s_1 ad.a_1 fd)  : aZ P w K mg base 1 ad.a_1 CO:=by
 refine sT (ahv (N:=["_law_script"]) F anE (k:=0) (body:=zr) λA outer s H E hr=>?_) (hC F);refine n_ λtk hp=>?_;unfold zr;exact(bg (bQ (GD (ai (jb Mr rfl T.t_ yz (ai (nH au pN (lO aK)) az)) (ai aK (ai aK (ai aK az)))))))
theorem aoE(T:c5 K mg ad){fd:FuncData}(F:dV K "_law_frac_text" "_law_frac_text" Ba ad.Fe fd)  : aZ P w K mg base 1 ad.Fe z5:=by
 refine gi (N:=["_law_pair_here"]) (k:=0) (body:=xt) F anF (hC F) λhr tk hp=>?_;unfold xt;exact(bg (bQ (iN (bW (dR hr.units) (aJ hr au aK) aK) (jb Io rfl T.pA qG (ai (aJ hr au aK) az)) (bx da (bx da (jb Io rfl T.pA qG (ai (aJ hr au aK) az)) aG) (jb Io rfl T.pA qG (ai (aJ hr au aK) az))))))
theorem aoF(T:c5 K mg ad){fd:FuncData}(F:dV K "_law_inner" "_law_inner" Bb ad.AA fd)  : aZ P w K mg base 1 ad.AA rD:=by
 refine gi (N:=["_law_plan_here"]) (k:=0) (body:=m5) F anG (hC F) λhr tk hp=>?_;unfold m5;exact(a9 (cO (bW (jg hr.units) (aJ hr au aK) (b6 (ai aG (ai aG az))))
 (bg (bQ (jb Mr rfl T.t_ yz (ai (nH au (lO aK) pN) az))))
 cW)
 (bg (bQ (iN (bW (jg hr.units) (aJ hr au aK) (b6 (ai aG (ai aG az)))) (hE (ai (aJ hr au (bx sA (c9 iU rfl T.h7 iJ (ai au az)) aK)) az)) (hE az)))))
theorem aby(T:c5 K mg ad){fd:FuncData}(F:dV K "_law_plan_text" "_law_plan_text" Bc ad.AB fd)(Kb:aZ P w K mg base 1 ad.Fe z5)(vP:aZ P w K mg base 1 ad.AA rD):∀k,aZ P w K mg base (k+2) ad.AB (vv k)
 |0=>zk
 |k+1=>by
  have i9:=aby T F Kb vP k;have gy:k+2<=k+2:=Nat.le_refl _;refine sT (tx (N:=["_law_plan_here","_law_rows","_law_one"]) F R4 (k:=k+2) (body:=rF (vv k)) λA outer s H E hr=>?_) (hC F);refine n_ λtk hp=>?_;unfold rF;exact(a9 (cO (bW (dR hr.units) (aJ hr au aK) aG)
  (bg (bQ (aJ hr au aK)))
  cW)
  (a9 (CF (own:=[("_law_one",2)]) rfl R4.nd (blkOk_by (by rfl)) (sw_true rfl rfl rfl rfl) (qX (bX tk vP (bq hr) T.m5 T.abm (ai au az))) (λ_ _ _ _ _=>(jG R4.nd)) (λ_ _ _ _ _=>kY) (λ_ _ _ _ _=>(bX q0 i9 (hr.mono gy) T.rF T.J6 (ai au az))))
  (a9 (cO (bW (dR hr.units) (aJ hr au aK) aG)
  (bg (bQ (bx da (bx da aG (aJ hr au aK)) aG)))
  cW)
  (a9 (cO (bW (dR hr.units) (aJ hr au aK) aG)
  (bg (bQ (bx da (bx da (bX tk Kb (bq hr) T.xt T.an7 (ai (aJ hr au aK) az)) aG) (aJ hr au aK))))
  cW)
  (bg (bQ (iN (bW (dR hr.units) au (hE az)) (aJ hr au aK) (bx da (bx da aG (uK MP (λ_ _ _ _ _=>Ha) FZ KZ K0 (iN (bW (dR hr.units) (aJ hr au aK) aG) aG aG) (ai au az))) aG))))))))
theorem abz(T:c5 K mg ad){fd:FuncData}(F:dV K "_law_same" "_law_same" Be ad.AF fd)  : ∀k,aZ P w K mg base (k+1) ad.AF (q5 k)
 |0=>zk
 |k+1=>by
  have i9:=abz T F  k;have gy:k+1<=k+1:=Nat.le_refl _;refine sT (tx (N:=["_law_found","_law_due","_law_a","_law_b"]) F JW (k:=k+1) (body:=kZ (q5 k)) λA outer s H E hr=>?_) (n' F);refine n_ λtk hp=>?_;unfold kZ;exact(a9 (cO (hS (c9 j4 rfl T.h6 iK (ai au (ai (b6 (ai (jx rfl T.t_ yz) (ai (jx rfl T.vO yA) az))) az))))
  (a9 (cO (g_.eb (kP (bW (lJ hr.units) (c9 j4 rfl T.h6 iK (ai au (ai (jx rfl T.t_ yz) az))) (c9 j4 rfl T.h6 iK (ai au (ai (jx rfl T.t_ yz) az)))) (nu (bW (lJ hr.units) (c9 j4 rfl T.h6 iK (ai au (ai (jx rfl T.vO yA) az))) (c9 j4 rfl T.h6 iK (ai au (ai (jx rfl T.vO yA) az)))))))
  (bg (bQ se))
  cW)
  (bg (bQ (mH (iM (dR hr.units) (c9 iU rfl T.h7 iJ (ai au az)) (c9 iU rfl T.h7 iJ (ai au az))) (oD (c9 (Mq rfl) rfl T.FD K1 (ai (nJ (pS (own:=[("_law_a",2),("_law_b",3)]) rfl JW.nd (blkOk_by (by rfl)) (aeG (ai au (ai au az)) rfl T.Sx) (λ_ _ _ _ _=>(M_ rfl (zf (jG JW.nd) (zf (jG JW.nd) M9)) (lS (hG 2) (lS (hG 3) wo)))) (λ_ _ _ _ _=>kY) (λ_ _ _ _ _=>(bX q0 i9 (hr.mono gy) T.kZ T.Fy (ai au (ai au az)))))) az)))))))
  cW)
  (a9 (cO (g_.eb (kP (bW G4 au uC) (nu (bW G4 au uC))))
  (bg (bQ (mH (iM G4 au uC) (oD (iM G4 au uC)))))
  cW)
  (a9 (cO (g_.eb (kP (bW (lJ hr.units) (c9 j4 rfl T.h6 iK (ai au (ai (jx rfl T.FE K2) az))) (c9 j4 rfl T.h6 iK (ai au (ai (jx rfl T.FE K2) az)))) (nu (bW (lJ hr.units) (c9 j4 rfl T.h6 iK (ai au (ai (jx rfl T.lq mD) az))) (c9 j4 rfl T.h6 iK (ai au (ai (jx rfl T.lq mD) az)))))))
  (bg (bQ se))
  cW)
  (bg (bQ (mH (iM (dR hr.units) (c9 j4 rfl T.h6 iK (ai au (ai (jx rfl T.pA qG) az))) (c9 j4 rfl T.h6 iK (ai au (ai (jx rfl T.pA qG) az)))) (oD (iM (dR hr.units) au au))))))))
theorem aoG(T:c5 K mg ad){fd:FuncData}(F:Fun K "_law_field" "_law_field" ux ad.Ff fd)  : H9 P w K mg base 1 ad.Ff x':=by
 refine agG (N:=["_law_e"]) F anH (k:=0) (body:=x9) (F.binds (ps:=["_law_e"]) λ_ _ _ _ _ _ us hl=>match us,hl with|[_],_=>rfl) λc7 A outer s H E hr=>?_;refine n_ λtk hp=>?_;unfold x9;exact(a9 (cO (bW (jg (qe hr)) (l0 (ef T.lh T.om T.px (ef T.lj T.oo T.pz (ef T.ll T.oj T.pw md))) au) (b6 (ai aG (ai aG (ai aG (ai aG (ai aG az)))))))
 (bg (bQ (l0 (ef T.lh T.om T.aot md) au)))
 cW)
 (a9 (cO (bW (jg (qe hr)) (l0 (ef T.lh T.om T.px (ef T.lj T.oo T.pz (ef T.ll T.oj T.pw md))) au) (b6 (ai aG (ai aG (ai aG (ai aG az))))))
 (bg (bQ tD))
 cW)
 (a9 (cO (bW (jg (qe hr)) (l0 (ef T.lh T.om T.px (ef T.lj T.oo T.pz (ef T.ll T.oj T.pw md))) au) (b6 (ai aG (ai aG az))))
 (bg (bQ (l0 (ef T.ll T.oj T.aos md) au)))
 cW)
 (a9 (cO (bW (jg (qe hr)) (l0 (ef T.lh T.om T.px (ef T.lj T.oo T.pz (ef T.ll T.oj T.pw md))) au) (b6 (ai aG (ai aG az))))
 (bg (bQ tD))
 cW)
 (a9 (cO (bW (jg (qe hr)) (l0 (ef T.lh T.om T.px (ef T.lj T.oo T.pz (ef T.ll T.oj T.pw md))) au) (b6 (ai aG (ai aG az))))
 (bg (bQ (iN (bW (dR (qe hr)) (l0 (ef T.lh T.om T.px (ef T.lj T.oo T.pz (ef T.ll T.oj T.pw md))) au) aG) (l0 (ef T.lj T.oo T.aou md) au) tD)))
 cW)
 (a9 (cO (bW (jg (qe hr)) (l0 (ef T.lh T.om T.px (ef T.lj T.oo T.pz (ef T.ll T.oj T.pw md))) au) (b6 (ai aG (ai aG az))))
 (bg (bQ (iN (bW (dR (qe hr)) (l0 (ef T.lh T.om T.px (ef T.lj T.oo T.pz (ef T.ll T.oj T.pw md))) au) aG) tD (b6 (ai tD (ai tD az))))))
 cW)
 (a9 (cO (bW (jg (qe hr)) (l0 (ef T.lh T.om T.px (ef T.lj T.oo T.pz (ef T.ll T.oj T.pw md))) au) (b6 (ai aG (ai aG az))))
 (bg (bQ (iN (bW (dR (qe hr)) (l0 (ef T.lh T.om T.px (ef T.lj T.oo T.pz (ef T.ll T.oj T.pw md))) au) aG) tD tD)))
 cW)
 (bg (bQ (iN (bW (dR (qe hr)) (l0 (ef T.lh T.om T.px (ef T.lj T.oo T.pz (ef T.ll T.oj T.pw md))) au) aG) tD uC))))))))))
theorem aoH(T:c5 K mg ad){fd:FuncData}(F:dV K "__eq__" "Ratio.__eq__" Bf ad.AK fd)  : aZ P w K mg base 1 ad.AK rm:=by
 refine gi (N:=["self","other"]) (k:=0) (body:=O6) F anI (n' F) λhr tk hp=>?_;unfold O6;exact(bg (bQ (mH (c9 (OU (O0 T.fg T.Sl (O1 T.fg T.Si T.FC zR) zR OZ)) rfl T.h6 iK (ai au (ai (L5 rfl T.fg) az))) (mH (iM (dR hr.units) (gA (gx T.fg T.lg T.vM gv) au) (gA (gx T.fg T.lg T.vM gv) au)) (oD (iM (dR hr.units) (gA (gx T.fg T.lg T.vL gv) au) (gA (gx T.fg T.lg T.vL gv) au)))))))
theorem aoI(T:c5 K mg ad){fd:FuncData}(F:dV K "is_name" "is_name" Bg ad.Fg fd)  : aZ P w K mg base 1 ad.Fg vt:=by
 refine gi (N:=["value","sign"]) (k:=0) (body:=tV) F R5 (hC F) λhr tk hp=>?_;unfold tV;exact(a9 (cO (g_.eb (kP (jX (hS (c9 j4 rfl T.h6 iK (ai au (ai (jx rfl T.pA qG) az))))) (kP (jX (U6 yZ yZ aK (c9 iU rfl T.h7 iJ (ai au az)) (zh T.aoy))) (nu (bW (jg hr.units) au (I3 T.J'))))))
 (bg (bQ se))
 cW)
 (bg (bQ (c9 (Mq rfl) rfl T.FD K1 (ai (nJ (pS (own:=[("sign",1)]) rfl R5.nd (blkOk_by (by rfl)) (qX au) (λ_ _ _ _ _=>(jG R5.nd)) (λ_ _ _ _ _=>kY) (λ_ _ _ _ _=>(iM (jg hr.units) au (Nj T.abw))))) az)))))
theorem aoJ(T:c5 K mg ad){fd:FuncData}(F:dV K "has_form" "has_form" Bh ad.Fh fd)(Sy:aZ P w K mg base 1 ad.Fg vt):aZ P w K mg base 2 ad.Fh RU:=by
 refine gi (N:=["value"]) (k:=1) (body:=E6) F anJ (hC F) λhr tk hp=>?_;unfold E6;exact(a9 (cO (g_.eb (kP (jX (hS (c9 j4 rfl T.h6 iK (ai au (ai (jx rfl T.vO yA) az))))) (kP (bW (dR hr.units) (c9 iU rfl T.h7 iJ (ai au az)) aK) (nu (jX (hS (c9 j4 rfl T.h6 iK (ai (aJ hr au aK) (ai (jx rfl T.pA qG) az)))))))))
 (bg (bQ se))
 cW)
 (a9 (cO (bW (jg hr.units) (aJ hr au aK) (I3 T.J'))
 (bg (bQ (iM (dR hr.units) (c9 iU rfl T.h7 iJ (ai au az)) aK)))
 cW)
 (a9 (cO (bW (dR hr.units) (aJ hr au aK) aG)
 (bg (bQ (mH (iM (dR hr.units) (c9 iU rfl T.h7 iJ (ai au az)) aK) (oD (bX tk Sy (bq hr) T.tV T.an9 (ai (aJ hr au aK) az))))))
 cW)
 (a9 (cO (bW (jg hr.units) (aJ hr au aK) (b6 (ai aG (ai aG az))))
 (bg (bQ (ac5 yZ yZ aK (bx sA (c9 iU rfl T.h7 iJ (ai au az)) aK) (zh T.aox))))
 cW)
 (a9 (cO (bW (dR hr.units) (aJ hr au aK) aG)
 (bg (bQ (iM (dR hr.units) (c9 iU rfl T.h7 iJ (ai au az)) aK)))
 cW)
 (bg (bQ (mH (iM (dR hr.units) (aJ hr au aK) aG) (mH (iM (dR hr.units) (c9 iU rfl T.h7 iJ (ai au az)) aK) (oD (c9 (OU (O0 T.fg T.Sl (O1 T.fg T.Si T.FC zR) zR OZ)) rfl T.h6 iK (ai (aJ hr au aK) (ai (L5 rfl T.fg) az)))))))))))))
theorem aoK(T:c5 K mg ad){fd:FuncData}(F:dV K "inside" "inside" Bi ad.yd fd)  : aZ P w K mg base 1 ad.yd k8:=by
 refine gi (N:=["plan"]) (k:=0) (body:=iD) F anK (hC F) λhr tk hp=>?_;unfold iD;exact(a9 (cO (bW (jg hr.units) (aJ hr au aK) (b6 (ai aG (ai aG az))))
 (bg (bQ (jb Mr rfl T.t_ yz (ai (nH au (lO aK) pN) az))))
 cW)
 (bg (bQ (iN (bW (jg hr.units) (aJ hr au aK) (b6 (ai aG (ai aG az)))) (hE (ai (aJ hr au (U3 Vg aK)) az)) (hE az)))))
theorem aoL(T:c5 K mg ad){fd:FuncData}(F:dV K "check_plan" "check_plan" Bj ad.ph fd)(vQ:aZ P w K mg base 1 ad.AK rm)(Sz:aZ P w K mg base 2 ad.Fh RU)(vR:aZ P w K mg base 1 ad.yd k8)(SA:k2 P w K mg base "InvalidPlan" ad.jS 2 "InvalidPlan" ["path"]):aZ P w K mg base 18 ad.ph g6:=by
 refine gi (N:=["value","queue","many","path","part","rows","at","one"]) (k:=17) (body:=rM) F vH (hC F) λhr tk hp=>?_;unfold rM;exact(a9 (BX (j:=2) rfl vH.nd (ai (GD (ai (b6 (ai (b6 az) (ai au az))) az)) (ai aK az)))
 (bg (BZ hp (OT (nU.or (de.w (lJ hr.units)) (YW (n:=12) tk (bq hr) (XI T.fg T.abr vQ (bq hr) XH) (XW T.fg (XZ T.fg T.J_ XY) T.J9 T.FA XU))) au (hE az))
 (a9 (sk (Vx VA (λ_ _ _ _ _=>y6) PySem.F.plainAttrs_list PySem.F.slot_list_pop PySem.F.type_list_pop au) (GN rfl (sj (qO vH.nd) (sj (qO vH.nd) GJ)) (lS (hG 3) (lS (hG 4) wo))) (Hw (sV (hG 3) (sV (hG 4) Hv))))
 (a9 (ae1 vH.nd ip_add aK)
 (a9 (cO (g_.eb (kP (bW uH au (zh T.aoz)) (kP (bW Vf (c9 iU rfl T.h7 iJ (ai au az)) (zh T.abx)) (nu (jX (hS (bX tk Sz (bq hr) T.E6 T.aoa (ai au az))))))))
 (bg (nP tk rfl SA (bq hr) (by decide) (ai au az)))
 cW)
 (a9 (CF (own:=[("at",6),("one",7)]) rfl vH.nd (blkOk_by (by rfl)) (sw_true rfl rfl rfl rfl) (VR (ai (bX tk vR (bq hr) T.iD T.abn (ai au az)) az) rfl T.Ka) (λ_ _ _ _ _=>(M_ rfl (zf (jG vH.nd) (zf (jG vH.nd) M9)) (lS (hG 6) (lS (hG 7) wo)))) (λ_ _ _ _ _=>kY) (λ_ _ _ _ _=>(b6 (ai (b6 (PB au (ai au az))) (ai au az)))))
 (bg (wm (uK Vz (λ_ _ _ _ _=>y6) PySem.F.plainAttrs_list PySem.F.slot_list_extend PySem.F.type_list_extend au (ai (Yr au) az)))))))))))
theorem aoM(T:c5 K mg ad){fd:FuncData}(F:dV K "text" "Ratio.text" Bk ad.Fv fd)  : aZ P w K mg base 1 ad.Fv rn:=by
 refine gi (N:=["self"]) (k:=0) (body:=DX) F anL (hC F) λhr tk hp=>?_;unfold DX;exact(bg (bQ (iN (bW (dR hr.units) (gA (gx T.fg T.lg T.vL gv) au) aK) (jb Io rfl T.pA qG (ai (gA (gx T.fg T.lg T.vM gv) au) az)) (OW (.cons (DI (gA (gx T.fg T.lg T.vM gv) au)) (.cons aG (.cons (DI (gA (gx T.fg T.lg T.vL gv) au)) .nil)))))))
theorem abA(T:c5 K mg ad){fd:FuncData}(F:dV K "text_from" "text_from" Bl ad.Fi fd)(yi:aZ P w K mg base 1 ad.Fv rn):∀k,aZ P w K mg base (k+2) ad.Fi (qn k)
 |0=>zk
 |k+1=>by
  have i9:=abA T F yi k;have gy:k+2<=k+2:=Nat.le_refl _;refine sT (tx (N:=["plan","between","one"]) F JX (k:=k+2) (body:=k_ (qn k)) λA outer s H E hr=>?_) (hC F);refine n_ λtk hp=>?_;unfold k_;exact(a9 (cO (bW (dR hr.units) (aJ hr au aK) aG)
  (bg (bQ (aJ hr au aK)))
  cW)
  (a9 (cO (bW (jg hr.units) (aJ hr au aK) (I3 T.J'))
  (bg (bQ (aJ hr au aK)))
  cW)
  (a9 (cO (bW (dR hr.units) (aJ hr au aK) aG)
  (bg (bQ (OW (.cons aG (.cons (DI (bX tk i9 (hr.mono gy) T.k_ T.J7 (ai (aJ hr au aK) az))) (.cons aG .nil))))))
  cW)
  (a9 (cO (bW (dR hr.units) (aJ hr au aK) aG)
  (bg (bQ (OW (.cons (DI (V2 tk (jJ T.fg T.lg T.abt yi (bq hr) jI) (aJ hr au aK))) (.cons aG (.cons (DI (bX tk i9 (hr.mono gy) T.k_ T.J7 (ai (aJ hr au aK) az))) .nil))))))
  cW)
  (a9 (dY JX.nd (iN (bW (dR hr.units) (aJ hr au aK) aG) aG aG))
  (bg (bQ (bx da (bx da aG (uK MP (λ_ _ _ _ _=>Ha) FZ KZ K0 au (ai (nJ (pS (own:=[("one",2)]) rfl JX.nd (blkOk_by (by rfl)) (qX (nH au (lO aK) pN)) (λ_ _ _ _ _=>(jG JX.nd)) (λ_ _ _ _ _=>kY) (λ_ _ _ _ _=>(bX q0 i9 (hr.mono gy) T.k_ T.J7 (ai au az))))) az))) aG))))))))
theorem aoN(T:c5 K mg ad){fd:FuncData}(F:dV K "plan_text" "plan_text" Bm ad.AG fd)(iF:aZ P w K mg base 18 ad.ph g6)(SE:aZ P w K mg base 11 ad.Fi QP):aZ P w K mg base 19 ad.AG yb:=by
 refine gi (N:=["plan"]) (k:=18) (body:=ya) F anM (hC F) λhr tk hp=>?_;unfold ya;exact(a9 (wm (bX tk iF (bq hr) T.rM T.AQ (ai au az)))
 (bg (bQ (bX tk SE (bq hr) T.k_ T.J7 (ai au az)))))
theorem aoO(T:c5 K mg ad){fd:FuncData}(F:dV K "__init__" "TextReader.__init__" Bn ad.J1 fd)  : aZ P w K mg base 1 ad.J1 xW:=by
 refine gi (N:=["self","text"]) (k:=0) (body:=EA) F anN (n' F) λhr tk hp=>?_;unfold EA;exact(a9 (Hs (zj T.ep T.eB T.pq zi) au au)
 (bg (Hs (zj T.ep T.eB T.pk zi) au aK)))
theorem aoP(T:c5 K mg ad){fd:FuncData}(F:dV K "common_divisor" "common_divisor" Bo ad.Fj fd)  : aZ P w K mg base 1 ad.Fj DS:=by
 refine gi (N:=["one","other"]) (k:=0) (body:=zX) F R6 (n' F) λhr tk hp=>?_;unfold zX;exact(a9 (BX (j:=1) rfl R6.nd (ai (c9 DG rfl T.yh A_ (ai au az)) (ai (c9 DG rfl T.yh A_ (ai au az)) az)))
 (a9 (BZ hp (bW uH au aK)
 (bg (BX (j:=1) rfl R6.nd (ai au (ai (bx sC au au) az)))))
 (bg (bQ au))))
theorem aoQ(T:c5 K mg ad){fd:FuncData}(F:dV K "is_whole" "is_whole" Bp ad.Fl fd)  : aZ P w K mg base 1 ad.Fl oW:=by
 refine gi (N:=["value"]) (k:=0) (body:=xq) F anO (hC F) λhr tk hp=>?_;unfold xq;exact(bg (bQ (mH (c9 j4 rfl T.h6 iK (ai au (ai (jx rfl T.lq mD) az))) (oD (ac4 (c9 j4 rfl T.h6 iK (ai au (ai (jx rfl T.FE K2) az))))))))
theorem aoR(T:c5 K mg ad){fd:FuncData}(F:FunD K "__init__" "Ratio.__init__" (defArgs qH) (defBody qH) (defScope qH) [(V.int 1)] [] ad.yf fd)(SF:aZ P w K mg base 1 ad.Fj DS)(Kc:aZ P w K mg base 1 ad.Fl oW)(Kd:k2 P w K mg base "InvalidRatio" ad.jR 2 "InvalidRatio" ["value"]):FnOk P w K mg base (Z.CX P w) 4 ad.yf fd ["self","top","bottom"] (jA K mg 3 (bI 4 (vf))):=by
 refine tx (N:=["self","top","bottom","share"]) F abg (k:=3) (body:=vf) λA outer s H E hr=>?_;refine n_ λtk hp=>?_;unfold vf;exact(a9 (cO (jX (hS (bX tk Kc (bq hr) T.xq T.abo (ai au az))))
 (bg (nP tk rfl Kd (bq hr) (by decide) (ai au az)))
 cW)
 (a9 (cO (g_.eb (kP (jX (hS (bX tk Kc (bq hr) T.xq T.abo (ai au az)))) (nu (bW (dR hr.units) au aK))))
 (bg (nP tk rfl Kd (bq hr) (by decide) (ai au az)))
 cW)
 (a9 (dY abg.nd (bX tk SF (bq hr) T.zX T.aoc (ai au (ai au az))))
 (a9 (Hs (zj T.fg T.lg T.vM zi) au (iN (bW uH au aK) (bx qS au au) (bx qS (U3 Vg au) au)))
 (bg (Hs (zj T.fg T.lg T.vL zi) au (bx qS (c9 DG rfl T.yh A_ (ai au az)) au)))))))
theorem aoS{fd:FuncData}(F:FunD K "__init__" "Ratio.__init__" (defArgs qH) (defBody qH) (defScope qH) [(V.int 1)] [] ad.yf fd)(O:FnOk P w K mg base (Z.CX P w) 4 ad.yf fd ["self","top","bottom"] (jA K mg 3 (bI 4 (vf)))):aZ P w K mg base 4 ad.yf zY:=by
 have h0:Binds K fd ["self","top","bottom"] []:=by
  obtain⟨ds,hd,hb⟩:=(F.binds1 (ps:=["self","top","bottom"]) 3 1 (by simp) rfl λ_ _ _ _ _ _ _ us its hl hd=>match us,hl,its,hd with|[_,_,_],_,[_],_=>⟨_,rfl,rfl⟩)
  cases hd;exact hb
 have h1:=(F.binds1 (ps:=["self","top","bottom"]) 2 0 (by simp) rfl λ_ _ _ _ _ _ _ us its hl hd=>match us,hl,its,hd with|[_,_],_,[_],_=>⟨_,rfl,rfl⟩)
 exact ahw O h0 h1 (λρ H=>ay.cons ie (ay.nil))
theorem aoT(T:c5 K mg ad){fd:FuncData}(F:dV K "is_digits" "is_digits" Bq ad.AH fd)  : aZ P w K mg base 1 ad.AH o6:=by
 refine gi (N:=["text","sign"]) (k:=0) (body:=qm) F R7 (hC F) λhr tk hp=>?_;unfold qm;exact(a9 (cO (g_.eb (kP (jX (U6 yZ yZ aK (c9 iU rfl T.h7 iJ (ai au az)) (zh T.aow))) (nu (jX (hS (c9 (Mq rfl) rfl T.FD K1 (ai (nJ (pS (own:=[("sign",1)]) rfl R7.nd (blkOk_by (by rfl)) (qX au) (λ_ _ _ _ _=>(jG R7.nd)) (λ_ _ _ _ _=>kY) (λ_ _ _ _ _=>(iM (jg hr.units) au (Nj T.aov))))) az)))))))
 (bg (bQ se))
 cW)
 (bg (bQ (U4 (iM (dR hr.units) au aG) (oD (iM (lJ hr.units) (aJ hr au aK) aG))))))
theorem aoU(T:c5 K mg ad){fd:FuncData}(F:dV K "is_signed" "is_signed" Br ad.Fm fd)(yj:aZ P w K mg base 1 ad.AH o6):aZ P w K mg base 2 ad.Fm xU:=by
 refine gi (N:=["text"]) (k:=1) (body:=tX) F anP (hC F) λhr tk hp=>?_;unfold tX;exact(bg (bQ (U4 (bX tk yj (bq hr) T.qm T.Sd (ai au az)) (oD (mH (iM (dR hr.units) (nH au pN (lO aK)) aG) (mH (iM (lJ hr.units) au aG) (oD (bX tk yj (bq hr) T.qm T.Sd (ai (nH au (lO aK) pN) az)))))))))
theorem aoV(T:c5 K mg ad){fd:FuncData}(F:dV K "read" "Ratio.read" Bs ad.Fw fd)(SG:aZ P w K mg base 4 ad.yf zY)(yi:aZ P w K mg base 1 ad.Fv rn)(yj:aZ P w K mg base 1 ad.AH o6)(SH:aZ P w K mg base 2 ad.Fm xU)(hQ:k2 P w K mg base "InvalidText" ad.h5 2 "InvalidText" ["given"]):aZ P w K mg base 6 ad.Fw tY:=by
 refine gi (N:=["text","head","bar","tail","found"]) (k:=5) (body:=xV) F Fc (hC F) λhr tk hp=>?_;unfold xV;exact(a9 (cO (jX (hS (c9 j4 rfl T.h6 iK (ai au (ai (jx rfl T.pA qG) az)))))
 (bg (nP tk rfl hQ (bq hr) (by decide) (ai au az)))
 cW)
 (a9 (sk (uK ai8 (λ_ _ _ _ _=>Ha) FZ PySem.F.slot_str_partition PySem.F.type_str_partition au (ai aG az)) (GN rfl (sj (qO Fc.nd) (sj (qO Fc.nd) (sj (qO Fc.nd) GJ))) (lS (hG 1) (lS (hG 2) (lS (hG 3) wo)))) (Hw (sV (hG 1) (sV (hG 2) (sV (hG 3) Hv)))))
 (a9 (cO (g_.eb (kP (jX (hS (bX tk SH (bq hr) T.tX T.aod (ai au az)))) (nu (g_.eb (GB (bW (lJ hr.units) au aG) (GA (g_.eb (kP (jX (hS (bX tk yj (bq hr) T.qm T.Sd (ai au az)))) (nu (bW (dR hr.units) au aG))))))))))
 (bg (nP tk rfl hQ (bq hr) (by decide) (ai au az)))
 cW)
 (a9 (dY Fc.nd (nJ (V3 tk T.Sh SG (bq hr) T.fg (ai (jb PN rfl T.lq mD (ai au az)) (ai (iN (bW (lJ hr.units) au aG) (jb PN rfl T.lq mD (ai au az)) aK) az)))))
 (a9 (cO (bW (lJ hr.units) (V2 tk (jJ T.fg T.lg T.abt yi (bq hr) jI) au) au)
 (bg (nP tk rfl hQ (bq hr) (by decide) (ai au az)))
 cW)
 (bg (bQ au)))))))
theorem aoW(T:c5 K mg ad){fd:FuncData}(F:dV K "taken" "TextReader.taken" Bt ad.AO fd)  : aZ P w K mg base 1 ad.AO iE:=by
 refine gi (N:=["self","word","found"]) (k:=0) (body:=EB) F abh (n' F) λhr tk hp=>?_;unfold EB;exact(a9 (dY abh.nd (iM (dR hr.units) (nH (gA (gx T.ep T.eB (k9 T.pq) gv) au) (lO (gA (gx T.ep T.eB (k9 T.pk) gv) au)) (lO (bx da (gA (gx T.ep T.eB (k9 T.pk) gv) au) (c9 iU rfl T.h7 iJ (ai au az))))) au))
 (a9 (ZY (zj T.ep T.eB T.pk zi) au (iN (hS au) (c9 iU rfl T.h7 iJ (ai au az)) aK))
 (bg (bQ au))))
theorem aoX(T:c5 K mg ad){fd:FuncData}(F:dV K "row" "TextReader.row" oy ad.vJ fd)(kI:aZ P w K mg base 1 ad.AO iE)(hQ:k2 P w K mg base "InvalidText" ad.h5 2 "InvalidText" ["given"]){j:Nat}{again:aB}(i9:aZ P w K mg base (j+7) ad.vK again):FnOk P w K mg base (Z.CX P w) (j+7+1) ad.vJ fd ["self","depth"] (jA K mg 2 (bI 4 (xX again))):=by
 have gy:j+7<=j+7:=Nat.le_refl _;refine tx (N:=["self","depth","found","word"]) F R8 (k:=j+7) (body:=xX again) λA outer s H E hr=>?_;refine n_ λtk hp=>?_;unfold xX;exact(a9 (dY R8.nd (GD (ai (kq tk (jJ T.ep T.eB T.AU i9 (hr.mono gy) jI) au (ai (bx da au aK) az)) az)))
 (a9 (dY R8.nd (iN (hS (kq tk (jJ T.ep T.eB T.vN kI (bq hr) jI) au (ai aG az))) aG aG))
 (a9 (cO (g_.eb (GB (bW (dR hr.units) au aG) (GA (jX (hS (kq tk (jJ T.ep T.eB T.vN kI (bq hr) jI) au (ai aG az)))))))
 (bg (nP tk rfl hQ (bq hr) (by decide) (ai (gA (gx T.ep T.eB (k9 T.pq) gv) au) az)))
 cW)
 (a9 (wm (uK Vy (λ_ _ _ _ _=>y6) PySem.F.plainAttrs_list PySem.F.slot_list_append PySem.F.type_list_append au (ai (kq tk (jJ T.ep T.eB T.AU i9 (hr.mono gy) jI) au (ai (bx da au aK) az)) az)))
 (a9 (BZ hp (hS (kq tk (jJ T.ep T.eB T.vN kI (bq hr) jI) au (ai (iN (bW (dR hr.units) au aG) aG aG) az)))
 (bg (wm (uK Vy (λ_ _ _ _ _=>y6) PySem.F.plainAttrs_list PySem.F.slot_list_append PySem.F.type_list_append au (ai (kq tk (jJ T.ep T.eB T.AU i9 (hr.mono gy) jI) au (ai (bx da au aK) az)) az)))))
 (a9 (cO (jX (hS (kq tk (jJ T.ep T.eB T.vN kI (bq hr) jI) au (ai aG az))))
 (bg (nP tk rfl hQ (bq hr) (by decide) (ai (gA (gx T.ep T.eB (k9 T.pq) gv) au) az)))
 cW)
 (bg (bQ (b6 (ai au (PB au az)))))))))))
theorem aoY{fd:FuncData}(F:dV K "row" "TextReader.row" oy ad.vJ fd){j:Nat}{again:aB}(O:FnOk P w K mg base (Z.CX P w) (j+7+1) ad.vJ fd ["self","depth"] (jA K mg 2 (bI 4 (xX again)))):aZ P w K mg base (j+7+1) ad.vJ (EC again):=sT O (n' F)
theorem aoZ(T:c5 K mg ad){fd:FuncData}(F:dV K "run_of" "TextReader.run_of" Bu ad.Fx fd)  : aZ P w K mg base 1 ad.Fx rG:=by
 refine gi (N:=["self","signs","begin"]) (k:=0) (body:=ED) F abi (n' F) λhr tk hp=>?_;unfold ED;exact(a9 (dY abi.nd (gA (gx T.ep T.eB (k9 T.pk) gv) au))
 (a9 (BZ hp (g_.eb (GB (bW zg (gA (gx T.ep T.eB (k9 T.pk) gv) au) (c9 iU rfl T.h7 iJ (ai (gA (gx T.ep T.eB (k9 T.pq) gv) au) az))) (GA (bW (jg hr.units) (aJ hr (gA (gx T.ep T.eB (k9 T.pq) gv) au) (gA (gx T.ep T.eB (k9 T.pk) gv) au)) au))))
 (bg (ZY (zj T.ep T.eB T.pk zi) au aK)))
 (bg (bQ (nH (gA (gx T.ep T.eB (k9 T.pq) gv) au) (lO au) (lO (gA (gx T.ep T.eB (k9 T.pk) gv) au)))))))
theorem abB(T:c5 K mg ad){fd:FuncData}(F:dV K "plan" "TextReader.plan" yE ad.vK fd)(vS:aZ P w K mg base 6 ad.Fw tY)(ua:aZ P w K mg base 1 ad.Fx rG)(kI:aZ P w K mg base 1 ad.AO iE)(hQ:k2 P w K mg base "InvalidText" ad.h5 2 "InvalidText" ["given"]){SJ:FuncData}(FG:FunD K "row" "TextReader.row" (defArgs oy) (defBody oy) (defScope oy) [] [] ad.vJ SJ)(k:Nat)(i9:aZ P w K mg base (2 * k+7) ad.vK (m6 k)):FnOk P w K mg base (Z.CX P w) (2 * k+7+1+1) ad.vK fd ["self","depth"] (jA K mg 2 (bI 5 (rH (m6 k)))):=by
 have gy:2 * k+7<=2 * k+7+1:=by omega
 have ao0:=aoY FG (aoX T FG kI hQ i9);refine tx (N:=["self","depth","found","word","ratio"]) F JY (k:=2 * k+7+1) (body:=rH (m6 k)) λA outer s H E hr=>?_;refine n_ λtk hp=>?_;unfold rH;exact(a9 (cO (bW uH au (zh T.abx))
 (bg (nP tk rfl hQ (bq hr) (by decide) (ai (gA (gx T.ep T.eB (k9 T.pq) gv) au) az)))
 cW)
 (a9 (cO (hS (kq tk (jJ T.ep T.eB T.vN kI (bq hr) jI) au (ai aG az)))
 (a9 (dY JY.nd (b6 (ai aG (ai (kq tk (jJ T.ep T.eB T.AU i9 (hr.mono gy) jI) au (ai (bx da au aK) az)) az))))
 (a9 (cO (jX (hS (kq tk (jJ T.ep T.eB T.vN kI (bq hr) jI) au (ai aG az))))
 (bg (nP tk rfl hQ (bq hr) (by decide) (ai (gA (gx T.ep T.eB (k9 T.pq) gv) au) az)))
 cW)
 (bg (bQ au))))
 cW)
 (a9 (cO (hS (kq tk (jJ T.ep T.eB T.vN kI (bq hr) jI) au (ai aG az)))
 (bg (bQ (kq tk (jJ T.ep T.eB T.aon ao0 (bq hr) jI) au (ai au az))))
 cW)
 (a9 (dY JY.nd (kq tk (jJ T.ep T.eB T.abv ua (bq hr) jI) au (ai (Nj T.abw) az)))
 (a9 (cO (bW (jg hr.units) au (I3 T.J'))
 (bg (bQ (b6 (ai au az))))
 cW)
 (a9 (cO (bW (lJ hr.units) au aG)
 (bg (bQ (b6 (ai aG (ai au az)))))
 cW)
 (a9 (dY JY.nd (ajP tk vS (bq hr) T.fg T.aoo (ai (kq tk (jJ T.ep T.eB T.abv ua (bq hr) jI) au (ai aG az)) az)))
 (a9 (cO (jX (hS (kq tk (jJ T.ep T.eB T.vN kI (bq hr) jI) au (ai aG az))))
 (bg (nP tk rfl hQ (bq hr) (by decide) (ai (gA (gx T.ep T.eB (k9 T.pq) gv) au) az)))
 cW)
 (bg (bQ (b6 (ai aG (ai au (ai (kq tk (jJ T.ep T.eB T.AU i9 (hr.mono gy) jI) au (ai (bx da au aK) az)) az))))))))))))))
theorem SM(T:c5 K mg ad){fd:FuncData}(F:dV K "plan" "TextReader.plan" yE ad.vK fd)(vS:aZ P w K mg base 6 ad.Fw tY)(ua:aZ P w K mg base 1 ad.Fx rG)(kI:aZ P w K mg base 1 ad.AO iE)(hQ:k2 P w K mg base "InvalidText" ad.h5 2 "InvalidText" ["given"]){SJ:FuncData}(FG:FunD K "row" "TextReader.row" (defArgs oy) (defBody oy) (defScope oy) [] [] ad.vJ SJ):∀k,aZ P w K mg base (2 * k+7) ad.vK (m6 k)
 |0=>zk
 |k+1=>sT (abB T F vS ua kI hQ FG k (SM T F vS ua kI hQ FG k)) (n' F)
theorem ao1(T:c5 K mg ad){fd:FuncData}(F:dV K "read_plan" "read_plan" Bv ad.rP fd)(SN:aZ P w K mg base 1 ad.J1 xW)(SQ:aZ P w K mg base 25 ad.vK Jo)(iF:aZ P w K mg base 18 ad.ph g6)(hQ:k2 P w K mg base "InvalidText" ad.h5 2 "InvalidText" ["given"]):aZ P w K mg base 26 ad.rP jar:=by
 refine gi (N:=["text","reader","found"]) (k:=25) (body:=og) F R9 (hC F) λhr tk hp=>?_;unfold og;exact(a9 (cO (jX (hS (c9 j4 rfl T.h6 iK (ai au (ai (jx rfl T.pA qG) az)))))
 (bg (nP tk rfl hQ (bq hr) (by decide) (ai au az)))
 cW)
 (a9 (dY R9.nd (V3 tk T.Sj SN (bq hr) T.ep (ai au az)))
 (a9 (ajF (tab:=[("InvalidRatio",true),("InvalidText",true),("InvalidPlan",true)]) rfl rfl (W' rfl T.lj rfl T.ll rfl T.lh) (L2H.passesAt_of rfl) tk (zQ T.lh T.Sr (zQ T.lj T.Sv (zQ T.ll T.Sn XT))) (λl' pn xe tk =>
 (a9 (dY R9.nd (kq tk (jJ T.ep T.eB T.AU SQ (bq hr) jI) au (ai aK az)))
 (bg (wm (bX tk iF (bq hr) T.rM T.AQ (ai au az)))))) (λa pn ao2 rk =>
 (bg (ajI ao2 rk hQ (RoomH.rk hr (by omega)) (by decide) (ai au az)))))
 (a9 (cO (bW zg (gA (gx T.ep T.eB (k9 T.pk) gv) au) (c9 iU rfl T.h7 iJ (ai au az)))
 (bg (nP tk rfl hQ (bq hr) (by decide) (ai au az)))
 cW)
 (bg (bQ au))))))
theorem ao3(T:c5 K mg ad)(kJ:aZ P w K mg base 26 ad.rP jar):nT P w K mg base 27 my (E7):=by
 refine zI (fl:=(ak jar (ae (eName 0) ah))) anW (λρ H=>ay.nil) λA outer s H E f c' a_ hr=>?_;have tk:Z.Takes (tv P w K mg base my [] A outer s H E f c' a_) (λc d _ H'=>E c d H'):=Z.takes_of rfl rfl rfl rfl;exact(bX tk kJ (bq hr) T.og T.Fz (ai au az))
theorem ao4(T:c5 K mg ad)(iF:aZ P w K mg base 18 ad.ph g6):nT P w K mg base 19 oa (E8):=by
 refine zI (fl:=(ak g6 (ae (eName 0) ah))) anY (λρ H=>ay.nil) λA outer s H E f c' a_ hr=>?_;have tk:Z.Takes (tv P w K mg base oa [] A outer s H E f c' a_) (λc d _ H'=>E c d H'):=Z.takes_of rfl rfl rfl rfl;exact(bX tk iF (bq hr) T.rM T.AQ (ai au az))
theorem ao5(T:c5 K mg ad)(iF:aZ P w K mg base 18 ad.ph g6):nT P w K mg base 19 oc (E9):=by
 refine zI (fl:=(ak g6 (ae (eName 0) ah))) anZ (λρ H=>ay.cons ie (ay.nil)) λA outer s H E f c' a_ hr=>?_;have tk:Z.Takes (tv P w K mg base oc ["_law_a"] A outer s H E f c' a_) (λc d _ H'=>E c d H'):=Z.takes_of rfl rfl rfl rfl;exact(bX tk iF (bq hr) T.rM T.AQ (ai au az))
theorem ao6(T:c5 K mg ad)(iF:aZ P w K mg base 18 ad.ph g6)(kJ:aZ P w K mg base 26 ad.rP jar):nT P w K mg base 27 oe (E_):=by
 refine zI (fl:=(ak g6 (ae (ak bu (ae (af (.str "loop")) (ae (ak jar (ae (eName 0) ah)) ah))) ah))) an0 (λρ H=>ay.cons ie (ay.nil)) λA outer s H E f c' a_ hr=>?_;have tk:Z.Takes (tv P w K mg base oe ["_law_b"] A outer s H E f c' a_) (λc d _ H'=>E c d H'):=Z.takes_of rfl rfl rfl rfl;exact(bX tk iF (bq hr) T.rM T.AQ (ai (b6 (ai aG (ai (bX tk kJ (bq hr) T.og T.Fz (ai au az)) az))) az))
theorem ao7(T:c5 K mg ad)(FH:aZ P w K mg base 19 ad.AG yb)(kJ:aZ P w K mg base 26 ad.rP jar):nT P w K mg base 27 pa (E'):=by
 refine zI (fl:=(aq (aQ false) (ak jar (ae (ak yb (ae (eName 0) ah)) ah)) (eName 0))) an1 (λρ H=>ay.nil) λA outer s H E f c' a_ hr=>?_;have tk:Z.Takes (tv P w K mg base pa [] A outer s H E f c' a_) (λc d _ H'=>E c d H'):=Z.takes_of rfl rfl rfl rfl;exact(iM (dR hr.units) (bX tk kJ (bq hr) T.og T.Fz (ai (bX tk FH (bq hr) T.ya T.aob (ai au az)) az)) au)
theorem ao8(T:c5 K mg ad)(kJ:aZ P w K mg base 26 ad.rP jar):nT P w K mg base 27 la (Fb):=by
 refine zI (fl:=(ak jar (ae (eName 0) ah))) an2 (λρ H=>ay.nil) λA outer s H E f c' a_ hr=>?_;have tk:Z.Takes (tv P w K mg base la [] A outer s H E f c' a_) (λc d _ H'=>E c d H'):=Z.takes_of rfl rfl rfl rfl;exact(bX tk kJ (bq hr) T.og T.Fz (ai au az))
theorem ao9(Ps:Nat->Addr)(T:c5 K mg ad){fd:FuncData}(F:dV K "_law_why" "_law_why" Bw ad.ye fd)(SR:H9 P w K mg base 1 ad.Ff x')(iF:aZ P w K mg base 18 ad.ph g6)(FH:aZ P w K mg base 19 ad.AG yb)(kJ:aZ P w K mg base 26 ad.rP jar)(SU:DP P w K mg base 27 (pe Ps)):aZ P w K mg base 28 ad.ye (kG Ps):=by
 refine gi (N:=["_law_ask","_law_e"]) (k:=27) (body:=rN Ps) F abj (hC F) λhr tk hp=>?_;unfold rN;exact(bg (agI (n:="_law_e") (tab:=[("InvalidRatio",true),("InvalidText",true),("InvalidPlan",true)]) rfl rfl abj.nd rfl rfl (W' rfl T.aop rfl T.aoq rfl T.aor) tk (zQ T.lh T.Ss (zQ T.lj T.Sw (zQ T.ll T.Sq XT))) (λl' pn xe tk =>
 (bg (bQ (b6 (ai aG (ai (ag0 tk SU (bq hr) rfl (.inl rfl)) az)))))) (λa pn =>
 (bg (bQ (b6 (ai (l0 (ef T.lh T.om T.px (ef T.lj T.oo T.pz (ef T.ll T.oj T.pw md))) au) (ai (jp1 q0 SR (RoomH.rk hr (by omega)) T.x9 T.an8 (ai au az)) az))))))))
theorem apa(Ps:Nat->Addr)(T:c5 K mg ad){fd:FuncData}(F:dV K "_law_whys" "_law_whys" Bx ad.AI fd)(uc:aZ P w K mg base 28 ad.ye (kG Ps)):aZ P w K mg base 29 ad.AI (oh Ps):=by
 refine gi (N:=["_law_asks","_law_ask"]) (k:=28) (body:=vE Ps) F R_ (hC F) λhr tk hp=>?_;unfold vE;exact(bg (bQ (nJ (pS (own:=[("_law_ask",1)]) rfl R_.nd (blkOk_by (by rfl)) (qX au) (λ_ _ _ _ _=>(jG R_.nd)) (λ_ _ _ _ _=>kY) (λ_ _ _ _ _=>(bX q0 uc (bq hr) T.rN T.Se (ai au az)))))))
theorem apb(T:c5 K mg ad)(vQ:aZ P w K mg base 1 ad.AK rm)(iF:aZ P w K mg base 18 ad.ph g6)(vR:aZ P w K mg base 1 ad.yd k8){cd:Value}{A:Around}{outer:List Env}{n:Addr}{s:Shared}{H:Hp}{pn:List (Addr×Obj)}{xe:Value->Shared->Prop}{W:WX}(tk:Z.Takes (ZG.rx P w K mg base ["plan","queue","path","part","rows","at","one"] "parts" (defScope lA) ad.rQ cd A outer n s H pn xe) W)(hp:PassesOwn (model P w) (A.deeper (envOfC "parts" (defScope lA) n ad.rQ cd)) (envOfC "parts" (defScope lA) n ad.rQ cd) xe)(hr:Room 18 (A.deeper (envOfC "parts" (defScope lA) n ad.rQ cd))):ZG.Qz (ZG.rx P w K mg base ["plan","queue","path","part","rows","at","one"] "parts" (defScope lA) ad.rQ cd A outer n s H pn xe) W (ZG.ZD 2 1 (defBody lA)) RV RW RX RY R0 where
 pre:=by
  unfold RV;exact(a9 (wm (bX tk iF (bq hr) T.rM T.AQ (ai au az)))
 (bg (dY yc.nd (GD (ai (b6 (ai (b6 az) (ai au az))) az)))))
 t:=by
  unfold RW;exact(OT (nU.or (de.w (lJ hr.units)) (YW (n:=12) tk (bq hr) (XI T.fg T.abr vQ (bq hr) XH) (XW T.fg (XZ T.fg T.J_ XY) T.J9 T.FA XU))) au (hE az))
 A:=by
  unfold RX;exact(bg (sk (Vx VA (λ_ _ _ _ _=>y6) PySem.F.plainAttrs_list PySem.F.slot_list_pop PySem.F.type_list_pop au) (GN rfl (sj (qO yc.nd) (sj (qO yc.nd) GJ)) (lS (hG 2) (lS (hG 3) wo))) (Hw (sV (hG 2) (sV (hG 3) Hv)))))
 e:=by
  unfold RY;exact(b6 (ai au (ai au az)))
 B:=by
  unfold R0;exact(a9 (CF (own:=[("at",5),("one",6)]) rfl yc.nd (blkOk_by (by rfl)) (sw_true rfl rfl rfl rfl) (VR (ai (bX tk vR (bq hr) T.iD T.abn (ai au az)) az) rfl T.Ka) (λ_ _ _ _ _=>(M_ rfl (zf (jG yc.nd) (zf (jG yc.nd) M9)) (lS (hG 5) (lS (hG 6) wo)))) (λ_ _ _ _ _=>kY) (λ_ _ _ _ _=>(b6 (ai (b6 (PB au (ai au az))) (ai au az)))))
 (bg (wm (uK Vz (λ_ _ _ _ _=>y6) PySem.F.plainAttrs_list PySem.F.slot_list_extend PySem.F.type_list_extend au (ai (Yr au) az)))))
theorem apc(T:c5 K mg ad){fd:FuncData}(F:FunD K "parts" "parts" (defArgs lA) (defBody lA) (defScope lA) [] [] ad.rQ fd)(vQ:aZ P w K mg base 1 ad.AK rm)(iF:aZ P w K mg base 18 ad.ph g6)(vR:aZ P w K mg base 1 ad.yd k8):ZG.Jc P w K mg base 20 ad.rQ 1 [] R1 :=
 ZG.alh (N:=["plan","queue","path","part","rows","at","one"]) (ps:=["plan"]) (k:=18) (its:=[]) (dfs:=[]) F (sh:=(ZG.ZD 2 1 (defBody lA))) rfl yc anQ (hC F) .nil (λρ H=>ay.nil) (λ_ _=>rfl) λcd A outer n s H pn xe W tk hp hr=>apb T vQ iF vR tk hp hr
theorem apd:∀y∈oa.scope.names,y.2=.free->(defScope fR).names.lookup y.1=some .cell:=by decide +kernel
theorem ape:∀y∈oc.scope.names,y.2=.free->(defScope fR).names.lookup y.1=some .cell:=by decide +kernel
theorem apf:∀y∈oe.scope.names,y.2=.free->(defScope fR).names.lookup y.1=some .cell:=by decide +kernel
theorem apg:∀y∈pa.scope.names,y.2=.free->(defScope fR).names.lookup y.1=some .cell:=by decide +kernel
theorem aph(Ps:Nat->Addr)(T:c5 K mg ad){fd:FuncData}{cc:Addr}(F:dV K "_law_bounds_so" "_law_bounds_so" fR ad.pj fd)(ky:LamX.TabB base mg cc (Ps 1))(hc:fd.code=.ref cc)(yk:aZ P w K mg base 1 ad.Az (pd Ps))(yl:aZ P w K mg base 11 ad.AB tW)(vT:aZ P w K mg base 13 ad.AF q6)(uc:aZ P w K mg base 28 ad.ye (kG Ps))(ym:aZ P w K mg base 29 ad.AI (oh Ps))(SV:ZG.Jc P w K mg base 20 ad.rQ 1 [] R1):FnOk P w K mg base (Z.CX P w) 30 ad.pj fd [] (λvs H Q E=>∀aU,jA K mg 0 (bI 9 (t8 Ps aU)) vs H Q E):=by
 refine XQ (N:=["_law_row","_law_full","_law_over","_law_deep","_law_told","_law_due","_law_late","_law_wrong","_law_one"]) F qu (k:=29) (body:=λaU=>t8 Ps aU) λA outer s H E hr=>?_;refine n_ λtk hp=>?_;have api:∀y∈oa.scope.names,y.2=.free->(cxOf (Z.CX P w) P w K mg base ["_law_row","_law_full","_law_over","_law_deep","_law_told","_law_due","_law_late","_law_wrong","_law_one"] "_law_bounds_so" (defScope fR) ad.pj fd.code A outer s H E).env.kindOf y.1=some .cell:=apd;have apj:∀y∈oc.scope.names,y.2=.free->(cxOf (Z.CX P w) P w K mg base ["_law_row","_law_full","_law_over","_law_deep","_law_told","_law_due","_law_late","_law_wrong","_law_one"] "_law_bounds_so" (defScope fR) ad.pj fd.code A outer s H E).env.kindOf y.1=some .cell:=ape;have apk:∀y∈oe.scope.names,y.2=.free->(cxOf (Z.CX P w) P w K mg base ["_law_row","_law_full","_law_over","_law_deep","_law_told","_law_due","_law_late","_law_wrong","_law_one"] "_law_bounds_so" (defScope fR) ad.pj fd.code A outer s H E).env.kindOf y.1=some .cell:=apf;have apl:∀y∈pa.scope.names,y.2=.free->(cxOf (Z.CX P w) P w K mg base ["_law_row","_law_full","_law_over","_law_deep","_law_told","_law_due","_law_late","_law_wrong","_law_one"] "_law_bounds_so" (defScope fR) ad.pj fd.code A outer s H E).env.kindOf y.1=some .cell:=apg;unfold t8;exact(a9 (dY qu.nd (bx da (b6 (ai aG az)) (bx Yu (b6 (ai (b6 (ai aG (ai aG az))) az)) aK)))
 (a9 (dY qu.nd (b6 (ai aG (ai au (ai au (ai au (ai au (ai au (ai (b6 (ai aG (ai (b6 (ai aG (ai aG az))) (ai (b6 (ai aG (ai aG az))) (ai (b6 (ai aG (ai aG az))) az))))) az)))))))))
 (a9 (dY qu.nd (bx da (nH au pN (lO aK)) (b6 (ai (b6 (ai aG (ai (b6 (ai aG (ai aG az))) (ai (b6 (ai aG (ai aG az))) (ai (b6 (ai aG (ai aG az))) (ai (b6 (ai aG (ai aG az))) az)))))) az))))
 (a9 (dY qu.nd (bx da (bx da (bx rq aG aK) aG) (bx rq aG aK)))
 (a9 (dY qu.nd (Du (cn:=["_law_full","_law_over","_law_deep"]) ym (bq hr) T.vE T.Sf (λ_=>rfl) (qd rfl (qd rfl (qd rfl DM))) (ai (hE (ai (Ij (ti:=1) (T:=oa) ky hc rfl rfl rfl api) (ai (XD (ti:=1) (T:=oc) ky hc rfl rfl rfl rfl apj) (ai (XD (ti:=1) (T:=oe) ky hc rfl rfl rfl rfl apk) az)))) az)))
 (a9 (dY qu.nd (hE (ai (b6 (ai aG (ai uC az))) (ai (b6 (ai aG (ai (b6 (ai aK (ai aK az))) az))) (ai (b6 (ai aG (ai (bx Yu (b6 (ai aK az)) aK) az))) az)))))
 (a9 (dY qu.nd (hE (ai (aJ hr (Du (cn:=["_law_full","_law_over","_law_deep"]) uc (bq hr) T.rN T.Se (λ_=>rfl) (qd rfl (qd rfl (qd rfl DM))) (ai (Ij (ti:=1) (T:=pa) ky hc rfl rfl rfl apl) az)) aK) (ai (c9 iU rfl T.h7 iJ (ai (nJ (ZG.alY hr (ZG.alk (off:=1) SV (Room.in1 (Room.in1 (bq hr))) T.aoe T.aof (ai au az)) rfl T.t_)) az)) az))))
 (a9 (dY qu.nd (Du (cn:=["_law_full","_law_over","_law_deep"]) ym (bq hr) T.vE T.Sf (λ_=>rfl) (qd rfl (qd rfl (qd rfl DM))) (ai (hE (ai (bX tk yk (bq hr) T.x8 T.Sb (ai (bX tk yl (bq hr) T.rF T.J6 (ai au az)) az)) (ai (bX tk yk (bq hr) T.x8 T.Sb (ai (bx da (bx da aG au) aG) az)) az))) az)))
 (bg (bQ (mH (bX tk vT (bq hr) T.kZ T.Fy (ai au (ai au az))) (mH (bX tk vT (bq hr) T.kZ T.Fy (ai au (ai (hE (ai se (ai aK az))) az))) (oD (iM (dR hr.units) (nJ (pS (own:=[("_law_one",8)]) rfl qu.nd (blkOk_by (by rfl)) (qX au) (λ_ _ _ _ _=>(jG qu.nd)) (λ_ _ _ _ _=>kY) (λ_ _ _ _ _=>(aJ hr au aK)))) (bx rq (hE (ai aG az)) aK)))))))))))))))
theorem apm(Ps:Nat->Addr){fd:FuncData}(F:dV K "_law_bounds_so" "_law_bounds_so" fR ad.pj fd)(O:FnOk P w K mg base (Z.CX P w) 30 ad.pj fd [] (λvs H Q E=>∀aU,jA K mg 0 (bI 9 (t8 Ps aU)) vs H Q E)):aZ P w K mg base 30 ad.pj (Ay Ps):=ahA O (anB F)
theorem apn(T:c5 K mg ad){fd:FuncData}(F:dV K "_law_pick" "_law_pick" By ad.t9 fd)  : aZ P w K mg base 1 ad.t9 iy:=by
 refine gi (N:=["_law_bag_here","_law_many","_law_cell","_law_digit","_law_seed"]) (k:=0) (body:=hM) F JZ (n' F) λhr tk hp=>?_;unfold hM;exact(a9 (cO (g_.eb (GB (bW (dR hr.units) (aJ hr au aK) aK) (GA (bW zg (aJ hr au aK) (c9 iU rfl T.h7 iJ (ai (aJ hr au aK) az))))))
 (a9 (dY JZ.nd (aJ hr (aJ hr au aK) (aJ hr au aK)))
 (a9 (sk (bx da (aJ hr au aK) aK) (Cp (CD hr.units) au aK) (Cm _ _))
 (bg (cO (bW Vf au (bx adt aK aK))
 (bg (sk au (Cp (CD hr.units) au aK) (Cm _ _)))
 (bg (sk (bx sC (jb sE rfl T.lq mD (ai (bx da (bx da (bx sU (aJ hr au aK) aK) (bx sU (bx sC (jb sE rfl T.lq mD (ai au az)) aK) aK)) aK) az)) aK) (Cp (CD hr.units) au aK) (Cm _ _)))))))
 cW)
 (a9 (cO (bW uH (aJ hr au aK) aK)
 (a9 (dY JZ.nd (bx sC (jb sE rfl T.lq mD (ai (aJ hr au aK) az)) au))
 (a9 (sk (bx qS (aJ hr au aK) au) (Cp (CD hr.units) au aK) (Cm _ _))
 (bg (bQ au))))
 cW)
 (a9 (dY JZ.nd (aJ hr au aK))
 (a9 (sk (bx sC (jb sE rfl T.lq mD (ai (bx da (bx da (bx sU au au) (bx sU au aK)) aK) az)) aK) (Cp (CD hr.units) au aK) (Cm _ _))
 (bg (bQ (bx sC (jb sE rfl T.lq mD (ai (bx da (bx qS (aJ hr au aK) aK) (bx sU (bx sC (jb sE rfl T.lq mD (ai (aJ hr au aK) az)) aK) aK)) az)) au)))))))
theorem apo(T:c5 K mg ad){fd:FuncData}(F:dV K "_law_of" "_law_of" Bz ad.vI fd)(i_:aZ P w K mg base 1 ad.t9 iy):aZ P w K mg base 2 ad.vI j7:=by
 refine gi (N:=["_law_bag_here","_law_some"]) (k:=1) (body:=nM) F anR (n' F) λhr tk hp=>?_;unfold nM;exact(bg (bQ (aJ hr au (bX tk i_ (bq hr) T.hM T.rS (ai au (ai (c9 iU rfl T.h7 iJ (ai au az)) az))))))
theorem apq(T:c5 K mg ad){fd:FuncData}(F:dV K "_law_name" "_law_name" BA ad.Fn fd)(lr:aZ P w K mg base 2 ad.vI j7)(i_:aZ P w K mg base 1 ad.t9 iy):aZ P w K mg base 3 ad.Fn Ex:=by
 refine gi (N:=["_law_bag_here","_law_many","_law_letters","_law_stem","_law_k","_law_at","_law_first","_law_found","_law_one"]) (k:=2) (body:=xR) F qv (n' F) λhr tk hp=>?_;unfold xR;exact(a9 (dY qv.nd aG)
 (a9 (dY qv.nd (uK MP (λ_ _ _ _ _=>Ha) FZ KZ K0 aG (ai (nJ (pS (own:=[("_law_k",4)]) rfl qv.nd (blkOk_by (by rfl)) (Hl (ai (bX tk i_ (bq hr) T.hM T.rS (ai au (ai aK az))) az) rfl T.AV) (λ_ _ _ _ _=>(jG qv.nd)) (λ_ _ _ _ _=>kY) (λ_ _ _ _ _=>(bX q0 lr (bq hr) T.nM T.yg (ai au (ai au az)))))) az)))
 (a9 (sk (b6 (ai (bX tk i_ (bq hr) T.hM T.rS (ai au (ai (bx da (c9 iU rfl T.h7 iJ (ai au az)) aK) az))) (ai (bX tk i_ (bq hr) T.hM T.rS (ai au (ai aK az))) az))) (GN rfl (sj (qO qv.nd) (sj (qO qv.nd) GJ)) (lS (hG 5) (lS (hG 6) wo))) (Hw (sV (hG 5) (sV (hG 6) Hv))))
 (a9 (CF (own:=[("_law_k",4)]) rfl qv.nd (blkOk_by (by rfl)) (sw_true rfl rfl rfl rfl) (Hl (ai au az) rfl T.AV) (λ_ _ _ _ _=>(jG qv.nd)) (λ_ _ _ _ _=>kY) (λ_ _ _ _ _=>(bx da (bx da (nH au pN (lO au)) (aJ hr au (bx sC (jb sE rfl T.lq mD (ai (bx da au (bx sU aK au)) az)) aK))) (nH au (lO au) pN))))
 (bg (bQ (nJ (pS (own:=[("_law_one",8)]) rfl qv.nd (blkOk_by (by rfl)) (qX au) (λ_ _ _ _ _=>(jG qv.nd)) (λ_ _ _ _ _=>kY) (λ_ _ _ _ _=>(iN (bW (jg hr.units) au (b6 (ai aG (ai aG az)))) (bx da au aG) au))))))))))
theorem apr(T:c5 K mg ad){fd:FuncData}(F:dV K "bottom" "Ratio.bottom" BD ad.J2 fd)  : aZ P w K mg base 1 ad.J2 DU:=by
 refine gi (N:=["self"]) (k:=0) (body:=Iu) F anS (hC F) λhr tk hp=>?_;unfold Iu;exact(bg (bQ (gA (gx T.fg T.lg T.vL gv) au)))
theorem aps(T:c5 K mg ad){fd:FuncData}(F:dV K "top" "Ratio.top" BE ad.J3 fd)  : aZ P w K mg base 1 ad.J3 DV:=by
 refine gi (N:=["self"]) (k:=0) (body:=Iv) F anT (hC F) λhr tk hp=>?_;unfold Iv;exact(bg (bQ (gA (gx T.fg T.lg T.vM gv) au)))
theorem apt(T:c5 K mg ad){fd:FuncData}(F:dV K "_law_pair" "_law_pair" BF ad.AJ fd)(SW:aZ P w K mg base 1 ad.J2 DU)(SY:aZ P w K mg base 1 ad.J3 DV):aZ P w K mg base 3 ad.AJ tF:=by
 refine gi (N:=["_law_found"]) (k:=2) (body:=xr) F anU (hC F) λhr tk hp=>?_;unfold xr;exact(bg (bQ (iN (hS (c9 (OU (O0 T.fg T.Sl (O1 T.fg T.Si T.FC zR) zR OZ)) rfl T.h6 iK (ai au (ai (L5 rfl T.fg) az)))) (b6 (ai (gA (gx T.fg T.lg ⟨_,_,_,T.aom,SY,hr.mono (by omega)⟩ gv) au) (ai (gA (gx T.fg T.lg ⟨_,_,_,T.aol,SW,hr.mono (by omega)⟩ gv) au) az))) uC)))
theorem abC(T:c5 K mg ad){fd:FuncData}(F:dV K "_law_own" "_law_own" BG ad.Fo fd)(vP:aZ P w K mg base 1 ad.AA rD)(yn:aZ P w K mg base 3 ad.AJ tF):∀k,aZ P w K mg base (k+4) ad.Fo (vG k)
 |0=>zk
 |k+1=>by
  have i9:=abC T F vP yn k;have gy:k+4<=k+4:=Nat.le_refl _;refine sT (tx (N:=["_law_plan_here","_law_inner_here","_law_one"]) F J0 (k:=k+4) (body:=vF (vG k)) λA outer s H E hr=>?_) (hC F);refine n_ λtk hp=>?_;unfold vF;exact(a9 (dY J0.nd (jb Vn rfl T.vO yA (ai (nJ (pS (own:=[("_law_one",2)]) rfl J0.nd (blkOk_by (by rfl)) (qX (bX tk vP (bq hr) T.m5 T.abm (ai au az))) (λ_ _ _ _ _=>(jG J0.nd)) (λ_ _ _ _ _=>kY) (λ_ _ _ _ _=>(bX q0 i9 (hr.mono gy) T.vF T.abq (ai au az))))) az)))
  (a9 (cO (bW (dR hr.units) (aJ hr au aK) aG)
  (bg (bQ (b6 (ai aG (ai (bX tk yn (bq hr) T.xr T.abp (ai (aJ hr au aK) az)) (ai (aJ hr au aK) az))))))
  cW)
  (bg (bQ (iN (OT (nU.or (de.w (dR hr.units)) (aka (ahE hr.units))) au (b6 az)) au (bx da (b6 (ai (aJ hr au aK) az)) au))))))
theorem apu(T:c5 K mg ad){fd:FuncData}(F:dV K "_law_gcd" "_law_gcd" BH ad.Fp fd)  : aZ P w K mg base 1 ad.Fp DT:=by
 refine gi (N:=["_law_one","_law_other","_law_high","_law_low"]) (k:=0) (body:=zZ) F R' (n' F) λhr tk hp=>?_;unfold zZ;exact(a9 (BX (j:=3) rfl R'.nd (ai (c9 DG rfl T.yh A_ (ai au az)) (ai (c9 DG rfl T.yh A_ (ai au az)) az)))
 (a9 (BZ hp (bW uH au aK)
 (bg (BX (j:=3) rfl R'.nd (ai au (ai (bx sC (jb sE rfl T.lq mD (ai au az)) au) az)))))
 (bg (bQ au))))
theorem apv(T:c5 K mg ad){fd:FuncData}(F:dV K "_law_frac" "_law_frac" BI ad.Fq fd)(S3:aZ P w K mg base 1 ad.Fp DT):aZ P w K mg base 2 ad.Fq z2:=by
 refine gi (N:=["_law_up","_law_down","_law_share"]) (k:=1) (body:=z1) F abk (n' F) λhr tk hp=>?_;unfold z1;exact(a9 (dY abk.nd (bX tk S3 (bq hr) T.zZ T.aoi (ai au (ai au az))))
 (bg (bQ (iN (bW uH au aK) (b6 (ai (bx qS au au) (ai (bx qS au au) az))) (b6 (ai (bx sA aK (bx qS au au)) (ai (bx sA aK (bx qS au au)) az)))))))
theorem apw(T:c5 K mg ad){fd:FuncData}(F:dV K "_law_small_frac" "_law_small_frac" BJ ad.Fs fd)(S4:aZ P w K mg base 2 ad.Fq z2)(lr:aZ P w K mg base 2 ad.vI j7)(i_:aZ P w K mg base 1 ad.t9 iy):aZ P w K mg base 3 ad.Fs Ed:=by
 refine gi (N:=["_law_bag_here"]) (k:=2) (body:=xD) F anV (hC F) λhr tk hp=>?_;unfold xD;exact(bg (bQ (bX tk S4 (bq hr) T.z1 T.aoj (ai (bX tk lr (bq hr) T.nM T.yg (ai au (ai (hE (ai aK (ai aK (ai aK (ai aK (ai (bx sA aK aK) (ai (bx sA (bX tk i_ (bq hr) T.hM T.rS (ai au (ai aK az))) aK) az))))))) az))) (ai (bX tk lr (bq hr) T.nM T.yg (ai au (ai (hE (ai aK (ai aK (ai aK (ai aK (ai aK az)))))) az))) az)))))
theorem abD(T:c5 K mg ad){fd:FuncData}(F:dV K "_law_plan" "_law_plan" BK ad.Ft fd)(lr:aZ P w K mg base 2 ad.vI j7)(i_:aZ P w K mg base 1 ad.t9 iy)(Ke:aZ P w K mg base 3 ad.Fs Ed):∀k,aZ P w K mg base (k+4) ad.Ft (xS k)
 |0=>zk
 |k+1=>by
  have i9:=abD T F lr i_ Ke k;have gy:k+4<=k+4:=Nat.le_refl _;refine sT (tx (N:=["_law_bag_here","_law_names","_law_room","_law_way","_law_many","_law_inner_here","_law_k"]) F Fd (k:=k+4) (body:=rE (xS k)) λA outer s H E hr=>?_) (anC F);refine n_ λtk hp=>?_;unfold rE;exact(a9 (dY Fd.nd (bX tk i_ (bq hr) T.hM T.rS (ai au (ai aK az))))
  (a9 (cO (g_.eb (kP (bW zg au aK) (nu (bW zg au aK))))
  (bg (bQ (bX tk lr (bq hr) T.nM T.yg (ai au (ai (bx da (bx sU (hE (ai (b6 (ai aG (ai (bX tk lr (bq hr) T.nM T.yg (ai au (ai au az))) az))) az)) aK) (hE (ai (b6 (ai aG az)) (ai (b6 (ai aG az)) az)))) az)))))
  cW)
  (a9 (cO (bW zg au aK)
  (bg (bQ (b6 (ai aG (ai (bX tk i9 (hr.mono gy) T.rE T.J8 (ai au (ai au (ai (bx sA au aK) az)))) az)))))
  cW)
  (a9 (cO (bW (dR hr.units) au aK)
  (bg (bQ (b6 (ai aG (ai (bX tk Ke (bq hr) T.xD T.aok (ai au az)) (ai (bX tk i9 (hr.mono gy) T.rE T.J8 (ai au (ai au (ai (bx sA au aK) az)))) az))))))
  cW)
  (a9 (dY Fd.nd (bx da aK (bX tk i_ (bq hr) T.hM T.rS (ai au (ai (iN (bW uH au aK) aK aK) az)))))
  (a9 (CF (own:=[("_law_k",6)]) rfl Fd.nd (blkOk_by (by rfl)) (sw_true rfl rfl rfl rfl) (Hl (ai au az) rfl T.AV) (λ_ _ _ _ _=>(jG Fd.nd)) (λ_ _ _ _ _=>kY) (λ_ _ _ _ _=>(bX q0 i9 (hr.mono gy) T.rE T.J8 (ai au (ai au (ai (bx qS (bx sA au aK) au) az))))))
  (bg (bQ (bx da (b6 (ai (bX tk lr (bq hr) T.nM T.yg (ai au (ai (hE (ai aG (ai aG az))) az))) az)) (jb Vn rfl T.vO yA (ai au az)))))))))))
theorem apx:∀y∈my.scope.names,y.2=.free->(defScope pF).names.lookup y.1=some .cell:=by decide +kernel
theorem apy(Ps:Nat->Addr)(T:c5 K mg ad){fd:FuncData}{cc:Addr}(F:dV K "law" "law" pF ad.Fu fd)(ky:LamX.TabB base mg cc (Ps 2))(hc:fd.code=.ref cc)(yk:aZ P w K mg base 1 ad.Az (pd Ps))(S5:aZ P w K mg base 1 ad.a_1 CO)(S6:aZ P w K mg base 30 ad.pj (Ay Ps))(S7:aZ P w K mg base 3 ad.Fn Ex)(lr:aZ P w K mg base 2 ad.vI j7)(S8:aZ P w K mg base 13 ad.Fo R3)(yn:aZ P w K mg base 3 ad.AJ tF)(i_:aZ P w K mg base 1 ad.t9 iy)(S9:aZ P w K mg base 13 ad.Ft ZU)(yl:aZ P w K mg base 11 ad.AB tW)(vT:aZ P w K mg base 13 ad.AF q6)(uc:aZ P w K mg base 28 ad.ye (kG Ps))(ym:aZ P w K mg base 29 ad.AI (oh Ps))(kJ:aZ P w K mg base 26 ad.rP jar):FnOk P w K mg base (Z.CX P w) 31 ad.Fu fd ["_law_script"] (λvs H Q E=>∀aU,jA K mg 1 (bI 12 (rO Ps aU)) vs H Q E):=by
 refine XQ (N:=["_law_script","_law_bag_here","_law_names","_law_turn","_law_shown","_law_sign","_law_at","_law_bent","_law_told","_law_odd","_law_far","_law_one"]) F kg (k:=30) (body:=λaU=>rO Ps aU) λA outer s H E hr=>?_;refine n_ λtk hp=>?_;have apz:∀y∈my.scope.names,y.2=.free->(cxOf (Z.CX P w) P w K mg base ["_law_script","_law_bag_here","_law_names","_law_turn","_law_shown","_law_sign","_law_at","_law_bent","_law_told","_law_odd","_law_far","_law_one"] "law" (defScope pF) ad.Fu fd.code A outer s H E).env.kindOf y.1=some .cell:=apx;unfold rO;exact(a9 (dY kg.nd (bX tk S5 (bq hr) T.zr T.an6 (ai au az)))
 (a9 (dY kg.nd (bX tk S7 (bq hr) T.xR T.aoh (ai au (ai aK az))))
 (a9 (ade hp rfl (Hl (ai aK az) rfl T.AV) (qO kg.nd)
 (a9 (dY kg.nd (bX tk yl (bq hr) T.rF T.J6 (ai (bX tk S9 (bq hr) T.rE T.J8 (ai au (ai au (ai (bx da aK (bX tk i_ (bq hr) T.hM T.rS (ai au (ai aK az)))) az)))) az)))
 (a9 (dY kg.nd (bX tk lr (bq hr) T.nM T.yg (ai au (ai (hE (ai aG (ai aG (ai aG (ai aG (ai aG (ai aG (ai aG (ai aG (ai aG (ai aG (ai aG (ai aG (ai aG (ai aG (ai aG az)))))))))))))))) az))))
 (a9 (dY kg.nd (bX tk i_ (bq hr) T.hM T.rS (ai au (ai (bx da (c9 iU rfl T.h7 iJ (ai au az)) aK) az))))
 (a9 (dY kg.nd (bx da (bx da (nH au pN (lO au)) au) (nH au (lO (bx da au (bX tk i_ (bq hr) T.hM T.rS (ai au (ai aK az))))) pN)))
 (a9 (dY kg.nd (Du (cn:=["_law_bent"]) uc (bq hr) T.rN T.Se (λ_=>rfl) (qd rfl DM) (ai (Ij (ti:=2) (T:=my) ky hc rfl rfl rfl apz) az)))
 (bg (cO (bW (dR hr.units) (aJ hr au aK) aG)
 (bg (cO (bW (lJ hr.units) (bX tk yl (bq hr) T.rF T.J6 (ai (bX tk S8 (bq hr) T.vF T.abq (ai (aJ hr au aK) az)) az)) au)
 (bg (bQ se))
 cW))
 (bg (cO (g_.eb (kP (jX (hS (bX tk vT (bq hr) T.kZ T.Fy (ai au (ai (b6 (ai aG (ai au az))) az))))) (nu (bW (dR hr.units) au au))))
 (bg (bQ se))
 cW))))))))))
 (a9 (dY kg.nd (hE (ai aG (ai aG (ai aG (ai aG (ai aG (ai aG (ai aG (ai aG (ai aG (ai aG (ai aG (ai aG (ai aG (ai aG az))))))))))))))))
 (a9 (dY kg.nd (bx da au (hE (ai aG (ai aG (ai aG (ai aG (ai aG (ai aG (ai aG (ai aG (ai aG (ai aG (ai aG (ai aG (ai aG az))))))))))))))))
 (a9 (dY kg.nd (bx da au (hE (ai aG (ai aG (ai (bx rq aG aK) (ai (bx rq aG aK) (ai (bx da (bx rq aG aK) aG) (ai uC (ai aK az))))))))))
 (a9 (dY kg.nd (bx da au (hE (ai (b6 (ai aG (ai aG az))) (ai (hE (ai aG az)) (ai aG (ai aG (ai aG (ai (bx da (bx rq aG aK) aG) (ai (bx da (bx da aG (bx rq aG aK)) aG) az))))))))))
 (a9 (dY kg.nd (bX tk kJ (bq hr) T.og T.Fz (ai (bx da (bx rq aG aK) aG) az)))
 (a9 (cO (g_.eb (kP (bW (lJ hr.units) (aJ hr au aK) aG) (nu (bW (lJ hr.units) (bX tk yn (bq hr) T.xr T.abp (ai (aJ hr au aK) az)) (b6 (ai (jb PN rfl T.lq mD (ai (bx rq aG aK) az)) (ai aK az)))))))
 (bg (bQ se))
 cW)
 (bg (bQ (mH (aeS tk S6 (bq hr) T.t8 T.aog) (oD (bX tk vT (bq hr) T.kZ T.Fy (ai (Du (cn:=["_law_bent"]) ym (bq hr) T.vE T.Sf (λ_=>rfl) (qd rfl DM) (ai (nJ (pS (own:=[("_law_one",11)]) rfl kg.nd (blkOk_by (by rfl)) (qX au) (λ_ _ _ _ _=>(jG kg.nd)) (λ_ _ _ _ _=>kY) (λ_ _ _ _ _=>(bX q0 yk (bq hr) T.x8 T.Sb (ai au az))))) az)) (ai (nJ (pS (own:=[("_law_one",11)]) rfl kg.nd (blkOk_by (by rfl)) (qX au) (λ_ _ _ _ _=>(jG kg.nd)) (λ_ _ _ _ _=>kY) (λ_ _ _ _ _=>(b6 (ai aG (ai au az)))))) az))))))))))))))))
end
theorem apA:ZX.tn (defScope r4) "self":=⟨rfl,rfl,rfl,rfl,rfl,rfl,by decide +kernel⟩
theorem apB:ZX.zF (defArgs r4) (defScope r4) "self" ["value"]:=⟨rfl,by decide +kernel,by decide +kernel,by decide +kernel,λfd us h hd hl=>by
 obtain⟨⟩:=fd;cases h;cases hd;exact match us,hl with|[_,_],_=>rfl⟩
theorem S_:ZX.tn (defScope lB) "self":=⟨rfl,rfl,rfl,rfl,rfl,rfl,by decide +kernel⟩
theorem S':ZX.zF (defArgs lB) (defScope lB) "self" ["tag"]:=⟨rfl,by decide +kernel,by decide +kernel,by decide +kernel,λfd us h hd hl=>by
 obtain⟨⟩:=fd;cases h;cases hd;exact match us,hl with|[_,_],_=>rfl⟩
theorem apC:ZX.tn (defScope r5) "self":=⟨rfl,rfl,rfl,rfl,rfl,rfl,by decide +kernel⟩
theorem apD:ZX.zF (defArgs r5) (defScope r5) "self" ["given"]:=⟨rfl,by decide +kernel,by decide +kernel,by decide +kernel,λfd us h hd hl=>by
 obtain⟨⟩:=fd;cases h;cases hd;exact match us,hl with|[_,_],_=>rfl⟩
theorem apE:ZX.tn (defScope r6) "self":=⟨rfl,rfl,rfl,rfl,rfl,rfl,by decide +kernel⟩
theorem apF:ZX.zF (defArgs r6) (defScope r6) "self" ["path"]:=⟨rfl,by decide +kernel,by decide +kernel,by decide +kernel,λfd us h hd hl=>by
 obtain⟨⟩:=fd;cases h;cases hd;exact match us,hl with|[_,_],_=>rfl⟩
theorem apG{l:PySem.W.OpenLaw}{w:World}{K:PySem.W.Frag}{h:Heap}{mg:Str->Option Value}{base:Heap}
  {Ta:Addr} {ng:Addr} {oi:Addr} {jR:Addr}
  (X:K.In h) (G:h.Ns mainGlobals mg)
  (Kf:PySem.W.nsIn K mainGlobals "InvalidRatio"=some (some (.ref jR)))
  (FI:ZX.s8 l.prog K Ta jR "InvalidRatio.__init__" (defArgs r4) (defBody r4) (defScope r4))
  (qw:ZX.s8 l.prog K ng oi "WayError.__init__" (defArgs lB) (defBody lB) (defScope lB))
  (vU:uw K jR oi Ta ng [.type "ValueError",.type "Exception",.type "BaseException",.type "object"] "ValueError" "ValueError.__new__" "ValueError.__init__" (.ref ng) ["tag","value"]=true)
  (ud:PySem.W.nsIn K mainGlobals "super"=some none)
  (uf:PySem.W.nsIn K cStatics "thirdparty.any"=some none)
  (ug:(l.prog.main.scope.names.lookup ("super":Str)).isSome=false)
  : k2 l.prog w K mg base "InvalidRatio" jR 2 "InvalidRatio" ["value"]:=by
 have vV:L2.Mod K mg base->ZX.uW l.prog K mg base:=λM=>⟨M,lz X G ud,ug,uf⟩
 obtain⟨apH,abE,apI,apJ,apK,abF,apL,apM,apN,apO,apP,apQ,apR,apS,apT,FJ,FL,_,_⟩:=kb vU;have apU:PySem.W.findIn K (.ref jR) "tag"=some none:=(kb vU).at_ (by decide +kernel);have apV:PySem.W.findIn K (.ref jR) "value"=some none:=(kb vU).at_ (by decide +kernel);have abG:ZX.q9 K jR [.type "ValueError",.type "Exception",.type "BaseException",.type "object"] "ValueError.__new__":=⟨abE,apI,apJ,apK⟩
 refine⟨dC X G Kf,apH,λM=>⟨"ValueError","ValueError.__new__","ValueError.__init__",_,Ta,yB,abE,apL,apM,?_⟩,apN,apP⟩;have w6:ZX.q' l.prog w base 1 ng jR ZX.cE:=ZX.NW K3 yB yC (vV M) qw S_ abG abF S' apS apT apO apU rfl (λenv=>⟨rfl,rfl,⟨_,rfl⟩⟩) (λenv=>rfl) (r0:=(λv=>v "tag")) (r1:=(λv=>v "tag")) (λenv vof h=>ZX.k1.par (by show env.scope.names.lookup _=_;rw[h];rfl) rfl) (λenv vof h=>ZX.k1.par (by show env.scope.names.lookup _=_;rw[h];rfl) rfl) (λv1 v2 h=>h "tag" (by simp));have FN:=ZX.N4 (l:=(["value"]:List Str).map λp=>(p,p)) w6 yC (vV M) FI apA abG abF apB apQ apR FJ FL rfl (λenv=>⟨rfl,rfl,⟨_,rfl⟩⟩) (r0:=λ_=>V.str "InvalidRatio") (λenv vof h=>ZX.k1.txt) (λv1 v2 h=>rfl) (λenv h=>.cons rfl (by show env.scope.names.lookup _=_;rw[h];rfl) rfl (.nil)) (λfp hm=>by
  simp only[cF,qB,List.mem_cons,gM,or_false]at hm;subst hm;exact⟨apV,by simp⟩) (by simp) (λvs fs h=>by unfold ZX.cE at h;split at h<;>cases h;simp)
 exact FN.cast (λvs=>ZX.DK (by decide) vs)
theorem apW{l:PySem.W.OpenLaw}{w:World}{K:PySem.W.Frag}{h:Heap}{mg:Str->Option Value}{base:Heap}
  {ng:Addr} {Tb:Addr} {oi:Addr} {h5:Addr}
  (X:K.In h) (G:h.Ns mainGlobals mg)
  (Kg:PySem.W.nsIn K mainGlobals "InvalidText"=some (some (.ref h5)))
  (qw:ZX.s8 l.prog K ng oi "WayError.__init__" (defArgs lB) (defBody lB) (defScope lB))
  (FO:ZX.s8 l.prog K Tb h5 "InvalidText.__init__" (defArgs r5) (defBody r5) (defScope r5))
  (vW:uw K h5 oi Tb ng [.type "ValueError",.type "Exception",.type "BaseException",.type "object"] "ValueError" "ValueError.__new__" "ValueError.__init__" (.ref ng) ["tag","given"]=true)
  (ud:PySem.W.nsIn K mainGlobals "super"=some none)
  (uf:PySem.W.nsIn K cStatics "thirdparty.any"=some none)
  (ug:(l.prog.main.scope.names.lookup ("super":Str)).isSome=false)
  : k2 l.prog w K mg base "InvalidText" h5 2 "InvalidText" ["given"]:=by
 have vV:L2.Mod K mg base->ZX.uW l.prog K mg base:=λM=>⟨M,lz X G ud,ug,uf⟩
 obtain⟨apX,abH,apY,apZ,ap0,abI,ap1,ap2,ap3,ap4,ap5,ap6,ap7,ap8,ap9,FJ,FL,_,_⟩:=kb vW;have aqa:PySem.W.findIn K (.ref h5) "tag"=some none:=(kb vW).at_ (by decide +kernel);have aqb:PySem.W.findIn K (.ref h5) "given"=some none:=(kb vW).at_ (by decide +kernel);have abJ:ZX.q9 K h5 [.type "ValueError",.type "Exception",.type "BaseException",.type "object"] "ValueError.__new__":=⟨abH,apY,apZ,ap0⟩
 refine⟨dC X G Kg,apX,λM=>⟨"ValueError","ValueError.__new__","ValueError.__init__",_,Tb,yB,abH,ap1,ap2,?_⟩,ap3,ap5⟩;have w6:ZX.q' l.prog w base 1 ng h5 ZX.cE:=ZX.NW K3 yB yC (vV M) qw S_ abJ abI S' ap8 ap9 ap4 aqa rfl (λenv=>⟨rfl,rfl,⟨_,rfl⟩⟩) (λenv=>rfl) (r0:=(λv=>v "tag")) (r1:=(λv=>v "tag")) (λenv vof h=>ZX.k1.par (by show env.scope.names.lookup _=_;rw[h];rfl) rfl) (λenv vof h=>ZX.k1.par (by show env.scope.names.lookup _=_;rw[h];rfl) rfl) (λv1 v2 h=>h "tag" (by simp));have FN:=ZX.N4 (l:=(["given"]:List Str).map λp=>(p,p)) w6 yC (vV M) FO apC abJ abI apD ap6 ap7 FJ FL rfl (λenv=>⟨rfl,rfl,⟨_,rfl⟩⟩) (r0:=λ_=>V.str "InvalidText") (λenv vof h=>ZX.k1.txt) (λv1 v2 h=>rfl) (λenv h=>.cons rfl (by show env.scope.names.lookup _=_;rw[h];rfl) rfl (.nil)) (λfp hm=>by
  simp only[cF,qB,List.mem_cons,gM,or_false]at hm;subst hm;exact⟨aqb,by simp⟩) (by simp) (λvs fs h=>by unfold ZX.cE at h;split at h<;>cases h;simp)
 exact FN.cast (λvs=>ZX.DK (by decide) vs)
theorem aqc{l:PySem.W.OpenLaw}{w:World}{K:PySem.W.Frag}{h:Heap}{mg:Str->Option Value}{base:Heap}
  {ng:Addr} {Tc:Addr} {oi:Addr} {jS:Addr}
  (X:K.In h) (G:h.Ns mainGlobals mg)
  (Kh:PySem.W.nsIn K mainGlobals "InvalidPlan"=some (some (.ref jS)))
  (qw:ZX.s8 l.prog K ng oi "WayError.__init__" (defArgs lB) (defBody lB) (defScope lB))
  (FP:ZX.s8 l.prog K Tc jS "InvalidPlan.__init__" (defArgs r6) (defBody r6) (defScope r6))
  (vX:uw K jS oi Tc ng [.type "ValueError",.type "Exception",.type "BaseException",.type "object"] "ValueError" "ValueError.__new__" "ValueError.__init__" (.ref ng) ["tag","path"]=true)
  (ud:PySem.W.nsIn K mainGlobals "super"=some none)
  (uf:PySem.W.nsIn K cStatics "thirdparty.any"=some none)
  (ug:(l.prog.main.scope.names.lookup ("super":Str)).isSome=false)
  : k2 l.prog w K mg base "InvalidPlan" jS 2 "InvalidPlan" ["path"]:=by
 have vV:L2.Mod K mg base->ZX.uW l.prog K mg base:=λM=>⟨M,lz X G ud,ug,uf⟩
 obtain⟨aqd,abK,aqe,aqf,aqg,abL,aqh,aqi,aqj,aqk,aql,aqm,aqn,aqo,aqp,FJ,FL,_,_⟩:=kb vX;have aqq:PySem.W.findIn K (.ref jS) "tag"=some none:=(kb vX).at_ (by decide +kernel);have aqr:PySem.W.findIn K (.ref jS) "path"=some none:=(kb vX).at_ (by decide +kernel);have abM:ZX.q9 K jS [.type "ValueError",.type "Exception",.type "BaseException",.type "object"] "ValueError.__new__":=⟨abK,aqe,aqf,aqg⟩
 refine⟨dC X G Kh,aqd,λM=>⟨"ValueError","ValueError.__new__","ValueError.__init__",_,Tc,yB,abK,aqh,aqi,?_⟩,aqj,aql⟩;have w6:ZX.q' l.prog w base 1 ng jS ZX.cE:=ZX.NW K3 yB yC (vV M) qw S_ abM abL S' aqo aqp aqk aqq rfl (λenv=>⟨rfl,rfl,⟨_,rfl⟩⟩) (λenv=>rfl) (r0:=(λv=>v "tag")) (r1:=(λv=>v "tag")) (λenv vof h=>ZX.k1.par (by show env.scope.names.lookup _=_;rw[h];rfl) rfl) (λenv vof h=>ZX.k1.par (by show env.scope.names.lookup _=_;rw[h];rfl) rfl) (λv1 v2 h=>h "tag" (by simp));have FN:=ZX.N4 (l:=(["path"]:List Str).map λp=>(p,p)) w6 yC (vV M) FP apE abM abL apF aqm aqn FJ FL rfl (λenv=>⟨rfl,rfl,⟨_,rfl⟩⟩) (r0:=λ_=>V.str "InvalidPlan") (λenv vof h=>ZX.k1.txt) (λv1 v2 h=>rfl) (λenv h=>.cons rfl (by show env.scope.names.lookup _=_;rw[h];rfl) rfl (.nil)) (λfp hm=>by
  simp only[cF,qB,List.mem_cons,gM,or_false]at hm;subst hm;exact⟨aqr,by simp⟩) (by simp) (λvs fs h=>by unfold ZX.cE at h;split at h<;>cases h;simp)
 exact FN.cast (λvs=>ZX.DK (by decide) vs)
abbrev Ki(K:PySem.W.Frag):Addr:=(He.cT K ("_law_asker",none)).1
abbrev Kj(K:PySem.W.Frag):Addr:=(He.cT K ("_law_bounds_so",none)).1
abbrev Kk(K:PySem.W.Frag):Addr:=(He.cT K ("law",none)).1
abbrev eM:PySem.W.OpenLaw:=PySem.Challenge.rw_waysagree_k32_texts_that_are_no_plans
theorem end_{w:World}{K:PySem.W.Frag}{h:Heap}{mg:Str->Option Value}{fa:Addr}(aqs:∀(Ps:Nat->Addr) (ns:List Int),ns.length<=63->(∀z∈ns,Builtin.Int.intBits z<=1048576)->∀(aU:List (Str×Addr)),∃S,bI 12 (rO Ps aU) [.ck ns] (mV [(Ps 0,"_law_asker.<locals>.<lambda>"),(Ps 1,"_law_bounds_so.<locals>.<lambda>"),(Ps 2,"law.<locals>.<lambda>")])=.ok (.bl true) S)(X:K.In h)(G:h.Ns mainGlobals mg)(hfa:mg "law"=some (.ref fa))(c:ZK.xu wa lC Gi Gj h K):LamX.LawAtS PySem.Challenge.rw_waysagree_k32_texts_that_are_no_plans w K (Z.CX PySem.Challenge.rw_waysagree_k32_texts_that_are_no_plans.prog w) 31 63 "_law_script" mg fa h:=by
 refine ZK.YQ (l:=[UO K,UP K,UQ K,UR K,UT K,UU K,UW K]) c.more λaqt abN abO abP abQ Sh aqu aqv vL vM aqw aqx aqy FA J9 J_ abu aqz aqA aqB aqC aqD aqE aqF Sj aqG aqH pk pq aqI aqJ aqK aqL aqM FC aqN aqO aqP aqQ aqR aqS aqT aqU aqV aqW aqX aqY aqZ aq0 aq1 aq2 aq3 aq4 aq5 aq6 aq7 aq8 axC aq9 ara arb arc ard arf arh ari arj ark arl arn aro arp Td axD arq ars Te axE aru arv arw arx arz arA abR arB arC Kf Kg Kh arD Sn Sq Sr Ss Sv Sw axF FI axG qw axH FO axI FP vU vW vX ud uf Tf Tg Ti Tj Tn To Tp arE arF yh FD FE Ka lq h6 h7 t_ AV pA vO Sx arG=>?_;obtain⟨axJ,Tq⟩:=c.def_ 0 (d:=T4);obtain⟨axK,abS⟩:=c.def_ 1 (d:=T5);obtain⟨axL,abT⟩:=c.def_ 2 (d:=T6);obtain⟨axM,abU⟩:=c.def_ 3 (d:=T7);obtain⟨axN,abV⟩:=c.def_ 4 (d:=T8);obtain⟨axO,abW⟩:=c.def_ 5 (d:=T9);obtain⟨arH,Kl⟩:=c.def_ 6 (d:=T_);obtain⟨axP,abX⟩:=c.def_ 7 (d:=T');obtain⟨axQ,abY⟩:=c.def_ 8 (d:=Ua);obtain⟨axR,abZ⟩:=c.def_ 9 (d:=Ub);obtain⟨axS,ab0⟩:=c.def_ 10 (d:=Uc);obtain⟨axT,ab1⟩:=c.def_ 11 (d:=Ud);obtain⟨axU,ab2⟩:=c.def_ 12 (d:=Ue);obtain⟨axV,ab3⟩:=c.def_ 13 (d:=Ug);obtain⟨axW,ab4⟩:=c.def_ 14 (d:=Uh);obtain⟨axX,arI⟩:=c.def_ 15 (d:=Ui);obtain⟨axY,ab5⟩:=c.def_ 16 (d:=Uj);obtain⟨axZ,ab6⟩:=c.def_ 17 (d:=Uk);obtain⟨ax0,ab7⟩:=c.def_ 18 (d:=Ul);obtain⟨ax1,ab8⟩:=c.def_ 19 (d:=Um);obtain⟨ax2,ab9⟩:=c.def_ 20 (d:=Uo);obtain⟨ax3,arJ⟩:=c.def_ 21 (d:=Uq);obtain⟨ax4,aca⟩:=c.def_ 22 (d:=Ur);obtain⟨ax5,Km⟩:=c.def_ 23 (d:=Us);obtain⟨ax6,acb⟩:=c.def_ 24 (d:=Ut);obtain⟨ax7,Kn⟩:=c.def_ 25 (d:=Uu);obtain⟨ax8,acd⟩:=c.def_ 26 (d:=Uv);obtain⟨ax9,ace⟩:=c.def_ 27 (d:=Uw);obtain⟨aya,acf⟩:=c.def_ 28 (d:=Ux);obtain⟨ayb,acg⟩:=c.def_ 29 (d:=Uy);obtain⟨ayc,Ko⟩:=c.def_ 30 (d:=Uz);obtain⟨ayd,ach⟩:=c.def_ 31 (d:=UA);obtain⟨aye,aci⟩:=c.def_ 32 (d:=UC);obtain⟨ayf,acj⟩:=c.def_ 33 (d:=UD);obtain⟨ayg,arK⟩:=c.def_ 34 (d:=UE);obtain⟨ayh,arL⟩:=c.def_ 35 (d:=UG);obtain⟨ayi,acm⟩:=c.def_ 36 (d:=UH);obtain⟨ayj,acn⟩:=c.def_ 37 (d:=UI);obtain⟨ayk,aco⟩:=c.def_ 38 (d:=UJ);obtain⟨ayl,acp⟩:=c.def_ 39 (d:=UK);obtain⟨aym,acq⟩:=c.def_ 40 (d:=UL);obtain⟨ayn,acr⟩:=c.def_ 41 (d:=UM);obtain⟨acs,Kq⟩:=c.def_ 42 (d:=UN);have Td:=(ZK.Yo Td).choose_spec;have Te:=(ZK.Yo Te).choose_spec;have FI:=ZK.eC.sup (prog:=PySem.Challenge.pw_waysagree_k32_texts_that_are_no_plans) (d:=LX) (c.IC 0) rfl FI;have qw:=ZK.eC.sup (prog:=PySem.Challenge.pw_waysagree_k32_texts_that_are_no_plans) (d:=LY) (c.IC 1) rfl qw;have FO:=ZK.eC.sup (prog:=PySem.Challenge.pw_waysagree_k32_texts_that_are_no_plans) (d:=LZ) (c.IC 2) rfl FO;have FP:=ZK.eC.sup (prog:=PySem.Challenge.pw_waysagree_k32_texts_that_are_no_plans) (d:=L0) (c.IC 3) rfl FP;have ug:(eM.prog.main.scope.names.lookup ("super":Str)).isSome=false:=rfl;have Tf:=He.str_ok X G Tf;have Tg:=He.str_ok X G Tg;have Ti:=He.int_ok X G Ti;have Tj:=He.int_ok X G Tj;have Tn:=He.int_ok X G Tn;have To:=He.int_ok X G To;have Tp:=He.int_ok X G Tp;have arM:=ZK.Pp (p:=("_law_asker",none)) Tq;have arN:=c.hd ("_law_asker",none) (by simp);have arO:=c.out ("_law_asker",none) (by simp);have arP:=c.empty ("_law_asker",none) (by simp);have arQ:=ZK.Pp (p:=("_law_bounds_so",none)) Ko;have arR:=c.hd ("_law_bounds_so",none) (by simp);have arS:=c.out ("_law_bounds_so",none) (by simp);have arT:=c.empty ("_law_bounds_so",none) (by simp);have arU:=ZK.Pp (p:=("law",none)) Kq;have arV:=c.hd ("law",none) (by simp);have arW:=c.out ("law",none) (by simp);have tm_law:=c.empty ("law",none) (by simp);have e:=hfa.symm.trans (dC X G abR);have e2:(F8 K)=fa:=by injection e with e;injection e with e;exact e.symm
 subst e2;have T:c5 K mg ⟨(La K),(Lb K),(Lc K),(Ld K),(Le K),(Lf K),(F7 K),(Lg K),(Lh K),(Li K),(Lj K),(Lk K),(Ln K),(Lp K),(Lq K),(Lr K),(Ls K),(Lv K),(Lw K),(Lx K),(Ly K),(Lz K),(LA K),(LC K),(LD K),(LI K),(LJ K),(LK K),(LL K),(LN K),(LO K),(F8 K),(gN K),(kM K),(F9 K),(F_ K),(F' K),(Ga K),(Gb K),(Ge K),(Gf K),(Gg K),(Gh K),(LQ K),(LR K),(T2 K),(BO K),(BP K),(qI K),(BL K),(qJ K),(qK K),(qL K),(BM K)⟩:=⟨dC X G aqO,Tq.kp,dC X G aqP,abS.kp,dC X G aqQ,abT.kp,dC X G aqR,abU.kp,dC X G aqS,abV.kp,dC X G aqT,abW.kp,dC X G aqU,Kl.kp,dC X G aqW,abY.kp,dC X G aqX,abZ.kp,dC X G aqY,ab0.kp,dC X G aqZ,ab1.kp,dC X G aq1,ab3.kp,dC X G aq2,ab4.kp,dC X G aq4,ab5.kp,dC X G aq5,ab6.kp,dC X G aq7,ab8.kp,dC X G aq8,ab9.kp,dC X G ard,acd.kp,dC X G arf,ace.kp,dC X G arh,acf.kp,dC X G ari,acg.kp,dC X G arj,Ko.kp,dC X G ark,ach.kp,dC X G arl,aci.kp,dC X G arn,acj.kp,dC X G aru,acm.kp,dC X G arv,acn.kp,dC X G arw,aco.kp,dC X G arx,acp.kp,dC X G arz,acq.kp,dC X G arA,acr.kp,dC X G abR,Kq.kp,dC X G aqt,⟨abN,abO,abP,abQ⟩,⟨Sh,aqv,aq6,aqu⟩,vL,vM,⟨aqw,aqV,abX.kp⟩,⟨aqx,aq0,ab2.kp⟩,⟨⟨abN,abO,abP,abQ⟩,aqy,FA⟩,J9,FA,J_,abu,⟨aqz,aro,arp,⟨_,Td⟩⟩,⟨aqA,arq,ars,⟨_,Te⟩⟩,dC X G aqB,⟨aqC,aqD,aqE,aqF⟩,⟨Sj,aqH,aq3,aqG⟩,pk,pq,⟨aqI,arc,Kn.kp⟩,⟨aqJ,ara,Km.kp⟩,⟨aqK,arb,acb.kp⟩,⟨aqL,aq9,aca.kp⟩,ajN aqM,FC,aqN,dC X G arB,dC X G arC,dC X G Kf,dC X G Kg,dC X G Kh,dC X G arD,(kb vX).xf,(kb vX).at_ (by decide +kernel),(kb vX).at_ (by decide +kernel),(kb vU).xf,(kb vU).at_ (by decide +kernel),(kb vU).at_ (by decide +kernel),(kb vW).xf,(kb vW).at_ (by decide +kernel),(kb vW).at_ (by decide +kernel),Sn,Sq,Sr,Ss,Sv,Sw,Tf,Tg,Ti,Tj,Tn,To,Tp,⟨_,dC X G arE,akD arF⟩,lz X G yh,lz X G FD,lz X G FE,lz X G Ka,lz X G lq,lz X G h6,lz X G h7,lz X G t_,lz X G AV,lz X G pA,lz X G vO,lz X G Sx⟩
 have Kl:=He5.fun_of (show FunD K "_law_field" "_law_field" (defArgs ux) (defBody ux) (defScope ux) [] [] (F7 K) arH from Kl);have arX:∀(s:Shared) (v:Value),BindsTo s acs ⟨[v],[]⟩ [("_law_script",v)]:=λs v=>(FunD.bindsA (ps:=["_law_script"]) Kq λ_ _ _ _ _ _ us hl=>match us,hl with|[_],_=>rfl) s [v] rfl;let Ps:Nat->Addr:=(λi=>[(yF K),(yG K),(yH K)].getD i 0)
 have gK:∀p∈[((Ki K),(yF K)),((Kj K),(yG K)),((Kk K),(yH K))],h.get? p.2=some { cls:=.none,data:=.fields #[] }/\K.lookup p.2=none/\PySem.W.CodeHd h p.1 p.2:=by
  intro p hp;simp only[List.mem_cons,gM,or_false]at hp;rcases hp with rfl|rfl|rfl
  .exact⟨arP,arO,K4 X arN⟩
  .exact⟨arT,arS,K4 X arR⟩
  .exact⟨tm_law,arW,K4 X arV⟩
 refine⟨acs,[((Ki K),(yF K)),((Kj K),(yG K)),((Kk K),(yH K))],(λvs H Q E=>∀aU,jA K mg 1 (bI 12 (rO Ps aU)) vs H Q E),λp hp=>(gK p hp).1,λp hp=>(gK p hp).2.1,λp hp=>(gK p hp).2.2,arX,λH a ns hl arY bU bO aU=>?_,λbase ayo _ Tr=>?_⟩
 .refine ahC (cs:=[(Ps 0,"_law_asker.<locals>.<lambda>"),(Ps 1,"_law_bounds_so.<locals>.<lambda>"),(Ps 2,"law.<locals>.<lambda>")]) arG (λc hc=>?_) bO (aqs Ps ns hl arY aU)
  simp only[List.mem_cons,gM,or_false]at hc;rcases hc with rfl|rfl|rfl
  .exact bU ((Ki K),(yF K)) (by simp)
  .exact bU ((Kj K),(yG K)) (by simp)
  .exact bU ((Kk K),(yH K)) (by simp)
 .have Kd:=apG (l:=eM) (w:=w) (base:=base) X G Kf FI qw vU ud uf ug
  have hQ:=apW (l:=eM) (w:=w) (base:=base) X G Kg qw FO vW ud uf ug;have SA:=aqc (l:=eM) (w:=w) (base:=base) X G Kh qw FP vX ud uf ug;have yk:=aoB (P:=eM.prog) (w:=w) (base:=base) Ps T Tq (Tr ((Ki K),(yF K)) (by simp)) arM;have S5:=aoD (P:=eM.prog) (w:=w) (base:=base) T abS;have Kb:=aoE (P:=eM.prog) (w:=w) (base:=base) T abT;have vP:=aoF (P:=eM.prog) (w:=w) (base:=base) T abU;have yl:=aby (P:=eM.prog) (w:=w) (base:=base) T abV Kb vP 9;have vT:=abz (P:=eM.prog) (w:=w) (base:=base) T abW  12;have SR:=aoG (P:=eM.prog) (w:=w) (base:=base) T Kl;have vQ:=aoH (P:=eM.prog) (w:=w) (base:=base) T abX;have Sy:=aoI (P:=eM.prog) (w:=w) (base:=base) T abY;have Sz:=aoJ T abZ Sy;have vR:=aoK (P:=eM.prog) (w:=w) (base:=base) T ab0;have iF:=aoL T ab1 vQ Sz vR SA;have yi:=aoM (P:=eM.prog) (w:=w) (base:=base) T ab2;have SE:=abA (P:=eM.prog) (w:=w) (base:=base) T ab3 yi 9;have FH:=aoN T ab4 iF SE;have SN:=aoO (P:=eM.prog) (w:=w) (base:=base) T arI;have SF:=aoP (P:=eM.prog) (w:=w) (base:=base) T ab5;have Kc:=aoQ (P:=eM.prog) (w:=w) (base:=base) T ab6;have arZ:=aoR (P:=eM.prog) (w:=w) (base:=base) T ab7 SF Kc Kd;have SG:=aoS ab7 arZ;have yj:=aoT (P:=eM.prog) (w:=w) (base:=base) T ab8;have SH:=aoU T ab9 yj;have vS:=aoV T arJ SG yi yj SH hQ;have kI:=aoW (P:=eM.prog) (w:=w) (base:=base) T aca;have ua:=aoZ (P:=eM.prog) (w:=w) (base:=base) T acb;have SQ:=SM (P:=eM.prog) (w:=w) (base:=base) T Kn vS ua kI hQ Km 9;have ayp:=abB (P:=eM.prog) (w:=w) (base:=base) T Kn vS ua kI hQ Km 8 (SM (P:=eM.prog) (w:=w) (base:=base) T Kn vS ua kI hQ Km 8);have kJ:=ao1 T acd SN SQ iF hQ;have SU:DP eM.prog w K mg base 27 (pe Ps):=zS (ao3 T kJ) (by omega) (zS (ao4 T iF) (by omega) (zS (ao5 T iF) (by omega) (zS (ao6 T iF kJ) (by omega) (zS (ao7 T FH kJ) (by omega) (zS (ao8 T kJ) (by omega) (ahD))))));have uc:=ao9 Ps T ace SR iF FH kJ SU;have ym:=apa Ps T acf uc;have SV:=apc (P:=eM.prog) (w:=w) (base:=base) T acg vQ iF vR;have ar0:=aph (P:=eM.prog) (w:=w) (base:=base) Ps T Ko (Tr ((Kj K),(yG K)) (by simp)) arQ yk yl vT uc ym SV;have S6:=apm Ps Ko ar0;have i_:=apn (P:=eM.prog) (w:=w) (base:=base) T ach;have lr:=apo T aci i_;have S7:=apq T acj lr i_;have SW:=apr (P:=eM.prog) (w:=w) (base:=base) T arK;have SY:=aps (P:=eM.prog) (w:=w) (base:=base) T arL;have yn:=apt T acm SW SY;have S8:=abC (P:=eM.prog) (w:=w) (base:=base) T acn vP yn 9;have S3:=apu (P:=eM.prog) (w:=w) (base:=base) T aco;have S4:=apv T acp S3;have Ke:=apw T acq S4 lr i_;have S9:=abD (P:=eM.prog) (w:=w) (base:=base) T acr lr i_ Ke 9;exact apy (P:=eM.prog) (w:=w) (base:=base) Ps T Kq (Tr ((Kk K),(yH K)) (by simp)) arU yk S5 S6 S7 lr S8 yn i_ S9 yl vT uc ym kJ
abbrev Ts:PySem.W.Hook:=ZK.Yq BQ wa lC Gi Gj
def Tt(s:PySem.W.SharedT):ZK.tJ:=ZK.obsZ BQ wa lC Gi Gj (HandSHeadRun.getT s)
theorem ar3(s:PySem.W.SharedT):Tt s=Ts.obs s.abs:=ZK.aiy (HandSHeadRun.getT_eq s)
theorem ar4(w:World):HandSHeadRun.RunEq wc yI Ts Tt 40000 Gk w:=by
 intro os;have h:=ZK.ajY (acT w os) (acU w os) (acV w os);rw[List.take_append_drop]at h;exact h
end K32
section
open PySem PySem.W PySem.Calls PyProof.Rows
open PySem PySem.Spec L2 Z in
set_option maxRecDepth 100000 in
set_option maxHeartbeats 0 in
theorem K32.ar5(ar6:∀(Ps:Nat->Addr) (ns:List Int),ns.length<=63->(∀z∈ns,Builtin.Int.intBits z<=1048576)->∀(aU:List (Str×Addr)),∃S,bI 12 (K32.rO Ps aU) [.ck ns] (mV [(Ps 0,"_law_asker.<locals>.<lambda>"),(Ps 1,"_law_bounds_so.<locals>.<lambda>"),(Ps 2,"law.<locals>.<lambda>")])=.ok (.bl true) S):PySem.Challenge.rw_waysagree_k32_texts_that_are_no_plans.Holds:=by
 w_on;o_law
 refine HandSHeadRun.head_any (r:=OpenLaw.row PySem.Challenge.rw_waysagree_k32_texts_that_are_no_plans) (q:=K32.yI) (H:=K32.Ts) (ob:=K32.Tt) (M:=40000) (loose:=K32.Gk) (d:=HandSHeadRun.topDef (OpenLaw.row PySem.Challenge.rw_waysagree_k32_texts_that_are_no_plans).prog 54) (kwd:=[]) K32.ar3 (by kernel_rfl) (λs=>by kernel_rfl) K32.ar4 (by kernel_rfl) (by kernel_rfl) (by kernel_rfl) (by rfl) (by first|assumption|decide +kernel) (by decide +kernel) ⟨rfl,rfl,rfl,rfl,rfl,by decide +kernel⟩ ?hw ?hc
 case hw=>w_witness2
 case hc =>
  refine LamX.walk_ofTsE (l:=PySem.Challenge.rw_waysagree_k32_texts_that_are_no_plans) (n:=63) (k:=31) (x:="_law_script") (CX:=λw=>Z.CX (PySem.Challenge.rw_waysagree_k32_texts_that_are_no_plans).prog w) rfl (by decide) (by kernel_rfl) ⟨rfl,by decide,by decide⟩ ?F (λ_ _ _ _ _ z=>Z.V4 z);intro w mg fa h Y G ar7;obtain⟨K,KX,c⟩:=Y;have QA:mg ("law":PySem.Str)=some (.ref fa):=by
   have e:(HandSHeadRun.topDef (OpenLaw.row PySem.Challenge.rw_waysagree_k32_texts_that_are_no_plans).prog 54).name=("law":PySem.Str):=by kernel_rfl
   rw[<-e];exact ar7
  exact⟨K,KX,K32.end_ ar6 KX G QA c⟩
end
namespace K32
open PySem PySem.Spec L2 Z ZM TL TR
variable{Ps:Nat->Addr}{aU:List (Str×Addr)}
abbrev yo(aU:List (Str×Addr))(T:dj):D:=.lam T (cloFrom aU T.scope.names [])
section
variable{S:Store}{P X:D->Store->Prop}{v d:D}{T:dj}{caps:List D}{L:aB}{sl:aT}{l w:List Nat}{b:Rat->Prop}
abbrev AW:aB:=vb [("Ratio",["Ratio"],[])]
theorem AX{b:Rat->Prop}:t2 AW b bz:=λr S _=>bp (by simp[bz,kz])
theorem ar8(off:Nat):EV off=QO AW off:=rfl
theorem ar9:ya=Jp AW:=rfl
theorem asa:og=Jq AW:=rfl
theorem Tv:g6=vu AW:=rfl
theorem FQ(hw:w.length<=1000)(hl:Lo w):jar [.str (aj w)] S=rL (eY w) w S:=by
 refine(zm (n:=1) (g:=bI 3 og) (ds:=[.str (aj w)]) rfl).trans ?_;rw[asa];exact anr AX hw hl
theorem Kr(h:dM [d,.ty "str"] S=.ok (.bl false) S)(aR:bf 0 d=true):jar [d] S=.ex (h4 d) S:=by
 refine Q9 ?_;unfold jar;refine dF rfl ?_;show a0 (og [some d,none,none] S) _;unfold og;refine bF (λ_ _=>False) ?_ (λ_ _ h=>h.elim);rw[hL,nL,e8,dG (aE (aX rfl) (aE rfl bh)) h,aS,d6,if_pos (by simp)];refine Q8 rfl ?_;rw[pY];exact cx (EL (sZ aR)) rfl
def iG(v:D):D:=.tup [.str "InvalidText",v]
def rT(v:D):D:=.tup [.str "value",v]
theorem vY{s:String}{xs:List D}{b:Bool}(h:inD (.str (Str.ofString s)) xs=b)(hx:xs.all oI=true):dy (.str (Str.ofString s)) (.tup xs) S=.ok (.bl b) S:=by
 rw[NM (xs:=xs) rfl rfl hx,h]
theorem acu{xs ys:List D}(bO:g0 S=true)(hl:xs.length=ys.length)(hx:xs.length<=1000)(hw:∀i x y,xs[i]?=some x->ys[i]?=some y->∀S,g0 S=true->(∃T,S=T++[.lst (ys.take i)])->kG Ps [x] S=.ok y S)(bD:∀y∈ys,bf 0 y=true/\eD y=true)(hs:∀x∈xs,bf 0 x=true) :
  oh Ps [.lst xs] S=.ok (.lst ys) S:=by
 refine bp ?_;unfold oh;refine dF rfl ?_;simp[vE];have aaW:∀k,dw (ys.take k)=true:=λk=>by
  have:∀zs:List D,(∀z∈zs,eD z=true)->dw zs=true:=λzs=>by
   induction zs with
   |nil=>intro _;rfl
   |cons z zs ih=>intro h;rw[dw,h z (by simp),ih λy bD=>h y (by simp[bD])];rfl
  exact this _ λz hz=>(bD z (FX hz)).2
 have aR:bH S.length ys=true:=lV.mpr λy h=>sZ (bD y h).1;refine NF (xs:=xs) (p3 (NI rfl) (by simp)) (by omega) (λpre acc S1=>S1=S/\acc=ys.take pre.length) (λp acc S1 h=>⟨by rw[h.1],by rw[h.2];simp;omega⟩) ⟨rfl,by simp⟩ (λpre x post acc S1 he j6=>⟨by simp,?_⟩) λacc S1 j6=>⟨by simp,?_⟩
 .obtain⟨rfl,rfl⟩:=j6
  have hlen:=congrArg List.length he;simp at hlen;have hi:pre.length<ys.length:=by omega
  have h1:xs[pre.length]?=some x:=by rw[he];simp
  have h2:ys[pre.length]?=some (ys[pre.length]'hi):=by simp
  have asb:g0 (S1++[dH.lst (ys.take pre.length)])=true:=Yg bO (aaW _);simp[df,cv,hw _ _ _ h1 h2 _ asb ⟨_,rfl⟩]
 .obtain⟨rfl,rfl⟩:=j6
  rw[hl,List.take_length];exact HA (fz.refl _) aR (cx (by simpa using aR) ⟨rfl,rfl⟩)
theorem aw{a b:D}:gq "tag" ["given","tag"] [a,b]=some b:=by
 simp only[gq];rw[if_neg (by decide)];simp
theorem asd(aR:bf S.length v=true):x' [.exc "InvalidText" ["given","tag"] [v,.str "InvalidText"]] S=.ok v S:=by
 refine bp ?_;unfold x';refine dF rfl ?_;have a6:∀a b:D,gq "given" ["given","tag"] [a,b]=some a:=λa b=>by simp[gq]
 have t1:∀S,dy (.str "InvalidText") (.tup [.str "InvalidRatio",.str "InvalidWorld",.str "InvalidElement",.str "InvalidStep",.str "InvalidLimit"]) S=.ok (.bl false) S:=λS=>vY (by decide +kernel) rfl;have nI:∀S,dy (.str "InvalidText") (.tup [.str "InvalidName",.str "WrongKind",.str "CircularName",.str "UnknownName"]) S=.ok (.bl false) S:=λS=>vY (by decide +kernel) rfl;have t3:∀S,dy (.str "InvalidText") (.tup [.str "InvalidPlan",.str "EmptyLoop"]) S=.ok (.bl false) S:=λS=>vY (by decide +kernel) rfl;have ase:∀S,dy (.str "InvalidText") (.tup [.str "TooMany",.str "CapacityExceeded"]) S=.ok (.bl false) S:=λS=>vY (by decide +kernel) rfl;have EF:∀S,dy (.str "InvalidText") (.tup [.str "InvalidText",.str "InvalidProgram"]) S=.ok (.bl true) S:=λS=>vY (by decide +kernel) rfl;simp[x9,t1,nI,t3,ase,EF,aw,a6];exact cx aR ⟨rfl,rfl⟩
theorem acv(dZ:pe Ps T=some L)(bO:g0 S=true)(hc:dw caps=true)(h:We (L caps S) (λ_ _=>False) (λe ao=>e=h4 v/\ao=S))(aR:bf S.length v=true):kG Ps [.dN T caps] S=.ok (iG v) S:=by
 refine bp ?_;unfold kG;refine dF rfl ?_;simp[rN];rw[O5 rfl dZ bO hc];refine h.mono (λ_ _ h=>h.elim) ?_;rintro e ao ⟨rfl,rfl⟩;simp[h4,DF,aw,asd aR];exact cx (by simpa using aR) ⟨rfl,rfl⟩
theorem Tw(dZ:pe Ps T=some L)(bO:g0 S=true)(hc:dw caps=true)(h:L caps S=.ok v S)(aR:bf S.length v=true):kG Ps [.dN T caps] S=.ok (rT v) S:=by
 refine bp ?_;unfold kG;refine dF rfl ?_;simp[rN];rw[O5 rfl dZ bO hc,h,aS];exact cx (by simpa using aR) ⟨rfl,rfl⟩
theorem acw{r:Rat}:tF [bz r] S=.ok (eg r) S:=ahT
theorem DK:∀(P:ag) (k:Nat),P.ok b->P.dep<=k->∀S,vG k [P.dat bz] S=.ok (P.dat eg) S:=by
 refine ag.ind λcj cs ih k h hk S=>?_;cases k with
 |zero=>have:=(ag.nd cj cs).vq;omega
 |succ k =>
  have hf:=(ag.i6.mp h).1;have gK:=(ag.i6.mp h).2;have m9:=aC.fit_le hf;have eJ:cC (cw (ey (ak rD (ae (eName 0) ah))) (aP 2) cv (ak (vG k) (ae (eName 2) ah)) [2]) [some ((ag.nd cj cs).dat bz),none,none] S=.ok (.lst (cs.map (ag.dat eg))) S :=
   o4 (l:=cs) (row:=ag.dat bz) (ag.dat eg) (p3 (dG (aE (aX (i:=0) rfl) bh) (aal m7 h)) (q4 _)) (by omega) (λacc=>q4 _) (λc hc acc=>⟨[some ((ag.nd cj cs).dat bz),none,some (c.dat bz)],rfl,dG (aE (aX (i:=2) rfl) bh) (ih c hc k (gK c hc) (by have:=ag.Eu (k:=cj) hc;omega) _)⟩) λc hc=>m4 vz c _
  have et:ak Ca (ae (cC (cw (ey (ak rD (ae (eName 0) ah))) (aP 2) cv (ak (vG k) (ae (eName 2) ah)) [2])) ah) [some ((ag.nd cj cs).dat bz),none,none] S=.ok (.tup (cs.map (ag.dat eg))) S:=dG (aE eJ bh) afz;refine bp ?_;rw[vG];refine dF rfl ?_;show a0 (vF _ ([some ((ag.nd cj cs).dat bz)]++List.replicate 2 none) S) _;unfold vF;refine bF (λsl S1=>S1=S/\sl=[some ((ag.nd cj cs).dat bz),some (.tup (cs.map (ag.dat eg))),none]) (iB et ⟨rfl,rfl⟩) ?_;rintro sl S1 ⟨rfl,rfl⟩;have hd:=vw (f:=bz) (k:=cj) (cs:=cs) (S:=S1);have ht:=amA (S:=S1) (xs:=cs.map (ag.dat eg));have f5:bf S1.length ((ag.nd cj cs).dat eg)=true:=m4 vz _ _;have d5:cj.fit b cs.length->(∀x,cj≠.go x)->cj≠.stay->cj≠.none->cs.map (ag.dat eg)≠[]:=λh1 h2 aH bT e=>by
   have e:cs=[]:=List.map_eq_nil_iff.mp e;subst e;cases cj<;>simp[aC.fit]at h1 h2 aH bT
  rw[ag.hy]at hd f5 ⊢;cases cj with
  |scale r =>
   obtain⟨c,rfl⟩:=hR.mp hf.1;have hr:=acw (S:=S1) (r:=r);simp[hd,aC.word,aC.pay,hr];refine cx ?_ ⟨?_,rfl⟩
   .simpa[aC.word,aC.pay]using f5
   .rw[ag.hy];rfl
  |go x =>
   have e:cs=[]:=eO.mp hf.1;subst e;have ht:eu (aQ false) vj (.tup []) (.tup []) S1=.ok (.bl true) S1:=ht;simp[hd,aC.word,aC.pay,ht];refine cx ?_ ⟨?_,rfl⟩
   .simpa[aC.word,aC.pay]using f5
   .rw[ag.hy];rfl
  |stay =>
   have e:cs=[]:=eO.mp hf;subst e;have ht:eu (aQ false) vj (.tup []) (.tup []) S1=.ok (.bl true) S1:=ht;simp[hd,aC.word,aC.pay,ht];refine cx ?_ ⟨?_,rfl⟩
   .simpa[aC.word,aC.pay]using f5
   .rw[ag.hy];rfl
  |none =>
   have e:cs=[]:=eO.mp hf;subst e;have ht:eu (aQ false) vj (.tup []) (.tup []) S1=.ok (.bl true) S1:=ht;simp[hd,aC.word,aC.pay,ht];refine cx ?_ ⟨?_,rfl⟩
   .simpa[aC.word,aC.pay]using f5
   .rw[ag.hy];rfl
  |_ =>
   have hn:=d5 hf (by simp) (by simp) (by simp);rw[decide_eq_false hn]at ht;have ha:∀x:D,bC (.tup [x]) (.tup (cs.map (ag.dat eg))) S1=.ok (.tup (x::cs.map (ag.dat eg))) S1:=λx=>aax hn (by simp;omega);simp[hd,aC.word,aC.pay,ht,ha];refine cx ?_ ⟨?_,rfl⟩
   .simpa[aC.word,aC.pay]using f5
   .rw[ag.hy];rfl
theorem asf(n c:Nat)(hn:2<=n):Txt.mul (aj [c]) n=aj (List.replicate n c):=by
 have h:∀(n:Nat) (X:Array Nat),(List.replicate n (#[c]:Array Nat)).foldl (· ++ ·) X=X++(List.replicate n c).toArray:=λn=>by
  induction n with
  |zero=>intro X;simp
  |succ n ih =>
   intro X;rw[A7,FW,ih,A7];apply Array.toList_inj.mp;simp
 unfold Txt.mul;have hc:((n:Int)==1||(aj [c]).length==0)=false:=by
  have a:((n:Int)==1)=false:=by simp;omega
  rw[a];rfl
 rw[if_neg (by omega),hc,if_neg (by simp)];show(⟨(List.replicate n (aj [c]).cps).foldl (· ++ ·) #[]⟩:Str)=_;rw[show(aj [c]).cps=(#[c]:Array Nat)from rfl,h];simp[aj]
end
variable{Ps:Nat->Addr}{aU:List (Str×Addr)}
abbrev Tx:List Str:=["_law_bent"]
abbrev NL:List Str:=["_law_script","_law_bag_here","_law_names","_law_turn","_law_shown","_law_sign","_law_at","_law_bent","_law_told","_law_odd","_law_far","_law_one"]
abbrev Ks(Ps:Nat->Addr):List (Addr×Str):=[(Ps 0,"_law_asker.<locals>.<lambda>"),(Ps 1,"_law_bounds_so.<locals>.<lambda>"),(Ps 2,"law.<locals>.<lambda>")]
abbrev S0(Ps:Nat->Addr)(ns:List Int):Store:=mV (Ks Ps)++[f7 (ns.take 63) 0 0 5625]
theorem Tz(ns:List Int):g0 (S0 Ps ns)=true:=by
 unfold S0;refine Yg ?_ Yf;simp[mV,g0,yJ]
theorem ash(ns:List Int):j8 (S0 Ps ns) 3 (ns.take 63):=afR ns _
section
variable{S:Store}{P:D->Store->Prop}{v d:D}{T:dj}{caps:List D}{sl:aT}{l w:List Nat}{ns:List Int}{x0 x1 x2 b0 c0 cB b7 e4 h8 fh eN:Option D}
theorem acx:pe Ps my=some E7:=zT
theorem asi:pe Ps la=some Fb:=(mh (by decide +kernel)).trans ((mh (by decide +kernel)).trans ((mh (by decide +kernel)).trans ((mh (by decide +kernel)).trans ((mh (by decide +kernel)).trans zT))))
theorem asj(h:jar [.str (aj w)] S=rL (eY w) w S):We (E7 [.str (aj w)] S) (λd ao=>∃p,eY w=some p/\d=p.dat bz/\ao=S) (λe ao=>eY w=none/\e=h4 (.str (aj w))/\ao=S):=by
 unfold E7;rw[zV];show We (ak jar (ae (eName 0) ah) [some (.str (aj w))] S) _ _;rw[gY,aE (aX rfl) bh,aS,h];cases eY w with
 |none =>
  rw[show rL none w S=.ex (h4 (.str (aj w))) S from rfl,uO];exact cx (EL rfl) ⟨rfl,rfl,rfl⟩
 |some p =>
  rw[show rL (some p) w S=.ok (p.dat bz) S from rfl,aS];exact cx (m4 m7 p _) ⟨p,rfl,rfl,rfl⟩
theorem asl(h:jar [d] S=.ex (h4 d) S)(aR:bf 0 d=true):We (Fb [d] S) (λ_ _=>False) (λe ao=>e=h4 d/\ao=S):=by
 unfold Fb;rw[zV];show We (ak jar (ae (eName 0) ah) [some d] S) _ _;rw[gY,aE (aX rfl) bh,aS];rw[h,uO];exact cx (EL (sZ aR)) ⟨rfl,rfl⟩
theorem TB(bO:S[0]?=some (.tab (Ps 0) "_law_asker.<locals>.<lambda>"))(aR:bf S.length d=true):pd Ps [d] S=.ok (.dN la [d]) S:=by
 unfold pd;rw[zm (n:=1) rfl];refine XR λaU=>?_;exact ajK (N:=["_law_asked"]) (T:=la) (ds:=[d]) (caps:=[d]) bO (by decide +kernel) (by decide +kernel) rfl (by simpa using aR)
theorem acy{xs:List D}(bO:g0 S=true)(hx:xs.length<=1000)(h:∀x∈xs,(∀S,jar [x] S=.ex (h4 x) S)/\bf 0 x=true/\eD x=true):oh Ps [.lst (xs.map λx=>.dN la [x])] S=.ok (.lst (xs.map iG)) S:=by
 refine acu bO (by simp) (by simpa using hx) (λi x y h1 h2 S bO _=>?_) (λy bD=>?_) λx hx=>?_
 .rw[List.getElem?_map]at h1 h2
  obtain⟨d,hd,rfl⟩:=fx.mp h1;rw[hd]at h2;cases h2;obtain⟨g1,g2,g3⟩:=h d (jV hd);exact acv asi bO (by simp[dw,g3]) (asl (g1 S) g2) (sZ g2)
 .obtain⟨d,hd,rfl⟩:=iI.mp bD
  obtain⟨g1,g2,g3⟩:=h d hd;exact⟨by simp[iG,g2],by simp[iG,eD,dw,g3]⟩
 .obtain⟨d,hd,rfl⟩:=iI.mp hx
  obtain⟨g1,g2,g3⟩:=h d hd;rw[bf];simp[g2]
structure lu(x:D):Prop where
 no:∀S,jar [x] S=.ex (h4 x) S
 u:bf 0 x=true
 n:eD x=true
 p:Z.plain 9 x
theorem uh(jP:Lo w)(hl:w.length<=1000)(h:eY w=none):lu (.str (aj w)) :=
 ⟨λS=>by rw[FQ hl jP,h];rfl,rfl,rfl,by simpa using n5 jP⟩
theorem acz(h:eX 8 w=none):eY w=none:=by
 unfold eY;rw[h]
theorem oq{s:String}(h1:(s:Str).cps.toList.all (λc=>decide (c<128))=true)(h2:(s:Str).cps.toList.length<=1000)(h:eY (s:Str).cps.toList=none):lu (.str s):=by
 have:=uh (w:=(s:Str).cps.toList) (λc hc=>by simpa using List.all_eq_true.mp h1 c hc) h2 h;rwa [zl]at this
theorem asm:lu .non:=⟨λS=>Kr (bp (by simp)) rfl,rfl,rfl,by simp[Z.plain]⟩
theorem asn{n:Int}:lu (.int n):=⟨λS=>Kr (bp (by simp)) rfl,rfl,rfl,by simp[Z.plain]⟩
theorem aso:lu (.tup [.str "go",.str "a"]):=⟨λS=>Kr (bp (by simp)) rfl,rfl,rfl,by simp[Z.plain,jL,oV]⟩
theorem asp:lu (.lst [.str "a"]):=⟨λS=>Kr (bp (by simp)) rfl,rfl,rfl,by simp[Z.plain,jL,oV]⟩
theorem TC{n:Nat}(h:n<10):fO (n:Int)=[48+n]:=by rw[Ju,EG h]
theorem acA{l:List Nat}{a b:Nat}{p q:Int}(h1:gE (dg l)=a)(h2:fZ l=b)(hp:num a b=p)(hq:den a b=q)(hr:cM p q≠l):fP l=none:=by
 unfold fP;rw[if_neg];rintro⟨_,h⟩;rw[h1,h2,hp,hq]at h;exact hr h
theorem asq:fP [50,47,52]=none:=acA (a:=2) (b:=4) (p:=1) (q:=2) (by decide) (by decide) (by decide) (by decide) (by
 unfold cM;rw[if_neg (by decide),show(1:Int)=((1:Nat):Int)from rfl,show(2:Int)=((2:Nat):Int)from rfl,TC (by omega),TC (by omega)];decide)
theorem asr:fP [49,47,49]=none:=acA (a:=1) (b:=1) (p:=1) (q:=1) (by decide) (by decide) (by decide) (by decide) (by
 unfold cM;rw[if_pos rfl,show(1:Int)=((1:Nat):Int)from rfl,TC (by omega)];decide)
theorem acB{k a:Nat}{r:List Nat}(ha:48<=a/\a<=57):eX (k+1) (a::r)=m' (eX k) (a::r):=by
 have n1:¬[a]=[91]:=λe=>by injection e with e _;omega
 have n2:¬[a]=[40]:=λe=>by injection e with e _;omega
 have na:a∉abc:=λh=>by have:=CT.mp h;omega
 rw[eX,show(a::r).take 1=[a]from rfl,if_neg n1,if_neg n2];have h1:dW abc (a::r)=[]:=by unfold dW;rw[List.takeWhile_cons_of_neg (by simpa using na)]
 have h2:d1 abc (a::r)=a::r:=by unfold d1;rw[List.dropWhile_cons_of_neg (by simpa using na)]
 unfold n8;rw[h1,h2,if_neg (by decide),if_neg (by decide),if_neg (by simp)]
theorem TF{P:hB}(h:fP (dW fH w)=none):m' P w=none:=by
 unfold m';rw[h]
theorem acC{P:hB}(h:(d1 fH w).take 1≠[58]):m' P w=none:=by
 unfold m';split
 .rw[if_neg h]
 .rfl
theorem TH{P:hB}(h:P ((d1 fH w).drop 1)=none):m' P w=none:=by
 unfold m';split
 .rw[h]
  split<;>rfl
 .rfl
theorem asu(k n:Nat):eX k ((List.replicate n [49,58]).flatten)=none:=by
 induction k generalizing n with
 |zero=>rfl
 |succ k ih =>
  cases n with
  |zero =>
   show eX (k+1) []=none;have h1:fP (dW fH [])=none:=by decide +kernel
   exact TF (P:=eX k) h1
  |succ n =>
   rw[A7,KA];show eX (k+1) (49::(58::(List.replicate n [49,58]).flatten))=none;rw[acB (by omega)];exact TH (ih n)
def qx:List D:=[.str "",.str " ",.str "()",.str "(a)",.str "(a,b)",.str "(a , b)",.str "(a, b",.str "a, b",.str "a | b",.str "(a|b)",.str "(a, b | c)",.str "[]",.str "[a",.str "a]"]
def rV:List D:=[.str "1:",.str ":a",.str "1a",.str "2/4:a",.str "-0:a",.str "01:a",.str "1/1:a",.str "1 :a",.str "1: a",.str "abcdefghi",.str "A",.str "a b",.str "[a][b]"]
def vZ:List D:=[.str "(a, b, a, b, a, b, a)",.str "(a | b | a | b | a | b | a)",.str (aj (List.replicate 400 40)),.str (aj (List.replicate 300 [49,58]).flatten),.str (aj (List.replicate 300 91++[97])),.non,.int 3]
def AY:List D:=[.tup [.str "go",.str "a"],.lst [.str "a"],.str "(a, )",.str "(, a)",.str "1/0:a",.str (aj (List.replicate 31 55++[58,97])),.str (aj ([49,47]++List.replicate 31 55++[58,97]))]
def jt:List D:=((qx++rV)++vZ)++AY
theorem gJ{o:Option ag}(h:o.isNone=true):o=none:=by simpa using h
theorem asv:∀x∈qx,lu x:=λx hx=>by
 simp only[qx,List.mem_cons,gM,or_false]at hx;rcases hx with rfl|rfl|rfl|rfl|rfl|rfl|rfl|rfl|rfl|rfl|rfl|rfl|rfl|rfl<;>exact oq (by decide +kernel) (by decide +kernel) (gJ (by decide +kernel))
theorem rW{w:List Nat}(h:w.all (λc=>decide (c<128))=true):Lo w:=λc hc=>by simpa using List.all_eq_true.mp h c hc
theorem AZ{s:String}{a:Nat}{r:List Nat}(e:(s:Str)=aj (a::r))(ha:48<=a/\a<=57)(h1:(a::r).all (λc=>decide (c<128))=true)(h2:(a::r).length<=1000)(h:m' (eX 7) (a::r)=none):lu (.str s):=by
 rw[e];exact uh (rW h1) h2 (acz (by rw[acB ha];exact h))
theorem asw:∀x∈rV,lu x:=λx hx=>by
 simp only[rV,List.mem_cons,gM,or_false]at hx;rcases hx with rfl|rfl|rfl|rfl|rfl|rfl|rfl|rfl|rfl|rfl|rfl|rfl|rfl
 .exact AZ (a:=49) (r:=[58]) rfl (by decide) (by decide) (by decide) (TH (by
   show eX 7 []=none;exact Option.isNone_iff_eq_none.mp (by decide +kernel)))
 .exact oq (by decide +kernel) (by decide +kernel) (gJ (by decide +kernel))
 .exact AZ (a:=49) (r:=[97]) rfl (by decide) (by decide) (by decide) (acC (by decide +kernel))
 .exact AZ (a:=50) (r:=[47,52,58,97]) rfl (by decide) (by decide) (by decide) (TF (by
   show fP [50,47,52]=none;exact asq))
 .exact oq (by decide +kernel) (by decide +kernel) (gJ (by decide +kernel))
 .exact oq (by decide +kernel) (by decide +kernel) (gJ (by decide +kernel))
 .exact AZ (a:=49) (r:=[47,49,58,97]) rfl (by decide) (by decide) (by decide) (TF (by
   show fP [49,47,49]=none;exact asr))
 .exact AZ (a:=49) (r:=[32,58,97]) rfl (by decide) (by decide) (by decide) (acC (by decide +kernel))
 .exact AZ (a:=49) (r:=[58,32,97]) rfl (by decide) (by decide) (by decide) (TH (by
   show eX 7 [32,97]=none;exact Option.isNone_iff_eq_none.mp (by decide +kernel)))
 .exact oq (by decide +kernel) (by decide +kernel) (gJ (by decide +kernel))
 .exact oq (by decide +kernel) (by decide +kernel) (gJ (by decide +kernel))
 .exact oq (by decide +kernel) (by decide +kernel) (gJ (by decide +kernel))
 .exact oq (by decide +kernel) (by decide +kernel) (gJ (by decide +kernel))
theorem asx:∀x∈vZ,lu x:=λx hx=>by
 simp only[vZ,List.mem_cons,gM,or_false]at hx;rcases hx with rfl|rfl|rfl|rfl|rfl|rfl|rfl
 .exact oq (by decide +kernel) (by decide +kernel) (gJ (by decide +kernel))
 .exact oq (by decide +kernel) (by decide +kernel) (gJ (by decide +kernel))
 .exact uh (rW (by decide +kernel)) (by simp) (gJ (by decide +kernel))
 .exact uh (rW (by decide +kernel)) (by simp) (acz (asu 8 300))
 .exact uh (rW (by decide +kernel)) (by simp) (gJ (by decide +kernel))
 .exact asm
 .exact asn
theorem asy:∀x∈AY,lu x:=λx hx=>by
 simp only[AY,List.mem_cons,gM,or_false]at hx;rcases hx with rfl|rfl|rfl|rfl|rfl|rfl|rfl
 .exact aso
 .exact asp
 .exact oq (by decide +kernel) (by decide +kernel) (gJ (by decide +kernel))
 .exact oq (by decide +kernel) (by decide +kernel) (gJ (by decide +kernel))
 .exact oq (by decide +kernel) (by decide +kernel) (gJ (by decide +kernel))
 .exact uh (rW (by decide +kernel)) (by simp) (gJ (by decide +kernel))
 .exact uh (rW (by decide +kernel)) (by simp) (gJ (by decide +kernel))
theorem v5:∀x∈jt,lu x:=λx hx=>by
 simp only[jt,List.mem_append]at hx;rcases hx with((h|h)|h)|h
 .exact asv x h
 .exact asw x h
 .exact asx x h
 .exact asy x h
theorem Kt:jt.length=41:=rfl
theorem asz{xs:List D}(h:∀x∈xs,lu x)(hl:xs.length<=1000):Z.plain 11 (.lst (xs.map iG)):=by
 rw[Z.plain];refine⟨s7.mpr λy bD=>?_,by simp;omega⟩;obtain⟨x,hx,rfl⟩:=iI.mp bD;have:=(h x hx).p;unfold iG;rw[Z.plain];refine⟨s7.mpr λz hz=>?_,by simp⟩;simp at hz;rcases hz with rfl|rfl
 .simp[Z.plain,oV]
 .exact this
theorem QB(h:Drawn 3 (ns.take 63) (S0 Ps ns) S):S[0]?=some (.tab (Ps 0) "_law_asker.<locals>.<lambda>"):=by
 obtain⟨_,a,g,s,rfl⟩:=h;rfl
theorem asB(h:Drawn 3 (ns.take 63) (S0 Ps ns) S):S[1]?=some (.tab (Ps 1) "_law_bounds_so.<locals>.<lambda>"):=by
 obtain⟨_,a,g,s,rfl⟩:=h;rfl
theorem asC(h:Drawn 3 (ns.take 63) (S0 Ps ns) S):S[2]?=some (.tab (Ps 2) "law.<locals>.<lambda>"):=by
 obtain⟨_,a,g,s,rfl⟩:=h;rfl
theorem asE:conv Tx NL aU [x0,x1,x2,b0,c0,cB,b7,some v,e4,h8,fh,eN] (yo aU my)=some (.dN my [v]) :=
 zW (by decide +kernel) (by decide +kernel) (by rfl)
theorem asF(h:Drawn 3 (ns.take 63) (S0 Ps ns) S):iA 2 (Ps 2) aU my sl S=.ok (yo aU my) S:=bp (by
 rw[X2];exact⟨asC h,rfl,rfl⟩)
theorem TJ{cn N:List Str}:∀xs:List D,jN cn N aU sl (xs.map λx=>D.dN la [x])=some (xs.map λx=>D.dN la [x])
 |[]=>xm
 |x::xs=>by
  rw[cF];exact tE (by simp[conv]) (TJ xs)
def pB(o:Option ag)(w:List Nat):D:=match o with
 |some p=>rT (p.dat bz)
 |none=>iG (.str (aj w))
theorem asH(bO:g0 S=true)(h:∀S,jar [.str (aj w)] S=rL (eY w) w S):kG Ps [.dN my [.str (aj w)]] S=.ok (pB (eY w) w) S:=by
 have hl:=asj (h S);generalize eY w=o at hl;cases o with
 |none =>
  refine acv acx bO rfl (hl.mono (λd ao ⟨W,e,_⟩=>by cases e) λe ao h=>⟨h.2.1,h.2.2⟩) rfl
 |some p =>
  refine Tw acx bO rfl ?_ (m4 m7 p _);refine bp (hl.mono (λd ao ⟨V,e,h1,h2⟩=>?_) λe ao h=>by cases h.1);cases e;exact⟨h1,h2⟩
theorem asI:∀p:ag,eD (p.dat bz)=true:=by
 refine ag.ind λk cs ih=>?_;rw[ag.hy,eD,dw];have gK:∀ds:List ag,(∀d∈ds,eD (d.dat bz)=true)->dw (ds.map (ag.dat bz))=true:=λds=>by
  induction ds with
  |nil=>intro _;rfl
  |cons d ds asJ=>intro h;rw[cF,dw,h d (by simp),asJ λe he=>h e (by simp[he])];rfl
 have:=gK cs ih;cases k with
 |go x=>simpa[aC.pay,eD,dw]using this
 |scale r=>simpa[aC.pay,eD,dw,bz,ah6]using this
 |_=>simpa[aC.pay,eD,dw]using this
theorem asK{o:Option ag}:eD (pB o w)=true:=by
 cases o with
 |none=>rfl
 |some p =>
  show eD (rT (p.dat bz))=true;simp[rT,eD,dw,asI]
theorem asL(bL:Drawn 3 (ns.take 63) (S0 Ps ns) S)(h:∀S,jar [.str (aj w)] S=rL (eY w) w S):nS Tx NL aU (kG Ps) (ae (iA 2 (Ps 2) aU my) ah) [x0,x1,x2,b0,c0,cB,b7,some (.str (aj w)),e4,h8,fh,eN] S=.ok (pB (eY w) w) S:=bp (by
 have bO:=Pl (Tz ns) bL;rw[DR,aE (asF bL) bh,aS];rw[tE asE xm,q1,asH bO h,aS];exact⟨⟨asK,bO⟩,rfl,rfl⟩)
theorem asM{o:Option ag}{i:Nat}(h:sl[i]?=some (some (pB o w))):aq a7 (eName i) (af (.int 0)) sl S=.ok (.str (match o with|some _=>"value"|none=>"InvalidText")) S:=by
 refine dr (aX h) rfl (bp ?_);cases o<;>simp[pB,rT,iG]
end
variable{Ps:Nat->Addr}
section
variable{S:Store}{v:D}{T:dj}{caps:List D}{L:aB}
def jT:ag:=.nd (.go [97]) []
def oG:ag:=.nd (.go [98]) []
def ot:ag:=.nd .seq [jT,jT,jT,jT,jT,jT]
def pC:ag:=.nd .alt [ot,ot,ot,ot,ot,.nd .seq [jT,jT,oG]]
def h9:ag:=.nd .alt [ot,ot,ot,ot,ot,.nd .seq [jT,jT,oG,oG]]
def pD:Nat->ag
 |0=>jT
 |n+1=>.nd .loop [pD n]
def qy:D:=.tup [.str "go",.str "a"]
def Ku:D:=.tup [.str "go",.str "b"]
def fj:D:=.tup [.str "seq",qy,qy,qy,qy,qy,qy]
def fq:D:=.tup [.str "alt",fj,fj,fj,fj,fj,.tup [.str "seq",qy,qy,Ku]]
def i':D:=.tup [.str "alt",fj,fj,fj,fj,fj,.tup [.str "seq",qy,qy,Ku,Ku]]
theorem Kv:pC.dat bz=fq:=by rfl
theorem asN:h9.dat bz=i':=by rfl
theorem asO:h9.dat eg=i':=by rfl
theorem FR:pC.ok kf:=by
 have yp:o7 [97]:=⟨by decide,by decide,by decide,by decide,by decide⟩
 have H3:o7 [98]:=⟨by decide,by decide,by decide,by decide,by decide⟩
 simp[pC,ot,jT,oG,ag.ok,ag.rC,aC.fit,yp,H3]
theorem asP:h9.g5 kf:=by
 simp[h9,ot,jT,oG,ag.g5,ag.x7,aC.wfit];decide
theorem acD:h9.ok kf:=by
 have yp:o7 [97]:=⟨by decide,by decide,by decide,by decide,by decide⟩
 have H3:o7 [98]:=⟨by decide,by decide,by decide,by decide,by decide⟩
 simp[h9,ot,jT,oG,ag.ok,ag.rC,aC.fit,yp,H3]
theorem A0:pC.size=40:=by rfl
theorem acE:h9.size=41:=by rfl
theorem acF:h9.chk=some [5,3]:=by decide +kernel
theorem asQ:(pD 8).g5 kf:=by
 simp[pD,jT,ag.g5,ag.x7,aC.wfit];decide
theorem acG:(pD 8).chk=some [0,0,0,0,0,0,0,0]:=by decide +kernel
theorem asR:(pD 7).ok kf:=by
 have yp:o7 [97]:=⟨by decide,by decide,by decide,by decide,by decide⟩
 simp[pD,jT,ag.ok,ag.rC,aC.fit,yp]
def ft(n:Nat):List Nat:=List.replicate n 91++[97]++List.replicate n 93
theorem asS:(pD 7).txt=ft 7:=by rfl
theorem asT:eY (ft 7)=some (pD 7):=by
 rw[<-asS];exact JU o'.rd asR (by decide) (by decide)
theorem asU:eY (ft 8)=none:=gJ (by decide +kernel)
theorem asV:eY h9.txt=none:=gJ (by decide +kernel)
def Kw(s:List Nat):D:=.tup [.str "InvalidPlan",d0 s]
theorem asW(s:List Nat):x' [.exc "InvalidPlan" ["path","tag"] [d0 s,.str "InvalidPlan"]] S=.ok (d0 s) S:=by
 have aR:=Jj (k:=S.length) s;generalize d0 s=v at aR;refine bp ?_;unfold x';refine dF rfl ?_;have aw:∀a b:D,gq "tag" ["path","tag"] [a,b]=some b:=λa b=>by
  simp only[gq];rw[if_neg (by decide)];simp
 have a6:∀a b:D,gq "path" ["path","tag"] [a,b]=some a:=λa b=>by simp[gq]
 have t1:∀S,dy (.str "InvalidPlan") (.tup [.str "InvalidRatio",.str "InvalidWorld",.str "InvalidElement",.str "InvalidStep",.str "InvalidLimit"]) S=.ok (.bl false) S:=λS=>vY (by decide +kernel) rfl;have nI:∀S,dy (.str "InvalidPlan") (.tup [.str "InvalidName",.str "WrongKind",.str "CircularName",.str "UnknownName"]) S=.ok (.bl false) S:=λS=>vY (by decide +kernel) rfl;have t3:∀S,dy (.str "InvalidPlan") (.tup [.str "InvalidPlan",.str "EmptyLoop"]) S=.ok (.bl true) S:=λS=>vY (by decide +kernel) rfl;simp[x9,t1,nI,t3,aw,a6];exact cx aR ⟨rfl,rfl⟩
theorem acH{s:List Nat}(dZ:pe Ps T=some L)(bO:g0 S=true)(hc:dw caps=true)(h:We (L caps S) (λ_ _=>False) (λe ao=>e=qt s/\ao=S)):kG Ps [.dN T caps] S=.ok (Kw s) S:=by
 have aR:=Jj (k:=S.length) s;have aw:∀a b:D,gq "tag" ["path","tag"] [a,b]=some b:=λa b=>by
  simp only[gq];rw[if_neg (by decide)];simp
 refine bp ?_;unfold kG;refine dF rfl ?_;simp[rN];rw[O5 rfl dZ bO hc];refine h.mono (λ_ _ h=>h.elim) ?_;rintro e ao ⟨rfl,rfl⟩;simp[qt,DF,aw,asW];exact cx (by simpa using aR) ⟨rfl,rfl⟩
end
variable{Ps:Nat->Addr}{aU:List (Str×Addr)}
abbrev yq:List Str:=["_law_full","_law_over","_law_deep"]
abbrev yr:List Str:=["_law_row","_law_full","_law_over","_law_deep","_law_told","_law_due","_law_late","_law_wrong","_law_one"]
section
variable{S:Store}{v d:D}{T:dj}{sl:aT}{y5 y1 Cv FT A1 oF A2 A3 A4:Option D}
theorem asX:pe Ps oa=some E8:=(mh (by decide +kernel)).trans zT
theorem asY:pe Ps oc=some E9:=(mh (by decide +kernel)).trans ((mh (by decide +kernel)).trans zT)
theorem asZ:pe Ps oe=some E_:=(mh (by decide +kernel)).trans ((mh (by decide +kernel)).trans ((mh (by decide +kernel)).trans zT))
theorem as0:pe Ps pa=some E':=(mh (by decide +kernel)).trans ((mh (by decide +kernel)).trans ((mh (by decide +kernel)).trans ((mh (by decide +kernel)).trans zT)))
theorem as1:g6 [fq] S=.ok .non S:=by
 rw[Tv,<-Kv];exact Rn m7 AX FR (by rw[A0];decide) (by decide)
theorem acI:h9.txt.length<=1000:=by decide +kernel
theorem as2:We (g6 [i'] S) (λ_ _=>False) (λe ao=>e=qt [5,3]/\ao=S):=by
 rw[Tv,<-asN];refine(RQ m7 AX asP (by rw[acE];decide) (by have:=acI;omega)).mono ?_ ?_
 .rintro d ao ⟨h,_⟩
  rw[acF]at h;cases h
 .rintro e ao ⟨s,h,rfl,rfl⟩
  rw[acF]at h;cases h;exact⟨rfl,rfl⟩
theorem as3:We (g6 [(pD 8).dat bz] S) (λ_ _=>False) (λe ao=>e=qt [0,0,0,0,0,0,0,0]/\ao=S):=by
 rw[Tv];refine(RQ m7 AX asQ (by decide) (by decide +kernel)).mono ?_ ?_
 .rintro d ao ⟨h,_⟩
  rw[acG]at h;cases h
 .rintro e ao ⟨s,h,rfl,rfl⟩
  rw[acG]at h;cases h;exact⟨rfl,rfl⟩
theorem as4:E8 [fq] S=.ok .non S:=by
 refine bp ?_;unfold E8;rw[zV];show We (ak g6 (ae (eName 0) ah) [some fq] S) _ _;rw[dG (aE (aX rfl) bh) as1,aS];exact cx rfl ⟨rfl,rfl⟩
theorem as5:We (E9 [i'] S) (λ_ _=>False) (λe ao=>e=qt [5,3]/\ao=S):=by
 unfold E9;rw[zV];show We (ak g6 (ae (eName 0) ah) [some i',some (.int 0)] S) _ _;rw[gY,aE (aX rfl) bh,aS];refine as2.mono (λ_ _ h=>h.elim) ?_;rintro e ao ⟨rfl,rfl⟩;exact cx (RN _) ⟨rfl,rfl⟩
theorem as6:jar [.str (aj (ft 7))] S=.ok ((pD 7).dat bz) S:=by
 rw[FQ (by decide) (rW (by decide)),asT];rfl
theorem as7:We (E_ [.str (aj (ft 7))] S) (λ_ _=>False) (λe ao=>e=qt [0,0,0,0,0,0,0,0]/\ao=S):=by
 unfold E_;rw[zV];show We (ak g6 (ae (ak bu (ae (af (.str "loop")) (ae (ak jar (ae (eName 0) ah)) ah))) ah) [some (.str (aj (ft 7))),some (.int 0)] S) _ _;have e:ak bu (ae (af (.str "loop")) (ae (ak jar (ae (eName 0) ah)) ah)) [some (.str (aj (ft 7))),some (.int 0)] S=.ok (.tup [.str "loop",(pD 7).dat bz]) S:=hv (aE rfl (aE (dG (aE (aX rfl) bh) as6) bh)) (by simp);rw[gY,aE e bh,aS];show We (g6 [(pD 8).dat bz] S) _ _;refine as3.mono (λ_ _ h=>h.elim) ?_;rintro e ao ⟨rfl,rfl⟩;exact cx (RN _) ⟨rfl,rfl⟩
theorem as8:pC.txt.length<=1000:=by decide +kernel
theorem as9:yb [fq] S=.ok (.str (aj pC.txt)) S:=by
 refine(zm (n:=1) (g:=bI 1 ya) (ds:=[fq]) rfl).trans ?_;rw[ar9,<-Kv];exact anc o' AX FR (by rw[A0];decide) (by decide) (by rw[A0];decide)
theorem ata:jar [.str (aj pC.txt)] S=.ok fq S:=by
 rw[FQ as8 (ag.JB pC FR),JU o'.rd FR (by rw[A0];decide) (by decide)];show Out.ok (pC.dat bz) S=_;rw[Kv]
theorem atb:aQ false fq fq S=.ok (.bl true) S:=by
 rcases QF (S:=S) (neg:=false) (d:=fq)with e|e
 .have hp:plain 3 fq:=by simp[Z.plain,jL,fq,fj,qy,Ku,oV]
  rw[IK hp hp (by omega) (by omega)]at e;cases e
 .exact e
theorem atc:E' [fq] S=.ok (.bl true) S:=by
 refine bp ?_;unfold E';rw[zV];show We (aq (aQ false) (ak jar (ae (ak yb (ae (eName 0) ah)) ah)) (eName 0) [some fq] S) _ _;rw[dr (dG (aE (dG (aE (aX rfl) bh) as9) bh) ata) (aX rfl) atb,aS];exact cx rfl ⟨rfl,rfl⟩
theorem atd:conv yq yr aU [y5,some v,Cv,FT,A1,oF,A2,A3,A4] (yo aU oa)=some (.dN oa [v]):=zW (by decide +kernel) (by decide +kernel) (by rfl)
theorem ate:conv yq yr aU [y5,y1,some v,FT,A1,oF,A2,A3,A4] (yo aU oc)=some (.dN oc [v]):=zW (by decide +kernel) (by decide +kernel) (by rfl)
theorem atf:conv yq yr aU [y5,y1,Cv,some v,A1,oF,A2,A3,A4] (yo aU oe)=some (.dN oe [v]):=zW (by decide +kernel) (by decide +kernel) (by rfl)
theorem atg:conv yq yr aU [y5,some v,Cv,FT,A1,oF,A2,A3,A4] (yo aU pa)=some (.dN pa [v]):=zW (by decide +kernel) (by decide +kernel) (by rfl)
theorem Kx(h:S[1]?=some (.tab (Ps 1) "_law_bounds_so.<locals>.<lambda>")){T:dj}(d9:T.qual="_law_bounds_so.<locals>.<lambda>"):iA 1 (Ps 1) aU T sl S=.ok (yo aU T) S:=bp (by
 rw[X2];exact⟨by rw[d9];exact h,rfl,rfl⟩)
def gj:List D:=[rT .non,Kw [5,3],Kw [0,0,0,0,0,0,0,0]]
theorem ath(bO:g0 S=true):oh Ps [.lst [.dN oa [fq],.dN oc [i'],.dN oe [.str (aj (ft 7))]]] S=.ok (.lst gj) S:=by
 refine acu bO rfl (by simp) (λi x y h1 h2 S bO _=>?_) (λy bD=>?_) λx hx=>?_
 .match i,h1,h2 with
  |0,h1,h2 =>
   cases h1;cases h2;exact Tw asX bO rfl as4 rfl
  |1,h1,h2 =>
   cases h1;cases h2;exact acH asY bO rfl as5
  |2,h1,h2 =>
   cases h1;cases h2;exact acH asZ bO rfl as7
  |n+3,h1,h2=>cases h1
 .simp only[gj,List.mem_cons,gM,or_false]at bD
  rcases bD with rfl|rfl|rfl<;>exact⟨rfl,rfl⟩
 .simp only[List.mem_cons,gM,or_false]at hx
  rcases hx with rfl|rfl|rfl<;>rfl
theorem ati(gW:ZG.oZ S)(h1:sl[1]?=some (some fq)):ak cz (ae (cC (ZG.An (EV 1 (ae (eName 1) ah)))) ah) sl S=.ok (.int 40) S:=by
 have A:aau AW kf bz pC:=⟨m7,AX,FR,by rw[A0];decide,by decide⟩
 have h1:sl[1]?=some (some (pC.dat bz)):=by rw[Kv];exact h1
 obtain⟨bw,aw,e2⟩:=Z.EV (S:=S) (S1:=S) (off:=1) (sl:=sl) (fa:=ae (eName 1) ah) A (aE (aX h1) bh);have hlen:=ag.vr [] pC;rw[A0]at hlen;rw[ar8];refine dG (aE (anA aw gW (λk hk=>by rw[e2 k hk];exact amy m7) (by omega) (λa=>Ew m7 a 0)) bh) (bp ?_);simp[hlen]
end
variable{Ps:Nat->Addr}{aU:List (Str×Addr)}
section
variable{S:Store}{d:D}{sl:aT}{l:List Nat}
theorem yt{s:String}{c n:Nat}(hs:(s:Str)=aj [c])(h2:2<=n)(aH:n<=1000):aq kA (af (.str s)) (af (.int (n:Int))) sl S=.ok (.str (aj (List.replicate n c))) S:=by
 refine dr (d:=.str (aj [c])) (by rw[<-hs];rfl) rfl ?_;have:tK (.str (aj [c])) (.int (n:Int)) S=.ok (.str (Txt.mul (aj [c]) n)) S:=by
  unfold tK;dsimp only;rw[if_pos ⟨by omega,by omega,by rw[mP];simp⟩]
 rw[show kA (.str (aj [c])) (.int (n:Int)) S=tK (.str (aj [c])) (.int (n:Int)) S from iX (by rfl),this];rw[<-asf n c h2]
theorem rX{f g:aM}{a b:List Nat}(h1:f sl S=.ok (.str (aj a)) S)(h2:g sl S=.ok (.str (aj b)) S)(hl:a.length+b.length<=1000000):aq bC f g sl S=.ok (.str (aj (a++b))) S:=dr h1 h2 (bp (by rw[Wq];exact⟨hl,rfl,rfl⟩))
theorem acJ{f g:aM}{a b:List D}(h1:f sl S=.ok (.tup a) S)(h2:g sl S=.ok (.tup b) S)(ha:a≠[])(hb:b≠[])(hl:a.length+b.length<=1000):aq bC f g sl S=.ok (.tup (a++b)) S:=dr h1 h2 (by
 have e:bC (.tup a) (.tup b) S=wy (.tup a) (.tup b) S:=iX (by rfl);rw[e];unfold wy;simp only;rw[if_pos ⟨ha,hb,by omega⟩])
theorem ui{x:String}:ak bu (ae (af (.str "go")) (ae (af (.str x)) ah)) sl S=.ok (.tup [.str "go",.str x]) S:=hv (aE rfl (aE rfl bh)) (by simp)
theorem acK{f:aM}{x:D}{n:Nat}(h:f sl S=.ok (.tup [x]) S)(h2:2<=n)(aH:n<=1000):aq D6 f (af (.int (n:Int))) sl S=.ok (.tup (List.replicate n x)) S:=dr h rfl (by
 have e:D6 (.tup [x]) (.int (n:Int)) S=D5 (.tup [x]) (.int (n:Int)) S:=iX (by rfl);rw[e];unfold D5;simp only;rw[if_neg (by omega),if_pos ⟨by simp,by omega,by omega,by simp⟩,Int.toNat_natCast];have:B7 n [x]=List.replicate n x:=by simp[B7]
 rw[this])
theorem atj(h0:S[0]?=some (.tab (Ps 0) "_law_asker.<locals>.<lambda>"))(h1:S[1]?=some (.tab (Ps 1) "_law_bounds_so.<locals>.<lambda>"))(bO:g0 S=true)(gW:ZG.oZ S):Ay Ps [] S=.ok (.bl true) S:=by
 unfold Ay;rw[zm (n:=0) rfl];refine XR λaU=>?_;refine bp ?_;rw[zp];show a0 (t8 Ps aU [none,none,none,none,none,none,none,none,none] S) _;unfold t8;refine bF (λsl S1=>S1=S/\sl=[some fj,none,none,none,none,none,none,none,none]) (iB (acJ (a:=[.str "seq"]) (hv (aE rfl bh) (by simp)) (acK (n:=6) (hv (aE ui bh) (by simp)) (by omega) (by omega)) (by simp) (by simp) (by simp)) ⟨rfl,rfl⟩) ?_;rintro sl S1 ⟨rfl,rfl⟩;refine bF (λsl S2=>S2=S1/\sl=[some fj,some fq,none,none,none,none,none,none,none]) (iB (hv (aE rfl (aE (aX (i:=0) rfl) (aE (aX (i:=0) rfl) (aE (aX (i:=0) rfl) (aE (aX (i:=0) rfl) (aE (aX (i:=0) rfl) (aE (hv (aE rfl (aE ui (aE ui (aE ui bh)))) (by simp)) bh))))))) (by simp)) ⟨rfl,rfl⟩) ?_;rintro sl S2 ⟨rfl,rfl⟩;have es:e0 false (eName 1) fN (ec (af (.int 6))) [some fj,some fq,none,none,none,none,none,none,none] S2=.ok (.tup [.str "alt",fj,fj,fj,fj,fj]) S2:=bp (by
  rw[Nx,aX (i:=1) rfl,aS,Wc,Wd,CJ];refine⟨6,rfl,?_⟩;unfold fq;rw[Z.sl_tup,aS];exact⟨congrArg D.tup (Wv _ 6),rfl⟩)
 refine bF (λsl a4=>a4=S2/\sl=[some fj,some fq,some i',none,none,none,none,none,none]) (iB (acJ es (hv (aE (hv (aE rfl (aE ui (aE ui (aE ui (aE ui bh))))) (by simp)) bh) (by simp)) (by simp) (by simp) (by simp)) ⟨rfl,rfl⟩) ?_;rintro sl a4 ⟨rfl,rfl⟩;refine bF (λsl bR=>bR=a4/\sl=[some fj,some fq,some i',some (.str (aj (ft 7))),none,none,none,none,none]) (iB (rX (rX (yt (c:=91) (n:=7) rfl (by omega) (by omega)) (b:=[97]) rfl (by decide)) (yt (c:=93) (n:=7) rfl (by omega) (by omega)) (by decide)) ⟨rfl,rfl⟩) ?_;rintro sl bR ⟨rfl,rfl⟩;have eS:nS yq yr aU (oh Ps) (ae (ak d_ (ae (iA 1 (Ps 1) aU oa) (ae (iA 1 (Ps 1) aU oc) (ae (iA 1 (Ps 1) aU oe) ah)))) ah) [some fj,some fq,some i',some (.str (aj (ft 7))),none,none,none,none,none] bR=.ok (.lst gj) bR:=bp (by
  rw[DR,aE (nY (aE (Kx h1 rfl) (aE (Kx h1 rfl) (aE (Kx h1 rfl) bh))) (by simp)) bh,aS];rw[tE (O4 (tE atd (tE ate (tE atf xm)))) xm,q1,ath bO,aS];exact⟨⟨rfl,bO⟩,rfl,rfl⟩)
 refine bF (λsl dO=>dO=bR/\sl=[some fj,some fq,some i',some (.str (aj (ft 7))),some (.lst gj),none,none,none,none]) (iB eS ⟨rfl,rfl⟩) ?_;clear eS;rintro sl dO ⟨rfl,rfl⟩;refine bF (λsl dB=>dB=dO/\sl=[some fj,some fq,some i',some (.str (aj (ft 7))),some (.lst gj),some (.lst gj),none,none,none]) (iB (nY (ds:=gj) (aE (hv (aE rfl (aE rfl bh)) (by simp)) (aE (hv (ds:=[.str "InvalidPlan",d0 [5,3]]) (aE rfl (aE (hv (aE rfl (aE rfl bh)) (by simp)) bh)) (by simp)) (aE (hv (ds:=[.str "InvalidPlan",d0 [0,0,0,0,0,0,0,0]]) (aE rfl (aE (acK (n:=8) (hv (aE rfl bh) (by simp)) (by omega) (by omega)) bh)) (by simp)) bh))) (by simp[gj])) ⟨rfl,rfl⟩) ?_;rintro sl dB ⟨rfl,rfl⟩;have c2:nS yq yr aU (kG Ps) (ae (iA 1 (Ps 1) aU pa) ah) [some fj,some fq,some i',some (.str (aj (ft 7))),some (.lst gj),some (.lst gj),none,none,none] dB=.ok (rT (.bl true)) dB:=bp (by
  rw[DR,aE (Kx h1 rfl) bh,aS];rw[tE atg xm,q1,Tw as0 bO rfl atc rfl,aS];exact⟨⟨rfl,bO⟩,rfl,rfl⟩)
 refine bF (λsl dU=>dU=dB/\sl=[some fj,some fq,some i',some (.str (aj (ft 7))),some (.lst gj),some (.lst gj),some (.lst [.bl true,.int 40]),none,none]) (iB (nY (aE (dr c2 rfl (r:=.bl true) (bp (by simp[rT]))) (aE (ati gW rfl) bh)) (by simp)) ⟨rfl,rfl⟩) ?_;clear c2;rintro sl dU ⟨rfl,rfl⟩;have lt:tW [i'] dU=.ok (.str (aj h9.txt)) dU:=by
  rw[<-asO];exact Rz o'.vA o'.dZ o'.len o'.dx h9 9 acD (by decide) (by rw[acE];decide) dU
 have sN:lu (.str (aj h9.txt)):=uh (ag.JB h9 acD) acI asV;have rd:lu (.str (aj (ft 8))):=uh (rW (by decide)) (by decide) asU;have c3:nS yq yr aU (oh Ps) (ae (ak d_ (ae (ak (pd Ps) (ae (ak tW (ae (eName 2) ah)) ah)) (ae (ak (pd Ps) (ae (aq bC (aq bC (af (.str "[")) (eName 3)) (af (.str "]"))) ah)) ah))) ah) [some fj,some fq,some i',some (.str (aj (ft 7))),some (.lst gj),some (.lst gj),some (.lst [.bl true,.int 40]),none,none] dU=.ok (.lst ([D.str (aj h9.txt),.str (aj (ft 8))].map iG)) dU:=bp (by
  have a2:aq bC (aq bC (af (.str "[")) (eName 3)) (af (.str "]")) [some fj,some fq,some i',some (.str (aj (ft 7))),some (.lst gj),some (.lst gj),some (.lst [.bl true,.int 40]),none,none] dU=.ok (.str (aj (ft 8))) dU:=rX (a:=[91]++ft 7) (b:=[93]) (rX (a:=[91]) rfl (aX (i:=3) rfl) (by decide)) rfl (by decide);rw[DR,aE (nY (ds:=[D.str (aj h9.txt),.str (aj (ft 8))].map λx=>.dN la [x]) (aE (dG (aE (dG (aE (aX (i:=2) rfl) bh) lt) bh) (TB h0 rfl)) (aE (dG (aE a2 bh) (TB h0 rfl)) bh)) (by simp)) bh,aS];rw[tE (O4 (TJ [D.str (aj h9.txt),.str (aj (ft 8))])) xm,q1,acy bO (by simp) (λx hx=>?_),aS]
  .exact⟨⟨rfl,bO⟩,rfl,rfl⟩
  .simp only[List.mem_cons,gM,or_false]at hx
   rcases hx with rfl|rfl
   .exact⟨sN.no,sN.u,sN.n⟩
   .exact⟨rd.no,rd.u,rd.n⟩)
 refine bF (λsl ja=>ja=dU/\sl=[some fj,some fq,some i',some (.str (aj (ft 7))),some (.lst gj),some (.lst gj),some (.lst [.bl true,.int 40]),some (.lst ([D.str (aj h9.txt),.str (aj (ft 8))].map iG)),none]) (iB c3 ⟨rfl,rfl⟩) ?_;clear c3;rintro sl ja ⟨rfl,rfl⟩;have p1:∀x∈gj,Z.plain 3 x:=λx hx=>by
  simp only[gj,List.mem_cons,gM,or_false]at hx;rcases hx with rfl|rfl|rfl<;>simp[rT,Kw,d0,Z.plain,jL,oV]
 have p2:∀x∈[D.bl true,D.int 40],Z.plain 3 x:=λx hx=>by
  simp only[List.mem_cons,gM,or_false]at hx;rcases hx with rfl|rfl<;>simp[Z.plain]
 have s1:ak q6 (ae (eName 4) (ae (eName 5) ah)) [some fj,some fq,some i',some (.str (aj (ft 7))),some (.lst gj),some (.lst gj),some (.lst [.bl true,.int 40]),some (.lst ([D.str (aj h9.txt),.str (aj (ft 8))].map iG)),none] ja=.ok (.bl true) ja:=dG (aE (aX (i:=4) rfl) (aE (aX (i:=5) rfl) bh)) (YK p1 (by decide) (by simp[gj]));have s2:ak q6 (ae (eName 6) (ae (ak d_ (ae (af (.bl true)) (ae (af (.int 40)) ah))) ah)) [some fj,some fq,some i',some (.str (aj (ft 7))),some (.lst gj),some (.lst gj),some (.lst [.bl true,.int 40]),some (.lst ([D.str (aj h9.txt),.str (aj (ft 8))].map iG)),none] ja=.ok (.bl true) ja:=dG (aE (aX (i:=6) rfl) (aE (nY (aE rfl (aE rfl bh)) (by simp)) bh)) (YK p2 (by decide) (by simp));have s3:cC (cw (ey (eName 7)) (aP 8) cv (aq a7 (eName 8) (af (.int 0))) [8]) [some fj,some fq,some i',some (.str (aj (ft 7))),some (.lst gj),some (.lst gj),some (.lst [.bl true,.int 40]),some (.lst ([D.str (aj h9.txt),.str (aj (ft 8))].map iG)),none] ja=.ok (.lst [.str "InvalidText",.str "InvalidText"]) ja :=
  o4 (l:=[D.str (aj h9.txt),.str (aj (ft 8))]) (row:=iG) (λ_=>.str "InvalidText") (p3 (aX (i:=7) rfl) (q4 _)) (by simp) (λacc=>q4 _) (λx hx acc=>⟨_,rfl,dr (aX (i:=8) rfl) rfl (bp (by simp[iG]))⟩) (λx hx=>rfl)
 have s4:aq kA (ak d_ (ae (af (.str "InvalidText")) ah)) (af (.int 2)) [some fj,some fq,some i',some (.str (aj (ft 7))),some (.lst gj),some (.lst gj),some (.lst [.bl true,.int 40]),some (.lst ([D.str (aj h9.txt),.str (aj (ft 8))].map iG)),none] ja=.ok (.lst [.str "InvalidText",.str "InvalidText"]) ja:=dr (nY (aE rfl bh) (by simp)) rfl (by
  refine w0 ?_;have e:ho (.lst [.str "InvalidText"]) (.int 2) ja=B9 (.lst [.str "InvalidText"]) (.int 2) ja:=iX (by rfl);rw[e];unfold B9;simp only[HE];rw[if_pos ⟨by omega,by simp,by omega⟩];rfl)
 have s5:aQ false (.lst [.str "InvalidText",.str "InvalidText"]) (.lst [.str "InvalidText",.str "InvalidText"]) ja=.ok (.bl true) ja:=by
  rcases QF (S:=ja) (neg:=false) (d:=.lst [.str "InvalidText",.str "InvalidText"])with e|e
  .have hp:Z.plain 3 (.lst [.str "InvalidText",.str "InvalidText"]):=by simp[Z.plain,jL,oV]
   rw[IK hp hp (by omega) (by omega)]at e;cases e
  .exact e
 rw[sX,CL,s1,aS,d6,if_pos rfl,CL,s2,aS,d6,if_pos rfl,dr s3 s4 s5,aS,kr];exact cx rfl ⟨rfl,rfl⟩
end
variable{Ps:Nat->Addr}{aU:List (Str×Addr)}
section
variable{S:Store}{d:D}{l:List Nat}{ns:List Int}{x0 x1 x2 b0 c0 cB b7 cY e4 fh eN:Option D}
def uj:Nat->Nat
 |0=>0
 |k+1=>uj k * 10+7
theorem atk(k:Nat):7<=uj (k+1):=by rw[uj];omega
theorem acL:∀k,gD (uj (k+1))=List.replicate (k+1) 55
 |0=>by
  show gD 7=[55]
  exact EG (by omega)
 |k+1=>by
  have ih:=acL k;have hp:=atk k;rw[uj,QW (by omega),show(uj (k+1) * 10+7) / 10=uj (k+1)by omega,show(uj (k+1) * 10+7) % 10=7 by omega,ih,<-List.replicate_succ']
def jU:Nat:=uj 30
theorem atl:jU<10 ^ 30:=by decide
theorem atm:cM ((jU:Rat)).num ((jU:Rat)).den=List.replicate 30 55:=by
 rw[show((jU:Rat)).num=(jU:Int)from rfl,show((jU:Rat)).den=1 from rfl];unfold cM;rw[if_pos (by rfl),Ju];exact acL 29
theorem acM:LT 100 (jU:Int) 1:=⟨by unfold Bd;decide,by unfold Bd;decide,by decide,by simp⟩
theorem atn:kf (jU:Rat):=by
 refine⟨acM.mono (by decide),?_⟩;exact aaf (n:=100) acM (by have h:=atl;show(jU:Int).natAbs<10 ^ 30;rw[ur];exact h) (by decide)
def qz:ag:=.nd (.scale (jU:Rat)) [jT]
theorem ato:qz.ok kf:=by
 have yp:o7 [97]:=⟨by decide,by decide,by decide,by decide,by decide⟩
 simp[qz,jT,ag.ok,ag.rC,aC.fit,yp,atn]
theorem atp:qz.txt=List.replicate 30 55++[58,97]:=by
 unfold qz;rw[ag.m8];show(cM _ _++[58])++[97]=_;rw[atm];rfl
theorem atq:jar [.str (aj (List.replicate 30 55++[58,97]))] S=.ok (qz.dat bz) S:=by
 rw[FQ (by decide) (rW (by decide)),<-atp,JU o'.rd ato (by decide) (by decide)];rfl
theorem atr:nX [.str (aj (List.replicate 30 55))] S=.ok (.int (jU:Int)) S:=by
 have:=PR (S:=S) (l:=List.replicate 30 55) (by decide) (by decide) (by decide);rw[this];have:jj (List.replicate 30 55)=jU:=by decide
 rw[this]
def A5:List D:=[.str "",.str " ",.str ",",.str "|",.str "(",.str ")",.str "[",.str "]",.str ":",.str "a",.str "A",.str ", ",.str " | ",.str "1:",.str "0"]
theorem ats(h:d∈A5):∃s,d=.str (aj s)/\Lo s/\s.length<=3:=by
 simp only[A5,List.mem_cons,gM,or_false]at h;have one:∀s:List Nat,s.all (λc=>decide (c<128))=true->Lo s:=λs h=>rW h;rcases h with rfl|rfl|rfl|rfl|rfl|rfl|rfl|rfl|rfl|rfl|rfl|rfl|rfl|rfl|rfl
 .exact⟨[],rfl,one _ (by decide),by simp⟩
 .exact⟨[32],rfl,one _ (by decide),by simp⟩
 .exact⟨[44],rfl,one _ (by decide),by simp⟩
 .exact⟨[124],rfl,one _ (by decide),by simp⟩
 .exact⟨[40],rfl,one _ (by decide),by simp⟩
 .exact⟨[41],rfl,one _ (by decide),by simp⟩
 .exact⟨[91],rfl,one _ (by decide),by simp⟩
 .exact⟨[93],rfl,one _ (by decide),by simp⟩
 .exact⟨[58],rfl,one _ (by decide),by simp⟩
 .exact⟨[97],rfl,one _ (by decide),by simp⟩
 .exact⟨[65],rfl,one _ (by decide),by simp⟩
 .exact⟨[44,32],rfl,one _ (by decide),by simp⟩
 .exact⟨[32,124,32],rfl,one _ (by decide),by simp⟩
 .exact⟨[49,58],rfl,one _ (by decide),by simp⟩
 .exact⟨[48],rfl,one _ (by decide),by simp⟩
theorem att(bL:Drawn 3 (ns.take 63) (S0 Ps ns) S):cC (cw (ey (eName 9)) (aP 11) cv (ak (pd Ps) (ae (eName 11) ah)) [11]) [x0,x1,x2,b0,c0,cB,b7,cY,e4,some (.lst jt),fh,eN] S=.ok (.lst (jt.map λx=>.dN la [x])) S :=
 o4 (l:=jt) (row:=id) (λx=>.dN la [x]) (p3 (aX (i:=9) rfl) (by simp)) (by rw[Kt];omega) (λacc=>by simp) (λd hd acc=>⟨[x0,x1,x2,b0,c0,cB,b7,cY,e4,some (.lst jt),fh,some d],rfl,by
  refine dG (aE (aX (i:=11) rfl) bh) (TB ?_ (sZ (v5 d hd).u));have h0:=QB bL;have c6:=(List.getElem?_eq_some_iff.mp h0).1;rw[List.getElem?_append_left c6];exact h0⟩) (λd hd=>by
  rw[bf];simp[sZ (v5 d hd).u])
theorem atu:cC (cw (ey (eName 9)) (aP 11) cv (ak bu (ae (af (.str "InvalidText")) (ae (eName 11) ah))) [11]) [x0,x1,x2,b0,c0,cB,b7,cY,e4,some (.lst jt),fh,eN] S=.ok (.lst (jt.map iG)) S :=
 o4 (l:=jt) (row:=id) iG (p3 (aX (i:=9) rfl) (by simp)) (by rw[Kt];omega) (λacc=>by simp) (λd hd acc=>⟨[x0,x1,x2,b0,c0,cB,b7,cY,e4,some (.lst jt),fh,some d],rfl,hv (aE rfl (aE (aX (i:=11) rfl) bh)) (by simp)⟩) (λd hd=>by
  unfold iG;simp[sZ (v5 d hd).u])
theorem acN:∀xs:List D,(∀x∈xs,lu x)->dw (xs.map iG)=true
 |[],_=>rfl
 |x::xs,h=>by
  rw[cF,dw,acN xs λy bD=>h y (by simp[bD])];have:=(h x (by simp)).n;simp[iG,eD,dw,this]
theorem atv(bL:Drawn 3 (ns.take 63) (S0 Ps ns) S):nS Tx NL aU (oh Ps) (ae (cC (cw (ey (eName 9)) (aP 11) cv (ak (pd Ps) (ae (eName 11) ah)) [11])) ah) [x0,x1,x2,b0,c0,cB,b7,cY,e4,some (.lst jt),fh,eN] S=.ok (.lst (jt.map iG)) S:=bp (by
 have bO:=Pl (Tz ns) bL;rw[DR,aE (att bL) bh,aS];rw[tE (O4 (TJ jt)) xm,q1,acy bO (by rw[Kt];omega) (λx hx=>⟨(v5 x hx).no,(v5 x hx).u,(v5 x hx).n⟩),aS];exact⟨⟨by rw[eD];exact acN _ v5,bO⟩,rfl,rfl⟩)
end
variable{Ps:Nat->Addr}{aU:List (Str×Addr)}{S:Store}
abbrev g7(z0 lL ig zt atw atx aty atz atA atB atD atE:Option D):aT:=[z0,lL,ig,zt,atw,atx,aty,atz,atA,atB,atD,atE]
theorem TM{r:Rat}(hr:ZJ.k7 6 24 r):r.num.natAbs<=24/\r.den<=6:=by
 obtain⟨h1,h2⟩:=ZJ.k7.size hr (by decide);exact⟨h1,h2⟩
theorem A6:RL (ZJ.k7 6 24) 60 20 where
 vA r hr:=by
  obtain⟨h1,h2⟩:=TM hr;exact vp.of (ou h1 (by decide)) (ou h2 (by decide))
 dZ:=by decide
 len r hr:=by
  obtain⟨h1,h2⟩:=TM hr;have:=(vp.of (n:=6) (r:=r) (ou h1 (by decide)) (ou h2 (by decide)))
  have a:=vg this.up;have b:=vg this.dn;unfold cM;split
  .omega
  .simp only[List.length_append,List.length_cons]
   omega
 dx:=by decide
 rd r hr:=by
  obtain⟨h1,h2⟩:=TM hr;have ayq:(24:Nat)<10 ^ 30:=by decide
  refine TR.aaf (n:=60) (vp.of (n:=60) (r:=r) (ou h1 (by decide)) (ou h2 (by decide))) (by omega) ?_;rw[ur];omega
theorem jpg:Txt.mul (aj [49,58]) 300=aj (List.replicate 300 [49,58]).flatten:=by decide +kernel
theorem atF{sl:aT}:aq kA (af (.str "1:")) (af (.int 300)) sl S=.ok (.str (aj (List.replicate 300 [49,58]).flatten)) S:=by
 refine dr (d:=.str (aj [49,58])) rfl rfl ?_;have:tK (.str (aj [49,58])) (.int 300) S=.ok (.str (Txt.mul (aj [49,58]) 300)) S:=by
  unfold tK;dsimp only;rw[if_pos ⟨by omega,by omega,by rw[mP];simp⟩]
 rw[show kA (.str (aj [49,58])) (.int 300) S=tK (.str (aj [49,58])) (.int 300) S from iX (by rfl),this,jpg]
theorem atG(Ps:Nat->Addr)(aU:List (Str×Addr))(ns:List Int):We (bI 12 (rO Ps aU) [.ck ns] (mV (Ks Ps))) (λd S=>d=.bl true) (λ_ _=>False):=by
 rw[zp];unfold rO;refine bF (λsl S1=>S1=S0 Ps ns/\sl=g7 (some (.ck ns)) (some (.ptr 3)) none none none none none none none none none none) ?_ ?_
 .rw[jK,gY,iW,afc]
  refine⟨_,rfl,?_⟩;rw[q3];refine afQ ns _ ?_;rw[hV];exact⟨rfl,rfl⟩
 rintro sl S1 ⟨rfl,rfl⟩;have WK:=ash (Ps:=Ps) ns;refine bF (λsl S1=>Drawn 3 (ns.take 63) (S0 Ps ns) S1/\∃l:List (List Nat),l.length=3/\(∀x∈l,o7 x)/\∃b0 c0 cB b7 cY e4 h8 fh eN,sl=g7 (some (.ck ns)) (some (.ptr 3)) (some (.lst (l.map dt))) b0 c0 cB b7 cY e4 h8 fh eN) ?_ ?_
 .rw[jK,gY,aE (aX (i:=1) rfl) (aE rfl bh),aS]
  refine(amD (many:=3) (by decide)).hW WK λd S1 ⟨l,e,h1,h2⟩ bL=>?_;subst e;rw[hV];exact⟨bL,l,h1,h2,_,_,_,_,_,_,_,_,_,rfl⟩
 rintro sl S1 ⟨hu,l,acO,atH,ayr,ays,ayt,ayu,ayv,ayw,ayx,ayy,ayz,rfl⟩;refine bF (λsl S2=>Drawn 3 (ns.take 63) (S0 Ps ns) S2/\∃x2 b0 c0 cB b7 cY e4 h8 fh eN,sl=g7 (some (.ck ns)) (some (.ptr 3)) x2 b0 c0 cB b7 cY e4 h8 fh eN) ?_ ?_
 .refine ale (l:=List.range 8) (row:=fun(j:Nat)=>.int ((0:Int)+(j:Int))) (PU (k:=8) rfl (by decide)) (λpre sl S2=>Drawn 3 (ns.take 63) (S0 Ps ns) S2/\∃b0 c0 cB b7 cY e4 h8 fh eN,sl=g7 (some (.ck ns)) (some (.ptr 3)) (some (.lst (l.map dt))) b0 c0 cB b7 cY e4 h8 fh eN) ⟨hu,_,_,_,_,_,_,_,_,_,rfl⟩ ?_ ?_
  .rintro pre i post sl S2 ayA ⟨j9,b0,c0,cB,b7,cY,e4,h8,fh,eN,rfl⟩
   refine⟨trivial,?_⟩;rw[hV];generalize D.int ((0:Int)+(i:Int))=tt;show a0 (aL _ _ (g7 (some (.ck ns)) (some (.ptr 3)) (some (.lst (l.map dt))) (some tt) c0 cB b7 cY e4 h8 fh eN) _) _;refine bF (λsl a4=>Drawn 3 (ns.take 63) (S0 Ps ns) a4/\∃P:ag,P.ok (ZJ.k7 6 24)/\P.size<=25/\P.dep<=8/\sl=g7 (some (.ck ns)) (some (.ptr 3)) (some (.lst (l.map dt))) (some tt) (some (.str (aj P.txt))) cB b7 cY e4 h8 fh eN) ?_ ?_
   .rw[jK,gY,iW,gY,iW,aX (i:=1) rfl,aS,iW,aX (i:=2) rfl,aS,iW,CK,CJ,gY,aE (aX (i:=1) rfl) (aE rfl bh),aS]
    refine(oQ (many:=8) (by decide) (by decide)).hW j9.1 λd a4 ⟨r,hr,e⟩ mr=>?_;subst e;have a6:bC (.int 1) (.int (r:Int)) a4=.ok (.int ((1+r:Nat):Int)) a4:=bp (by simp);rw[a6,aS,q3];refine(aaA (names:=l) (by intro h;rw[h]at acO;cases acO) atH (by omega) 9 (1+r) (by omega) (by decide) (by omega)).hW mr.1 λd bR ⟨P,e,h1,h2,aH⟩ qq=>?_;subst e;rw[q3];have lt:tW [P.dat eg] bR=.ok (.str (aj P.txt)) bR:=Rz A6.vA A6.dZ A6.len A6.dx P 9 h1 (by omega) (by omega) bR;rw[lt,aS,hV];exact⟨(j9.trans mr).trans qq,P,h1,by omega,by omega,rfl⟩
   rintro sl a4 ⟨mr,P,hok,eR,tQ,rfl⟩;have hlen:P.txt.length<=500:=by
    have:=ag.Ru A6.len (by decide) P hok;omega
   have TN:Lo P.txt:=ag.JB P hok;have atJ:=JU A6.rd hok (by omega) tQ;generalize ZE:P.txt=sh at *;have atL:ku sh:=n5 TN;refine bF (λsl bR=>Drawn 3 (ns.take 63) (S0 Ps ns) bR/\∃s:List Nat,Lo s/\s.length<=3/\sl=g7 (some (.ck ns)) (some (.ptr 3)) (some (.lst (l.map dt))) (some tt) (some (.str (aj sh))) (some (.str (aj s))) b7 cY e4 h8 fh eN) ?_ ?_
   .have hq:=nY (ds:=A5) (S:=a4) (sl:=g7 (some (.ck ns)) (some (.ptr 3)) (some (.lst (l.map dt))) (some tt) (some (.str (aj sh))) cB b7 cY e4 h8 fh eN)
     (aE (f:=af (.str "")) rfl (aE (f:=af (.str " ")) rfl (aE (f:=af (.str ",")) rfl (aE (f:=af (.str "|")) rfl (aE (f:=af (.str "(")) rfl (aE (f:=af (.str ")")) rfl (aE (f:=af (.str "[")) rfl (aE (f:=af (.str "]")) rfl (aE (f:=af (.str ":")) rfl (aE (f:=af (.str "a")) rfl (aE (f:=af (.str "A")) rfl (aE (f:=af (.str ", ")) rfl (aE (f:=af (.str " | ")) rfl (aE (f:=af (.str "1:")) rfl (aE (f:=af (.str "0")) rfl bh))))))))))))))) (by simp[A5])
    rw[jK,gY,aE (aX (i:=1) rfl) (aE hq bh),aS];refine(zx (by simp[A5]) (by simp[A5]) (by rfl)).hW mr.1 λd bR hd qq=>?_;obtain⟨s,rfl,tM,ru⟩:=ats hd;rw[hV];exact⟨mr.trans qq,s,tM,ru,rfl⟩
   rintro sl bR ⟨qq,s,tM,ru,rfl⟩;refine bF (λsl dO=>Drawn 3 (ns.take 63) (S0 Ps ns) dO/\∃k:Nat,sl=g7 (some (.ck ns)) (some (.ptr 3)) (some (.lst (l.map dt))) (some tt) (some (.str (aj sh))) (some (.str (aj s))) (some (.int (k:Int))) cY e4 h8 fh eN) ?_ ?_
   .have hn:aq bC (ak cz (ae (eName 4) ah)) (af (.int 1)) (g7 (some (.ck ns)) (some (.ptr 3)) (some (.lst (l.map dt))) (some tt) (some (.str (aj sh))) (some (.str (aj s))) b7 cY e4 h8 fh eN) bR=.ok (.int ((sh.length:Int)+1)) bR:=bp (by
     have EK:sh.length<=1000000:=by omega
     simp[EK])
    rw[jK,gY,aE (aX (i:=1) rfl) (aE hn bh),aS];refine(oQ (by omega) (by omega)).hW qq.1 λd dO ⟨k,hk,e⟩ n6=>?_;subst e;rw[hV];exact⟨qq.trans n6,k,rfl⟩
   rintro sl dO ⟨n6,k,rfl⟩;refine bF (λsl dB=>Drawn 3 (ns.take 63) (S0 Ps ns) dB/\∃b:List Nat,Lo b/\b.length<=1000/\sl=g7 (some (.ck ns)) (some (.ptr 3)) (some (.lst (l.map dt))) (some tt) (some (.str (aj sh))) (some (.str (aj s))) (some (.int (k:Int))) (some (.str (aj b))) e4 h8 fh eN) ?_ ?_
   .have a1:e0 false (eName 4) fN (ec (eName 6)) (g7 (some (.ck ns)) (some (.ptr 3)) (some (.lst (l.map dt))) (some tt) (some (.str (aj sh))) (some (.str (aj s))) (some (.int (k:Int))) cY e4 h8 fh eN) dO=.ok (.str (aj (sh.take k))) dO:=EJ (aX (i:=4) rfl) rfl (xY (aX (i:=6) rfl)) (by omega) (Wt sh k)
    have a2:=rX a1 (aX (i:=5) (d:=.str (aj s)) rfl) (by simp;omega);rw[jK,CK,a2,aS,Nx,aX (i:=4) rfl,aS,Wd,CK,aX (i:=6) rfl,aS,gY,aE (aX (i:=1) rfl) (aE rfl bh),aS];refine(oQ (by omega) (by omega)).hW n6.1 λd dB ⟨j,cK,e⟩ rJ=>?_;subst e;have a6:bC (.int (k:Int)) (.int (j:Int)) dB=.ok (.int ((k+j:Nat):Int)) dB:=bp (by simp);rw[a6,aS];refine⟨_,rfl,?_⟩;rw[Wc,Ww,Ws];refine⟨by omega,?_⟩;rw[Wq];refine⟨by simp;omega,?_⟩;rw[hV];refine⟨n6.trans rJ,sh.take k++s++sh.drop (k+j),λc hc=>?_,?_,rfl⟩
    .rcases nh.mp hc with h|h
     .rcases nh.mp h with h|h
      .exact TN c (FX h)
      .exact tM c h
     .exact TN c (KY h)
    .simp
     omega
   rintro sl dB ⟨rJ,b,kv,tq,rfl⟩;have atM:∀S,jar [.str (aj b)] S=rL (eY b) b S:=λS=>FQ tq kv;have Ky:ku b:=n5 kv;refine bF (λsl dU=>dU=dB/\sl=g7 (some (.ck ns)) (some (.ptr 3)) (some (.lst (l.map dt))) (some tt) (some (.str (aj sh))) (some (.str (aj s))) (some (.int (k:Int))) (some (.str (aj b))) (some (pB (eY b) b)) h8 fh eN) (iB (asL rJ atM) ⟨rfl,rfl⟩) ?_;rintro sl dU ⟨rfl,rfl⟩;have t0:=asM (S:=dU) (sl:=g7 (some (.ck ns)) (some (.ptr 3)) (some (.lst (l.map dt))) (some tt) (some (.str (aj sh))) (some (.str (aj s))) (some (.int (k:Int))) (some (.str (aj b))) (some (pB (eY b) b)) h8 fh eN) (o:=eY b) (w:=b) (i:=8) rfl;have done:Drawn 3 (ns.take 63) (S0 Ps ns) dU/\∃FT A1 oF A2 A3 A4 atN atO atP,g7 (some (.ck ns)) (some (.ptr 3)) (some (.lst (l.map dt))) (some tt) (some (.str (aj sh))) (some (.str (aj s))) (some (.int (k:Int))) (some (.str (aj b))) (some (pB (eY b) b)) h8 fh eN=g7 (some (.ck ns)) (some (.ptr 3)) (some (.lst (l.map dt))) FT A1 oF A2 A3 A4 atN atO atP:=⟨rJ,_,_,_,_,_,_,_,_,_,rfl⟩
   cases aY:eY b with
   |some p =>
    rw[aY]at t0 done;have jD:aQ false (.str "value") (.str "value") dU=.ok (.bl true) dU:=bp (by simp);obtain⟨atQ,acP,ayB,ayC⟩:=anz aY;have x1:aq a7 (eName 8) (af (.int 1)) (g7 (some (.ck ns)) (some (.ptr 3)) (some (.lst (l.map dt))) (some tt) (some (.str (aj sh))) (some (.str (aj s))) (some (.int (k:Int))) (some (.str (aj b))) (some (pB (some p) b)) h8 fh eN) dU=.ok (p.dat bz) dU:=dr (aX (i:=8) rfl) rfl (bp (by simp[pB,rT]));have atR:R3 [p.dat bz] dU=.ok (p.dat eg) dU:=DK p 9 acP (by omega) dU;have lt:tW [p.dat eg] dU=.ok (.str (aj p.txt)) dU:=Rz o'.vA o'.dZ o'.len o'.dx p 9 acP (by omega) (by omega) dU;have ht:=dG (aE (dG (aE x1 bh) atR) bh) lt;rw[atQ]at ht;have aw:=uS (S:=dU) Ky Ky;simp only[decide_true,rZ]at aw;rw[hL,e8,dr t0 rfl jD,aS,d6,if_pos rfl,hL,e8,dr ht (aX (i:=7) rfl) aw,aS,d6,if_neg (by simp),j5];exact done
   |none =>
    rw[aY]at t0 done;have jD:aQ false (.str "InvalidText") (.str "value") dU=.ok (.bl false) dU:=bp (by simp);have d5:b≠sh:=λe=>by
     rw[e,atJ]at aY;cases aY
    have aw:=w1 (S:=dU) Ky atL;have hp:Z.plain 11 (pB none b):=by
     show Z.plain 11 (.tup [.str "InvalidText",.str (aj b)]);rw[Z.plain];refine⟨s7.mpr λy bD=>?_,by simp⟩;simp at bD;rcases bD with rfl|rfl
     .simp[Z.plain,oV]
     .simpa using Ky
    rw[hL,e8,dr t0 rfl jD,aS,d6,if_neg (by simp),hL,uP,nL,e8,dG (aE (aX (i:=8) (d:=pB none b) rfl) (aE (hv (aE rfl (aE (aX (i:=7) rfl) bh)) (by simp)) bh)) (Pk hp),aS,d6,if_neg (by simp),e8,dr (aX (i:=7) rfl) (aX (i:=4) rfl) aw,aS,d6,decide_eq_false d5,if_neg (by simp),j5];exact done
  .rintro sl S2 ⟨bL,b0,c0,cB,b7,cY,e4,h8,fh,eN,rfl⟩
   exact⟨trivial,bL,_,_,_,_,_,_,_,_,_,_,rfl⟩
 rintro sl S2 ⟨bL,x2,b0,c0,cB,b7,cY,e4,h8,fh,eN,rfl⟩;refine bF (λsl a4=>a4=S2/\sl=(g7 (some (.ck ns)) (some (.ptr 3)) x2 b0 c0 cB b7 cY e4 (some (.lst qx)) fh eN)) (iB (nY (ds:=qx) (aE (f:=af (.str "")) rfl (aE (f:=af (.str " ")) rfl (aE (f:=af (.str "()")) rfl (aE (f:=af (.str "(a)")) rfl (aE (f:=af (.str "(a,b)")) rfl (aE (f:=af (.str "(a , b)")) rfl (aE (f:=af (.str "(a, b")) rfl (aE (f:=af (.str "a, b")) rfl (aE (f:=af (.str "a | b")) rfl (aE (f:=af (.str "(a|b)")) rfl (aE (f:=af (.str "(a, b | c)")) rfl (aE (f:=af (.str "[]")) rfl (aE (f:=af (.str "[a")) rfl (aE (f:=af (.str "a]")) rfl bh)))))))))))))) (by simp[qx])) ⟨rfl,rfl⟩) ?_;rintro sl a4 ⟨rfl,rfl⟩;refine bF (λsl bR=>bR=a4/\sl=(g7 (some (.ck ns)) (some (.ptr 3)) x2 b0 c0 cB b7 cY e4 (some (.lst (qx++rV))) fh eN)) (iB (Qw (aX (i:=9) rfl) (nY (ds:=rV) (aE (f:=af (.str "1:")) rfl (aE (f:=af (.str ":a")) rfl (aE (f:=af (.str "1a")) rfl (aE (f:=af (.str "2/4:a")) rfl (aE (f:=af (.str "-0:a")) rfl (aE (f:=af (.str "01:a")) rfl (aE (f:=af (.str "1/1:a")) rfl (aE (f:=af (.str "1 :a")) rfl (aE (f:=af (.str "1: a")) rfl (aE (f:=af (.str "abcdefghi")) rfl (aE (f:=af (.str "A")) rfl (aE (f:=af (.str "a b")) rfl (aE (f:=af (.str "[a][b]")) rfl bh))))))))))))) (by simp[rV])) (by simp[qx,rV])) ⟨rfl,rfl⟩) ?_;rintro sl bR ⟨rfl,rfl⟩;refine bF (λsl dO=>dO=bR/\sl=(g7 (some (.ck ns)) (some (.ptr 3)) x2 b0 c0 cB b7 cY e4 (some (.lst ((qx++rV)++vZ))) fh eN)) (iB (Qw (aX (i:=9) rfl) (nY (ds:=vZ) (aE (f:=af (.str "(a, b, a, b, a, b, a)")) rfl (aE (f:=af (.str "(a | b | a | b | a | b | a)")) rfl (aE (yt (c:=40) (n:=400) rfl (by omega) (by omega)) (aE atF (aE (rX (b:=[97]) (yt (c:=91) (n:=300) rfl (by omega) (by omega)) rfl (by simp)) (aE (f:=af .non) rfl (aE (f:=af (.int 3)) rfl bh))))))) (by simp[vZ])) (by simp[qx,rV,vZ])) ⟨rfl,rfl⟩) ?_;rintro sl dO ⟨rfl,rfl⟩;refine bF (λsl dB=>dB=dO/\sl=(g7 (some (.ck ns)) (some (.ptr 3)) x2 b0 c0 cB b7 cY e4 (some (.lst jt)) fh eN)) (iB (Qw (aX (i:=9) rfl) (nY (ds:=AY) (aE ui (aE (nY (aE (f:=af (.str "a")) rfl bh) (by simp)) (aE (f:=af (.str "(a, )")) rfl (aE (f:=af (.str "(, a)")) rfl (aE (f:=af (.str "1/0:a")) rfl (aE (rX (b:=[58,97]) (yt (c:=55) (n:=31) rfl (by omega) (by omega)) rfl (by simp)) (aE (rX (b:=[58,97]) (rX (a:=[49,47]) rfl (yt (c:=55) (n:=31) rfl (by omega) (by omega)) (by simp)) rfl (by simp)) bh))))))) (by simp[AY])) (by simp[qx,rV,vZ,AY])) ⟨rfl,rfl⟩) ?_;rintro sl dB ⟨rfl,rfl⟩;have acQ:∀sl:aT,aq kA (af (.str "7")) (af (.int 30)) sl dB=.ok (.str (aj (List.replicate 30 55))) dB:=λsl=>yt (c:=55) (n:=30) rfl (by omega) (by omega);refine bF (λsl dU=>dU=dB/\sl=(g7 (some (.ck ns)) (some (.ptr 3)) x2 b0 c0 cB b7 cY e4 (some (.lst jt)) (some (qz.dat bz)) eN)) (iB (dG (aE (rX (b:=[58,97]) (acQ _) rfl (by simp)) bh) atq) ⟨rfl,rfl⟩) ?_;rintro sl dU ⟨rfl,rfl⟩;have acR:qz.dat bz=.tup [.str "scale",bz (jU:Rat),jT.dat bz]:=by rfl
 have f1:aq (aQ true) (aq a7 (eName 10) (af (.int 0))) (af (.str "scale")) (g7 (some (.ck ns)) (some (.ptr 3)) x2 b0 c0 cB b7 cY e4 (some (.lst jt)) (some (qz.dat bz)) eN) dU=.ok (.bl false) dU:=dr (dr (r:=.str "scale") (aX (i:=10) rfl) rfl (bp (by rw[acR];simp))) rfl (bp (by simp));have f2:ak tF (ae (aq a7 (eName 10) (af (.int 1))) ah) (g7 (some (.ck ns)) (some (.ptr 3)) x2 b0 c0 cB b7 cY e4 (some (.lst jt)) (some (qz.dat bz)) eN) dU=.ok (.tup [.int (jU:Int),.int 1]) dU:=dG (aE (dr (r:=bz (jU:Rat)) (aX (i:=10) rfl) rfl (bp (by rw[acR];simp))) bh) acw;have f3:aQ true (.tup [.int (jU:Int),.int 1]) (.tup [.int (jU:Int),.int 1]) dU=.ok (.bl false) dU:=by
  rcases QF (S:=dU) (neg:=true) (d:=.tup [.int (jU:Int),.int 1])with e|e
  .have hp:Z.plain 3 (.tup [.int (jU:Int),.int 1]):=by simp[Z.plain,jL]
   rw[IK hp hp (by omega) (by omega)]at e;cases e
  .exact e
 refine bF (λsl ja=>ja=dU/\sl=(g7 (some (.ck ns)) (some (.ptr 3)) x2 b0 c0 cB b7 cY e4 (some (.lst jt)) (some (qz.dat bz)) eN)) (Jd (alo (Es f1) (Es (dr f2 (hv (aE (dG (aE (acQ _) bh) atr) (aE rfl bh)) (by simp)) f3))) (Je ⟨rfl,rfl⟩)) ?_;rintro sl ja ⟨rfl,rfl⟩;have bO:=Pl (Tz ns) bL;have gW:ZG.oZ ja:=by
  obtain⟨_,a,g,s,rfl⟩:=bL;have hc:Cl ((S0 Ps ns).set 3 (f7 (ns.take 63) a g s)):=λm hm k=>by
   have e:(S0 Ps ns).set 3 (f7 (ns.take 63) a g s)=mV (Ks Ps)++[f7 (ns.take 63) a g s]:=rfl;rw[e]at hm;rcases nh.mp hm with hm|hm
   .simp[mV]at hm
    rcases hm with rfl|rfl|rfl<;>rfl
   .rw[qA.mp hm]
    exact NR _ _ _ _ _
  exact hc.ok
 have hb:ak (Ay Ps) ah (g7 (some (.ck ns)) (some (.ptr 3)) x2 b0 c0 cB b7 cY e4 (some (.lst jt)) (some (qz.dat bz)) eN) ja=.ok (.bl true) ja:=dG bh (atj (QB bL) (asB bL) bO gW);rw[sX,CL,hb,aS,d6,if_pos rfl,dG (aE (atv bL) (aE atu bh)) (Pk (asz v5 (by rw[Kt];omega))),aS,kr];obtain⟨_,a,g,s,rfl⟩:=bL;have e:(S0 Ps ns).set 3 (f7 (ns.take 63) a g s)=mV (Ks Ps)++[f7 (ns.take 63) a g s]:=rfl;rw[e];exact uQ (fz.refl _) rfl rfl
theorem atU:∀(Ps:Nat->Addr) (ns:List Int),ns.length<=63->(∀z∈ns,Builtin.Int.intBits z<=1048576)->∀(aU:List (Str×Addr)),∃S,bI 12 (rO Ps aU) [.ck ns] (mV [(Ps 0,"_law_asker.<locals>.<lambda>"),(Ps 1,"_law_bounds_so.<locals>.<lambda>"),(Ps 2,"law.<locals>.<lambda>")])=.ok (.bl true) S:=λPs ns _ _ aU=>by
 obtain⟨a,ao,e,rfl⟩:=(atG Ps aU ns).get;exact⟨ao,e⟩
end K32
open PySem PySem.W PySem.Calls PyProof.Rows
theorem PySem.Challenge.cw_waysagree_k32_texts_that_are_no_plans_holds : PySem.Challenge.rw_waysagree_k32_texts_that_are_no_plans.Holds :=
 K32.ar5 K32.atU
end
