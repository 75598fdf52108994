import PyProof.Rows.All
import Wide.All
import OpenK.AllK
import Wide.FinOn
import HandS.ForMost
import HandS.ForExc
import HandS.Lambda
import HandS.Wide
import HandS.Flow
import HandS.IsInst
import HandS.Style
import HandS.Defaults
import HandS.CallSlots
import HandS.Zip
import HandS.Small
import HandS.More
import PyProof.ListStr
import HandS.Strs
import HandS.SetKeys
import PyProof.Rows.SetFrom
import HandS.WordsDict
import HandS.TupLen
import HandS.Text
import HandS.RaiseMore
import HandS.SortInts
import HandS.Conv
import HandS.HeadHook2
import HandS.HeadEnd
import HandS.Head2
import HandS.Property
import HandS.ClsMeth
import HandS.HeadNt
import HandS.MakeKw
import HandS.MakeKwOnly
import HandS.SlotsOwn
import HandS.FStr
import OpenK.KOps
import KE.GoesMore
import PyProof.EnumFor
import HandS.HeadHook3
import HandS.Replace
import HandS.ExcInit
import HandS.HotCalls
import HandS.ExcField
import HandS.HeadHook4
import HandS.HeadWalk
import HandS.Dict
import HandS.ListItems
import KE.SortData
import HandS.DictComp
import KE.KDictList
import KE.KDictKeyed
import HandS.SortKw
import KE.SortKeyHeap
import KE.KExcInit
import KE.KDictPairs
import HandS.Nested
import KE.KSuper
import KE.KOpsOwn
import KE.KNest
import HandS.OwnEq
import HandS.Star
import HandS.Deep
import PyProof.TwoTypes
import KE.KParD
import PySem.Challenge.RW_rightfrom_k09_costs_multiplied_and_price
local macro_rules
 | `(tactic| iterate $s:tacticSeq) => `(tactic| (refine ?zz; exact (by exact ?yy : type_of% (let_mvar% ?yy := (by $s : type_of% ?zz); ?yy))))
set_option Elab.async false
set_option linter.all false
set_option maxRecDepth 100000
set_option maxHeartbeats 0
section
open PySem PySem.W PySem.Calls PyProof.Rows
theorem Lk09.o0(h:PySem.Challenge.rw_rightfrom_k09_costs_multiplied_and_price.row.wellSaid=true->PySem.Challenge.rw_rightfrom_k09_costs_multiplied_and_price.row.Holds):PySem.Challenge.rw_rightfrom_k09_costs_multiplied_and_price.Holds:=by
 w_on;o_law
 exact h (by assumption)
end
namespace DV
open PySem PySem.Spec PyProof.Rows L2
abbrev aj:=@List.length_map
abbrev ak:=@List.map_cons
abbrev ao:=@List.mem_map
abbrev au:=@List.mem_cons
abbrev az:=@List.getElem?_map
abbrev aA:=@List.length_append
abbrev aG:=@List.length_cons
abbrev aH:=@List.map_map
abbrev aJ:=@List.getElem?_eq_getElem
abbrev aK:=@List.append_assoc
abbrev aM:=@List.nil_append
abbrev aN:=@List.append_nil
abbrev aO:=@Nat.le_refl
abbrev aP:=@decide_eq_true
abbrev aQ:=@decide_eq_false
abbrev aR:=@of_decide_eq_true
abbrev aU:=@List.mem_singleton
abbrev aV:=@List.mem_append
abbrev aW:=@Option.map_eq_some_iff
abbrev aX:=@List.map_append
abbrev aY:=@List.mem_of_getElem?
abbrev aZ:=@Option.some.inj
abbrev bf:=@List.mem_map_of_mem
abbrev bh:=@Nat.le_trans
abbrev bj:=@Nat.lt_of_lt_of_le
abbrev bu:=@List.getElem?_append_left
abbrev bx:=@List.getElem?_eq_some_iff
abbrev bz:=@List.nodup_cons
abbrev bB:=@List.nodup_append
abbrev bD:=@Bool.and_eq_true
abbrev bH:=@List.filter_cons
abbrev bJ:=@List.all_eq_true
abbrev bK:=@List.mem_cons_self
abbrev bL:=@List.mem_cons_of_mem
abbrev bM:=@List.length_set
abbrev bO:=@List.any_eq_true
abbrev bQ:=@List.cons_append
theorem bU{α:Sort u}{a:α}{q:Prop}:a=a∨q:=.inl rfl
theorem bV{α:Sort u}{a:α}{q:Prop}:q∨a=a:=.inr rfl
theorem bW{α:Sort u}{a:α}{p q:Prop}:p∨a=a∨q:=.inr (.inl rfl)
abbrev yF:=PySem.W.Frag
inductive D where
  |non|bl (b:Bool)|int (i:Int)|str (x:Str)|ty (n:String)
  |lst (xs:List D)|tup (xs:List D)|kl (xs:List D)|kt (xs:List D)
  |dK (kvs:List (Key×D))|dT (kvs:List (List Key×D))
  |ins (c:Nat) (fs:List (Str×D))
  |ob (i:Nat)
  |cl (c:Nat)
  /-- the k-th lambda of the law,made in the law's frame -/
  |fn (k:Nat)
  /-- a thing of which nothing is known -/
  |unk
  /-- a dict with tuple keys that is locked -/
  |lt (kvs:List (List Key×D))
  deriving Inhabited
def D.sc:D->Option V
 |.non=>some .non
 |.bl b=>some (.bl b)
 |.int i=>some (.int i)
 |.str x=>some (.str x)
 |_=>none
inductive Ty where
  |non|bl|int|str|lst|tup|dct|ow (c:Nat)
  deriving DecidableEq
def Ty.name:Ty->String
 |.non=>"NoneType"
 |.bl=>"bool"
 |.int=>"int"
 |.str=>"str"
 |.lst=>"list"
 |.tup=>"tuple"
 |.dct=>"dict"
 |.ow _=>"object"
def bT7:List Ty:=[.non,.bl,.int,.str,.lst,.tup,.dct]
def bT6:List Ty:=[.int,.bl,.str,.lst,.tup,.dct]
def clsB(K:yF)(x:Str):Bool:=(He.Fa.cls x).ok K && (He.eqO (PySem.W.findIn K (.ref (He.ga K x)) "__class__") (some (some (.builtin "object.__class__"))) && (decide (PySem.W.mroIn K (He.ga K x) (.type "object")=some true) &&
 ((bT6.all λt=>decide (PySem.W.kitOne K (.ref (He.ga K x)) (.type t.name)=some false)) && (bT7.all λt=>decide (PySem.W.kitOne K (.type t.name) (.ref (He.ga K x))=some false) && PySem.W.notFirst K (He.ga K x) (.type t.name)))))
def MJ(K:yF)(x y:Str)(b:Bool)(nf:Bool):Bool:=decide (PySem.W.kitOne K (.ref (He.ga K x)) (.ref (He.ga K y))=some b) && (!nf ||PySem.W.notFirst K (He.ga K x) (.ref (He.ga K y)))
def zyT(K:yF):Bool:=He.eqO (PySem.W.specialIn K (.builtin "object.__class__") "__get__") (some (some (.builtin "getset_descriptor.__get__"))) && decide (PySem.W.takesIn K (.builtin "object.__class__")=some true)
def MK(K:yF)(nm:Nat->Str)(n:Nat)(sub:Nat->Nat->Bool):Bool:=zyT K && ((List.range n).all λc=>(He.Fa.glo (nm c)).ok K && (clsB K (nm c) && (List.range n).all λd=>MJ K (nm c) (nm d) (sub c d) (!(sub d c) ||c == d)))
def MN(K:yF)(nm:Nat->Str)(l:List (Nat×Str)):Bool:=l.all λp=>(He.Fa.cls (nm p.1)).ok K && (He.Fa.noat (nm p.1) p.2).ok K
def MP(K:yF)(x f:Str):Bool:=He.eqO (PySem.W.findIn K (.ref (He.ga K x)) f) (some (some (.ref (He.ma K (He.ga K x) f)))) && (He.eqO (PySem.W.specialIn K (.ref (He.ma K (He.ga K x) f)) "__get__") (some (some (.builtin "property.__get__"))) &&
 (decide (PySem.W.takesIn K (.ref (He.ma K (He.ga K x) f))=some true) && (match PySem.W.recIn K (He.ma K (He.ga K x) f) "property" with
  |some (.ref _::_)=>true
  |_=>false)))
def wfA(T:String)(x f:Str)(K:yF):Addr:=match PySem.W.recIn K (He.ma K (He.ga K x) f) T with
 |some (.ref g::_)=>g
 |_=>0
def konB(K:yF)(x f:Str)(v:V):Bool:=PySem.W.readsIn K (He.ga K x) (.type "type") && (He.eqO (PySem.W.specialIn K (.ref (He.ga K x)) "__getattribute__") (some (some (.builtin "type.__getattribute__"))) && ((He.Fa.cls x).ok K && ((!(PySem.W.copiedNames.contains f)) &&
 (match PySem.W.findCls K (.ref (He.ga K x)) (.type "type") f,PySem.W.findIn K (.ref (He.ga K x)) f with
  |some (.val u),some (some u')=>decide (u=u') && (He.relB v u && He.eqO (PySem.W.specialIn K u "__get__") (some none))
  |_,_=>false))))
def MT(K:yF)(nm:Nat->Str)(l:List (Nat×Str×D)):Bool:=l.all λp=>match p.2.2.sc with
 |some v=>konB K (nm p.1) p.2.1 v
 |none=>false
def oexB(K:yF)(C:Addr):Bool:=(match K.lookup C with
 |some ⟨.type t,_,.cls cd,sl⟩=>(match cd.mro,sl.toList with
  |.ref C'::bm,[_,_,_,_,some (.builtin n),_]=>decide (t = "type") && (decide (C'=C) && (decide (n = "ValueError.__new__") && (!cd.hasDel && (cd.hasDict && PySem.HandSPX.refsVE bm))))
  |_,_=>false)
 |_=>false) && (He.eqO (PySem.W.findIn K (.ref C) "__setattr__") (some (some (.builtin "object.__setattr__"))) && (decide (PySem.W.subIn K (.ref C) (.type "BaseException")=some true) && (decide (PySem.W.typeIn K (.ref C)=some (.type "type")) && PySem.W.keepIn K (.ref C))))
def veBB(K:yF)(B:Addr):Bool:=PySem.W.readsIn K B (.type "type") && (He.eqO (PySem.W.specialIn K (.ref B) "__getattribute__") (some (some (.builtin "type.__getattribute__"))) && (match PySem.W.findCls K (.ref B) (.type "type") "__init__" with
 |some (.val (.builtin n))=>decide (n = "ValueError.__init__")
 |_=>false))
def excB(K:yF)(C:Addr)(fs:List Str):Bool:=oexB K C && (("code" : Str)::fs).all λf=>He.eqO (PySem.W.findIn K (.ref C) f) (some none)
def M3(K:yF)(nm:Nat->Str)(l:List (Nat×Str)):Bool:=l.all λp=>xfB K (He.ga K (nm p.1)) && He.eqO (PySem.W.findIn K (.ref (He.ga K (nm p.1))) p.2) (some none)
def obsZ(chk:yF->Bool)(fn:List He5.DefA)(g:Addr->Option Obj)(K:yF):He.AlD:=(chk K && (fn.all (λd=>d.ok K) && He.tabsB g [("law",none)] K),fn.map λd=>He5.fnA K (d.at_ K))
def rR(n:Nat)(chk:yF->Bool)(fn:List He5.DefA)(g:Addr->Option Obj):He.AlD:=obsZ chk fn g (He.frT g (He5.asA g n))
def M4(K:yF)(nm:Nat->Str)(cs:List Str)(l:List Nat):Bool:=l.all λc=>decide (PySem.W.exmAny K (.ref (He.ga K (nm c))) (cs.map λx=>.ref (He.ga K x))=some true) && (xfB K (He.ga K (nm c)) && He.eqO (PySem.W.findIn K (.ref (He.ga K (nm c))) "code") (some none))
def M5(K:yF)(x m:Str):Bool:=PySem.W.readsIn K (He.ga K x) (.type "type") && (He.eqO (PySem.W.specialIn K (.ref (He.ga K x)) "__getattribute__") (some (some (.builtin "type.__getattribute__"))) &&
 (match PySem.W.findCls K (.ref (He.ga K x)) (.type "type") m with
 |some (.get (.builtin b) (.ref p) .none (.ref C))=>decide (b = "staticmethod.__get__") && (decide (p=He.ma K (He.ga K x) m) && (decide (C=He.ga K x) && (match PySem.W.recIn K p "staticmethod" with
  |some (.ref _::_)=>true
  |_=>false)))
 |_=>false))
inductive XB where
  |ve|le|ie
  deriving DecidableEq
def XB.tl:XB->List Value
 |.ve=>[.type "ValueError",.type "Exception",.type "BaseException",.type "object"]
 |.le=>[.type "LookupError",.type "Exception",.type "BaseException",.type "object"]
 |.ie=>[.type "IndexError",.type "LookupError",.type "Exception",.type "BaseException",.type "object"]
def XB.row(b:XB):List Value->Bool
 |[]=>false
 |.ref _::l=>b.row l
 |.type n::l=>(Value.type n::l) == b.tl
 |_=>false
def refO:Option (Option Value)->Bool
 |some none=>true
 |some (some (.ref _))=>true
 |_=>false
def kY(K:yF)(T:String):Option Bool:=match PySem.W.findIn K (.type T) (PySem.dunder "mul"),PySem.W.findIn K (.type T) (dunderR "mul") with
 |some fo,some ro=>some ((fo.isSome && !isSeqSlot fo) ||(ro.isSome && !isSeqSlot ro))
 |_,_=>none
def vY:List String:=["int","bool","NoneType","str","tuple"]
def mulK(K:yF)(C:Addr):Bool:=(vY.all λT=>(kY K T).isSome && (PySem.W.subIn K (.type T) (.ref C) == some false && PySem.W.subIn K (.ref C) (.type T) == some false)) && (kY K "NoneType" == some false && (kY K "str" == some false && kY K "tuple" == some false))
end DV
namespace Lk09
open PySem PySem.Spec PyProof.Rows L2 DV
def top(i:Nat):Stmt:=PySem.Challenge.pw_rightfrom_k09_costs_multiplied_and_price.main.body.getD i (.Pass ⟨0,0,0,0⟩)
abbrev ncl:Nat:=1
def cnm:Nat->Str:=λc=>(["Costs","InvalidSymbols","InvalidSymbol","InvalidCost","InvalidNumber","NothingLeft"]:List Str).getD c ""
def sub:Nat->Nat->Bool:=λc d=>c == d
def fldl:List (Nat×Str):=([(0,"own_symbols"),(0,"own_values")]:List (Nat×Str))
def konl:List (Nat×Str×D):=[]
abbrev dN:Stmt:=top 32
def xfl:List (Nat×Str):=([(3,"code"),(3,"given"),(4,"code"),(4,"given"),(2,"code"),(2,"given"),(1,"code"),(1,"given")]:List (Nat×Str))
def catl:List Nat:=[3,4,2,1]
abbrev rW:Stmt:=top 12
theorem _root_.L2.Room.u64{k:Nat}{A:Around}(h:Room k A):A.units+64<cLine:=by have:=h.un;omega
theorem _root_.L2H.RoomH.u64{k:Nat}{A:Around}(h:L2H.RoomH k A):A.units+64<cLine:=by have:=h.un;omega
theorem _root_.L2H.RoomH.u1{k:Nat}{A:Around}(h:L2H.RoomH k A):A.units+1<cLine:=by have:=h.un;omega
theorem _root_.L2.Room.u1{k:Nat}{A:Around}(h:Room k A):A.units+1<cLine:=by have:=h.un;omega
abbrev FnA(d:He5.DefA)(K:yF):=FunD K d.name d.qual d.params d.body d.scope (d.dvs K) (d.kws K)
def lW:He5.DefA:=⟨λK=>He.ga K "is_number","is_number","is_number",defArgs rW,defBody rW,defScope rW,[],[("least",.int (-1000000000000000000000000000000)),("most",.int 1000000000000000000000000000000)]⟩
abbrev rY:Stmt:=top 13
def lX:He5.DefA:=⟨λK=>He.ga K "only_of","only_of","only_of",defArgs rY,defBody rY,defScope rY,[],[]⟩
abbrev rZ:Stmt:=top 14
def lY:He5.DefA:=⟨λK=>He.ga K "is_symbols","is_symbols","is_symbols",defArgs rZ,defBody rZ,defScope rZ,[],[]⟩
abbrev sr:Stmt:=top 15
def lZ:He5.DefA:=⟨λK=>He.ga K "is_symbol","is_symbol","is_symbol",defArgs sr,defBody sr,defScope sr,[],[]⟩
abbrev su:Stmt:=top 16
def mj:He5.DefA:=⟨λK=>He.ga K "is_row","is_row","is_row",defArgs su,defBody su,defScope su,[],[]⟩
abbrev sE:Stmt:=top 19
def mD:He5.DefA:=⟨λK=>He.ga K "is_cost","is_cost","is_cost",defArgs sE,defBody sE,defScope sE,[],[]⟩
abbrev s_z0:Stmt:=inClass (top 4) 0
def mH:He5.DefA:=⟨λK=>He.ma K (He.ga K "InvalidSymbols") "__init__","__init__","InvalidSymbols.__init__",defArgs s_z0,defBody s_z0,defScope s_z0,[],[]⟩
abbrev s_z3:Stmt:=inClass (top 6) 0
def mJ:He5.DefA:=⟨λK=>He.ma K (He.ga K "InvalidCost") "__init__","__init__","InvalidCost.__init__",defArgs s_z3,defBody s_z3,defScope s_z3,[],[]⟩
abbrev s_z6:Stmt:=inClass (top 20) 1
def mK:He5.DefA:=⟨λK=>He.ma K (He.ga K "Costs") "__init__","__init__","Costs.__init__",defArgs s_z6,defBody s_z6,defScope s_z6,[],[]⟩
abbrev s_z7:Stmt:=inClass (top 20) 2
def mO:He5.DefA:=⟨λK=>wfA "property" "Costs" "symbols" K,"symbols","Costs.symbols",defArgs s_z7,defBody s_z7,defScope s_z7,[],[]⟩
abbrev sG:Stmt:=inClass (top 20) 3
def mQ:He5.DefA:=⟨λK=>He.ma K (He.ga K "Costs") "listed","listed","Costs.listed",defArgs sG,defBody sG,defScope sG,[],[]⟩
abbrev s_z1:Stmt:=inClass (top 5) 0
def mU:He5.DefA:=⟨λK=>He.ma K (He.ga K "InvalidSymbol") "__init__","__init__","InvalidSymbol.__init__",defArgs s_z1,defBody s_z1,defScope s_z1,[],[]⟩
abbrev pO:Stmt:=inClass (top 20) 6
def gG:He5.DefA:=⟨λK=>wfA "staticmethod" "Costs" "priced" K,"priced","Costs.priced",defArgs pO,defBody pO,defScope pO,[],[]⟩
abbrev s_z4:Stmt:=inClass (top 20) 8
def mV:He5.DefA:=⟨λK=>He.ma K (He.ga K "Costs") "__setitem__","__setitem__","Costs.__setitem__",defArgs s_z4,defBody s_z4,defScope s_z4,[],[]⟩
abbrev s_z2:Stmt:=inClass (top 7) 0
def mW:He5.DefA:=⟨λK=>He.ma K (He.ga K "InvalidNumber") "__init__","__init__","InvalidNumber.__init__",defArgs s_z2,defBody s_z2,defScope s_z2,[],[]⟩
abbrev s_z8:Stmt:=inClass (top 20) 10
def mX:He5.DefA:=⟨λK=>He.ma K (He.ga K "Costs") "__mul__","__mul__","Costs.__mul__",defArgs s_z8,defBody s_z8,defScope s_z8,[],[]⟩
abbrev s_z5:Stmt:=inClass (top 20) 11
def mY:He5.DefA:=⟨λK=>He.ma K (He.ga K "Costs") "__rmul__","__rmul__","Costs.__rmul__",defArgs s_z5,defBody s_z5,defScope s_z5,[],[]⟩
abbrev sH:Stmt:=top 22
def mZ:He5.DefA:=⟨λK=>He.ga K "_law_open","_law_open","_law_open",defArgs sH,defBody sH,defScope sH,[],[]⟩
abbrev sJ:Stmt:=top 23
def m7:He5.DefA:=⟨λK=>He.ga K "_law_draw","_law_draw","_law_draw",defArgs sJ,defBody sJ,defScope sJ,[],[]⟩
abbrev sO:Stmt:=top 24
def m9:He5.DefA:=⟨λK=>He.ga K "_law_of","_law_of","_law_of",defArgs sO,defBody sO,defScope sO,[],[]⟩
abbrev pP:Stmt:=top 25
def ni:He5.DefA:=⟨λK=>He.ga K "_law_same","_law_same","_law_same",defArgs pP,defBody pP,defScope pP,[],[]⟩
abbrev sS:Stmt:=top 26
def nq:He5.DefA:=⟨λK=>He.ga K "_law_field","_law_field","_law_field",defArgs sS,defBody sS,defScope sS,[],[]⟩
abbrev sU:Stmt:=top 27
def nu:He5.DefA:=⟨λK=>He.ga K "_law_try","_law_try","_law_try",defArgs sU,defBody sU,defScope sU,[],[]⟩
abbrev pQ:Stmt:=top 28
def nJ:He5.DefA:=⟨λK=>He.ga K "_law_tries","_law_tries","_law_tries",defArgs pQ,defBody pQ,defScope pQ,[],[]⟩
abbrev s_z9:Stmt:=top 29
def nM:He5.DefA:=⟨λK=>He.ga K "_law_symbols","_law_symbols","_law_symbols",defArgs s_z9,defBody s_z9,defScope s_z9,[],[]⟩
abbrev sV:Stmt:=top 30
def nO:He5.DefA:=⟨λK=>He.ga K "_law_cost","_law_cost","_law_cost",defArgs sV,defBody sV,defScope sV,[],[]⟩
abbrev pU:Stmt:=top 31
def nQ:He5.DefA:=⟨λK=>He.ga K "_law_prices","_law_prices","_law_prices",defArgs pU,defBody pU,defScope pU,[],[]⟩
def eQ:He5.DefA:=⟨λK=>He.ga K "law","law","law",defArgs dN,defBody dN,defScope dN,[],[]⟩
def fnl:List He5.DefA:=[lW,lX,lY,lZ,mj,mD,mH,mJ,mK,mO,mQ,mU,gG,mV,mW,mX,mY,mZ,m7,m9,ni,nq,nu,nJ,nM,nO,nQ,eQ]
def chkl(K:yF):List Bool:=[(He.Fa.glo "is_number").ok K,
 (He.Fa.glo "only_of").ok K,
 (He.Fa.glo "is_symbols").ok K,
 (He.Fa.glo "is_symbol").ok K,
 (He.Fa.glo "is_row").ok K,
 (He.Fa.glo "is_cost").ok K,
 (He.Fa.glo "_law_open").ok K,
 (He.Fa.glo "_law_draw").ok K,
 (He.Fa.glo "_law_of").ok K,
 (He.Fa.glo "_law_same").ok K,
 (He.Fa.glo "_law_field").ok K,
 (He.Fa.glo "_law_try").ok K,
 (He.Fa.glo "_law_tries").ok K,
 (He.Fa.glo "_law_symbols").ok K,
 (He.Fa.glo "_law_cost").ok K,
 (He.Fa.glo "_law_prices").ok K,
 (He.Fa.glo "law").ok K,
 (He.Fa.glo "Costs").ok K,
 (He.Fa.cls "Costs").ok K,
 (He.Fa.mkr "Costs").ok K,
 M5 K "Costs" "priced",
 (He.Fa.meth "Costs" "__mul__").ok K,
 (He.Fa.meth "Costs" "__rmul__").ok K,
 (He.Fa.meth "Costs" "__setitem__").ok K,
 (He.Fa.meth "Costs" "listed").ok K,
 MP K "Costs" "symbols",
 mulK K (He.ga K "Costs"),
 refO (PySem.W.findIn K (.ref (He.ga K "Costs")) (PySem.dunderR "mul")),
 PySem.W.selfFirst K (He.ga K "Costs"),
 PySem.W.noSeq K (He.ga K "Costs"),
 MK K cnm ncl sub,
 MN K cnm fldl,
 MT K cnm konl,
 (He.Fa.glo "InvalidCost").ok K,
 excB K (He.ga K "InvalidCost") ["given"],
 He.eqO (PySem.W.findIn K (.ref (He.ga K "InvalidCost")) "__init__") (some (some (.ref (He.ma K (He.ga K "InvalidCost") "__init__")))),
 decide (PySem.W.typeIn K (.ref (He.ma K (He.ga K "InvalidCost") "__init__"))=some (.type "function")),
 (He.Fa.glo "InvalidNumber").ok K,
 excB K (He.ga K "InvalidNumber") ["given"],
 He.eqO (PySem.W.findIn K (.ref (He.ga K "InvalidNumber")) "__init__") (some (some (.ref (He.ma K (He.ga K "InvalidNumber") "__init__")))),
 decide (PySem.W.typeIn K (.ref (He.ma K (He.ga K "InvalidNumber") "__init__"))=some (.type "function")),
 (He.Fa.glo "InvalidSymbol").ok K,
 excB K (He.ga K "InvalidSymbol") ["given"],
 He.eqO (PySem.W.findIn K (.ref (He.ga K "InvalidSymbol")) "__init__") (some (some (.ref (He.ma K (He.ga K "InvalidSymbol") "__init__")))),
 decide (PySem.W.typeIn K (.ref (He.ma K (He.ga K "InvalidSymbol") "__init__"))=some (.type "function")),
 (He.Fa.glo "InvalidSymbols").ok K,
 excB K (He.ga K "InvalidSymbols") ["given"],
 He.eqO (PySem.W.findIn K (.ref (He.ga K "InvalidSymbols")) "__init__") (some (some (.ref (He.ma K (He.ga K "InvalidSymbols") "__init__")))),
 decide (PySem.W.typeIn K (.ref (He.ma K (He.ga K "InvalidSymbols") "__init__"))=some (.type "function")),
 M4 K cnm ["FromError","Missing","NothingLeft"] catl,
 M3 K cnm xfl,
 (He.Fa.glo "FromError").ok K,
 (He.Fa.glo "Missing").ok K,
 (He.Fa.glo "NothingLeft").ok K,
 veBB K (He.ga K "FromError"),
 (He.Fa.free "abs").ok K,
 (He.Fa.free "all").ok K,
 (He.Fa.free "bool").ok K,
 (He.Fa.free "int").ok K,
 (He.Fa.free "isinstance").ok K,
 (He.Fa.free "len").ok K,
 (He.Fa.free "list").ok K,
 (He.Fa.free "range").ok K,
 (He.Fa.free "set").ok K,
 (He.Fa.free "sorted").ok K,
 (He.Fa.free "str").ok K,
 (He.Fa.free "tuple").ok K,
 (He.Fa.free "zip").ok K,
 (He.Fa.int "GREATEST" 1000000000000).ok K,
 (He.Fa.str "SIGNS" "abcdefghijklmnopqrstuvwxyz0123456789").ok K]
def chk(K:yF):Bool:=(chkl K).all λb=>b
def nms:List Str:=(["_wall","FromError","Missing","InvalidSymbols","InvalidSymbol","InvalidCost","InvalidNumber","NothingLeft","BIG","SIGNS","is_number","only_of","is_symbols","is_symbol","is_row","GREATEST","is_cost","Costs","_law_open","_law_draw"]:List Str)++(["_law_of","_law_same","_law_field","_law_try","_law_tries","_law_symbols","_law_cost","_law_prices"]:List Str)
abbrev R:PySem.W.OpenRow:=PySem.W.OpenLaw.row PySem.Challenge.rw_rightfrom_k09_costs_multiplied_and_price
def ob(s:PySem.W.SharedT):He.AlD:=rR 5 chk fnl (HandSHeadRun.getT s)
section
open PySem.W PySem.Calls
theorem run1(w:World)(os:OsState):(HandSHeadRun.endF (HandSHeadRun.stepQ (HandSHeadRun.denQ HandSHeadRun.tabQ) R.prog w) 20000 R.prog w os).map (λs=>(HandSHeadRun.looksF R.prog (boot_heap w.params) s.abs,HandSHeadRun.seenQ (PySem.W.view R.prog [32]) nms (importedModules R.prog.main.body) (λs=>PySem.W.xlAt (PySem.W.view R.prog [32]) [] s && PySem.W.recOk R.toRowW.records s) s.abs))=some (true,PySem.W.openGood (PySem.W.view R.prog [32]) nms):=by
 kernel_rfl
theorem run2(w:World)(os:OsState):(HandSHeadRun.endF (HandSHeadRun.stepQ (HandSHeadRun.denQ HandSHeadRun.tabQ) R.prog w) 20000 R.prog w os).map (λs=>ob s)=some (He5.valA fnl):=by
 kernel_rfl
end
end Lk09
namespace DV
open PySem PySem.Spec PyProof.Rows L2
section
/-- what a name of the frame,or a thing of the store,holds: a datum that never changes,or a thing of its own -/
inductive Sl where
  |emp
  |val (d:D)
  |lst (xs:List D)
  |dK (kvs:List (Key×D))|dT (kvs:List (List Key×D))
  |ins (c:Nat) (fs:List (Str×Sl))
  /-- a code object's table;a cell of the law's frame,kept for it;that cell,looked into;a caught exception -/
  |tab (q:Str)|rsv (x:Str)|cel (x:Str) (d:D)|exn (c:Nat) (fs:List (Str×D))
  deriving Inhabited
/-- a lambda without parameters -/
structure LamI where
  qual:Str
  params:Arguments
  body:Expr
  scope:Scope
structure Gm where
  K:yF
  cA:Nat->Addr
  lam:Nat->LamI
  cel:List (Str×Addr)
  tb:Str->Addr
/-- all names that it captures have cells -/
def LamI.Full(L:LamI)(cel:List (Str×Addr)):Prop:=∀y∈L.scope.names,y.2=.free->∃b,cel.lookup y.1=some b
abbrev LamI.obj(L:LamI)(cel:List (Str×Addr))(pm:Value)(c:Addr)(ct:Value):Obj:=PySem.W.kla_obj "<lambda>" L.qual L.params L.body L.scope (cloFrom cel L.scope.names []) pm c ct
/-- the codes that a table tells are known -/
structure TabC(F:Hp)(ps:Array Value)(q:Str):Prop where
  tr:TriplesOk ps.toList
  co:∀(pos:Pos) (cv:Value),codeAmong pos ps.toList=some cv->∃c,cv=.ref c∧F c=some (LamX.CodeO c q)
section
variable(Γ:Gm)(R:List Addr)(F:Hp)
mutual
def Rep:D->V->Prop
 |.non,v=>v=.non
 |.bl b,v=>v=.bl b
 |.int i,v=>v=.int i
 |.str x,v=>v=.str x
 |.ty n,v=>v=.ty n
 |.lst xs,v=>∃a ys,v=.ref a∧F a=some (.lst ys)∧RepL xs ys
 |.kl xs,v=>∃a ys,v=.ref a∧SqL Γ.K F a ys∧RepL xs ys
 |.tup xs,v=>∃a ys,v=.ref a∧F a=some (.tup ys)∧RepL xs ys
 |.kt xs,v=>∃a ys,v=.ref a∧SqT Γ.K F a ys∧RepL xs ys
 |.dK kvs,v=>∃a ys,v=.ref a∧F a=some (.dK ys)∧RepK kvs ys
 |.dT kvs,v=>∃a ys,v=.ref a∧F a=some (.dT ys)∧RepT kvs ys
 |.ins c fs,v=>∃a dx gs,v=.ref a∧F a=some (.ins (Γ.cA c) dx gs)∧F dx=some (.own a)∧RepF fs gs
 |.ob i,v=>∃a,R[i]? = some a∧v=.ref a
 |.cl c,v=>v=.ref (Γ.cA c)
 |.fn k,v=>∃f c pm ct,v=.ref f∧F f=some (.frz ((Γ.lam k).obj Γ.cel pm c ct) (.own f))∧F c=some (LamX.CodeO c (Γ.lam k).qual)∧(Γ.lam k).Full Γ.cel
 |.unk,v=>∃a,v=.ref a
 |.lt kvs,v=>∃a o ys,v=.ref a∧F a=some (.frz o (.dT ys))∧RepT kvs ys
def RepL:List D->List V->Prop
 |[],ys=>ys=[]
 |x::xs,ys=>∃y ys',ys=y::ys'∧Rep x y∧RepL xs ys'
def RepK:List (Key×D)->List (Key×V)->Prop
 |[],ys=>ys=[]
 |(k,x)::xs,ys=>∃y ys',ys=(k,y)::ys'∧Rep x y∧RepK xs ys'
def RepT:List (List Key×D)->List (List Key×V)->Prop
 |[],ys=>ys=[]
 |(k,x)::xs,ys=>∃y ys',ys=(k,y)::ys'∧Rep x y∧RepT xs ys'
def RepF:List (Str×D)->List (Str×V)->Prop
 |[],ys=>ys=[]
 |(k,x)::xs,ys=>∃y ys',ys=(k,y)::ys'∧Rep x y∧RepF xs ys'
end
abbrev Cells:=List (Addr×HO)
mutual
def Own:Sl->V->Cells->Prop
 |.emp,_,_=>False
 |.val d,v,c=>c=[]∧Rep Γ R F d v
 |.lst xs,v,c=>∃a ys,v=.ref a∧RepL Γ R F xs ys∧c=[(a,.lst ys)]
 |.dK kvs,v,c=>∃a ys,v=.ref a∧RepK Γ R F kvs ys∧c=[(a,.dK ys)]
 |.dT kvs,v,c=>∃a ys,v=.ref a∧RepT Γ R F kvs ys∧c=[(a,.dT ys)]
 |.ins cn fs,v,c=>∃a dx gs c',v=.ref a∧OwnF fs gs c'∧c=(a,.ins (Γ.cA cn) dx gs)::(dx,.own a)::c'
 |.tab q,v,c=>∃ps,v=.ref (Γ.tb q)∧TabC F ps q∧c=[(Γ.tb q,.tbl ps)]
 |.rsv x,v,c=>(∃b,v=.ref b)∧(∃a,Γ.cel.lookup x=some a)∧c=[]
 |.cel x d,v,c=>∃a o u y,(∃b,v=.ref b)∧Γ.cel.lookup x=some a∧o.data=.cell (some u)∧RelV y u∧Rep Γ R F d y∧c=[(a,.frz o (.own a))]
 |.exn cn fs,v,c=>∃a o dd vs gs,v=.ref a∧o.cls=.ref (Γ.cA cn)∧o.dict=some dd∧o.data=.fields vs∧F dd=some (.xd gs)∧RepF Γ R F fs gs∧c=[(a,.frz o (.own a))]
def OwnF:List (Str×Sl)->List (Str×V)->Cells->Prop
 |[],gs,c=>gs=[]∧c=[]
 |(f,s)::fs,gs,c=>∃v gs' c1 c2,gs=(f,v)::gs'∧Own s v c1∧OwnF fs gs' c2∧c=c1++c2
end
/-- a name's slot: nothing is known of an empty one -/
def OwnO:Sl->Option V->Cells->Prop
 |.emp,_,c=>c=[]
 |s,o,c=>∃v,o=some v∧Own Γ R F s v c
def OwnE:List Sl->List (Option V)->Cells->Prop
 |[],σ,c=>σ=[]∧c=[]
 |s::ρ,σ,c=>∃o σ' c1 c2,σ=o::σ'∧OwnO Γ R F s o c1∧OwnE ρ σ' c2∧c=c1++c2
def OwnS:List Sl->List Addr->Cells->Prop
 |[],r,c=>r=[]∧c=[]
 |s::S,r,c=>∃a r' c1 c2,r=a::r'∧OwnO Γ R F s (some (.ref a)) c1∧OwnS S r' c2∧c=c1++c2
end
section
variable{Γ:Gm}{R R':List Addr}{F F':Hp}
/-- the roots grow at their end,the frozen heap grows -/
structure Gr(R R':List Addr)(F F':Hp):Prop where
  r:∃m,R'=R++m
  f:∀a o,F a=some o->F' a=some o
theorem Gr.refl:Gr R R F F:=⟨⟨[],by simp⟩,λ_ _ h=>h⟩
theorem SqL.up{K:yF}{a:Addr}{xs:List V}(e:∀b o,F b=some o->F' b=some o)(h:SqL K F a xs):SqL K F' a xs:=by
 rcases h with (h|⟨o,h⟩)|h
 ·exact .inl (.inl (e _ _ h))
 ·exact .inl (.inr ⟨o,e _ _ h⟩)
 ·exact .inr h
theorem SqT.up{K:yF}{a:Addr}{xs:List V}(e:∀b o,F b=some o->F' b=some o)(h:SqT K F a xs):SqT K F' a xs:=by
 rcases h with (h|⟨o,h⟩)|h
 ·exact .inl (.inl (e _ _ h))
 ·exact .inl (.inr ⟨o,e _ _ h⟩)
 ·exact .inr h
mutual
theorem Rep.up(g:Gr R R' F F'):∀(d:D) (v:V),Rep Γ R F d v->Rep Γ R' F' d v
 |.non,v,h=>h
 |.bl b,v,h=>h
 |.int i,v,h=>h
 |.str x,v,h=>h
 |.ty n,v,h=>h
 |.cl n,v,h=>h
 |.unk,v,h=>by rw[Rep] at h ⊢;exact h
 |.lt xs,v,h=>by
  rw[Rep] at h ⊢;obtain⟨a,o,ys,e,q,l⟩:=h;exact⟨a,o,ys,e,g.f _ _ q,RepT.up g xs ys l⟩
 |.fn n,v,h=>by
  rw[Rep] at h ⊢;obtain⟨f,c,pm,ct,e,q,l,u⟩:=h;exact⟨f,c,pm,ct,e,g.f _ _ q,g.f _ _ l,u⟩
 |.lst xs,v,h=>by
  rw[Rep] at h ⊢;obtain⟨a,ys,e,q,l⟩:=h;exact⟨a,ys,e,g.f _ _ q,RepL.up g xs ys l⟩
 |.kl xs,v,h=>by
  rw[Rep] at h ⊢;obtain⟨a,ys,e,q,l⟩:=h;exact⟨a,ys,e,SqL.up g.f q,RepL.up g xs ys l⟩
 |.tup xs,v,h=>by
  rw[Rep] at h ⊢;obtain⟨a,ys,e,q,l⟩:=h;exact⟨a,ys,e,g.f _ _ q,RepL.up g xs ys l⟩
 |.kt xs,v,h=>by
  rw[Rep] at h ⊢;obtain⟨a,ys,e,q,l⟩:=h;exact⟨a,ys,e,SqT.up g.f q,RepL.up g xs ys l⟩
 |.dK xs,v,h=>by
  rw[Rep] at h ⊢;obtain⟨a,ys,e,q,l⟩:=h;exact⟨a,ys,e,g.f _ _ q,RepK.up g xs ys l⟩
 |.dT xs,v,h=>by
  rw[Rep] at h ⊢;obtain⟨a,ys,e,q,l⟩:=h;exact⟨a,ys,e,g.f _ _ q,RepT.up g xs ys l⟩
 |.ins c fs,v,h=>by
  rw[Rep] at h ⊢;obtain⟨a,dx,gs,e,q,q2,l⟩:=h;exact⟨a,dx,gs,e,g.f _ _ q,g.f _ _ q2,RepF.up g fs gs l⟩
 |.ob i,v,h=>by
  rw[Rep] at h ⊢;obtain⟨a,e,q⟩:=h;obtain⟨m,rfl⟩:=g.r;refine⟨a,?_,q⟩;rw[bu (bx.mp e).1];exact e
theorem RepL.up(g:Gr R R' F F'):∀(xs:List D) (ys:List V),RepL Γ R F xs ys->RepL Γ R' F' xs ys
 |[],ys,h=>h
 |x::xs,ys,h=>by
  rw[RepL] at h ⊢;obtain⟨y,ys',e,q,l⟩:=h;exact⟨y,ys',e,Rep.up g x y q,RepL.up g xs ys' l⟩
theorem RepK.up(g:Gr R R' F F'):∀(xs:List (Key×D)) (ys:List (Key×V)),RepK Γ R F xs ys->RepK Γ R' F' xs ys
 |[],ys,h=>h
 |(k,x)::xs,ys,h=>by
  rw[RepK] at h ⊢;obtain⟨y,ys',e,q,l⟩:=h;exact⟨y,ys',e,Rep.up g x y q,RepK.up g xs ys' l⟩
theorem RepT.up(g:Gr R R' F F'):∀(xs:List (List Key×D)) (ys:List (List Key×V)),RepT Γ R F xs ys->RepT Γ R' F' xs ys
 |[],ys,h=>h
 |(k,x)::xs,ys,h=>by
  rw[RepT] at h ⊢;obtain⟨y,ys',e,q,l⟩:=h;exact⟨y,ys',e,Rep.up g x y q,RepT.up g xs ys' l⟩
theorem RepF.up(g:Gr R R' F F'):∀(xs:List (Str×D)) (ys:List (Str×V)),RepF Γ R F xs ys->RepF Γ R' F' xs ys
 |[],ys,h=>h
 |(k,x)::xs,ys,h=>by
  rw[RepF] at h ⊢;obtain⟨y,ys',e,q,l⟩:=h;exact⟨y,ys',e,Rep.up g x y q,RepF.up g xs ys' l⟩
end
mutual
theorem Own.up(g:Gr R R' F F'):∀(s:Sl) (v:V) (c:Cells),Own Γ R F s v c->Own Γ R' F' s v c
 |.emp,v,c,h=>h
 |.val d,v,c,h=>by
  rw[Own] at h ⊢;exact⟨h.1,h.2.up g⟩
 |.lst xs,v,c,h=>by
  rw[Own] at h ⊢;obtain⟨a,ys,e,q,l⟩:=h;exact⟨a,ys,e,q.up g,l⟩
 |.dK xs,v,c,h=>by
  rw[Own] at h ⊢;obtain⟨a,ys,e,q,l⟩:=h;exact⟨a,ys,e,q.up g,l⟩
 |.dT xs,v,c,h=>by
  rw[Own] at h ⊢;obtain⟨a,ys,e,q,l⟩:=h;exact⟨a,ys,e,q.up g,l⟩
 |.ins cn fs,v,c,h=>by
  rw[Own] at h ⊢;obtain⟨a,dx,gs,c',e,q,l⟩:=h;exact⟨a,dx,gs,c',e,OwnF.up g fs gs c' q,l⟩
 |.tab q,v,c,h=>by
  rw[Own] at h ⊢;obtain⟨ps,e,t,l⟩:=h;exact⟨ps,e,⟨t.tr,λpos cv z=>let ⟨c,e1,e2⟩:=t.co pos cv z;⟨c,e1,g.f _ _ e2⟩⟩,l⟩
 |.rsv x,v,c,h=>by
  rw[Own] at h ⊢;exact h
 |.cel x d,v,c,h=>by
  rw[Own] at h ⊢;obtain⟨a,o,u,y,e1,e2,e3,e4,e5,e6⟩:=h;exact⟨a,o,u,y,e1,e2,e3,e4,Rep.up g _ _ e5,e6⟩
 |.exn cn fs,v,c,h=>by
  rw[Own] at h ⊢;obtain⟨a,o,dd,vs,gs,e1,e2,e3,e4,e5,e6,e7⟩:=h;exact⟨a,o,dd,vs,gs,e1,e2,e3,e4,g.f _ _ e5,RepF.up g _ _ e6,e7⟩
theorem OwnF.up(g:Gr R R' F F'):∀(fs:List (Str×Sl)) (gs:List (Str×V)) (c:Cells),OwnF Γ R F fs gs c->OwnF Γ R' F' fs gs c
 |[],gs,c,h=>h
 |(f,s)::fs,gs,c,h=>by
  rw[OwnF] at h ⊢;obtain⟨v,gs',c1,c2,e,q,l,e2⟩:=h;exact⟨v,gs',c1,c2,e,Own.up g s v c1 q,OwnF.up g fs gs' c2 l,e2⟩
end
theorem OwnO.up(g:Gr R R' F F'){s:Sl}{o:Option V}{c:Cells}(h:OwnO Γ R F s o c):OwnO Γ R' F' s o c:=by iterate
 cases s with
 |emp=>exact h
 |val d=>obtain⟨v,e,q⟩:=h;exact⟨v,e,Own.up g _ _ _ q⟩
 |lst d=>obtain⟨v,e,q⟩:=h;exact⟨v,e,Own.up g _ _ _ q⟩
 |dK d=>obtain⟨v,e,q⟩:=h;exact⟨v,e,Own.up g _ _ _ q⟩
 |dT d=>obtain⟨v,e,q⟩:=h;exact⟨v,e,Own.up g _ _ _ q⟩
 |ins c d=>obtain⟨v,e,q⟩:=h;exact⟨v,e,Own.up g _ _ _ q⟩
 |tab q=>obtain⟨v,e,q⟩:=h;exact⟨v,e,Own.up g _ _ _ q⟩
 |rsv q=>obtain⟨v,e,q⟩:=h;exact⟨v,e,Own.up g _ _ _ q⟩
 |cel q d=>obtain⟨v,e,q⟩:=h;exact⟨v,e,Own.up g _ _ _ q⟩
 |exn q d=>obtain⟨v,e,q⟩:=h;exact⟨v,e,Own.up g _ _ _ q⟩
theorem OwnE.up(g:Gr R R' F F'):∀{ρ:List Sl} {σ:List (Option V)} {c:Cells},OwnE Γ R F ρ σ c->OwnE Γ R' F' ρ σ c
 |[],_,_,h=>h
 |_::_,_,_,⟨o,σ',c1,c2,e,q,l,e2⟩=>⟨o,σ',c1,c2,e,q.up g,OwnE.up g l,e2⟩
theorem OwnS.up(g:Gr R R' F F'):∀{S:List Sl} {r:List Addr} {c:Cells},OwnS Γ R F S r c->OwnS Γ R' F' S r c
 |[],_,_,h=>h
 |_::_,_,_,⟨o,σ',c1,c2,e,q,l,e2⟩=>⟨o,σ',c1,c2,e,q.up g,OwnS.up g l,e2⟩
theorem OwnE.length:∀{ρ:List Sl} {σ:List (Option V)} {c:Cells},OwnE Γ R F ρ σ c->ρ.length=σ.length
 |[],_,_,h=>by rw[h.1];rfl
 |_::_,_,_,⟨o,σ',c1,c2,e,q,l,e2⟩=>by rw[e,aG,aG,OwnE.length l]
theorem OwnS.length:∀{S:List Sl} {r:List Addr} {c:Cells},OwnS Γ R F S r c->S.length=r.length
 |[],_,_,h=>by rw[h.1];rfl
 |_::_,_,_,⟨o,σ',c1,c2,e,q,l,e2⟩=>by rw[e,aG,aG,OwnS.length l]
theorem RepL.length:∀{xs:List D} {ys:List V},RepL Γ R F xs ys->xs.length=ys.length
 |[],_,h=>by rw[RepL] at h;rw[h];rfl
 |_::_,_,h=>by
  rw[RepL] at h;obtain⟨y,ys',e,q,l⟩:=h;rw[e,aG,aG,RepL.length l]
end
/-- F: what is frozen,E: the cells that the frame's slots own,C: those that the store owns,R: the store's roots,H: the heap -/
structure Wd where
  F:Hp
  E:Cells
  C:Cells
  R:List Addr
  H:Hp
abbrev Wd.ad(w:Wd):List Addr:=(w.E++w.C).map (·.1)
structure Good(w:Wd):Prop where
  sub:∀a o,w.F a=some o->w.H a=some o
  cell:∀p∈w.E++w.C,w.H p.1=some p.2∧w.F p.1=none
  nd:w.ad.Nodup
/-- what a piece of code may have done: what was frozen stays,what is not its own stays,what is new is new -/
structure Ext(w w':Wd):Prop where
  gr:Gr w.R w'.R w.F w'.F
  keep:∀a o,w.H a=some o->a∉w.ad->w'.H a=some o
  cnew:∀a,a∈w'.ad->a∈w.ad∨w.H a=none
  fnew:∀a o,w'.F a=some o->w.F a=some o∨w.H a=none∨a∈w.ad∨∃xs,w.H a=some (.tup xs)
  live:∀a o,w.H a=some o->∃o',w'.H a=some o'
theorem Gr.trans{R R1 R2:List Addr}{F F1 F2:Hp}(a:Gr R R1 F F1)(b:Gr R1 R2 F1 F2):Gr R R2 F F2:=by
 obtain⟨m,e⟩:=a.r;obtain⟨m',e'⟩:=b.r;exact⟨⟨m++m',by rw[e',e,aK]⟩,λc o h=>b.f c o (a.f c o h)⟩
theorem Ext.refl(w:Wd):Ext w w:=⟨.refl,λ_ _ h _=>h,λ_ h=>.inl h,λ_ _ h=>.inl h,λ_ o h=>⟨o,h⟩⟩
theorem Ext.none_of{w w':Wd}(x:Ext w w'){a:Addr}(h:w'.H a=none):w.H a=none:=by
 cases q:w.H a with
 |none=>rfl
 |some o=>
  obtain⟨o',e⟩:=x.live a o q;rw[h] at e;cases e
theorem Ext.trans{w w1 w2:Wd}(x:Ext w w1)(y:Ext w1 w2):Ext w w2 where
 gr:=x.gr.trans y.gr
 keep:=λa o h ha=>by
  refine y.keep a o (x.keep a o h ha) λhc=>?_;rcases x.cnew a hc with z|z
  ·exact ha z
  ·rw[h] at z;cases z
 cnew:=λa h=>by
  rcases y.cnew a h with z|z
  ·exact x.cnew a z
  ·exact .inr (x.none_of z)
 fnew:=λa o h=>by
  rcases y.fnew a o h with z|z|z|z
  ·exact x.fnew a o z
  ·exact .inr (.inl (x.none_of z))
  ·rcases x.cnew a z with z|z
   ·exact .inr (.inr (.inl z))
   ·exact .inr (.inl z)
  ·obtain⟨xs,z⟩:=z;cases q:w.H a with
   |none=>exact .inr bU
   |some u=>
    by_cases ha:a∈w.ad
    ·exact .inr (.inr (.inl ha))
    ·rw[x.keep a u q ha] at z;cases z;exact .inr (.inr (.inr ⟨xs,rfl⟩))
 live:=λa o h=>by
  obtain⟨o',e⟩:=x.live a o h;exact y.live a o' e
section
variable{Γ:Gm}{R:List Addr}{F:Hp}
mutual
theorem Own.nt:∀(s:Sl) (v:V) (c:Cells),Own Γ R F s v c->∀p∈c,∀xs,p.2≠.tup xs
 |.emp,v,c,h=>by rw[Own] at h;exact h.elim
 |.val d,v,c,h=>by rw[Own] at h;rw[h.1];exact nofun
 |.lst xs,v,c,h=>by rw[Own] at h;obtain⟨a,ys,_,_,rfl⟩:=h;intro p hp xs;rw[aU.mp hp];exact nofun
 |.dK xs,v,c,h=>by rw[Own] at h;obtain⟨a,ys,_,_,rfl⟩:=h;intro p hp xs;rw[aU.mp hp];exact nofun
 |.dT xs,v,c,h=>by rw[Own] at h;obtain⟨a,ys,_,_,rfl⟩:=h;intro p hp xs;rw[aU.mp hp];exact nofun
 |.ins cn fs,v,c,h=>by
  rw[Own] at h;obtain⟨a,dx,gs,c',_,q,rfl⟩:=h;intro p hp xs;rcases au.mp hp with rfl|hp
  ·exact nofun
  rcases au.mp hp with rfl|hp
  ·exact nofun
  ·exact OwnF.nt fs gs c' q p hp xs
 |.tab q,v,c,h=>by rw[Own] at h;obtain⟨ps,_,_,rfl⟩:=h;intro p hp xs;rw[aU.mp hp];exact nofun
 |.rsv x,v,c,h=>by rw[Own] at h;rw[h.2.2];exact nofun
 |.cel x d,v,c,h=>by rw[Own] at h;obtain⟨a,o,u,y,_,_,_,_,_,rfl⟩:=h;intro p hp xs;rw[aU.mp hp];exact nofun
 |.exn cn fs,v,c,h=>by rw[Own] at h;obtain⟨a,o,dd,vs,gs,_,_,_,_,_,_,rfl⟩:=h;intro p hp xs;rw[aU.mp hp];exact nofun
theorem OwnF.nt:∀(fs:List (Str×Sl)) (gs:List (Str×V)) (c:Cells),OwnF Γ R F fs gs c->∀p∈c,∀xs,p.2≠.tup xs
 |[],gs,c,h=>by rw[OwnF] at h;rw[h.2];exact nofun
 |(f,s)::fs,gs,c,h=>by
  rw[OwnF] at h;obtain⟨v,gs',c1,c2,_,q,l,rfl⟩:=h;intro p hp xs;rcases aV.mp hp with hp|hp
  ·exact Own.nt s v c1 q p hp xs
  ·exact OwnF.nt fs gs' c2 l p hp xs
end
theorem OwnO.nt{s:Sl}{o:Option V}{c:Cells}(h:OwnO Γ R F s o c):∀p∈c,∀xs,p.2≠.tup xs:=by iterate
 cases s with
 |emp=>rw[show c=[] from h];exact nofun
 |val d=>obtain⟨v,e,q⟩:=h;exact Own.nt _ _ _ q
 |lst d=>obtain⟨v,e,q⟩:=h;exact Own.nt _ _ _ q
 |dK d=>obtain⟨v,e,q⟩:=h;exact Own.nt _ _ _ q
 |dT d=>obtain⟨v,e,q⟩:=h;exact Own.nt _ _ _ q
 |ins c d=>obtain⟨v,e,q⟩:=h;exact Own.nt _ _ _ q
 |tab q=>obtain⟨v,e,q⟩:=h;exact Own.nt _ _ _ q
 |rsv q=>obtain⟨v,e,q⟩:=h;exact Own.nt _ _ _ q
 |cel q d=>obtain⟨v,e,q⟩:=h;exact Own.nt _ _ _ q
 |exn q d=>obtain⟨v,e,q⟩:=h;exact Own.nt _ _ _ q
theorem OwnE.nt:∀{ρ:List Sl} {σ:List (Option V)} {c:Cells},OwnE Γ R F ρ σ c->∀p∈c,∀xs,p.2≠.tup xs
 |[],_,_,h=>by rw[h.2];exact nofun
 |_::_,_,_,⟨o,σ',c1,c2,_,q,l,e2⟩=>λp hp xs=>by
  rw[e2] at hp;rcases aV.mp hp with hp|hp
  ·exact q.nt p hp xs
  ·exact OwnE.nt l p hp xs
end
mutual
def Sl.frz:Sl->D
 |.emp=>.non
 |.val d=>d
 |.lst xs=>.lst xs
 |.dK xs=>.dK xs
 |.dT xs=>.dT xs
 |.ins c fs=>.ins c (frzF fs)
 |.tab _=>.unk
 |.rsv _=>.unk
 |.cel _ _=>.unk
 |.exn _ _=>.unk
def frzF:List (Str×Sl)->List (Str×D)
 |[]=>[]
 |(f,s)::fs=>(f,s.frz)::frzF fs
end
/-- the frozen heap with some cells more -/
def addC(F:Hp)(c:Cells):Hp:=λa=>match c.find? (λp=>p.1 == a) with
 |some p=>some p.2
 |none=>F a
theorem M6{F:Hp}{c:Cells}{p:Addr×HO}(nd:(c.map (·.1)).Nodup)(hp:p∈c):addC F c p.1=some p.2:=by
 unfold addC;have:c.find? (λq=>q.1 == p.1)=some p:=by
  induction c with
  |nil=>cases hp
  |cons x r ih=>
   rw[ak,bz] at nd;rcases au.mp hp with e|e
   ·subst e;simp
   ·rw[List.find?_cons];have hx:(x.1 == p.1)=false:=by
     rw[beq_eq_false_iff_ne];intro z;exact nd.1 (z ▸ bf e)
    rw[hx];exact ih nd.2 e
 rw[this]
theorem vZ{F:Hp}{c:Cells}{a:Addr}(h:a∉c.map (·.1)):addC F c a=F a:=by
 unfold addC;have:c.find? (λp=>p.1 == a)=none:=by
  rw[List.find?_eq_none];intro p hp e;exact h (by rw[<-(beq_iff_eq.mp e)];exact bf hp)
 rw[this]
theorem sW{F:Hp}{c:Cells}{a:Addr}{o:HO}(h:addC F c a=some o):(a,o)∈c∨F a=some o:=by
 unfold addC at h;split at h
 ·rename_i p e;have h1:=List.mem_of_find?_eq_some e;have h2:=List.find?_some e;have h2:p.1=a:=beq_iff_eq.mp h2;cases h;subst h2;exact .inl h1
 ·exact .inr h
theorem M7{F:Hp}{c:Cells}(h:∀p∈c,F p.1=none):∀a o,F a=some o->addC F c a=some o:=λa o e=>by
 rw[vZ,e];intro z;obtain⟨p,hp,rfl⟩:=ao.mp z;rw[h p hp] at e;cases e
section
variable{Γ:Gm}{R:List Addr}{F G:Hp}
mutual
theorem Own.frz(up:∀a o,F a=some o->G a=some o):∀(s:Sl) (v:V) (c:Cells),(∀p∈c,G p.1=some p.2)->Own Γ R F s v c->Rep Γ R G s.frz v
 |.emp,v,c,hc,h=>by rw[Own] at h;exact h.elim
 |.val d,v,c,hc,h=>by
  rw[Own] at h;exact Rep.up ⟨⟨[],by simp⟩,up⟩ _ _ h.2
 |.lst xs,v,c,hc,h=>by
  rw[Own] at h;obtain⟨a,ys,e,q,l⟩:=h;subst l;rw[Sl.frz,Rep];exact⟨a,ys,e,hc (a,.lst ys) (by simp),RepL.up ⟨⟨[],by simp⟩,up⟩ _ _ q⟩
 |.dK xs,v,c,hc,h=>by
  rw[Own] at h;obtain⟨a,ys,e,q,l⟩:=h;subst l;rw[Sl.frz,Rep];exact⟨a,ys,e,hc (a,.dK ys) (by simp),RepK.up ⟨⟨[],by simp⟩,up⟩ _ _ q⟩
 |.dT xs,v,c,hc,h=>by
  rw[Own] at h;obtain⟨a,ys,e,q,l⟩:=h;subst l;rw[Sl.frz,Rep];exact⟨a,ys,e,hc (a,.dT ys) (by simp),RepT.up ⟨⟨[],by simp⟩,up⟩ _ _ q⟩
 |.ins cn fs,v,c,hc,h=>by
  rw[Own] at h;obtain⟨a,dx,gs,c',e,q,l⟩:=h;subst l;rw[Sl.frz,Rep];exact⟨a,dx,gs,e,hc (a,_) (by simp),hc (dx,_) (by simp),OwnF.frz up fs gs c' (λp hp=>hc p (by simp[hp])) q⟩
 |.tab q,v,c,hc,h=>by rw[Own] at h;rw[Sl.frz,Rep];exact⟨_,h.choose_spec.1⟩
 |.rsv q,v,c,hc,h=>by rw[Own] at h;rw[Sl.frz,Rep];exact h.1
 |.cel q d,v,c,hc,h=>by rw[Own] at h;obtain⟨a,o,u,y,e,_⟩:=h;rw[Sl.frz,Rep];exact e
 |.exn q d,v,c,hc,h=>by rw[Own] at h;obtain⟨a,o,dd,vs,gs,e,_⟩:=h;rw[Sl.frz,Rep];exact⟨_,e⟩
theorem OwnF.frz(up:∀a o,F a=some o->G a=some o):∀(fs:List (Str×Sl)) (gs:List (Str×V)) (c:Cells),(∀p∈c,G p.1=some p.2)->OwnF Γ R F fs gs c->RepF Γ R G (frzF fs) gs
 |[],gs,c,hc,h=>by
  rw[OwnF] at h;rw[frzF,RepF];exact h.1
 |(f,s)::fs,gs,c,hc,h=>by
  rw[OwnF] at h;obtain⟨v,gs',c1,c2,e,q,l,e2⟩:=h;subst e2;rw[frzF,RepF];exact⟨v,gs',e,Own.frz up s v c1 (λp hp=>hc p (by simp[hp])) q,OwnF.frz up fs gs' c2 (λp hp=>hc p (by simp[hp])) l⟩
end
end
end
section
def iQ(Γ:Gm)(R:List Addr)(F:Hp)(ρ S:List Sl)(σ:List (Option V))(E C:Cells):Prop:=OwnE Γ R F ρ σ E∧OwnS Γ R F S R C
structure Rel(Γ:Gm)(w:Wd)(ρ S:List Sl)(σ:List (Option V)):Prop where
  good:Good w
  own:iQ Γ w.R w.F ρ S σ w.E w.C
/-- the frozen heap alone has grown -/
theorem iQ.up{Γ:Gm}{R:List Addr}{F F':Hp}{ρ S:List Sl}{σ:List (Option V)}{E C:Cells}(f:∀a o,F a=some o->F' a=some o)(h:iQ Γ R F ρ S σ E C):iQ Γ R F' ρ S σ E C:=
 ⟨h.1.up ⟨⟨[],by simp⟩,f⟩,h.2.up ⟨⟨[],by simp⟩,f⟩⟩
structure RelS(Γ:Gm)(w:Wd)(S:List Sl):Prop where
  good:Good w
  noE:w.E=[]
  own:OwnS Γ w.R w.F S w.R w.C
/-- what an expression gives: a datum,the frame's own thing at a slot,or a new thing -/
inductive Rv where
  |d (x:D)|env (i:Nat)|fr (s:Sl)
  deriving Inhabited
inductive Exn where
  |own (c:Nat) (fs:List (Str×D))|blt (n:String)
inductive Res(α:Type) where
  |ok (a:α) (ρ S:List Sl) (t:Bool)|ex (x:Exn) (ρ S:List Sl)|bad
def Res.addt{α:Type}(t:Bool):Res α->Res α
 |.ok a ρ S t'=>.ok a ρ S (t ||t')
 |.ex x ρ S=>.ex x ρ S
 |.bad=>.bad
def Res.bind{α β:Type}(r:Res α)(f:α->List Sl->List Sl->Res β):Res β:=
 match r with
 |.ok a ρ S t=>(f a ρ S).addt t
 |.ex x ρ S=>.ex x ρ S
 |.bad=>.bad
abbrev M(α:Type):=List Sl->List Sl->Res α
def M.bind{α β:Type}(c:M α)(f:α->M β):M β:=λρ S=>(c ρ S).bind f
def M.bad{α:Type}:M α:=λ_ _=>.bad
theorem Res.addt_false{α:Type}(r:Res α):r.addt false=r:=by cases r<;>rfl
theorem Res.bind_ok{α β:Type}(a:α)(ρ S:List Sl)(t:Bool)(f:α->List Sl->List Sl->Res β):(Res.ok a ρ S t).bind f=(f a ρ S).addt t:=rfl
/-- cells that nobody else knows -/
structure Fresh(w:Wd)(c:Cells):Prop where
  at_:∀p∈c,w.H p.1=some p.2∧w.F p.1=none∧p.1∉w.ad
  nd:(c.map (·.1)).Nodup
/-- w0: the world ahead -/
def RvOk(Γ:Gm)(w0 w:Wd)(σ:List (Option V)):Rv->V->Prop
 |.d d,v=>Rep Γ w.R w.F d v
 |.env i,v=>σ[i]? = some (some v)
 |.fr s,v=>∃c,Own Γ w.R w.F s v c∧Fresh w c∧∀p∈c,w0.H p.1=none∨p.1∈w0.ad
theorem Fresh.up{w w':Wd}{c:Cells}(x:Ext w w')(nt:∀p∈c,∀xs,p.2≠.tup xs)(f:Fresh w c):Fresh w' c:=by
 refine⟨λp hp=>?_,f.nd⟩;obtain⟨h1,h2,h3⟩:=f.at_ p hp
 refine⟨x.keep _ _ h1 h3,?_,λz=>?_⟩
 ·cases q:w'.F p.1 with
  |none=>rfl
  |some o=>
   rcases x.fnew _ _ q with z|z|z|⟨xs,z⟩
   ·rw[h2] at z;cases z
   ·rw[h1] at z;cases z
   ·exact absurd z h3
   ·rw[h1] at z;exact absurd (aZ z) (nt p hp xs)
 ·rcases x.cnew _ z with z|z
  ·exact h3 z
  ·rw[h1] at z;cases z
theorem RvOk.up{Γ:Gm}{w0 w w':Wd}{σ:List (Option V)}(x:Ext w w'):∀{r:Rv} {v:V},RvOk Γ w0 w σ r v->RvOk Γ w0 w' σ r v
 |.d _,_,h=>Rep.up x.gr _ _ h
 |.env _,_,h=>h
 |.fr _,_,⟨c,o,f,b⟩=>⟨c,Own.up x.gr _ _ _ o,f.up x (Own.nt _ _ _ o),b⟩
theorem RvOk.base{Γ:Gm}{w0 w1 w:Wd}{σ:List (Option V)}(x:Ext w0 w1):∀{r:Rv} {v:V},RvOk Γ w1 w σ r v->RvOk Γ w0 w σ r v
 |.d _,_,h=>h
 |.env _,_,h=>h
 |.fr _,_,⟨c,o,f,b⟩=>⟨c,o,f,λp hp=>by
  rcases b p hp with z|z
  ·exact .inl (x.none_of z)
  ·rcases x.cnew _ z with z|z
   ·exact .inr z
   ·exact .inl z⟩
def XOk(Γ:Gm)(w:Wd):Exn->Value->Option Addr->Prop
 |.own c fs,cls,d=>cls=.ref (Γ.cA c)∧∃dd gs,d=some dd∧w.F dd=some (.xd gs)∧RepF Γ w.R w.F fs gs
 |.blt n,cls,_=>cls=.type n
section
variable(Γ:Gm)(W:WX)
/-- what an outcome owes -/
def CK(w:Wd)(σ:L2.St)(Q:VK):Res Rv->Prop
 |.ok r ρ' S' t=>∀w' v,Ext w w'->(t=false->w'.E=w.E)->Rel Γ w' ρ' S' σ->RvOk Γ w w' σ r v->Q v w'.H
 |.ex x ρ' S'=>∀w' cls d,Ext w w'->Rel Γ w' ρ' S' σ->XOk Γ w' x cls d->W cls d σ w'.H
 |.bad=>False
def tM(c:M Rv):TE:=λσ H Q=>∃F E C R ρ S,Rel Γ ⟨F,E,C,R,H⟩ ρ S σ∧CK Γ W ⟨F,E,C,R,H⟩ σ Q (c ρ S)
/-- of data -/
def CKd(w:Wd)(σ:L2.St)(Q:D->V->Hp->Prop):Res D->Prop
 |.ok r ρ' S' t=>∀w' v,Ext w w'->(t=false->w'.E=w.E)->Rel Γ w' ρ' S' σ->Rep Γ w'.R w'.F r v->Q r v w'.H
 |.ex x ρ' S'=>∀w' cls d,Ext w w'->Rel Γ w' ρ' S' σ->XOk Γ w' x cls d->W cls d σ w'.H
 |.bad=>False
def CKb(w:Wd)(σ:L2.St)(Q:Bool->Hp->Prop):Res Bool->Prop
 |.ok b ρ' S' t=>∀w',Ext w w'->(t=false->w'.E=w.E)->Rel Γ w' ρ' S' σ->Q b w'.H
 |.ex x ρ' S'=>∀w' cls d,Ext w w'->Rel Γ w' ρ' S' σ->XOk Γ w' x cls d->W cls d σ w'.H
 |.bad=>False
def tMb(c:M Bool):TT:=λσ H Q=>∃F E C R ρ S,Rel Γ ⟨F,E,C,R,H⟩ ρ S σ∧CKb Γ W ⟨F,E,C,R,H⟩ σ Q (c ρ S)
/-- argument lists: data all -/
def CKl(w:Wd)(σ:L2.St)(Q:List V->Hp->Prop):Res (List D)->Prop
 |.ok ds ρ' S' t=>∀w' vs,Ext w w'->(t=false->w'.E=w.E)->Rel Γ w' ρ' S' σ->RepL Γ w'.R w'.F ds vs->Q vs w'.H
 |.ex x ρ' S'=>∀w' cls d,Ext w w'->Rel Γ w' ρ' S' σ->XOk Γ w' x cls d->W cls d σ w'.H
 |.bad=>False
def tMl(c:M (List D)):TA:=λσ H Q=>∃F E C R ρ S,Rel Γ ⟨F,E,C,R,H⟩ ρ S σ∧CKl Γ W ⟨F,E,C,R,H⟩ σ Q (c ρ S)
end
section
variable{Γ:Gm}{W:WX}{w w':Wd}{σ:L2.St}{Q:VK}
theorem CK.ext{t:Bool}{r:Res Rv}(x:Ext w w')(e:t=false->w'.E=w.E)(h:CK Γ W w σ Q (r.addt t)):CK Γ W w' σ Q r:=by
 cases r with
 |ok a ρ S t'=>
  refine λw2 v x2 e2 R2 o2=>h w2 v (x.trans x2) (λz=>?_) R2 (o2.base x);obtain⟨z1,z2⟩:=Bool.or_eq_false_iff.mp z;rw[e2 z2,e z1]
 |ex y ρ S=>exact λw2 cls d x2 R2 o2=>h w2 cls d (x.trans x2) R2 o2
 |bad=>exact h
theorem CKb.ext{t:Bool}{Q:Bool->Hp->Prop}{r:Res Bool}(x:Ext w w')(e:t=false->w'.E=w.E)(h:CKb Γ W w σ Q (r.addt t)):CKb Γ W w' σ Q r:=by
 cases r with
 |ok a ρ S t'=>
  refine λw2 x2 e2 R2=>h w2 (x.trans x2) (λz=>?_) R2;obtain⟨z1,z2⟩:=Bool.or_eq_false_iff.mp z;rw[e2 z2,e z1]
 |ex y ρ S=>exact λw2 cls d x2 R2 o2=>h w2 cls d (x.trans x2) R2 o2
 |bad=>exact h
theorem CKl.ext{t:Bool}{Q:List V->Hp->Prop}{r:Res (List D)}(x:Ext w w')(e:t=false->w'.E=w.E)(h:CKl Γ W w σ Q (r.addt t)):CKl Γ W w' σ Q r:=by
 cases r with
 |ok a ρ S t'=>
  refine λw2 v x2 e2 R2 o2=>h w2 v (x.trans x2) (λz=>?_) R2 o2;obtain⟨z1,z2⟩:=Bool.or_eq_false_iff.mp z;rw[e2 z2,e z1]
 |ex y ρ S=>exact λw2 cls d x2 R2 o2=>h w2 cls d (x.trans x2) R2 o2
 |bad=>exact h
theorem CKd.ext{t:Bool}{Q:D->V->Hp->Prop}{r:Res D}(x:Ext w w')(e:t=false->w'.E=w.E)(h:CKd Γ W w σ Q (r.addt t)):CKd Γ W w' σ Q r:=by
 cases r with
 |ok a ρ S t'=>
  refine λw2 v x2 e2 R2 o2=>h w2 v (x.trans x2) (λz=>?_) R2 o2;obtain⟨z1,z2⟩:=Bool.or_eq_false_iff.mp z;rw[e2 z2,e z1]
 |ex y ρ S=>exact λw2 cls d x2 R2 o2=>h w2 cls d (x.trans x2) R2 o2
 |bad=>exact h
/-- the first of two -/
theorem CK.bind{r:Res Rv}{f:Rv->List Sl->List Sl->Res Rv}{Q1:VK}(h:CK Γ W w σ Q (r.bind f))
  (k:∀a ρ S w' v,Ext w w'->Rel Γ w' ρ S σ->RvOk Γ w w' σ a v->CK Γ W w' σ Q (f a ρ S)->Q1 v w'.H):CK Γ W w σ Q1 r:=by
 cases r with
 |ok a ρ S t=>exact λw2 v x2 e2 R2 o2=>k a ρ S w2 v x2 R2 o2 (CK.ext x2 e2 h)
 |ex y ρ S=>exact h
 |bad=>exact h
theorem OwnO.of_ne{R:List Addr}{F:Hp}{s:Sl}{o:Option V}{c:Cells}(h:OwnO Γ R F s o c)(n:s≠.emp):∃v,o=some v∧Own Γ R F s v c:=by
 cases s with
 |emp=>exact absurd rfl n
 |val d=>exact h
 |lst d=>exact h
 |dK d=>exact h
 |dT d=>exact h
 |ins c d=>exact h
 |tab q=>exact h
 |rsv q=>exact h
 |cel q d=>exact h
 |exn q d=>exact h
theorem OwnO.mk{R:List Addr}{F:Hp}{s:Sl}{v:V}{c:Cells}(h:Own Γ R F s v c):OwnO Γ R F s (some v) c:=by iterate
 cases s with
 |emp=>exact(show False from by rw[Own] at h;exact h).elim
 |val d=>exact⟨v,rfl,h⟩
 |lst d=>exact⟨v,rfl,h⟩
 |dK d=>exact⟨v,rfl,h⟩
 |dT d=>exact⟨v,rfl,h⟩
 |ins c d=>exact⟨v,rfl,h⟩
 |tab q=>exact⟨v,rfl,h⟩
 |rsv q=>exact⟨v,rfl,h⟩
 |cel q d=>exact⟨v,rfl,h⟩
 |exn q d=>exact⟨v,rfl,h⟩
/-- a slot's cells stand in a row;another thing may be put in its place -/
theorem OwnE.at{R:List Addr}{F:Hp}:∀{ρ:List Sl} {σ:L2.St} {c:Cells} {i:Nat} {s:Sl},OwnE Γ R F ρ σ c->ρ[i]? = some s->
  ∃o A B b,σ[i]? = some o∧c=A++b++B∧OwnO Γ R F s o b∧∀F',(∀a o,F a=some o->F' a=some o)->∀s' o' b',OwnO Γ R F' s' o' b'->OwnE Γ R F' (ρ.set i s') (σ.set i o') (A++b'++B)
 |[],_,_,i,_,_,e=>by simp at e
 |x::ρ,σ,c,0,s,h,e=>by
  obtain⟨o,σ',c1,c2,e1,q,l,e2⟩:=h;simp at e;subst e e1 e2;exact⟨o,[],c2,c1,by simp,by simp,q,λF' up s' o' b' z=>⟨o',σ',b',c2,rfl,z,l.up ⟨⟨[],by simp⟩,up⟩,by simp⟩⟩
 |x::ρ,σ,c,i+1,s,h,e=>by
  obtain⟨o,σ',c1,c2,e1,q,l,e2⟩:=h;obtain⟨o1,A,B,b,h1,h2,h3,h4⟩:=OwnE.at (i:=i) l (by simpa using e);subst e1 e2 h2;refine⟨o1,c1++A,B,b,by simpa using h1,by simp[List.append_assoc],h3,λF' up s' o' b' z=>?_⟩;exact⟨o,σ'.set i o',c1,A++b'++B,by simp,q.up ⟨⟨[],by simp⟩,up⟩,h4 F' up s' o' b' z,by simp[List.append_assoc]⟩
theorem OwnS.at{R:List Addr}{F:Hp}:∀{S:List Sl} {r:List Addr} {c:Cells} {i:Nat} {s:Sl},OwnS Γ R F S r c->S[i]? = some s->
  ∃a A B b,r[i]? = some a∧c=A++b++B∧OwnO Γ R F s (some (.ref a)) b∧∀F',(∀a o,F a=some o->F' a=some o)->∀s' b',OwnO Γ R F' s' (some (.ref a)) b'->OwnS Γ R F' (S.set i s') r (A++b'++B)
 |[],_,_,i,_,_,e=>by simp at e
 |x::S,σ,c,0,s,h,e=>by
  obtain⟨a,σ',c1,c2,e1,q,l,e2⟩:=h;simp at e;subst e e1 e2;exact⟨a,[],c2,c1,by simp,by simp,q,λF' up s' b' z=>⟨a,σ',b',c2,rfl,z,l.up ⟨⟨[],by simp⟩,up⟩,by simp⟩⟩
 |x::S,σ,c,i+1,s,h,e=>by
  obtain⟨a,σ',c1,c2,e1,q,l,e2⟩:=h;obtain⟨o1,A,B,b,h1,h2,h3,h4⟩:=OwnS.at (i:=i) l (by simpa using e);subst e1 e2 h2;refine⟨o1,c1++A,B,b,by simpa using h1,by simp[List.append_assoc],h3,λF' up s' b' z=>?_⟩;exact⟨a,σ',c1,A++b'++B,by simp,q.up ⟨⟨[],by simp⟩,up⟩,h4 F' up s' b' z,by simp[List.append_assoc]⟩
def Top(Γ:Gm)(w:Wd):D->V->Prop
 |.lst xs,v=>∃a ys,v=.ref a∧w.H a=some (.lst ys)∧RepL Γ w.R w.F xs ys
 |.dK xs,v=>∃a ys,v=.ref a∧w.H a=some (.dK ys)∧RepK Γ w.R w.F xs ys
 |.dT xs,v=>∃a ys,v=.ref a∧w.H a=some (.dT ys)∧RepT Γ w.R w.F xs ys
 |d,v=>Rep Γ w.R w.F d v
theorem Rep.top(g:Good w):∀{d:D} {v:V},Rep Γ w.R w.F d v->Top Γ w d v
 |.non,_,h=>h
 |.bl _,_,h=>h
 |.int _,_,h=>h
 |.str _,_,h=>h
 |.ty _,_,h=>h
 |.ins _ _,_,h=>h
 |.ob _,_,h=>h
 |.cl _,_,h=>h
 |.fn _,_,h=>h
 |.unk,_,h=>h
 |.lt _,_,h=>h
 |.lst xs,v,h=>by
  rw[Rep] at h;obtain⟨a,ys,e,q,l⟩:=h;exact⟨a,ys,e,g.sub _ _ q,l⟩
 |.kl _,_,h=>h
 |.kt _,_,h=>h
 |.tup _,_,h=>h
 |.dK xs,v,h=>by
  rw[Rep] at h;obtain⟨a,ys,e,q,l⟩:=h;exact⟨a,ys,e,g.sub _ _ q,l⟩
 |.dT xs,v,h=>by
  rw[Rep] at h;obtain⟨a,ys,e,q,l⟩:=h;exact⟨a,ys,e,g.sub _ _ q,l⟩
/-- an owned thing's content,as a datum -/
def Sl.rd:Sl->Option D
 |.emp=>none
 |.val d=>some d
 |.lst xs=>some (.lst xs)
 |.dK xs=>some (.dK xs)
 |.dT xs=>some (.dT xs)
 |_=>none
def cont(ρ S:List Sl):Rv->Option D
 |.d (.ob j)=>match S[j]? with
  |some (.lst xs)=>some (.lst xs)
  |some (.dK xs)=>some (.dK xs)
  |some (.dT xs)=>some (.dT xs)
  |_=>some (.ob j)
 |.d d=>some d
 |.env i=>(ρ[i]?).bind Sl.rd
 |.fr s=>s.rd
theorem Own.top{s:Sl}{v:V}{c:Cells}{d:D}(g:Good w)(hc:∀p∈c,w.H p.1=some p.2)(h:Own Γ w.R w.F s v c)(e:s.rd=some d):Top Γ w d v:=by iterate
 cases s with
 |emp=>cases e
 |val x=>rw[Own] at h;cases e;exact h.2.top g
 |lst xs=>
  rw[Own] at h;obtain⟨a,ys,e1,q,l⟩:=h;subst l;cases e;exact⟨a,ys,e1,hc (a,_) (by simp),q⟩
 |dK xs=>
  rw[Own] at h;obtain⟨a,ys,e1,q,l⟩:=h;subst l;cases e;exact⟨a,ys,e1,hc (a,_) (by simp),q⟩
 |dT xs=>
  rw[Own] at h;obtain⟨a,ys,e1,q,l⟩:=h;subst l;cases e;exact⟨a,ys,e1,hc (a,_) (by simp),q⟩
 |ins _ _=>cases e
 |tab _=>cases e
 |rsv _=>cases e
 |cel _ _=>cases e
 |exn _ _=>cases e
theorem iQ.env_at{R:List Addr}{F:Hp}{E C:Cells}{ρ S:List Sl}{i:Nat}{s:Sl}(h:iQ Γ R F ρ S σ E C)(e:ρ[i]? = some s):∃o A B b,σ[i]? = some o∧E=A++b++B∧OwnO Γ R F s o b ∧
  ∀F',(∀a o,F a=some o->F' a=some o)->∀s' o' b',OwnO Γ R F' s' o' b'->iQ Γ R F' (ρ.set i s') S (σ.set i o') (A++b'++B) C:=by
 obtain⟨o,A,B,b,h1,h2,h3,h4⟩:=h.1.at e;exact⟨o,A,B,b,h1,h2,h3,λF' up s' o' b' z=>⟨h4 F' up s' o' b' z,h.2.up ⟨⟨[],by simp⟩,up⟩⟩⟩
theorem iQ.sto_at{R:List Addr}{F:Hp}{E C:Cells}{ρ S:List Sl}{i:Nat}{s:Sl}(h:iQ Γ R F ρ S σ E C)(e:S[i]? = some s):∃a A B b,R[i]? = some a∧C=A++b++B∧OwnO Γ R F s (some (.ref a)) b ∧
  ∀F',(∀a o,F a=some o->F' a=some o)->∀s' b',OwnO Γ R F' s' (some (.ref a)) b'->iQ Γ R F' ρ (S.set i s') σ E (A++b'++B):=by
 obtain⟨a,A,B,b,h1,h2,h3,h4⟩:=h.2.at e;exact⟨a,A,B,b,h1,h2,h3,λF' up s' b' z=>⟨h.1.up ⟨⟨[],by simp⟩,up⟩,h4 F' up s' b' z⟩⟩
theorem Rel.cellsE{ρ S:List Sl}{A b B:Cells}(h:Rel Γ w ρ S σ)(e:w.E=A++b++B):∀p∈b,w.H p.1=some p.2:=λp hp=>(h.good.cell p (by rw[e];simp[hp])).1
theorem Rel.cellsH{ρ S:List Sl}{A b B:Cells}(h:Rel Γ w ρ S σ)(e:w.C=A++b++B):∀p∈b,w.H p.1=some p.2:=λp hp=>(h.good.cell p (by rw[e];simp[hp])).1
theorem Rel.top{ρ S:List Sl}{r:Rv}{v:V}{d:D}{w0:Wd}(h:Rel Γ w ρ S σ)(o:RvOk Γ w0 w σ r v)(e:cont ρ S r=some d):Top Γ w d v:=by iterate
 cases r with
 |d x=>
  have plain:cont ρ S (.d x)=some x->Top Γ w d v:=λz=>by
   rw[z] at e;cases e;exact Rep.top h.good o
  cases x with
  |ob j=>
   cases q:S[j]? with
   |none=>exact plain (by simp only[cont,q])
   |some s=>
    obtain⟨a,A,B,b,h1,h2,h3,_⟩:=h.own.sto_at q;have o':Rep Γ w.R w.F (.ob j) v:=o;rw[Rep] at o';obtain⟨a',e1,e2⟩:=o';rw[h1] at e1;cases e1;subst e2;cases s with
    |lst xs=>
     simp only[cont,q] at e;obtain⟨v,ev,ow⟩:=h3;cases ev;exact Own.top h.good (h.cellsH h2) ow e
    |dK xs=>
     simp only[cont,q] at e;obtain⟨v,ev,ow⟩:=h3;cases ev;exact Own.top h.good (h.cellsH h2) ow e
    |dT xs=>
     simp only[cont,q] at e;obtain⟨v,ev,ow⟩:=h3;cases ev;exact Own.top h.good (h.cellsH h2) ow e
    |emp=>exact plain (by simp only[cont,q])
    |val _=>exact plain (by simp only[cont,q])
    |ins _ _=>exact plain (by simp only[cont,q])
    |tab _=>exact plain (by simp only[cont,q])
    |rsv _=>exact plain (by simp only[cont,q])
    |cel _ _=>exact plain (by simp only[cont,q])
    |exn _ _=>exact plain (by simp only[cont,q])
  |non=>exact plain rfl
  |bl _=>exact plain rfl
  |int _=>exact plain rfl
  |str _=>exact plain rfl
  |ty _=>exact plain rfl
  |lst _=>exact plain rfl
  |kl _=>exact plain rfl
  |kt _=>exact plain rfl
  |tup _=>exact plain rfl
  |dK _=>exact plain rfl
  |dT _=>exact plain rfl
  |lt _=>exact plain rfl
  |ins _ _=>exact plain rfl
  |cl _=>exact plain rfl
  |fn _=>exact plain rfl
  |unk=>exact plain rfl
 |env i=>
  have o':σ[i]? = some (some v):=o;have e':(ρ[i]?).bind Sl.rd=some d:=e;cases q:ρ[i]? with
  |none=>rw[q] at e';cases e'
  |some s=>
   rw[q] at e';obtain⟨o1,A,B,b,h1,h2,h3,_⟩:=h.own.env_at q;rw[o'] at h1;cases h1;have ne:s≠.emp:=λz=>by subst z;cases e'
   obtain⟨v',ev,ow⟩:=OwnO.of_ne h3 ne;cases ev;exact Own.top h.good (h.cellsE h2) ow e'
 |fr s=>
  obtain⟨c,ow,f,_⟩:=o;exact Own.top h.good (λp hp=>(f.at_ p hp).1) ow e
end
end
section
theorem _root_.L2.PE.imp{X:Cx}{e:Expr}{t t':TE}(h:PE X e t)(k:∀σ H Q,t' σ H Q->t σ H Q):PE X e t':=⟨λpins s σ H Q I hw=>h.run pins s σ H Q I (k σ H Q hw)⟩
theorem _root_.L2.PT.imp{X:Cx}{e:Expr}{t t':TT}(h:PT X e t)(k:∀σ H Q,t' σ H Q->t σ H Q):PT X e t':=⟨λpins s σ H Q I hw=>h.run pins s σ H Q I (k σ H Q hw)⟩
theorem _root_.L2.PA.imp{X:Cx}{e:List Expr}{t t':TA}(h:PA X e t)(k:∀σ H Q,t' σ H Q->t σ H Q):PA X e t':=⟨λpos pins s σ H Q I hw=>h.run pos pins s σ H Q I (k σ H Q hw)⟩
theorem _root_.L2.PS.imp{X:Cx}{e:Stmt}{t t':TS}(h:PS X e t)(k:∀D σ H,t' D σ H->t D σ H):PS X e t':=⟨λpins s σ H D I hw=>h.run pins s σ H D I (k D σ H hw)⟩
theorem _root_.L2.PSs.imp{X:Cx}{e:List Stmt}{t t':TS}(h:PSs X e t)(k:∀D σ H,t' D σ H->t D σ H):PSs X e t':=⟨λpins s σ H D I hw=>h.run pins s σ H D I (k D σ H hw)⟩
section
variable{Γ:Gm}{W:WX}{w w0 w1 w2:Wd}{σ:L2.St}{ρ S:List Sl}{p:Addr}{o:HO}
theorem Good.none_of(g:Good w)(h:w.H p=none):w.F p=none∧p∉w.ad:=by
 refine⟨?_,λz=>?_⟩
 ·cases q:w.F p with
  |none=>rfl
  |some o=>
   have e:=g.sub _ _ q;rw[h] at e;cases e
 ·obtain⟨q,hq,rfl⟩:=ao.mp z;have e:=(g.cell q hq).1;rw[h] at e;cases e
theorem upd_none{H:Hp}{a b:Addr}(h:H p=none)(e:H a=some o):∀u,upd H p u a=some o:=λu=>by
 rw[upd_ne (ne_of_none e h)];exact e
theorem Ext.new(g:Good w)(h:w.H p=none):Ext w { w with H:=upd w.H p o } where
 gr:=.refl
 keep:=λa u e _=>upd_none (b:=a) h e _
 cnew:=λ_ z=>.inl z
 fnew:=λ_ _ z=>.inl z
 live:=λa u e=>⟨u,upd_none (b:=a) h e _⟩
theorem Good.new(g:Good w)(h:w.H p=none):Good { w with H:=upd w.H p o }:=
 ⟨λa u e=>upd_none (b:=a) h (g.sub a u e) _,λq hq=>⟨upd_none (b:=p) h (g.cell q hq).1 _,(g.cell q hq).2⟩,g.nd⟩
theorem Fresh.new(g:Good w)(h:w.H p=none)(nt:∀ps,o≠.tbl ps):Fresh { w with H:=upd w.H p o } [(p,o)]:=by
 obtain⟨h1,h2⟩:=g.none_of h;refine⟨λq hq=>?_,by simp⟩;have e:q=(p,o):=by simpa using hq
 subst e;exact⟨upd_same,h1,h2⟩
/-- a new frozen object -/
theorem Ext.newF(g:Good w)(h:w.H p=none):Ext w { w with F:=upd w.F p o,H:=upd w.H p o } where
 gr:=⟨⟨[],by simp⟩,λa u e=>upd_none (b:=a) (g.none_of h).1 e _⟩
 keep:=λa u e _=>upd_none (b:=a) h e _
 cnew:=λ_ z=>.inl z
 fnew:=λa u z=>by
  by_cases e:a=p
  ·subst e;exact .inr (.inl h)
  ·have z:upd w.F p o a=some u:=z;rw[upd_ne e] at z;exact .inl z
 live:=λa u e=>⟨u,upd_none (b:=a) h e _⟩
theorem Good.newF(g:Good w)(h:w.H p=none):Good { w with F:=upd w.F p o,H:=upd w.H p o }:=by iterate
 refine⟨λa u e=>?_,λq hq=>⟨upd_none (b:=p) h (g.cell q hq).1 _,?_⟩,g.nd⟩
 ·by_cases z:a=p
  ·subst z;have e:upd w.F a o a=some u:=e;show upd w.H a o a=some u;rw[upd_same] at e ⊢;exact e
  ·have e:upd w.F p o a=some u:=e;show upd w.H p o a=some u;rw[upd_ne z] at e ⊢;exact g.sub a u e
 ·show upd w.F p o q.1=none;rw[upd_ne]
  ·exact(g.cell q hq).2
  ·intro z;have e:=(g.cell q hq).1;rw[z,h] at e;cases e
theorem Rel.move(h:Rel Γ w ρ S σ)(x:Gr w.R w1.R w.F w1.F)(g:Good w1)(eE:w1.E=w.E)(eC:w1.C=w.C)(eR:w1.R=w.R):Rel Γ w1 ρ S σ:=by
 refine⟨g,?_⟩;rw[eE,eC,eR];exact h.own.up x.f
theorem RelS.move(h:RelS Γ w S)(x:Gr w.R w1.R w.F w1.F)(g:Good w1)(eE:w1.E=w.E)(eC:w1.C=w.C)(eR:w1.R=w.R):RelS Γ w1 S:=by
 refine⟨g,eE.trans h.noE,?_⟩;rw[eC,eR];exact h.own.up ⟨⟨[],by simp⟩,x.f⟩
def Sl.own?:Sl->Bool
 |.emp=>false
 |_=>true
/-- to a datum -/
def toD(r:Rv):M D:=λρ S=>match r with
 |.d d=>.ok d ρ S false
 |.fr s=>.ok s.frz ρ S false
 |.env i=>match ρ[i]? with
  |some s=>if s.own? then .ok s.frz (ρ.set i (.val s.frz)) S true else .bad
  |none=>.bad
theorem set_same{α:Type}{l:List α}{i:Nat}{a:α}(h:l[i]? = some a):l.set i a=l:=by
 apply List.ext_getElem?;intro j
 by_cases e:i=j
 ·subst e;rw[List.getElem?_set_self (bx.mp h).1,h]
 ·rw[List.getElem?_set_ne e]
theorem OwnO.of_own{R:List Addr}{F:Hp}{s:Sl}{o:Option V}{c:Cells}(h:OwnO Γ R F s o c)(n:s.own? = true):∃v,o=some v∧Own Γ R F s v c:=
 h.of_ne λe=>by subst e;cases n
/-- a slot's thing is frozen where it stands -/
theorem zmv{i:Nat}{s:Sl}{v:V}(h:Rel Γ w1 ρ S σ)(e:ρ[i]? = some s)(n:s.own? = true)(ev:σ[i]? = some (some v)) :
  ∃w2,w2.H=w1.H∧Ext w1 w2∧Rel Γ w2 (ρ.set i (.val s.frz)) S σ∧Rep Γ w2.R w2.F s.frz v∧w2.R=w1.R:=by iterate
 obtain⟨o,A,B,b,h1,h2,h3,h4⟩:=h.own.env_at e;rw[ev] at h1;cases h1;obtain⟨v',e',ow⟩:=h3.of_own n;cases e';have g:=h.good;have eAd:w1.ad=A.map (·.1)++b.map (·.1)++(B++w1.C).map (·.1):=by show(w1.E++w1.C).map _=_;rw[h2];simp
 have nd:=g.nd;rw[eAd] at nd;obtain⟨q1,q2,q3⟩:=bB.mp nd;obtain⟨q4,ndb,q6⟩:=bB.mp q1;have up:∀a u,w1.F a=some u->addC w1.F b a=some u:=M7 λp hp=>(g.cell p (by rw[h2];simp[hp])).2;have sub:∀a u,addC w1.F b a=some u->w1.H a=some u:=λa u z=>by
  rcases sW z with z|z
  ·exact(g.cell (a,u) (by rw[h2];simp[z])).1
  ·exact g.sub _ _ z
 have rep:Rep Γ w1.R (addC w1.F b) s.frz v:=Own.frz up s v b (λp hp=>M6 ndb hp) ow;have mem:∀p,p∈A++B++w1.C->p∈w1.E++w1.C:=λp hp=>by
  rw[h2];simp only[List.mem_append] at hp ⊢;rcases hp with (z|z)|z<;>simp[z]
 have out:∀p,p∈A++B++w1.C->p.1∉b.map (·.1):=λp hp z=>by
  have hp:p∈A∨p∈B++w1.C:=by simp only[List.mem_append] at hp ⊢;rcases hp with (y|y)|y<;>simp[y]
  rcases hp with y|y
  ·exact q6 _ (bf y) _ z rfl
  ·exact q3 _ (List.mem_append_right _ z) _ (bf y) rfl
 refine⟨⟨addC w1.F b,A++B,w1.C,w1.R,w1.H⟩,rfl,⟨⟨⟨[],by simp⟩,up⟩,λa u z _=>z,λa z=>?_,λa u z=>?_,λa u z=>⟨u,z⟩⟩,⟨⟨sub,λp hp=>⟨(g.cell p (mem p hp)).1,?_⟩,?_⟩,?_⟩,rep,rfl⟩
 ·obtain⟨p,hp,rfl⟩:=ao.mp z;exact .inl (bf (mem p hp))
 ·rcases sW z with z|z
  ·exact .inr (.inr (.inl (List.mem_map_of_mem (f:=(·.1)) (show(a,u)∈w1.E++w1.C by rw[h2];simp[z]))))
  ·exact .inl z
 ·show addC w1.F b p.1=none;rw[vZ (out p hp)];exact(g.cell p (mem p hp)).2
 ·show((A++B++w1.C).map (·.1)).Nodup;rw[aK,aX];exact bB.mpr ⟨q4,q2,λa ha c hc=>q3 a (List.mem_append_left _ ha) c hc⟩
 ·have z:=h4 (addC w1.F b) up (.val s.frz) (some v) [] ⟨v,rfl,by rw[Own];exact⟨rfl,rep⟩⟩;rw[set_same ev] at z
  simpa using z
/-- a new thing is frozen -/
theorem M8{s:Sl}{v:V}(x:Ext w0 w1)(h:Good w1)(o:∃c,Own Γ w1.R w1.F s v c∧Fresh w1 c∧∀p∈c,w0.H p.1=none∨p.1∈w0.ad) :
  ∃F',(∀a u,w1.F a=some u->F' a=some u)∧Ext w0 { w1 with F:=F' }∧Good { w1 with F:=F' }∧Rep Γ w1.R F' s.frz v:=by iterate
 obtain⟨c,ow,f,b⟩:=o;have up:∀a u,w1.F a=some u->addC w1.F c a=some u:=M7 λp hp=>(f.at_ p hp).2.1
 refine⟨addC w1.F c,up,⟨x.gr.trans ⟨⟨[],by simp⟩,up⟩,x.keep,x.cnew,λa u z=>?_,x.live⟩,⟨λa u z=>?_,λp hp=>⟨(h.cell p hp).1,?_⟩,h.nd⟩,Own.frz up s v c (λp hp=>M6 f.nd hp) ow⟩
 ·rcases sW z with z|z
  ·exact .inr ((b (a,u) z).elim .inl λz=>.inr (.inl z))
  ·exact x.fnew a u z
 ·rcases sW z with z|z
  ·exact(f.at_ (a,u) z).1
  ·exact h.sub _ _ z
 ·show addC w1.F c p.1=none;rw[vZ]
  ·exact(h.cell p hp).2
  ·intro z;obtain⟨q,hq,e⟩:=ao.mp z;exact(f.at_ q hq).2.2 (by rw[e];exact bf hp)
/-- whatever it is,it becomes a datum -/
theorem M9{r:Rv}{d:D}{ρ' S':List Sl}{t:Bool}{v:V}(x:Ext w0 w1)(h:Rel Γ w1 ρ S σ)(o:RvOk Γ w0 w1 σ r v)(e:toD r ρ S=.ok d ρ' S' t) :
  ∃w2,w2.H=w1.H∧Ext w0 w2∧Rel Γ w2 ρ' S' σ∧Rep Γ w2.R w2.F d v∧(t=false->w2.E=w1.E):=by iterate
 cases r with
 |d x0=>
  cases e;exact⟨w1,rfl,x,h,o,λ_=>rfl⟩
 |fr s=>
  cases e;obtain⟨F',up,x',g',rep⟩:=M8 x h.good o;exact⟨{ w1 with F:=F' },rfl,x',h.move ⟨⟨[],by simp⟩,up⟩ g' rfl rfl rfl,rep,λ_=>rfl⟩
 |env i=>
  have o':σ[i]? = some (some v):=o;unfold toD at e;cases q:ρ[i]? with
  |none=>simp[q] at e
  |some s=>
   simp only[q] at e;split at e
   ·rename_i hs;cases e;obtain⟨w2,e1,x2,r2,rep,_⟩:=zmv h q hs o';exact⟨w2,e1,x.trans x2,r2,rep,λz=>nomatch z⟩
   ·cases e
theorem Nb{r:Rv}{x:Exn}{ρ' S':List Sl}:toD r ρ S≠.ex x ρ' S':=by
 unfold toD;cases r with
 |d _=>simp
 |fr _=>simp
 |env i=>
  simp only;split
  ·split<;>simp
  ·simp
/-- an expression's datum -/
def cD(c:M Rv):M D:=λρ S=>(c ρ S).bind λr ρ S=>toD r ρ S
theorem CKd.of{c:M Rv}{Qd:D->V->Hp->Prop}{Q1:VK}(h:CKd Γ W w σ Qd (cD c ρ S))
  (k:∀d ρ' S' t w' v,Ext w w'->(t=false->w'.E=w.E)->Rel Γ w' ρ' S' σ->Rep Γ w'.R w'.F d v->cD c ρ S=.ok d ρ' S' t->Q1 v w'.H):CK Γ W w σ Q1 (c ρ S):=by iterate
 unfold cD at h k;cases q:c ρ S with
 |ok r ρ1 S1 t1=>
  rw[q] at h k;intro w1 v x1 e1 r1 o1;cases q2:toD r ρ1 S1 with
  |ok d ρ2 S2 t2=>
   obtain⟨w2,eH,x2,r2,rep,e2⟩:=M9 x1 r1 o1 q2;rw[<-eH];refine k d ρ2 S2 (t1 ||t2) w2 v x2 (λz=>?_) r2 rep (by rw[Res.bind_ok,q2];rfl)
   obtain⟨z1,z2⟩:=Bool.or_eq_false_iff.mp z;rw[e2 z2,e1 z1]
  |ex y ρ2 S2=>exact absurd q2 Nb
  |bad=>rw[Res.bind_ok,q2] at h;exact h.elim
 |ex y ρ1 S1=>rw[q] at h;exact h
 |bad=>rw[q] at h;exact h
end
end
section
/-- what a result of an operation owes -/
def PQ(Γ:Gm)(w:Wd)(Q:VK):Option Rv->Prop
 |some r=>∀w' v,Ext w w'->w'.E=w.E->w'.C=w.C->w'.R=w.R->Good w'->RvOk Γ w w' [] r v->Q v w'.H
 |none=>False
def lift(o:Option Rv):M Rv:=λρ S=>match o with
 |some r=>.ok r ρ S false
 |none=>.bad
section
variable{Γ:Gm}{W:WX}{w w0 w1 w2:Wd}{σ:L2.St}{ρ S:List Sl}{Q:VK}
theorem RvOk.nil{r:Rv}{v:V}(h:RvOk Γ w0 w [] r v):RvOk Γ w0 w σ r v:=by
 cases r with
 |d _=>exact h
 |fr _=>exact h
 |env i=>
  have h:([]:L2.St)[i]? = some (some v):=h;simp at h
theorem CK.prim{o:Option Rv}(R:Rel Γ w ρ S σ)(h:CK Γ W w σ Q (lift o ρ S)):PQ Γ w Q o:=by
 cases o with
 |none=>exact h
 |some r=>exact λw' v x eE eC eR g ok=>h w' v x (λ_=>eE) (R.move x.gr g eE eC eR) ok.nil
theorem PQ.d{d:D}{v:V}(g:Good w)(h:PQ Γ w Q (some (.d d)))(r:Rep Γ w.R w.F d v):Q v w.H:=h w v (.refl w) rfl rfl rfl g r
theorem PQ.fr{s:Sl}{p:Addr}{o:HO}(g:Good w)(h:PQ Γ w Q (some (.fr s)))(hp:w.H p=none)(nt:∀ps,o≠.tbl ps)(ow:Own Γ w.R w.F s (.ref p) [(p,o)]):Q (.ref p) (upd w.H p o):=
 h { w with H:=upd w.H p o } (.ref p) (.new g hp) rfl rfl rfl (.new g hp) ⟨_,ow,.new g hp nt,λq hq=>by
  have e:q=(p,o):=by simpa using hq
  subst e;exact .inl hp⟩
theorem PQ.new{d:D}{p:Addr}{o:HO}(g:Good w)(h:PQ Γ w Q (some (.d d)))(hp:w.H p=none)(r:Rep Γ w.R (upd w.F p o) d (.ref p)):Q (.ref p) (upd w.H p o):=
 h { w with F:=upd w.F p o,H:=upd w.H p o } (.ref p) (.newF g hp) rfl rfl rfl (.newF g hp) r
theorem pW{F:Hp}{p:Addr}{o:HO}(h:F p=none):∀a u,F a=some u->upd F p o a=some u:=λa u e=>upd_none (b:=a) h e _
end
/-- a two-place operation: what it gives,what its rule asks -/
def cR(Γ:Gm)(g:D->D->Option Rv)(r:R2):Prop:=
 ∀(w:Wd) (v1 v2:V) (d1 d2:D) (Q:VK),Good w->Top Γ w d1 v1->Top Γ w d2 v2->PQ Γ w Q (g d1 d2)->r v1 v2 w.H Q
def cBin(g:D->D->Option Rv)(ca cb:M Rv):M Rv:=λρ S=>(ca ρ S).bind λra ρ S=>(cb ρ S).bind λrb ρ S=>
 match cont ρ S ra,cont ρ S rb with
 |some d1,some d2=>lift (g d1 d2) ρ S
 |_,_=>.bad
section
variable{X:Cx}{Γ:Gm}{W:WX}{a b c:Expr}{ca cb cc:M Rv}{pos:Pos}
theorem sX{g:D->D->Option Rv}{r:R2}(hg:cR Γ g r){σ:L2.St}{H:Hp}{Q:VK}(h:tM Γ W (cBin g ca cb) σ H Q):tOp r (tM Γ W ca) (tM Γ W cb) σ H Q:=by iterate
 obtain⟨F,E,C,R,ρ,S,rel,ck⟩:=h;refine⟨F,E,C,R,ρ,S,rel,CK.bind ck λra ρ1 S1 w1 v1 x1 rel1 o1 ck1=>?_⟩;refine⟨w1.F,w1.E,w1.C,w1.R,ρ1,S1,rel1,CK.bind ck1 λrb ρ2 S2 w2 v2 x2 rel2 o2 ck2=>?_⟩;cases e1:cont ρ2 S2 ra with
 |none=>simp only[e1] at ck2;exact ck2.elim
 |some d1=>
  cases e2:cont ρ2 S2 rb with
  |none=>simp only[e1,e2] at ck2;exact ck2.elim
  |some d2=>
   simp only[e1,e2] at ck2;exact hg w2 v1 v2 d1 d2 Q rel2.good (rel2.top (o1.up x2) e1) (rel2.top o2 e2) (ck2.prim rel2)
theorem di{op:Operator}{g:D->D->Option Rv}{r:R2}(ho:OpR X (binaryOp op) r)(hg:cR Γ g r)(ha:PE X a (tM Γ W ca))(hb:PE X b (tM Γ W cb)):PE X (.BinOp a op b pos) (tM Γ W (cBin g ca cb)):=
 (pe_op ho ha hb).imp λ_ _ _ h=>sX hg h
theorem jy{op:CmpOp}{g:D->D->Option Rv}{r:R2}(ho:OpR X (compareOp op) r)(hg:cR Γ g r)(ha:PE X a (tM Γ W ca))(hb:PE X b (tM Γ W cb))(hm:behindInMarks op b=false):PE X (.Compare a [op] [b] pos) (tM Γ W (cBin g ca cb)):=
 (pe_cmpR ho ha hb hm).imp λ_ _ _ h=>sX hg h
theorem eU{g:D->D->Option Rv}{r:R2}(ho:IxR X r)(hg:cR Γ g r)(ha:PE X a (tM Γ W ca))(hb:PE X b (tM Γ W cb))(hs:PlainIx b):PE X (.Subscript a b pos) (tM Γ W (cBin g ca cb)):=
 (pe_ix ho ha hb hs).imp λ_ _ _ h=>sX hg h
theorem cR.or{g g':D->D->Option Rv}{r r':R2}(h:cR Γ g r)(h':cR Γ g' r'):cR Γ (λx y=>(g x y).or (g' x y)) (λx y H Q=>r x y H Q∨r' x y H Q):=by
 intro w v1 v2 d1 d2 Q gd t1 t2 q;have q:PQ Γ w Q ((g d1 d2).or (g' d1 d2)):=q;cases e:g d1 d2 with
 |none=>
  rw[e] at q;exact .inr (h' w v1 v2 d1 d2 Q gd t1 t2 q)
 |some z=>
  rw[e] at q;exact .inl (h w v1 v2 d1 d2 Q gd t1 t2 (by rw[e];exact q))
end
def bY(i:Nat):M Rv:=λρ S=>match ρ[i]? with
 |some (.val d)=>.ok (.d d) ρ S false
 |some .emp=>.bad
 |some _=>.ok (.env i) ρ S false
 |none=>.bad
def cC(d:D):M Rv:=λρ S=>.ok (.d d) ρ S false
section
variable{X:Cx}{Γ:Gm}{W:WX}
theorem cI(i:Nat){x:Str}{pos:Pos}(hN:X.N[i]? = some x)(hv:Vis X.env.scope x)(hd:(x == ("__debug__" : Str))=false:=by decide) (hcd:(x == ("__classdict__" : Str))=false:=by decide):PE X (.Name x pos) (tM Γ W (bY i)):=by iterate
 refine(pe_var hN hv hd hcd).imp λσ H Q h=>?_;obtain⟨F,E,C,R,ρ,S,rel,ck⟩:=h;unfold bY at ck;cases q:ρ[i]? with
 |none=>simp only[q] at ck;exact ck.elim
 |some s=>
  obtain⟨o,A,B,b,h1,h2,h3,_⟩:=rel.own.env_at q;have own:∀v,o=some v->CK Γ W ⟨F,E,C,R,H⟩ σ Q (.ok (.env i) ρ S false)->∃v,σ[i]? = some (some v)∧Q v H:=λv e ck=>by
   subst e;exact⟨v,h1,ck ⟨F,E,C,R,H⟩ v (.refl _) (λ_=>rfl) rel h1⟩
  cases s with
  |emp=>simp only[q] at ck;exact ck.elim
  |val d=>
   simp only[q] at ck;obtain⟨v,e,ow⟩:=h3;subst e;rw[Own] at ow;exact⟨v,h1,ck ⟨F,E,C,R,H⟩ v (.refl _) (λ_=>rfl) rel ow.2⟩
  |lst _=>simp only[q] at ck;obtain⟨v,e,ow⟩:=h3;exact own v e ck
  |dK _=>simp only[q] at ck;obtain⟨v,e,ow⟩:=h3;exact own v e ck
  |dT _=>simp only[q] at ck;obtain⟨v,e,ow⟩:=h3;exact own v e ck
  |ins _ _=>simp only[q] at ck;obtain⟨v,e,ow⟩:=h3;exact own v e ck
  |tab _=>simp only[q] at ck;obtain⟨v,e,ow⟩:=h3;exact own v e ck
  |rsv _=>simp only[q] at ck;obtain⟨v,e,ow⟩:=h3;exact own v e ck
  |cel _ _=>simp only[q] at ck;obtain⟨v,e,ow⟩:=h3;exact own v e ck
  |exn _ _=>simp only[q] at ck;obtain⟨v,e,ow⟩:=h3;exact own v e ck
theorem nU{v:V}{d:D}(hr:∀R F,Rep Γ R F d v){σ:L2.St}{H:Hp}{Q:VK}(h:tM Γ W (cC d) σ H Q):tC v σ H Q:=by
 obtain⟨F,E,C,R,ρ,S,rel,ck⟩:=h;exact ck ⟨F,E,C,R,H⟩ v (.refl _) (λ_=>rfl) rel (hr R F)
theorem cO{i:Int}{j pos}:PE X (.Constant (.int i) j pos) (tM Γ W (cC (.int i))):=pe_int.imp λ_ _ _ h=>nU (λ_ _=>by rw[Rep]) h
theorem iz{i:Bool}{j pos}:PE X (.Constant (.bool i) j pos) (tM Γ W (cC (.bl i))):=pe_bl.imp λ_ _ _ h=>nU (λ_ _=>by rw[Rep]) h
theorem nW{j pos}:PE X (.Constant .none j pos) (tM Γ W (cC .non)):=pe_non.imp λ_ _ _ h=>nU (λ_ _=>by rw[Rep]) h
theorem dB{x:Str}{j pos}:PE X (.Constant (.str x) j pos) (tM Γ W (cC (.str x))):=pe_str.imp λ_ _ _ h=>nU (λ_ _=>by rw[Rep]) h
/-- a module's constant,class,def -/
theorem Nf{x:Str}{v:V}{d:D}{u:Value}{pos:Pos}(hr:∀R F,Rep Γ R F d v)(hg:Gl X x)(hm:X.mg x=some u)(r:RelV v u)(hd:(x == ("__debug__" : Str))=false:=by decide):PE X (.Name x pos) (tM Γ W (cC d)):=
 (pe_glob hg hm r hd).imp λ_ _ _ h=>nU hr h
theorem zt3{x:Str}{v:V}{d:D}{u:Value}{pos:Pos}(hr:∀R F,Rep Γ R F d v)(hg:Gl X x)(hm:X.mg x=none)(hv:bootBuiltins x=some u)(r:RelV v u)(hn:x≠"__name__":=by decide) (hd:(x == ("__debug__" : Str))=false:=by decide):PE X (.Name x pos) (tM Γ W (cC d)):=
 (pe_bltn hg hm hv r hn hd).imp λ_ _ _ h=>nU hr h
end
def oInt(g:Int->Int->Option D):D->D->Option Rv
 |.int i,.int j=>(g i j).map .d
 |_,_=>none
section
variable{Γ:Gm}
theorem dX{w:Wd}{i:Int}{v:V}(h:Top Γ w (.int i) v):v=.int i:=by
 have h:Rep Γ w.R w.F (.int i) v:=h;rw[Rep] at h;exact h
theorem fH{w:Wd}{i:Str}{v:V}(h:Top Γ w (.str i) v):v=.str i:=by
 have h:Rep Γ w.R w.F (.str i) v:=h;rw[Rep] at h;exact h
theorem nY{w:Wd}{i:Bool}{v:V}(h:Top Γ w (.bl i) v):v=.bl i:=by
 have h:Rep Γ w.R w.F (.bl i) v:=h;rw[Rep] at h;exact h
theorem v5{w:Wd}{v:V}(h:Top Γ w .non v):v=.non:=by
 have h:Rep Γ w.R w.F .non v:=h;rw[Rep] at h;exact h
theorem zwh{w:Wd}{n:String}{v:V}(h:Top Γ w (.ty n) v):v=.ty n:=by
 have h:Rep Γ w.R w.F (.ty n) v:=h;rw[Rep] at h;exact h
theorem zx3{w:Wd}{n:Nat}{v:V}(h:Top Γ w (.cl n) v):v=.ref (Γ.cA n):=by
 have h:Rep Γ w.R w.F (.cl n) v:=h;rw[Rep] at h;exact h
theorem iD{w:Wd}{xs:List D}{v:V}(h:Top Γ w (.tup xs) v):∃a ys,v=.ref a∧w.F a=some (.tup ys)∧RepL Γ w.R w.F xs ys:=by
 have h:Rep Γ w.R w.F (.tup xs) v:=h;rw[Rep] at h;exact h
theorem nZ{w:Wd}{xs:List D}{v:V}(h:Top Γ w (.kt xs) v):∃a ys,v=.ref a∧SqT Γ.K w.F a ys∧RepL Γ w.R w.F xs ys:=by
 have h:Rep Γ w.R w.F (.kt xs) v:=h;rw[Rep] at h;exact h
theorem jf{w:Wd}{xs:List D}{v:V}(h:Top Γ w (.kl xs) v):∃a ys,v=.ref a∧SqL Γ.K w.F a ys∧RepL Γ w.R w.F xs ys:=by
 have h:Rep Γ w.R w.F (.kl xs) v:=h;rw[Rep] at h;exact h
theorem dY{R:List Addr}{F:Hp}{i:Int}:Rep Γ R F (.int i) (.int i):=by rw[Rep]
theorem eV{R:List Addr}{F:Hp}{i:Bool}:Rep Γ R F (.bl i) (.bl i):=by rw[Rep]
theorem jg{R:List Addr}{F:Hp}{i:Str}:Rep Γ R F (.str i) (.str i):=by rw[Rep]
theorem sY{R:List Addr}{F:Hp}:Rep Γ R F .non .non:=by rw[Rep]
/-- two ints to an int,under a decided condition -/
theorem binI{C:Int->Int->Prop}{g:Int->Int->V}{f:Int->Int->Option D}(h:∀i j d,f i j=some d->C i j∧∀R F,Rep Γ R F d (g i j)):cR Γ (oInt f) (rI C g):=by
 intro w v1 v2 d1 d2 Q gd t1 t2 q;cases d1 with
 |int i=>
  cases d2 with
  |int j=>
   simp only[oInt] at q;cases e:f i j with
   |none=>rw[e] at q;exact q.elim
   |some d=>
    rw[e] at q;obtain⟨hc,hr⟩:=h i j d e;exact⟨i,j,dX t1,dX t2,hc,q.d gd (hr _ _)⟩
  |_=>exact q.elim
 |_=>exact q.elim
theorem oh{g:Int->Int->V}{f:Int->Int->Option D}(h:∀i j d,f i j=some d->∀R F,Rep Γ R F d (g i j)):cR Γ (oInt f) (rI0 g):=by
 intro w v1 v2 d1 d2 Q gd t1 t2 q;cases d1 with
 |int i=>
  cases d2 with
  |int j=>
   simp only[oInt] at q;cases e:f i j with
   |none=>rw[e] at q;exact q.elim
   |some d=>
    rw[e] at q;exact⟨i,j,dX t1,dX t2,q.d gd (h i j d e _ _)⟩
  |_=>exact q.elim
 |_=>exact q.elim
end
def v7:D->D->Option Rv:=oInt λi j=>some (.int (i+j))
def tD:D->D->Option Rv
 |.str x,.str y=>if x.length+y.length≤sizeLine then some (.d (.str (x++y))) else none
 |_,_=>none
def tE:D->D->Option Rv
 |.lst x,.lst y=>if x.length+y.length≤sizeLine then some (.fr (.lst (x++y))) else none
 |_,_=>none
def v8:D->D->Option Rv
 |.tup x,.tup y=>if x.length+y.length≤sizeLine then(match x with|[]=>none|_::_=>some (.d (.tup (x++y)))) else none
 |_,_=>none
def oAdd:D->D->Option Rv:=λa b=>(v7 a b).or ((tD a b).or ((tE a b).or (v8 a b)))
def oSub:D->D->Option Rv:=oInt λi j=>some (.int (i - j))
def kZ:D->D->Option Rv:=oInt λi j=>if i.natAbs<2 ^ 64∨j.natAbs<2 ^ 64∨(i.natAbs<2 ^ 400000∧j.natAbs<2 ^ 400000) then some (.int (i*j)) else none
def ou:D->D->Option Rv
 |.lst x,.int k=>if -(2 ^ 63)≤k∧k<2 ^ 63∧x.length*k.toNat≤sizeLine then some (.fr (.lst (List.replicate k.toNat x).flatten)) else none
 |_,_=>none
/-- a string,so many times -/
def repS(x:Str)(n:Nat):Str:=⟨(List.replicate n x.cps.toList).flatten.toArray⟩
def tG:D->D->Option Rv
 |.str x,.int k=>if -(2 ^ 63)≤k∧k<2 ^ 63∧x.length*k.toNat≤sizeLine then some (.d (.str (repS x k.toNat))) else none
 |_,_=>none
def oMul:D->D->Option Rv:=λa b=>(kZ a b).or ((ou a b).or (tG a b))
def jA:D->D->Option Rv:=oInt λi j=>if 0<j∧j<1152921504606846976 then some (.int (i / j)) else none
def oMod:D->D->Option Rv:=oInt λi j=>if 0<j then some (.int (i % j)) else none
def oPow:D->D->Option Rv:=oInt λi j=>if 0≤j∧j≤1000000∧i.natAbs<2 ^ 64 then some (.int (i ^ j.toNat)) else none
def oLt:D->D->Option Rv:=oInt λi j=>some (.bl (decide (i<j)))
def oLe:D->D->Option Rv:=oInt λi j=>some (.bl (decide (i≤j)))
def oGt:D->D->Option Rv:=oInt λi j=>some (.bl (decide (j<i)))
def oGe:D->D->Option Rv:=oInt λi j=>some (.bl (decide (j≤i)))
section
variable{Γ:Gm}{X:Cx}
theorem zyS:cR Γ v7 (rI0 λi j=>.int (i+j)):=oh λi j d e R F=>by cases e;exact dY
theorem bSub:cR Γ oSub (rI0 λi j=>.int (i - j)):=oh λi j d e R F=>by cases e;exact dY
theorem bLt:cR Γ oLt (rI0 λi j=>.bl (decide (i<j))):=oh λi j d e R F=>by cases e;exact eV
theorem bLe:cR Γ oLe (rI0 λi j=>.bl (decide (i≤j))):=oh λi j d e R F=>by cases e;exact eV
theorem bGt:cR Γ oGt (rI0 λi j=>.bl (decide (j<i))):=oh λi j d e R F=>by cases e;exact eV
theorem bGe:cR Γ oGe (rI0 λi j=>.bl (decide (j≤i))):=oh λi j d e R F=>by cases e;exact eV
theorem Nh:cR Γ jA (rI CDivW λi j=>.int (i / j)):=binI λi j d e=>by
 split at e
 ·rename_i h;cases e;exact⟨wide_div (b:=64) h.1 (by omega) (by decide) (by decide),λ_ _=>dY⟩
 ·cases e
theorem bMod:cR Γ oMod (rI (λ_ j=>0<j) λi j=>.int (i % j)):=binI λi j d e=>by
 split at e
 ·cases e;exact⟨by assumption,λ_ _=>dY⟩
 ·cases e
theorem bPow:cR Γ oPow (rI CPow λi j=>.int (i ^ j.toNat)):=binI λi j d e=>by
 split at e
 ·cases e;exact⟨by assumption,λ_ _=>dY⟩
 ·cases e
theorem Nk{i:Int}(h:i.natAbs<2 ^ 64):-(2 ^ 64)<i∧i<2 ^ 64:=by omega
theorem zyQ:cR Γ kZ (λx y H Q=>rI CMul (λi j=>.int (i*j)) x y H Q∨rI CMulW (λi j=>.int (i*j)) x y H Q):=by iterate
 intro w v1 v2 d1 d2 Q gd t1 t2 q;cases d1 with
 |int i=>
  cases d2 with
  |int j=>
   simp only[kZ,oInt] at q;split at q
   ·rename_i h;have q':=q.d gd dY;rcases h with h|h|h
    ·exact .inl ⟨i,j,dX t1,dX t2,.inl (Nk h),q'⟩
    ·exact .inl ⟨i,j,dX t1,dX t2,.inr (Nk h),q'⟩
    ·exact .inr ⟨i,j,dX t1,dX t2,wide_mul h.1 h.2 (by decide) (by decide) (by decide),q'⟩
   ·exact q.elim
  |_=>exact q.elim
 |_=>exact q.elim
theorem zyM:cR Γ tD (λx y H Q=>∃i j,x=.str i∧y=.str j∧i.length+j.length≤sizeLine∧Q (.str (i++j)) H):=by
 intro w v1 v2 d1 d2 Q gd t1 t2 q;cases d1 with
 |str i=>
  cases d2 with
  |str j=>
   simp only[tD] at q;split at q
   ·exact⟨i,j,fH t1,fH t2,by assumption,q.d gd jg⟩
   ·exact q.elim
  |_=>exact q.elim
 |_=>exact q.elim
theorem RepL.app{R:List Addr}{F:Hp}:∀{xs:List D} {xs':List V} {ys:List D} {ys':List V},RepL Γ R F xs xs'->RepL Γ R F ys ys'->RepL Γ R F (xs++ys) (xs'++ys')
 |[],_,_,_,h,k=>by rw[RepL] at h;subst h;exact k
 |x::xs,_,ys,ys',h,k=>by
  rw[RepL] at h;obtain⟨y,r,e,q,l⟩:=h;subst e;rw[bQ,RepL];exact⟨y,r++ys',rfl,q,l.app k⟩
theorem RepL.rep{R:List Addr}{F:Hp}{xs:List D}{xs':List V}(h:RepL Γ R F xs xs'):∀k:Nat,RepL Γ R F (List.replicate k xs).flatten (List.replicate k xs').flatten
 |0=>by show RepL Γ R F [] [];rw[RepL]
 |k+1=>by rw[List.replicate_succ,List.replicate_succ,List.flatten_cons,List.flatten_cons];exact h.app (h.rep k)
theorem zzi:cR Γ tE rCat:=by iterate
 intro w v1 v2 d1 d2 Q gd t1 t2 q;cases d1 with
 |lst i=>
  cases d2 with
  |lst j=>
   simp only[tE] at q;split at q
   ·rename_i hl;obtain⟨a,ys,e,h1,l1⟩:=t1;obtain⟨b,zs,e',h2,l2⟩:=t2;have n1:=l1.length;have n2:=l2.length;refine⟨a,b,ys,zs,e,e',h1,h2,by omega,λp hp=>q.fr gd hp (λps z=>nomatch z) ?_⟩;rw[Own];exact⟨p,_,rfl,l1.app l2,rfl⟩
   ·exact q.elim
  |_=>exact q.elim
 |_=>exact q.elim
theorem zzr:cR Γ ou rRep:=by iterate
 intro w v1 v2 d1 d2 Q gd t1 t2 q;cases d1 with
 |lst i=>
  cases d2 with
  |int j=>
   simp only[ou] at q;split at q
   ·rename_i hl;obtain⟨a,ys,e,h1,l1⟩:=t1;have n1:=l1.length;refine⟨a,j,ys,e,dX t2,h1,hl.1,hl.2.1,by rw[<-n1];exact hl.2.2,λp hp=>q.fr gd hp (λps z=>nomatch z) ?_⟩;rw[Own];exact⟨p,_,rfl,l1.rep _,rfl⟩
   ·exact q.elim
  |_=>exact q.elim
 |_=>exact q.elim
theorem Nm(c:Array Nat):∀(n:Nat) (acc:Array Nat),(List.replicate n c).foldl (·++·) acc=acc++(List.replicate n c.toList).flatten.toArray
 |0,acc=>by simp
 |n+1,acc=>by
  rw[List.replicate_succ,List.foldl_cons,Nm c n,List.replicate_succ,List.flatten_cons,Array.append_assoc];apply Array.toList_inj.mp;simp only[Array.toList_append,List.append_assoc]
theorem zuN(x:Str)(k:Int):(if k<1 then Str.empty else if(k == 1 ||x.length == 0)=true then x else⟨(List.replicate k.toNat x.cps).foldl (·++·) #[]⟩)=repS x k.toNat:=by iterate
 unfold repS;split
 ·rename_i h;rw[show k.toNat=0 by omega];rfl
 ·split
  ·rename_i h1 h;rcases Bool.or_eq_true_iff.mp h with h|h
   ·have:k=1:=by simpa using h
    subst this;show x=⟨_⟩;simp
   ·have:x.length=0:=by simpa using h
    have h0:x.cps.toList=[]:=by
     have:x.cps.size=0:=this
     simpa using this
    rw[h0];have:(List.replicate k.toNat ([]:List Nat)).flatten=[]:=by simp
    rw[this];have:x.cps=#[]:=by simpa using h0
    show x=⟨_⟩;rw[<-this]
  ·rw[Nm];simp
abbrev v9:R2:=λx y H Q=>∃i k,x=.str i∧y=.int k∧-(2 ^ 63)≤k∧k<2 ^ 63∧i.length*k.toNat≤sizeLine∧Q (.str (repS i k.toNat)) H
theorem ztJ{X:Cx}:OpR X (binaryOp .Mult) v9:=by iterate
 intro pins s σ H x y v u Q I rx ry h;obtain⟨i,k,rfl,rfl,h1,h2,hz,q⟩:=h;obtain⟨t,rfl⟩:=rx;obtain⟨t',rfl⟩:=ry;have hz2:i.length*k.toNat≤16777216:=by rw[sizeLine_eq] at hz;exact hz
 rw[<-zuN] at q;refine PySem.P.mul_str (by rw[aQ (by omega),aQ (by omega)];rfl) (λh3 h4 h5=>?_) (λ_ _=>aQ (Nat.not_lt.mpr hz)) ?_
 ·have h7:(i.length:Int)*k≤16777216:=by
   have:=Int.ofNat_le.mpr hz2;rw[Int.natCast_mul,Int.toNat_of_nonneg (by omega)] at this;generalize (i.length:Int)*k=z at this ⊢;omega
  have h8:(2 ^ 63 - 1) / k*k≤2 ^ 63 - 1:=Int.ediv_mul_le _ (by omega);have h9:((2 ^ 63 - 1) / k+1)*k≤(i.length:Int)*k:=Int.mul_le_mul_of_nonneg_right (by omega) (by omega);have h10:2 ^ 63 - 1<((2 ^ 63 - 1) / k+1)*k:=Int.lt_ediv_add_one_mul_self _ (by omega);omega
 ·split at q
  ·rename_i h3;rw[if_pos h3];exact⟨by decide,.str Str.empty,H,I.tok _,⟨_,rfl⟩,q⟩
  ·rename_i h3;rw[if_neg h3];split at q
   ·rename_i h4;rw[if_pos h4];exact⟨.str i,H,I,⟨_,rfl⟩,q⟩
   ·rename_i h4;rw[if_neg h4];refine⟨?_,.str _,H,I.tok _,⟨_,rfl⟩,q⟩;exact PySem.fits_reps (aQ (Nat.not_lt.mpr hz))
theorem zzy:cR Γ tG v9:=by
 intro w v1 v2 d1 d2 Q gd t1 t2 q;cases d1 with
 |str i=>
  cases d2 with
  |int j=>
   simp only[tG] at q;split at q
   ·rename_i hl;exact⟨i,j,fH t1,dX t2,hl.1,hl.2.1,hl.2.2,q.d gd jg⟩
   ·exact q.elim
  |_=>exact q.elim
 |_=>exact q.elim
theorem RepL.ne{R:List Addr}{F:Hp}{x:D}{xs:List D}{ys:List V}(h:RepL Γ R F (x::xs) ys):ys≠[]:=by
 rw[RepL] at h;obtain⟨y,r,e,_⟩:=h;rw[e];simp
theorem zz8:cR Γ v8 (rCatT X.K):=by iterate
 intro w v1 v2 d1 d2 Q gd t1 t2 q;cases d1 with
 |tup i=>
  cases d2 with
  |tup j=>
   simp only[v8] at q;split at q
   ·rename_i hl;obtain⟨a,ys,e,h1,l1⟩:=iD t1;obtain⟨b,zs,e',h2,l2⟩:=iD t2;have n1:=l1.length;have n2:=l2.length;cases i with
    |nil=>exact q.elim
    |cons x i=>
     have hz:∀p,w.H p=none->Q (.ref p) (upd w.H p (.tup (ys++zs))):=λp hp=>q.new gd hp (by
      rw[Rep];refine⟨p,_,rfl,upd_same,(l1.app l2).up ⟨⟨[],by simp⟩,pW (gd.none_of hp).1⟩⟩)
     refine⟨a,b,ys,zs,e,e',SqT.of (gd.sub _ _ h1),SqT.of (gd.sub _ _ h2),l1.ne,by omega,λz=>?_,λ_ p hp=>hz p hp⟩;subst z;have e2:j=[]:=by
      cases j with
      |nil=>rfl
      |cons _ _=>exact absurd rfl l2.ne
     subst e2;rw[aN] at q;exact q.d gd (by rw[Rep];exact⟨a,ys,rfl,h1,l1⟩)
   ·exact q.elim
  |_=>exact q.elim
 |_=>exact q.elim
end
end
section
mutual
def dat:D->Option PyData
 |.non=>some .none
 |.bl b=>some (.bool b)
 |.int i=>some (.int i)
 |.str x=>some (.str x)
 |.lst xs=>(datL xs).map .list
 |.tup xs=>(datL xs).map .tuple
 |.kl xs=>(datL xs).map .list
 |.kt xs=>(datL xs).map .tuple
 |_=>none
def datL:List D->Option (List PyData)
 |[]=>some []
 |x::xs=>match dat x,datL xs with
  |some p,some ps=>some (p::ps)
  |_,_=>none
end
def oEqS(neg:Bool)(d e:D):Option Rv:=match d.sc,e.sc with
 |some x,some y=>if scal x y=true then some (.d (.bl (neg != decide (x=y)))) else none
 |_,_=>none
def oEqD(neg:Bool)(d e:D):Option Rv:=match dat d,dat e with
 |some p,some q=>if SeqAt.shaped p=true∧SeqAt.shaped q=true then some (.d (.bl (neg != PyData.eqv p q))) else none
 |_,_=>none
section
variable{Γ:Gm}{w:Wd}
theorem Rep.scal{R:List Addr}{F:Hp}{d:D}{v x:V}(e:d.sc=some x)(h:Rep Γ R F d v):v=x:=by
 cases d<;>simp only[D.sc,Option.some.injEq,reduceCtorEq] at e<;>subst e<;>rw[Rep] at h<;>exact h
theorem Top.scal{d:D}{v x:V}(e:d.sc=some x)(h:Top Γ w d v):v=x:=by
 cases d<;>first
  |(exact Rep.scal (Γ:=Γ) (R:=w.R) (F:=w.F) e h)
  |(simp[D.sc] at e)
mutual
theorem Rep.dp(g:Good w):∀(d:D) (v:V) (p:PyData),dat d=some p->Rep Γ w.R w.F d v->Dp Γ.K w.H v p
 |.non,v,p,e,h=>by rw[dat] at e;cases e;rw[Rep] at h;subst h;exact .non
 |.bl b,v,p,e,h=>by rw[dat] at e;cases e;rw[Rep] at h;subst h;exact .bl b
 |.int b,v,p,e,h=>by rw[dat] at e;cases e;rw[Rep] at h;subst h;exact .int b
 |.str b,v,p,e,h=>by rw[dat] at e;cases e;rw[Rep] at h;subst h;exact .str b
 |.lst xs,v,p,e,h=>by
  rw[dat] at e;obtain⟨ps,e1,e2⟩:=aW.mp e;subst e2;rw[Rep] at h;obtain⟨a,ys,ev,q,l⟩:=h;subst ev;exact .lst (SqL.of (g.sub _ _ q)) (RepL.dp g xs ys ps e1 l)
 |.kl xs,v,p,e,h=>by
  rw[dat] at e;obtain⟨ps,e1,e2⟩:=aW.mp e;subst e2;rw[Rep] at h;obtain⟨a,ys,ev,q,l⟩:=h;subst ev;exact .lst (SqL.up g.sub q) (RepL.dp g xs ys ps e1 l)
 |.tup xs,v,p,e,h=>by
  rw[dat] at e;obtain⟨ps,e1,e2⟩:=aW.mp e;subst e2;rw[Rep] at h;obtain⟨a,ys,ev,q,l⟩:=h;subst ev;exact .tup (SqT.of (g.sub _ _ q)) (RepL.dp g xs ys ps e1 l)
 |.kt xs,v,p,e,h=>by
  rw[dat] at e;obtain⟨ps,e1,e2⟩:=aW.mp e;subst e2;rw[Rep] at h;obtain⟨a,ys,ev,q,l⟩:=h;subst ev;exact .tup (SqT.up g.sub q) (RepL.dp g xs ys ps e1 l)
 |.ty _,v,p,e,h=>by rw[dat] at e<;>first|cases e|(intros;simp)
 |.dK _,v,p,e,h=>by rw[dat] at e<;>first|cases e|(intros;simp)
 |.dT _,v,p,e,h=>by rw[dat] at e<;>first|cases e|(intros;simp)
 |.ins _ _,v,p,e,h=>by rw[dat] at e<;>first|cases e|(intros;simp)
 |.ob _,v,p,e,h=>by rw[dat] at e<;>first|cases e|(intros;simp)
 |.cl _,v,p,e,h=>by rw[dat] at e<;>first|cases e|(intros;simp)
 |.fn _,v,p,e,h=>by rw[dat] at e<;>first|cases e|(intros;simp)
 |.unk,v,p,e,h=>by rw[dat] at e<;>first|cases e|(intros;simp)
theorem RepL.dp(g:Good w):∀(xs:List D) (ys:List V) (ps:List PyData),datL xs=some ps->RepL Γ w.R w.F xs ys->DpAll Γ.K w.H ys ps
 |[],ys,ps,e,h=>by
  rw[datL] at e;cases e;rw[RepL] at h;subst h;exact .nil
 |x::xs,ys,ps,e,h=>by
  rw[datL] at e;split at e
  ·rename_i p ps' e1 e2;cases e;rw[RepL] at h;obtain⟨y,r,e3,q,l⟩:=h;subst e3;exact .cons (Rep.dp g x y p e1 q) (RepL.dp g xs r ps' e2 l)
  ·cases e
end
theorem Top.dp(g:Good w){d:D}{v:V}{p:PyData}(e:dat d=some p)(h:Top Γ w d v):Dp Γ.K w.H v p:=by iterate
 cases d with
 |lst xs=>
  rw[dat] at e;obtain⟨ps,e1,e2⟩:=aW.mp e;subst e2;obtain⟨a,ys,ev,q,l⟩:=h;subst ev;exact .lst (SqL.of q) (RepL.dp g xs ys ps e1 l)
 |dK xs=>rw[dat] at e<;>first|cases e|(intros;simp)
 |dT xs=>rw[dat] at e<;>first|cases e|(intros;simp)
 |non=>exact Rep.dp g _ _ _ e h
 |bl _=>exact Rep.dp g _ _ _ e h
 |int _=>exact Rep.dp g _ _ _ e h
 |str _=>exact Rep.dp g _ _ _ e h
 |ty _=>exact Rep.dp g _ _ _ e h
 |lt _=>exact Rep.dp g _ _ _ e h
 |tup _=>exact Rep.dp g _ _ _ e h
 |kl _=>exact Rep.dp g _ _ _ e h
 |kt _=>exact Rep.dp g _ _ _ e h
 |ins _ _=>exact Rep.dp g _ _ _ e h
 |ob _=>exact Rep.dp g _ _ _ e h
 |cl _=>exact Rep.dp g _ _ _ e h
 |fn _=>exact Rep.dp g _ _ _ e h
 |unk=>exact Rep.dp g _ _ _ e h
theorem bEqS:cR Γ (oEqS false) rEq:=by
 intro w v1 v2 d1 d2 Q gd t1 t2 q;unfold oEqS at q;split at q
 ·rename_i x y e1 e2;split at q
  ·rename_i hs;rw[t1.scal e1,t2.scal e2];exact⟨hs,by have:=q.d gd eV;simpa using this⟩
  ·exact q.elim
 ·exact q.elim
theorem bNeS:cR Γ (oEqS true) rNe:=by
 intro w v1 v2 d1 d2 Q gd t1 t2 q;unfold oEqS at q;split at q
 ·rename_i x y e1 e2;split at q
  ·rename_i hs;rw[t1.scal e1,t2.scal e2];exact⟨hs,by have:=q.d gd eV;simpa using this⟩
  ·exact q.elim
 ·exact q.elim
theorem bEqD:cR Γ (oEqD false) (rEqD Γ.K):=by
 intro w v1 v2 d1 d2 Q gd t1 t2 q;unfold oEqD at q;split at q
 ·rename_i x y e1 e2;split at q
  ·rename_i hs;exact⟨x,y,t1.dp gd e1,t2.dp gd e2,hs.1,hs.2,by have:=q.d gd eV;simpa using this⟩
  ·exact q.elim
 ·exact q.elim
theorem bNeD:cR Γ (oEqD true) (rNeD Γ.K):=by
 intro w v1 v2 d1 d2 Q gd t1 t2 q;unfold oEqD at q;split at q
 ·rename_i x y e1 e2;split at q
  ·rename_i hs;exact⟨x,y,t1.dp gd e1,t2.dp gd e2,hs.1,hs.2,by have:=q.d gd eV;simpa using this⟩
  ·exact q.elim
 ·exact q.elim
end
def oEq(neg:Bool):D->D->Option Rv:=λd e=>(oEqS neg d e).or (oEqD neg d e)
def scL:List D->Option (List V)
 |[]=>some []
 |x::xs=>match x.sc,scL xs with
  |some p,some ps=>some (p::ps)
  |_,_=>none
def D.items:D->Option (List D)
 |.lst xs=>some xs
 |.tup xs=>some xs
 |.kl xs=>some xs
 |.kt xs=>some xs
 |_=>none
def oInL(neg:Bool)(x y:D):Option Rv:=match x.sc,y.items.bind scL with
 |some v,some vs=>some (.d (.bl (if neg then !inV v vs else inV v vs)))
 |_,_=>none
def oInS(neg:Bool):D->D->Option Rv
 |.str i,.str j=>some (.d (.bl (neg != !(Builtin.Str.occurrences j i 0 j.length 1).isEmpty)))
 |_,_=>none
def keyD:D->Option Key
 |.int i=>some (.inl i)
 |.str x=>some (.inr x)
 |_=>none
def gH:List D->Option (List Key)
 |[]=>some []
 |x::xs=>match keyD x,gH xs with
  |some p,some ps=>some (p::ps)
  |_,_=>none
def luk{κ:Type}[DecidableEq κ](kvs:List (κ×D))(k:κ):Option D:=(kvs.find? λkv=>decide (kv.1=k)).map (·.2)
/-- what a dict has at a key -/
def dGet:D->D->Option (Option D)
 |.dK kvs,k=>(keyD k).map λk=>luk kvs k
 |.dT kvs,.tup ks=>(gH ks).map λks=>luk kvs ks
 |.lt kvs,.tup ks=>(gH ks).map λks=>luk kvs ks
 |_,_=>none
def oInD(neg:Bool)(x y:D):Option Rv:=(dGet y x).map λo=>.d (.bl (neg != o.isSome))
def oIn(neg:Bool):D->D->Option Rv:=λx y=>(oInL neg x y).or ((oInS neg x y).or (oInD neg x y))
section
variable{Γ:Gm}{w:Wd}
theorem Np{d:D}{v:V}(e:d.sc=some v):flatV v=true:=by
 cases d<;>simp only[D.sc,Option.some.injEq,reduceCtorEq] at e<;>subst e<;>rfl
theorem RepL.scL{R:List Addr}{F:Hp}:∀{xs:List D} {ys vs:List V},scL xs=some vs->RepL Γ R F xs ys->ys=vs∧vs.all flatV=true
 |[],ys,vs,e,h=>by
  rw[DV.scL] at e;cases e;rw[RepL] at h;exact⟨h,rfl⟩
 |x::xs,ys,vs,e,h=>by
  rw[DV.scL] at e;split at e
  ·rename_i p ps e1 e2;cases e;rw[RepL] at h;obtain⟨y,r,e3,q,l⟩:=h;obtain⟨e4,f⟩:=RepL.scL e2 l;subst e3 e4;rw[Rep.scal e1 q];exact⟨rfl,by rw[List.all_cons,Np e1,f];rfl⟩
  ·cases e
theorem wg(g:Good w){y:D}{xs:List D}{v:V}(e:y.items=some xs)(h:Top Γ w y v):∃a ys,v=.ref a∧(SqL Γ.K w.H a ys∨SqT Γ.K w.H a ys)∧RepL Γ w.R w.F xs ys:=by iterate
 cases y with
 |lst zs=>cases e;obtain⟨a,ys,e1,q,l⟩:=h;exact⟨a,ys,e1,.inl (SqL.of q),l⟩
 |tup zs=>cases e;obtain⟨a,ys,e1,q,l⟩:=iD h;exact⟨a,ys,e1,.inr (SqT.of (g.sub _ _ q)),l⟩
 |kl zs=>cases e;obtain⟨a,ys,e1,q,l⟩:=jf h;exact⟨a,ys,e1,.inl (SqL.up g.sub q),l⟩
 |kt zs=>cases e;obtain⟨a,ys,e1,q,l⟩:=nZ h;exact⟨a,ys,e1,.inr (SqT.up g.sub q),l⟩
 |_=>cases e
theorem bInL(neg:Bool):cR Γ (oInL neg) (rIn Γ.K neg):=by
 intro w v1 v2 d1 d2 Q gd t1 t2 q;unfold oInL at q;split at q
 ·rename_i x vs e1 e2;obtain⟨xs,e3,e4⟩:=Option.bind_eq_some_iff.mp e2;obtain⟨a,ys,ev,hs,l⟩:=wg gd e3 t2;obtain⟨e5,f⟩:=l.scL e4;subst e5;rw[t1.scal e1];exact⟨a,ys,ev,hs,Np e1,f,q.d gd eV⟩
 ·exact q.elim
theorem bInS:cR Γ (oInS false) (λx y H Q=>∃i j,x=.str i∧y=.str j∧Q (.bl (!(Builtin.Str.occurrences j i 0 j.length 1).isEmpty)) H):=by
 intro w v1 v2 d1 d2 Q gd t1 t2 q;cases d1 with
 |str i=>
  cases d2 with
  |str j=>
   have:=q.d gd eV;exact⟨i,j,fH t1,fH t2,by simpa using this⟩
  |_=>exact q.elim
 |_=>exact q.elim
theorem zuh:cR Γ (oInS true) (λx y H Q=>∃i j,x=.str i∧y=.str j∧Q (.bl (!(!(Builtin.Str.occurrences j i 0 j.length 1).isEmpty))) H):=by
 intro w v1 v2 d1 d2 Q gd t1 t2 q;cases d1 with
 |str i=>
  cases d2 with
  |str j=>
   have:=q.d gd eV;exact⟨i,j,fH t1,fH t2,by simpa using this⟩
  |_=>exact q.elim
 |_=>exact q.elim
/-- what is at a key: nothing on both sides,or a datum and its value -/
def RepO(Γ:Gm)(R:List Addr)(F:Hp):Option D->Option V->Prop
 |some d,some v=>Rep Γ R F d v
 |none,none=>True
 |_,_=>False
theorem RepO.some_of{R:List Addr}{F:Hp}{o:Option D}{o':Option V}(h:RepO Γ R F o o'):o.isSome=o'.isSome:=by
 cases o<;>cases o'<;>first|rfl|exact h.elim
theorem RepK.luk{R:List Addr}{F:Hp}(k:Key):∀{kvs:List (Key×D)} {ys:List (Key×V)},RepK Γ R F kvs ys->RepO Γ R F (DV.luk kvs k) (valV ys k)
 |[],ys,h=>by rw[RepK] at h;subst h;exact True.intro
 |(j,x)::xs,ys,h=>by
  rw[RepK] at h;obtain⟨y,r,e,q,l⟩:=h;subst e
  by_cases z:j=k
  ·rw[valV_pos (p:=(j,y)) z];simp[DV.luk,z,RepO,q]
  ·rw[valV_neg (p:=(j,y)) z];have ih:=RepK.luk k l
   simpa[DV.luk,List.find?_cons,z] using ih
theorem RepT.luk{R:List Addr}{F:Hp}(k:List Key):∀{kvs:List (List Key×D)} {ys:List (List Key×V)},RepT Γ R F kvs ys->RepO Γ R F (DV.luk kvs k) (valV ys k)
 |[],ys,h=>by rw[RepT] at h;subst h;exact True.intro
 |(j,x)::xs,ys,h=>by
  rw[RepT] at h;obtain⟨y,r,e,q,l⟩:=h;subst e
  by_cases z:j=k
  ·rw[valV_pos (p:=(j,y)) z];simp[DV.luk,z,RepO,q]
  ·rw[valV_neg (p:=(j,y)) z];have ih:=RepT.luk k l
   simpa[DV.luk,List.find?_cons,z] using ih
theorem wj{R:List Addr}{F:Hp}{d:D}{k:Key}{v:V}(e:keyD d=some k)(h:Rep Γ R F d v):v=kV k:=by
 cases d<;>simp only[keyD,Option.some.injEq,reduceCtorEq] at e<;>subst e<;>rw[Rep] at h<;>exact h
theorem pX{R:List Addr}{F:Hp}:∀{ds:List D} {ks:List Key} {vs:List V},gH ds=some ks->RepL Γ R F ds vs->vs=ks.map kV
 |[],ks,vs,e,h=>by rw[gH] at e;cases e;rw[RepL] at h;exact h
 |x::xs,ks,vs,e,h=>by
  rw[gH] at e;split at e
  ·rename_i p ps e1 e2;cases e;rw[RepL] at h;obtain⟨y,r,e3,q,l⟩:=h;rw[e3,wj e1 q,pX e2 l];rfl
  ·cases e
theorem Top.rep_of{d:D}{v:V}(h:Top Γ w d v)(n:d.items=none∨(∃xs,d=.tup xs))(n2:∀k,d≠.dK k)(n3:∀k,d≠.dT k):Rep Γ w.R w.F d v:=by
 cases d with
 |lst xs=>rcases n with n|⟨_,n⟩<;>cases n
 |dK k=>exact absurd rfl (n2 k)
 |dT k=>exact absurd rfl (n3 k)
 |_=>exact h
theorem wu(g:Good w){y x:D}{o:Option D}{vy vx:V}(e:dGet y x=some o)(ty:Top Γ w y vy)(tx:Top Γ w x vx):∃a o',vy=.ref a∧DGet w.H a vx o'∧RepO Γ w.R w.F o o':=by iterate
 cases y with
 |dK kvs=>
  obtain⟨k,e1,e2⟩:=aW.mp e;subst e2;obtain⟨a,ys,ev,h,l⟩:=ty;have rx:Rep Γ w.R w.F x vx:=tx.rep_of (by cases x<;>first|exact .inl rfl|(simp[keyD] at e1)) (λk z=>by subst z;simp[keyD] at e1) (λk z=>by subst z;simp[keyD] at e1)
  rw[wj e1 rx];exact⟨a,_,ev,DGet.k h,l.luk k⟩
 |dT kvs=>
  cases x with
  |tup ks=>
   obtain⟨k,e1,e2⟩:=aW.mp e;subst e2;obtain⟨a,ys,ev,h,l⟩:=ty;obtain⟨b,zs,ex,hb,lb⟩:=iD tx;have ez:=pX e1 lb;subst ez ex;exact⟨a,_,ev,DGet.t h (g.sub _ _ hb),l.luk k⟩
  |_=>cases e
 |lt kvs=>
  cases x with
  |tup ks=>
   obtain⟨k,e1,e2⟩:=aW.mp e;subst e2;have ty:Rep Γ w.R w.F (.lt kvs) vy:=ty;rw[Rep] at ty;obtain⟨a,o,ys,ev,h,l⟩:=ty;obtain⟨b,zs,ex,hb,lb⟩:=iD tx;have ez:=pX e1 lb;subst ez ex;exact⟨a,_,ev,.inr ⟨ys,k,b,.inr ⟨o,g.sub _ _ h⟩,rfl,g.sub _ _ hb,rfl⟩,l.luk k⟩
  |_=>cases e
 |_=>cases e
/-- y in d,by values -/
def rInD(neg:Bool):R2:=λy x H Q=>∃a o,x=.ref a∧DGet H a y o∧Q (.bl (if neg=true then !o.isSome else o.isSome)) H
theorem op_inD{X:Cx}(hu:X.A.units+1<cLine):OpR X (compareOp .In) (rInD false):=by
 intro pins s σ H x y v u Q I rx ry h;obtain⟨a,o,e,g,q⟩:=h;subst e;cases ry;exact d_in hu I g rx λs' I'=>⟨.bl _,H,I',rfl,q⟩
theorem op_notInD{X:Cx}(hu:X.A.units+1<cLine):OpR X (compareOp .NotIn) (rInD true):=by
 intro pins s σ H x y v u Q I rx ry h;obtain⟨a,o,e,g,q⟩:=h;subst e;cases ry;exact d_notIn hu I g rx λs' I'=>⟨.bl _,H,I',rfl,q⟩
theorem bInD(neg:Bool):cR Γ (oInD neg) (rInD neg):=by
 intro w v1 v2 d1 d2 Q gd t1 t2 q;unfold oInD at q;cases e:dGet d2 d1 with
 |none=>rw[e] at q;exact q.elim
 |some o=>
  rw[e] at q;obtain⟨a,o',ev,g,ro⟩:=wu gd e t2 t1;refine⟨a,o',ev,g,?_⟩;have z:=q.d gd eV;rw[ro.some_of] at z;cases neg<;>simpa using z
end
def D.isNon:D->Bool
 |.non=>true
 |_=>false
def oIsN(neg:Bool)(x y:D):Option Rv:=if y.isNon=true then some (.d (.bl (neg != x.isNon))) else none
def oIsB(neg:Bool):D->D->Option Rv
 |.bl a,.bl b=>some (.d (.bl (neg != decide (a=b))))
 |_,_=>none
def oIs(neg:Bool):D->D->Option Rv:=λx y=>(oIsN neg x y).or (oIsB neg x y)
section
variable{Γ:Gm}{w:Wd}
theorem Nq{x:D}{v:V}(h:Top Γ w x v):decide (v=.non)=x.isNon:=by iterate
 cases x with
 |lst _=>obtain⟨a,ys,e,_⟩:=h;subst e;rfl
 |dK _=>obtain⟨a,ys,e,_⟩:=h;subst e;rfl
 |dT _=>obtain⟨a,ys,e,_⟩:=h;subst e;rfl
 |tup _=>obtain⟨a,ys,e,_⟩:=iD h;subst e;rfl
 |kl _=>obtain⟨a,ys,e,_⟩:=jf h;subst e;rfl
 |kt _=>obtain⟨a,ys,e,_⟩:=nZ h;subst e;rfl
 |non=>rw[v5 h];rfl
 |bl _=>rw[nY h];rfl
 |int _=>rw[dX h];rfl
 |str _=>rw[fH h];rfl
 |ty _=>rw[zwh h];rfl
 |lt _=>have h:Rep Γ w.R w.F (.lt _) v:=h;rw[Rep] at h;obtain⟨a,o,ys,e,_⟩:=h;subst e;rfl
 |cl _=>rw[zx3 h];rfl
 |ins _ _=>
  have h:Rep Γ w.R w.F _ v:=h;rw[Rep] at h;obtain⟨a,dx,gs,e,_⟩:=h;subst e;rfl
 |ob _=>
  have h:Rep Γ w.R w.F _ v:=h;rw[Rep] at h;obtain⟨a,_,e⟩:=h;subst e;rfl
 |fn _=>
  have h:Rep Γ w.R w.F _ v:=h;rw[Rep] at h;obtain⟨f,c,pm,ct,e,_⟩:=h;subst e;rfl
 |unk=>
  have h:Rep Γ w.R w.F _ v:=h;rw[Rep] at h;obtain⟨a,e⟩:=h;subst e;rfl
theorem bIsN:cR Γ (oIsN false) (λx y H Q=>y=.non∧Q (.bl (decide (x=.non))) H):=by
 intro w v1 v2 d1 d2 Q gd t1 t2 q;unfold oIsN at q;split at q
 ·rename_i h;have e:=Nq t2;rw[h] at e;refine⟨aR e,?_⟩;rw[Nq t1];have z:=q.d gd eV
  simpa using z
 ·exact q.elim
theorem bIsB:cR Γ (oIsB false) rIsB:=by
 intro w v1 v2 d1 d2 Q gd t1 t2 q;unfold oIsB at q;split at q
 ·rename_i a b;have z:=q.d gd eV;exact⟨a,b,nY t1,nY t2,by simpa using z⟩
 ·exact q.elim
end
def lg(g g':D->D->Option Rv)(ca cb cc:M Rv):M Rv:=λρ S=>(ca ρ S).bind λra ρ S=>(cb ρ S).bind λrb ρ S=>
 match cont ρ S ra,cont ρ S rb with
 |some d1,some d2=>(match g d1 d2 with
  |some (.d (.bl true))=>(cc ρ S).bind λrc ρ S=>(match cont ρ S rb,cont ρ S rc with
   |some d2,some d3=>lift (g' d2 d3) ρ S
   |_,_=>.bad)
  |some (.d (.bl false))=>.ok (.d (.bl false)) ρ S false
  |_=>.bad)
 |_,_=>.bad
section
variable{X:Cx}{Γ:Gm}{W:WX}{a b c:Expr}{ca cb cc:M Rv}{pos:Pos}
theorem zmf{g g':D->D->Option Rv}{r r':R2}(hg:cR Γ g r)(hg':cR Γ g' r'){σ:L2.St}{H:Hp}{Q:VK}(h:tM Γ W (lg g g' ca cb cc) σ H Q):tChain r r' (tM Γ W ca) (tM Γ W cb) (tM Γ W cc) σ H Q:=by iterate
 obtain⟨F,E,C,R,ρ,S,rel,ck⟩:=h;refine⟨F,E,C,R,ρ,S,rel,CK.bind ck λra ρ1 S1 w1 v1 x1 rel1 o1 ck1=>?_⟩;refine⟨w1.F,w1.E,w1.C,w1.R,ρ1,S1,rel1,CK.bind ck1 λrb ρ2 S2 w2 v2 x2 rel2 o2 ck2=>?_⟩;cases e1:cont ρ2 S2 ra with
 |none=>simp only[e1] at ck2;exact ck2.elim
 |some d1=>
  cases e2:cont ρ2 S2 rb with
  |none=>simp only[e1,e2] at ck2;exact ck2.elim
  |some d2=>
   simp only[e1,e2] at ck2;have t1:=rel2.top (o1.up x2) e1;have t2:=rel2.top o2 e2;split at ck2
   ·rename_i eg;refine hg w2 v1 v2 d1 d2 _ rel2.good t1 t2 ?_;rw[eg];intro w3 v3 x3 eE eC eR g3 ok3;have ok3:Rep Γ w3.R w3.F (.bl true) v3:=ok3;rw[Rep] at ok3;subst ok3;have rel3:=rel2.move x3.gr g3 eE eC eR;have ck3:=CK.ext (t:=false) x3 (λ_=>eE) (by rw[Res.addt_false];exact ck2);refine⟨true,rfl,?_⟩;rw[if_pos rfl];refine⟨w3.F,w3.E,w3.C,w3.R,ρ2,S2,rel3,CK.bind ck3 λrc ρ4 S4 w4 v4 x4 rel4 o4 ck4=>?_⟩;cases e3:cont ρ4 S4 rb with
    |none=>simp only[e3] at ck4;exact ck4.elim
    |some d3=>
     cases e4:cont ρ4 S4 rc with
     |none=>simp only[e3,e4] at ck4;exact ck4.elim
     |some d4=>
      simp only[e3,e4] at ck4;exact hg' w4 v2 v4 d3 d4 Q rel4.good (rel4.top ((o2.up x3).up x4) e3) (rel4.top o4 e4) (ck4.prim rel4)
   ·rename_i eg;refine hg w2 v1 v2 d1 d2 _ rel2.good t1 t2 ?_;rw[eg];intro w3 v3 x3 eE eC eR g3 ok3;have ok3:Rep Γ w3.R w3.F (.bl false) v3:=ok3;rw[Rep] at ok3;subst ok3;refine⟨false,rfl,?_⟩;rw[if_neg Bool.false_ne_true];exact ck2 w3 (.bl false) x3 (λ_=>eE) (rel2.move x3.gr g3 eE eC eR) (eV (Γ:=Γ) (R:=w3.R) (F:=w3.F))
   ·exact ck2.elim
theorem Nr{op op':CmpOp}{g g':D->D->Option Rv}{r r':R2}(ho:OpR X (compareOp op) r)(ho':OpR X (compareOp op') r')(hg:cR Γ g r)(hg':cR Γ g' r')
  (ha:PE X a (tM Γ W ca)) (hb:PE X b (tM Γ W cb)) (hc:PE X c (tM Γ W cc)) (hm:lastMarks [op,op'] [b,c]=false):PE X (.Compare a [op,op'] [b,c] pos) (tM Γ W (lg g g' ca cb cc)):=
 (pe_chain ho ho' ha hb hc hm).imp λ_ _ _ h=>zmf hg hg' h
end
def truD:D->Option Bool
 |.non=>some false
 |.bl b=>some b
 |.int i=>some (i != 0)
 |.str x=>if x.length≤sizeLine then some ((x.length:Int) != 0) else none
 |.lst xs=>some (!xs.isEmpty)
 |.tup xs=>some (!xs.isEmpty)
 |.kl xs=>some (!xs.isEmpty)
 |.kt xs=>some (!xs.isEmpty)
 |.dK xs=>some (!xs.isEmpty)
 |_=>none
def cTru(c:M Rv):M Bool:=λρ S=>(c ρ S).bind λr ρ S=>match (cont ρ S r).bind truD with
 |some b=>.ok b ρ S false
 |none=>.bad
section
variable{Γ:Gm}{w:Wd}
theorem RepL.emp{R:List Addr}{F:Hp}{xs:List D}{ys:List V}(h:RepL Γ R F xs ys):ys.isEmpty=xs.isEmpty:=by
 cases xs with
 |nil=>rw[RepL] at h;subst h;rfl
 |cons x xs=>rw[RepL] at h;obtain⟨y,r,e,_⟩:=h;subst e;rfl
theorem RepK.emp{R:List Addr}{F:Hp}{xs:List (Key×D)}{ys:List (Key×V)}(h:RepK Γ R F xs ys):ys.isEmpty=xs.isEmpty:=by
 cases xs with
 |nil=>rw[RepK] at h;subst h;rfl
 |cons x xs=>obtain⟨k,x⟩:=x;rw[RepK] at h;obtain⟨y,r,e,_⟩:=h;subst e;rfl
theorem ww{K:yF}(hK:Γ.K=K)(g:Good w){d:D}{v:V}{b:Bool}(e:truD d=some b)(h:Top Γ w d v):TruV K v w.H b:=by iterate
 subst hK;cases d with
 |non=>cases e;rw[v5 h];rfl
 |bl _=>cases e;rw[nY h];rfl
 |int _=>cases e;rw[dX h];rfl
 |str x=>
  rw[fH h];simp only[truD] at e;split at e
  ·cases e;exact⟨by assumption,rfl⟩
  ·cases e
 |lst _=>cases e;obtain⟨a,ys,e,q,l⟩:=h;subst e;exact .inl ⟨ys,SqL.of q,by rw[l.emp]⟩
 |kl _=>cases e;obtain⟨a,ys,e,q,l⟩:=jf h;subst e;exact .inl ⟨ys,SqL.up g.sub q,by rw[l.emp]⟩
 |tup _=>cases e;obtain⟨a,ys,e,q,l⟩:=iD h;subst e;exact .inr (.inl ⟨ys,SqT.of (g.sub _ _ q),by rw[l.emp]⟩)
 |kt _=>cases e;obtain⟨a,ys,e,q,l⟩:=nZ h;subst e;exact .inr (.inl ⟨ys,SqT.up g.sub q,by rw[l.emp]⟩)
 |dK _=>cases e;obtain⟨a,ys,e,q,l⟩:=h;subst e;exact .inr (.inr ⟨ys,q,by rw[l.emp]⟩)
 |_=>cases e
end
section
variable{X:Cx}{Γ:Gm}{W:WX}{a b c e:Expr}{ca cb cc:M Rv}{ta tb:M Bool}{pos:Pos}{rest:List Expr}{w:Wd}{σ:L2.St}
/-- behind a truth -/
theorem CKb.tru{c:M Rv}{ρ S:List Sl}{Q:Bool->Hp->Prop}(hK:Γ.K=X.K)(h:CKb Γ W w σ Q (cTru c ρ S)):CK Γ W w σ (λv H=>∃k,TruV X.K v H k∧Q k H) (c ρ S):=by iterate
 unfold cTru at h;cases q:c ρ S with
 |ok r ρ1 S1 t=>
  rw[q] at h;intro w1 v x1 e1 r1 o1;rw[Res.bind_ok] at h;have h1:=CKb.ext x1 e1 h;cases e2:(cont ρ1 S1 r).bind truD with
  |none=>simp only[e2] at h1;exact h1.elim
  |some k=>
   simp only[e2] at h1;obtain⟨d,e3,e4⟩:=Option.bind_eq_some_iff.mp e2;exact⟨k,ww hK r1.good e4 (r1.top o1 e3),h1 w1 (.refl w1) (λ_=>rfl) r1⟩
 |ex y ρ1 S1=>rw[q] at h;exact h
 |bad=>rw[q] at h;exact h
theorem fX(hK:Γ.K=X.K)(h:PE X e (tM Γ W ca))(he:∀whole,isTrue e X.env whole=(do let v <-whole;standAt e.pos;holding [v] (truthy v))):PT X e (tMb Γ W (cTru ca)):=
 (pt_truth h he).imp λ_ _ _ ⟨F,E,C,R,ρ,S,rel,ck⟩=>⟨F,E,C,R,ρ,S,rel,ck.tru hK⟩
def fM(c:M Bool):M Bool:=λρ S=>(c ρ S).bind λb ρ S=>.ok (!b) ρ S false
theorem CKb.bind{r:Res Bool}{f:Bool->List Sl->List Sl->Res Bool}{Q Q1:Bool->Hp->Prop}(h:CKb Γ W w σ Q (r.bind f))
  (k:∀a ρ S w',Ext w w'->Rel Γ w' ρ S σ->CKb Γ W w' σ Q (f a ρ S)->Q1 a w'.H):CKb Γ W w σ Q1 r:=by
 cases r with
 |ok a ρ S t=>exact λw2 x2 e2 R2=>k a ρ S w2 x2 R2 (CKb.ext x2 e2 h)
 |ex y ρ S=>exact h
 |bad=>exact h
theorem CKb.bindV{r:Res Bool}{f:Bool->List Sl->List Sl->Res Rv}{Q:VK}{Q1:Bool->Hp->Prop}(h:CK Γ W w σ Q (r.bind f))
  (k:∀a ρ S w',Ext w w'->Rel Γ w' ρ S σ->CK Γ W w' σ Q (f a ρ S)->Q1 a w'.H):CKb Γ W w σ Q1 r:=by
 cases r with
 |ok a ρ S t=>exact λw2 x2 e2 R2=>k a ρ S w2 x2 R2 (CK.ext x2 e2 h)
 |ex y ρ S=>exact h
 |bad=>exact h
theorem gJ(h:PT X e (tMb Γ W ta)):PT X (.UnaryOp .Not e pos) (tMb Γ W (fM ta)):=
 (pt_not h).imp λ_ _ _ ⟨F,E,C,R,ρ,S,rel,ck⟩=>⟨F,E,C,R,ρ,S,rel,CKb.bind ck λa ρ1 S1 w1 x1 rel1 ck1=>ck1 w1 (.refl _) (λ_=>rfl) rel1⟩
def pY(c d:M Bool):M Bool:=λρ S=>(c ρ S).bind λb ρ S=>if b=true then d ρ S else .ok false ρ S false
def cOrB(c d:M Bool):M Bool:=λρ S=>(c ρ S).bind λb ρ S=>if b=true then .ok true ρ S false else d ρ S
theorem zqE(ha:PT X a (tMb Γ W ta)):PW X (.BoolOp .And [a] pos) (tMb Γ W ta):=pw_and1 ha
theorem pZ(ha:PT X a (tMb Γ W ta)):PW X (.BoolOp .Or [a] pos) (tMb Γ W ta):=pw_or1 ha
theorem _root_.L2.PW.imp{X:Cx}{e:Expr}{t t':TT}(h:PW X e t)(k:∀σ H Q,t' σ H Q->t σ H Q):PW X e t':=⟨λwh pins s σ H Q I hw=>h.run wh pins s σ H Q I (k σ H Q hw)⟩
theorem zuP(ha:PT X a (tMb Γ W ta))(hb:PW X (.BoolOp .And (b::rest) pos) (tMb Γ W tb)):PW X (.BoolOp .And (a::b::rest) pos) (tMb Γ W (pY ta tb)):=
 (pw_and ha hb).imp λ_ _ _ ⟨F,E,C,R,ρ,S,rel,ck⟩=>⟨F,E,C,R,ρ,S,rel,CKb.bind ck λa ρ1 S1 w1 x1 rel1 ck1=>by
  cases a with
  |true=>exact⟨w1.F,w1.E,w1.C,w1.R,ρ1,S1,rel1,ck1⟩
  |false=>exact ck1 w1 (.refl _) (λ_=>rfl) rel1⟩
theorem qb(ha:PT X a (tMb Γ W ta))(hb:PW X (.BoolOp .Or (b::rest) pos) (tMb Γ W tb)):PW X (.BoolOp .Or (a::b::rest) pos) (tMb Γ W (cOrB ta tb)):=
 (pw_or ha hb).imp λ_ _ _ ⟨F,E,C,R,ρ,S,rel,ck⟩=>⟨F,E,C,R,ρ,S,rel,CKb.bind ck λa ρ1 S1 w1 x1 rel1 ck1=>by
  cases a with
  |true=>exact ck1 w1 (.refl _) (λ_=>rfl) rel1
  |false=>exact⟨w1.F,w1.E,w1.C,w1.R,ρ1,S1,rel1,ck1⟩⟩
def cOr(ca cb:M Rv):M Rv:=λρ S=>(ca ρ S).bind λra ρ S=>match (cont ρ S ra).bind truD with
 |some true=>.ok ra ρ S false
 |some false=>cb ρ S
 |none=>.bad
def cAnd(ca cb:M Rv):M Rv:=λρ S=>(ca ρ S).bind λra ρ S=>match (cont ρ S ra).bind truD with
 |some true=>cb ρ S
 |some false=>.ok ra ρ S false
 |none=>.bad
def cNot(ca:M Rv):M Rv:=λρ S=>(ca ρ S).bind λra ρ S=>match (cont ρ S ra).bind truD with
 |some b=>.ok (.d (.bl (!b))) ρ S false
 |none=>.bad
def cIf(t:M Bool)(ca cb:M Rv):M Rv:=λρ S=>(t ρ S).bind λb ρ S=>if b=true then ca ρ S else cb ρ S
theorem jh(hK:Γ.K=X.K)(ha:PE X a (tM Γ W ca))(hb:PE X (.BoolOp .And (b::rest) pos) (tM Γ W cb)):PE X (.BoolOp .And (a::b::rest) pos) (tM Γ W (cAnd ca cb)):=
 (pe_andT ha hb).imp λ_ _ Q ⟨F,E,C,R,ρ,S,rel,ck⟩=>⟨F,E,C,R,ρ,S,rel,by
  unfold cAnd at ck;cases q:ca ρ S with
  |ok ra ρ1 S1 t=>
   rw[q] at ck;intro w1 v1 x1 e1 rel1 o1;rw[Res.bind_ok] at ck;have ck1:=CK.ext x1 e1 ck;cases e2:(cont ρ1 S1 ra).bind truD with
   |none=>simp only[e2] at ck1;exact ck1.elim
   |some k=>
    obtain⟨d,e3,e4⟩:=Option.bind_eq_some_iff.mp e2;refine⟨k,ww hK rel1.good e4 (rel1.top o1 e3),?_⟩;simp only[e2] at ck1 ck;cases k with
    |true=>exact⟨w1.F,w1.E,w1.C,w1.R,ρ1,S1,rel1,ck1⟩
    |false=>exact ck w1 v1 x1 (λz=>e1 (by simpa using z)) rel1 o1
  |ex y ρ1 S1=>rw[q] at ck;exact ck
  |bad=>rw[q] at ck;exact ck⟩
theorem oA{op}(h:PE X a (tM Γ W ca)):PE X (.BoolOp op [a] pos) (tM Γ W ca):=pe_one h
theorem zu9(hK:Γ.K=X.K)(ha:PE X a (tM Γ W ca)):PE X (.UnaryOp .Not a pos) (tM Γ W (cNot ca)):=
 (pe_notT ha).imp λ_ _ Q ⟨F,E,C,R,ρ,S,rel,ck⟩=>⟨F,E,C,R,ρ,S,rel,CK.bind ck λra ρ1 S1 w1 v1 x1 rel1 o1 ck1=>by
  cases e2:(cont ρ1 S1 ra).bind truD with
  |none=>simp only[e2] at ck1;exact ck1.elim
  |some k=>
   obtain⟨d,e3,e4⟩:=Option.bind_eq_some_iff.mp e2;simp only[e2] at ck1;exact⟨k,ww hK rel1.good e4 (rel1.top o1 e3),ck1 w1 _ (.refl _) (λ_=>rfl) rel1 (eV (Γ:=Γ) (R:=w1.R) (F:=w1.F))⟩⟩
theorem tH(ht:PT X c (tMb Γ W ta))(ha:PE X a (tM Γ W ca))(hb:PE X b (tM Γ W cb)):PE X (.IfExp c a b pos) (tM Γ W (cIf ta ca cb)):=
 (pe_ifExp ht ha hb).imp λ_ _ Q ⟨F,E,C,R,ρ,S,rel,ck⟩=>⟨F,E,C,R,ρ,S,rel,CKb.bindV ck λk ρ1 S1 w1 x1 rel1 ck1=>by
  cases k with
  |true=>exact⟨w1.F,w1.E,w1.C,w1.R,ρ1,S1,rel1,ck1⟩
  |false=>exact⟨w1.F,w1.E,w1.C,w1.R,ρ1,S1,rel1,ck1⟩⟩
end
end
section
def cG:M (List D):=λρ S=>.ok [] ρ S false
def bZ(c:M Rv)(cs:M (List D)):M (List D):=λρ S=>(cD c ρ S).bind λd ρ S=>(cs ρ S).bind λds ρ S=>.ok (d::ds) ρ S false
def RvL(Γ:Gm)(w0 w:Wd)(σ:L2.St):List Rv->List V->Prop
 |[],vs=>vs=[]
 |r::rs,vs=>∃v vs',vs=v::vs'∧RvOk Γ w0 w σ r v∧RvL Γ w0 w σ rs vs'
section
variable(Γ:Gm)(W:WX)
def CKr(w:Wd)(σ:L2.St)(Q:List V->Hp->Prop):Res (List Rv)->Prop
 |.ok rs ρ' S' t=>∀w' vs,Ext w w'->(t=false->w'.E=w.E)->Rel Γ w' ρ' S' σ->RvL Γ w w' σ rs vs->Q vs w'.H
 |.ex x ρ' S'=>∀w' cls d,Ext w w'->Rel Γ w' ρ' S' σ->XOk Γ w' x cls d->W cls d σ w'.H
 |.bad=>False
def tMr(c:M (List Rv)):TA:=λσ H Q=>∃F E C R ρ S,Rel Γ ⟨F,E,C,R,H⟩ ρ S σ∧CKr Γ W ⟨F,E,C,R,H⟩ σ Q (c ρ S)
end
def cU:M (List Rv):=λρ S=>.ok [] ρ S false
def cV(c:M Rv)(cs:M (List Rv)):M (List Rv):=λρ S=>(c ρ S).bind λd ρ S=>(cs ρ S).bind λds ρ S=>.ok (d::ds) ρ S false
section
variable{Γ:Gm}{W:WX}{w w0 w1 w2:Wd}{σ:L2.St}{ρ S:List Sl}{Q:VK}
theorem RvL.up(x:Ext w w1):∀{rs:List Rv} {vs:List V},RvL Γ w0 w σ rs vs->RvL Γ w0 w1 σ rs vs
 |[],_,h=>h
 |_::_,_,⟨v,vs',e,h,l⟩=>⟨v,vs',e,h.up x,l.up x⟩
theorem RvL.base(x:Ext w0 w1):∀{rs:List Rv} {vs:List V},RvL Γ w1 w σ rs vs->RvL Γ w0 w σ rs vs
 |[],_,h=>h
 |_::_,_,⟨v,vs',e,h,l⟩=>⟨v,vs',e,h.base x,l.base x⟩
theorem CKr.ext{t:Bool}{Q:List V->Hp->Prop}{r:Res (List Rv)}(x:Ext w w1)(e:t=false->w1.E=w.E)(h:CKr Γ W w σ Q (r.addt t)):CKr Γ W w1 σ Q r:=by
 cases r with
 |ok a ρ S t'=>
  refine λw2 v x2 e2 R2 o2=>h w2 v (x.trans x2) (λz=>?_) R2 (o2.base x);obtain⟨z1,z2⟩:=Bool.or_eq_false_iff.mp z;rw[e2 z2,e z1]
 |ex y ρ S=>exact λw2 cls d x2 R2 o2=>h w2 cls d (x.trans x2) R2 o2
 |bad=>exact h
/-- the datum of an expression,then more -/
theorem CKl.datum{c:M Rv}{f:D->List Sl->List Sl->Res (List D)}{Q:List V->Hp->Prop}{Q1:VK}(h:CKl Γ W w σ Q ((cD c ρ S).bind f))
  (k:∀d ρ' S' w' v,Ext w w'->Rel Γ w' ρ' S' σ->Rep Γ w'.R w'.F d v->CKl Γ W w' σ Q (f d ρ' S')->Q1 v w'.H):CK Γ W w σ Q1 (c ρ S):=by
 refine CKd.of (Qd:=λ_ _ _=>True) ?_ λd ρ' S' t w' v x e r o q=>?_
 ·cases q:cD c ρ S with
  |ok a ρ1 S1 t=>exact λ_ _ _ _ _ _=>True.intro
  |ex y ρ1 S1=>rw[q] at h;exact h
  |bad=>rw[q] at h;exact h
 ·rw[q,Res.bind_ok] at h;exact k d ρ' S' w' v x r o (CKl.ext x e h)
theorem CK.datum{c:M Rv}{f:D->List Sl->List Sl->Res Rv}{Q1:VK}(h:CK Γ W w σ Q ((cD c ρ S).bind f))
  (k:∀d ρ' S' w' v,Ext w w'->Rel Γ w' ρ' S' σ->Rep Γ w'.R w'.F d v->CK Γ W w' σ Q (f d ρ' S')->Q1 v w'.H):CK Γ W w σ Q1 (c ρ S):=by
 refine CKd.of (Qd:=λ_ _ _=>True) ?_ λd ρ' S' t w' v x e r o q=>?_
 ·cases q:cD c ρ S with
  |ok a ρ1 S1 t=>exact λ_ _ _ _ _ _=>True.intro
  |ex y ρ1 S1=>rw[q] at h;exact h
  |bad=>rw[q] at h;exact h
 ·rw[q,Res.bind_ok] at h;exact k d ρ' S' w' v x r o (CK.ext x e h)
theorem CKl.bind{r:Res (List D)}{f:List D->List Sl->List Sl->Res (List D)}{Q Q1:List V->Hp->Prop}(h:CKl Γ W w σ Q (r.bind f))
  (k:∀a ρ S w' v,Ext w w'->Rel Γ w' ρ S σ->RepL Γ w'.R w'.F a v->CKl Γ W w' σ Q (f a ρ S)->Q1 v w'.H):CKl Γ W w σ Q1 r:=by
 cases r with
 |ok a ρ S t=>exact λw2 v x2 e2 R2 o2=>k a ρ S w2 v x2 R2 o2 (CKl.ext x2 e2 h)
 |ex y ρ S=>exact h
 |bad=>exact h
theorem CKl.bindV{r:Res (List D)}{f:List D->List Sl->List Sl->Res Rv}{Q1:List V->Hp->Prop}(h:CK Γ W w σ Q (r.bind f))
  (k:∀a ρ S w' v,Ext w w'->Rel Γ w' ρ S σ->RepL Γ w'.R w'.F a v->CK Γ W w' σ Q (f a ρ S)->Q1 v w'.H):CKl Γ W w σ Q1 r:=by
 cases r with
 |ok a ρ S t=>exact λw2 v x2 e2 R2 o2=>k a ρ S w2 v x2 R2 o2 (CK.ext x2 e2 h)
 |ex y ρ S=>exact h
 |bad=>exact h
theorem CKr.bindV{r:Res (List Rv)}{f:List Rv->List Sl->List Sl->Res Rv}{Q1:List V->Hp->Prop}(h:CK Γ W w σ Q (r.bind f))
  (k:∀a ρ S w' v,Ext w w'->Rel Γ w' ρ S σ->RvL Γ w w' σ a v->CK Γ W w' σ Q (f a ρ S)->Q1 v w'.H):CKr Γ W w σ Q1 r:=by
 cases r with
 |ok a ρ S t=>exact λw2 v x2 e2 R2 o2=>k a ρ S w2 v x2 R2 o2 (CK.ext x2 e2 h)
 |ex y ρ S=>exact h
 |bad=>exact h
theorem CKr.bind{r:Res (List Rv)}{f:List Rv->List Sl->List Sl->Res (List Rv)}{Q Q1:List V->Hp->Prop}(h:CKr Γ W w σ Q (r.bind f))
  (k:∀a ρ S w' v,Ext w w'->Rel Γ w' ρ S σ->RvL Γ w w' σ a v->CKr Γ W w' σ Q (f a ρ S)->Q1 v w'.H):CKr Γ W w σ Q1 r:=by
 cases r with
 |ok a ρ S t=>exact λw2 v x2 e2 R2 o2=>k a ρ S w2 v x2 R2 o2 (CKr.ext x2 e2 h)
 |ex y ρ S=>exact h
 |bad=>exact h
end
section
variable{X:Cx}{Γ:Gm}{W:WX}{e a b:Expr}{es:List Expr}{c ca cb:M Rv}{cs:M (List D)}{cr:M (List Rv)}{pos:Pos}
theorem cJ:PA X [] (tMl Γ W cG):=pa_nil.imp λσ H Q ⟨F,E,C,R,ρ,S,rel,ck⟩=>ck ⟨F,E,C,R,H⟩ [] (.refl _) (λ_=>rfl) rel (by rw[RepL])
theorem cH(ha:PE X e (tM Γ W c))(hr:PA X es (tMl Γ W cs))(hs:starEach (e::es) X.env=(false,eval e X.env)::starEach es X.env):PA X (e::es) (tMl Γ W (bZ c cs)):=
 (pa_cons ha hr hs).imp λσ H Q ⟨F,E,C,R,ρ,S,rel,ck⟩=>⟨F,E,C,R,ρ,S,rel,CKl.datum ck λd ρ1 S1 w1 v1 x1 rel1 o1 ck1=>
  ⟨w1.F,w1.E,w1.C,w1.R,ρ1,S1,rel1,CKl.bind ck1 λds ρ2 S2 w2 vs x2 rel2 o2 ck2=>ck2 w2 _ (.refl _) (λ_=>rfl) rel2 (by rw[RepL];exact⟨v1,vs,rfl,Rep.up x2.gr _ _ o1,o2⟩)⟩⟩
theorem dI:PA X [] (tMr Γ W cU):=pa_nil.imp λσ H Q ⟨F,E,C,R,ρ,S,rel,ck⟩=>ck ⟨F,E,C,R,H⟩ [] (.refl _) (λ_=>rfl) rel rfl
theorem CK.bindR{r:Res Rv}{f:Rv->List Sl->List Sl->Res (List Rv)}{w:Wd}{σ:L2.St}{Q:List V->Hp->Prop}{Q1:VK}(h:CKr Γ W w σ Q (r.bind f))
  (k:∀a ρ S t w' v,Ext w w'->(t=false->w'.E=w.E)->Rel Γ w' ρ S σ->RvOk Γ w w' σ a v->CKr Γ W w σ Q ((f a ρ S).addt t)->Q1 v w'.H):CK Γ W w σ Q1 r:=by
 cases r with
 |ok a ρ S t=>exact λw2 v x2 e2 R2 o2=>k a ρ S t w2 v x2 e2 R2 o2 h
 |ex y ρ S=>exact h
 |bad=>exact h
theorem dJ(ha:PE X e (tM Γ W c))(hr:PA X es (tMr Γ W cr))(hs:starEach (e::es) X.env=(false,eval e X.env)::starEach es X.env):PA X (e::es) (tMr Γ W (cV c cr)):=
 (pa_cons ha hr hs).imp λσ H Q ⟨F,E,C,R,ρ,S,rel,ck⟩=>⟨F,E,C,R,ρ,S,rel,CK.bindR ck λd ρ1 S1 t w1 v1 x1 e1 rel1 o1 ck1=>
  ⟨w1.F,w1.E,w1.C,w1.R,ρ1,S1,rel1,by
   cases q:cr ρ1 S1 with
   |ok ds ρ2 S2 t2=>
    rw[q] at ck1;intro w2 vs x2 e2 rel2 o2;refine ck1 w2 (v1::vs) (x1.trans x2) (λz=>?_) rel2 ⟨v1,vs,rfl,o1.up x2,o2.base x1⟩;simp only[Bool.or_false,Bool.or_eq_false_iff] at z;rw[e2 z.2,e1 z.1]
   |ex y ρ2 S2=>
    rw[q] at ck1;exact λw2 cls d x2 rel2 o2=>ck1 w2 cls d (x1.trans x2) rel2 o2
   |bad=>rw[q] at ck1;exact ck1⟩⟩
def cTup(cs:M (List D)):M Rv:=λρ S=>(cs ρ S).bind λds ρ S=>if ds.length≤sizeLine then .ok (.d (.tup ds)) ρ S false else .bad
def cLst(cs:M (List D)):M Rv:=λρ S=>(cs ρ S).bind λds ρ S=>if ds.length≤sizeLine then .ok (.fr (.lst ds)) ρ S false else .bad
theorem dO{k:Nat}(h:PA X es (tMl Γ W cs)):PE X (.Tuple es k pos) (tM Γ W (cTup cs)):=
 (pe_tup h).imp λσ H Q ⟨F,E,C,R,ρ,S,rel,ck⟩=>⟨F,E,C,R,ρ,S,rel,CKl.bindV ck λds ρ1 S1 w1 vs x1 rel1 o1 ck1=>by
  by_cases hl:ds.length≤sizeLine
  ·rw[if_pos hl] at ck1;refine⟨by rw[<-o1.length];exact hl,λp hp=>?_⟩;have ck2:CK Γ W w1 σ Q (lift (some (.d (.tup ds))) ρ1 S1):=ck1;exact(ck2.prim rel1).new rel1.good hp (by
    rw[Rep];exact⟨p,vs,rfl,upd_same,o1.up ⟨⟨[],by simp⟩,pW (rel1.good.none_of hp).1⟩⟩)
  ·rw[if_neg hl] at ck1;exact ck1.elim⟩
theorem dW(h:PA X es (tMl Γ W cs)):PE X (.List es pos) (tM Γ W (cLst cs)):=
 (pe_lst h).imp λσ H Q ⟨F,E,C,R,ρ,S,rel,ck⟩=>⟨F,E,C,R,ρ,S,rel,CKl.bindV ck λds ρ1 S1 w1 vs x1 rel1 o1 ck1=>by
  by_cases hl:ds.length≤sizeLine
  ·rw[if_pos hl] at ck1;refine⟨by rw[<-o1.length];exact hl,λp hp=>?_⟩;have ck2:CK Γ W w1 σ Q (lift (some (.fr (.lst ds))) ρ1 S1):=ck1;exact(ck2.prim rel1).fr rel1.good hp (λps z=>nomatch z) (by
    rw[Own];exact⟨p,vs,rfl,o1,rfl⟩)
  ·rw[if_neg hl] at ck1;exact ck1.elim⟩
def TopL(Γ:Gm)(w:Wd):List D->List V->Prop
 |[],vs=>vs=[]
 |d::ds,vs=>∃v vs',vs=v::vs'∧Top Γ w d v∧TopL Γ w ds vs'
def fB(ρ S:List Sl):List Rv->Option (List D)
 |[]=>some []
 |r::rs=>match cont ρ S r,fB ρ S rs with
  |some d,some ds=>some (d::ds)
  |_,_=>none
theorem Rel.tops{w w0:Wd}{σ:L2.St}{ρ S:List Sl}(h:Rel Γ w ρ S σ):∀{rs:List Rv} {vs:List V} {ds:List D},RvL Γ w0 w σ rs vs->fB ρ S rs=some ds->TopL Γ w ds vs
 |[],vs,ds,l,e=>by
  rw[fB] at e;cases e;exact l
 |r::rs,vs,ds,⟨v,vs',e1,o,l⟩,e=>by
  rw[fB] at e;split at e
  ·rename_i d ds' e2 e3;cases e;exact⟨v,vs',e1,h.top o e2,h.tops l e3⟩
  ·cases e
def dZ(Γ:Gm)(g:List D->Option Rv)(r:List V->Hp->VK->Prop):Prop:=
 ∀(w:Wd) (vs:List V) (ds:List D) (Q:VK),Good w->TopL Γ w ds vs->PQ Γ w Q (g ds)->r vs w.H Q
theorem dZ.or{g g':List D->Option Rv}{r r':List V->Hp->VK->Prop}(h:dZ Γ g r)(h':dZ Γ g' r'):dZ Γ (λds=>(g ds).or (g' ds)) (λvs H Q=>r vs H Q∨r' vs H Q):=by
 intro w vs ds Q gd t q;have q:PQ Γ w Q ((g ds).or (g' ds)):=q;cases e:g ds with
 |none=>
  rw[e] at q;exact .inr (h' w vs ds Q gd t q)
 |some z=>
  rw[e] at q;exact .inl (h w vs ds Q gd t (by rw[e];exact q))
def cBlt(g:List D->Option Rv)(cs:M (List Rv)):M Rv:=λρ S=>(cs ρ S).bind λrs ρ S=>match fB ρ S rs with
 |some ds=>lift (g ds) ρ S
 |none=>.bad
theorem Nt{g:List D->Option Rv}{r:List V->Hp->VK->Prop}(hg:dZ Γ g r){σ:L2.St}{H:Hp}{Q:VK}(h:tM Γ W (cBlt g cr) σ H Q):tCB r (tMr Γ W cr) σ H Q:=by
 obtain⟨F,E,C,R,ρ,S,rel,ck⟩:=h;refine⟨F,E,C,R,ρ,S,rel,CKr.bindV ck λrs ρ1 S1 w1 vs x1 rel1 o1 ck1=>?_⟩;cases e:fB ρ1 S1 rs with
 |none=>simp only[e] at ck1;exact ck1.elim
 |some ds=>
  simp only[e] at ck1;exact hg w1 vs ds Q rel1.good (rel1.tops o1 e) (ck1.prim rel1)
theorem fY{x:Str}{id:String}{g:List D->Option Rv}{r:List V->Hp->VK->Prop}{p:Pos}(hc:CallR X (.builtin id) r)(ok:dZ Γ g r)(hg:Gl X x)(hm:X.mg x=none)(hv:bootBuiltins x=some (.builtin id))(ha:PA X (e::es) (tMr Γ W cr))
  (he:starEach (e::es) X.env=(false,eval e X.env)::starEach es X.env) (hpl:(backTo pos (starEach es X.env)).any (·.1)=false) (hn:x≠"__name__") (hdb:(x == ("__debug__" : Str))=false):PE X (.Call (.Name x p) (e::es) [] pos) (tM Γ W (cBlt g cr)):=
 (pe_callB hc hg hm hv ha hn hdb he hpl).imp λ_ _ _ h=>Nt ok h
theorem fZ{x:Str}{T:String}{g:List D->Option Rv}{r:List V->Hp->VK->Prop}{p:Pos}(hc:CallR X (.type T) r)(ok:dZ Γ g r)(hg:Gl X x)(hm:X.mg x=none)(hv:bootBuiltins x=some (.type T))(ha:PA X (e::es) (tMr Γ W cr))
  (he:starEach (e::es) X.env=(false,eval e X.env)::starEach es X.env) (hpl:(backTo pos (starEach es X.env)).any (·.1)=false) (hn:x≠"__name__") (hdb:(x == ("__debug__" : Str))=false):PE X (.Call (.Name x p) (e::es) [] pos) (tM Γ W (cBlt g cr)):=
 (pe_callTy hc hg hm hv ha hn hdb he hpl).imp λ_ _ _ h=>Nt ok h
end
def oIx:D->D->Option Rv
 |.str z,.int i=>if z.length≤sizeLine then(atI z.cps.toList i).map λc=>.d (.str ⟨#[c]⟩) else none
 |y,.int i=>y.items.bind λxs=>(atI xs i).map .d
 |_,_=>none
def oIxD(y x:D):Option Rv:=(dGet y x).bind λo=>o.map .d
section
variable{Γ:Gm}{X:Cx}
theorem RepL.get{R:List Addr}{F:Hp}:∀{xs:List D} {ys:List V} {i:Nat} {d:D},RepL Γ R F xs ys->xs[i]? = some d->∃v,ys[i]? = some v∧Rep Γ R F d v
 |[],_,_,_,_,e=>by simp at e
 |x::xs,ys,0,d,h,e=>by
  rw[RepL] at h;obtain⟨y,r,e1,q,l⟩:=h;simp at e;subst e e1;exact⟨y,rfl,q⟩
 |x::xs,ys,i+1,d,h,e=>by
  rw[RepL] at h;obtain⟨y,r,e1,q,l⟩:=h;subst e1;obtain⟨v,h1,h2⟩:=RepL.get (i:=i) l (by simpa using e);exact⟨v,by simpa using h1,h2⟩
theorem RepL.atI{R:List Addr}{F:Hp}{xs:List D}{ys:List V}{i:Int}{d:D}(h:RepL Γ R F xs ys)(e:L2.atI xs i=some d):∃v,L2.atI ys i=some v∧Rep Γ R F d v:=by
 unfold L2.atI at e ⊢;obtain⟨j,e1,e2⟩:=Option.bind_eq_some_iff.mp e;obtain⟨v,h1,h2⟩:=h.get e2;exact⟨v,by rw[<-h.length,e1];exact h1,h2⟩
theorem bIx:cR Γ oIx (rIx Γ.K):=by iterate
 intro w v1 v2 d1 d2 Q gd t1 t2 q;have seq:∀i xs,d2=.int i->d1.items=some xs->PQ Γ w Q ((L2.atI xs i).map .d)->rIx Γ.K v1 v2 w.H Q:=λi xs e2 e1 qq=>by
  subst e2;cases ea:L2.atI xs i with
  |none=>rw[ea] at qq;exact qq.elim
  |some d=>
   rw[ea] at qq;obtain⟨a,ys,ev,hs,l⟩:=wg gd e1 t1;obtain⟨v,h1,h2⟩:=l.atI ea;rcases hs with hs|hs
   ·exact .inl ⟨a,ys,i,v,ev,dX t2,hs,h1,qq.d gd h2⟩
   ·exact .inr (.inl ⟨a,ys,i,v,ev,dX t2,hs,h1,qq.d gd h2⟩)
 cases d2 with
 |int i=>
  cases d1 with
  |str z=>
   simp only[oIx] at q;split at q
   ·rename_i hz;cases ea:L2.atI z.cps.toList i with
    |none=>rw[ea] at q;exact q.elim
    |some c=>
     rw[ea] at q;exact .inr (.inr ⟨z,i,c,fH t1,dX t2,hz,ea,q.d gd jg⟩)
   ·exact q.elim
  |lst xs=>exact seq i xs rfl rfl q
  |tup xs=>exact seq i xs rfl rfl q
  |kl xs=>exact seq i xs rfl rfl q
  |kt xs=>exact seq i xs rfl rfl q
  |_=>exact q.elim
 |_=>cases d1<;>exact q.elim
def rIxD:R2:=λx y H Q=>∃a v,x=.ref a∧DGet H a y (some v)∧Q v H
theorem zuR(hu:X.A.units+1<cLine):IxR X rIxD:=by
 intro value slice pins s σ H x y v u Q I rx ry h hs;obtain⟨a,z,e,g,q⟩:=h;subst e;cases rx;exact tail_any (dict_typeIs I g) PySem.F.slot_dict_getitem.lookup (d_getItem hu I g ry λw' s' I' r'=>⟨z,H,I',r',q⟩) hs
theorem bIxD:cR Γ oIxD rIxD:=by
 intro w v1 v2 d1 d2 Q gd t1 t2 q;unfold oIxD at q;cases e:dGet d1 d2 with
 |none=>rw[e] at q;exact q.elim
 |some o=>
  rw[e] at q;obtain⟨a,o',ev,g,ro⟩:=wu gd e t1 t2;cases o with
  |none=>exact q.elim
  |some d=>
   cases o' with
   |none=>exact ro.elim
   |some v=>exact⟨a,v,ev,g,q.d gd ro⟩
end
def qd:D->Option (Option Int)
 |.int i=>some (some i)
 |_=>none
/-- an optional bound -/
def cNoP:M (Option Int):=λρ S=>.ok none ρ S false
def jB(c:M Rv):M (Option Int):=λρ S=>(c ρ S).bind λr ρ S=>match (cont ρ S r).bind qd with
 |some o=>.ok o ρ S false
 |none=>.bad
section
variable(Γ:Gm)(W:WX)
def CKo(w:Wd)(σ:L2.St)(Q:Option Int->Hp->Prop):Res (Option Int)->Prop
 |.ok b ρ' S' t=>∀w',Ext w w'->(t=false->w'.E=w.E)->Rel Γ w' ρ' S' σ->Q b w'.H
 |.ex x ρ' S'=>∀w' cls d,Ext w w'->Rel Γ w' ρ' S' σ->XOk Γ w' x cls d->W cls d σ w'.H
 |.bad=>False
def tMo(c:M (Option Int)):TO:=λσ H Q=>∃F E C R ρ S,Rel Γ ⟨F,E,C,R,H⟩ ρ S σ∧CKo Γ W ⟨F,E,C,R,H⟩ σ Q (c ρ S)
end
def cutD(xs:List D)(lo hi:Option Int):List D:=(xs.drop (HT.sIx xs.length 0 lo)).take (HT.sIx xs.length xs.length hi - HT.sIx xs.length 0 lo)
def oSl:D->Option Int->Option Int->Option Rv
 |.lst xs,lo,hi=>some (.fr (.lst (cutD xs lo hi)))
 |.kl xs,lo,hi=>some (.fr (.lst (cutD xs lo hi)))
 |_,_,_=>none
def cSl(g:D->Option Int->Option Int->Option Rv)(ce:M Rv)(cl ch:M (Option Int)):M Rv:=λρ S=>(ce ρ S).bind λre ρ S=>(cl ρ S).bind λlo ρ S=>(ch ρ S).bind λhi ρ S=>
 match cont ρ S re with
 |some d=>lift (g d lo hi) ρ S
 |none=>.bad
section
variable{X:Cx}{Γ:Gm}{W:WX}{e a b:Expr}{c ca:M Rv}{pos p2:Pos}{w w1:Wd}{σ:L2.St}
theorem CKo.ext{t:Bool}{Q:Option Int->Hp->Prop}{r:Res (Option Int)}(x:Ext w w1)(e:t=false->w1.E=w.E)(h:CKo Γ W w σ Q (r.addt t)):CKo Γ W w1 σ Q r:=by
 cases r with
 |ok a ρ S t'=>
  refine λw2 x2 e2 R2=>h w2 (x.trans x2) (λz=>?_) R2;obtain⟨z1,z2⟩:=Bool.or_eq_false_iff.mp z;rw[e2 z2,e z1]
 |ex y ρ S=>exact λw2 cls d x2 R2 o2=>h w2 cls d (x.trans x2) R2 o2
 |bad=>exact h
theorem CKo.bindV{r:Res (Option Int)}{f:Option Int->List Sl->List Sl->Res Rv}{Q:VK}{Q1:Option Int->Hp->Prop}(h:CK Γ W w σ Q (r.bind f))
  (k:∀a ρ S w',Ext w w'->Rel Γ w' ρ S σ->CK Γ W w' σ Q (f a ρ S)->Q1 a w'.H):CKo Γ W w σ Q1 r:=by
 cases r with
 |ok a ρ S t=>exact λw2 x2 e2 R2=>k a ρ S w2 x2 R2 (CK.ext x2 e2 h)
 |ex y ρ S=>exact h
 |bad=>exact h
theorem CK.bindO{r:Res Rv}{f:Rv->List Sl->List Sl->Res (Option Int)}{Q:Option Int->Hp->Prop}{Q1:VK}(h:CKo Γ W w σ Q (r.bind f))
  (k:∀a ρ S w' v,Ext w w'->Rel Γ w' ρ S σ->RvOk Γ w w' σ a v->CKo Γ W w' σ Q (f a ρ S)->Q1 v w'.H):CK Γ W w σ Q1 r:=by
 cases r with
 |ok a ρ S t=>exact λw2 v x2 e2 R2 o2=>k a ρ S w2 v x2 R2 o2 (CKo.ext x2 e2 h)
 |ex y ρ S=>exact h
 |bad=>exact h
theorem _root_.L2.PO.imp{X:Cx}{e:Option Expr}{t t':TO}(h:PO X e t)(k:∀σ H Q,t' σ H Q->t σ H Q):PO X e t':=⟨λpins s σ H Q I hw=>h.run pins s σ H Q I (k σ H Q hw)⟩
theorem wy:PO X none (tMo Γ W cNoP):=po_none.imp λσ H Q ⟨F,E,C,R,ρ,S,rel,ck⟩=>ck ⟨F,E,C,R,H⟩ (.refl _) (λ_=>rfl) rel
theorem wz(h:PE X e (tM Γ W c)):PO X (some e) (tMo Γ W (jB c)):=
 (po_some h).imp λσ H Q ⟨F,E,C,R,ρ,S,rel,ck⟩=>⟨F,E,C,R,ρ,S,rel,CK.bindO ck λra ρ1 S1 w1 v1 x1 rel1 o1 ck1=>by
  cases e2:(cont ρ1 S1 ra).bind qd with
  |none=>simp only[e2] at ck1;exact ck1.elim
  |some k=>
   obtain⟨d,e3,e4⟩:=Option.bind_eq_some_iff.mp e2;simp only[e2] at ck1;cases d with
   |int i=>
    cases e4;exact⟨i,dX (rel1.top o1 e3),ck1 w1 (.refl _) (λ_=>rfl) rel1⟩
   |_=>cases e4⟩
def SlOk(Γ:Gm)(g:D->Option Int->Option Int->Option Rv)(r:V->Option Int->Option Int->Hp->VK->Prop):Prop:=
 ∀(w:Wd) (v:V) (d:D) (lo hi:Option Int) (Q:VK),Good w->Top Γ w d v->PQ Γ w Q (g d lo hi)->r v lo hi w.H Q
theorem SlOk.or{g g':D->Option Int->Option Int->Option Rv}{r r':V->Option Int->Option Int->Hp->VK->Prop}(h:SlOk Γ g r)(h':SlOk Γ g' r'):SlOk Γ (λd l u=>(g d l u).or (g' d l u)) (λv l u H Q=>r v l u H Q∨r' v l u H Q):=by
 intro w v d lo hi Q gd t q;have q:PQ Γ w Q ((g d lo hi).or (g' d lo hi)):=q;cases e:g d lo hi with
 |none=>
  rw[e] at q;exact .inr (h' w v d lo hi Q gd t q)
 |some z=>
  rw[e] at q;exact .inl (h w v d lo hi Q gd t (by rw[e];exact q))
theorem wD{lo hi:Option Expr}{cl ch:M (Option Int)}{g:D->Option Int->Option Int->Option Rv}{r:V->Option Int->Option Int->Hp->VK->Prop}(hr:SlR X r)(hg:SlOk Γ g r)(he:PE X e (tM Γ W c))(hl:PO X lo (tMo Γ W cl))(hh:PO X hi (tMo Γ W ch)) :
  PE X (.Subscript e (.Slice lo hi none p2) pos) (tM Γ W (cSl g c cl ch)):=
 (pe_slice hr he hl hh).imp λσ H Q ⟨F,E,C,R,ρ,S,rel,ck⟩=>⟨F,E,C,R,ρ,S,rel,CK.bind ck λre ρ1 S1 w1 v1 x1 rel1 o1 ck1=>
  ⟨w1.F,w1.E,w1.C,w1.R,ρ1,S1,rel1,CKo.bindV ck1 λl ρ2 S2 w2 x2 rel2 ck2=>⟨w2.F,w2.E,w2.C,w2.R,ρ2,S2,rel2,CKo.bindV ck2 λu ρ3 S3 w3 x3 rel3 ck3=>by
   cases e2:cont ρ3 S3 re with
   |none=>simp only[e2] at ck3;exact ck3.elim
   |some d=>
    simp only[e2] at ck3;exact hg w3 v1 d l u Q rel3.good (rel3.top ((o1.up x2).up x3) e2) (ck3.prim rel3)⟩⟩⟩
theorem RepL.drop{R:List Addr}{F:Hp}:∀{xs:List D} {ys:List V} (n:Nat),RepL Γ R F xs ys->RepL Γ R F (xs.drop n) (ys.drop n)
 |_,_,0,h=>h
 |[],ys,n+1,h=>by rw[RepL] at h;subst h;simp[RepL]
 |x::xs,ys,n+1,h=>by
  rw[RepL] at h;obtain⟨y,r,e1,q,l⟩:=h;subst e1;exact RepL.drop n l
theorem RepL.take{R:List Addr}{F:Hp}:∀{xs:List D} {ys:List V} (n:Nat),RepL Γ R F xs ys->RepL Γ R F (xs.take n) (ys.take n)
 |xs,ys,0,h=>by rw[List.take_zero,List.take_zero,RepL]
 |[],ys,n+1,h=>by rw[RepL] at h;subst h;simp[RepL]
 |x::xs,ys,n+1,h=>by
  rw[RepL] at h;obtain⟨y,r,e1,q,l⟩:=h;subst e1;rw[List.take_succ_cons,List.take_succ_cons,RepL];exact⟨y,_,rfl,q,RepL.take n l⟩
theorem RepL.cut{R:List Addr}{F:Hp}{xs:List D}{ys:List V}(lo hi:Option Int)(h:RepL Γ R F xs ys):RepL Γ R F (cutD xs lo hi) (cutV ys lo hi):=by
 unfold cutD cutV;rw[h.length];exact(h.drop _).take _
theorem bSlL:SlOk Γ oSl (rSlL Γ.K):=by iterate
 intro w v d lo hi Q gd t q;have fin:∀a xs ys,v=.ref a->SqL Γ.K w.H a ys->RepL Γ w.R w.F xs ys->PQ Γ w Q (some (.fr (.lst (cutD xs lo hi))))->rSlL Γ.K v lo hi w.H Q:=λa xs ys ev h l q=>
  ⟨a,ys,ev,h,λp hp=>q.fr gd hp (λps z=>nomatch z) (by rw[Own];exact⟨p,_,rfl,l.cut lo hi,rfl⟩)⟩
 cases d with
 |lst xs=>obtain⟨a,ys,e,h,l⟩:=t;exact fin a xs ys e (SqL.of h) l q
 |kl xs=>obtain⟨a,ys,e,h,l⟩:=jf t;exact fin a xs ys e (SqL.up gd.sub h) l q
 |_=>exact q.elim
end
def tyD(T:String):D->Bool
 |.str _=>T == "str"
 |.lst _=>T == "list"
 |.kl _=>T == "list"
 |.dK _=>T == "dict"
 |.dT _=>T == "dict"
 |_=>false
def cMt(T:String)(g:D->List D->Option Rv)(co:M Rv)(cs:M (List Rv)):M Rv:=λρ S=>(co ρ S).bind λro ρ S=>match cont ρ S ro with
 |some d0=>if tyD T d0=true then(cs ρ S).bind λrs ρ S=>(match cont ρ S ro,fB ρ S rs with
  |some d,some ds=>lift (g d ds) ρ S
  |_,_=>.bad) else .bad
 |none=>.bad
def MtOk(Γ:Gm)(g:D->List D->Option Rv)(r:V->List V->Hp->VK->Prop):Prop:=
 ∀(w:Wd) (v:V) (d:D) (vs:List V) (ds:List D) (Q:VK),Good w->Top Γ w d v->TopL Γ w ds vs->PQ Γ w Q (g d ds)->r v vs w.H Q
section
variable{X:Cx}{Γ:Gm}{W:WX}{o e:Expr}{es:List Expr}{co:M Rv}{cr:M (List Rv)}{w w1:Wd}{σ:L2.St}{name:Str}{apos cpos:Pos}{T id:String}{g:D->List D->Option Rv}{r:V->List V->Hp->VK->Prop}
theorem zxx{K:yF}(hK:Γ.K=K)(gd:Good w){d:D}{v:V}(e:tyD T d=true)(h:Top Γ w d v):tyV K T v w.H:=by iterate
 subst hK;cases d with
 |str x=>rw[fH h];exact beq_iff_eq.mp e
 |lst xs=>obtain⟨a,ys,ev,q,l⟩:=h;subst ev;exact .inl ⟨beq_iff_eq.mp e,ys,SqL.of q⟩
 |kl xs=>obtain⟨a,ys,ev,q,l⟩:=jf h;subst ev;exact .inl ⟨beq_iff_eq.mp e,ys,SqL.up gd.sub q⟩
 |dK xs=>obtain⟨a,ys,ev,q,l⟩:=h;subst ev;exact .inr (.inr (.inl ⟨beq_iff_eq.mp e,.inl ⟨ys,q⟩⟩))
 |dT xs=>obtain⟨a,ys,ev,q,l⟩:=h;subst ev;exact .inr (.inr (.inl ⟨beq_iff_eq.mp e,.inr ⟨ys,q⟩⟩))
 |_=>cases e
theorem Nu(hK:Γ.K=X.K)(pa:PlainAttrs T)(slot:Slot T name id)(hty:typeOf (.builtin id)=pure (.type "method_descriptor")) (hm:MtR X id r) (hg:MtOk Γ g r) (ho:PE X o (tM Γ W co)) (ha:PA X (e::es) (tMr Γ W cr))
  (hbase:attributeBase o name X.env (eval o X.env)=eval o X.env)
  (hfew:((backTo cpos (starEach (e::es) X.env)).all (λx=>!x.1) && (backToKw cpos (keywordEach [] X.env)).all (λx=>x.1.isSome)
   && decide ((e::es).length+([]:List Keyword).length+(if([]:List Keyword).isEmpty then 0 else 1)<30))=true)
  (hline:(apos.endLine == cpos.line)=true) (hs:starEach (e::es) X.env=(false,eval e X.env)::starEach es X.env) (hplain:(backTo cpos (starEach es X.env)).any (·.1)=false) :
  PE X (.Call (.Attribute o name apos) (e::es) [] cpos) (tM Γ W (cMt T g co cr)):=
 (pe_bm pa slot hty hm ho ha hbase hfew hline hs hplain).imp λσ H Q ⟨F,E,C,R,ρ,S,rel,ck⟩=>⟨F,E,C,R,ρ,S,rel,CK.bind ck λro ρ1 S1 w1 v1 x1 rel1 o1 ck1=>by iterate
  cases e1:cont ρ1 S1 ro with
  |none=>simp only[e1] at ck1;exact ck1.elim
  |some d0=>
   simp only[e1] at ck1;split at ck1
   ·rename_i ht;refine⟨zxx hK rel1.good ht (rel1.top o1 e1),w1.F,w1.E,w1.C,w1.R,ρ1,S1,rel1,CKr.bindV ck1 λrs ρ2 S2 w2 vs x2 rel2 o2 ck2=>?_⟩;cases e2:cont ρ2 S2 ro with
    |none=>simp only[e2] at ck2;exact ck2.elim
    |some d=>
     cases e3:fB ρ2 S2 rs with
     |none=>simp only[e2,e3] at ck2;exact ck2.elim
     |some ds=>
      simp only[e2,e3] at ck2;exact hg w2 v1 d vs ds Q rel2.good (rel2.top (o1.up x2) e2) (rel2.tops o2 e3) (ck2.prim rel2)
   ·exact ck1.elim⟩
end
end
section
section
variable(Γ:Gm)
/-- what a def's outcome owes -/
def FK(w:Wd)(Q:VK)(E:XK):Res Rv->Prop
 |.ok r _ S' _=>∀w' v,Ext w w'->RelS Γ w' S'->RvOk Γ w w' [] r v->Q v w'.H
 |.ex x _ S'=>∀w' cls d,Ext w w'->RelS Γ w' S'->XOk Γ w' x cls d->E cls d w'.H
 |.bad=>False
/-- the promise of a def of n parameters whose mirror is m -/
def spM(n:Nat)(m:List D->List Sl->Res Rv):Sp:=λvs H Q E=>vs.length=n∧∃F C R S ds,RelS Γ ⟨F,[],C,R,H⟩ S∧RepL Γ R F ds vs∧FK Γ ⟨F,[],C,R,H⟩ Q E (m ds S)
end
/-- a call's outcome,in the caller's frame -/
def Res.at{α:Type}(ρ:List Sl):Res α->Res α
 |.ok r _ S _=>.ok r ρ S false
 |.ex x _ S=>.ex x ρ S
 |.bad=>.bad
section
variable{Γ:Gm}{W:WX}{w:Wd}{σ:L2.St}{ρ S:List Sl}{Q:VK}
theorem Rel.callee(h:Rel Γ w ρ S σ):RelS Γ ⟨w.F,[],w.C,w.R,w.H⟩ S:=by
 have nd:=h.good.nd;have:w.ad=w.E.map (·.1)++w.C.map (·.1):=by show(w.E++w.C).map _=_;simp
 rw[this] at nd;exact⟨⟨h.good.sub,λp hp=>h.good.cell p (List.mem_append_right _ (by simpa using hp)),by simpa using(List.nodup_append.mp nd).2.1⟩,rfl,h.own.2⟩
/-- behind a call: the caller's own cells stand as they stood -/
theorem qj(h:Rel Γ w ρ S σ){w':Wd}{S':List Sl}(x:Ext ⟨w.F,[],w.C,w.R,w.H⟩ w')(h':RelS Γ w' S') :
  Ext w ⟨w'.F,w.E,w'.C,w'.R,w'.H⟩∧Rel Γ ⟨w'.F,w.E,w'.C,w'.R,w'.H⟩ ρ S' σ∧∀r v,RvOk Γ ⟨w.F,[],w.C,w.R,w.H⟩ w' [] r v->RvOk Γ w ⟨w'.F,w.E,w'.C,w'.R,w'.H⟩ σ r v:=by iterate
 have g:=h.good;have nd:=g.nd;have ead:w.ad=w.E.map (·.1)++w.C.map (·.1):=by show(w.E++w.C).map _=_;simp
 have ead':w'.ad=w'.C.map (·.1):=by show(w'.E++w'.C).map _=_;rw[h'.noE];rfl
 rw[ead] at nd;obtain⟨n1,n2,n3⟩:=bB.mp nd;have inC:∀a,a∈Wd.ad ⟨w.F,[],w.C,w.R,w.H⟩↔a∈w.C.map (·.1):=λa=>by show a∈([]++w.C).map _↔_;simp
 have outE:∀p∈w.E,p.1∉w.C.map (·.1):=λp hp z=>n3 _ (bf hp) _ z rfl;have hE:∀p∈w.E,w.H p.1=some p.2∧w.F p.1=none:=λp hp=>g.cell p (List.mem_append_left _ hp);have kE:∀p∈w.E,w'.H p.1=some p.2:=λp hp=>x.keep _ _ (hE p hp).1 (λz=>outE p hp ((inC _).mp z));have fE:∀p∈w.E,w'.F p.1=none:=λp hp=>by
  cases q:w'.F p.1 with
  |none=>rfl
  |some o=>
   rcases x.fnew _ _ q with z|z|z|⟨xs,z⟩
   ·have z:w.F p.1=some o:=z;rw[(hE p hp).2] at z;cases z
   ·have z:w.H p.1=none:=z;rw[(hE p hp).1] at z;cases z
   ·exact absurd ((inC _).mp z) (outE p hp)
   ·have z:w.H p.1=some (.tup xs):=z;rw[(hE p hp).1] at z;exact absurd (aZ z) (OwnE.nt h.own.1 p hp xs)
 have cE:∀p∈w.E,p.1∉w'.C.map (·.1):=λp hp z=>by
  rcases x.cnew p.1 (by rw[ead'];exact z) with y|y
  ·exact outE p hp ((inC _).mp y)
  ·have y:w.H p.1=none:=y;rw[(hE p hp).1] at y;cases y
 have sub:∀a,a∈Wd.ad ⟨w.F,[],w.C,w.R,w.H⟩->a∈w.ad:=λa z=>by rw[ead];exact List.mem_append_right _ ((inC a).mp z)
 have ead2:Wd.ad ⟨w'.F,w.E,w'.C,w'.R,w'.H⟩=w.E.map (·.1)++w'.C.map (·.1):=by show(w.E++w'.C).map _=_;simp
 have g':Good ⟨w'.F,w.E,w'.C,w'.R,w'.H⟩:=by
  refine⟨h'.good.sub,λp hp=>?_,?_⟩
  ·rcases aV.mp hp with z|z
   ·exact⟨kE p z,fE p z⟩
   ·exact h'.good.cell p (List.mem_append_right _ z)
  ·rw[ead2];have n4:=h'.good.nd;rw[ead'] at n4;refine bB.mpr ⟨n1,n4,λa ha b hb e=>?_⟩;obtain⟨p,hp,rfl⟩:=ao.mp ha;exact cE p hp (e ▸ hb)
 refine⟨⟨x.gr,λa o z hn=>x.keep a o z λy=>hn (sub a y),λa z=>?_,λa o z=>?_,x.live⟩,⟨g',h.own.1.up x.gr,h'.own⟩,λr v ok=>?_⟩
 ·rw[ead2] at z;rcases aV.mp z with z|z
  ·exact .inl (by rw[ead];exact List.mem_append_left _ z)
  ·rcases x.cnew a (by rw[ead'];exact z) with y|y
   ·exact .inl (sub a y)
   ·exact .inr y
 ·rcases x.fnew a o z with y|y|y|y
  ·exact .inl y
  ·exact .inr (.inl y)
  ·exact .inr (.inr (.inl (sub a y)))
  ·exact .inr (.inr (.inr y))
 ·cases r with
  |d _=>exact ok
  |env i=>exact absurd (show([]:L2.St)[i]? = some (some v) from ok) (by simp)
  |fr s=>
   obtain⟨c,ow,f,b⟩:=ok;refine⟨c,ow,⟨λp hp=>?_,f.nd⟩,λp hp=>?_⟩
   ·obtain⟨a1,a2,a3⟩:=f.at_ p hp
    refine⟨a1,a2,λz=>?_⟩;rw[ead2] at z;rcases aV.mp z with z|z
    ·obtain⟨q,hq,e⟩:=ao.mp z;rcases b p hp with y|y
     ·have y:w.H p.1=none:=y;rw[<-e,(hE q hq).1] at y;cases y
     ·exact outE q hq (by rw[e];exact(inC _).mp y)
    ·exact a3 (by rw[ead'];exact z)
   ·rcases b p hp with y|y
    ·exact .inl y
    ·exact .inr (sub _ y)
theorem CK.call(h:Rel Γ w ρ S σ){r:Res Rv}(ck:CK Γ W w σ Q (r.at ρ)):FK Γ ⟨w.F,[],w.C,w.R,w.H⟩ Q (WE W σ) r:=by
 cases r with
 |ok r _ S' _=>
  intro w' v x h' ok;obtain⟨x2,r2,k2⟩:=qj h x h';exact ck ⟨w'.F,w.E,w'.C,w'.R,w'.H⟩ v x2 (λ_=>rfl) r2 (k2 _ _ ok)
 |ex y _ S'=>
  intro w' cls d x h' ok;obtain⟨x2,r2,_⟩:=qj h x h';exact ck ⟨w'.F,w.E,w'.C,w'.R,w'.H⟩ cls d x2 r2 (by cases y<;>exact ok)
 |bad=>exact ck
theorem Rel.spM(h:Rel Γ w ρ S σ){n:Nat}{m:List D->List Sl->Res Rv}{ds:List D}{vs:List V}(l:RepL Γ w.R w.F ds vs)(hn:ds.length=n)(ck:CK Γ W w σ Q ((m ds S).at ρ)):DV.spM Γ n m vs w.H Q (WE W σ):=
 ⟨by rw[<-l.length];exact hn,w.F,w.C,w.R,S,ds,h.callee,l,ck.call h⟩
end
/-- n values are written and the keywords ks: gD puts the data in the parameters' order,defaults among them -/
def d9(Γ:Gm)(K:yF)(fd:FuncData)(ps:List Str)(n:Nat)(ks:List Str)(gD:List D->List D->List D):Prop:=
 ∃g gV,KBn K fd ps n ks g gV∧∀R F ds vs es zs,RepL Γ R F ds vs->RepL Γ R F es zs->vs.length=n->zs.length=ks.length->RepL Γ R F (gD ds es) (gV vs zs)∧(gD ds es).length=ps.length
section
variable{X:Cx}{k n:Nat}{f:Addr}{fd:FuncData}{ps ks:List Str}{sp:Sp}{E:L2.St->XK}{x:Str}{p pos:Pos}{e:Expr}{es:List Expr}{kws:List Keyword}{t tk:TA}{g:List Value->List Value->List Value}{gV:List V->List V->List V}{CX:CXT}
def Nv(n m:Nat)(sp:Sp)(gV:List V->List V->List V)(E:L2.St->XK)(t tk:TA):TE:=λσ H Q=>t σ H λvs H1=>tk σ H1 λzs H2=>vs.length=n∧zs.length=m∧sp (gV vs zs) H2 Q (E σ)
theorem Ny{pins:List (Addr×Obj)}{σ:L2.St}{H:Hp}{s:Shared}{Q:VK}{us ws:List Value}{vs zs:List V}(F:FnOk X.prog X.w X.K X.mg X.base CX k f fd ps sp)(hr:Room k X.A)(hb:KBn X.K fd ps n ks g gV)(hx:PassesAt CX X σ (E σ))
  (I:Inv X pins σ H s) (r:Vals vs us) (rz:Vals zs ws) (l1:vs.length=n) (l2:zs.length=ks.length) (h:sp (gV vs zs) H Q (E σ)):wpAny (model X.prog X.w) X.A (call (.ref f) us (ks.zip ws)) (EP X pins σ Q) X.xe s:=by iterate
 have r2:=hb.rel r rz;refine wpAny_call (codeAny_mono (F.run X.A X.stack s H ⟨us,ks.zip ws⟩ (g us ws) (gV vs zs) Q (E σ) hr I.env0 (hb.to s us ws I.kIn (r.length.symm.trans l1) (rz.length.symm.trans l2)) r2 h) λr s' hq=>?_);cases r with
 |error e=>exact hx pins H s e s' I hq
 |ok fl=>
  cases fl with
  |ret u=>exact I.after hq
  |next=>exact False.elim hq
  |brk=>exact False.elim hq
  |cont=>exact False.elim hq
theorem zom(F:FnOk X.prog X.w X.K X.mg X.base CX k f fd ps sp)(hr:Room k X.A)(hg:Gl X x)(hm:X.mg x=some (.ref f))(hk:PySem.W.keepIn X.K (.ref f)=true)(hb:KBn X.K fd ps n ks g gV)(hx:∀σ,PassesAt CX X σ (E σ))
  (ha:PA X (e::es) t) (hkw:PK X kws tk) (hall:(backToKw pos (keywordEach kws X.env)).all (·.1.isSome)=true) (hks:(backToKw pos (keywordEach kws X.env)).filterMap (·.1)=ks)
  (hdb:(x == ("__debug__" : Str))=false) (he:starEach (e::es) X.env=(false,eval e X.env)::starEach es X.env)
  (hpl:((backTo pos (starEach (e::es) X.env)).any (·.1) ||(backToKw pos (keywordEach kws X.env)).any (·.1.isNone))=false) :
  PE X (.Call (.Name x p) (e::es) kws pos) (Nv n ks.length sp gV E t tk):=by
 refine⟨λpins s σ H Q I h=>?_⟩;refine wpAny_Call_Name_kw (ld_glob I hg hm ?_ hdb);refine PySem.W.callWith_KW (h₀:=X.base) I.ok.mod.kin hk hall (thn (ha.run pos pins s σ H _ I h) λus s1 ⟨vs,H1,I1,r,q⟩=>?_) hpl he;refine thn (hkw.run pos pins s1 σ H1 _ I1 q) λws s2 ⟨zs,H2,I2,rz,l1,l2,q2⟩=>⟨I2.kIn,?_⟩;rw[hks];exact Ny F hr hb (hx σ) I2 r rz l1 l2 q2
end
theorem _root_.L2.PK.imp{X:Cx}{e:List Keyword}{t t':TA}(h:PK X e t)(k:∀σ H Q,t' σ H Q->t σ H Q):PK X e t':=⟨λpos pins s σ H Q I hw=>h.run pos pins s σ H Q I (k σ H Q hw)⟩
/-- a call of a def -/
def cY(m:List D->List Sl->Res Rv)(n j:Nat)(gD:List D->List D->List D)(cs ks:M (List D)):M Rv:=λρ S=>(cs ρ S).bind λds ρ S=>(ks ρ S).bind λes ρ S=>
 if ds.length=n∧es.length=j then(m (gD ds es) S).at ρ else .bad
section
variable{X:Cx}{Γ:Gm}{W:WX}{k n np:Nat}{f:Addr}{fd:FuncData}{ps ks:List Str}{x:Str}{p pos kpos:Pos}{e:Expr}{es:List Expr}{kws:List Keyword}{c:M Rv}{cs ck:M (List D)}{m:List D->List Sl->Res Rv}{gD:List D->List D->List D}{nm:Option Str}
theorem dh:PK X [] (tMl Γ W cG):=pk_nil.imp λσ H Q ⟨F,E,C,R,ρ,S,rel,ck⟩=>ck ⟨F,E,C,R,H⟩ [] (.refl _) (λ_=>rfl) rel (by rw[RepL])
theorem fJ(ha:PE X e (tM Γ W c))(hr:PK X kws (tMl Γ W cs)):PK X (⟨nm,e,kpos⟩::kws) (tMl Γ W (bZ c cs)):=
 (pk_cons ha hr).imp λσ H Q ⟨F,E,C,R,ρ,S,rel,ck⟩=>⟨F,E,C,R,ρ,S,rel,CKl.datum ck λd ρ1 S1 w1 v1 x1 rel1 o1 ck1=>
  ⟨w1.F,w1.E,w1.C,w1.R,ρ1,S1,rel1,CKl.bind ck1 λds ρ2 S2 w2 vs x2 rel2 o2 ck2=>ck2 w2 _ (.refl _) (λ_=>rfl) rel2 (by rw[RepL];exact⟨v1,vs,rfl,Rep.up x2.gr _ _ o1,o2⟩)⟩⟩
theorem znN{gV:List V->List V->List V}(hD:∀R F ds vs es zs,RepL Γ R F ds vs->RepL Γ R F es zs->vs.length=n->zs.length=ks.length->RepL Γ R F (gD ds es) (gV vs zs)∧(gD ds es).length=ps.length){σ:L2.St}{H:Hp}{Q:VK}
  (h:tM Γ W (cY m n ks.length gD cs ck) σ H Q):Nv n ks.length (spM Γ ps.length m) gV (WE W) (tMl Γ W cs) (tMl Γ W ck) σ H Q:=by iterate
 obtain⟨F,E,C,R,ρ,S,rel,h⟩:=h;refine⟨F,E,C,R,ρ,S,rel,CKl.bindV h λds ρ1 S1 w1 vs x1 rel1 o1 ck1=>⟨w1.F,w1.E,w1.C,w1.R,ρ1,S1,rel1,CKl.bindV ck1 λes ρ2 S2 w2 zs x2 rel2 o2 ck2=>?_⟩⟩;split at ck2
 ·rename_i hl;have l1:vs.length=n:=by rw[<-o1.length];exact hl.1
  have l2:zs.length=ks.length:=by rw[<-o2.length];exact hl.2
  obtain⟨r,ln⟩:=hD w2.R w2.F ds vs es zs (o1.up x2.gr) o2 l1 l2;exact⟨l1,l2,rel2.spM r ln ck2⟩
 ·exact ck2.elim
theorem zuJ(F:FnOk X.prog X.w X.K X.mg X.base (L2.CX X.prog X.w) k f fd ps (spM Γ ps.length m))(hr:Room k X.A)(hg:Gl X x)(hm:X.mg x=some (.ref f))(hk:PySem.W.keepIn X.K (.ref f)=true)(hb:d9 Γ X.K fd ps n ks gD)(tk:Takes X W)
  (ha:PA X (e::es) (tMl Γ W cs)) (hkw:PK X kws (tMl Γ W ck)) (hall:(backToKw pos (keywordEach kws X.env)).all (·.1.isSome)=true) (hks:(backToKw pos (keywordEach kws X.env)).filterMap (·.1)=ks)
  (hdb:(x == ("__debug__" : Str))=false) (he:starEach (e::es) X.env=(false,eval e X.env)::starEach es X.env)
  (hpl:((backTo pos (starEach (e::es) X.env)).any (·.1) ||(backToKw pos (keywordEach kws X.env)).any (·.1.isNone))=false) :
  PE X (.Call (.Name x p) (e::es) kws pos) (tM Γ W (cY m n ks.length gD cs ck)):=by
 obtain⟨g,gV,hb,hD⟩:=hb;exact(zom F hr hg hm hk hb (λσ=>passAt tk σ) ha hkw hall hks hdb he hpl).imp λ_ _ _ h=>znN hD h
end
end
section
inductive Fl where
  |nx|rt (r:Rv)|bk|ct
section
variable(Γ:Gm)(W:WX)(P:List Nat)
/-- the pinned slots stand as they stood -/
def Pin(σ0 σ:L2.St):Prop:=∀i∈P,σ[i]? = σ0[i]?
/-- what a statement's outcome owes -/
def SK(w:Wd)(σ0:L2.St)(D:Ends):Res Fl->Prop
 |.ok .nx ρ' S' _=>∀w' σ',Ext w w'->Pin P σ0 σ'->Rel Γ w' ρ' S' σ'->D.nx σ' w'.H
 |.ok (.rt r) ρ' S' _=>∀w' σ' v,Ext w w'->Pin P σ0 σ'->Rel Γ w' ρ' S' σ'->RvOk Γ w w' [] r v->D.rt v w'.H
 |.ok .bk ρ' S' _=>∀w' σ',Ext w w'->Pin P σ0 σ'->Rel Γ w' ρ' S' σ'->D.bk σ' w'.H
 |.ok .ct ρ' S' _=>∀w' σ',Ext w w'->Pin P σ0 σ'->Rel Γ w' ρ' S' σ'->D.ct σ' w'.H
 |.ex x ρ' S'=>∀w' σ' cls d,Ext w w'->Pin P σ0 σ'->Rel Γ w' ρ' S' σ'->XOk Γ w' x cls d->W cls d σ' w'.H
 |.bad=>False
def tS(c:M Fl):TS:=λD σ H=>∃F E C R ρ S,Rel Γ ⟨F,E,C,R,H⟩ ρ S σ∧SK Γ W P ⟨F,E,C,R,H⟩ σ D (c ρ S)
end
section
variable{Γ:Gm}{W:WX}{P:List Nat}{w w1 w2:Wd}{σ σ0 σ1:L2.St}{ρ S:List Sl}{D:Ends}
theorem Pin.refl:Pin P σ σ:=λ_ _=>rfl
theorem Pin.trans{σ2:L2.St}(a:Pin P σ0 σ1)(b:Pin P σ1 σ2):Pin P σ0 σ2:=λi h=>(b i h).trans (a i h)
theorem SK.ext{r:Res Fl}(x:Ext w w1)(p:Pin P σ0 σ1)(h:SK Γ W P w σ0 D r):SK Γ W P w1 σ1 D r:=by iterate
 cases r with
 |ok f ρ S t=>
  cases f with
  |nx=>exact λw2 σ2 x2 p2 R2=>h w2 σ2 (x.trans x2) (p.trans p2) R2
  |rt r=>exact λw2 σ2 v x2 p2 R2 o2=>h w2 σ2 v (x.trans x2) (p.trans p2) R2 (o2.base x)
  |bk=>exact λw2 σ2 x2 p2 R2=>h w2 σ2 (x.trans x2) (p.trans p2) R2
  |ct=>exact λw2 σ2 x2 p2 R2=>h w2 σ2 (x.trans x2) (p.trans p2) R2
 |ex y ρ S=>exact λw2 σ2 cls d x2 p2 R2 o2=>h w2 σ2 cls d (x.trans x2) (p.trans p2) R2 o2
 |bad=>exact h
theorem SK.addt{t:Bool}{r:Res Fl}:SK Γ W P w σ D (r.addt t)↔SK Γ W P w σ D r:=by
 cases r with
 |ok f ρ S t'=>cases f<;>exact Iff.rfl
 |ex _ _ _=>exact Iff.rfl
 |bad=>exact Iff.rfl
/-- an expression,then a statement's rest -/
theorem CK.bindS{r:Res Rv}{f:Rv->List Sl->List Sl->Res Fl}{Q1:VK}(h:SK Γ W P w σ D (r.bind f))
  (k:∀a ρ S w' v,Ext w w'->Rel Γ w' ρ S σ->RvOk Γ w w' σ a v->SK Γ W P w σ D (f a ρ S)->Q1 v w'.H):CK Γ W w σ Q1 r:=by
 cases r with
 |ok a ρ S t=>exact λw2 v x2 e2 R2 o2=>k a ρ S w2 v x2 R2 o2 (SK.addt.mp h)
 |ex y ρ S=>exact λw2 cls d x2 R2 o2=>h w2 σ cls d x2 .refl R2 o2
 |bad=>exact h
theorem CK.datumS{c:M Rv}{f:DV.D->List Sl->List Sl->Res Fl}{Q1:VK}(h:SK Γ W P w σ D ((cD c ρ S).bind f))
  (k:∀d ρ' S' w' v,Ext w w'->Rel Γ w' ρ' S' σ->Rep Γ w'.R w'.F d v->SK Γ W P w σ D (f d ρ' S')->Q1 v w'.H):CK Γ W w σ Q1 (c ρ S):=by
 refine CKd.of (Qd:=λ_ _ _=>True) ?_ λd ρ' S' t w' v x e r o q=>?_
 ·cases q:cD c ρ S with
  |ok a ρ1 S1 t=>exact λ_ _ _ _ _ _=>True.intro
  |ex y ρ1 S1=>rw[q] at h;exact λw2 cls d x2 R2 o2=>h w2 σ cls d x2 .refl R2 o2
  |bad=>rw[q] at h;exact h
 ·rw[q,Res.bind_ok] at h;exact k d ρ' S' w' v x r o (SK.addt.mp h)
theorem CKb.bindS{r:Res Bool}{f:Bool->List Sl->List Sl->Res Fl}{Q1:Bool->Hp->Prop}(h:SK Γ W P w σ D (r.bind f))
  (k:∀a ρ S w',Ext w w'->Rel Γ w' ρ S σ->SK Γ W P w σ D (f a ρ S)->Q1 a w'.H):CKb Γ W w σ Q1 r:=by
 cases r with
 |ok a ρ S t=>exact λw2 x2 e2 R2=>k a ρ S w2 x2 R2 (SK.addt.mp h)
 |ex y ρ S=>exact λw2 cls d x2 R2 o2=>h w2 σ cls d x2 .refl R2 o2
 |bad=>exact h
theorem CKl.bindS{r:Res (List DV.D)}{f:List DV.D->List Sl->List Sl->Res Fl}{Q1:List V->Hp->Prop}(h:SK Γ W P w σ D (r.bind f))
  (k:∀a ρ S w' v,Ext w w'->Rel Γ w' ρ S σ->RepL Γ w'.R w'.F a v->SK Γ W P w σ D (f a ρ S)->Q1 v w'.H):CKl Γ W w σ Q1 r:=by
 cases r with
 |ok a ρ S t=>exact λw2 v x2 e2 R2 o2=>k a ρ S w2 v x2 R2 o2 (SK.addt.mp h)
 |ex y ρ S=>exact λw2 cls d x2 R2 o2=>h w2 σ cls d x2 .refl R2 o2
 |bad=>exact h
end
def cNx:M Fl:=λρ S=>.ok .nx ρ S false
def cSeq(a b:M Fl):M Fl:=λρ S=>match a ρ S with
 |.ok .nx ρ S _=>b ρ S
 |r=>r
def zzt(c:M Rv):M Fl:=λρ S=>(c ρ S).bind λ_ ρ S=>.ok .nx ρ S false
def cIfS(t:M Bool)(a b:M Fl):M Fl:=λρ S=>(t ρ S).bind λk ρ S=>if k=true then a ρ S else b ρ S
/-- what is handed back: an own thing leaves its slot -/
def outR(r:Rv):M Rv:=λρ S=>match r with
 |.env i=>match ρ[i]? with
  |some s=>if s.own? then .ok (.fr s) (ρ.set i .emp) S true else .bad
  |none=>.bad
 |r=>.ok r ρ S false
def cRet(c:M Rv):M Fl:=λρ S=>(c ρ S).bind λr ρ S=>(outR r ρ S).bind λr ρ S=>.ok (.rt r) ρ S false
def zzd:M Fl:=λρ S=>.ok (.rt (.d .non)) ρ S false
section
variable{X:Cx}{Γ:Gm}{W:WX}{P:List Nat}{st:Stmt}{rest:List Stmt}{e:Expr}{a b:M Fl}{c:M Rv}{t:M Bool}{pos:Pos}
theorem dU:PSs X [] (tS Γ W P cNx):=pss_nil.imp λD σ H ⟨F,E,C,R,ρ,S,rel,sk⟩=>sk ⟨F,E,C,R,H⟩ σ (.refl _) .refl rel
theorem zrx{D:Ends}{σ:L2.St}{H:Hp}(h:tS Γ W P (cSeq a b) D σ H):tSeq (tS Γ W P a) (tS Γ W P b) D σ H:=by
 obtain⟨F,E,C,R,ρ,S,rel,sk⟩:=h;refine⟨F,E,C,R,ρ,S,rel,?_⟩;unfold cSeq at sk;cases q:a ρ S with
 |ok f ρ1 S1 t=>
  rw[q] at sk;cases f with
  |nx=>exact λw1 σ1 x1 p1 r1=>⟨w1.F,w1.E,w1.C,w1.R,ρ1,S1,r1,SK.ext x1 p1 sk⟩
  |rt r=>exact sk
  |bk=>exact sk
  |ct=>exact sk
 |ex y ρ1 S1=>rw[q] at sk;exact sk
 |bad=>rw[q] at sk;exact sk
theorem cZ(h1:PS X st (tS Γ W P a))(h2:PSs X rest (tS Γ W P b)):PSs X (st::rest) (tS Γ W P (cSeq a b)):=(pss_cons h1 h2).imp λ_ _ _ h=>zrx h
theorem cW(h1:PS X st (tS Γ W P a)):PSs X [st] (tS Γ W P a):=pss_one h1
theorem Nz{w0 w1:Wd}{σ:L2.St}{ρ S:List Sl}{r r':Rv}{ρ' S':List Sl}{t:Bool}{v:V}(x:Ext w0 w1)(h:Rel Γ w1 ρ S σ)(o:RvOk Γ w0 w1 σ r v)(e:outR r ρ S=.ok r' ρ' S' t) :
  ∃w2,w2.H=w1.H∧Ext w0 w2∧Rel Γ w2 ρ' S' σ∧RvOk Γ w0 w2 [] r' v:=by iterate
 cases r with
 |d _=>cases e;exact⟨w1,rfl,x,h,o⟩
 |fr _=>cases e;exact⟨w1,rfl,x,h,o⟩
 |env i=>
  have o':σ[i]? = some (some v):=o;unfold outR at e;cases q:ρ[i]? with
  |none=>simp[q] at e
  |some s=>
   simp only[q] at e;split at e
   ·rename_i hs;cases e;obtain⟨o2,A,B,b,h1,h2,h3,h4⟩:=h.own.env_at q;rw[o'] at h1;cases h1;obtain⟨v',e',ow⟩:=h3.of_own hs;cases e';have g:=h.good;have eAd:w1.ad=A.map (·.1)++b.map (·.1)++(B++w1.C).map (·.1):=by show(w1.E++w1.C).map _=_;rw[h2];simp
    have nd:=g.nd;rw[eAd] at nd;obtain⟨q1,q2,q3⟩:=bB.mp nd;obtain⟨q4,ndb,q6⟩:=bB.mp q1;have mem:∀p,p∈A++B++w1.C->p∈w1.E++w1.C:=λp hp=>by
     rw[h2];simp only[List.mem_append] at hp ⊢;rcases hp with (z|z)|z<;>simp[z]
    have out:∀a,a∈b.map (·.1)->a∉(A++B++w1.C).map (·.1):=λa z y=>by
     have hp:a∈A.map (·.1)∨a∈(B++w1.C).map (·.1):=by simp only[List.map_append,List.mem_append] at y ⊢;rcases y with (y|y)|y<;>simp[y]
     rcases hp with y|y
     ·exact q6 _ y _ z rfl
     ·exact q3 _ (List.mem_append_right _ z) _ y rfl
    refine⟨{ w1 with E:=A++B },rfl,⟨x.gr,x.keep,λa z=>?_,x.fnew,x.live⟩,⟨⟨g.sub,λp hp=>g.cell p (mem p hp),?_⟩,?_⟩,b,ow,⟨λp hp=>?_,ndb⟩,λp hp=>?_⟩
    ·obtain⟨p,hp,rfl⟩:=ao.mp z;exact x.cnew _ (bf (mem p hp))
    ·show((A++B++w1.C).map (·.1)).Nodup;rw[aK,aX];exact bB.mpr ⟨q4,q2,λa ha c hc=>q3 a (List.mem_append_left _ ha) c hc⟩
    ·have z:=h4 w1.F (λ_ _ h=>h) .emp (some v) [] rfl;rw[set_same o'] at z
     simpa using z
    ·have hc:=g.cell p (by rw[h2];simp[hp]);exact⟨hc.1,hc.2,out _ (bf hp)⟩
    ·rcases x.cnew p.1 (by rw[eAd];simp only[List.mem_append];exact .inl (.inr (List.mem_map_of_mem hp))) with z|z
     ·exact .inr z
     ·exact .inl z
   ·cases e
theorem dF(he:PE X e (tM Γ W c)):PS X (.Return (some e) pos) (tS Γ W P (cRet c)):=
 (ps_ret he).imp λD σ H ⟨F,E,C,R,ρ,S,rel,sk⟩=>⟨F,E,C,R,ρ,S,rel,CK.bindS sk λr ρ1 S1 w1 v x1 rel1 o1 sk1=>by iterate
  cases q:outR r ρ1 S1 with
  |ok r2 ρ2 S2 t2=>
   rw[q,Res.bind_ok] at sk1;obtain⟨w2,eH,x2,rel2,o2⟩:=Nz x1 rel1 o1 q;rw[<-eH];exact(SK.addt.mp sk1) w2 σ v x2 .refl rel2 o2
  |ex y ρ2 S2=>
   exfalso;unfold outR at q;cases r with
   |d _=>simp at q
   |fr _=>simp at q
   |env i=>
    simp only at q;split at q
    ·split at q<;>simp at q
    ·simp at q
  |bad=>rw[q] at sk1;exact sk1.elim⟩
theorem dR{g:Expr}{x y:List Stmt}(hc:PT X g (tMb Γ W t))(ha:PSs X x (tS Γ W P a))(hb:PSs X y (tS Γ W P b)):PS X (.If g x y pos) (tS Γ W P (cIfS t a b)):=
 (ps_if hc ha hb).imp λD σ H ⟨F,E,C,R,ρ,S,rel,sk⟩=>⟨F,E,C,R,ρ,S,rel,CKb.bindS sk λk ρ1 S1 w1 x1 rel1 sk1=>by
  cases k with
  |true=>exact⟨w1.F,w1.E,w1.C,w1.R,ρ1,S1,rel1,SK.ext x1 .refl sk1⟩
  |false=>exact⟨w1.F,w1.E,w1.C,w1.R,ρ1,S1,rel1,SK.ext x1 .refl sk1⟩⟩
end
/-- into a slot: own keeps a new thing as the slot's own -/
def setS(own:Bool)(i:Nat)(r:Rv):M Fl:=λρ S=>match own,r with
 |true,.fr s=>if i<ρ.length then .ok .nx (ρ.set i s) S false else .bad
 |_,r=>(toD r ρ S).bind λd ρ S=>if i<ρ.length then .ok .nx (ρ.set i (.val d)) S false else .bad
section
variable{X:Cx}{Γ:Gm}{W:WX}{P:List Nat}{w0 w1:Wd}{σ:L2.St}{ρ S:List Sl}
/-- a slot is overwritten -/
theorem Rel.setSlot{i:Nat}{s':Sl}{v:V}{c:Cells}(x:Ext w0 w1)(h:Rel Γ w1 ρ S σ)(hi:i<ρ.length)(ow:Own Γ w1.R w1.F s' v c)(f:Fresh w1 c)(b:∀p∈c,w0.H p.1=none∨p.1∈w0.ad) :
  ∃w2,w2.H=w1.H∧Ext w0 w2∧Rel Γ w2 (ρ.set i s') S (σ.set i (some v)):=by iterate
 obtain⟨s,hs⟩:∃s,ρ[i]? = some s:=⟨ρ[i],by simp[hi]⟩;obtain⟨o2,A,B,b2,h1,h2,h3,h4⟩:=h.own.env_at hs;have g:=h.good;have eAd:w1.ad=A.map (·.1)++b2.map (·.1)++(B++w1.C).map (·.1):=by show(w1.E++w1.C).map _=_;rw[h2];simp
 have nd:=g.nd;rw[eAd] at nd;obtain⟨q1,q2,q3⟩:=bB.mp nd;obtain⟨q4,q5,q6⟩:=bB.mp q1;have mem:∀p,p∈A++c++B++w1.C->p∈w1.E++w1.C∨p∈c:=λp hp=>by
  rw[h2];simp only[List.mem_append] at hp ⊢;rcases hp with ((z|z)|z)|z<;>simp[z]
 have inAd:∀a,a∈A.map (·.1)∨a∈(B++w1.C).map (·.1)->a∈w1.ad:=λa z=>by
  rw[eAd];rcases z with z|z
  ·exact List.mem_append_left _ (List.mem_append_left _ z)
  ·exact List.mem_append_right _ z
 refine⟨{ w1 with E:=A++c++B },rfl,⟨x.gr,x.keep,λa z=>?_,x.fnew,x.live⟩,⟨⟨g.sub,λp hp=>?_,?_⟩,h4 w1.F (λ_ _ h=>h) s' (some v) c (.mk ow)⟩⟩
 ·obtain⟨p,hp,rfl⟩:=ao.mp z;rcases mem p hp with y|y
  ·exact x.cnew _ (bf y)
  ·rcases b p y with y|y
   ·exact .inr y
   ·exact .inl y
 ·rcases mem p hp with y|y
  ·exact g.cell p y
  ·exact⟨(f.at_ p y).1,(f.at_ p y).2.1⟩
 ·show((A++c++B++w1.C).map (·.1)).Nodup;have e:(A++c++B++w1.C).map (·.1)=(A.map (·.1)++c.map (·.1))++(B++w1.C).map (·.1):=by simp
  rw[e];have fr:∀a∈c.map (·.1),a∉w1.ad:=λa z=>by
   obtain⟨p,hp,rfl⟩:=ao.mp z;exact(f.at_ p hp).2.2
  refine bB.mpr ⟨bB.mpr ⟨q4,f.nd,λa ha b hb e=>fr b hb (inAd b (.inl (e ▸ ha)))⟩,q2,λa ha b hb e=>?_⟩;rcases aV.mp ha with z|z
  ·exact q3 a (List.mem_append_left _ z) b hb e
  ·exact fr a z (inAd a (.inr (e ▸ hb)))
theorem Rel.setVal{i:Nat}{d:D}{v:V}(h:Rel Γ w1 ρ S σ)(hi:i<ρ.length)(r:Rep Γ w1.R w1.F d v):∃w2,w2.H=w1.H∧Ext w1 w2∧Rel Γ w2 (ρ.set i (.val d)) S (σ.set i (some v))∧w2.F=w1.F∧w2.R=w1.R:=by iterate
 obtain⟨s,hs⟩:∃s,ρ[i]? = some s:=⟨ρ[i],by simp[hi]⟩;obtain⟨o2,A,B,b2,h1,h2,h3,h4⟩:=h.own.env_at hs;have g:=h.good;have eAd:w1.ad=A.map (·.1)++b2.map (·.1)++(B++w1.C).map (·.1):=by show(w1.E++w1.C).map _=_;rw[h2];simp
 have nd:=g.nd;rw[eAd] at nd;obtain⟨q1,q2,q3⟩:=bB.mp nd;obtain⟨q4,q5,q6⟩:=bB.mp q1;have mem:∀p,p∈A++B++w1.C->p∈w1.E++w1.C:=λp hp=>by
  rw[h2];simp only[List.mem_append] at hp ⊢;rcases hp with (z|z)|z<;>simp[z]
 refine⟨{ w1 with E:=A++B },rfl,⟨.refl,λ_ _ h _=>h,λa z=>?_,λ_ _ h=>.inl h,λ_ o h=>⟨o,h⟩⟩,⟨⟨g.sub,λp hp=>g.cell p (mem p hp),?_⟩,?_⟩,rfl,rfl⟩
 ·obtain⟨p,hp,rfl⟩:=ao.mp z;exact .inl (bf (mem p hp))
 ·show((A++B++w1.C).map (·.1)).Nodup;rw[aK,aX];exact bB.mpr ⟨q4,q2,λa ha c hc=>q3 a (List.mem_append_left _ ha) c hc⟩
 ·have z:=h4 w1.F (λ_ _ h=>h) (.val d) (some v) [] ⟨v,rfl,by rw[Own];exact⟨rfl,r⟩⟩
  simpa using z
theorem Pin.set{i:Nat}{o:Option V}(h:i∉P):Pin P σ (σ.set i o):=λj hj=>List.getElem?_set_ne λe=>h (by rw[e];exact hj)
theorem NB{D:Ends}{own:Bool}{i:Nat}{r:Rv}{v:V}(hp:i∉P)(x:Ext w0 w1)(h:Rel Γ w1 ρ S σ)(o:RvOk Γ w0 w1 σ r v)(sk:SK Γ W P w0 σ D (setS own i r ρ S)):D.nx (σ.set i (some v)) w1.H:=by iterate
 have data:SK Γ W P w0 σ D ((toD r ρ S).bind λd ρ S=>if i<ρ.length then .ok .nx (ρ.set i (.val d)) S false else .bad)->D.nx (σ.set i (some v)) w1.H:=λsk=>by
  cases q:toD r ρ S with
  |ok d ρ2 S2 t=>
   rw[q,Res.bind_ok] at sk;have sk:=SK.addt.mp sk;obtain⟨w2,eH,x2,r2,rep,_⟩:=M9 x h o q;split at sk
   ·rename_i hi;obtain⟨w3,e3,x3,r3,_,_⟩:=r2.setVal hi rep;have z:=sk w3 (σ.set i (some v)) (x2.trans x3) (.set hp) r3;rw[e3,eH] at z;exact z
   ·exact sk.elim
  |ex y _ _=>exact absurd q Nb
  |bad=>rw[q] at sk;exact sk.elim
 unfold setS at sk;cases own with
 |false=>exact data sk
 |true=>
  cases r with
  |d _=>exact data sk
  |env _=>exact data sk
  |fr s=>
   simp only at sk;split at sk
   ·rename_i hi;obtain⟨c,ow,f,b⟩:=o;obtain⟨w2,eH,x2,r2⟩:=Rel.setSlot x h hi ow f b;have z:=sk w2 (σ.set i (some v)) x2 (.set hp) r2;rw[eH] at z;exact z
   ·exact sk.elim
/-- name=e -/
def cSet(own:Bool)(i:Nat)(c:M Rv):M Fl:=λρ S=>(c ρ S).bind λr ρ S=>setS own i r ρ S
theorem fD{x:Str}{e:Expr}{c:M Rv}{own:Bool}{i:Nat}{pos npos:Pos}(he:PE X e (tM Γ W c))(hp:i∉P)(hN:X.N.Nodup)(hi:X.N[i]? = some x)(hx:Loc X.env.scope x)(hf:X.fn x=true∨X.env.scope.names.lookup x=some .local)
  (hs:swapsWithSole [.Name x npos] e pos.line X.env=pure false) (hw:swappedStores [.Name x npos] e X.env=pure none):PS X (.Assign [.Name x npos] e pos) (tS Γ W P (cSet own i c)):=
 (ps_asg he (pg_name hN hi hx hf) hs hw).imp λD σ H ⟨F,E,C,R,ρ,S,rel,sk⟩=>⟨F,E,C,R,ρ,S,rel,CK.bindS sk λr ρ1 S1 w1 v x1 rel1 o1 sk1=>NB hp x1 rel1 o1 sk1⟩
end
end
section
inductive Tgt where
  |nm (i:Nat)|tp (is:List Nat)
def Tgt.slots:Tgt->List Nat
 |.nm i=>[i]
 |.tp is=>is
def bindL:List Nat->List D->List Sl->Option (List Sl)
 |[],[],ρ=>some ρ
 |i::is,d::ds,ρ=>if i<ρ.length then bindL is ds (ρ.set i (.val d)) else none
 |_,_,_=>none
def eX:Tgt->D->List Sl->Option (List Sl)
 |.nm i,d,ρ=>if i<ρ.length then some (ρ.set i (.val d)) else none
 |.tp is,.tup ds,ρ=>bindL is ds ρ
 |_,_,_=>none
def tK:List Nat->TGs
 |[]=>gNil
 |i::is=>gCons (gName i) (tK is)
/-- the target of that reading binds as the data do -/
def TgOk(Γ:Gm)(t:TG)(g:Tgt):Prop:=∀(w:Wd) (ρ S:List Sl) (σ:L2.St) (d:D) (v:V) (ρ':List Sl) (Q:L2.St->Hp->Prop),Rel Γ w ρ S σ->Rep Γ w.R w.F d v->eX g d ρ=some ρ'->
 (∀w' σ',w'.H=w.H->Ext w w'->w'.F=w.F->w'.R=w.R->Rel Γ w' ρ' S σ'->(∀j,j∉g.slots->σ'[j]? = σ[j]?)->σ'.length=σ.length->Q σ' w'.H)->t v σ w.H Q
section
variable{Γ:Gm}
theorem gU(i:Nat):TgOk Γ (gName i) (.nm i):=by
 intro w ρ S σ d v ρ' Q h r e k;simp only[eX] at e;split at e
 ·rename_i hi;cases e;obtain⟨w2,eH,x2,r2,eF,eR⟩:=h.setVal hi r;have z:=k w2 (σ.set i (some v)) eH x2 eF eR r2 (λj hj=>List.getElem?_set_ne λe=>hj (by rw[e];simp[Tgt.slots])) (by simp);rw[eH] at z;exact z
 ·cases e
theorem NK:∀(is:List Nat) (w:Wd) (ρ S:List Sl) (σ:L2.St) (ds:List D) (vs:List V) (ρ':List Sl) (Q:L2.St->Hp->Prop),Rel Γ w ρ S σ->RepL Γ w.R w.F ds vs->bindL is ds ρ=some ρ'->
  (∀w' σ',w'.H=w.H->Ext w w'->w'.F=w.F->w'.R=w.R->Rel Γ w' ρ' S σ'->(∀j,j∉is->σ'[j]? = σ[j]?)->σ'.length=σ.length->Q σ' w'.H)->tK is vs σ w.H Q
 |[],w,ρ,S,σ,ds,vs,ρ',Q,h,l,e,k=>by
  cases ds with
  |nil=>
   simp only[bindL,Option.some.injEq] at e;subst e;rw[RepL] at l;exact⟨l,k w σ rfl (.refl _) rfl rfl h (λ_ _=>rfl) rfl⟩
  |cons _ _=>simp[bindL] at e
 |i::is,w,ρ,S,σ,ds,vs,ρ',Q,h,l,e,k=>by iterate
  cases ds with
  |nil=>simp[bindL] at e
  |cons d ds=>
   simp only[bindL] at e;split at e
   ·rename_i hi;rw[RepL] at l;obtain⟨v,vs',e1,r,l⟩:=l;obtain⟨w2,eH,x2,r2,eF,eR⟩:=h.setVal hi r;refine⟨v,vs',e1,?_⟩;show tK is vs' (σ.set i (some v)) w.H Q;rw[<-eH];refine NK is w2 _ S _ ds vs' ρ' Q r2 (by rw[eF,eR];exact l) e λw3 σ3 eH3 x3 eF3 eR3 r3 same len=>?_;refine k w3 σ3 (eH3.trans eH) (x2.trans x3) (eF3.trans eF) (eR3.trans eR) r3 (λj hj=>?_) (by rw[len];simp);rw[same j λz=>hj (bL _ z)];exact List.getElem?_set_ne λe=>hj (by rw[e];simp)
   ·cases e
theorem wH{K:yF}{is:List Nat}{n:Nat}(hn:is.length=n):TgOk Γ (gTup K n (tK is)) (.tp is):=by iterate
 intro w ρ S σ d v ρ' Q h r e k;cases d with
 |tup ds=>
  rw[Rep] at r;obtain⟨a,ys,ev,ha,l⟩:=r;have len:∀(is:List Nat) (ds:List D) (ρ:List Sl),bindL is ds ρ=some ρ'->ds.length=is.length:=by
   intro is
   induction is with
   |nil=>intro ds ρ e;cases ds with|nil=>rfl|cons _ _=>simp[bindL] at e
   |cons i is ih=>
    intro ds ρ e;cases ds with
    |nil=>simp[bindL] at e
    |cons d ds=>
     simp only[bindL] at e;split at e
     ·rw[aG,aG,ih _ _ e]
     ·cases e
  exact⟨a,ys,ev,SqT.of (h.good.sub _ _ ha),by rw[<-l.length,len is ds ρ e];exact hn,NK is w ρ S σ ds ys ρ' Q h l e k⟩
 |_=>cases e
end
structure Walk(Γ:Gm)(J:It)(ds:List D)(I:Wd->Prop):Prop where
  up:∀w w',I w->Gr w.R w'.R w.F w'.F->I w'
  go:∀i w d,I w->Good w->ds[i]? = some d->J.go i w.H∧∀x H',J.yld i w.H x H'->∃w',w'.H=H'∧Ext w w'∧w'.E=w.E∧w'.C=w.C∧w'.R=w.R∧Good w'∧Rep Γ w'.R w'.F d x
  stop:∀w,I w->Good w->J.stop ds.length w.H
section
variable(Γ:Gm)(W:WX)
def CKi(w:Wd)(σ:L2.St)(Q:It->Hp->Prop):Res (List D)->Prop
 |.ok ds ρ' S' _=>∀w' J I,Ext w w'->Rel Γ w' ρ' S' σ->I w'->Walk Γ J ds I->Q J w'.H
 |.ex x ρ' S'=>∀w' cls d,Ext w w'->Rel Γ w' ρ' S' σ->XOk Γ w' x cls d->W cls d σ w'.H
 |.bad=>False
def tI(c:M (List D)):TI:=λσ H Q=>∃F E C R ρ S,Rel Γ ⟨F,E,C,R,H⟩ ρ S σ∧CKi Γ W ⟨F,E,C,R,H⟩ σ Q (c ρ S)
end
theorem _root_.L2.PI.imp{X:Cx}{tg e:Expr}{t t':TI}(h:PI X tg e t)(k:∀σ H Q,t' σ H Q->t σ H Q):PI X tg e t':=⟨λpins s σ H Q I hw=>h.run pins s σ H Q I (k σ H Q hw)⟩
theorem _root_.L2.PI.or{X:Cx}{tg e:Expr}{t t':TI}(h:PI X tg e t)(h':PI X tg e t'):PI X tg e (λσ H Q=>t σ H Q∨t' σ H Q):=
 ⟨λpins s σ H Q I hw=>hw.elim (λz=>h.run pins s σ H Q I z) (λz=>h'.run pins s σ H Q I z)⟩
/-- the items of a datum -/
def D.its:D->Option (List D)
 |.str z=>some (z.cps.toList.map λc=>.str ⟨#[c]⟩)
 |d=>d.items
def cIts(c:M Rv):M (List D):=λρ S=>(cD c ρ S).bind λd ρ S=>match d.its with
 |some ds=>.ok ds ρ S false
 |none=>.bad
/-- range(n),range(a,b) -/
def gh(lo:Int)(n:Nat):List D:=(List.range n).map λ(i:Nat)=>.int (lo+i)
def oF(cs:M (List D)):M (List D):=λρ S=>(cs ρ S).bind λds ρ S=>match ds with
 |[.int j]=>if -(2 ^ 62)≤j∧j<2 ^ 62 then .ok (gh 0 j.toNat) ρ S false else .bad
 |_=>.bad
def NP(cs:M (List D)):M (List D):=λρ S=>(cs ρ S).bind λds ρ S=>match ds with
 |[.int i,.int j]=>if -(2 ^ 62)≤i∧i<2 ^ 62∧-(2 ^ 62)≤j∧j<2 ^ 62 then .ok (gh i (j - i).toNat) ρ S false else .bad
 |_=>.bad
def iG:Nat->List D->List D
 |_,[]=>[]
 |i,d::ds=>.tup [.int i,d]::iG (i+1) ds
def zipD:List D->List D->List D
 |x::xs,y::ys=>.tup [x,y]::zipD xs ys
 |_,_=>[]
def cZip(cs:M (List D)):M (List D):=λρ S=>(cs ρ S).bind λds ρ S=>match ds with
 |[.lst xs,.lst ys]=>.ok (zipD xs ys) ρ S false
 |[.tup xs,.tup ys]=>.ok (zipD xs ys) ρ S false
 |[.tup xs,.kt ys]=>.ok (zipD xs ys) ρ S false
 |[.kt xs,.tup ys]=>.ok (zipD xs ys) ρ S false
 |_=>.bad
section
variable{X:Cx}{Γ:Gm}{W:WX}{w w0 w1:Wd}{σ:L2.St}{ρ S:List Sl}
theorem CKl.bindI{r:Res (List D)}{f:List D->List Sl->List Sl->Res (List D)}{Q:It->Hp->Prop}{Q1:List V->Hp->Prop}(h:CKi Γ W w σ Q (r.bind f))
  (k:∀a ρ S w' v,Ext w w'->Rel Γ w' ρ S σ->RepL Γ w'.R w'.F a v->CKi Γ W w σ Q (f a ρ S)->Q1 v w'.H):CKl Γ W w σ Q1 r:=by
 cases r with
 |ok a ρ S t=>
  rw[Res.bind_ok] at h;refine λw2 v x2 e2 R2 o2=>k a ρ S w2 v x2 R2 o2 ?_;cases q2:f a ρ S with
  |ok ds ρ2 S2 t2=>rw[q2] at h;exact h
  |ex y ρ2 S2=>rw[q2] at h;exact h
  |bad=>rw[q2] at h;exact h
 |ex y ρ S=>exact h
 |bad=>exact h
theorem NQ{R:List Addr}{F F':Hp}(up:∀a u,F a=some u->F' a=some u){d:D}{v:V}(h:Rep Γ R F d v):Rep Γ R F' d v:=Rep.up ⟨⟨[],by simp⟩,up⟩ _ _ h
theorem fQ{w w':Wd}(x:Gr w.R w'.R w.F w'.F){d:List D}{v:List V}(h:RepL Γ w.R w.F d v):RepL Γ w'.R w'.F d v:=RepL.up x _ _ h
/-- a list that stands still -/
theorem walk_list{K:yF}{ds:List D}{a:Addr}{ys:List V}:Walk Γ (Itl K a) ds (λw=>SqL K w.F a ys∧RepL Γ w.R w.F ds ys) where
 up:=λw w' h x=>⟨SqL.up x.f h.1,fQ x h.2⟩
 go:=λi w d h g e=>by
  obtain⟨v,h1,h2⟩:=h.2.get e;exact⟨⟨ys,v,SqL.up g.sub h.1,h1⟩,λx H' ⟨e1,e2⟩=>by
   subst e1;have z:=e2 ys (SqL.up g.sub h.1);rw[h1] at z;cases z;exact⟨w,rfl,.refl w,rfl,rfl,rfl,g,h2⟩⟩
 stop:=λw h g=>⟨ys,SqL.up g.sub h.1,by rw[h.2.length];exact aO _⟩
theorem walk_tup{K:yF}{ds:List D}{a:Addr}{ys:List V}:Walk Γ (Itt K a) ds (λw=>SqT K w.F a ys∧RepL Γ w.R w.F ds ys) where
 up:=λw w' h x=>⟨SqT.up x.f h.1,fQ x h.2⟩
 go:=λi w d h g e=>by
  obtain⟨v,h1,h2⟩:=h.2.get e;exact⟨⟨ys,v,SqT.up g.sub h.1,h1⟩,λx H' ⟨e1,e2⟩=>by
   subst e1;have z:=e2 ys (SqT.up g.sub h.1);rw[h1] at z;cases z;exact⟨w,rfl,.refl w,rfl,rfl,rfl,g,h2⟩⟩
 stop:=λw h g=>⟨ys,SqT.up g.sub h.1,by rw[h.2.length];exact aO _⟩
theorem walk_str{z:Str}:Walk Γ (Its z) (z.cps.toList.map λc=>.str ⟨#[c]⟩) (λ_=>True) where
 up:=λ_ _ h _=>h
 go:=λi w d h g e=>by
  rw[az] at e;obtain⟨c,e1,e2⟩:=aW.mp e;subst e2;have e1':z.cps[i]? = some c:=by simpa using e1
  have hi:i<z.cps.size:=(Array.getElem?_eq_some_iff.mp e1').1;exact⟨hi,λx H' ⟨e3,c',e4,e5⟩=>by
   subst e3 e5;rw[e1'] at e4;cases e4;exact⟨w,rfl,.refl w,rfl,rfl,rfl,g,by rw[Rep]⟩⟩
 stop:=λw h g=>by show z.cps.size≤_;simp
theorem walk_range{lo:Int}{n:Nat}:Walk Γ (Itr lo n) (gh lo n) (λ_=>True) where
 up:=λ_ _ h _=>h
 go:=λi w d h g e=>by
  unfold gh at e;rw[az] at e;obtain⟨c,e1,e2⟩:=aW.mp e;subst e2;obtain⟨hi,ec⟩:=bx.mp e1;rw[List.length_range] at hi;rw[List.getElem_range] at ec;subst ec;exact⟨hi,λx H' ⟨e3,e4⟩=>by
   subst e3 e4;exact⟨w,rfl,.refl w,rfl,rfl,rfl,g,by rw[Rep]⟩⟩
 stop:=λw h g=>by show n≤_;simp[gh]
theorem wM:∀(xs ys:List D) (i:Nat) (d:D),(zipD xs ys)[i]? = some d->∃x y,xs[i]? = some x∧ys[i]? = some y∧d=.tup [x,y]
 |[],ys,i,d,e=>by simp[zipD] at e
 |_::_,[],i,d,e=>by simp[zipD] at e
 |x::xs,y::ys,0,d,e=>by simp[zipD] at e;exact⟨x,y,by simp,by simp,e.symm⟩
 |x::xs,y::ys,i+1,d,e=>by
  obtain⟨x',y',h1,h2,h3⟩:=wM xs ys i d (by simpa[zipD] using e);exact⟨x',y',by simpa using h1,by simpa using h2,h3⟩
theorem wR:∀(xs ys:List D),(zipD xs ys).length=min xs.length ys.length
 |[],ys=>by simp[zipD]
 |_::_,[]=>by simp[zipD]
 |x::xs,y::ys=>by rw[zipD,List.length_cons,wR];simp
theorem NT{w:Wd}(g:Good w){T:Addr}(hT:w.H T=none){x y:D}{u v:V}(hx:Rep Γ w.R w.F x u)(hy:Rep Γ w.R w.F y v):Rep Γ w.R (upd w.F T (.tup [u,v])) (.tup [x,y]) (.ref T):=by
 rw[Rep];refine⟨T,_,rfl,upd_same,?_⟩;rw[RepL];refine⟨_,_,rfl,NQ (pW (g.none_of hT).1) hx,?_⟩;rw[RepL];exact⟨_,_,rfl,NQ (pW (g.none_of hT).1) hy,by rw[RepL]⟩
theorem walk_zip{K:yF}{ds es:List D}{a b:Addr}{ys zs:List V}:Walk Γ (Itz K a b) (zipD ds es) (λw=>SqL K w.F a ys∧RepL Γ w.R w.F ds ys∧SqL K w.F b zs∧RepL Γ w.R w.F es zs) where
 up:=λw w' h x=>⟨SqL.up x.f h.1,fQ x h.2.1,SqL.up x.f h.2.2.1,fQ x h.2.2.2⟩
 go:=λi w d h g e=>by iterate
  obtain⟨x,y,e1,e2,e3⟩:=wM _ _ _ _ e;obtain⟨u,h1,h2⟩:=h.2.1.get e1;obtain⟨v,h3,h4⟩:=h.2.2.2.get e2;refine⟨⟨ys,zs,u,v,SqL.up g.sub h.1,SqL.up g.sub h.2.2.1,h1,h3⟩,λx0 H' ⟨T,x',y',e4,hT,e5,e6,e7⟩=>?_⟩;have z:=e6 ys (SqL.up g.sub h.1);rw[h1] at z;cases z;have z:=e7 zs (SqL.up g.sub h.2.2.1);rw[h3] at z;cases z;subst e4 e5 e3;exact⟨{ w with F:=upd w.F T (.tup [u,v]),H:=upd w.H T (.tup [u,v]) },rfl,.newF g hT,rfl,rfl,rfl,.newF g hT,NT g hT h2 h4⟩
 stop:=λw h g=>⟨ys,zs,SqL.up g.sub h.1,SqL.up g.sub h.2.2.1,by rw[wR,h.2.1.length,h.2.2.2.length];omega⟩
theorem zpm{K:yF}{ds es:List D}{a b:Addr}{ys zs:List V}:Walk Γ (RZ.ItzT K a b) (zipD ds es) (λw=>SqT K w.F a ys∧RepL Γ w.R w.F ds ys∧SqT K w.F b zs∧RepL Γ w.R w.F es zs) where
 up:=λw w' h x=>⟨SqT.up x.f h.1,fQ x h.2.1,SqT.up x.f h.2.2.1,fQ x h.2.2.2⟩
 go:=λi w d h g e=>by iterate
  obtain⟨x,y,e1,e2,e3⟩:=wM _ _ _ _ e;obtain⟨u,h1,h2⟩:=h.2.1.get e1;obtain⟨v,h3,h4⟩:=h.2.2.2.get e2;refine⟨⟨ys,zs,u,v,SqT.up g.sub h.1,SqT.up g.sub h.2.2.1,h1,h3⟩,λx0 H' ⟨T,x',y',e4,hT,e5,e6,e7⟩=>?_⟩;have z:=e6 ys (SqT.up g.sub h.1);rw[h1] at z;cases z;have z:=e7 zs (SqT.up g.sub h.2.2.1);rw[h3] at z;cases z;subst e4 e5 e3;exact⟨{ w with F:=upd w.F T (.tup [u,v]),H:=upd w.H T (.tup [u,v]) },rfl,.newF g hT,rfl,rfl,rfl,.newF g hT,NT g hT h2 h4⟩
 stop:=λw h g=>⟨ys,zs,SqT.up g.sub h.1,SqT.up g.sub h.2.2.1,by rw[wR,h.2.1.length,h.2.2.2.length];omega⟩
end
section
variable{X:Cx}{Γ:Gm}{W:WX}{tg e:Expr}{c:M Rv}{cs:M (List D)}
theorem oG{Γ:Gm}{W:WX}{c:M Rv}{w:Wd}{σ:L2.St}{ρ S ρ1 S1:List Sl}{d:D}{t:Bool}(q:cD c ρ S=.ok d ρ1 S1 t){Q1:VK}
  (k:∀w' v,Ext w w'->Rel Γ w' ρ1 S1 σ->Rep Γ w'.R w'.F d v->Q1 v w'.H):CK Γ W w σ Q1 (c ρ S):=by
 refine CKd.of (Qd:=λ_ _ _=>True) (by rw[q];exact λ_ _ _ _ _ _=>True.intro) λd' ρ' S' t' w' v x e r o q'=>?_;rw[q] at q';cases q';exact k w' v x r o
theorem zzA{Γ:Gm}{W:WX}{c:M Rv}{w:Wd}{σ:L2.St}{ρ S ρ1 S1:List Sl}{y:Exn}(q:cD c ρ S=.ex y ρ1 S1){Q1:VK}
  (k:∀w' cls d,Ext w w'->Rel Γ w' ρ1 S1 σ->XOk Γ w' y cls d->W cls d σ w'.H):CK Γ W w σ Q1 (c ρ S):=
 CKd.of (Qd:=λ_ _ _=>True) (by rw[q];exact k) λd' ρ' S' t' w' v x e r o q'=>by rw[q] at q';cases q'
theorem wY(hK:Γ.K=X.K)(h:PE X e (tM Γ W c)):PI X tg e (tI Γ W (cIts c)):=
 ((pi_list h).or ((pi_tup h).or (pi_str h))).imp λσ H Q ⟨F,E,C,R,ρ,S,rel,ck⟩=>by iterate
  unfold cIts at ck;cases q:cD c ρ S with
  |bad=>rw[q] at ck;exact ck.elim
  |ex y ρ1 S1=>
   rw[q] at ck;exact .inl ⟨F,E,C,R,ρ,S,rel,zzA q ck⟩
  |ok d ρ1 S1 t=>
   rw[q,Res.bind_ok] at ck;have seqL:∀xs,(d=.lst xs∨d=.kl xs)->CKi Γ W ⟨F,E,C,R,H⟩ σ Q (Res.ok xs ρ1 S1 false)->iList X.K (tM Γ W c) σ H Q:=λxs hd ck=>
    ⟨F,E,C,R,ρ,S,rel,oG q λw' v x r o=>by
     have z:∃a ys,v=.ref a∧SqL Γ.K w'.F a ys∧RepL Γ w'.R w'.F xs ys:=by
      rcases hd with hd|hd
      ·subst hd;rw[Rep] at o;obtain⟨a,ys,e1,e2,e3⟩:=o;exact⟨a,ys,e1,SqL.of e2,e3⟩
      ·subst hd;rw[Rep] at o;exact o
     obtain⟨a,ys,e1,e2,e3⟩:=z;rw[hK] at e2;exact⟨a,e1,⟨ys,SqL.up r.good.sub e2⟩,ck w' _ _ x r ⟨e2,e3⟩ walk_list⟩⟩
   have seqT:∀xs,(d=.tup xs∨d=.kt xs)->CKi Γ W ⟨F,E,C,R,H⟩ σ Q (Res.ok xs ρ1 S1 false)->iTup X.K (tM Γ W c) σ H Q:=λxs hd ck=>
    ⟨F,E,C,R,ρ,S,rel,oG q λw' v x r o=>by
     have z:∃a ys,v=.ref a∧SqT Γ.K w'.F a ys∧RepL Γ w'.R w'.F xs ys:=by
      rcases hd with hd|hd
      ·subst hd;rw[Rep] at o;obtain⟨a,ys,e1,e2,e3⟩:=o;exact⟨a,ys,e1,SqT.of e2,e3⟩
      ·subst hd;rw[Rep] at o;exact o
     obtain⟨a,ys,e1,e2,e3⟩:=z;rw[hK] at e2;exact⟨a,e1,⟨ys,SqT.up r.good.sub e2⟩,ck w' _ _ x r ⟨e2,e3⟩ walk_tup⟩⟩
   cases d with
   |lst xs=>exact .inl (seqL xs bU ck)
   |kl xs=>exact .inl (seqL xs bV ck)
   |tup xs=>exact .inr (.inl (seqT xs bU ck))
   |kt xs=>exact .inr (.inl (seqT xs bV ck))
   |str z=>
    refine .inr (.inr ⟨F,E,C,R,ρ,S,rel,oG q λw' v x r o=>?_⟩);rw[Rep] at o;exact⟨z,o,ck w' _ _ x r True.intro walk_str⟩
   |_=>exact ck.elim
theorem NZ{a:Expr}{p pos:Pos}(hg:Gl X "range") (hm:X.mg "range" = none) (ha:PA X [a] (tMl Γ W cs)) (hs:starEach [a] X.env=[(false,eval a X.env)]):PI X tg (.Call (.Name "range" p) [a] [] pos) (tI Γ W (oF cs)):=
 (pi_range1 hg hm ha hs).imp λσ H Q ⟨F,E,C,R,ρ,S,rel,ck⟩=>⟨F,E,C,R,ρ,S,rel,CKl.bindI ck λds ρ1 S1 w1 vs x1 rel1 o1 ck1=>by
  split at ck1
  ·rename_i j;split at ck1
   ·rename_i hj;rw[RepL] at o1;obtain⟨v,vs',e1,r1,l1⟩:=o1;rw[RepL] at l1;rw[Rep] at r1;subst e1 l1 r1;exact⟨j,rfl,hj.1,hj.2,ck1 w1 _ _ x1 rel1 True.intro walk_range⟩
   ·exact ck1.elim
  ·exact ck1.elim⟩
theorem ztc{a b:Expr}{elts:List Expr}{kk:Nat}{tpos p pos:Pos}(hK:Γ.K=X.K)(hg:Gl X "zip") (hm:X.mg "zip" = none) (ha:PA X [a,b] (tMl Γ W cs)) (hs:starEach [a,b] X.env=(false,eval a X.env)::starEach [b] X.env) (hpl:(backTo pos (starEach [b] X.env)).any (·.1)=false) :
    PI X (.Tuple elts kk tpos) (.Call (.Name "zip" p) [a,b] [] pos) (tI Γ W (cZip cs)):=
  (RZ.pi_zipA hg hm ha hs hpl).imp λσ H Q ⟨F,E,C,R,ρ,S,rel,ck⟩=>⟨F,E,C,R,ρ,S,rel,CKl.bindI ck λds ρ1 S1 w1 vs x1 rel1 o1 ck1=>by iterate
    have two:∀d e,ds=[d,e]->∃u v,vs=[u,v]∧Rep Γ w1.R w1.F d u∧Rep Γ w1.R w1.F e v:=λd e ed=>by
      subst ed;rw[RepL] at o1;obtain⟨v,vs',e1,o,l1⟩:=o1;rw[RepL] at l1;obtain⟨v2,vs2,e2,o2,l2⟩:=l1;rw[RepL] at l2;subst e1 e2 l2;exact⟨_,_,rfl,o,o2⟩
    have tt:∀d xs v,(d=.tup xs∨d=.kt xs)->Rep Γ w1.R w1.F d v->∃a ys,v=.ref a∧SqT X.K w1.F a ys∧RepL Γ w1.R w1.F xs ys:=λd xs v hd o=>by
      rw[<-hK];rcases hd with hd|hd
      · subst hd;rw[Rep] at o;obtain⟨a,ys,e1,e2,e3⟩:=o;exact⟨a,ys,e1,SqT.of e2,e3⟩
      · subst hd;rw[Rep] at o;exact o
    have finT:∀d e xs ys,ds=[d,e]->(d=.tup xs∨d=.kt xs)->(e=.tup ys∨e=.kt ys)->CKi Γ W ⟨F,E,C,R,H⟩ σ Q (Res.ok (zipD xs ys) ρ1 S1 false)->
        ∃a b xs ys,vs=[.ref a,.ref b]∧((SqL X.K w1.H a xs∧SqL X.K w1.H b ys∧Q (Itz X.K a b) w1.H)∨(SqT X.K w1.H a xs∧SqT X.K w1.H b ys∧Q (RZ.ItzT X.K a b) w1.H)):=λd e xs ys ed hd he ck2=>by
      obtain⟨u,v,ev,o,o2⟩:=two d e ed;obtain⟨a,zs,e1,e2,e3⟩:=tt d xs u hd o;obtain⟨b,xf,e4,e5,e6⟩:=tt e ys v he o2;subst ev e1 e4;exact⟨a,b,zs,xf,rfl,.inr ⟨SqT.up rel1.good.sub e2,SqT.up rel1.good.sub e5,ck2 w1 _ _ x1 rel1 ⟨e2,e3,e5,e6⟩ zpm⟩⟩
    split at ck1
    · rename_i xs ys
      obtain⟨u,v,ev,o,o2⟩:=two _ _ rfl;rw[Rep] at o o2;obtain⟨a,zs,e1,e2,e3⟩:=o;obtain⟨b,xf,e4,e5,e6⟩:=o2;subst ev e1 e4;exact⟨a,b,zs,xf,rfl,.inl ⟨SqL.of (rel1.good.sub _ _ e2),SqL.of (rel1.good.sub _ _ e5),ck1 w1 _ _ x1 rel1 ⟨SqL.of e2,e3,SqL.of e5,e6⟩ walk_zip⟩⟩
    · exact finT _ _ _ _ rfl bU bU ck1
    · exact finT _ _ _ _ rfl bU bV ck1
    · exact finT _ _ _ _ rfl bV bU ck1
    · exact ck1.elim⟩
end
def forM(g:Tgt)(b:M Fl):List D->M Fl
 |[]=>λρ S=>.ok .nx ρ S false
 |d::ds=>λρ S=>match eX g d ρ with
  |none=>.bad
  |some ρ1=>match b ρ1 S with
   |.ok .nx ρ2 S2 _=>forM g b ds ρ2 S2
   |.ok .ct ρ2 S2 _=>forM g b ds ρ2 S2
   |.ok .bk ρ2 S2 _=>.ok .nx ρ2 S2 false
   |.ok (.rt r) ρ2 S2 _=>.ok (.rt r) ρ2 S2 false
   |.ex x ρ2 S2=>.ex x ρ2 S2
   |.bad=>.bad
def cFor(ci:M (List D))(g:Tgt)(b:M Fl):M Fl:=λρ S=>match ci ρ S with
 |.ok ds ρ S _=>forM g b ds ρ S
 |.ex x ρ S=>.ex x ρ S
 |.bad=>.bad
section
variable{X:Cx}{Γ:Gm}{W:WX}{P:List Nat}{tg iter:Expr}{body:List Stmt}{ci:M (List D)}{b:M Fl}{g:Tgt}{t:TG}{pos:Pos}
theorem N5(ht:TgOk Γ t g)(hP:∀j∈P,j∉g.slots){D:Ends}{σ:L2.St}{H:Hp}(h:tS Γ W P (cFor ci g b) D σ H):tFor (tI Γ W ci) t (tS Γ W P b) D σ H:=by iterate
 obtain⟨F,E,C,R,ρ,S,rel,sk⟩:=h;refine⟨F,E,C,R,ρ,S,rel,?_⟩;unfold cFor at sk;cases q:ci ρ S with
 |bad=>rw[q] at sk;exact sk
 |ex y ρ1 S1=>rw[q] at sk;exact λw2 cls d x2 R2 o2=>sk w2 σ cls d x2 .refl R2 o2
 |ok ds ρ1 S1 _=>
  rw[q] at sk;intro w1 J I x1 rel1 i1 walk;refine⟨λi m σ' H'=>m=ds.length - i∧i≤ds.length∧∃w ρ S,w.H=H'∧Ext ⟨F,E,C,R,H⟩ w∧Pin P σ σ'∧Rel Γ w ρ S σ'∧I w∧SK Γ W P ⟨F,E,C,R,H⟩ σ D (forM g b (ds.drop i) ρ S),
   ⟨ds.length,by simp,Nat.zero_le _,w1,ρ1,S1,rfl,x1,.refl,rel1,i1,sk⟩,?_⟩
  rintro i m σ2 H2 ⟨rfl,hi,w2,ρ2,S2,eH,x2,p2,rel2,i2,sk2⟩;subst eH
  by_cases hlt:i<ds.length
  ·have ed:ds[i]? = some ds[i]:=by simp[hlt]
   rw[List.drop_eq_getElem_cons hlt] at sk2;obtain⟨go,turn⟩:=walk.go i w2 _ i2 rel2.good ed;refine .inr ⟨go,λσ' H'=>∃w ρ S,w.H=H'∧Ext ⟨F,E,C,R,H⟩ w∧Pin P σ σ'∧Rel Γ w ρ S σ'∧I w∧SK Γ W P ⟨F,E,C,R,H⟩ σ D (forM g b (ds.drop (i+1)) ρ S),λσ' H' z=>⟨ds.length - (i+1),by omega,rfl,hlt,z⟩,λx H' y=>?_⟩;obtain⟨w3,eH3,x3,eE,eC,eR,g3,r3⟩:=turn x H' y;subst eH3;have rel3:=rel2.move x3.gr g3 eE eC eR;simp only[forM] at sk2;cases q2:eX g ds[i] ρ2 with
   |none=>simp only[q2] at sk2;exact sk2.elim
   |some ρ3=>
    simp only[q2] at sk2;refine ht w3 ρ2 S2 σ2 _ x ρ3 _ rel3 r3 q2 λw4 σ4 eH4 x4 eF4 eR4 rel4 same len=>?_;have p4:Pin P σ σ4:=p2.trans λj hj=>same j (hP j hj);have x04:=(x2.trans x3).trans x4;have i4:=walk.up _ _ (walk.up _ _ i2 x3.gr) x4.gr;refine⟨w4.F,w4.E,w4.C,w4.R,ρ3,S2,rel4,?_⟩;cases q3:b ρ3 S2 with
    |bad=>simp only[q3] at sk2;exact sk2
    |ex y ρ5 S5=>
     simp only[q3] at sk2;exact λw5 σ5 cls d x5 p5 r5 o5=>sk2 w5 σ5 cls d (x04.trans x5) (p4.trans p5) r5 o5
    |ok f ρ5 S5 t5=>
     simp only[q3] at sk2;cases f with
     |nx=>exact λw5 σ5 x5 p5 rel5=>⟨w5,ρ5,S5,rfl,x04.trans x5,p4.trans p5,rel5,walk.up _ _ i4 x5.gr,sk2⟩
     |ct=>exact λw5 σ5 x5 p5 rel5=>⟨w5,ρ5,S5,rfl,x04.trans x5,p4.trans p5,rel5,walk.up _ _ i4 x5.gr,sk2⟩
     |bk=>exact λw5 σ5 x5 p5 r5=>sk2 w5 σ5 (x04.trans x5) (p4.trans p5) r5
     |rt r=>exact λw5 σ5 v x5 p5 r5 o5=>sk2 w5 σ5 v (x04.trans x5) (p4.trans p5) r5 (o5.base x04)
  ·have e:i=ds.length:=by omega
   subst e;refine .inl ⟨walk.stop w2 i2 rel2.good,?_⟩;rw[List.drop_length] at sk2;exact sk2 w2 σ2 x2 p2 rel2
theorem xg(hp:PassesOwn (model X.prog X.w) X.A X.env X.xe)(hc:X.calm=true)(hi:PI X tg iter (tI Γ W ci))(hg:PG X tg t)(ht:TgOk Γ t g)(hP:∀j∈P,j∉g.slots)(hb:PSs X body (tS Γ W P b))(hs:∀x,foldedSetIterable iter X.env x=pure x) :
  PS X (.For tg iter body [] pos) (tS Γ W P (cFor ci g b)):=(ps_for hp hc hi hg hb hs).imp λ_ _ _ h=>N5 ht hP h
end
end
section
def dC(ρ:List Sl):List Nat->List Sl
 |[]=>ρ
 |v::vs=>(dC ρ vs).set v .emp
section
variable{Γ:Gm}{W:WX}{w w0 w1:Wd}{σ:L2.St}{ρ S:List Sl}
theorem Rel.clear(i:Nat)(h:Rel Γ w ρ S σ):∃w2,w2.H=w.H∧Ext w w2∧Rel Γ w2 (ρ.set i .emp) S (σ.set i none)∧w2.F=w.F∧w2.R=w.R:=by iterate
 by_cases hi:i<ρ.length
 ·obtain⟨s,hs⟩:∃s,ρ[i]? = some s:=⟨ρ[i],by simp[hi]⟩;obtain⟨o2,A,B,b2,h1,h2,h3,h4⟩:=h.own.env_at hs;have g:=h.good;have eAd:w.ad=A.map (·.1)++b2.map (·.1)++(B++w.C).map (·.1):=by show(w.E++w.C).map _=_;rw[h2];simp
  have nd:=g.nd;rw[eAd] at nd;obtain⟨q1,q2,q3⟩:=bB.mp nd;obtain⟨q4,q5,q6⟩:=bB.mp q1;have mem:∀p,p∈A++B++w.C->p∈w.E++w.C:=λp hp=>by
   rw[h2];simp only[List.mem_append] at hp ⊢;rcases hp with (z|z)|z<;>simp[z]
  refine⟨{ w with E:=A++B },rfl,⟨.refl,λ_ _ h _=>h,λa z=>?_,λ_ _ h=>.inl h,λ_ o h=>⟨o,h⟩⟩,⟨⟨g.sub,λp hp=>g.cell p (mem p hp),?_⟩,?_⟩,rfl,rfl⟩
  ·obtain⟨p,hp,rfl⟩:=ao.mp z;exact .inl (bf (mem p hp))
  ·show((A++B++w.C).map (·.1)).Nodup;rw[aK,aX];exact bB.mpr ⟨q4,q2,λa ha c hc=>q3 a (List.mem_append_left _ ha) c hc⟩
  ·have z:=h4 w.F (λ_ _ h=>h) .emp none [] rfl
   simpa using z
 ·have e1:ρ.set i .emp=ρ:=List.set_eq_of_length_le (by omega);have e2:σ.set i none=σ:=List.set_eq_of_length_le (by rw[<-h.own.1.length];omega);rw[e1,e2];exact⟨w,rfl,.refl w,h,rfl,rfl⟩
theorem Rel.wipe(h:Rel Γ w ρ S σ):∀vs:List Nat,∃w2,w2.H=w.H∧Ext w w2∧Rel Γ w2 (dC ρ vs) S (L2.wipe σ vs)∧w2.F=w.F∧w2.R=w.R
 |[]=>⟨w,rfl,.refl w,h,rfl,rfl⟩
 |v::vs=>by
  obtain⟨w2,a,b,c,d,e⟩:=h.wipe vs;obtain⟨w3,a',b',c',d',e'⟩:=c.clear v;exact⟨w3,a'.trans a,b.trans b',c',d'.trans d,e'.trans e⟩
theorem N6(ρ:List Sl):∀(vs:List Nat) (v:Nat),v∈vs->∀s,(dC ρ vs)[v]? = some s->s=.emp
 |v::vs,u,hu,s,e=>by
  rw[dC] at e
  by_cases z:v=u
  ·subst z;have hl:v<(dC ρ vs).length:=by
    have:=(bx.mp e).1;rwa[bM] at this
   rw[List.getElem?_set_self hl] at e;cases e;rfl
  ·rw[List.getElem?_set_ne z] at e;rcases au.mp hu with y|y
   ·exact absurd y.symm z
   ·exact N6 ρ vs u y s e
theorem jC{σ:L2.St}:∀{vs:List Nat} {j:Nat},j∉vs->(L2.wipe σ vs)[j]? = σ[j]?
 |[],j,h=>rfl
 |v::vs,j,h=>by
  simp only[List.mem_cons,not_or] at h;unfold L2.wipe;rw[List.getElem?_set_ne (Ne.symm h.1),jC h.2]
theorem xj{σ:L2.St}:∀{vs:List Nat} {j:Nat},j∈vs->j<σ.length->(L2.wipe σ vs)[j]? = some none
 |v::vs,j,h,hl=>by
  unfold L2.wipe
  by_cases z:v=j
  ·subst z;rw[List.getElem?_set_self (by rw[wipe_length];exact hl)]
  ·rw[List.getElem?_set_ne z];rcases au.mp h with y|y
   ·exact absurd y.symm z
   ·exact xj y hl
theorem jD{σ σ':L2.St}{vs:List Nat}(hl:σ'.length=σ.length)(h:∀j,j∉vs->σ'[j]? = σ[j]?):L2.wipe σ' vs=L2.wipe σ vs:=by
 apply List.ext_getElem?;intro j
 by_cases z:j∈vs
 ·by_cases hj:j<σ.length
  ·rw[xj z hj,xj z (by rw[hl];exact hj)]
  ·rw[List.getElem?_eq_none (by rw[wipe_length];omega),List.getElem?_eq_none (by rw[wipe_length];omega)]
 ·rw[jC z,jC z,h j z]
/-- of a slot that holds nothing nothing is asked -/
theorem OwnE.unwipe{R:List Addr}{F:Hp}:∀{ρ:List Sl} {σ σ':L2.St} {C:Cells},OwnE Γ R F ρ σ' C->σ.length=σ'.length->(∀(i:Nat) (s:Sl),ρ[i]? = some s->s≠.emp->σ[i]? = σ'[i]?)->OwnE Γ R F ρ σ C
 |[],σ,σ',C,h,hl,k=>by
  obtain⟨rfl,rfl⟩:=h;exact⟨List.length_eq_zero_iff.mp hl,rfl⟩
 |s::ρ,σ,σ',C,h,hl,k=>by
  obtain⟨o,r,c1,c2,e,q,l,e2⟩:=h;subst e e2;cases σ with
  |nil=>cases hl
  |cons o1 σ=>
   refine⟨o1,σ,c1,c2,rfl,?_,l.unwipe (by simpa using hl) (λi s hs n=>by simpa using k (i+1) s (by simpa using hs) n),rfl⟩
   by_cases z:s=.emp
   ·subst z;exact q
   ·have:=k 0 s rfl z;simp at this;subst this;exact q
theorem Rel.unwipe{vs:List Nat}(h:Rel Γ w (dC ρ vs) S (L2.wipe σ vs)):Rel Γ w (dC ρ vs) S σ:=
 ⟨h.good,h.own.1.unwipe (by rw[wipe_length]) (λi s hs n=>by
  by_cases z:i∈vs
  ·exact absurd (N6 ρ vs i z s hs) n
  ·rw[jC z]),h.own.2⟩
/-- an object that nobody else knows stands at D -/
structure Hid(D:Addr)(o:HO)(w:Wd):Prop where
  h:w.H D=some o
  f:w.F D=none
  n:D∉w.ad
theorem Hid.up{D:Addr}{o:HO}(h:Hid D o w)(nt:∀ps,o≠.tbl ps)(x:Ext w w1)(nt2:∀ps,o≠.tup ps:=by intro ps;exact nofun):Hid D o w1:=by
 refine⟨x.keep _ _ h.h h.n,?_,λz=>?_⟩
 ·cases q:w1.F D with
  |none=>rfl
  |some u=>
   rcases x.fnew _ _ q with z|z|z|⟨xs,z⟩
   ·rw[h.f] at z;cases z
   ·rw[h.h] at z;cases z
   ·exact absurd z h.n
   ·rw[h.h] at z;exact absurd (aZ z) (nt2 xs)
 ·rcases x.cnew _ z with y|y
  ·exact h.n y
  ·rw[h.h] at y;cases y
theorem Hid.put{D:Addr}{o o':HO}(h:Hid D o w)(x:Ext w0 w)(n0:w0.H D=none)(r:Rel Γ w ρ S σ):Ext w0 { w with H:=upd w.H D o' }∧Rel Γ { w with H:=upd w.H D o' } ρ S σ∧Hid D o' { w with H:=upd w.H D o' }:=by iterate
 have ne:∀{a:Addr} {u:HO},w0.H a=some u->a≠D:=λ{a u} e z=>by subst z;rw[n0] at e;cases e
 have g:=r.good;refine⟨⟨x.gr,λa u e ha=>?_,x.cnew,x.fnew,λa u e=>?_⟩,⟨⟨λa u e=>?_,λp hp=>⟨?_,(g.cell p hp).2⟩,g.nd⟩,r.own⟩,upd_same,h.f,h.n⟩
 ·show upd w.H D o' a=some u;rw[upd_ne (ne e)];exact x.keep a u e ha
 ·obtain⟨u',q⟩:=x.live a u e;exact⟨u',by show upd w.H D o' a=_;rw[upd_ne (ne e)];exact q⟩
 ·show upd w.H D o' a=some u;rw[upd_ne]
  ·exact g.sub a u e
  ·intro z;subst z;rw[h.f] at e;cases e
 ·show upd w.H D o' p.1=some p.2;rw[upd_ne]
  ·exact(g.cell p hp).1
  ·intro z;exact h.n (z ▸ bf hp)
end
abbrev W0:WX:=λ_ _ _ _=>False
def gj(vs:List Nat)(g:Tgt)(t:M Bool)(c:M Rv):List D->List D->M (List D)
 |[],acc=>λρ S=>.ok acc ρ S false
 |d::ds,acc=>λρ S=>match eX g d ρ with
  |none=>.bad
  |some ρ1=>match t ρ1 S with
   |.ok true ρ2 S2 _=>(match cD c ρ2 S2 with
    |.ok d' ρ3 S3 _=>if acc.length<sizeLine then gj vs g t c ds (acc++[d']) (dC ρ3 vs) S3 else .bad
    |_=>.bad)
   |.ok false ρ2 S2 _=>gj vs g t c ds acc (dC ρ2 vs) S2
   |_=>.bad
def cLc(ci:M (List D))(vs:List Nat)(g:Tgt)(t:M Bool)(c:M Rv):M Rv:=λρ S=>match ci ρ S with
 |.ok ds ρ1 S1 _=>(match gj vs g t c ds [] (dC ρ1 vs) S1 with
  |.ok acc ρ2 S2 _=>.ok (.fr (.lst acc)) ρ2 S2 true
  |_=>.bad)
 |.ex x ρ1 S1=>.ex x ρ1 S1
 |.bad=>.bad
def cYes:M Bool:=λρ S=>.ok true ρ S false
section
variable{X:Cx}{Γ:Gm}{W:WX}{P:List Nat}{elt tg iter:Expr}{ci:M (List D)}{vs:List Nat}{g:Tgt}{tt:M Bool}{c:M Rv}{t:TG}{pos:Pos}
theorem N7(ht:TgOk Γ t g)(hv:∀j∈g.slots,j∈vs){σ:L2.St}{H:Hp}{Q:VK}(h:tM Γ W (cLc ci vs g tt c) σ H Q):tLc (tI Γ W ci) t (tMb Γ W0 tt) (tM Γ W0 c) vs σ H Q:=by iterate
  obtain⟨F,E,C,R,ρ,S,rel,ck⟩:=h;refine⟨F,E,C,R,ρ,S,rel,?_⟩;unfold cLc at ck;cases q:ci ρ S with
  |bad=>rw[q] at ck;exact ck
  |ex y ρ1 S1=>rw[q] at ck;exact ck
  |ok ds ρ1 S1 _=>
    simp only[q] at ck;intro w1 J I x1 rel1 i1 walk Dd hD;have n0:H Dd=none:=x1.none_of hD;obtain⟨w2,eH2,x2,rel2,_,_⟩:=rel1.wipe vs;refine⟨λi m H'=>m=ds.length - i∧i≤ds.length∧∃w ρ S accD acc,w.H=H'∧Ext ⟨F,E,C,R,H⟩ w∧Rel Γ w (dC ρ vs) S (L2.wipe σ vs)∧I w∧Hid Dd (.lst acc) w∧RepL Γ w.R w.F accD acc ∧
        CK Γ W ⟨F,E,C,R,H⟩ σ Q (match gj vs g tt c (ds.drop i) accD (dC ρ vs) S with|.ok acc ρ2 S2 _=>.ok (.fr (.lst acc)) ρ2 S2 true|_=>.bad),
      ⟨ds.length,by simp,Nat.zero_le _,?_⟩,?_⟩
    · have hD2 : w2.H Dd = none := by rw [eH2]; exact hD
      obtain⟨f1,f2⟩:=rel2.good.none_of hD2;refine⟨{ w2 with H:=upd w2.H Dd (.lst []) },ρ1,S1,[],[],by rw[eH2],(x1.trans x2).trans (.new rel2.good hD2),rel2.move .refl (.new rel2.good hD2) rfl rfl rfl,?_,⟨upd_same,f1,f2⟩,by rw[RepL],ck⟩
      exact walk.up _ _ (walk.up _ _ i1 x2.gr) .refl
    · rintro i m H2 ⟨rfl, hi, w3, ρ3, S3, accD, acc, eH, x3, rel3, i3, hid, racc, ck3⟩
      subst eH
      by_cases hlt:i<ds.length
      · have ed : ds[i]? = some ds[i] := by simp [hlt]
        rw[List.drop_eq_getElem_cons hlt] at ck3;obtain⟨go,turn⟩:=walk.go i w3 _ i3 rel3.good ed;refine .inr ⟨go,λH'=>∃w ρ S accD acc,w.H=H'∧Ext ⟨F,E,C,R,H⟩ w∧Rel Γ w (dC ρ vs) S (L2.wipe σ vs)∧I w∧Hid Dd (.lst acc) w∧RepL Γ w.R w.F accD acc ∧
          CK Γ W ⟨F,E,C,R,H⟩ σ Q (match gj vs g tt c (ds.drop (i+1)) accD (dC ρ vs) S with|.ok acc ρ2 S2 _=>.ok (.fr (.lst acc)) ρ2 S2 true|_=>.bad),
          λH' z=>⟨ds.length - (i+1),by omega,rfl,hlt,z⟩,λx H' y=>?_⟩
        obtain⟨w4,eH4,x4,eE,eC,eR,g4,r4⟩:=turn x H' y;subst eH4;have rel4:=rel3.move x4.gr g4 eE eC eR;simp only[gj] at ck3;cases q2:eX g ds[i] (dC ρ3 vs) with
        |none=>simp only[q2] at ck3;exact ck3.elim
        |some ρ5=>
          simp only[q2] at ck3;refine ht w4 _ S3 _ _ x ρ5 _ rel4 r4 q2 λw5 σ5 eH5 x5 eF5 eR5 rel5 same len=>⟨?_,?_⟩
          · rw [jD (σ := L2.wipe σ vs) len fun j hj => same j fun z => hj (hv j z)]
            exact jD (by rw[wipe_length]) λj hj=>jC hj
          · have ew:L2.wipe σ5 vs=L2.wipe σ vs:=by
              rw[jD (σ:=L2.wipe σ vs) len λj hj=>same j λz=>hj (hv j z)];exact jD (by rw[wipe_length]) λj hj=>jC hj
            have x05:=(x3.trans x4).trans x5;have i5:=walk.up _ _ (walk.up _ _ i3 x4.gr) x5.gr;have hid5:=(hid.up (λ_ z=>nomatch z) x4).up (λ_ z=>nomatch z) x5;have racc5:=fQ x5.gr (fQ x4.gr racc);refine⟨w5.F,w5.E,w5.C,w5.R,ρ5,S3,rel5,?_⟩;cases q3:tt ρ5 S3 with
            |bad=>simp only[q3] at ck3;exact ck3
            |ex y ρ6 S6=>simp only[q3] at ck3;exact ck3.elim
            |ok k ρ6 S6 t6=>
              intro w6 x6 _ rel6;have x06:=x05.trans x6;have i6:=walk.up _ _ i5 x6.gr;have hid6:=hid5.up (λ_ z=>nomatch z) x6;have racc6:=fQ x6.gr racc5;cases k with
              |false=>
                simp only[q3] at ck3;rw[if_neg Bool.false_ne_true];obtain⟨w7,eH7,x7,rel7,_,_⟩:=rel6.wipe vs;rw[ew] at rel7;exact⟨w7,ρ6,S6,accD,acc,eH7,x06.trans x7,rel7,walk.up _ _ i6 x7.gr,hid6.up (λ_ z=>nomatch z) x7,fQ x7.gr racc6,ck3⟩
              |true=>
                simp only[q3] at ck3;rw[if_pos rfl];refine⟨w6.F,w6.E,w6.C,w6.R,ρ6,S6,rel6,?_⟩;cases q4:cD c ρ6 S6 with
                |bad=>simp only[q4] at ck3;exact ck3.elim
                |ex y ρ7 S7=>simp only[q4] at ck3;exact ck3.elim
                |ok d7 ρ7 S7 t7=>
                  simp only[q4] at ck3;refine oG q4 λw7 v x7 rel7 r7=>?_;have hid7:=hid6.up (λ_ z=>nomatch z) x7;have racc7:=fQ x7.gr racc6
                  by_cases hl:accD.length<sizeLine
                  · simp only [if_pos hl] at ck3
                    refine⟨acc,hid7.h,by rw[<-racc7.length];exact hl,?_⟩;obtain⟨x8,rel8,hid8⟩:=hid7.put (o':=.lst (acc++[v])) (x06.trans x7) n0 rel7;obtain⟨w9,eH9,x9,rel9,_,_⟩:=rel8.wipe vs;rw[ew] at rel9;exact⟨w9,ρ7,S7,accD++[d7],acc++[v],eH9,x8.trans x9,rel9,walk.up w7 w9 (walk.up _ _ i6 x7.gr) x9.gr,hid8.up (λ_ z=>nomatch z) x9,
                      (racc7.app (ys:=[d7]) (ys':=[v]) (by rw[RepL];exact⟨v,[],rfl,r7,by rw[RepL]⟩)).up x9.gr,ck3⟩
                  · simp only [if_neg hl] at ck3
                    exact ck3.elim
      · have e : i = ds.length := by omega
        subst e;refine .inl ⟨walk.stop w3 i3 rel3.good,?_⟩;rw[List.drop_length] at ck3;simp only[gj] at ck3;refine ck3 w3 (.ref Dd) x3 (λz=>nomatch z) rel3.unwipe ⟨[(Dd,.lst acc)],?_,⟨λp hp=>?_,by simp⟩,λp hp=>?_⟩
        · rw[Own];exact⟨Dd,acc,rfl,racc,rfl⟩
        · have e : p = (Dd, .lst acc) := by simpa using hp
          subst e;exact⟨hid.h,hid.f,hid.n⟩
        · have e : p = (Dd, .lst acc) := by simpa using hp
          subst e;exact .inl n0
theorem lu{X:Cx}:PTs X [] (tMb Γ W0 cYes):=⟨λpins s σ H Q I ⟨F,E,C,R,ρ,S,rel,ck⟩=>pts_nil.run pins s σ H Q I (ck ⟨F,E,C,R,H⟩ (.refl _) (λ_=>rfl) rel)⟩
theorem zrB{X:Cx}{e:Expr}(h:PT X e (tMb Γ W0 tt)):PTs X [e] (tMb Γ W0 tt):=pts_one h
section
variable{scope:Scope}{own:List (Str×Nat)}{ifs:List Expr}
theorem N8(hc:X.calm=true)(hN:X.N.Nodup)(hi:PI X tg iter (tI Γ W ci))(ok:BlkOk X.N X.env.scope scope own)(ht:TgOk Γ t g)(hv:∀j∈g.slots,j∈own.map (·.2))
  (hg:∀(s:Shared) (H:Hp) (C:Addr) (cl:List (Str×Addr)) (fp:List Addr),PG (X.blk s H scope (compEnvC scope cl C X.env) fp) tg t) (hts:∀(s:Shared) (H:Hp) (C:Addr) (cl:List (Str×Addr)) (fp:List Addr),PTs (X.blk s H scope (compEnvC scope cl C X.env) fp) ifs (tMb Γ W0 tt))
  (he:∀(s:Shared) (H:Hp) (C:Addr) (cl:List (Str×Addr)) (fp:List Addr),PE (X.blk s H scope (compEnvC scope cl C X.env) fp) elt (tM Γ W0 c)) (hs:∀x,foldedSetIterable iter X.env x=pure x) :
  PE X (.ListComp elt [⟨tg,iter,ifs,0⟩] scope pos) (tM Γ W (cLc ci (own.map (·.2)) g tt c)):=
 (pe_lc hc hN hi ok hg hts he hs).imp λ_ _ _ h=>N7 ht hv h
end
end
end
section
def Sl.one:Sl->Bool
 |.lst _=>true
 |.dK _=>true
 |.dT _=>true
 |_=>false
def Sl.one?(s:Sl):Option Sl:=if s.one then some s else none
def getP(r:Rv)(ρ S:List Sl):Option Sl:=match r with
 |.env i=>(ρ[i]?).bind Sl.one?
 |.d (.ob j)=>(S[j]?).bind Sl.one?
 |_=>none
def putP(r:Rv)(s:Sl)(ρ S:List Sl):List Sl×List Sl:=match r with
 |.env i=>(ρ.set i s,S)
 |.d (.ob j)=>(ρ,S.set j s)
 |_=>(ρ,S)
def Rv.isEnv:Rv->Bool
 |.env _=>true
 |_=>false
section
variable{Γ:Gm}{W:WX}{w w0 w1:Wd}{σ:L2.St}{ρ S:List Sl}
theorem one_of{s s':Sl}(h:s.one? = some s'):s'=s∧s.one=true:=by
 unfold Sl.one? at h;split at h
 ·cases h;exact⟨rfl,by assumption⟩
 ·cases h
theorem Own.one_of{R:List Addr}{F:Hp}{s:Sl}{v:V}{c:Cells}(e:s.one=true)(h:Own Γ R F s v c):∃a o,v=.ref a∧c=[(a,o)]:=by
 cases s with
 |lst xs=>rw[Own] at h;obtain⟨a,ys,e1,_,e2⟩:=h;exact⟨a,_,e1,e2⟩
 |dK xs=>rw[Own] at h;obtain⟨a,ys,e1,_,e2⟩:=h;exact⟨a,_,e1,e2⟩
 |dT xs=>rw[Own] at h;obtain⟨a,ys,e1,_,e2⟩:=h;exact⟨a,_,e1,e2⟩
 |_=>cases e
/-- one cell is written -/
theorem Good.put{A B E' C':Cells}{a:Addr}{ob o':HO}(g:Good w)(e:w.E++w.C=A++[(a,ob)]++B)(e':E'++C'=A++[(a,o')]++B) :
  Good ⟨w.F,E',C',w.R,upd w.H a o'⟩∧Ext w ⟨w.F,E',C',w.R,upd w.H a o'⟩:=by iterate
 have ha:=g.cell (a,ob) (by rw[e];simp);have nd:=g.nd;have ead:w.ad=A.map (·.1)++[a]++B.map (·.1):=by show(w.E++w.C).map _=_;rw[e];simp
 have ead':(E'++C').map (·.1)=w.ad:=by rw[ead,e'];simp
 rw[ead] at nd;have inA:a∈w.ad:=by rw[ead];simp
 have neA:∀p,p∈A∨p∈B->p.1≠a:=by
  intro p hp z;obtain⟨n1,n2,n3⟩:=bB.mp nd;obtain⟨n4,n5,n6⟩:=bB.mp n1;rcases hp with y|y
  ·exact n6 _ (List.mem_map_of_mem y) a (by simp) z
  ·exact n3 a (by simp) _ (List.mem_map_of_mem y) z.symm
 refine⟨⟨λb u h=>?_,λp hp=>?_,?_⟩,⟨.refl,λb u h n=>?_,λb z=>.inl ?_,λ_ _ h=>.inl h,λb u h=>?_⟩⟩
 ·have ne:b≠a:=λz=>by subst z;rw[show w.F b=none from ha.2] at h;cases h
  show upd w.H a o' b=some u;rw[upd_ne ne];exact g.sub _ _ h
 ·have hp:p∈A++[(a,o')]++B:=by rw[<-e'];exact hp
  simp only[List.mem_append,List.mem_singleton] at hp;have other:p∈A∨p∈B->upd w.H a o' p.1=some p.2∧w.F p.1=none:=λh=>by
   rw[upd_ne (neA p h)];exact g.cell p (by rw[e];simp only[List.mem_append];rcases h with h|h<;>simp[h])
  rcases hp with (hp|hp)|hp
  ·exact other (.inl hp)
  ·subst hp;exact⟨upd_same,ha.2⟩
  ·exact other (.inr hp)
 ·show((E'++C').map (·.1)).Nodup;rw[ead'];exact g.nd
 ·show upd w.H a o' b=some u;rw[upd_ne (λz=>n (by rw[z];exact inA))];exact h
 ·have z:b∈(E'++C').map (·.1):=z;rw[ead'] at z;exact z
 ·by_cases z:b=a
  ·subst z;exact⟨o',upd_same⟩
  ·exact⟨u,by show upd w.H a o' b=_;rw[upd_ne z];exact h⟩
theorem Rel.place{r:Rv}{v:V}{s:Sl}(h:Rel Γ w ρ S σ)(o:RvOk Γ w0 w σ r v)(e:getP r ρ S=some s):∃a ob,v=.ref a∧w.H a=some ob∧Own Γ w.R w.F s v [(a,ob)] ∧
  ∀s' o',Own Γ w.R w.F s' v [(a,o')]->∃w',w'.H=upd w.H a o'∧Ext w w'∧(r.isEnv=false->w'.E=w.E)∧Rel Γ w' (putP r s' ρ S).1 (putP r s' ρ S).2 σ∧w'.R=w.R∧w'.F=w.F:=by iterate
 cases r with
 |env i=>
  have e:(ρ[i]?).bind Sl.one? = some s:=e;have o:σ[i]? = some (some v):=o;cases q:ρ[i]? with
  |none=>rw[q] at e;cases e
  |some s1=>
   rw[q] at e;obtain⟨e1,e2⟩:=DV.one_of e;subst e1;obtain⟨o1,A,B,b,h1,h2,h3,h4⟩:=h.own.env_at q;rw[o] at h1;cases h1;obtain⟨v',ev,ow⟩:=OwnO.of_ne h3 (λz=>by subst z;cases e2);cases ev;obtain⟨a,ob,e3,e4⟩:=Own.one_of e2 ow;subst e4;refine⟨a,ob,e3,(h.good.cell (a,ob) (by rw[h2];simp)).1,ow,λs' o' ow'=>?_⟩;obtain⟨g',x'⟩:=h.good.put (a:=a) (ob:=ob) (o':=o') (A:=A) (B:=B++w.C) (E':=A++[(a,o')]++B) (C':=w.C) (by rw[h2];simp) (by simp);refine⟨_,rfl,x',λz=>absurd (show true=false from z) (by decide),⟨g',?_⟩,rfl,rfl⟩
   have z:=h4 w.F (λ_ _ h=>h) s' (some v) _ (.mk ow');rw[set_same o] at z;exact z
 |d x=>
  cases x with
  |ob j=>
   have e:(S[j]?).bind Sl.one? = some s:=e;have o:Rep Γ w.R w.F (.ob j) v:=o;cases q:S[j]? with
   |none=>rw[q] at e;cases e
   |some s1=>
    rw[q] at e;obtain⟨e1,e2⟩:=DV.one_of e;subst e1;obtain⟨a',A,B,b,h1,h2,h3,h4⟩:=h.own.sto_at q;rw[Rep] at o;obtain⟨a,e5,e6⟩:=o;rw[h1] at e5;cases e5;subst e6;obtain⟨v',ev,ow⟩:=OwnO.of_ne h3 (λz=>by subst z;cases e2);cases ev;obtain⟨a,ob,e3,e4⟩:=Own.one_of e2 ow;cases e3;subst e4;refine⟨a',ob,rfl,(h.good.cell (a',ob) (by rw[h2];simp)).1,ow,λs' o' ow'=>?_⟩;obtain⟨g',x'⟩:=h.good.put (a:=a') (ob:=ob) (o':=o') (A:=w.E++A) (B:=B) (E':=w.E) (C':=A++[(a',o')]++B) (by rw[h2];simp) (by simp);exact⟨_,rfl,x',λ_=>rfl,⟨g',h4 w.F (λ_ _ h=>h) s' _ (.mk ow')⟩,rfl,rfl⟩
  |_=>cases e
 |fr _=>cases e
end
def cPut(g:Sl->D->D->Option Sl)(c co ci:M Rv):M Fl:=λρ S=>(cD c ρ S).bind λd ρ S=>(co ρ S).bind λro ρ S=>(ci ρ S).bind λri ρ S=>match getP ro ρ S,cont ρ S ri with
 |some s,some k=>(match g s k d with
  |some s'=>.ok .nx (putP ro s' ρ S).1 (putP ro s' ρ S).2 false
  |none=>.bad)
 |_,_=>.bad
def ji(Γ:Gm)(g:Sl->D->D->Option Sl)(t:TSet):Prop:=∀(w:Wd) (a:Addr) (ob:HO) (s s':Sl) (k d:D) (vk vd:V) (Q:Hp->Prop),Good w->w.H a=some ob->Own Γ w.R w.F s (.ref a) [(a,ob)]->Top Γ w k vk->Rep Γ w.R w.F d vd->g s k d=some s'->
 (∀o',Own Γ w.R w.F s' (.ref a) [(a,o')]->Q (upd w.H a o'))->t (.ref a) vk vd w.H Q
def puk{κ:Type}[DecidableEq κ](kvs:List (κ×D))(k:κ)(d:D):List (κ×D):=
 if(kvs.any λkv=>decide (kv.1=k))=true then kvs.map (λkv=>if kv.1=k then(kv.1,d) else kv) else kvs++[(k,d)]
def stL:Sl->D->D->Option Sl
 |.lst xs,.int k,d=>(ixN xs.length k).map λj=>.lst (xs.set j d)
 |_,_,_=>none
def stD:Sl->D->D->Option Sl
 |.dK kvs,k,d=>if kvs.length<sizeLine then(keyD k).map λk=>.dK (puk kvs k d) else none
 |.dT kvs,.tup ks,d=>if kvs.length<sizeLine then(gH ks).map λk=>.dT (puk kvs k d) else none
 |_,_,_=>none
def stS:Sl->D->D->Option Sl:=λs k d=>(stL s k d).or (stD s k d)
theorem _root_.L2.PSet.or{X:Cx}{t t':TSet}(h:PSet X t)(h':PSet X t'):PSet X (λo i v H Q=>t o i v H Q∨t' o i v H Q):=λpins s σ H o i v ov iv u Q I ro ri rv hq=>hq.elim (h pins s σ H o i v ov iv u Q I ro ri rv) (h' pins s σ H o i v ov iv u Q I ro ri rv)
section
variable{Γ:Gm}{W:WX}{P:List Nat}{w w0 w1:Wd}{σ:L2.St}{ρ S:List Sl}{X:Cx}
theorem ji.or{g g':Sl->D->D->Option Sl}{t t':TSet}(h:ji Γ g t)(h':ji Γ g' t'):ji Γ (λs k d=>(g s k d).or (g' s k d)) (λo i v H Q=>t o i v H Q∨t' o i v H Q):=by
 intro w a ob s s' k d vk vd Q gd ha ow tk rd e q;cases e1:g s k d with
 |some z=>
  simp only[e1,Option.or] at e;cases e;exact .inl (h w a ob s s' k d vk vd Q gd ha ow tk rd e1 q)
 |none=>
  simp only[e1,Option.or] at e;exact .inr (h' w a ob s s' k d vk vd Q gd ha ow tk rd e q)
theorem RepL.set{R:List Addr}{F:Hp}{d:D}{v:V}(r:Rep Γ R F d v):∀{xs:List D} {ys:List V} (j:Nat),RepL Γ R F xs ys->RepL Γ R F (xs.set j d) (ys.set j v)
 |[],ys,j,h=>by rw[RepL] at h;subst h;simp[RepL]
 |x::xs,ys,0,h=>by
  rw[RepL] at h;obtain⟨y,r',e,q,l⟩:=h;subst e;rw[List.set_cons_zero,List.set_cons_zero,RepL];exact⟨v,r',rfl,r,l⟩
 |x::xs,ys,j+1,h=>by
  rw[RepL] at h;obtain⟨y,r',e,q,l⟩:=h;subst e;rw[List.set_cons_succ,List.set_cons_succ,RepL];exact⟨y,_,rfl,q,RepL.set r j l⟩
theorem sL:ji Γ stL rSetL:=by
 intro w a ob s s' k d vk vd Q gd ha ow tk rd e q;cases s with
 |lst xs=>
  cases k with
  |int k=>
   obtain⟨j,e1,e2⟩:=aW.mp e;subst e2;rw[Own] at ow;obtain⟨a',ys,e3,l,e4⟩:=ow;cases e3;cases e4;refine⟨a,ys,k,j,rfl,dX tk,ha,by rw[<-l.length];exact e1,q _ ?_⟩;rw[Own];exact⟨a,_,rfl,l.set rd j,rfl⟩
  |_=>cases e
 |_=>cases e
theorem RepK.any{R:List Addr}{F:Hp}(k:Key):∀{xs:List (Key×D)} {ys:List (Key×V)},RepK Γ R F xs ys->(xs.any λkv=>decide (kv.1=k))=(ys.any λkv=>decide (kv.1=k))
 |[],ys,h=>by rw[RepK] at h;subst h;rfl
 |(j,x)::xs,ys,h=>by
  rw[RepK] at h;obtain⟨y,r,e,q,l⟩:=h;subst e;simp only[List.any_cons,RepK.any k l]
theorem RepT.any{R:List Addr}{F:Hp}(k:List Key):∀{xs:List (List Key×D)} {ys:List (List Key×V)},RepT Γ R F xs ys->(xs.any λkv=>decide (kv.1=k))=(ys.any λkv=>decide (kv.1=k))
 |[],ys,h=>by rw[RepT] at h;subst h;rfl
 |(j,x)::xs,ys,h=>by
  rw[RepT] at h;obtain⟨y,r,e,q,l⟩:=h;subst e;simp only[List.any_cons,RepT.any k l]
theorem RepK.map{R:List Addr}{F:Hp}(k:Key){d:D}{v:V}(rd:Rep Γ R F d v):∀{xs:List (Key×D)} {ys:List (Key×V)},RepK Γ R F xs ys->RepK Γ R F (xs.map (λkv=>if kv.1=k then(kv.1,d) else kv)) (ys.map (λkv=>if kv.1=k then(kv.1,v) else kv))
 |[],ys,h=>by rw[RepK] at h;subst h;simp[RepK]
 |(j,x)::xs,ys,h=>by
  rw[RepK] at h;obtain⟨y,r,e,q,l⟩:=h;subst e;rw[ak,ak]
  by_cases z:j=k
  ·simp only[z,if_true,RepK];exact⟨v,_,rfl,rd,RepK.map k rd l⟩
  ·simp only[z,if_false,RepK];exact⟨y,_,rfl,q,RepK.map k rd l⟩
theorem RepT.map{R:List Addr}{F:Hp}(k:List Key){d:D}{v:V}(rd:Rep Γ R F d v):∀{xs:List (List Key×D)} {ys:List (List Key×V)},RepT Γ R F xs ys->RepT Γ R F (xs.map (λkv=>if kv.1=k then(kv.1,d) else kv)) (ys.map (λkv=>if kv.1=k then(kv.1,v) else kv))
 |[],ys,h=>by rw[RepT] at h;subst h;simp[RepT]
 |(j,x)::xs,ys,h=>by
  rw[RepT] at h;obtain⟨y,r,e,q,l⟩:=h;subst e;rw[ak,ak]
  by_cases z:j=k
  ·simp only[z,if_true,RepT];exact⟨v,_,rfl,rd,RepT.map k rd l⟩
  ·simp only[z,if_false,RepT];exact⟨y,_,rfl,q,RepT.map k rd l⟩
theorem RepK.snoc{R:List Addr}{F:Hp}{k:Key}{d:D}{v:V}(rd:Rep Γ R F d v):∀{xs:List (Key×D)} {ys:List (Key×V)},RepK Γ R F xs ys->RepK Γ R F (xs++[(k,d)]) (ys++[(k,v)])
 |[],ys,h=>by rw[RepK] at h;subst h;show RepK Γ R F [(k,d)] [(k,v)];rw[RepK];exact⟨v,[],rfl,rd,by rw[RepK]⟩
 |(j,x)::xs,ys,h=>by
  rw[RepK] at h;obtain⟨y,r,e,q,l⟩:=h;subst e;rw[bQ,bQ,RepK];exact⟨y,_,rfl,q,RepK.snoc rd l⟩
theorem RepT.snoc{R:List Addr}{F:Hp}{k:List Key}{d:D}{v:V}(rd:Rep Γ R F d v):∀{xs:List (List Key×D)} {ys:List (List Key×V)},RepT Γ R F xs ys->RepT Γ R F (xs++[(k,d)]) (ys++[(k,v)])
 |[],ys,h=>by rw[RepT] at h;subst h;show RepT Γ R F [(k,d)] [(k,v)];rw[RepT];exact⟨v,[],rfl,rd,by rw[RepT]⟩
 |(j,x)::xs,ys,h=>by
  rw[RepT] at h;obtain⟨y,r,e,q,l⟩:=h;subst e;rw[bQ,bQ,RepT];exact⟨y,_,rfl,q,RepT.snoc rd l⟩
theorem RepK.length{R:List Addr}{F:Hp}:∀{xs:List (Key×D)} {ys:List (Key×V)},RepK Γ R F xs ys->xs.length=ys.length
 |[],ys,h=>by rw[RepK] at h;subst h;rfl
 |(j,x)::xs,ys,h=>by
  rw[RepK] at h;obtain⟨y,r,e,q,l⟩:=h;subst e;simp[RepK.length l]
theorem RepT.length{R:List Addr}{F:Hp}:∀{xs:List (List Key×D)} {ys:List (List Key×V)},RepT Γ R F xs ys->xs.length=ys.length
 |[],ys,h=>by rw[RepT] at h;subst h;rfl
 |(j,x)::xs,ys,h=>by
  rw[RepT] at h;obtain⟨y,r,e,q,l⟩:=h;subst e;simp[RepT.length l]
theorem RepK.put{R:List Addr}{F:Hp}{k:Key}{d:D}{v:V}(rd:Rep Γ R F d v){xs:List (Key×D)}{ys:List (Key×V)}(h:RepK Γ R F xs ys):RepK Γ R F (puk xs k d) (putK ys k v):=by
 unfold puk putK;rw[h.any k];split
 ·exact h.map k rd
 ·exact h.snoc rd
theorem RepT.put{R:List Addr}{F:Hp}{k:List Key}{d:D}{v:V}(rd:Rep Γ R F d v){xs:List (List Key×D)}{ys:List (List Key×V)}(h:RepT Γ R F xs ys):RepT Γ R F (puk xs k d) (putK ys k v):=by
 unfold puk putK;rw[h.any k];split
 ·exact h.map k rd
 ·exact h.snoc rd
theorem sD:ji Γ stD rSetD:=by iterate
 intro w a ob s s' k d vk vd Q gd ha ow tk rd e q;cases s with
 |dK kvs=>
  simp only[stD] at e;split at e
  ·rename_i hl;obtain⟨j,e1,e2⟩:=aW.mp e;subst e2;rw[Own] at ow;obtain⟨a',ys,e3,l,e4⟩:=ow;cases e3;cases e4;have rx:Rep Γ w.R w.F k vk:=tk.rep_of (by cases k<;>first|exact .inl rfl|(simp[keyD] at e1)) (λk z=>by subst z;simp[keyD] at e1) (λk z=>by subst z;simp[keyD] at e1)
   rw[wj e1 rx];refine⟨a,_,rfl,DPut.k ha (by rw[<-l.length];exact hl),q _ ?_⟩;rw[Own];exact⟨a,_,rfl,l.put rd,rfl⟩
  ·cases e
 |dT kvs=>
  cases k with
  |tup ks=>
   simp only[stD] at e;split at e
   ·rename_i hl;obtain⟨j,e1,e2⟩:=aW.mp e;subst e2;rw[Own] at ow;obtain⟨a',ys,e3,l,e4⟩:=ow;cases e3;cases e4;obtain⟨b,zs,ex,hb,lb⟩:=iD tk;have ez:=pX e1 lb;subst ez ex;refine⟨a,_,rfl,DPut.t ha (gd.sub _ _ hb) (by rw[<-l.length];exact hl),q _ ?_⟩;rw[Own];exact⟨a,_,rfl,l.put rd,rfl⟩
   ·cases e
  |_=>cases e
 |_=>cases e
theorem lw(hu:X.A.units+1<cLine):PSet X (λo i v H Q=>rSetL o i v H Q∨rSetD o i v H Q):=PSet.or set_list (set_dict hu)
theorem sAll:ji Γ stS (λo i v H Q=>rSetL o i v H Q∨rSetD o i v H Q):=ji.or sL sD
theorem lA{g:Sl->D->D->Option Sl}{t:TSet}{e o i:Expr}{c co ci:M Rv}{pos tpos:Pos}(hs:PSet X t)(ok:ji Γ g t)(he:PE X e (tM Γ W c))(ho:PE X o (tM Γ W co))(hi:PE X i (tM Γ W ci))
  (ha:∀v,assign (.Subscript o i tpos) X.env v=(do
   let ov <-holding [v] (eval o X.env)
   let iv <-holding [v,ov] (eval i X.env)
   standAt tpos
   holding [v,ov,iv] (setItem ov iv v)
   release [v,ov,iv] []))
  (h1:swapsWithSole [.Subscript o i tpos] e pos.line X.env=pure false) (h2:swappedStores [.Subscript o i tpos] e X.env=pure none) :
  PS X (.Assign [.Subscript o i tpos] e pos) (tS Γ W P (cPut g c co ci)):=
 (ps_asg he (pg_sub ho hi hs ha) h1 h2).imp λD σ H ⟨F,E,C,R,ρ,S,rel,sk⟩=>⟨F,E,C,R,ρ,S,rel,CK.datumS sk λd ρ1 S1 w1 v1 x1 rel1 o1 sk1=>
  ⟨w1.F,w1.E,w1.C,w1.R,ρ1,S1,rel1,CK.bindS (SK.ext x1 .refl sk1) λro ρ2 S2 w2 v2 x2 rel2 o2 sk2=>
   ⟨w2.F,w2.E,w2.C,w2.R,ρ2,S2,rel2,CK.bindS (SK.ext x2 .refl sk2) λri ρ3 S3 w3 v3 x3 rel3 o3 sk3=>by iterate
    cases e1:getP ro ρ3 S3 with
    |none=>simp only[e1] at sk3;exact sk3.elim
    |some s=>
     cases e2:cont ρ3 S3 ri with
     |none=>simp only[e1,e2] at sk3;exact sk3.elim
     |some k=>
      simp only[e1,e2] at sk3;cases e3:g s k d with
      |none=>simp only[e3] at sk3;exact sk3.elim
      |some s'=>
       simp only[e3] at sk3;obtain⟨a,ob,ev,ha,ow,fin⟩:=rel3.place (o2.up x3) e1;subst ev;refine ok w3 a ob s s' k d v3 v1 _ rel3.good ha ow (rel3.top o3 e2) ((o1.up x2.gr).up x3.gr) e3 λo' ow'=>?_;obtain⟨w',eH,x',_,rel',_,_⟩:=fin s' o' ow';rw[<-eH];exact sk3 w' σ (x3.trans x') .refl rel'⟩⟩⟩
end
def tyS:String->Sl->Bool
 |T,.lst _=>T == "list"
 |T,.dK _=>T == "dict"
 |T,.dT _=>T == "dict"
 |_,_=>false
/-- g: what is handed back,and the thing behind -/
def cMm(T:String)(g:Sl->List D->Option (D×Sl))(co:M Rv)(cs:M (List D)):M Rv:=λρ S=>(co ρ S).bind λro ρ S=>match getP ro ρ S with
 |some s0=>if tyS T s0=true then(cs ρ S).bind λds ρ S=>(match getP ro ρ S with
  |some s=>(match g s ds with
   |some (d,s')=>.ok (.d d) (putP ro s' ρ S).1 (putP ro s' ρ S).2 ro.isEnv
   |none=>.bad)
  |none=>.bad) else .bad
 |none=>.bad
def MmOk(Γ:Gm)(g:Sl->List D->Option (D×Sl))(r:V->List V->Hp->VK->Prop):Prop:=∀(w:Wd) (a:Addr) (ob:HO) (s s':Sl) (d:D) (ds:List D) (vs:List V) (Q:VK),Good w->w.H a=some ob->Own Γ w.R w.F s (.ref a) [(a,ob)]->RepL Γ w.R w.F ds vs->g s ds=some (d,s')->
 (∀o' v,Own Γ w.R w.F s' (.ref a) [(a,o')]->Rep Γ w.R w.F d v->Q v (upd w.H a o'))->r (.ref a) vs w.H Q
section
variable{Γ:Gm}{W:WX}{P:List Nat}{w w0 w1:Wd}{σ:L2.St}{ρ S:List Sl}{X:Cx}{o e:Expr}{es:List Expr}{co:M Rv}{cs:M (List D)}{name:Str}{apos cpos:Pos}{T id:String}{g:Sl->List D->Option (D×Sl)}{r:V->List V->Hp->VK->Prop}
theorem zxP{K:yF}{R:List Addr}{F:Hp}{s:Sl}{a:Addr}{ob:HO}(e:tyS T s=true)(h:w.H a=some ob)(ow:Own Γ R F s (.ref a) [(a,ob)]):tyV K T (.ref a) w.H:=by iterate
 cases s with
 |lst xs=>rw[Own] at ow;obtain⟨a',ys,ev,l,ec⟩:=ow;cases ev;cases ec;exact .inl ⟨beq_iff_eq.mp e,ys,SqL.of h⟩
 |dK xs=>rw[Own] at ow;obtain⟨a',ys,ev,l,ec⟩:=ow;cases ev;cases ec;exact .inr (.inr (.inl ⟨beq_iff_eq.mp e,.inl ⟨ys,h⟩⟩))
 |dT xs=>rw[Own] at ow;obtain⟨a',ys,ev,l,ec⟩:=ow;cases ev;cases ec;exact .inr (.inr (.inl ⟨beq_iff_eq.mp e,.inr ⟨ys,h⟩⟩))
 |_=>cases e
theorem zt4(hg:MmOk Γ g r){Q:VK}(h:tM Γ W (cMm T g co cs) σ w.H Q):tBM X.K T r (tM Γ W co) (tMl Γ W cs) σ w.H Q:=by iterate
 obtain⟨F,E,C,R,ρ,S,rel,ck⟩:=h;refine⟨F,E,C,R,ρ,S,rel,CK.bind ck λro ρ1 S1 w1 v1 x1 rel1 o1 ck1=>?_⟩;cases e1:getP ro ρ1 S1 with
 |none=>simp only[e1] at ck1;exact ck1.elim
 |some s0=>
  simp only[e1] at ck1;split at ck1
  ·rename_i ht;obtain⟨a,ob,ev,ha,ow,_⟩:=rel1.place o1 e1;subst ev;refine⟨zxP ht ha ow,w1.F,w1.E,w1.C,w1.R,ρ1,S1,rel1,CKl.bindV ck1 λds ρ2 S2 w2 vs x2 rel2 o2 ck2=>?_⟩;cases e2:getP ro ρ2 S2 with
   |none=>simp only[e2] at ck2;exact ck2.elim
   |some s=>
    simp only[e2] at ck2;cases e3:g s ds with
    |none=>simp only[e3] at ck2;exact ck2.elim
    |some p=>
     obtain⟨d,s'⟩:=p;simp only[e3] at ck2;obtain⟨a',ob',ev',ha',ow',fin⟩:=rel2.place (o1.up x2) e2;cases ev';refine hg w2 a ob' s s' d ds vs Q rel2.good ha' ow' o2 e3 λo' v ow2 rv=>?_;obtain⟨w',eH,x',eE,rel',eR,eF⟩:=fin s' o' ow2;rw[<-eH];exact ck2 w' v x' eE rel' (show Rep Γ w'.R w'.F d v by rw[eR,eF];exact rv)
  ·exact ck1.elim
theorem zyP(pa:PlainAttrs T)(slot:Slot T name id)(hty:typeOf (.builtin id)=pure (.type "method_descriptor")) (hm:MtR X id r) (hg:MmOk Γ g r) (ho:PE X o (tM Γ W co)) (ha:PA X (e::es) (tMl Γ W cs))
  (hbase:attributeBase o name X.env (eval o X.env)=eval o X.env)
  (hfew:((backTo cpos (starEach (e::es) X.env)).all (λx=>!x.1) && (backToKw cpos (keywordEach [] X.env)).all (λx=>x.1.isSome)
   && decide ((e::es).length+([]:List Keyword).length+(if([]:List Keyword).isEmpty then 0 else 1)<30))=true)
  (hline:(apos.endLine == cpos.line)=true) (hs:starEach (e::es) X.env=(false,eval e X.env)::starEach es X.env) (hplain:(backTo cpos (starEach es X.env)).any (·.1)=false) :
  PE X (.Call (.Attribute o name apos) (e::es) [] cpos) (tM Γ W (cMm T g co cs)):=
 (pe_bm pa slot hty hm ho ha hbase hfew hline hs hplain).imp λσ H Q h=>zt4 (w:=⟨λ_=>none,[],[],[],H⟩) hg h
def oH:Sl->List D->Option (D×Sl)
 |.lst xs,[.int i]=>if -(2 ^ 63)≤i∧i<2 ^ 63 then(seqIndex? i xs.length).bind λk=>(xs[k]?).map λd=>(d,.lst (xs.eraseIdx k)) else none
 |_,_=>none
theorem RepL.eraseIdx{R:List Addr}{F:Hp}{xs:List D}{ys:List V}(k:Nat)(h:RepL Γ R F xs ys):RepL Γ R F (xs.eraseIdx k) (ys.eraseIdx k):=by
 rw[List.eraseIdx_eq_take_drop_succ,List.eraseIdx_eq_take_drop_succ];exact(h.take k).app (h.drop (k+1))
theorem zuT:MmOk Γ oH rPopAt:=by iterate
 intro w a ob s s' d ds vs Q gd ha ow rl e q
 match s,ds,e with
 |.lst xs,[.int i],e=>
  simp only[oH] at e;split at e
  ·rename_i hi;obtain⟨k,e0,e⟩:=Option.bind_eq_some_iff.mp e;obtain⟨x,e1,e2⟩:=aW.mp e;cases e2;rw[Own] at ow;obtain⟨a',ys,e3,l,e4⟩:=ow;cases e3;cases e4;rw[RepL] at rl;obtain⟨y,r',e5,ry,rn⟩:=rl;rw[RepL] at rn;subst e5 rn;rw[Rep] at ry;subst ry;obtain⟨v,hv,rv⟩:=l.get e1;refine⟨a,ys,i,k,v,rfl,rfl,ha,hi.1,hi.2,by rw[<-l.length];exact e0,hv,q _ _ ?_ rv⟩;rw[Own];exact⟨a,_,rfl,l.eraseIdx k,rfl⟩
  ·cases e
end
def jE(i:Nat)(r:Rv):M Fl:=λρ S=>match r with
 |.fr s=>if i<ρ.length∧s.one=true then .ok .nx (ρ.set i (.val (.ob S.length))) (S++[s]) false else .bad
 |_=>.bad
def cSto(i:Nat)(c:M Rv):M Fl:=λρ S=>(c ρ S).bind λr ρ S=>jE i r ρ S
section
variable{Γ:Gm}{W:WX}{P:List Nat}{w w0 w1:Wd}{σ:L2.St}{ρ S:List Sl}{X:Cx}
theorem OwnS.snoc{R:List Addr}{F:Hp}{s:Sl}{a:Addr}{c:Cells}(o:OwnO Γ R F s (some (.ref a)) c):∀{S:List Sl} {r:List Addr} {C:Cells},OwnS Γ R F S r C->OwnS Γ R F (S++[s]) (r++[a]) (C++c)
 |[],r,C,h=>by
  obtain⟨rfl,rfl⟩:=h;exact⟨a,[],c,[],rfl,o,⟨rfl,rfl⟩,by simp⟩
 |x::S,r,C,h=>by
  obtain⟨b,r',c1,c2,e1,q,l,e2⟩:=h;subst e1 e2;exact⟨b,r'++[a],c1,c2++c,rfl,q,OwnS.snoc o l,by simp⟩
/-- a new thing becomes the store's -/
theorem Rel.push{s:Sl}{v:V}(x:Ext w0 w1)(h:Rel Γ w1 ρ S σ)(o:RvOk Γ w0 w1 σ (.fr s) v)(e:s.one=true):∃w2,w2.H=w1.H∧Ext w0 w2∧Rel Γ w2 ρ (S++[s]) σ∧w2.E=w1.E∧Rep Γ w2.R w2.F (.ob S.length) v:=by iterate
 obtain⟨c,ow,f,b⟩:=o;obtain⟨a,ob,e1,e2⟩:=Own.one_of e ow;subst e1 e2;have g:=h.good;have gr:Gr w1.R (w1.R++[a]) w1.F w1.F:=⟨⟨[a],rfl⟩,λ_ _ h=>h⟩;have ha:=f.at_ (a,ob) (by simp)
 have ead:Wd.ad ⟨w1.F,w1.E,w1.C++[(a,ob)],w1.R++[a],w1.H⟩=w1.ad++[a]:=by show(w1.E++(w1.C++[(a,ob)])).map _=(w1.E++w1.C).map _++_;simp
 refine⟨⟨w1.F,w1.E,w1.C++[(a,ob)],w1.R++[a],w1.H⟩,rfl,⟨x.gr.trans gr,x.keep,λz hz=>?_,x.fnew,x.live⟩,⟨⟨g.sub,λp hp=>?_,?_⟩,h.own.1.up gr,?_⟩,rfl,?_⟩
 ·rw[ead] at hz;rcases aV.mp hz with y|y
  ·exact x.cnew z y
  ·have y:z=a:=by simpa using y
   subst y;rcases b (z,ob) (by simp) with y|y
   ·exact .inr y
   ·exact .inl y
 ·have hp:p∈w1.E++(w1.C++[(a,ob)]):=hp;rw[<-aK] at hp;rcases aV.mp hp with y|y
  ·exact g.cell p y
  ·have y:p=(a,ob):=by simpa using y
   subst y;exact⟨ha.1,ha.2.1⟩
 ·rw[ead];refine List.nodup_append.mpr ⟨g.nd,by simp,λp hp q hq z=>?_⟩;have hq:q=a:=by simpa using hq
  subst hq;exact ha.2.2 (z ▸ hp)
 ·exact OwnS.snoc ((OwnO.mk ow).up gr) (h.own.2.up gr)
 ·rw[Rep];have hl:=h.own.2.length;refine⟨a,?_,rfl⟩;show(w1.R++[a])[S.length]? = some a;rw[hl];simp
theorem zoC{D:Ends}{i:Nat}{r:Rv}{v:V}(hp:i∉P)(x:Ext w0 w1)(h:Rel Γ w1 ρ S σ)(o:RvOk Γ w0 w1 σ r v)(sk:SK Γ W P w0 σ D (jE i r ρ S)):D.nx (σ.set i (some v)) w1.H:=by
 cases r with
 |fr s=>
  simp only[jE] at sk;split at sk
  ·rename_i hi;obtain⟨w2,eH,x2,r2,_,rep⟩:=Rel.push x h o hi.2;obtain⟨w3,e3,x3,r3,_,_⟩:=r2.setVal hi.1 rep;have z:=sk w3 (σ.set i (some v)) (x2.trans x3) (.set hp) r3;rw[e3,eH] at z;exact z
  ·exact sk.elim
 |_=>exact sk.elim
theorem zup{x:Str}{e:Expr}{c:M Rv}{i:Nat}{pos npos:Pos}(he:PE X e (tM Γ W c))(hp:i∉P)(hN:X.N.Nodup)(hi:X.N[i]? = some x)(hx:Loc X.env.scope x)(hf:X.fn x=true∨X.env.scope.names.lookup x=some .local)
  (hs:swapsWithSole [.Name x npos] e pos.line X.env=pure false) (hw:swappedStores [.Name x npos] e X.env=pure none):PS X (.Assign [.Name x npos] e pos) (tS Γ W P (cSto i c)):=
 (ps_asg he (pg_name hN hi hx hf) hs hw).imp λD σ H ⟨F,E,C,R,ρ,S,rel,sk⟩=>⟨F,E,C,R,ρ,S,rel,CK.bindS sk λr ρ1 S1 w1 v1 x1 rel1 o1 sk1=>zoC hp x1 rel1 o1 sk1⟩
end
def setT(g:Tgt)(d:D):M Fl:=λρ S=>match eX g d ρ with
 |some ρ'=>.ok .nx ρ' S false
 |none=>.bad
def tL(g:Tgt)(c:M Rv):M Fl:=λρ S=>(cD c ρ S).bind λd ρ S=>setT g d ρ S
/-- a,b=x,y: the pair never stands -/
def cPar(i j:Nat)(cs:M (List D)):M Fl:=λρ S=>(cs ρ S).bind λds ρ S=>match ds with
 |[d,e]=>if i<ρ.length∧j<ρ.length then .ok .nx ((ρ.set i (.val d)).set j (.val e)) S false else .bad
 |_=>.bad
def zz2(i j k:Nat)(cs:M (List D)):M Fl:=λρ S=>(cs ρ S).bind λds ρ S=>match ds with
 |[d,e,f]=>if i<ρ.length∧j<ρ.length∧k<ρ.length then .ok .nx (((ρ.set i (.val d)).set j (.val e)).set k (.val f)) S false else .bad
 |_=>.bad
section
variable{Γ:Gm}{W:WX}{P:List Nat}{w w0 w1:Wd}{σ:L2.St}{ρ S:List Sl}{X:Cx}
theorem Oa{tg e:Expr}{t:TG}{g:Tgt}{c:M Rv}{pos:Pos}(he:PE X e (tM Γ W c))(hg:PG X tg t)(ht:TgOk Γ t g)(hP:∀j∈P,j∉g.slots)
  (hs:swapsWithSole [tg] e pos.line X.env=pure false) (hw:swappedStores [tg] e X.env=pure none) (h1:(assignEach [tg] X.env).map (·.2)=[assign tg X.env]):PS X (.Assign [tg] e pos) (tS Γ W P (tL g c)):=
 (ps_asg he hg hs hw h1).imp λD σ H ⟨F,E,C,R,ρ,S,rel,sk⟩=>⟨F,E,C,R,ρ,S,rel,CK.datumS sk λd ρ1 S1 w1 v1 x1 rel1 o1 sk1=>by
  simp only[setT] at sk1;cases e1:eX g d ρ1 with
  |none=>simp only[e1] at sk1;exact sk1.elim
  |some ρ2=>
   simp only[e1] at sk1;exact ht w1 ρ1 S1 σ d v1 ρ2 _ rel1 o1 e1 λw' σ' eH x' _ _ rel' hj _=>sk1 w' σ' (x1.trans x') (λj hj'=>hj j (hP j hj')) rel'⟩
end
def env0(n:Nat)(ds:List D):List Sl:=ds.map .val++List.replicate (n - ds.length) .emp
def endM:Res Fl->Res Rv
 |.ok .nx _ S _=>.ok (.d .non) [] S false
 |.ok (.rt r) _ S _=>.ok r [] S false
 |.ex x _ S=>.ex x [] S
 |_=>.bad
def defM(n:Nat)(c:M Fl):List D->List Sl->Res Rv:=λds S=>endM (c (env0 n ds) S)
section
variable{Γ:Gm}{w w0 w1:Wd}{σ:L2.St}{ρ S:List Sl}
theorem OwnE.emps{R:List Addr}{F:Hp}:∀k:Nat,OwnE Γ R F (List.replicate k .emp) (List.replicate k none) []
 |0=>⟨rfl,rfl⟩
 |k+1=>⟨none,List.replicate k none,[],[],rfl,rfl,OwnE.emps k,rfl⟩
theorem OwnE.params{R:List Addr}{F:Hp}(k:Nat):∀{ds:List D} {vs:List V},RepL Γ R F ds vs->OwnE Γ R F (ds.map Sl.val++List.replicate k .emp) (vs.map some++List.replicate k none) []
 |[],vs,h=>by rw[RepL] at h;subst h;exact OwnE.emps k
 |d::ds,vs,h=>by
  rw[RepL] at h;obtain⟨v,vs',e,r,l⟩:=h;subst e;exact⟨some v,vs'.map some++List.replicate k none,[],[],rfl,⟨v,rfl,by rw[Own];exact⟨rfl,r⟩⟩,OwnE.params k l,rfl⟩
/-- behind a def: the frame's own things are nobody's -/
theorem Rel.leave(h:Rel Γ w1 ρ S σ)(x:Ext w0 w1):Ext w0 ⟨w1.F,[],w1.C,w1.R,w1.H⟩∧RelS Γ ⟨w1.F,[],w1.C,w1.R,w1.H⟩ S∧∀r v,RvOk Γ w0 w1 [] r v->RvOk Γ w0 ⟨w1.F,[],w1.C,w1.R,w1.H⟩ [] r v:=by iterate
 have sub:∀a,a∈Wd.ad ⟨w1.F,[],w1.C,w1.R,w1.H⟩->a∈w1.ad:=λa z=>by
  have z:a∈(([]:Cells)++w1.C).map (λp=>p.1):=z;show a∈(w1.E++w1.C).map (λp=>p.1);rw[aM] at z;rw[aX];exact List.mem_append_right _ z
 refine⟨⟨x.gr,x.keep,λa z=>x.cnew a (sub a z),x.fnew,x.live⟩,h.callee,λr v o=>?_⟩;cases r with
 |d _=>exact o
 |env i=>exact o
 |fr s=>
  obtain⟨c,ow,f,b⟩:=o;exact⟨c,ow,⟨λp hp=>by
   obtain⟨a1,a2,a3⟩:=f.at_ p hp
   exact⟨a1,a2,λz=>a3 (sub _ z)⟩,f.nd⟩,b⟩
theorem fG{P:Program}{wd:World}{K:yF}{mg:Str->Option Value}{base:Heap}{k:Nat}{x qual:Str}{params:Arguments}{body:List Stmt}{scope:Scope}{dvs:List V}{kws:List (Str×V)}{f:Addr}{fd:FuncData}{N ps:List Str}{c:M Fl}
  (hF:FunD K x qual params body scope dvs kws f fd) (hS:FnScope N ps scope)
  (hb:∀(cdv:Value) (A:Around) (outer:List Env) (s:Shared) (H:Hp) (E:XK),Room k (A.deeper (envOfC qual scope s.heap.objs.size f cdv))->
   Takes (cxOf (L2.CX P wd) P wd K mg base N qual scope f cdv A outer s H E) (λcls d _ H=>E cls d H)->
   PassesOwn (model P wd) (cxOf (L2.CX P wd) P wd K mg base N qual scope f cdv A outer s H E).A (cxOf (L2.CX P wd) P wd K mg base N qual scope f cdv A outer s H E).env (cxOf (L2.CX P wd) P wd K mg base N qual scope f cdv A outer s H E).xe->
   PSs (cxOf (L2.CX P wd) P wd K mg base N qual scope f cdv A outer s H E) body (tS Γ (λcls d _ H=>E cls d H) [] c)) :
  FnOk P wd K mg base (L2.CX P wd) (k+1) f fd ps (spM Γ ps.length (defM N.length c)):=by iterate
 refine hF.ok hS (sp:=spM Γ ps.length (defM N.length c)) (λvs H Q E h=>(show vs.length=ps.length∧_ from h).1) λcdv A outer s H vs Q E hr ⟨hl,F,C,R,S,ds,rel,l,fk⟩=>?_
 refine⟨_,hb cdv A outer s H E hr (takes_of rfl rfl rfl rfl) (passes_of rfl),?_⟩;have ln:=l.length;refine⟨F,[],C,R,env0 N.length ds,S,⟨rel.good,?_,rel.own⟩,?_⟩
 ·unfold env0 L2.start;rw[ln];exact OwnE.params _ l
 ·unfold defM at fk;cases q:c (env0 N.length ds) S with
  |ok fl ρ' S' t=>
   rw[q] at fk;cases fl with
   |nx=>
    intro w' σ' x' p' rel';obtain⟨x2,r2,o2⟩:=rel'.leave x';exact fk ⟨w'.F,[],w'.C,w'.R,w'.H⟩ .non x2 r2 (show Rep Γ w'.R w'.F .non .non from sY)
   |rt r=>
    intro w' σ' v x' p' rel' o';obtain⟨x2,r2,o2⟩:=rel'.leave x';exact fk ⟨w'.F,[],w'.C,w'.R,w'.H⟩ v x2 r2 (o2 r v o')
   |bk=>exact fk.elim
   |ct=>exact fk.elim
  |ex y ρ' S'=>
   rw[q] at fk;intro w' σ' cls d x' p' rel' o';obtain⟨x2,r2,o2⟩:=rel'.leave x';exact fk ⟨w'.F,[],w'.C,w'.R,w'.H⟩ cls d x2 r2 (by cases y<;>exact o')
  |bad=>rw[q] at fk;exact fk
end
end
section
def inK(l:List Key):Key->Bool:=λk=>l.any λy=>decide (y=k)
def stepK(l:List Key)(k:Key):List Key:=if inK l k=true then l else l++[k]
def metK(ks:List Key)(i:Nat):List Key:=(ks.take i).foldl stepK []
theorem tO{ks:List Key}{i:Nat}{k:Key}(h:ks[i]? = some k):metK ks (i+1)=stepK (metK ks i) k:=by
 unfold metK;rw[List.take_add_one,h,Option.toList_some,List.foldl_append];rfl
theorem znp(l:List Key)(k:Key):(stepK l k).length≤l.length+1:=by
 unfold stepK;split<;>simp
theorem xm(ks:List Key):∀i,i≤ks.length->(metK ks i).length≤i
 |0,_=>by simp[metK]
 |i+1,h=>by
  obtain⟨k,e⟩:∃k,ks[i]? = some k:=⟨ks[i],by simp[show i<ks.length from h]⟩
  rw[tO e];exact bh (znp _ _) (Nat.succ_le_succ (xm ks i (Nat.le_of_lt h)))
theorem zqH(l:List Key)(v k:Key):(inK l k ||decide (k=v))=inK (stepK l v) k:=by
 unfold stepK
 by_cases h:inK l v=true
 ·rw[if_pos h]
  by_cases e:k=v
  ·subst e;simp[h]
  ·simp[e]
 ·rw[if_neg h];unfold inK;rw[List.any_append]
  by_cases e:k=v
  ·subst e;simp
  ·have e2:¬v=k:=λz=>e z.symm;simp[e,e2]
theorem Oc(l:List Key)(v:Key):(if inK l v=true then l.length else l.length+1)=(stepK l v).length:=by
 unfold stepK
 by_cases h:inK l v=true
 ·simp[h]
 ·simp[h]
theorem SetOf.eq{prog:Program}{wd:World}{h:Heap}{a:Addr}{S S':Key->Bool}{n n':Nat}(r:h.SetOf (mixKind prog wd) a S n)(e:∀k,S k=S' k)(en:n=n'):h.SetOf (mixKind prog wd) a S' n':=by
 obtain rfl:S=S':=funext e;subst en;exact r
section
variable{prog:Program}{wd:World}{A:Around}{R:Result->Shared->Prop}{J:Addr}{fps wrs:List Addr}{gg:Array GenState->Array GenState->Prop}{m:Nat}{Pv:Nat->Value->Prop}{Sv:Nat->Shared->Prop}
abbrev SetM(prog:Program)(wd:World)(h:Heap)(a:Addr)(l:List Key):Prop:=h.SetOf (mixKind prog wd) a (inK l) l.length
theorem SetM.move{h h':Heap}{a:Addr}{l:List Key}(k:∀o,h.get? a=some o->h'.get? a=some o)(r:SetM prog wd h a l):SetM prog wd h' a l:=by
 obtain⟨o,es,ep,tb,ho,rest⟩:=r;exact⟨o,es,ep,tb,k o ho,rest⟩
/-- the loop of set(..),from the i-th item on -/
theorem zqu(wk:WalksS prog wd A.in1 J fps wrs gg m Pv Sv)(B:Addr)(nB:B∉fps)(ks:List Key)(lk:ks.length=m)
  (vals:∀j u,Pv j u->∃k,ks[j]? = some k∧RelV (kV k) u) (room:m+1<scanBound) (d j:Nat):∀z:Shared,m - j=d->j≤m->Sv j z->SetM prog wd z.heap B (metK ks j)->
   (∀z',Moved (B::wrs) gg z z'->SetM prog wd z'.heap B (metK ks m)->R (.ok (.ret .none)) z')->codeAny (model prog wd) A (.builtin "set.update.loop" ⟨[.ref B,.ref J],[]⟩) R z:=by iterate
 have nw:B∉wrs:=λy=>nB (wk.sub _ y);have wider:∀b∈wrs,b∈B::wrs:=λb y=>bL _ y
 induction d generalizing j with
 |zero=>
  intro z e le st cur fin;obtain rfl:j=m:=by omega
  refine codeAny_builtin PyProof.Rows.F.entry_set_update_loop ?_;rw[Around.under_plainId PyProof.Rows.F.plain_set_update_loop _];show wpAny _ A.in1 (pyNext (.ref J) >>= _) _ _ z;refine wpAny_bind (wk.done z _ _ st λz' mv=>?_);show wpAny _ A.in1 (ret Value.none) _ _ z';exact wpAny_pure (fin z' (mv.mono wider) (cur.move λo ho=>mv.heap B _ nw ho))
 |succ d ih=>
  intro z e le st cur fin;have lt:j<m:=by omega
  refine codeAny_builtin PyProof.Rows.F.entry_set_update_loop ?_;rw[Around.under_plainId PyProof.Rows.F.plain_set_update_loop _];show wpAny _ A.in1 (pyNext (.ref J) >>= _) _ _ z;refine wpAny_bind (wk.item j z _ _ lt st λu z' pu st' mv=>?_);obtain⟨k,ek,ru⟩:=vals j u pu;have cur':SetM prog wd z'.heap B (metK ks j):=cur.move λo ho=>mv.heap B _ nw ho;show wpAny _ A.in1 (holding [u] (setAdd B u) >>= _) _ _ z';refine wpAny_bind (wpAny_holding ?_);unfold setAdd;refine wpAny_holding (wpAny_bind ((mixKind prog wd).pyHash (k:=k) (kV_is ru) ?_));have lm:(metK ks j).length+1<scanBound:=by have:=xm ks j (by omega);omega
  refine wpAny_setAddHashed_of (knd:=mixKind prog wd) (s:={ z' with toks:=z'.toks+1 }) (kV_is ru) (key_scan ru) cur' lm λh' sb new=>?_
  have nxt:SetM prog wd h' B (metK ks (j+1)):=by
   rw[tO ek];exact SetOf.eq new (λy=>zqH _ _ _) (Oc _ _)
  refine wpAny_pure ⟨plainId_quiet PyProof.Rows.F.plain_set_update_loop _,ih (j+1) _ (by omega) lt (wk.frame _ z' _ _ st' (Nat.le_succ _) λb hb o eo=>?_) nxt λz'' mv'' last=>?_⟩
  ·rw[sb.2 b λy:b=B=>nB (y ▸ hb)];exact eo
  ·refine fin z'' (Moved.trans wk.gtrans ((mv.mono wider).then_heap (Nat.le_succ _) λb o hb eo=>?_) mv'') last;rw[sb.2 b λy:b=B=>hb (by rw[y];exact bK)];exact eo
end
abbrev gW(led:Bool):Obj:={ cls:=.type "set",dict:=none,data:=.set #[] 0 (.fresh 0 0 led) }
section
variable{prog:Program}{wd:World}{A:Around}{X0:Value->Shared->Prop}{z:Shared}
abbrev Od(prog:Program)(wd:World)(z:Shared)(ks:List Key)(h':Heap):Prop:=SetM prog wd h' z.heap.objs.size (metK ks ks.length)∧∀b o,b<z.heap.objs.size->z.heap.get? b=some o->h'.get? b=some o
set_option maxHeartbeats 3200000 in
theorem zjG{l:Addr}{its:Array Value}{ks:List Key}{Q:Value->Shared->Prop}(cool:A.handled=none)(at_l:z.heap.IsList l its)(lk:ks.length=its.size)(vals:∀(j:Nat) (u:Value),its[j]? = some u->∃k,ks[j]? = some k∧RelV (kV k) u)
  (room:its.size+1<scanBound) (fin:∀(h':Heap) (tk:Nat),Od prog wd z ks h'->Q (.ref z.heap.objs.size) { z with heap:=h',toks:=tk }):wpAny (model prog wd) A (call (.type "set") [.ref l]) Q X0 z:=by iterate
 obtain⟨cc,tl,mro⟩:=PySem.F.called_set.mro;have made:=PySem.F.called_set.made;have subs:=PySem.F.called_set.sub;refine wpAny_call (codeAny_of_tree ?_);show wpAny _ _ (callAny (.type "set") _) _ _ _;refine wpAny_pure ⟨Code.quiet_builtin _ (by decide +kernel),codeAny_builtin PySem.F.entry_type_call ?_⟩;rw[Around.under_plain (weight_type_call_type "set" [.ref l] []) rfl];have f1:=PySem.F.called_set.notType;have f2:=PySem.F.called_set.canCreate;have f3:=PySem.F.typeCall_set_1 (.ref l)
 repeat (any_goals (first|assumption|wp_step))
 refine codeAny_mono (code_set_new_1 (.ref l) (E:=X0) (Q₁:=λnw z1=>∃led:Bool,nw=.ref z.heap.objs.size∧z1={ z with heap:=z.heap.push (gW led) }) λled=>⟨led,rfl,rfl⟩) λr z1 hr=>?_
 cases r with
 |error e=>exact hr
 |ok fl=>
  cases fl with
  |ret nw=>
   obtain⟨led,rfl,rfl⟩:=hr;have atS:(z.heap.push (gW led)).get? z.heap.objs.size=some (gW led):=Heap.get?_push_size _ rfl;have tyS:Shared.TypeIs { z with heap:=z.heap.push (gW led) } (.ref z.heap.objs.size) "set":=⟨_,atS,rfl⟩
   have i1:=PySem.F.called_set.init.lookup;have i2:=PySem.F.called_set.init.bind (.ref z.heap.objs.size)
   repeat (any_goals (first|assumption|wp_step))
   refine codeAny_mono (codeAny_call_builtin (R:=wants (λr z2=>r=.none∧∃h' tk,z2={ z with heap:=h',toks:=tk }∧Od prog wd z ks h') X0) PySem.F.called_set.init.plain PySem.F.entry_set_init (check_set_init_1 tyS ?_)) λr2 z2 hr2=>?_
   ·obtain⟨⟨ocls,odict,odata,oslots⟩,ho,hcl,nl,hdl⟩:=at_l;simp only at hcl hdl;subst hcl hdl;have ho2:(z.heap.push (gW led)).get? l=some { cls:=.type "list",dict:=odict,data:=.seq its nl,slots:=oslots }:=Heap.get?_push_of_some _ ho;have s1:=PySem.F.sub_list_set;have s2:=PySem.F.sub_list_frozenset;have s3:(Value.type "list" == Value.type "dict")=false:=by decide
    have isl:(z.heap.push (gW led)).IsList l its:=⟨_,ho2,rfl,nl,rfl⟩;unfold Builtin.«set.__init__» noKeywords Builtin.Frozenset.updateFrom;generalize gI:pyIter=pI
    wp_walk
    subst gI;refine wpAny_pyIter_list isl (wpAny_bind (wpAny_runValue ?_));have lS:l<z.heap.objs.size:=Heap.lt_size ho;have nI:l≠(z.heap.push (gW led)).objs.size:=by iterate
     rw[Heap.size_push];exact Nat.ne_of_lt (Nat.lt_succ_of_lt lS)
    have nF:z.heap.objs.size∉[(z.heap.push (gW led)).objs.size,l]:=by
     rw[Heap.size_push];simp only[List.mem_cons,List.mem_singleton,List.not_mem_nil,or_false,not_or];exact⟨Nat.ne_of_lt (Nat.lt_succ_self _),Nat.ne_of_gt lS⟩
    refine zqu ((Walks.list (show A.in1.in1.in1.handled=none by simp[cool]) _ l nI its).toS) z.heap.objs.size nF ks lk vals room (its.size - 0) 0 _ (by omega) (Nat.zero_le _) ⟨⟨_,Heap.get?_push_size _ rfl,rfl,rfl⟩,(isl.push _)⟩ ?c1 ?c2
    case c1=>
     have g2:((z.heap.push (gW led)).push { cls:=.type "list_iterator",data:=.fields #[.ref l,.int 0 0] }).get? z.heap.objs.size=some (gW led):=Heap.get?_push_of_some _ atS;have e0:((z.heap.push (gW led)).push { cls:=.type "list_iterator",data:=.fields #[.ref l,.int 0 0] }).SetOf (mixKind prog wd) z.heap.objs.size (λ_=>false) 0:=
      ⟨_,#[],0,_,g2,⟨rfl,rfl,rfl⟩,rfl,(λe he=>by simp at he),(λk=>by simp),(by decide),(by rfl),rfl⟩
     exact SetOf.eq e0 (λy=>by simp[inK,metK]) (by simp[metK])
    case c2=>
     intro z' mv last;obtain⟨h',g',d',tk',os'⟩:=z';obtain rfl:g'=z.gens:=mv.gens;obtain rfl:d'=z.drawn:=mv.drawn;obtain rfl:os'=z.os:=mv.os;show wpAny _ _ _ _ _ _;refine wpAny_pure ?_;show wpAny _ _ (ret Value.none) _ _ _;rw[<-lk] at last;refine wpAny_pure ⟨rfl,h',tk',rfl,last,λb o hb eo=>?_⟩;have nb:b≠(z.heap.push (gW led)).objs.size:=by
      rw[Heap.size_push];exact Nat.ne_of_lt (Nat.lt_succ_of_lt hb)
     exact mv.heap b o (by simp only[List.mem_cons,List.mem_singleton,List.not_mem_nil,or_false,not_or];exact⟨Nat.ne_of_lt hb,nb⟩) (Heap.get?_push_of_some _ (Heap.get?_push_of_some _ eo))
   ·cases r2 with
    |error e=>exact hr2
    |ok f2=>
     cases f2 with
     |ret r=>
      obtain⟨rfl,h',tk,rfl,dn⟩:=hr2
      repeat (any_goals (first|assumption|wp_step))
      exact fin _ _ dn
     |_=>exact hr2.elim
  |_=>exact hr.elim
end
end
section
section
variable{X:Cx}
def Oe(K:yF):V->Hp->VK->Prop:=λx H Q=>∃l ks,x=.ref l∧SqL K H l (ks.map kV)∧ks.length+1<scanBound∧Q (.int (metK ks ks.length).length) H
theorem keys_at:∀{ks:List Key} {us:List Value},Vals (ks.map kV) us->∀(j:Nat) (u:Value),us[j]? = some u->∃k,ks[j]? = some k∧RelV (kV k) u
 |[],_,.nil,j,u,h=>by simp at h
 |k::ks,_,.cons r t,0,u,h=>by
  simp at h;subst h;exact⟨k,by simp,r⟩
 |k::ks,_,.cons r t,j+1,u,h=>by
  simp only[List.getElem?_cons_succ] at h ⊢;exact keys_at t j u h
theorem zmN{a:Expr}{ta:TE}{p p2 q pos:Pos}(hc:X.calm=true)(hg:Gl X "len") (hm:X.mg "len" = none) (hg2:Gl X "set") (hm2:X.mg "set" = none) (ha:PE X a ta) (na:starEach [a] X.env=(false,eval a X.env)::starEach [] X.env) :
  PE X (.Call (.Name "len" p) [.Call (.Name "set" p2) [a] [] q] [] pos) (λσ H Q=>ta σ H λx H1=>Oe X.K x H1 Q):=by iterate
 refine⟨λpins z σ H Q I h=>Call_ (ld_blt I hg hm boot_len (PyProof.Rows.callWith_builtin1 (PyProof.Rows.args_cons ?_ rfl) rfl rfl))⟩;refine Call_ (ld_blt I hg2 hm2 boot_set (PyProof.Rows.callWith_type1 (PyProof.Rows.args_cons (thn (ha.run pins z σ H _ I h) λv z1 ⟨x,H1,I1,r1,q1⟩=>PyProof.Rows.args_nil ?_) na) na rfl));obtain⟨l,ks,rfl,hq,room,q1⟩:=q1;cases r1;obtain⟨its,rv,pl,hz⟩:=I1.list hq;have ln:ks.length=its.toArray.size:=by rw[List.size_toArray,<-rv.length,aj]
 refine zjG (I1.ok.hd hc) pl.isList ln (λj u e=>keys_at rv j u (by simpa using e)) (by omega) λh' tk dn=>PyProof.Rows.args_nil ?_;obtain⟨⟨o,es,ep,t,ho,hex,hd,_,_,_,hf,hn⟩,kp⟩:=dn;have I2:Inv X pins σ H1 { z1 with heap:=h',toks:=tk }:=I1.kept λb o e=>kp b o (Heap.lt_size e) e
 have small:=xm ks ks.length (aO _);unfold scanBound at room;refine call_len_set ho hex hd hf (by rw[hn]<;>omega) ⟨.int (metK ks ks.length).length,H1,I2.tok _,⟨_,by rw[hn]⟩,q1⟩
/-- list(text) -/
def lB(x:Str):List V:=x.cps.toList.map λc=>.str ⟨#[c]⟩
theorem zfI(hc:X.calm=true):CallR X (.type "list") (λxs H Q=>∃x:Str,xs=[.str x]∧x.length≤sizeLine∧∀l,H l=none->Q (.ref l) (upd H l (.lst (lB x)))):=by iterate
 intro pins z σ H xs us Q I r h;obtain⟨x,rfl,hz,q⟩:=h;obtain⟨u,rfl,t,rfl⟩:=vals1 r;refine call_list_str (I.ok.hd hc) x t (hn:=hz) λh' tk acc c' kp e hacc=>?_;have rv:Vals (lB x) acc.toList:=by iterate
  refine vals_of_idx _ _ (by simp[lB,hacc.1]) λj u hu=>?_;obtain⟨ch,t',hc',rfl⟩:=hacc.2 j u (by simpa using hu);exact⟨.str ⟨#[ch]⟩,by simp[lB,hc'],t',rfl⟩
 exact⟨.ref z.heap.objs.size,_,I.laid (t':=tk) kp (Nat.le_refl _) (show ObjOk X.prog X.w _ h' _ (.lst (lB x)) from⟨by simpa[lB,Str.length] using hz,acc.toList,c',rv,by simpa using e⟩),rfl,q _ (I.hok.fresh (Nat.le_refl _))⟩
end
section
variable{Γ:Gm}{X:Cx}
def ql:List D->Option Rv
 |[.str x]=>if x.length≤sizeLine then some (.d (.int x.length)) else none
 |[.lst xs]=>some (.d (.int xs.length))
 |[.kl xs]=>some (.d (.int xs.length))
 |[.tup xs]=>some (.d (.int xs.length))
 |[.kt xs]=>some (.d (.int xs.length))
 |_=>none
def Og:List D->Option Rv
 |[.dK xs]=>some (.d (.int xs.length))
 |_=>none
def Oh:List D->Option Rv
 |[.dT xs]=>some (.d (.int xs.length))
 |_=>none
def gLen:List D->Option Rv:=λds=>(ql ds).or ((Og ds).or (Oh ds))
theorem eY{w:Wd}{d:D}{vs:List V}(h:TopL Γ w [d] vs):∃v,vs=[v]∧Top Γ w d v:=by
 obtain⟨v,vs',e,t,r⟩:=h;obtain rfl:vs'=[]:=r;exact⟨v,e,t⟩
theorem zxf:dZ Γ ql (λxs H Q=>∃x n,xs=[x]∧LenV Γ.K x H n∧Q (.int n) H):=by iterate
 intro w vs ds Q gd t q
 match ds,q with
 |[.str x],q=>
  obtain⟨v,rfl,t1⟩:=eY t;simp only[ql] at q;split at q
  ·obtain rfl:=fH t1;exact⟨_,_,rfl,⟨by assumption,rfl⟩,q.d gd dY⟩
  ·exact q.elim
 |[.lst xs],q=>
  obtain⟨v,rfl,a,ys,rfl,h,l⟩:=eY t;exact⟨_,_,rfl,.inl ⟨ys,SqL.of h,l.length⟩,q.d gd dY⟩
 |[.kl xs],q=>
  obtain⟨v,rfl,t1⟩:=eY t;obtain⟨a,ys,rfl,h,l⟩:=jf t1;exact⟨_,_,rfl,.inl ⟨ys,SqL.up gd.sub h,l.length⟩,q.d gd dY⟩
 |[.tup xs],q=>
  obtain⟨v,rfl,t1⟩:=eY t;obtain⟨a,ys,rfl,h,l⟩:=iD t1;exact⟨_,_,rfl,.inr ⟨ys,SqT.of (gd.sub _ _ h),l.length⟩,q.d gd dY⟩
 |[.kt xs],q=>
  obtain⟨v,rfl,t1⟩:=eY t;obtain⟨a,ys,rfl,h,l⟩:=nZ t1;exact⟨_,_,rfl,.inr ⟨ys,SqT.up gd.sub h,l.length⟩,q.d gd dY⟩
theorem zwX:dZ Γ Og (λxs H Q=>∃a kvs,xs=[V.ref a]∧H a=some (.dK kvs)∧Q (.int kvs.length) H):=by
 intro w vs ds Q gd t q
 match ds,q with
 |[.dK xs],q=>
  obtain⟨v,rfl,a,ys,rfl,h,l⟩:=eY t;exact⟨_,_,rfl,h,q.d gd (by rw[l.length];exact dY)⟩
theorem zwL:dZ Γ Oh rLenT:=by
 intro w vs ds Q gd t q
 match ds,q with
 |[.dT xs],q=>
  obtain⟨v,rfl,a,ys,rfl,h,l⟩:=eY t;exact⟨_,_,rfl,h,q.d gd (by rw[l.length];exact dY)⟩
abbrev rLen(K:yF):List V->Hp->VK->Prop:=λxs H Q=>(∃x n,xs=[x]∧LenV K x H n∧Q (.int n) H)∨((∃a kvs,xs=[V.ref a]∧H a=some (.dK kvs)∧Q (.int kvs.length) H)∨rLenT xs H Q)
theorem iT:CallR X (.builtin "len") (rLen X.K):=CallR.or call_len (CallR.or call_lenD call_len_dT)
theorem iU:dZ Γ gLen (rLen Γ.K):=dZ.or zxf (dZ.or zwX zwL)
def Ty.val(Γ:Gm):Ty->Value
 |.ow c=>.ref (Γ.cA c)
 |t=>.type t.name
def D.typ:D->Option Ty
 |.non=>some .non
 |.bl _=>some .bl
 |.int _=>some .int
 |.str _=>some .str
 |.lst _=>some .lst
 |.kl _=>some .lst
 |.tup _=>some .tup
 |.kt _=>some .tup
 |.dK _=>some .dct
 |.dT _=>some .dct
 |.ins c _=>some (.ow c)
 |_=>none
def D.asTy:D->Option Ty
 |.ty n=>if n = "int" then some .int else if n = "bool" then some .bl else if n = "str" then some .str else if n = "list" then some .lst else if n = "tuple" then some .tup else if n = "dict" then some .dct else none
 |.cl c=>some (.ow c)
 |_=>none
def jG:List D->Option (List Ty)
 |[]=>some []
 |d::ds=>match d.asTy,jG ds with
  |some t,some ts=>some (t::ts)
  |_,_=>none
/-- ow: of two own classes -/
def isT(ow:Nat->Ty->Option Bool):Ty->Ty->Option Bool
 |.ow c,t=>ow c t
 |.non,.ow _=>none
 |_,.ow _=>none
 |.bl,.int=>some true
 |t,u=>some (decide (t=u))
def isAny(ow:Nat->Ty->Option Bool)(t:Ty):List Ty->Option Bool
 |[]=>some false
 |u::us=>match isT ow t u with
  |some true=>some true
  |some false=>isAny ow t us
  |none=>none
def isO(ow:Nat->Ty->Option Bool):List D->Option Rv
 |[x,c]=>match x.typ,c.asTy with
  |some t,some u=>(isT ow t u).map λb=>.d (.bl b)
  |_,_=>none
 |_=>none
def isM(ow:Nat->Ty->Option Bool):List D->Option Rv
 |[x,.tup cs]=>match x.typ,jG cs with
  |some t,some (u::us)=>(isAny ow t (u::us)).map λb=>.d (.bl b)
  |_,_=>none
 |_=>none
def gIsi(ow:Nat->Ty->Option Bool):List D->Option Rv:=λds=>(isO ow ds).or (isM ow ds)
/-- what is known of the own classes -/
structure OwOk(Γ:Gm)(ow:Nat->Ty->Option Bool):Prop where
  kit:∀c u b,ow c u=some b->PySem.W.kitOne Γ.K (.ref (Γ.cA c)) (u.val Γ)=some b
  cls:∀c u b,ow c u=some b->Cls Γ.K (Γ.cA c)∧PySem.W.findIn Γ.K (.ref (Γ.cA c)) "__class__" = some (some (.builtin "object.__class__"))∧PySem.W.specialIn Γ.K (.builtin "object.__class__") "__get__" = some (some (.builtin "getset_descriptor.__get__")) ∧
    PySem.W.takesIn Γ.K (.builtin "object.__class__")=some true∧PySem.W.mroIn Γ.K (Γ.cA c) (.type "object")=some true
theorem zuA:∀a∈[Ty.non,.bl,.int,.str,.lst,.tup,.dct],∀b∈[Ty.int,.bl,.str,.lst,.tup,.dct],kitB a.name b.name=isT (λ_ _=>none) a b:=by decide +kernel
theorem Oi{w:Wd}{d:D}{v:V}{t:Ty}(e:d.asTy=some t)(h:Rep Γ w.R w.F d v):ClsV v (t.val Γ)∧(t∈[Ty.int,.bl,.str,.lst,.tup,.dct]∨∃c,t=.ow c):=by iterate
 cases d with
 |ty n=>
  rw[Rep] at h;subst h;simp only[D.asTy] at e;split at e
  ·cases e;subst n;exact⟨.ty _,.inl (by decide)⟩
  split at e
  ·cases e;subst n;exact⟨.ty _,.inl (by decide)⟩
  split at e
  ·cases e;subst n;exact⟨.ty _,.inl (by decide)⟩
  split at e
  ·cases e;subst n;exact⟨.ty _,.inl (by decide)⟩
  split at e
  ·cases e;subst n;exact⟨.ty _,.inl (by decide)⟩
  split at e
  ·cases e;subst n;exact⟨.ty _,.inl (by decide)⟩
  ·cases e
 |cl c=>
  rw[Rep] at h;subst h;cases e;exact⟨.own _,.inr ⟨c,rfl⟩⟩
 |_=>cases e
theorem zwk{w:Wd}{a:Addr}{ys:List V}(gd:Good w)(h:SqL Γ.K w.F a ys):TyX Γ.K w.H (.ref a) (.type "list"):=by
 rcases SqL.up gd.sub h with (h|⟨o,h⟩)|⟨o,its,n,e,c,_⟩
 ·exact .base (.lst h)
 ·exact .base (.frz h)
 ·exact .kList e c
theorem zxm{w:Wd}{a:Addr}{ys:List V}(gd:Good w)(h:SqT Γ.K w.F a ys):TyX Γ.K w.H (.ref a) (.type "tuple"):=by
 rcases SqT.up gd.sub h with (h|⟨o,h⟩)|⟨o,its,n,e,c,_⟩
 ·exact .base (.tup h)
 ·exact .fTuple h
 ·exact .kTuple e c
theorem zxG{ow:Nat->Ty->Option Bool}(O:OwOk Γ ow){w:Wd}(gd:Good w){d:D}{v:V}{t:Ty}(e:d.typ=some t)(hc:∀c,t=.ow c->∃u b,ow c u=some b)(h:Top Γ w d v):TyX Γ.K w.H v (t.val Γ):=by iterate
 cases d with
 |non=>cases e;obtain rfl:=v5 h;exact .base .non
 |bl b=>cases e;obtain rfl:=nY h;exact .base (.bl b)
 |int b=>cases e;obtain rfl:=dX h;exact .base (.int b)
 |str b=>cases e;obtain rfl:=fH h;exact .base (.str b)
 |lst xs=>cases e;obtain⟨a,ys,rfl,q,l⟩:=h;exact .base (.lst q)
 |kl xs=>cases e;obtain⟨a,ys,rfl,q,l⟩:=jf h;exact zwk gd q
 |tup xs=>cases e;obtain⟨a,ys,rfl,q,l⟩:=iD h;exact .base (.tup (gd.sub _ _ q))
 |kt xs=>cases e;obtain⟨a,ys,rfl,q,l⟩:=nZ h;exact zxm gd q
 |dK xs=>cases e;obtain⟨a,ys,rfl,q,l⟩:=h;exact .base (.dK q)
 |dT xs=>cases e;obtain⟨a,ys,rfl,q,l⟩:=h;exact .base (.dT q)
 |ins c fs=>
  cases e;have h:Rep Γ w.R w.F (.ins c fs) v:=h;rw[Rep] at h;obtain⟨a,dx,gs,rfl,q,_,_⟩:=h;obtain⟨u,b,z⟩:=hc c rfl;obtain⟨c1,c2,c3,c4,c5⟩:=O.cls c u b z;exact .base (.ins (gd.sub _ _ q) c1 c2 c3 c4 c5)
 |_=>cases e
theorem Oj{w:Wd}:∀{ds:List D} {ys:List V} {ts:List Ty},jG ds=some ts->RepL Γ w.R w.F ds ys->Paired ClsV ys (ts.map (·.val Γ))∧∀t∈ts,t∈[Ty.int,.bl,.str,.lst,.tup,.dct]∨∃c,t=.ow c
 |[],ys,ts,e,h=>by
  simp only[jG,Option.some.injEq] at e;subst e;rw[RepL] at h;subst h;exact⟨.nil,λt ht=>by cases ht⟩
 |d::ds,ys,ts,e,h=>by
  simp only[jG] at e;split at e
  ·rename_i t ts' e1 e2;cases e;rw[RepL] at h;obtain⟨y,ys',rfl,r,l⟩:=h;obtain⟨k1,k2⟩:=Oi e1 r;obtain⟨k3,k4⟩:=Oj e2 l;refine⟨.cons k1 k3,λt ht=>?_⟩;rcases au.mp ht with z|z
   ·subst z;exact k2
   ·exact k4 t z
  ·cases e
end
end
section
section
variable{Γ:Gm}{X:Cx}
def gInt:List D->Option Rv
 |[.int i]=>some (.d (.int i))
 |[.bl b]=>some (.d (.int (if b then 1 else 0)))
 |_=>none
theorem jH:dZ Γ gInt (λxs H Q=>(∃i,xs=[.int i]∧Q (.int i) H)∨∃k,xs=[.bl k]∧Q (.int (if k then 1 else 0)) H):=by
 intro w vs ds Q gd t q
 match ds,q with
 |[.int i],q=>
  obtain⟨v,rfl,t1⟩:=eY t;obtain rfl:=dX t1;exact .inl ⟨i,rfl,q.d gd dY⟩
 |[.bl i],q=>
  obtain⟨v,rfl,t1⟩:=eY t;obtain rfl:=nY t1;exact .inr ⟨i,rfl,q.d gd dY⟩
def gAbs:List D->Option Rv
 |[.int i]=>some (.d (.int (if i<0 then -i else i)))
 |_=>none
theorem Ol:dZ Γ gAbs (λxs H Q=>∃i,xs=[.int i]∧Q (.int (if i<0 then -i else i)) H):=by
 intro w vs ds Q gd t q
 match ds,q with
 |[.int i],q=>
  obtain⟨v,rfl,t1⟩:=eY t;obtain rfl:=dX t1;exact⟨i,rfl,q.d gd dY⟩
def jj(x:Str):List D:=x.cps.toList.map λc=>.str ⟨#[c]⟩
def xq:List D->Option Rv
 |[.lst xs]=>some (.fr (.lst xs))
 |[.kl xs]=>some (.fr (.lst xs))
 |[.tup xs]=>some (.fr (.lst xs))
 |[.kt xs]=>some (.fr (.lst xs))
 |_=>none
def tQ:List D->Option Rv
 |[.str x]=>if x.length≤sizeLine then some (.fr (.lst (jj x))) else none
 |_=>none
def keyV:Key->D
 |.inl i=>.int i
 |.inr x=>.str x
def Om:List D->Option Rv
 |[.dK kvs]=>some (.fr (.lst (kvs.map λkv=>keyV kv.1)))
 |_=>none
def fK:List D->Option Rv:=λds=>(xq ds).or ((tQ ds).or (Om ds))
abbrev xr(K:yF):List V->Hp->VK->Prop:=λxs H Q=>∃p ys,xs=[.ref p]∧(SqL K H p ys∨SqT K H p ys)∧∀l,H l=none->Q (.ref l) (upd H l (.lst ys))
abbrev rListS:List V->Hp->VK->Prop:=λxs H Q=>∃x:Str,xs=[.str x]∧x.length≤sizeLine∧∀l,H l=none->Q (.ref l) (upd H l (.lst (lB x)))
theorem qm{w:Wd}{Q:VK}{xs:List D}{ys:List V}(gd:Good w)(q:PQ Γ w Q (some (.fr (.lst xs))))(l:RepL Γ w.R w.F xs ys):∀p,w.H p=none->Q (.ref p) (upd w.H p (.lst ys)):=λp hp=>q.fr gd hp (λps z=>nomatch z) (by rw[Own];exact⟨p,_,rfl,l,rfl⟩)
theorem zsU:dZ Γ xq (xr Γ.K):=by iterate
 intro w vs ds Q gd t q
 match ds,q with
 |[.lst xs],q=>
  obtain⟨v,rfl,a,ys,rfl,h,l⟩:=eY t;exact⟨a,ys,rfl,.inl (SqL.of h),qm gd q l⟩
 |[.kl xs],q=>
  obtain⟨v,rfl,t1⟩:=eY t;obtain⟨a,ys,rfl,h,l⟩:=jf t1;exact⟨a,ys,rfl,.inl (SqL.up gd.sub h),qm gd q l⟩
 |[.tup xs],q=>
  obtain⟨v,rfl,t1⟩:=eY t;obtain⟨a,ys,rfl,h,l⟩:=iD t1;exact⟨a,ys,rfl,.inr (SqT.of (gd.sub _ _ h)),qm gd q l⟩
 |[.kt xs],q=>
  obtain⟨v,rfl,t1⟩:=eY t;obtain⟨a,ys,rfl,h,l⟩:=nZ t1;exact⟨a,ys,rfl,.inr (SqT.up gd.sub h),qm gd q l⟩
theorem Oo{R:List Addr}{F:Hp}:∀cs:List Nat,RepL Γ R F (cs.map λc=>.str ⟨#[c]⟩) (cs.map λc=>.str ⟨#[c]⟩)
 |[]=>by show RepL Γ R F [] [];rw[RepL]
 |c::cs=>by
  rw[ak,ak,RepL];exact⟨_,_,rfl,jg,Oo cs⟩
theorem ztR:dZ Γ tQ rListS:=by
 intro w vs ds Q gd t q
 match ds,q with
 |[.str x],q=>
  obtain⟨v,rfl,t1⟩:=eY t;obtain rfl:=fH t1;simp only[tQ] at q;split at q
  ·exact⟨x,rfl,by assumption,qm gd q (Oo _)⟩
  ·exact q.elim
theorem Oq{R:List Addr}{F:Hp}:∀{kvs:List (Key×D)} {ys:List (Key×V)},RepK Γ R F kvs ys->RepL Γ R F (kvs.map λkv=>keyV kv.1) (ys.map λkv=>kV kv.1)
 |[],ys,h=>by
  rw[RepK] at h;subst h;show RepL Γ R F [] [];rw[RepL]
 |(k,d)::kvs,ys,h=>by
  rw[RepK] at h;obtain⟨y,ys',rfl,_,l⟩:=h;show RepL Γ R F (keyV k::kvs.map λkv=>keyV kv.1) (kV k::ys'.map λkv=>kV kv.1);rw[RepL];refine⟨_,_,rfl,?_,Oq l⟩;cases k with
  |inl i=>exact dY
  |inr x=>exact jg
theorem zu0:dZ Γ Om rListD:=by
 intro w vs ds Q gd t q
 match ds,q with
 |[.dK kvs],q=>
  obtain⟨v,rfl,a,ys,rfl,h,l⟩:=eY t;exact⟨a,ys,rfl,h,λp hp=>q.fr gd hp (λps z=>nomatch z) (by rw[Own];exact⟨p,_,rfl,Oq l,rfl⟩)⟩
theorem oJ(hc:X.calm=true):CallR X (.type "list") (λxs H Q=>xr X.K xs H Q∨(rListS xs H Q∨rListD xs H Q)):=CallR.or call_list_of (CallR.or (zfI hc) (call_list_dK hc))
theorem oK:dZ Γ fK (λxs H Q=>xr Γ.K xs H Q∨(rListS xs H Q∨rListD xs H Q)):=dZ.or zsU (dZ.or ztR zu0)
def gTup:List D->Option Rv
 |[.lst xs]=>some (.d (.tup xs))
 |[.kl xs]=>some (.d (.tup xs))
 |[.tup xs]=>some (.d (.tup xs))
 |[.kt xs]=>some (.d (.kt xs))
 |_=>none
def blsD:List D->Option (List Bool)
 |[]=>some []
 |.bl b::ds=>(blsD ds).map (b::·)
 |_=>none
def lC:List D->Option (List Str)
 |[]=>some []
 |.str b::ds=>(lC ds).map (b::·)
 |_=>none
theorem Ot{R:List Addr}{F:Hp}:∀{ds:List D} {bs:List Bool} {ys:List V},blsD ds=some bs->RepL Γ R F ds ys->ys=bs.map V.bl
 |[],bs,ys,e,h=>by cases e;rw[RepL] at h;subst h;rfl
 |d::ds,bs,ys,e,h=>by
  rw[RepL] at h;obtain⟨y,r,rfl,q,l⟩:=h;cases d with
  |bl b=>
   obtain⟨cs,e1,rfl⟩:=aW.mp e;rw[Rep] at q;subst q;rw[Ot e1 l];rfl
  |_=>cases e
theorem Ou{R:List Addr}{F:Hp}:∀{ds:List D} {bs:List Str} {ys:List V},lC ds=some bs->RepL Γ R F ds ys->ys=bs.map V.str
 |[],bs,ys,e,h=>by cases e;rw[RepL] at h;subst h;rfl
 |d::ds,bs,ys,e,h=>by
  rw[RepL] at h;obtain⟨y,r,rfl,q,l⟩:=h;cases d with
  |str b=>
   obtain⟨cs,e1,rfl⟩:=aW.mp e;rw[Rep] at q;subst q;rw[Ou e1 l];rfl
  |_=>cases e
def gAll:List D->Option Rv
 |[.lst xs]=>(blsD xs).map λbs=>.d (.bl (bs.all id))
 |_=>none
theorem zyv:dZ Γ gAll (rAll Γ.K):=by
 intro w vs ds Q gd t q
 match ds,q with
 |[.lst xs],q=>
  obtain⟨v,rfl,a,ys,rfl,h,l⟩:=eY t;simp only[gAll] at q;cases e:blsD xs with
  |none=>rw[e] at q;exact q.elim
  |some bs=>
   rw[e] at q;obtain rfl:=Ot e l;exact⟨a,bs,rfl,SqL.of h,q.d gd eV⟩
def D.itemsL:D->Option (List D)
 |.lst xs=>some xs
 |.kl xs=>some xs
 |_=>none
def tR(c:M Rv):M Rv:=λρ S=>(c ρ S).bind λr ρ S=>match (cont ρ S r).bind D.itemsL with
 |some xs=>(match gH xs with
  |some ks=>if ks.length+1<scanBound then .ok (.d (.int (metK ks ks.length).length)) ρ S false else .bad
  |none=>.bad)
 |none=>.bad
theorem zn2{W:WX}{a:Expr}{c:M Rv}{p p2 q pos:Pos}(hK:Γ.K=X.K)(hc:X.calm=true)(hg:Gl X "len") (hm:X.mg "len" = none) (hg2:Gl X "set") (hm2:X.mg "set" = none) (ha:PE X a (tM Γ W c)) (na:starEach [a] X.env=(false,eval a X.env)::starEach [] X.env) :
  PE X (.Call (.Name "len" p) [.Call (.Name "set" p2) [a] [] q] [] pos) (tM Γ W (tR c)):=
 (zmN hc hg hm hg2 hm2 ha na).imp λσ H Q ⟨F,E,C,R,ρ,S,rel,ck⟩=>⟨F,E,C,R,ρ,S,rel,CK.bind ck λr ρ1 S1 w1 v1 x1 rel1 o1 ck1=>by iterate
  cases e1:cont ρ1 S1 r with
  |none=>simp only[e1] at ck1;exact ck1.elim
  |some d=>
   have tp:=rel1.top o1 e1;simp only[e1,Option.bind_some] at ck1;have fin:∀(a:Addr) (xs:List D) (ys:List V),v1=.ref a->SqL Γ.K w1.H a ys->RepL Γ w1.R w1.F xs ys->(CK Γ W w1 σ Q (match gH xs with
     |some ks=>if ks.length+1<scanBound then .ok (.d (.int (metK ks ks.length).length)) ρ1 S1 false else .bad
     |none=>.bad))->Oe X.K v1 w1.H Q:=λa xs ys ev hs l ck=>by
    cases e2:gH xs with
    |none=>rw[e2] at ck;exact ck.elim
    |some ks=>
     simp only[e2] at ck;split at ck
     ·rename_i hl;obtain rfl:=pX e2 l;exact⟨a,ks,ev,by rw[<-hK];exact hs,hl,ck w1 _ (.refl _) (λ_=>rfl) rel1 (show Rep Γ w1.R w1.F (.int _) _ from dY)⟩
     ·exact ck.elim
   cases d with
   |lst xs=>
    obtain⟨a,ys,ev,q,l⟩:=tp;exact fin a xs ys ev (SqL.of q) l ck1
   |kl xs=>
    obtain⟨a,ys,ev,q,l⟩:=jf tp;exact fin a xs ys ev (SqL.up rel1.good.sub q) l ck1
   |_=>exact ck1.elim⟩
def oM:D->List D->Option Rv
 |.str a,[y]=>(y.items.bind lC).bind λys=>if(ys.map (·.length)).sum+ys.length*a.length≤16777216 then some (.d (.str (Txt.join a ys))) else none
 |_,_=>none
theorem zxw:MtOk Γ oM (λx xs H Q=>∃a p,∃ys:List Str,x=.str a∧xs=[.ref p]∧(SqL Γ.K H p (ys.map V.str)∨SqT Γ.K H p (ys.map V.str)) ∧
  (ys.map (·.length)).sum+ys.length*a.length≤16777216∧Q (.str (Txt.join a ys)) H):=by iterate
 intro w v d vs ds Q gd tv t q
 match d,ds,q with
 |.str a,[y],q=>
  obtain rfl:=fH tv;obtain⟨v,rfl,t1⟩:=eY t;simp only[oM] at q;cases e:y.items with
  |none=>rw[e] at q;exact q.elim
  |some xs=>
   rw[e,Option.bind_some] at q;cases e2:lC xs with
   |none=>rw[e2] at q;exact q.elim
   |some ys=>
    rw[e2,Option.bind_some] at q;split at q
    ·rename_i hl;obtain⟨p,zs,rfl,hs,l⟩:=wg gd e t1;obtain rfl:=Ou e2 l;exact⟨a,p,ys,rfl,rfl,hs,hl,q.d gd jg⟩
    ·exact q.elim
end
end
section
def cTst(c:M Rv):M Bool:=λρ S=>(c ρ S).bind λr ρ S=>match r with
 |.d (.bl b)=>.ok b ρ S false
 |_=>.bad
section
variable{X:Cx}{Γ:Gm}{W:WX}{a b c e:Expr}{ca cb cc:M Rv}{pos:Pos}
theorem zqd{c:M Rv}{σ:L2.St}{H:Hp}{Q:Bool->Hp->Prop}(h:tMb Γ W (cTst c) σ H Q):tM Γ W c σ H (λx H'=>∃k,x=.bl k∧Q k H'):=by iterate
 obtain⟨F,E,C,R,ρ,S,rel,ck⟩:=h;refine⟨F,E,C,R,ρ,S,rel,?_⟩;unfold cTst at ck;cases q:c ρ S with
 |ok r ρ1 S1 t=>
  rw[q] at ck;intro w1 v x1 e1 r1 o1;rw[Res.bind_ok] at ck;have ck1:=CKb.ext x1 e1 ck;cases r with
  |d d0=>
   cases d0 with
   |bl k=>
    have o1:Rep Γ w1.R w1.F (.bl k) v:=o1;rw[Rep] at o1;exact⟨k,o1,ck1 w1 (.refl _) (λ_=>rfl) r1⟩
   |_=>exact ck1.elim
  |_=>exact ck1.elim
 |ex y ρ1 S1=>rw[q] at ck;exact ck
 |bad=>rw[q] at ck;exact ck
theorem d8{op:CmpOp}{g:D->D->Option Rv}{r:R2}(ho:OpR X (compareOp op) r)(hg:cR Γ g r)(ha:PE X a (tM Γ W ca))(hb:PE X b (tM Γ W cb))(hm:behindInMarks op b=false):PT X (.Compare a [op] [b] pos) (tMb Γ W (cTst (cBin g ca cb))):=
 (pt_cmpR ho ha hb hm).imp λ_ _ _ h=>sX hg (zqd h)
def cNeg(c:M Rv):M Rv:=λρ S=>(c ρ S).bind λr ρ S=>match cont ρ S r with
 |some (.int i)=>.ok (.d (.int (-i))) ρ S false
 |_=>.bad
theorem Ov(ha:PE X a (tM Γ W ca)):PE X (.UnaryOp .USub a pos) (tM Γ W (cNeg ca)):=
 (pe_un un_neg ha).imp λσ H Q ⟨F,E,C,R,ρ,S,rel,ck⟩=>⟨F,E,C,R,ρ,S,rel,CK.bind ck λr ρ1 S1 w1 v1 x1 rel1 o1 ck1=>by
  cases e1:cont ρ1 S1 r with
  |none=>simp only[e1] at ck1;exact ck1.elim
  |some d=>
   have tp:=rel1.top o1 e1;simp only[e1] at ck1;cases d with
   |int i=>exact⟨i,dX tp,ck1 w1 (.int (-i)) (.refl _) (λ_=>rfl) rel1 (show Rep Γ w1.R w1.F (.int (-i)) _ from dY)⟩
   |_=>exact ck1.elim⟩
end
def pick{α:Type}(is:List Nat)(xs:List α):List α:=is.filterMap λi=>xs[i]?
theorem xG{α:Type}{xs:List α}:∀{is:List Nat},(∀i∈is,i<xs.length)->(pick is xs).length=is.length
 |[],_=>rfl
 |i::is,h=>by
  have hi:i<xs.length:=h i (by simp);have e:xs[i]? = some (xs[i]'hi):=aJ hi;have ih:=xG (xs:=xs) (is:=is) λj hj=>h j (by simp[hj]);unfold pick at ih ⊢;rw[List.filterMap_cons,e,aG,aG,ih]
theorem tU{vs:List V}{us:List Value}(r:Vals vs us):∀is:List Nat,Vals (pick is vs) (pick is us)
 |[]=>.nil
 |i::is=>by
  unfold pick;rw[List.filterMap_cons,List.filterMap_cons];cases e:vs[i]? with
  |none=>
   have e2:us[i]? = none:=by
    rw[List.getElem?_eq_none_iff] at e ⊢;rw[<-r.length];exact e
   rw[e2];exact tU r is
  |some v=>
   obtain⟨u,e2,ru⟩:=r.get e;rw[e2];exact .cons ru (tU r is)
theorem RepL.pick{Γ:Gm}{R:List Addr}{F:Hp}{ds:List D}{vs:List V}(l:RepL Γ R F ds vs):∀is:List Nat,RepL Γ R F (DV.pick is ds) (DV.pick is vs)
 |[]=>by show RepL Γ R F [] [];rw[RepL]
 |i::is=>by
  unfold DV.pick;rw[List.filterMap_cons,List.filterMap_cons];cases e:ds[i]? with
  |none=>
   have e2:vs[i]? = none:=by
    rw[List.getElem?_eq_none_iff] at e ⊢;rw[<-l.length];exact e
   rw[e2];exact l.pick is
  |some d=>
   obtain⟨v,e2,r⟩:=l.get e;rw[e2,RepL];exact⟨v,_,rfl,r,l.pick is⟩
section
variable{Γ:Gm}{K:yF}{x qual:Str}{params:Arguments}{body:List Stmt}{scope:Scope}{dvs:List V}{kws:List (Str×V)}{f:Addr}{fd:FuncData}{ps:List Str}
/-- no default is used -/
theorem cb_N(F:FunD K x qual params body scope [] kws f fd)(n:Nat)(ks:List Str)(ix:List Nat)(hl:ix.length=ps.length)(hi:∀i∈ix,i<n+ks.length)
  (h:∀(kV doc pm:Value) (an:Option Addr) (cdv ct:Value) (us ws:List Value),us.length=n->ws.length=ks.length->bindArgs (PySem.W.fnOf x qual params body scope .none kV doc pm an cdv ct) ⟨us,ks.zip ws⟩=pure (ps.zip (pick ix (us++ws)))) :
  d9 Γ K fd ps n ks (λds es=>pick ix (ds++es)):=by iterate
 obtain⟨oc,od,dV,kV,doc,pm,an,cdv,ct,osl,rfl,lk,hcd,hD,hK⟩:=F.ex;rcases hD with ⟨_,rfl⟩|⟨e,_⟩
 ·refine⟨λus ws=>pick ix (us++ws),λvs zs=>pick ix (vs++zs),⟨λs us ws X l1 l2=>.of_eq (h kV doc pm an cdv ct us ws l1 l2),λr1 r2=>tU (r1.append r2) ix⟩,λR F ds vs es zs l1 l2 n1 n2=>⟨(l1.app l2).pick ix,?_⟩⟩;rw[xG,hl];intro i hx;rw[aA,l1.length,l2.length,n1,n2];exact hi i hx
 ·exact absurd rfl e
end
/-- a def that is never reached -/
theorem zu3{Γ:Gm}{P:Program}{w:World}{K:yF}{mg:Str->Option Value}{base:Heap}{f:Addr}{fd:FuncData}{ps:List Str}{CX:CXT}{k:Nat}:FnOk P w K mg base CX k f fd ps (spM Γ ps.length (λ_ _=>.bad)):=
 ⟨λvs H Q E h=>(show vs.length=ps.length∧_ from h).1,λA outer s H args us vs Q E hr e0 hb r h=>by
  obtain⟨_,F,C,R,S,ds,_,_,fk⟩:=h;exact fk.elim⟩
end
section
section
variable{X:Cx}{Γ:Gm}
abbrev Ow(K:yF):R2:=λx y H Q=>rI0 (λi j=>.int (i+j)) x y H Q∨((∃i j,x=.str i∧y=.str j∧i.length+j.length≤sizeLine∧Q (.str (i++j)) H)∨(rCat x y H Q∨rCatT K x y H Q))
theorem gq:OpR X (binaryOp .Add) (Ow X.K):=OpR.or op_add (OpR.or op_add_str (OpR.or op_cat op_catT))
theorem bAdd:cR Γ oAdd (Ow X.K):=cR.or zyS (cR.or zyM (cR.or zzi zz8))
abbrev Ox:R2:=λx y H Q=>(rI CMul (λi j=>.int (i*j)) x y H Q∨rI CMulW (λi j=>.int (i*j)) x y H Q)∨(rRep x y H Q∨v9 x y H Q)
theorem eZ:OpR X (binaryOp .Mult) Ox:=OpR.or (OpR.or op_mul op_mulW) (OpR.or op_rep ztJ)
theorem bMul:cR Γ oMul Ox:=cR.or zyQ (cR.or zzr zzy)
abbrev Oz(K:yF):R2:=λx y H Q=>rEq x y H Q∨rEqD K x y H Q
abbrev OD(K:yF):R2:=λx y H Q=>rNe x y H Q∨rNeD K x y H Q
theorem opEq(hu:X.A.units+64<cLine):OpR X (compareOp .Eq) (Oz X.K):=OpR.or op_eq (op_eqD hu)
theorem opNe(hu:X.A.units+64<cLine):OpR X (compareOp .NotEq) (OD X.K):=OpR.or op_ne (op_neD hu)
theorem bEq:cR Γ (oEq false) (Oz Γ.K):=cR.or bEqS bEqD
theorem bNe:cR Γ (oEq true) (OD Γ.K):=cR.or bNeS bNeD
abbrev tV(K:yF)(neg:Bool):R2:=λx y H Q=>rIn K neg x y H Q∨((∃i j,x=.str i∧y=.str j∧Q (.bl (if neg=true then !(!(Builtin.Str.occurrences j i 0 j.length 1).isEmpty) else !(Builtin.Str.occurrences j i 0 j.length 1).isEmpty)) H)∨DV.rInD neg x y H Q)
theorem opIn(hu:X.A.units+1<cLine):OpR X (compareOp .In) (tV X.K false):=OpR.or op_in_seq (OpR.or op_in_str (DV.op_inD hu))
theorem zuV(hu:X.A.units+1<cLine):OpR X (compareOp .NotIn) (tV X.K true):=OpR.or op_notIn_seq (OpR.or op_notIn_str (DV.op_notInD hu))
theorem bIn:cR Γ (oIn false) (tV Γ.K false):=cR.or (bInL false) (cR.or bInS (bInD false))
theorem zwc:cR Γ (oIn true) (tV Γ.K true):=cR.or (bInL true) (cR.or zuh (bInD true))
abbrev OJ:R2:=λx y H Q=>(y=.non∧Q (.bl (decide (x=.non))) H)∨rIsB x y H Q
theorem opIs:OpR X (compareOp .Is) OJ:=OpR.or op_isN op_isBl
theorem bIs:cR Γ (oIs false) OJ:=cR.or bIsN bIsB
/-- y[x] -/
def oGet:D->D->Option Rv:=λy x=>(oIx y x).or (oIxD y x)
abbrev O3(K:yF):R2:=λx y H Q=>rIx K x y H Q∨DV.rIxD x y H Q
theorem fj(hu:X.A.units+1<cLine):IxR X (O3 X.K):=IxR.or ix_seq (zuR hu)
theorem bGet:cR Γ oGet (O3 Γ.K):=cR.or bIx bIxD
/-- slices -/
def oSlS:D->Option Int->Option Int->Option Rv
 |.str z,lo,hi=>if z.length≤sizeLine then some (.d (.str (cutS z lo hi))) else none
 |_,_,_=>none
theorem bSlS:SlOk Γ oSlS rSlS:=by
 intro w v d lo hi Q gd t q;cases d with
 |str z=>
  simp only[oSlS] at q;split at q
  ·exact⟨z,fH t,by assumption,q.d gd jg⟩
  ·exact q.elim
 |_=>exact q.elim
def oSlT:D->Option Int->Option Int->Option Rv
 |.tup xs,lo,hi=>if HT.sIx xs.length 0 lo=0∧HT.sIx xs.length xs.length hi=xs.length then none else some (.d (.tup (cutD xs lo hi)))
 |_,_,_=>none
theorem bSlT:SlOk Γ oSlT (rSlT Γ.K):=by iterate
 intro w v d lo hi Q gd t q;cases d with
 |tup xs=>
  simp only[oSlT] at q;split at q
  ·exact q.elim
  ·rename_i n;have t:Rep Γ w.R w.F (.tup xs) v:=t;rw[Rep] at t;obtain⟨a,ys,e,h,l⟩:=t;refine⟨a,ys,e,SqT.of (gd.sub _ _ h),by rw[<-l.length];exact n,λp hp=>q.new gd hp ?_⟩;rw[Rep];exact⟨p,_,rfl,upd_same,(l.up ⟨⟨[],by simp⟩,pW (gd.none_of hp).1⟩).cut lo hi⟩
 |_=>exact q.elim
def oCut:D->Option Int->Option Int->Option Rv:=λd lo hi=>(oSl d lo hi).or ((oSlS d lo hi).or (oSlT d lo hi))
abbrev O4(K:yF):V->Option Int->Option Int->Hp->VK->Prop:=λx lo hi H Q=>rSlL K x lo hi H Q∨(rSlS x lo hi H Q∨rSlT K x lo hi H Q)
theorem xH:SlR X (O4 X.K):=SlR.or sl_list (SlR.or sl_str sl_tup)
theorem bCut:SlOk Γ oCut (O4 Γ.K):=SlOk.or bSlL (SlOk.or bSlS bSlT)
end
section
variable{X:Cx}{Γ:Gm}{W:WX}{x:Str}{pos:Pos}
theorem zzf{i:Int}(hm:∃t,X.mg x=some (.int i t))(hg:Gl X x)(hd:(x == ("__debug__" : Str))=false):PE X (.Name x pos) (tM Γ W (cC (.int i))):=by
 obtain⟨t,hm⟩:=hm;exact Nf (v:=.int i) (λ_ _=>dY) hg hm ⟨t,rfl⟩ hd
theorem zzz{z:Str}(hm:∃t,X.mg x=some (.str z t))(hg:Gl X x)(hd:(x == ("__debug__" : Str))=false):PE X (.Name x pos) (tM Γ W (cC (.str z))):=by
 obtain⟨t,hm⟩:=hm;exact Nf (v:=.str z) (λ_ _=>jg) hg hm ⟨t,rfl⟩ hd
theorem fL{n:String}(hm:X.mg x=none)(hv:bootBuiltins x=some (.type n))(hg:Gl X x)(hn:x≠"__name__") (hd:(x == ("__debug__" : Str))=false):PE X (.Name x pos) (tM Γ W (cC (.ty n))):=
 zt3 (v:=.ty n) (λ_ _=>by rw[Rep]) hg hm hv rfl hn hd
theorem xJ{R:List Addr}{F:Hp}:RepL Γ R F [] []:=by rw[RepL]
theorem xK{R:List Addr}{F:Hp}{d:D}{v:V}{ds:List D}{vs:List V}(h:Rep Γ R F d v)(l:RepL Γ R F ds vs):RepL Γ R F (d::ds) (v::vs):=by rw[RepL];exact⟨v,vs,rfl,h,l⟩
theorem takes0:Takes X W0:=λ_ _ ⟨_,_,_,_,_,_,_,_,_,_,_,_,_,_,_,_,h⟩=>h.elim
end
def obsX(chk:yF->Bool)(fn:List He.DefD)(K:yF):He.AlD:=(chk K && fn.all λd=>d.ok K,fn.map λd=>He.fnW K d.at_)
def SaysX(chk:yF->Bool)(fn:List He.DefD)(K:yF):Prop:=obsX chk fn K=He.valD fn
theorem SaysX.chk{chk:yF->Bool}{fn:List He.DefD}{K:yF}(c:SaysX chk fn K):chk K=true:=(He.ba (show(chk K && fn.all λd=>d.ok K)=true from congrArg (λz:He.AlD=>z.1) c)).1
theorem SaysX.fn{chk:yF->Bool}{fn:List He.DefD}{K:yF}(c:SaysX chk fn K)(i:Nat){d:He.DefD}(h:fn[i]? = some d):∃fd,FunD K d.name d.qual d.params d.body d.scope (d.dvs K) (d.kws K) (He.fAd K d.at_) fd:=by
 have c2:=(He.ba (show(chk K && fn.all λd=>d.ok K)=true from congrArg (λz:He.AlD=>z.1) c)).2
 have e:fn.map (λd=>He.fnW K d.at_)=fn.map He.DefD.val:=congrArg (λz:He.AlD=>z.2) c
 have e2:(fn.map λd=>He.fnW K d.at_)[i]? = (fn.map He.DefD.val)[i]?:=by rw[e]
 rw[az,az,h] at e2;exact He.DefD.funD (aZ e2) (bJ.mp c2 d (aY h))
theorem zrf{P:Program}{w:World}(H:Hp)(s:Shared)(e:Value)(s':Shared):L2.CX P w [] H s (λ_ _ _=>False) e s'->False:=by
 rintro⟨_,_,_,_,_,_,_,_,_,_,_,_,h⟩;exact h
section
variable{X:Cx}{Γ:Gm}{W:WX}{k:Nat}{f:Addr}{fd:FuncData}{ps:List Str}{x:Str}{p pos:Pos}{e:Expr}{es:List Expr}{kws:List Keyword}{cs ck:M (List D)}{m:List D->List Sl->Res Rv}{gD:List D->List D->List D}
theorem dH{n j:Nat}(ks:List Str)(hj:ks.length=j)(F:FnOk X.prog X.w X.K X.mg X.base (L2.CX X.prog X.w) k f fd ps (spM Γ ps.length m))(hr:Room k X.A)(hg:Gl X x)(hm:X.mg x=some (.ref f))(hk:PySem.W.keepIn X.K (.ref f)=true)(hb:d9 Γ X.K fd ps n ks gD)(tk:Takes X W)
  (ha:PA X (e::es) (tMl Γ W cs)) (hkw:PK X kws (tMl Γ W ck)) (hall:(backToKw pos (keywordEach kws X.env)).all (·.1.isSome)=true) (hks:(backToKw pos (keywordEach kws X.env)).filterMap (·.1)=ks)
  (hdb:(x == ("__debug__" : Str))=false) (he:starEach (e::es) X.env=(false,eval e X.env)::starEach es X.env)
  (hpl:((backTo pos (starEach (e::es) X.env)).any (·.1) ||(backToKw pos (keywordEach kws X.env)).any (·.1.isNone))=false) :
  PE X (.Call (.Name x p) (e::es) kws pos) (tM Γ W (cY m n j gD cs ck)):=by
 subst hj;exact zuJ F hr hg hm hk hb tk ha hkw hall hks hdb he hpl
end
theorem zp7{K:yF}{x qual:Str}{params:Arguments}{body:List Stmt}{scope:Scope}{dvs:List V}{kws:List (Str×V)}{f:Addr}{fd fd':FuncData}(F:FunD K x qual params body scope dvs kws f fd)(F':FunD K x qual params body scope dvs kws f fd'):fd=fd':=by
 obtain⟨_,_,_,_,_,_,_,_,_,_,_,lk,_⟩:=F.ex;obtain⟨_,_,_,_,_,_,_,_,_,_,_,lk',_⟩:=F'.ex;rw[lk] at lk';injection lk' with e
 injection e with _ _ e
 injection e
end
section
theorem xM{α:Type}(a:α)(ρ S:List Sl)(t t':Bool):(Res.ok a ρ S t').addt t=.ok a ρ S (t ||t'):=rfl
def jJ{α:Type}(k:Bool)(a b:M α):M α:=λρ S=>if k=true then a ρ S else b ρ S
theorem xN{α:Type}(a b:M α)(ρ S:List Sl):jJ true a b ρ S=a ρ S:=rfl
theorem xO{α:Type}(a b:M α)(ρ S:List Sl):jJ false a b ρ S=b ρ S:=rfl
def tW(i:Nat)(ρ S:List Sl):Option Sl->Res Rv
 |some (.val d)=>.ok (.d d) ρ S false
 |some .emp=>.bad
 |some _=>.ok (.env i) ρ S false
 |none=>.bad
theorem xP(i:Nat)(ρ S:List Sl):bY i ρ S=tW i ρ S ρ[i]?:=by
 unfold bY tW;cases ρ[i]? with
 |none=>rfl
 |some s=>cases s<;>rfl
theorem xQ(i:Nat)(ρ S:List Sl)(d:D):tW i ρ S (some (.val d))=.ok (.d d) ρ S false:=rfl
theorem xR(i:Nat)(ρ S:List Sl)(d:List D):tW i ρ S (some (.lst d))=.ok (.env i) ρ S false:=rfl
theorem ap_C(d:D)(ρ S:List Sl):cC d ρ S=.ok (.d d) ρ S false:=rfl
theorem xT(ρ S:List Sl)(i:Int):cont ρ S (.d (.int i))=some (.int i):=rfl
theorem xU(ρ S:List Sl)(i:Bool):cont ρ S (.d (.bl i))=some (.bl i):=rfl
theorem qp(ρ S:List Sl)(i:Str):cont ρ S (.d (.str i))=some (.str i):=rfl
theorem xV(ρ S:List Sl):cont ρ S (.d .non)=some .non:=rfl
theorem xW(ρ S:List Sl)(n:String):cont ρ S (.d (.ty n))=some (.ty n):=rfl
theorem qu(ρ S:List Sl)(n):cont ρ S (.d (.lst n))=some (.lst n):=rfl
theorem qC(ρ S:List Sl)(n):cont ρ S (.d (.kl n))=some (.kl n):=rfl
theorem xX(ρ S:List Sl)(n):cont ρ S (.d (.tup n))=some (.tup n):=rfl
theorem xY(ρ S:List Sl)(n):cont ρ S (.d (.kt n))=some (.kt n):=rfl
theorem xZ(ρ S:List Sl)(xs:List D):cont ρ (.lst xs::S) (.d (.ob 0))=some (.lst xs):=rfl
theorem yc(ρ S:List Sl)(s:Sl):cont ρ S (.fr s)=s.rd:=rfl
theorem yd(ρ S:List Sl)(i:Nat):cont ρ S (.env i)=(ρ[i]?).bind Sl.rd:=rfl
theorem ye(xs:List D):Sl.rd (.lst xs)=some (.lst xs):=rfl
theorem yf{α β:Type}(a:α)(f:α->Option β):(some a).bind f=f a:=rfl
theorem yg(d:D)(ρ S:List Sl):toD (.d d) ρ S=.ok d ρ S false:=rfl
theorem yh(s:Sl)(ρ S:List Sl):toD (.fr s) ρ S=.ok s.frz ρ S false:=rfl
theorem yj(xs:List D):Sl.frz (.lst xs)=.lst xs:=by simp[Sl.frz]
theorem ap_D(c:M Rv)(ρ S:List Sl):cD c ρ S=(c ρ S).bind toD:=rfl
def two(g:D->D->Option Rv)(a b:Option D)(ρ S:List Sl):Res Rv:=match a,b with
 |some x,some y=>lift (g x y) ρ S
 |_,_=>.bad
def bin2(g:D->D->Option Rv)(ra rb:Rv):M Rv:=λρ S=>two g (cont ρ S ra) (cont ρ S rb) ρ S
def bin1(g:D->D->Option Rv)(cb:M Rv)(ra:Rv):M Rv:=λρ S=>(cb ρ S).bind (bin2 g ra)
theorem ym(g:D->D->Option Rv)(ca cb:M Rv)(ρ S:List Sl):cBin g ca cb ρ S=(ca ρ S).bind (bin1 g cb):=rfl
theorem yo(g:D->D->Option Rv)(cb:M Rv)(ra:Rv)(ρ S:List Sl):bin1 g cb ra ρ S=(cb ρ S).bind (bin2 g ra):=rfl
theorem yq(g:D->D->Option Rv)(ra rb:Rv)(ρ S:List Sl):bin2 g ra rb ρ S=two g (cont ρ S ra) (cont ρ S rb) ρ S:=rfl
theorem yr(g:D->D->Option Rv)(x y:D)(ρ S:List Sl):two g (some x) (some y) ρ S=lift (g x y) ρ S:=rfl
theorem yt(r:Rv)(ρ S:List Sl):lift (some r) ρ S=.ok r ρ S false:=rfl
def negR(o:Option D)(ρ S:List Sl):Res Rv:=match o with
 |some (.int i)=>.ok (.d (.int (-i))) ρ S false
 |_=>.bad
def neg1(r:Rv):M Rv:=λρ S=>negR (cont ρ S r) ρ S
theorem yu(c:M Rv)(ρ S:List Sl):cNeg c ρ S=(c ρ S).bind neg1:=rfl
theorem yw(r:Rv)(ρ S:List Sl):neg1 r ρ S=negR (cont ρ S r) ρ S:=rfl
theorem yz(i:Int)(ρ S:List Sl):negR (some (.int i)) ρ S=.ok (.d (.int (-i))) ρ S false:=rfl
def yC{α:Type}(d:α)(ds:List α):M (List α):=λρ S=>.ok (d::ds) ρ S false
def yD{α:Type}(cs:M (List α))(d:α):M (List α):=λρ S=>(cs ρ S).bind (yC d)
theorem yE(ρ S:List Sl):cG ρ S=.ok [] ρ S false:=rfl
theorem yG(c:M Rv)(cs:M (List D))(ρ S:List Sl):bZ c cs ρ S=(cD c ρ S).bind (yD cs):=rfl
theorem yH{α:Type}(cs:M (List α))(d:α)(ρ S:List Sl):yD cs d ρ S=(cs ρ S).bind (yC d):=rfl
theorem yI{α:Type}(d:α)(ds:List α)(ρ S:List Sl):yC d ds ρ S=.ok (d::ds) ρ S false:=rfl
theorem yJ(ρ S:List Sl):cU ρ S=.ok [] ρ S false:=rfl
theorem yK(c:M Rv)(cs:M (List Rv))(ρ S:List Sl):cV c cs ρ S=(c ρ S).bind (yD cs):=rfl
theorem yL(ρ S:List Sl):fB ρ S []=some []:=rfl
def yM:Option D->Option (List D)->Option (List D)
 |some d,some ds=>some (d::ds)
 |_,_=>none
theorem yN(ρ S:List Sl)(r:Rv)(rs:List Rv):fB ρ S (r::rs)=yM (cont ρ S r) (fB ρ S rs):=by
 unfold yM;rw[fB]
 all_goals (cases cont ρ S r<;>cases fB ρ S rs<;>rfl)
theorem yO(d:D)(ds:List D):yM (some d) (some ds)=some (d::ds):=rfl
def one(g:List D->Option Rv)(ds:Option (List D))(ρ S:List Sl):Res Rv:=match ds with
 |some ds=>lift (g ds) ρ S
 |none=>.bad
def blt1(g:List D->Option Rv)(rs:List Rv):M Rv:=λρ S=>one g (fB ρ S rs) ρ S
theorem yP(g:List D->Option Rv)(cs:M (List Rv))(ρ S:List Sl):cBlt g cs ρ S=(cs ρ S).bind (blt1 g):=rfl
theorem yQ(g:List D->Option Rv)(rs:List Rv)(ρ S:List Sl):blt1 g rs ρ S=one g (fB ρ S rs) ρ S:=rfl
theorem yR(g:List D->Option Rv)(ds:List D)(ρ S:List Sl):one g (some ds) ρ S=lift (g ds) ρ S:=rfl
def tup1(ds:List D):M Rv:=λρ S=>if ds.length≤sizeLine then .ok (.d (.tup ds)) ρ S false else .bad
theorem yS(cs:M (List D))(ρ S:List Sl):cTup cs ρ S=(cs ρ S).bind tup1:=rfl
theorem O5{ds:List D}{ρ S:List Sl}(h:ds.length≤sizeLine):tup1 ds ρ S=.ok (.d (.tup ds)) ρ S false:=if_pos h
def lst1(ds:List D):M Rv:=λρ S=>if ds.length≤sizeLine then .ok (.fr (.lst ds)) ρ S false else .bad
theorem yU(cs:M (List D))(ρ S:List Sl):cLst cs ρ S=(cs ρ S).bind lst1:=rfl
theorem O6{ds:List D}{ρ S:List Sl}(h:ds.length≤sizeLine):lst1 ds ρ S=.ok (.fr (.lst ds)) ρ S false:=if_pos h
def yV(m:List D->List Sl->Res Rv)(n j:Nat)(gD:List D->List D->List D)(ds es:List D)(ρ S:List Sl):Res Rv:=if ds.length=n∧es.length=j then(m (gD ds es) S).at ρ else .bad
def O7(m:List D->List Sl->Res Rv)(n j:Nat)(gD:List D->List D->List D)(ks:M (List D))(ds:List D):M Rv:=λρ S=>(ks ρ S).bind (yV m n j gD ds)
theorem yW(m:List D->List Sl->Res Rv)(n j:Nat)(gD:List D->List D->List D)(cs ks:M (List D))(ρ S:List Sl):cY m n j gD cs ks ρ S=(cs ρ S).bind (O7 m n j gD ks):=rfl
theorem yX(m:List D->List Sl->Res Rv)(n j:Nat)(gD:List D->List D->List D)(ks:M (List D))(ds:List D)(ρ S:List Sl):O7 m n j gD ks ds ρ S=(ks ρ S).bind (yV m n j gD ds):=rfl
theorem O8{m:List D->List Sl->Res Rv}{n j:Nat}{gD:List D->List D->List D}{ds es:List D}{ρ S:List Sl}(h1:ds.length=n)(h2:es.length=j):yV m n j gD ds es ρ S=(m (gD ds es) S).at ρ:=if_pos ⟨h1,h2⟩
theorem yZ{α:Type}(ρ ρ' S:List Sl)(r:α)(t:Bool):(Res.ok r ρ' S t).at ρ=.ok r ρ S false:=rfl
def tstR(r:Rv)(ρ S:List Sl):Res Bool:=match r with
 |.d (.bl b)=>.ok b ρ S false
 |_=>.bad
theorem zf(c:M Rv)(ρ S:List Sl):cTst c ρ S=(c ρ S).bind tstR:=rfl
theorem zg(b:Bool)(ρ S:List Sl):tstR (.d (.bl b)) ρ S=.ok b ρ S false:=rfl
def truR(o:Option Bool)(ρ S:List Sl):Res Bool:=match o with
 |some b=>.ok b ρ S false
 |none=>.bad
def tru1(r:Rv):M Bool:=λρ S=>truR ((cont ρ S r).bind truD) ρ S
theorem zj(c:M Rv)(ρ S:List Sl):cTru c ρ S=(c ρ S).bind tru1:=rfl
theorem zm(r:Rv)(ρ S:List Sl):tru1 r ρ S=truR ((cont ρ S r).bind truD) ρ S:=rfl
theorem zp(b:Bool)(ρ S:List Sl):truR (some b) ρ S=.ok b ρ S false:=rfl
theorem zq(b:Bool):truD (.bl b)=some b:=rfl
def notR(b:Bool):M Bool:=λρ S=>.ok (!b) ρ S false
def okB(b:Bool):M Bool:=λρ S=>.ok b ρ S false
theorem zr(b:Bool)(ρ S:List Sl):okB b ρ S=.ok b ρ S false:=rfl
theorem zu(c:M Bool)(ρ S:List Sl):fM c ρ S=(c ρ S).bind notR:=rfl
theorem zA(b:Bool)(ρ S:List Sl):notR b ρ S=.ok (!b) ρ S false:=rfl
def O9(d:M Bool)(b:Bool):M Bool:=jJ b d (okB false)
theorem zB(c d:M Bool)(ρ S:List Sl):pY c d ρ S=(c ρ S).bind (O9 d):=rfl
theorem zE(d:M Bool)(b:Bool)(ρ S:List Sl):O9 d b ρ S=jJ b d (okB false) ρ S:=rfl
def orB1(d:M Bool)(b:Bool):M Bool:=jJ b (okB true) d
theorem zF(c d:M Bool)(ρ S:List Sl):cOrB c d ρ S=(c ρ S).bind (orB1 d):=rfl
theorem zG(d:M Bool)(b:Bool)(ρ S:List Sl):orB1 d b ρ S=jJ b (okB true) d ρ S:=rfl
def seqR(b:M Fl)(r:Res Fl):Res Fl:=match r with
 |.ok .nx ρ S _=>b ρ S
 |r=>r
theorem zH(a b:M Fl)(ρ S:List Sl):cSeq a b ρ S=seqR b (a ρ S):=by
 unfold cSeq seqR;cases a ρ S with
 |ok f ρ1 S1 t=>cases f<;>rfl
 |ex _ _ _=>rfl
 |bad=>rfl
theorem zJ(b:M Fl)(ρ S:List Sl)(t:Bool):seqR b (.ok .nx ρ S t)=b ρ S:=rfl
theorem zK(b:M Fl)(ρ S:List Sl)(t:Bool)(r:Rv):seqR b (.ok (.rt r) ρ S t)=.ok (.rt r) ρ S t:=rfl
theorem zM(ρ S:List Sl):cNx ρ S=.ok .nx ρ S false:=rfl
def ifS1(a b:M Fl)(k:Bool):M Fl:=jJ k a b
theorem zN(t:M Bool)(a b:M Fl)(ρ S:List Sl):cIfS t a b ρ S=(t ρ S).bind (ifS1 a b):=rfl
theorem zP(a b:M Fl)(k:Bool)(ρ S:List Sl):ifS1 a b k ρ S=jJ k a b ρ S:=rfl
def rtR(r:Rv):M Fl:=λρ S=>.ok (.rt r) ρ S false
def ret1(r:Rv):M Fl:=λρ S=>(outR r ρ S).bind rtR
theorem zQ(c:M Rv)(ρ S:List Sl):cRet c ρ S=(c ρ S).bind ret1:=rfl
theorem zR(r:Rv)(ρ S:List Sl):ret1 r ρ S=(outR r ρ S).bind rtR:=rfl
theorem zU(r:Rv)(ρ S:List Sl):rtR r ρ S=.ok (.rt r) ρ S false:=rfl
theorem zV(d:D)(ρ S:List Sl):outR (.d d) ρ S=.ok (.d d) ρ S false:=rfl
theorem zW(s:Sl)(ρ S:List Sl):outR (.fr s) ρ S=.ok (.fr s) ρ S false:=rfl
def setR(i:Nat)(d:D)(ρ S:List Sl):Res Fl:=if i<ρ.length then .ok .nx (ρ.set i (.val d)) S false else .bad
def set1(i:Nat)(r:Rv):M Fl:=λρ S=>(toD r ρ S).bind (setR i)
theorem zX(i:Nat)(c:M Rv)(ρ S:List Sl):cSet false i c ρ S=(c ρ S).bind (set1 i):=rfl
theorem zY(i:Nat)(r:Rv)(ρ S:List Sl):set1 i r ρ S=(toD r ρ S).bind (setR i):=rfl
theorem z8(i:Nat)(d:D)(ρ S:List Sl)(h:i<ρ.length):setR i d ρ S=.ok .nx (ρ.set i (.val d)) S false:=if_pos h
def putR(g:Sl->D->D->Option Sl)(d:D)(ro:Rv)(a:Option Sl)(b:Option D)(ρ S:List Sl):Res Fl:=match a,b with
 |some s,some k=>(match g s k d with
  |some s'=>.ok .nx (putP ro s' ρ S).1 (putP ro s' ρ S).2 false
  |none=>.bad)
 |_,_=>.bad
def put3(g:Sl->D->D->Option Sl)(d:D)(ro ri:Rv):M Fl:=λρ S=>putR g d ro (getP ro ρ S) (cont ρ S ri) ρ S
def put2(g:Sl->D->D->Option Sl)(ci:M Rv)(d:D)(ro:Rv):M Fl:=λρ S=>(ci ρ S).bind (put3 g d ro)
def put1(g:Sl->D->D->Option Sl)(co ci:M Rv)(d:D):M Fl:=λρ S=>(co ρ S).bind (put2 g ci d)
theorem z9(g:Sl->D->D->Option Sl)(c co ci:M Rv)(ρ S:List Sl):cPut g c co ci ρ S=(cD c ρ S).bind (put1 g co ci):=rfl
theorem Aa(g:Sl->D->D->Option Sl)(co ci:M Rv)(d:D)(ρ S:List Sl):put1 g co ci d ρ S=(co ρ S).bind (put2 g ci d):=rfl
theorem Ab(g:Sl->D->D->Option Sl)(ci:M Rv)(d:D)(ro:Rv)(ρ S:List Sl):put2 g ci d ro ρ S=(ci ρ S).bind (put3 g d ro):=rfl
theorem Ac(g:Sl->D->D->Option Sl)(d:D)(ro ri:Rv)(ρ S:List Sl):put3 g d ro ri ρ S=putR g d ro (getP ro ρ S) (cont ρ S ri) ρ S:=rfl
theorem Ad(ρ S:List Sl)(xs:List D):getP (.d (.ob 0)) ρ (.lst xs::S)=some (.lst xs):=rfl
theorem znY{xs:List D}{i:Int}{d:D}{ρ S:List Sl}{j:Nat}(h:ixN xs.length i=some j):putR stS d (.d (.ob 0)) (some (.lst xs)) (some (.int i)) ρ (.lst xs::S)=.ok .nx ρ (.lst (xs.set j d)::S) false:=by
 simp[putR,stS,stL,h,putP]
theorem Ae(a b:Int):oAdd (.int a) (.int b)=some (.d (.int (a+b))):=rfl
theorem Af(a b:Int):oSub (.int a) (.int b)=some (.d (.int (a - b))):=rfl
theorem qD{a b:Int}(h:b.natAbs<2 ^ 64):oMul (.int a) (.int b)=some (.d (.int (a*b))):=by
 simp[oMul,kZ,oInt,h]
theorem tX{a b:Int}(h:0<b):oMod (.int a) (.int b)=some (.d (.int (a % b))):=by
 simp[oMod,oInt,h]
theorem tY{a b:Int}(h:0<b)(h2:b<1152921504606846976):jA (.int a) (.int b)=some (.d (.int (a / b))):=by
 simp[jA,oInt,h,h2]
theorem Ag{a b:Int}(h:0≤b)(h1:b≤1000000)(h2:a.natAbs<2 ^ 64):oPow (.int a) (.int b)=some (.d (.int (a ^ b.toNat))):=by
 simp[oPow,oInt,h,h1,h2]
theorem Ah(a b:Int):oLt (.int a) (.int b)=some (.d (.bl (decide (a<b)))):=rfl
theorem Ai(a b:Int):oLe (.int a) (.int b)=some (.d (.bl (decide (a≤b)))):=rfl
theorem Aj(a b:Int):oGt (.int a) (.int b)=some (.d (.bl (decide (b<a)))):=rfl
theorem Ak(a b:Int):oGe (.int a) (.int b)=some (.d (.bl (decide (b≤a)))):=rfl
theorem Pa(a b:Int):decide (V.int a=V.int b)=decide (a=b):=by
 by_cases h:a=b
 ·subst h;simp
 ·have h2:¬V.int a=V.int b:=λz=>h (by cases z;rfl);simp[h,h2]
theorem tZ(a b:Int):oEq false (.int a) (.int b)=some (.d (.bl (decide (a=b)))):=by
 show some (Rv.d (.bl (false != decide (V.int a=V.int b))))=_;rw[Pa];simp
theorem t8(a b:Int):oEq true (.int a) (.int b)=some (.d (.bl (!decide (a=b)))):=by
 show some (Rv.d (.bl (true != decide (V.int a=V.int b))))=_;rw[Pa];simp
theorem jk{α:Type}{xs:List α}{i:Int}(h:0≤i):atI xs i=xs[i.toNat]?:=by
 unfold atI ixN;rw[if_pos h];split
 ·rfl
 ·rename_i h2;rw[List.getElem?_eq_none (by omega)];rfl
theorem ue(xs:List D)(i:Int):oGet (.lst xs) (.int i)=(atI xs i).map .d:=by
 show((atI xs i).map Rv.d).or none=_;cases atI xs i<;>rfl
theorem uf(xs:List D)(i:Int):oGet (.tup xs) (.int i)=(atI xs i).map .d:=by
 show((atI xs i).map Rv.d).or none=_;cases atI xs i<;>rfl
theorem Am{α β:Type}(a:α)(f:α->β):(some a).map f=some (f a):=rfl
theorem Ao(xs:List D):gLen [.lst xs]=some (.d (.int xs.length)):=rfl
theorem Aq(i:Int):gInt [.int i]=some (.d (.int i)):=rfl
theorem Ar(i:Int):gAbs [.int i]=some (.d (.int (if i<0 then -i else i))):=rfl
theorem zxL{n:Nat}{i:Int}(h:0≤i)(h2:i<n):ixN n i=some i.toNat:=by
 unfold ixN;rw[if_pos h,if_pos h2]
theorem Av{xs:List D}{i:Int}{d:D}{ρ S:List Sl}(h:0≤i)(h2:i.toNat<xs.length):putR stS d (.d (.ob 0)) (some (.lst xs)) (some (.int i)) ρ (.lst xs::S)=.ok .nx ρ (.lst (xs.set i.toNat d)::S) false:=
 znY (zxL h (by omega))
theorem Ax(r:Rv)(ρ S:List Sl)(t:Bool):endM (.ok (.rt r) ρ S t)=.ok r [] S false:=rfl
theorem Ay(ρ S:List Sl)(t:Bool):endM (.ok .nx ρ S t)=.ok (.d .non) [] S false:=rfl
theorem Az(n:Nat)(c:M Fl)(ds:List D)(S:List Sl):defM n c ds S=endM (c (env0 n ds) S):=rfl
end
local macro_rules
  | `(tactic| simp_arith [$ts,*]) => `(tactic| simp only [Az, env0, List.map_cons, List.map_nil, List.length_cons, List.length_nil, List.replicate, Nat.reduceAdd, Nat.reduceSub, List.cons_append, List.nil_append,
  zH, z9, ap_D, ym, xP, List.getElem?_cons_zero, List.getElem?_cons_succ, xQ, xR, Res.bind_ok, yo, ap_C, yq, xZ, xT, xU, qp, xV, xW, qu, qC, xX, xY, yc, yd, ye, yf,
  yr, ue, uf, jk, Int.reduceLE, Int.reduceToNat, Am, yt, xM, Bool.or_false, Bool.or_self, Ae, Af, yg, yh, yj, Aa, Ab, Ac, Ad, Av, Int.reduceLT, List.set_cons_succ, List.set_cons_zero,
  zJ, zN, zB, zF, zu, zA, zf, tZ, t8, zg, zE, zG, decide_false, decide_true, Bool.not_true, Bool.not_false, xO, xN, zr, zP, zM, Aj, Ak, Ah, Ai,
  zX, zY, z8, yP, yK, yJ, yG, yE, yH, yI, yQ, yN, yL, yO, yR, Aq, Ar, Ao, tX, tY, zQ, zR, zV, zW, zU, zK, Ax, Ay, Nat.reduceLT,
  yW, yX, yZ, yS, yU, zj, zm, zp, zq, yu, yw, yz, $ts,*])
section
def qF:M Fl:=(cSeq (cPut stS (cBin oAdd (cBin oGet (bY 0) (cC (.int 4))) (cC (.int 1))) (bY 0) (cC (.int 4)))
  (cSeq (cIfS (pY (cTst (cBin (oEq false) (cBin oGet (bY 0) (cC (.int 2))) (cC (.int 0)))) (cTst (cBin oLt (cBin oGet (bY 0) (cC (.int 1))) (cBlt gLen (cV (cBin oGet (bY 0) (cC (.int 0))) cU))))) (cSeq (cSet false 2 (cBin oGet (cBin oGet (bY 0) (cC (.int 0))) (cBin oGet (bY 0) (cC (.int 1)))))
  (cSeq (cPut stS (cBin oAdd (cBin oGet (bY 0) (cC (.int 1))) (cC (.int 1))) (bY 0) (cC (.int 1)))
  (cIfS (cTst (cBin oGe (cBlt gAbs (cV (bY 2) cU)) (cBin oPow (cC (.int 10)) (cC (.int 18))))) (cPut stS (cBlt gAbs (cV (bY 2) cU)) (bY 0) (cC (.int 2))) (cSeq (cSet false 3 (cBin oAdd (cBin oMul (cBin oMod (cBlt gInt (cV (bY 2) cU)) (cC (.int 1000303))) (cC (.int 769))) (cC (.int 41))))
  (cPut stS (cBin oMod (cBlt gInt (cV (cBin oAdd (cBin oMul (cBin oGet (bY 0) (cC (.int 3))) (cC (.int 43789))) (bY 3)) cU)) (cC (.int 2147483629))) (bY 0) (cC (.int 3))))))) cNx)
  (cSeq (cIfS (cTst (cBin oGt (cBin oGet (bY 0) (cC (.int 2))) (cC (.int 0)))) (cSeq (cSet false 4 (cBin oMod (cBlt gInt (cV (cBin oGet (bY 0) (cC (.int 2))) cU)) (bY 1)))
  (cSeq (cPut stS (cBin jA (cBin oGet (bY 0) (cC (.int 2))) (bY 1)) (bY 0) (cC (.int 2)))
  (cRet (bY 4)))) cNx)
  (cSeq (cSet false 5 (cBin oGet (bY 0) (cC (.int 3))))
  (cSeq (cSet false 6 (cBin oAdd (cBin oAdd (cBin oMul (bY 5) (cC (.int 49031))) (cBin oMul (cBin oGet (bY 0) (cC (.int 4))) (cC (.int 110023)))) (cC (.int 60037))))
  (cSeq (cPut stS (cBin oMod (cBlt gInt (cV (cBin oAdd (cBin oMul (cBin oMul (bY 5) (bY 5)) (cC (.int 17))) (bY 6)) cU)) (cC (.int 2147483587))) (bY 0) (cC (.int 3)))
  (cRet (cBin oMod (cBlt gInt (cV (cBin oAdd (cBin jA (cBin oGet (bY 0) (cC (.int 3))) (cC (.int 73))) (cBin oMul (cBin oMod (cBlt gInt (cV (cBin oGet (bY 0) (cC (.int 3))) cU)) (cC (.int 8009))) (cC (.int 61)))) cU)) (bY 1)))))))))
def fO:=defM 7 qF
def Pb:M Fl:=(cSeq (cSet false 1 (cC (.int 12025)))
  (cSeq (cFor (cIts (cSl oCut (bY 0) cNoP (jB (cC (.int 63))))) (.nm 2) (cSet false 1 (cBin oMod (cBlt gInt (cV (cBin oAdd (cBin oAdd (cBin oMul (bY 1) (cC (.int 52361))) (cBin oMul (cBin oMod (cBlt gInt (cV (bY 2) cU)) (cC (.int 1000303))) (cC (.int 877)))) (cC (.int 37))) cU)) (cC (.int 2147483587)))))
  (cRet (cLst (bZ (cBlt fK (cV (cSl oCut (bY 0) cNoP (jB (cC (.int 63)))) cU)) (bZ (cC (.int 0)) (bZ (cC (.int 0)) (bZ (bY 1) (bZ (cC (.int 0)) cG)))))))))
def ug:=defM 3 Pb
abbrev bagL(xs:List Int)(p g m c:Int):Sl:=.lst [.lst (xs.map .int),.int p,.int g,.int m,.int c]
def Bag(b:Sl):Prop:=∃xs p g m c,b=bagL xs p g m c∧0≤p∧0≤g∧0≤m∧m<2147483648
section
variable(xs:List Int)(p g m c n:Int)(rest:List Sl)
theorem zsS(hn:0<n)(hn2:n<1152921504606846976)(hg:0<g):fO [.ob 0,.int n] (bagL xs p g m c::rest)=.ok (.d (.int (g % n))) [] (bagL xs p (g / n) m (c+1)::rest) false:=by
 have hg0:¬g=0:=by omega
 simp_arith [fO,qF,bagL,hg0,hg,hn,hn2]
theorem Pg:oPow (.int 10) (.int 18)=some (.d (.int 1000000000000000000)):=by
 rw[Ag (by decide) (by decide) (by decide)];rfl
theorem zry(x:Int)(hx:xs[p.toNat]? = some x)(hp:0≤p)(hp2:p<xs.length)(hn:0<n)(hn2:n<1152921504606846976)(hb:1000000000000000000≤(if x<0 then -x else x)) :
  fO [.ob 0,.int n] (bagL xs p 0 m c::rest)=.ok (.d (.int ((if x<0 then -x else x) % n))) [] (bagL xs (p+1) ((if x<0 then -x else x) / n) m (c+1)::rest) false:=by
 have h0:¬(if x<0 then -x else x)=0:=by omega
 have h1:0<(if x<0 then -x else x):=by omega
 simp_arith [fO,qF,bagL,hn,hn2,Pg,List.length_map,hp2,hp,List.getElem?_map,hx,hb,h1,Option.map_some]
abbrev iV(m c:Int):Int:=(m*m*17+(m*49031+c*110023+60037)) % 2147483587
theorem zuD(hp2:¬p<xs.length)(hm:0≤m)(hm2:m<2147483648)(hn:0<n)(hn2:n<1152921504606846976) :
  fO [.ob 0,.int n] (bagL xs p 0 m c::rest)=.ok (.d (.int ((iV m (c+1) / 73+iV m (c+1) % 8009*61) % n))) [] (bagL xs p 0 (iV m (c+1)) (c+1)::rest) false:=by
 have h17:m.natAbs<2 ^ 64:=by omega
 have e:∀a k:Int,k.natAbs<2 ^ 64->oMul (.int a) (.int k)=some (.d (.int (a*k))):=λa k h=>qD h;simp_arith [fO,qF,bagL,hn,hn2,List.length_map,hp2,qD h17,e _ 17 (by decide),e _ 49031 (by decide),e _ 110023 (by decide),e _ 61 (by decide)]
abbrev mix_(m x:Int):Int:=(m*43789+(x % 1000303*769+41)) % 2147483629
theorem ztB(x:Int)(hx:xs[p.toNat]? = some x)(hp:0≤p)(hp2:p<xs.length)(hn:0<n)(hn2:n<1152921504606846976)(hb:¬1000000000000000000≤(if x<0 then -x else x)) :
  fO [.ob 0,.int n] (bagL xs p 0 m c::rest)=.ok (.d (.int ((iV (mix_ m x) (c+1) / 73+iV (mix_ m x) (c+1) % 8009*61) % n))) [] (bagL xs (p+1) 0 (iV (mix_ m x) (c+1)) (c+1)::rest) false:=by iterate
 have h17:(mix_ m x).natAbs<2 ^ 64:=by
  unfold mix_;omega
 have e:∀a k:Int,k.natAbs<2 ^ 64->oMul (.int a) (.int k)=some (.d (.int (a*k))):=λa k h=>qD h;have e2:=qD (a:=mix_ m x) (b:=mix_ m x) h17;unfold mix_ at e2;simp_arith [fO,qF,bagL,hn,hn2,Pg,List.length_map,hp2,hp,List.getElem?_map,hx,hb,Option.map_some,e _ 17 (by decide),e _ 49031 (by decide),e _ 110023 (by decide),e _ 61 (by decide),e _ 769 (by decide),e _ 43789 (by decide),e2]
theorem Bag.draw{b:Sl}(h:Bag b)(hn:0<n)(hn2:n<1152921504606846976):∃v b',0≤v∧v<n∧Bag b'∧∀rest,fO [.ob 0,.int n] (b::rest)=.ok (.d (.int v)) [] (b'::rest) false:=by iterate
 obtain⟨xs,p,g,m,c,rfl,hp,hg,hm,hm2⟩:=h;have nn:∀a:Int,0≤a % n∧a % n<n:=λa=>⟨Int.emod_nonneg _ (by omega),Int.emod_lt_of_pos _ hn⟩;have dd:∀a:Int,0≤a->0≤a / n:=λa ha=>Int.ediv_nonneg ha (by omega)
 by_cases hg0:0<g
 ·exact⟨_,_,(nn _).1,(nn _).2,⟨xs,p,g / n,m,c+1,rfl,hp,dd _ hg,hm,hm2⟩,λrest=>zsS xs p g m c n rest hn hn2 hg0⟩
 ·obtain rfl:g=0:=by omega
  by_cases hp2:p<xs.length
  ·obtain⟨x,hx⟩:∃x,xs[p.toNat]? = some x:=⟨xs[p.toNat]'(by omega),aJ _⟩
   by_cases hb:1000000000000000000≤(if x<0 then -x else x)
   ·exact⟨_,_,(nn _).1,(nn _).2,⟨xs,p+1,_,m,c+1,rfl,by omega,dd _ (by omega),hm,hm2⟩,λrest=>zry xs p m c n rest x hx hp hp2 hn hn2 hb⟩
   ·exact⟨_,_,(nn _).1,(nn _).2,⟨xs,p+1,0,_,c+1,rfl,by omega,by omega,by unfold iV;omega,by unfold iV;omega⟩,λrest=>ztB xs p m c n rest x hx hp hp2 hn hn2 hb⟩
  ·exact⟨_,_,(nn _).1,(nn _).2,⟨xs,p,0,_,c+1,rfl,hp,by omega,by unfold iV;omega,by unfold iV;omega⟩,λrest=>zuD xs p m c n rest hp2 hm hm2 hn hn2⟩
end
end
section
def forR(g:Tgt)(b:M Fl)(r:Res (List D)):Res Fl:=match r with
 |.ok ds ρ S _=>forM g b ds ρ S
 |.ex x ρ S=>.ex x ρ S
 |.bad=>.bad
theorem Ph(ci:M (List D))(g:Tgt)(b:M Fl)(ρ S:List Sl):cFor ci g b ρ S=forR g b (ci ρ S):=by
 unfold cFor forR;rfl
theorem Pj(g:Tgt)(b:M Fl)(ds:List D)(ρ S:List Sl)(t:Bool):forR g b (.ok ds ρ S t)=forM g b ds ρ S:=rfl
/-- no turn leaves the loop -/
theorem Pk{g:Tgt}{b:M Fl}(I:List Sl->List Sl->Prop):∀(ds:List D) (ρ S:List Sl),(∀d∈ds,∀ρ S,I ρ S->∃ρ1 ρ2 S2 t,eX g d ρ=some ρ1∧b ρ1 S=.ok .nx ρ2 S2 t∧I ρ2 S2)->I ρ S->
  ∃ρ' S',forM g b ds ρ S=.ok .nx ρ' S' false∧I ρ' S'
 |[],ρ,S,_,i=>⟨ρ,S,rfl,i⟩
 |d::ds,ρ,S,h,i=>by
  obtain⟨ρ1,ρ2,S2,t,e1,e2,i2⟩:=h d (by simp) ρ S i;obtain⟨ρ',S',e3,i3⟩:=Pk I ds ρ2 S2 (λd hd=>h d (by simp[hd])) i2;refine⟨ρ',S',?_,i3⟩;rw[forM];simp only[e1,e2];exact e3
def lcR(vs:List Nat)(g:Tgt)(t:M Bool)(c:M Rv)(r:Res (List D)):Res Rv:=match r with
 |.ok ds ρ1 S1 _=>(match gj vs g t c ds [] (dC ρ1 vs) S1 with
  |.ok acc ρ2 S2 _=>.ok (.fr (.lst acc)) ρ2 S2 true
  |_=>.bad)
 |.ex x ρ1 S1=>.ex x ρ1 S1
 |.bad=>.bad
theorem Pn(ci:M (List D))(vs:List Nat)(g:Tgt)(t:M Bool)(c:M Rv)(ρ S:List Sl):cLc ci vs g t c ρ S=lcR vs g t c (ci ρ S):=by
 unfold cLc lcR;rfl
def itsR(d:D)(ρ S:List Sl):Res (List D):=match d.its with
 |some ds=>.ok ds ρ S false
 |none=>.bad
theorem Pq(c:M Rv)(ρ S:List Sl):cIts c ρ S=(cD c ρ S).bind itsR:=rfl
theorem Pr(z:Str)(ρ S:List Sl):itsR (.str z) ρ S=.ok (jj z) ρ S false:=rfl
theorem Pu(xs:List D)(ρ S:List Sl):itsR (.lst xs) ρ S=.ok xs ρ S false:=rfl
theorem Px(xs:List D)(ρ S:List Sl):itsR (.kl xs) ρ S=.ok xs ρ S false:=rfl
theorem Py(xs:List D)(ρ S:List Sl):itsR (.tup xs) ρ S=.ok xs ρ S false:=rfl
def zyF(ds:List D)(ρ S:List Sl):Res (List D):=match ds with
 |[.int j]=>if -(2 ^ 62)≤j∧j<2 ^ 62 then .ok (gh 0 j.toNat) ρ S false else .bad
 |_=>.bad
theorem PN(cs:M (List D))(ρ S:List Sl):oF cs ρ S=(cs ρ S).bind zyF:=rfl
def zyl(ds:List D)(ρ S:List Sl):Res (List D):=match ds with
 |[.int i,.int j]=>if -(2 ^ 62)≤i∧i<2 ^ 62∧-(2 ^ 62)≤j∧j<2 ^ 62 then .ok (gh i (j - i).toNat) ρ S false else .bad
 |_=>.bad
theorem PP(cs:M (List D))(ρ S:List Sl):NP cs ρ S=(cs ρ S).bind zyl:=rfl
theorem zmO(lo:Int)(n:Nat):(gh lo n).length=n:=by simp[gh]
theorem zr7{i:Nat}{d:D}{ρ:List Sl}(h:i<ρ.length):eX (.nm i) d ρ=some (ρ.set i (.val d)):=if_pos h
def part1(r:Rv):M (Option Int):=λρ S=>match (cont ρ S r).bind qd with
 |some o=>.ok o ρ S false
 |none=>.bad
theorem P0(c:M Rv)(ρ S:List Sl):jB c ρ S=(c ρ S).bind part1:=rfl
theorem Qa(i:Int)(ρ S:List Sl):part1 (.d (.int i)) ρ S=.ok (some i) ρ S false:=rfl
theorem Qc(ρ S:List Sl):cNoP ρ S=.ok none ρ S false:=rfl
def sl3(g:D->Option Int->Option Int->Option Rv)(re:Rv)(lo hi:Option Int):M Rv:=λρ S=>match cont ρ S re with
 |some d=>lift (g d lo hi) ρ S
 |none=>.bad
def sl2(g:D->Option Int->Option Int->Option Rv)(ch:M (Option Int))(re:Rv)(lo:Option Int):M Rv:=λρ S=>(ch ρ S).bind (sl3 g re lo)
def sl1(g:D->Option Int->Option Int->Option Rv)(cl ch:M (Option Int))(re:Rv):M Rv:=λρ S=>(cl ρ S).bind (sl2 g ch re)
theorem Qe(g:D->Option Int->Option Int->Option Rv)(ce:M Rv)(cl ch:M (Option Int))(ρ S:List Sl):cSl g ce cl ch ρ S=(ce ρ S).bind (sl1 g cl ch):=rfl
theorem Qg(g:D->Option Int->Option Int->Option Rv)(cl ch:M (Option Int))(re:Rv)(ρ S:List Sl):sl1 g cl ch re ρ S=(cl ρ S).bind (sl2 g ch re):=rfl
theorem Qh(g:D->Option Int->Option Int->Option Rv)(ch:M (Option Int))(re:Rv)(lo:Option Int)(ρ S:List Sl):sl2 g ch re lo ρ S=(ch ρ S).bind (sl3 g re lo):=rfl
theorem oN{g:D->Option Int->Option Int->Option Rv}{re:Rv}{lo hi:Option Int}{ρ S:List Sl}{d:D}(h:cont ρ S re=some d):sl3 g re lo hi ρ S=lift (g d lo hi) ρ S:=by
 unfold sl3;rw[h]
theorem Qi(xs:List D)(lo hi:Option Int):oCut (.kl xs) lo hi=some (.fr (.lst (cutD xs lo hi))):=rfl
theorem Ql(xs:List D)(lo hi:Option Int):oCut (.lst xs) lo hi=some (.fr (.lst (cutD xs lo hi))):=rfl
theorem cut_str{z:Str}(h:z.length≤sizeLine)(lo hi:Option Int):oCut (.str z) lo hi=some (.d (.str (cutS z lo hi))):=by
 show(none:Option Rv).or ((if z.length≤sizeLine then some (.d (.str (cutS z lo hi))) else none).or none)=_
 rw[if_pos h];rfl
def truK(o:Option Bool)(a b:M Rv):M Rv:=λρ S=>match o with
 |some true=>a ρ S
 |some false=>b ρ S
 |none=>.bad
def okR(r:Rv):M Rv:=λρ S=>.ok r ρ S false
theorem Qm(r:Rv)(ρ S:List Sl):okR r ρ S=.ok r ρ S false:=rfl
theorem Qn(a b:M Rv)(ρ S:List Sl):truK (some true) a b ρ S=a ρ S:=rfl
theorem Qo(a b:M Rv)(ρ S:List Sl):truK (some false) a b ρ S=b ρ S:=rfl
def and1(cb:M Rv)(ra:Rv):M Rv:=λρ S=>truK ((cont ρ S ra).bind truD) cb (okR ra) ρ S
def or1(cb:M Rv)(ra:Rv):M Rv:=λρ S=>truK ((cont ρ S ra).bind truD) (okR ra) cb ρ S
theorem Qp(ca cb:M Rv)(ρ S:List Sl):cAnd ca cb ρ S=(ca ρ S).bind (and1 cb):=rfl
theorem Qq(cb:M Rv)(ra:Rv)(ρ S:List Sl):and1 cb ra ρ S=truK ((cont ρ S ra).bind truD) cb (okR ra) ρ S:=rfl
theorem Qs(ca cb:M Rv)(ρ S:List Sl):cOr ca cb ρ S=(ca ρ S).bind (or1 cb):=rfl
theorem Qt(cb:M Rv)(ra:Rv)(ρ S:List Sl):or1 cb ra ρ S=truK ((cont ρ S ra).bind truD) (okR ra) cb ρ S:=rfl
def notV(o:Option Bool)(ρ S:List Sl):Res Rv:=match o with
 |some b=>.ok (.d (.bl (!b))) ρ S false
 |none=>.bad
def not1(ra:Rv):M Rv:=λρ S=>notV ((cont ρ S ra).bind truD) ρ S
theorem Qu(ca:M Rv)(ρ S:List Sl):cNot ca ρ S=(ca ρ S).bind not1:=rfl
theorem Qv(ra:Rv)(ρ S:List Sl):not1 ra ρ S=notV ((cont ρ S ra).bind truD) ρ S:=rfl
theorem Qw(b:Bool)(ρ S:List Sl):notV (some b) ρ S=.ok (.d (.bl (!b))) ρ S false:=rfl
theorem Qx(i:Nat)(c:M Rv)(ρ S:List Sl):cSto i c ρ S=(c ρ S).bind (jE i):=rfl
theorem Qy{i:Nat}{xs:List D}{ρ S:List Sl}(h:i<ρ.length):jE i (.fr (.lst xs)) ρ S=.ok .nx (ρ.set i (.val (.ob S.length))) (S++[.lst xs]) false:=by
 unfold jE;simp only;rw[if_pos ⟨h,rfl⟩]
end
section
theorem dG{n:Nat}(h:n≤1000):n≤sizeLine:=bh h (by decide)
end
local macro_rules
  | `(tactic| simp_arith [$ts,*]) => `(tactic| simp only [Az, env0, List.map_cons, List.map_nil, List.length_cons, List.length_nil, List.replicate, Nat.reduceAdd, Nat.reduceSub, List.cons_append, List.nil_append,
  zH, z9, ap_D, ym, xP, List.getElem?_cons_zero, List.getElem?_cons_succ, xQ, xR, Res.bind_ok, yo, ap_C, yq, xZ, xT, xU, qp, xV, xW, qu, qC, xX, xY, yc, yd, ye, yf,
  yr, ue, uf, jk, Int.reduceLE, Int.reduceToNat, Am, yt, xM, Bool.or_false, Bool.or_self, Ae, Af, yg, yh, yj, Aa, Ab, Ac, Ad, Av, Int.reduceLT, List.set_cons_succ, List.set_cons_zero,
  zJ, zN, zB, zF, zu, zA, zf, tZ, t8, zg, zE, zG, decide_false, decide_true, Bool.not_true, Bool.not_false, xO, xN, zr, zP, zM, Aj, Ak, Ah, Ai,
  zX, zY, z8, yP, yK, yJ, yG, yE, yH, yI, yQ, yN, yL, yO, yR, Aq, Ar, Ao, tX, tY, zQ, zR, zV, zW, zU, zK, Ax, Ay, Nat.reduceLT,
  yW, yX, yZ, yS, yU, zj, zm, zp, zq, yu, yw, yz, Ph, Pj, Pq, Pr, Pu, Px, Py, PN, PP, P0, Qa, Qc, Qe, Qg, Qh, oN (qC _ _ _), oN (qp _ _ _), oN (qu _ _ _), Qi, Ql, Qp, Qq, Qs, Qt, Qn, Qo, Qm, Qu, Qv, Qw, Qx, Qy, Pn, O6, O5, dG, Nat.reduceLeDiff, $ts,*])
section
theorem zqz(ns:List Int)(lo hi:Option Int):∃xs:List Int,cutD (ns.map .int) lo hi=xs.map .int:=by
 unfold cutD;rw[<-List.map_drop,<-List.map_take];exact⟨_,rfl⟩
theorem zil(xs:List D):fK [.lst xs]=some (.fr (.lst xs)):=rfl
theorem zuy(ns:List Int)(S:List Sl):∃b,Bag (.lst b)∧ug [.kl (ns.map .int)] S=.ok (.fr (.lst b)) [] S false:=by iterate
  obtain⟨xs,hx⟩:=zqz ns none (some 63);have e:∀a k:Int,k.natAbs<2 ^ 64->oMul (.int a) (.int k)=some (.d (.int (a*k))):=λa k h=>qD h;have loop:∃ρ' S',forM (.nm 2) (cSet false 1 (cBin oMod (cBlt gInt (cV (cBin oAdd (cBin oAdd (cBin oMul (bY 1) (cC (.int 52361))) (cBin oMul (cBin oMod (cBlt gInt (cV (bY 2) cU)) (cC (.int 1000303))) (cC (.int 877)))) (cC (.int 37))) cU)) (cC (.int 2147483587)))) (xs.map .int) [.val (.kl (ns.map .int)),.val (.int 12025),.emp] S=.ok .nx ρ' S' false ∧
      ∃m s,ρ'=[.val (.kl (ns.map .int)),.val (.int m),s]∧S'=S∧0≤m∧m<2147483648:=by
    refine Pk (λρ S'=>∃m s,ρ=[.val (.kl (ns.map .int)),.val (.int m),s]∧S'=S∧0≤m∧m<2147483648) _ _ _ ?_ ⟨12025,.emp,rfl,rfl,by decide,by decide⟩;rintro d hd ρ S1 ⟨m,s,rfl,rfl,h1,h2⟩;obtain⟨x,hx,rfl⟩:=ao.mp hd;refine⟨_,_,_,_,zr7 (by simp),by(simp_arith [e _ 52361 (by decide),e _ 877 (by decide)];rfl),_,_,rfl,rfl,?_,?_⟩
    · exact Int.emod_nonneg _ (by decide)
    · exact Int.lt_trans (Int.emod_lt_of_pos _ (by decide)) (by decide)
  obtain⟨ρ',S',e1,m,s,rfl,rfl,h1,h2⟩:=loop;refine⟨[.lst (xs.map .int),.int 0,.int 0,.int m,.int 0],⟨xs,0,0,m,0,rfl,by decide,by decide,h1,h2⟩,?_⟩;simp_arith [ug,Pb,hx,e1,zil]
def Qz{α:Type}:Option α->List α->List α
 |some x,l=>x::l
 |none,l=>l
theorem QC{α:Type}(xs:List α):pick [] xs=[]:=rfl
theorem Ba{α:Type}(i:Nat)(is:List Nat)(xs:List α):pick (i::is) xs=Qz xs[i]? (pick is xs):=by
 unfold pick;rw[List.filterMap_cons];cases xs[i]?<;>rfl
theorem Bb{α:Type}(x:α)(l:List α):Qz (some x) l=x::l:=rfl
abbrev cb2:List D->List D->List D:=λds es=>pick [0,1] (ds++es)
def ofC:M Fl:=(cRet (cBin oGet (bY 1) (cY fO 2 0 cb2 (bZ (bY 0) (bZ (cBlt gLen (cV (bY 1) cU)) cG)) cG)))
def ofM:=defM 2 ofC
theorem zm6{z:Str}(h:z.length≤sizeLine):gLen [.str z]=some (.d (.int z.length)):=by
 show(ql [.str z]).or _=_;unfold ql;simp only;rw[if_pos h];rfl
theorem zmL{z:Str}(h:z.length≤sizeLine)(i:Int):oGet (.str z) (.int i)=(atI z.cps.toList i).map λc=>.d (.str ⟨#[c]⟩):=by
 show((if z.length≤sizeLine then(atI z.cps.toList i).map λc=>Rv.d (.str ⟨#[c]⟩) else none):Option Rv).or (oIxD (.str z) (.int i))=_
 rw[if_pos h];show(_:Option Rv).or none=_;cases(atI z.cps.toList i)<;>rfl
theorem Bag.of_lst{b:Sl}(h:Bag b){ds:List D}(h0:0<ds.length)(h1:ds.length<1000):∃d b',d∈ds∧Bag b'∧∀rest,ofM [.ob 0,.lst ds] (b::rest)=.ok (.d d) [] (b'::rest) false:=by
 obtain⟨v,b',v0,v1,hb,e⟩:=h.draw (n:=(ds.length:Int)) (by omega) (by omega);have hv:v.toNat<ds.length:=by omega
 refine⟨ds[v.toNat],b',List.getElem_mem hv,hb,λrest=>?_⟩;simp_arith [ofM,ofC,O8,Ba,QC,Bb,e rest,v0,List.getElem?_eq_getElem hv,List.append_nil]
def mt3(g:D->List D->Option Rv)(a:Option D)(b:Option (List D))(ρ S:List Sl):Res Rv:=match a,b with
 |some d,some ds=>lift (g d ds) ρ S
 |_,_=>.bad
def mt2(g:D->List D->Option Rv)(ro:Rv)(rs:List Rv):M Rv:=λρ S=>mt3 g (cont ρ S ro) (fB ρ S rs) ρ S
def mt1(T:String)(g:D->List D->Option Rv)(cs:M (List Rv))(ro:Rv):M Rv:=λρ S=>match cont ρ S ro with
 |some d0=>if tyD T d0=true then(cs ρ S).bind (mt2 g ro) else .bad
 |none=>.bad
theorem zzw(T:String)(g:D->List D->Option Rv)(co:M Rv)(cs:M (List Rv))(ρ S:List Sl):cMt T g co cs ρ S=(co ρ S).bind (mt1 T g cs):=rfl
theorem ztC{g:D->List D->Option Rv}{cs:M (List Rv)}{z:Str}{ρ S:List Sl}:mt1 "str" g cs (.d (.str z)) ρ S=(cs ρ S).bind (mt2 g (.d (.str z))):=rfl
theorem zxF(g:D->List D->Option Rv)(ro:Rv)(rs:List Rv)(ρ S:List Sl):mt2 g ro rs ρ S=mt3 g (cont ρ S ro) (fB ρ S rs) ρ S:=rfl
theorem zwU(g:D->List D->Option Rv)(d:D)(ds:List D)(ρ S:List Sl):mt3 g (some d) (some ds) ρ S=lift (g d ds) ρ S:=rfl
def catS:List Nat->Str:=λcs=>⟨cs.toArray⟩
theorem join_one:∀cs:List Nat,(Str.join "" (cs.map λc=>⟨#[c]⟩)).cps.toList=cs
 |[]=>rfl
 |[c]=>rfl
 |c::d::r=>by
  have ih:=join_one (d::r);show((⟨#[c]⟩++""++Str.join "" ((d::r).map λc=>⟨#[c]⟩):Str)).cps.toList=_;have e:∀x y:Str,(x++y).cps.toList=x.cps.toList++y.cps.toList:=λx y=>by
   show(x.cps++y.cps).toList=_;simp
  rw[e,e,ih];rfl
theorem zqr(cs:List Nat):Str.join "" (cs.map λc=>⟨#[c]⟩)=catS cs:=by
 have h:=join_one cs;unfold catS;generalize Str.join "" (cs.map λc=>(⟨#[c]⟩:Str))=x at h;obtain⟨a⟩:=x;have h:a.toList=cs:=h;subst h;simp
theorem QG:∀cs:List Nat,lC (cs.map λc=>.str ⟨#[c]⟩)=some (cs.map λc=>⟨#[c]⟩)
 |[]=>rfl
 |c::cs=>by
  rw[ak,ak,lC,QG cs];rfl
theorem zt1{cs:List Nat}(h:cs.length≤1000):oM (.str "") [.lst (cs.map λc=>.str ⟨#[c]⟩)]=some (.d (.str (catS cs))):=by iterate
 unfold oM;show((some (cs.map λc=>D.str ⟨#[c]⟩)).bind lC).bind _=_;rw[Option.bind_some,QG,Option.bind_some];have e1:((cs.map λc=>(⟨#[c]⟩:Str)).map (·.length)).sum=cs.length:=by
  rw[aH]
  induction cs with
  |nil=>rfl
  |cons c r ih=>
   have:=ih (by simp at h;omega);rw[ak,List.sum_cons,this,aG];show 1+_=_;omega
 have e2:(("" : Str).length)=0:=rfl;rw[if_pos (by rw[e1,e2];omega)];rw[TL.join_eq,zqr]
end
section
theorem zjv(ow):gIsi ow [.non,.ty "int"]=some (.d (.bl false)):=rfl
theorem zj2(ow):gIsi ow [.non,.ty "bool"]=some (.d (.bl false)):=rfl
theorem zkE(ow):gIsi ow [.non,.ty "str"]=some (.d (.bl false)):=rfl
theorem ziH(ow):gIsi ow [.non,.ty "list"]=some (.d (.bl false)):=rfl
theorem zgP(ow):gIsi ow [.non,.ty "tuple"]=some (.d (.bl false)):=rfl
theorem zjL(ow):gIsi ow [.non,.tup [.ty "list",.ty "tuple"]]=some (.d (.bl false)):=rfl
theorem zmk(ow)(a:Bool):gIsi ow [(.bl a),.ty "int"]=some (.d (.bl true)):=rfl
theorem zk0(ow)(a:Bool):gIsi ow [(.bl a),.ty "bool"]=some (.d (.bl true)):=rfl
theorem zmw(ow)(a:Bool):gIsi ow [(.bl a),.ty "str"]=some (.d (.bl false)):=rfl
theorem zk9(ow)(a:Bool):gIsi ow [(.bl a),.ty "list"]=some (.d (.bl false)):=rfl
theorem zi4(ow)(a:Bool):gIsi ow [(.bl a),.ty "tuple"]=some (.d (.bl false)):=rfl
theorem zmQ(ow)(a:Bool):gIsi ow [(.bl a),.tup [.ty "list",.ty "tuple"]]=some (.d (.bl false)):=rfl
theorem zkh(ow)(a:Int):gIsi ow [(.int a),.ty "int"]=some (.d (.bl true)):=rfl
theorem zhQ(ow)(a:Int):gIsi ow [(.int a),.ty "bool"]=some (.d (.bl false)):=rfl
theorem zki(ow)(a:Int):gIsi ow [(.int a),.ty "str"]=some (.d (.bl false)):=rfl
theorem zhS(ow)(a:Int):gIsi ow [(.int a),.ty "list"]=some (.d (.bl false)):=rfl
theorem zh6(ow)(a:Int):gIsi ow [(.int a),.ty "tuple"]=some (.d (.bl false)):=rfl
theorem zkH(ow)(a:Int):gIsi ow [(.int a),.tup [.ty "list",.ty "tuple"]]=some (.d (.bl false)):=rfl
theorem zkg(ow)(a:Str):gIsi ow [(.str a),.ty "int"]=some (.d (.bl false)):=rfl
theorem zhv(ow)(a:Str):gIsi ow [(.str a),.ty "bool"]=some (.d (.bl false)):=rfl
theorem zjz(ow)(a:Str):gIsi ow [(.str a),.ty "str"]=some (.d (.bl true)):=rfl
theorem zhr(ow)(a:Str):gIsi ow [(.str a),.ty "list"]=some (.d (.bl false)):=rfl
theorem zhb(ow)(a:Str):gIsi ow [(.str a),.ty "tuple"]=some (.d (.bl false)):=rfl
theorem zjR(ow)(a:Str):gIsi ow [(.str a),.tup [.ty "list",.ty "tuple"]]=some (.d (.bl false)):=rfl
theorem zkp(ow)(a:List D):gIsi ow [(.lst a),.ty "int"]=some (.d (.bl false)):=rfl
theorem zjn(ow)(a:List D):gIsi ow [(.lst a),.ty "bool"]=some (.d (.bl false)):=rfl
theorem zjr(ow)(a:List D):gIsi ow [(.lst a),.ty "str"]=some (.d (.bl false)):=rfl
theorem zjd(ow)(a:List D):gIsi ow [(.lst a),.ty "list"]=some (.d (.bl true)):=rfl
theorem zha(ow)(a:List D):gIsi ow [(.lst a),.ty "tuple"]=some (.d (.bl false)):=rfl
theorem zjO(ow)(a:List D):gIsi ow [(.lst a),.tup [.ty "list",.ty "tuple"]]=some (.d (.bl true)):=rfl
theorem zmi(ow)(a:List D):gIsi ow [(.kl a),.ty "int"]=some (.d (.bl false)):=rfl
theorem zjJ(ow)(a:List D):gIsi ow [(.kl a),.ty "bool"]=some (.d (.bl false)):=rfl
theorem zmI(ow)(a:List D):gIsi ow [(.kl a),.ty "str"]=some (.d (.bl false)):=rfl
theorem zjV(ow)(a:List D):gIsi ow [(.kl a),.ty "list"]=some (.d (.bl true)):=rfl
theorem ziD(ow)(a:List D):gIsi ow [(.kl a),.ty "tuple"]=some (.d (.bl false)):=rfl
theorem zm2(ow)(a:List D):gIsi ow [(.kl a),.tup [.ty "list",.ty "tuple"]]=some (.d (.bl true)):=rfl
theorem zk3(ow)(a:List D):gIsi ow [(.tup a),.ty "int"]=some (.d (.bl false)):=rfl
theorem zjf(ow)(a:List D):gIsi ow [(.tup a),.ty "bool"]=some (.d (.bl false)):=rfl
theorem zka(ow)(a:List D):gIsi ow [(.tup a),.ty "str"]=some (.d (.bl false)):=rfl
theorem zif(ow)(a:List D):gIsi ow [(.tup a),.ty "list"]=some (.d (.bl false)):=rfl
theorem zh9(ow)(a:List D):gIsi ow [(.tup a),.ty "tuple"]=some (.d (.bl true)):=rfl
theorem zku(ow)(a:List D):gIsi ow [(.tup a),.tup [.ty "list",.ty "tuple"]]=some (.d (.bl true)):=rfl
theorem zmc(ow)(a:List D):gIsi ow [(.kt a),.ty "int"]=some (.d (.bl false)):=rfl
theorem zkr(ow)(a:List D):gIsi ow [(.kt a),.ty "bool"]=some (.d (.bl false)):=rfl
theorem zmS(ow)(a:List D):gIsi ow [(.kt a),.ty "str"]=some (.d (.bl false)):=rfl
theorem zjx(ow)(a:List D):gIsi ow [(.kt a),.ty "list"]=some (.d (.bl false)):=rfl
theorem zhC(ow)(a:List D):gIsi ow [(.kt a),.ty "tuple"]=some (.d (.bl true)):=rfl
theorem zme(ow)(a:List D):gIsi ow [(.kt a),.tup [.ty "list",.ty "tuple"]]=some (.d (.bl true)):=rfl
theorem zt2:oIs false .non .non=some (.d (.bl true)):=rfl
theorem ztq:oIs true .non .non=some (.d (.bl false)):=rfl
theorem zvD(a:Bool):oIs false (.bl a) .non=some (.d (.bl false)):=rfl
theorem zxr(a:Bool):oIs true (.bl a) .non=some (.d (.bl true)):=rfl
theorem zts(a:Int):oIs false (.int a) .non=some (.d (.bl false)):=rfl
theorem zua(a:Int):oIs true (.int a) .non=some (.d (.bl true)):=rfl
theorem ztA(a:Str):oIs false (.str a) .non=some (.d (.bl false)):=rfl
theorem ztQ(a:Str):oIs true (.str a) .non=some (.d (.bl true)):=rfl
theorem zui(a:List D):oIs false (.lst a) .non=some (.d (.bl false)):=rfl
theorem ztE(a:List D):oIs true (.lst a) .non=some (.d (.bl true)):=rfl
theorem ztw(a:List D):oIs false (.tup a) .non=some (.d (.bl false)):=rfl
theorem ztL(a:List D):oIs true (.tup a) .non=some (.d (.bl true)):=rfl
theorem zvv(a:List D):oIs false (.kt a) .non=some (.d (.bl false)):=rfl
theorem zxu(a:List D):oIs true (.kt a) .non=some (.d (.bl true)):=rfl
theorem zvW(a:List D):oIs false (.kl a) .non=some (.d (.bl false)):=rfl
theorem zwo(a:List D):oIs true (.kl a) .non=some (.d (.bl true)):=rfl
theorem QH(a b:Bool):decide (V.bl a=V.bl b)=(a == b):=by cases a<;>cases b<;>simp
theorem QJ(a b:Str):decide (V.str a=V.str b)=decide (a=b):=by
 by_cases h:a=b
 ·subst h;simp
 ·have h2:¬V.str a=V.str b:=λz=>h (by cases z;rfl);simp[h,h2]
theorem QM(a b:Bool):oEq false (.bl a) (.bl b)=some (.d (.bl (a == b))):=by
 show some (Rv.d (.bl (false != decide (V.bl a=V.bl b))))=_;rw[QH];simp
theorem QQ(a b:Bool):oEq true (.bl a) (.bl b)=some (.d (.bl (!(a == b)))):=by
 show some (Rv.d (.bl (true != decide (V.bl a=V.bl b))))=_;rw[QH];simp
theorem QT(a b:Str):oEq false (.str a) (.str b)=some (.d (.bl (decide (a=b)))):=by
 show some (Rv.d (.bl (false != decide (V.str a=V.str b))))=_;rw[QJ];simp
theorem zmp(xs:List D):gLen [.tup xs]=some (.d (.int xs.length)):=rfl
theorem zpp(xs:List D):gLen [.kt xs]=some (.d (.int xs.length)):=rfl
end
local macro_rules
  | `(tactic| simp_arith [$ts,*]) => `(tactic| simp only [Az, env0, List.map_cons, List.map_nil, List.length_cons, List.length_nil, List.replicate, Nat.reduceAdd, Nat.reduceSub, List.cons_append, List.nil_append,
  zH, z9, ap_D, ym, xP, List.getElem?_cons_zero, List.getElem?_cons_succ, xQ, xR, Res.bind_ok, yo, ap_C, yq, xZ, xT, xU, qp, xV, xW, qu, qC, xX, xY, yc, yd, ye, yf,
  yr, ue, uf, jk, Int.reduceLE, Int.reduceToNat, Am, yt, xM, Bool.or_false, Bool.or_self, Ae, Af, yg, yh, yj, Aa, Ab, Ac, Ad, Av, Int.reduceLT, List.set_cons_succ, List.set_cons_zero,
  zJ, zN, zB, zF, zu, zA, zf, tZ, t8, zg, zE, zG, decide_false, decide_true, Bool.not_true, Bool.not_false, xO, xN, zr, zP, zM, Aj, Ak, Ah, Ai,
  zX, zY, z8, yP, yK, yJ, yG, yE, yH, yI, yQ, yN, yL, yO, yR, Aq, Ar, Ao, tX, tY, zQ, zR, zV, zW, zU, zK, Ax, Ay, Nat.reduceLT,
  yW, yX, yZ, yS, yU, zj, zm, zp, zq, yu, yw, yz, Ph, Pj, Pq, Pr, Pu, Px, Py, PN, PP, P0, Qa, Qc, Qe, Qg, Qh, oN (qC _ _ _), oN (qp _ _ _), oN (qu _ _ _), Qi, Ql, Qp, Qq, Qs, Qt, Qn, Qo, Qm, Qu, Qv, Qw, Qx, Qy, Pn, O6, O5, zjv, zj2, zkE, ziH, zgP, zjL, zmk, zk0, zmw, zk9, zi4, zmQ, zkh, zhQ, zki, zhS, zh6, zkH, zkg, zhv, zjz, zhr, zhb, zjR, zkp, zjn, zjr, zjd, zha, zjO, zmi, zjJ, zmI, zjV, ziD, zm2, zk3, zjf, zka, zif, zh9, zku, zmc, zkr, zmS, zjx, zhC, zme, O8, Ba, QC, Bb, List.append_nil, zzw, ztC, zxF, zwU, Bool.or_true, Bool.true_or, zt2, ztq, zvD, zxr, zts, zua, ztA, ztQ, zui, ztE, ztw, ztL, zvv, zxu, zvW, zwo, QQ, QM, QT, beq_self_eq_true, bne_self_eq_false, zmp, zpp, dG, Nat.reduceLeDiff, $ts,*])
section
theorem QV{P:D->D->Prop}:∀{xs ys:List D},Paired P xs ys->∀d∈zipD xs ys,∃x y,d=.tup [x,y]∧P x y
 |_,_,.nil,d,h=>by cases h
 |_,_,.cons p t,d,h=>by
  rcases au.mp h with e|e
  ·exact⟨_,_,e,p⟩
  ·exact QV t d e
theorem Bc{P:D->D->Prop}:∀{xs ys:List D},Paired P xs ys->xs.length=ys.length
 |_,_,.nil=>rfl
 |_,_,.cons _ t=>congrArg Nat.succ (Bc t)
end
section
def objF(fs:List (Str×D)):List (Str×Sl):=fs.map λp=>(p.1,.val p.2)
def jK:List (Str×Sl)->Option (List (Str×D))
 |[]=>some []
 |(k,.val d)::r=>(jK r).map λl=>(k,d)::l
 |_=>none
def Sl.obj?:Sl->Option (Nat×List (Str×D))
 |.ins c fs=>(jK fs).map λgs=>(c,gs)
 |_=>none
theorem QW:∀{fs:List (Str×Sl)} {gs:List (Str×D)},jK fs=some gs->fs=objF gs
 |[],gs,e=>by cases e;rfl
 |(k,s)::r,gs,e=>by
  cases s with
  |val d=>
   have e:(jK r).map (λl=>(k,d)::l)=some gs:=e;cases q:jK r with
   |none=>rw[q] at e;cases e
   |some l=>
    rw[q] at e;cases e;rw[QW q];rfl
  |_=>cases e
theorem Be{s:Sl}{c:Nat}{fs:List (Str×D)}(e:s.obj? = some (c,fs)):s=.ins c (objF fs):=by
 cases s with
 |ins c' gs=>
  have e:(jK gs).map (λl=>(c',l))=some (c,fs):=e;cases q:jK gs with
  |none=>rw[q] at e;cases e
  |some l=>rw[q] at e;cases e;rw[QW q]
 |_=>cases e
theorem QX:∀fs:List (Str×D),frzF (objF fs)=fs
 |[]=>rfl
 |(k,d)::r=>by
  show(k,d)::frzF (objF r)=_;rw[QX r]
/-- the object that a result is -/
def getO(r:Rv)(ρ S:List Sl):Option (Nat×List (Str×D)):=match r with
 |.d (.ins c fs)=>some (c,fs)
 |.d (.ob j)=>(S[j]?).bind Sl.obj?
 |.env i=>(ρ[i]?).bind Sl.obj?
 |.fr s=>s.obj?
 |_=>none
section
variable{Γ:Gm}{W:WX}{P:List Nat}{w w0 w1:Wd}{σ:L2.St}{ρ S:List Sl}{R:List Addr}{F:Hp}
theorem OwnF.objF:∀{fs:List (Str×D)} {gs:List (Str×V)} {c:Cells},OwnF Γ R F (DV.objF fs) gs c->c=[]∧RepF Γ R F fs gs
 |[],gs,c,h=>by
  have h:OwnF Γ R F [] gs c:=h;rw[OwnF] at h;exact⟨h.2,by rw[RepF];exact h.1⟩
 |(k,d)::r,gs,c,h=>by
  have h:OwnF Γ R F ((k,.val d)::DV.objF r) gs c:=h;rw[OwnF] at h;obtain⟨v,gs',c1,c2,e1,o1,o2,e2⟩:=h;rw[Own] at o1;obtain⟨z1,z2⟩:=OwnF.objF o2;refine⟨by rw[e2,o1.1,z1];rfl,?_⟩;rw[RepF];exact⟨v,gs',e1,o1.2,z2⟩
theorem RepF.own:∀{fs:List (Str×D)} {gs:List (Str×V)},RepF Γ R F fs gs->OwnF Γ R F (DV.objF fs) gs []
 |[],gs,h=>by
  rw[RepF] at h;show OwnF Γ R F [] gs [];rw[OwnF];exact⟨h,rfl⟩
 |(k,d)::r,gs,h=>by
  rw[RepF] at h;obtain⟨v,gs',e1,r1,r2⟩:=h;show OwnF Γ R F ((k,.val d)::DV.objF r) gs [];rw[OwnF];exact⟨v,gs',[],[],e1,by rw[Own];exact⟨rfl,r1⟩,r2.own,rfl⟩
theorem RepF.look(f:Str):∀{fs:List (Str×D)} {gs:List (Str×V)},RepF Γ R F fs gs->(∀d,fs.lookup f=some d->∃v,gs.lookup f=some v∧Rep Γ R F d v)∧(fs.lookup f=none->gs.lookup f=none)
 |[],gs,h=>by
  rw[RepF] at h;subst h;exact⟨λd e=>(by cases e),λ_=>rfl⟩
 |(k,x)::r,gs,h=>by iterate
  rw[RepF] at h;obtain⟨v,gs',e1,r1,r2⟩:=h;subst e1;obtain⟨a,b⟩:=RepF.look f r2;cases q:(f == k) with
  |true=>
   refine⟨λd e=>⟨v,?_,?_⟩,λe=>?_⟩
   ·rw[List.lookup_cons,q]
   ·rw[List.lookup_cons,q] at e;cases e;exact r1
   ·rw[List.lookup_cons,q] at e;cases e
  |false=>
   refine⟨λd e=>?_,λe=>?_⟩
   ·rw[List.lookup_cons,q] at e ⊢;exact a d e
   ·rw[List.lookup_cons,q] at e ⊢;exact b e
theorem RepF.length:∀{fs:List (Str×D)} {gs:List (Str×V)},RepF Γ R F fs gs->fs.length=gs.length
 |[],gs,h=>by rw[RepF] at h;subst h;rfl
 |(k,x)::r,gs,h=>by
  rw[RepF] at h;obtain⟨v,gs',e1,r1,r2⟩:=h;subst e1;rw[aG,aG,RepF.length r2]
def puF(f:Str)(d:D):List (Str×D)->List (Str×D)
 |[]=>[(f,d)]
 |(g,x)::r=>if g=f then(g,d)::r else(g,x)::puF f d r
theorem RepF.put{f:Str}{d:D}{v:V}(rd:Rep Γ R F d v):∀{fs:List (Str×D)} {gs:List (Str×V)},RepF Γ R F fs gs->RepF Γ R F (puF f d fs) (putF f v gs)
 |[],gs,h=>by
  rw[RepF] at h;subst h;show RepF Γ R F [(f,d)] [(f,v)];rw[RepF];exact⟨v,[],rfl,rd,by rw[RepF]⟩
 |(k,x)::r,gs,h=>by
  rw[RepF] at h;obtain⟨u,gs',e1,r1,r2⟩:=h;subst e1;show RepF Γ R F (if k=f then(k,d)::r else(k,x)::puF f d r) (if k=f then(k,v)::gs' else(k,u)::putF f v gs')
  by_cases q:k=f
  ·rw[if_pos q,if_pos q,RepF];exact⟨v,gs',rfl,rd,r2⟩
  ·rw[if_neg q,if_neg q,RepF];exact⟨u,_,rfl,r1,RepF.put rd r2⟩
theorem Own.obj{c:Nat}{fs:List (Str×D)}{v:V}{cs:Cells}(h:Own Γ R F (.ins c (DV.objF fs)) v cs):∃a dx gs,v=.ref a∧RepF Γ R F fs gs∧cs=[(a,.ins (Γ.cA c) dx gs),(dx,.own a)]:=by
 rw[Own] at h;obtain⟨a,dx,gs,c',e1,o,e2⟩:=h;obtain⟨z1,z2⟩:=o.objF;subst z1;exact⟨a,dx,gs,e1,z2,e2⟩
theorem Own.mkObj{c:Nat}{fs:List (Str×D)}{a dx:Addr}{gs:List (Str×V)}(h:RepF Γ R F fs gs):Own Γ R F (.ins c (DV.objF fs)) (.ref a) [(a,.ins (Γ.cA c) dx gs),(dx,.own a)]:=by
 rw[Own];exact⟨a,dx,gs,[],rfl,h.own,rfl⟩
/-- an object as it stands in the heap -/
theorem Rel.obj{r:Rv}{v:V}{c:Nat}{fs:List (Str×D)}(h:Rel Γ w ρ S σ)(o:RvOk Γ w0 w σ r v)(e:getO r ρ S=some (c,fs)):∃a dx gs,v=.ref a∧w.H a=some (.ins (Γ.cA c) dx gs)∧w.H dx=some (.own a)∧RepF Γ w.R w.F fs gs:=by iterate
 have owned:∀{s:Sl} {cs:Cells},s.obj? = some (c,fs)->Own Γ w.R w.F s v cs->(∀p∈cs,w.H p.1=some p.2)->∃a dx gs,v=.ref a∧w.H a=some (.ins (Γ.cA c) dx gs)∧w.H dx=some (.own a)∧RepF Γ w.R w.F fs gs:=λe ow hc=>by
  rw[Be e] at ow;obtain⟨a,dx,gs,e1,e2,e3⟩:=ow.obj;subst e3;exact⟨a,dx,gs,e1,hc (a,_) (by simp),hc (dx,_) (by simp),e2⟩
 cases r with
 |d x=>
  cases x with
  |ins c' fs'=>
   cases e;have o:Rep Γ w.R w.F (.ins c fs) v:=o;rw[Rep] at o;obtain⟨a,dx,gs,e1,e2,e3,e4⟩:=o;exact⟨a,dx,gs,e1,h.good.sub _ _ e2,h.good.sub _ _ e3,e4⟩
  |ob j=>
   have e:(S[j]?).bind Sl.obj? = some (c,fs):=e;cases q:S[j]? with
   |none=>rw[q] at e;cases e
   |some s=>
    rw[q] at e;obtain⟨a,A,B,b,h1,h2,h3,_⟩:=h.own.sto_at q;have o':Rep Γ w.R w.F (.ob j) v:=o;rw[Rep] at o';obtain⟨a',e1,e2⟩:=o';rw[h1] at e1;cases e1;subst e2;obtain⟨v',ev,ow⟩:=OwnO.of_ne h3 (λz=>by subst z;cases e);cases ev;exact owned e ow (h.cellsH h2)
  |_=>cases e
 |env i=>
  have o':σ[i]? = some (some v):=o;have e:(ρ[i]?).bind Sl.obj? = some (c,fs):=e;cases q:ρ[i]? with
  |none=>rw[q] at e;cases e
  |some s=>
   rw[q] at e;obtain⟨o1,A,B,b,h1,h2,h3,_⟩:=h.own.env_at q;rw[o'] at h1;cases h1;obtain⟨v',ev,ow⟩:=OwnO.of_ne h3 (λz=>by subst z;cases e);cases ev;exact owned e ow (h.cellsE h2)
 |fr s=>
  obtain⟨cs,ow,f,_⟩:=o;exact owned e ow λp hp=>(f.at_ p hp).1
end
structure FT(Γ:Gm)(T:Nat->Str->Bool):Prop where
  ok:∀c f,T c f=true->Cls Γ.K (Γ.cA c)∧NoAttr Γ.K (Γ.cA c) f
def fldR(T:Nat->Str->Bool)(f:Str)(o:Option (Nat×List (Str×D))):Option D:=match o with
 |some (c,fs)=>if T c f=true then fs.lookup f else none
 |none=>none
def cFld(T:Nat->Str->Bool)(f:Str)(co:M Rv):M Rv:=λρ S=>(co ρ S).bind λr ρ S=>match fldR T f (getO r ρ S) with
 |some d=>.ok (.d d) ρ S false
 |none=>.bad
section
variable{Γ:Gm}{W:WX}{P:List Nat}{w w0 w1:Wd}{σ:L2.St}{ρ S:List Sl}{X:Cx}{e o:Expr}{f:Str}{pos pos':Pos}{ce co cv:M Rv}{T:Nat->Str->Bool}
theorem Rel.fld{r:Rv}{v:V}{d:D}(ft:FT Γ T)(h:Rel Γ w ρ S σ)(o:RvOk Γ w0 w σ r v)(e:fldR T f (getO r ρ S)=some d):∃a C dx fs u,v=.ref a∧w.H a=some (.ins C dx fs)∧Cls Γ.K C∧NoAttr Γ.K C f∧fs.lookup f=some u∧Rep Γ w.R w.F d u:=by
 cases q:getO r ρ S with
 |none=>rw[q] at e;cases e
 |some p=>
  obtain⟨c,fs⟩:=p;rw[q] at e;simp only[fldR] at e;split at e
  ·rename_i ht;obtain⟨a,dx,gs,e1,e2,_,e4⟩:=h.obj o q;obtain⟨u,e5,e6⟩:=(e4.look f).1 d e;obtain⟨k1,k2⟩:=ft.ok c f ht;exact⟨a,_,dx,gs,u,e1,e2,k1,k2,e5,e6⟩
  ·cases e
theorem lD(hK:Γ.K=X.K)(ft:FT Γ T)(he:PE X e (tM Γ W ce))(hb:attributeBase e f X.env (eval e X.env)=eval e X.env):PE X (.Attribute e f pos) (tM Γ W (cFld T f ce)):=
 (pe_fld he hb).imp λσ H Q ⟨F,E,C,R,ρ,S,rel,h⟩=>⟨F,E,C,R,ρ,S,rel,CK.bind h λa ρ1 S1 w1 v x1 rel1 o1 ck=>by
  cases q:fldR T f (getO a ρ1 S1) with
  |none=>simp only[q] at ck;exact ck.elim
  |some d=>
   simp only[q] at ck;obtain⟨a,C,dx,fs,u,e1,e2,e3,e4,e5,e6⟩:=rel1.fld ft o1 q;exact⟨a,C,dx,fs,u,e1,e2,hK ▸ e3,hK ▸ e4,e5,ck w1 u (.refl _) (λ_=>rfl) rel1 e6⟩⟩
def getW(r:Rv)(ρ S:List Sl):Option (Nat×List (Str×D)):=match r with
 |.d (.ob j)=>(S[j]?).bind Sl.obj?
 |.env i=>(ρ[i]?).bind Sl.obj?
 |_=>none
theorem zpH{r:Rv}{ρ S:List Sl}{p:Nat×List (Str×D)}(e:getW r ρ S=some p):getO r ρ S=some p:=by
 cases r with
 |d x=>cases x<;>first|exact e|cases e
 |env i=>exact e
 |fr s=>cases e
/-- an object's fields are written -/
theorem Rel.putObj{r:Rv}{v:V}{c:Nat}{fs:List (Str×D)}(h:Rel Γ w ρ S σ)(o:RvOk Γ w0 w σ r v)(e:getW r ρ S=some (c,fs)):∃a dx gs,v=.ref a∧w.H a=some (.ins (Γ.cA c) dx gs)∧w.H dx=some (.own a)∧RepF Γ w.R w.F fs gs ∧
  ∀fs' gs',RepF Γ w.R w.F fs' gs'->∃w',w'.H=upd w.H a (.ins (Γ.cA c) dx gs')∧Ext w w'∧(r.isEnv=false->w'.E=w.E)∧Rel Γ w' (putP r (.ins c (objF fs')) ρ S).1 (putP r (.ins c (objF fs')) ρ S).2 σ∧w'.R=w.R∧w'.F=w.F:=by iterate
 obtain⟨a,dx,gs,e1,e2,e3,e4⟩:=h.obj o (zpH e);refine⟨a,dx,gs,e1,e2,e3,e4,λfs' gs' r'=>?_⟩;cases r with
 |d x=>
  cases x with
  |ob j=>
   have e:(S[j]?).bind Sl.obj? = some (c,fs):=e;cases q:S[j]? with
   |none=>rw[q] at e;cases e
   |some s=>
    rw[q] at e;obtain⟨a1,A,B,b,h1,h2,h3,h4⟩:=h.own.sto_at q;have o':Rep Γ w.R w.F (.ob j) v:=o;rw[Rep] at o';obtain⟨a',z1,z2⟩:=o';rw[h1] at z1;cases z1;subst e1;cases z2;obtain⟨v',ev,ow⟩:=OwnO.of_ne h3 (λz=>by subst z;cases e);cases ev;have e:s.obj? = some (c,fs):=e;rw[Be e] at ow;obtain⟨a2,dx2,gs2,y1,y2,y3⟩:=ow.obj;cases y1;subst y3;have z:=h.cellsH h2 (a,.ins (Γ.cA c) dx2 gs2) (by simp);rw[e2] at z;cases z;obtain⟨g',x'⟩:=h.good.put (E':=w.E) (C':=A++[(a,.ins (Γ.cA c) dx gs'),(dx,.own a)]++B) (A:=w.E++A) (B:=(dx,.own a)::B) (a:=a) (ob:=.ins (Γ.cA c) dx gs) (o':=.ins (Γ.cA c) dx gs')
     (by rw[h2];simp) (by simp)
    refine⟨_,rfl,x',λ_=>rfl,⟨g',?_⟩,rfl,rfl⟩;exact h4 w.F (λ_ _ h=>h) (.ins c (objF fs')) _ (OwnO.mk (Own.mkObj r'))
  |_=>cases e
 |env i=>
  have o':σ[i]? = some (some v):=o;have e:(ρ[i]?).bind Sl.obj? = some (c,fs):=e;cases q:ρ[i]? with
  |none=>rw[q] at e;cases e
  |some s=>
   rw[q] at e;obtain⟨o1,A,B,b,h1,h2,h3,h4⟩:=h.own.env_at q;rw[o'] at h1;cases h1;obtain⟨v',ev,ow⟩:=OwnO.of_ne h3 (λz=>by subst z;cases e);cases ev;have e:s.obj? = some (c,fs):=e;rw[Be e] at ow;obtain⟨a2,dx2,gs2,y1,y2,y3⟩:=ow.obj;subst e1;cases y1;subst y3;have z:=h.cellsE h2 (a,.ins (Γ.cA c) dx2 gs2) (by simp);rw[e2] at z;cases z;obtain⟨g',x'⟩:=h.good.put (E':=A++[(a,.ins (Γ.cA c) dx gs'),(dx,.own a)]++B) (C':=w.C) (A:=A) (B:=(dx,.own a)::(B++w.C)) (a:=a) (ob:=.ins (Γ.cA c) dx gs) (o':=.ins (Γ.cA c) dx gs')
    (by rw[h2];simp) (by simp)
   refine⟨_,rfl,x',(λz=>by cases z),⟨g',?_⟩,rfl,rfl⟩;have z:=h4 w.F (λ_ _ h=>h) (.ins c (objF fs')) (some (.ref a)) [(a,.ins (Γ.cA c) dx gs'),(dx,.own a)] (OwnO.mk (Own.mkObj r'));rw[set_same o'] at z;exact z
 |fr s=>cases e
def fstR(T:Nat->Str->Bool)(f:Str)(d:D)(o:Option (Nat×List (Str×D))):Option Sl:=match o with
 |some (c,fs)=>if T c f=true∧fs.length<1000 then some (.ins c (objF (puF f d fs))) else none
 |none=>none
def cFst(T:Nat->Str->Bool)(f:Str)(cv co:M Rv):M Fl:=λρ S=>(cD cv ρ S).bind λd ρ S=>(co ρ S).bind λro ρ S=>match fstR T f d (getW ro ρ S) with
 |some s=>.ok .nx (putP ro s ρ S).1 (putP ro s ρ S).2 false
 |none=>.bad
theorem QZ(hK:Γ.K=X.K)(ft:FT Γ T)(ha:PE X o (tM Γ W co))(hv:PE X e (tM Γ W cv))(hs:swapsWith e (some (.Attribute o f pos')) pos.line X.env=pure false):PS X (.Assign [.Attribute o f pos'] e pos) (tS Γ W P (cFst T f cv co)):=
 (ps_fld ha hv hs).imp λD σ H ⟨F,E,C,R,ρ,S,rel,sk⟩=>⟨F,E,C,R,ρ,S,rel,CK.datumS sk λd ρ1 S1 w1 v1 x1 rel1 o1 sk1=>
  ⟨w1.F,w1.E,w1.C,w1.R,ρ1,S1,rel1,CK.bindS (SK.ext x1 .refl sk1) λro ρ2 S2 w2 v2 x2 rel2 o2 sk2=>by iterate
   cases q:getW ro ρ2 S2 with
   |none=>simp only[q,fstR] at sk2;exact sk2.elim
   |some p=>
    obtain⟨c,fs⟩:=p;simp only[q,fstR] at sk2
    by_cases ht:T c f=true∧fs.length<1000
    ·rw[if_pos ht] at sk2;obtain⟨a,dx,gs,e1,e2,e3,e4,fin⟩:=rel2.putObj o2 q;obtain⟨w',z1,z2,z3,z4,z5,z6⟩:=fin _ _ (RepF.put (f:=f) (o1.up x2.gr) e4);obtain⟨k1,k2⟩:=ft.ok c f ht.1;refine⟨a,_,dx,gs,e1,e2,hK ▸ k1,hK ▸ k2,by rw[<-e4.length];exact ht.2,?_⟩;have y:=sk2 w' σ (x2.trans z2) .refl z4;rw[z1] at y;exact y
    ·rw[if_neg ht] at sk2;exact sk2.elim⟩⟩
end
end
section
section
variable{X:Cx}{CX:CXT}{k n:Nat}{f C:Addr}{fd:FuncData}{ps ks:List Str}{sp:Sp}{E:L2.St->XK}{m:Str}{pos apos:Pos}{e o:Expr}{es:List Expr}{kws:List Keyword}{ta:TE}{t tk:TA}{g:List Value->List Value->List Value}{gV:List V->List V->List V}{pl:Sem Bool}
def Q3(C:Addr)(m:Str)(n j:Nat)(sp:Sp)(gV:List V->List V->List V)(E:L2.St->XK)(ta:TE)(t tk:TA):TE:=λσ H Q=>ta σ H λx H1=>∃a dx fs,x=.ref a∧H1 a=some (.ins C dx fs)∧fs.lookup m=none ∧
 t σ H1 λvs H2=>tk σ H2 λzs H3=>vs.length=n∧zs.length=j∧sp (gV (x::vs) zs) H3 Q (E σ)
theorem zm4(he:PE X o ta)(c:Cls X.K C)(hm:Meth X.K C m f)(F:FnOk X.prog X.w X.K X.mg X.base CX k f fd ps sp)(hr:Room k X.A)(hb:KBn X.K fd ps 1 ks g gV)(hx:∀σ,PassesAt CX X σ (E σ))(hkw:PK X kws tk)
  (hall:(backToKw pos (keywordEach kws X.env)).all (·.1.isSome)=true) (hks:(backToKw pos (keywordEach kws X.env)).filterMap (·.1)=ks)
  (hpl:((backTo pos (starEach [] X.env)).any (·.1) ||(backToKw pos (keywordEach kws X.env)).any (·.1.isNone))=false)
  (ht:eval (.Call (.Attribute o m apos) [] kws pos) X.env=(do
   let ov <-eval o X.env
   standAt apos.atName
   let (f,first) <-holding [ov] (getMethod ov m pl)
   callWith pos f first (backTo pos (starEach [] X.env)) (backToKw pos (keywordEach kws X.env)))) :
  PE X (.Call (.Attribute o m apos) [] kws pos) (Q3 C m 0 ks.length sp gV E ta tNil tk):=by iterate
 refine⟨λpins s σ H Q I h=>?_⟩;refine PySem.W.methodCall_KW (pl:=pl) (thn (he.run pins s σ H _ I h) λu s1 ⟨x,H1,I1,rx,a,dx,fs,ex,ea,l,q⟩=>?_) ht;subst ex;obtain rfl:u=Value.ref a:=rx;refine getmeth_ok I1 ea c hm l ?_;refine PySem.W.callWith_KW0 (first:=[.ref a]) (h₀:=X.base) I.ok.mod.kin hm.kp hall ?_ hpl
 refine thn (hkw.run pos pins s1 σ H1 _ I1 q) λws s3 ⟨zs,H3,I3,rz,l1,l2,q3⟩=>⟨I3.kIn,?_⟩;rw[hks];exact Ny (us:=[.ref a]) (vs:=[.ref a]) F hr hb (hx σ) I3 (.cons rfl .nil) rz rfl l2 q3
end
/-- the datum that is handed on as self,of the class c,without an attribute m -/
def lE(c:Nat)(m:Str)(d:D)(S:List Sl):Bool:=match getO (.d d) [] S with
 |some (c',fs)=>decide (c'=c) && (fs.lookup m).isNone
 |none=>false
def gY(c:Nat)(mn:Str)(m:List D->List Sl->Res Rv)(n j:Nat)(gD:List D->List D->List D)(co:M Rv)(cs ks:M (List D)):M Rv:=λρ S=>(cD co ρ S).bind λd ρ S=>
 if lE c mn d S=true then(cs ρ S).bind λds ρ S=>(ks ρ S).bind λes ρ S=>if ds.length=n∧es.length=j then(m (gD (d::ds) es) S).at ρ else .bad else .bad
section
variable{Γ:Gm}{W:WX}{w w0 w1:Wd}{σ:L2.St}{ρ S:List Sl}{X:Cx}{k n:Nat}{f:Addr}{fd:FuncData}{ps ks:List Str}{mn:Str}{pos apos:Pos}{e o:Expr}{es:List Expr}{kws:List Keyword}{co:M Rv}{cs ck:M (List D)}{m:List D->List Sl->Res Rv}{gD:List D->List D->List D}{pl:Sem Bool}{c:Nat}
theorem CK.datumV{cv:M Rv}{fn:D->List Sl->List Sl->Res Rv}{Q Q1:VK}(h:CK Γ W w σ Q ((cD cv ρ S).bind fn))(k:∀d ρ' S' w' v,Ext w w'->Rel Γ w' ρ' S' σ->Rep Γ w'.R w'.F d v->CK Γ W w' σ Q (fn d ρ' S')->Q1 v w'.H):CK Γ W w σ Q1 (cv ρ S):=CK.datum h k
theorem Rel.self{d:D}{v:V}(h:Rel Γ w ρ S σ)(r:Rep Γ w.R w.F d v)(e:lE c mn d S=true):∃a dx gs,v=.ref a∧w.H a=some (.ins (Γ.cA c) dx gs)∧gs.lookup mn=none:=by iterate
 unfold lE at e;cases q:getO (.d d) [] S with
 |none=>rw[q] at e;cases e
 |some p=>
  obtain⟨c',fs⟩:=p;rw[q] at e;obtain⟨e1,e2⟩:=Bool.and_eq_true_iff.mp e;have e1:=aR e1;subst e1;have q':getO (.d d) ρ S=some (c',fs):=by
   cases d<;>first|exact q|cases q
  obtain⟨a,dx,gs,h1,h2,_,h4⟩:=h.obj (w0:=w) (r:=.d d) r q';exact⟨a,dx,gs,h1,h2,(h4.look mn).2 (Option.isNone_iff_eq_none.mp e2)⟩
theorem zn6{gV:List V->List V->List V}(hD:∀R F ds vs es zs,RepL Γ R F ds vs->RepL Γ R F es zs->vs.length=n+1->zs.length=ks.length->RepL Γ R F (gD ds es) (gV vs zs)∧(gD ds es).length=ps.length){σ:L2.St}{H:Hp}{Q:VK}
  (h:tM Γ W (gY c mn m n ks.length gD co cs ck) σ H Q):Q3 (Γ.cA c) mn n ks.length (spM Γ ps.length m) gV (WE W) (tM Γ W co) (tMl Γ W cs) (tMl Γ W ck) σ H Q:=by iterate
 obtain⟨F,E,C,R,ρ,S,rel,h⟩:=h;refine⟨F,E,C,R,ρ,S,rel,CK.datumV h λd ρ1 S1 w1 v x1 rel1 r1 ck1=>?_⟩;split at ck1
 ·rename_i hs;obtain⟨a,dx,gs,e1,e2,e3⟩:=rel1.self r1 hs;refine⟨a,dx,gs,e1,e2,e3,w1.F,w1.E,w1.C,w1.R,ρ1,S1,rel1,CKl.bindV ck1 λds ρ2 S2 w2 vs x2 rel2 o2 ck2=>⟨w2.F,w2.E,w2.C,w2.R,ρ2,S2,rel2,CKl.bindV ck2 λes ρ3 S3 w3 zs x3 rel3 o3 ck3=>?_⟩⟩;split at ck3
  ·rename_i hl;have l1:vs.length=n:=by rw[<-o2.length];exact hl.1
   have l2:zs.length=ks.length:=by rw[<-o3.length];exact hl.2
   have lst:RepL Γ w3.R w3.F (d::ds) (v::vs):=by
    rw[RepL];exact⟨v,vs,rfl,(Rep.up x2.gr _ _ r1).up x3.gr,o2.up x3.gr⟩
   obtain⟨r,ln⟩:=hD w3.R w3.F (d::ds) (v::vs) es zs lst o3 (congrArg Nat.succ l1) l2;exact⟨l1,l2,rel3.spM r ln ck3⟩
  ·exact ck3.elim
 ·exact ck1.elim
theorem zqo(he:PE X o (tM Γ W co))(cl:Cls X.K (Γ.cA c))(hm:Meth X.K (Γ.cA c) mn f)(F:FnOk X.prog X.w X.K X.mg X.base (L2.CX X.prog X.w) k f fd ps (spM Γ ps.length m))(hr:Room k X.A)(hb:d9 Γ X.K fd ps 1 ks gD)(tk:Takes X W)(hkw:PK X kws (tMl Γ W ck))
  (hall:(backToKw pos (keywordEach kws X.env)).all (·.1.isSome)=true) (hks:(backToKw pos (keywordEach kws X.env)).filterMap (·.1)=ks)
  (hpl:((backTo pos (starEach [] X.env)).any (·.1) ||(backToKw pos (keywordEach kws X.env)).any (·.1.isNone))=false)
  (ht:eval (.Call (.Attribute o mn apos) [] kws pos) X.env=(do
   let ov <-eval o X.env
   standAt apos.atName
   let (f,first) <-holding [ov] (getMethod ov mn pl)
   callWith pos f first (backTo pos (starEach [] X.env)) (backToKw pos (keywordEach kws X.env)))) :
  PE X (.Call (.Attribute o mn apos) [] kws pos) (tM Γ W (gY c mn m 0 ks.length gD co cG ck)):=by iterate
 obtain⟨g,gV,hb,hD⟩:=hb;refine(zm4 he cl hm F hr hb (λσ=>passAt tk σ) hkw hall hks hpl ht).imp λσ H Q h=>?_;obtain⟨F,E,C,R,ρ,S,rel,h⟩:=zn6 (n:=0) hD h;refine⟨F,E,C,R,ρ,S,rel,?_⟩;have conv:∀{w:Wd} {r:Res Rv} {Q Q':VK},(∀v H,Q v H->Q' v H)->CK Γ W w σ Q r->CK Γ W w σ Q' r:=λ{w r Q Q'} k h=>by
  cases r with
  |ok a ρ S t=>exact λw' v x e r o=>k _ _ (h w' v x e r o)
  |ex y ρ S=>exact h
  |bad=>exact h
 refine conv ?_ h
 rintro v H1 ⟨a,dx,fs,e1,e2,e3,F1,E1,C1,R1,ρ1,S1,rel1,q⟩;exact⟨a,dx,fs,e1,e2,e3,q ⟨F1,E1,C1,R1,H1⟩ [] (.refl _) (λ_=>rfl) rel1 (by rw[RepL])⟩
end
def Res.noex{α:Type}:Res α->Res α
 |.ex _ _ _=>.bad
 |r=>r
def Bf(c:Nat)(m:List D->List Sl->Res Rv)(co:M Rv):M Rv:=λρ S=>(cD co ρ S).bind λd ρ S=>
 if lE c "" d S=true then(m [d] S).noex.at ρ else .bad
section
variable{Γ:Gm}{W:WX}{w w0 w1:Wd}{σ:L2.St}{ρ S:List Sl}{X:Cx}{k:Nat}{p g:Addr}{fd:FuncData}{ps:List Str}{f:Str}{pos:Pos}{e:Expr}{co:M Rv}{m:List D->List Sl->Res Rv}{c:Nat}
theorem CK.callN{Q:VK}(h:Rel Γ w ρ S σ){r:Res Rv}{E:XK}(ck:CK Γ W w σ Q (r.noex.at ρ)):FK Γ ⟨w.F,[],w.C,w.R,w.H⟩ Q E r:=by
 cases r with
 |ok r ρ' S' t=>exact CK.call (W:=W) h (r:=.ok r ρ' S' t) ck
 |ex y ρ' S'=>exact ck.elim
 |bad=>exact ck.elim
theorem zuL(he:PE X e (tM Γ W co))(cl:Cls X.K (Γ.cA c))(hp:PropOf X.K (Γ.cA c) f p g)(F:FnOk X.prog X.w X.K X.mg X.base (L2.CX X.prog X.w) k g fd ["self"] (spM Γ 1 m)) (hr:Room (k+1) X.A) (hb:Binds X.K fd ["self"] [])
  (hab:attributeBase e f X.env (eval e X.env)=eval e X.env):PE X (.Attribute e f pos) (tM Γ W (Bf c m co)):=by iterate
 have hx:Passes (L2.CX X.prog X.w) X.nox (λ_ _ _=>False):=λpins σ H s e s' I z=>by
  obtain⟨_,_,_,_,_,_,_,_,_,_,_,_,h⟩:=z;exact h.elim
 refine(pe_prop he cl hp F hr hb .nil hx hab).imp λσ H Q ⟨F,E,C,R,ρ,S,rel,h⟩=>⟨F,E,C,R,ρ,S,rel,CK.datumV h λd ρ1 S1 w1 v x1 rel1 r1 ck1=>?_⟩;split at ck1
 ·rename_i hs;obtain⟨a,dx,gs,e1,e2,e3⟩:=rel1.self r1 hs;subst e1;refine⟨a,dx,gs,rfl,e2,rfl,w1.F,w1.C,w1.R,S1,[d],rel1.callee,?_,CK.callN rel1 ck1⟩;rw[RepL];exact⟨_,[],rfl,r1,by rw[RepL]⟩
 ·exact ck1.elim
end
end
section
section
variable{X:Cx}{CX:CXT}{k n:Nat}{f C:Addr}{fd:FuncData}{ps ks:List Str}{sp:Sp}{E:L2.St->XK}{x:Str}{p pos:Pos}{e:Expr}{es:List Expr}{kws:List Keyword}{t tk:TA}{g:List Value->List Value->List Value}{gV:List V->List V->List V}
def Q4(C:Addr)(n m:Nat)(sp:Sp)(gV:List V->List V->List V)(E:L2.St->XK)(t tk:TA):TE:=λσ H Q=>t σ H λvs H1=>tk σ H1 λzs H2=>vs.length=n∧zs.length=m ∧
 ∀x dx,H2 x=none->H2 dx=none->dx≠x->sp (gV (.ref x::vs) zs) (upd (upd H2 dx (.own x)) x (.ins C dx [])) (λv H3=>v=.non∧Q (.ref x) H3) (E σ)
theorem zmh{pins:List (Addr×Obj)}{σ:L2.St}{H:Hp}{s:Shared}{Q:VK}{us ws:List Value}{vs zs:List V}(M:Mk X.K C f)(F:FnOk X.prog X.w X.K X.mg X.base CX k f fd ps sp)(hr:Room (k+1) X.A)(hb:KBn X.K fd ps (n+1) ks g gV)
  (hx:PassesAt CX X σ (E σ)) (I:Inv X pins σ H s) (r:Vals vs us) (rz:Vals zs ws) (l1:vs.length=n) (l2:zs.length=ks.length)
  (h:∀x dx,H x=none->H dx=none->dx≠x->sp (gV (.ref x::vs) zs) (upd (upd H dx (.own x)) x (.ins C dx [])) (λv H2=>v=.non∧Q (.ref x) H2) (E σ)) :
  wpAny (model X.prog X.w) X.A (call (.ref C) us (ks.zip ws)) (EP X pins σ Q) X.xe s:=by iterate
 have hq:=h (s.heap.objs.size+1) s.heap.objs.size (I.hok.fresh (Nat.le_succ _)) (I.hok.fresh (aO _)) (Nat.ne_of_lt (Nat.lt_succ_self _));have I2:=Inv.made (C:=C) I;have r1:Vals (V.ref (s.heap.objs.size+1)::vs) (Value.ref (s.heap.objs.size+1)::us):=.cons rfl r;have r2:=hb.rel r1 rz;have e1:(Value.ref (s.heap.objs.size+1)::us).length=n+1:=r1.length.symm.trans (congrArg Nat.succ l1);have e2:ws.length=ks.length:=rz.length.symm.trans l2;refine wpAny_call (make_map (f:=f) I.kIn M.makes M.init (beq_iff_eq.mp M.fn) (codeAny_mono (F.run _ X.stack _ _ ⟨Value.ref (s.heap.objs.size+1)::us,ks.zip ws⟩ (g (Value.ref (s.heap.objs.size+1)::us) ws) _ _ (E σ) (hr.make C us (ks.zip ws))
  (I2.env0.make C us (ks.zip ws)) (hb.to _ (Value.ref (s.heap.objs.size+1)::us) ws I2.kIn e1 e2) r2 hq) λr s' hq'=>?_))
 cases r with
 |error e=>exact hx pins _ _ e s' I2 hq'
 |ok fl=>
  cases fl with
  |ret u=>
   obtain⟨v,H',I3,rv,ev,q3⟩:=I2.after hq';subst ev;exact⟨rv,⟨V.ref (s.heap.objs.size+1),H',I3,rfl,q3⟩⟩
  |next=>exact False.elim hq'
  |brk=>exact False.elim hq'
  |cont=>exact False.elim hq'
theorem znA(M:Mk X.K C f)(F:FnOk X.prog X.w X.K X.mg X.base CX k f fd ps sp)(hr:Room (k+1) X.A)(hg:Gl X x)(hm:X.mg x=some (.ref C))(hb:KBn X.K fd ps (n+1) ks g gV)(hx:∀σ,PassesAt CX X σ (E σ))
  (ha:PA X (e::es) t) (hkw:PK X kws tk) (hall:(backToKw pos (keywordEach kws X.env)).all (·.1.isSome)=true) (hks:(backToKw pos (keywordEach kws X.env)).filterMap (·.1)=ks)
  (hdb:(x == ("__debug__" : Str))=false) (he:starEach (e::es) X.env=(false,eval e X.env)::starEach es X.env)
  (hpl:((backTo pos (starEach (e::es) X.env)).any (·.1) ||(backToKw pos (keywordEach kws X.env)).any (·.1.isNone))=false) :
  PE X (.Call (.Name x p) (e::es) kws pos) (Q4 C n ks.length sp gV E t tk):=by
 refine⟨λpins s σ H Q I h=>?_⟩;refine wpAny_Call_Name_kw (ld_glob I hg hm ?_ hdb);refine PySem.W.callWith_KW (h₀:=X.base) I.ok.mod.kin M.kp hall (thn (ha.run pos pins s σ H _ I h) λus s1 ⟨vs,H1,I1,r,q⟩=>?_) hpl he;refine thn (hkw.run pos pins s1 σ H1 _ I1 q) λws s2 ⟨zs,H2,I2,rz,l1,l2,q2⟩=>⟨I2.kIn,?_⟩;rw[hks];exact zmh M F hr hb (hx σ) I2 r rz l1 l2 q2
end
section
variable(Γ:Gm)
def FKi(w:Wd)(x:Addr)(Q:VK)(E:XK):Res Rv->Prop
 |.ok r _ S' _=>∀w',Ext w w'->RelS Γ w' S'->RvOk Γ w w' [] r (.ref x)->Q .non w'.H
 |.ex y _ S'=>∀w' cls d,Ext w w'->RelS Γ w' S'->XOk Γ w' y cls d->E cls d w'.H
 |.bad=>False
/-- c: the class,n: the parameters besides self,m: what is made of them -/
def spI(c n:Nat)(m:List D->List Sl->Res Rv):Sp:=λvs H Q E=>vs.length=n+1∧∃F C R S ds H0 x dx vs',vs=.ref x::vs'∧H=upd (upd H0 dx (.own x)) x (.ins (Γ.cA c) dx [])∧H0 x=none∧H0 dx=none∧dx≠x ∧
 RelS Γ ⟨F,[],C,R,H0⟩ S∧RepL Γ R F ds vs'∧FKi Γ ⟨F,[],C,R,H0⟩ x Q E (m ds S)
/-- how the arguments come to the parameters behind self -/
def CallI(K:yF)(fd:FuncData)(ps:List Str)(n:Nat)(ks:List Str)(gD:List D->List D->List D):Prop:=
 ∃g gV,KBn K fd ps (n+1) ks g gV∧∀R F ds vs es zs x,RepL Γ R F ds vs->RepL Γ R F es zs->vs.length=n->zs.length=ks.length->∃vs',gV (.ref x::vs) zs=.ref x::vs'∧RepL Γ R F (gD ds es) vs'∧(gD ds es).length+1=ps.length
end
section
variable{Γ:Gm}{W:WX}{w w0 w1:Wd}{σ:L2.St}{ρ S:List Sl}{Q:VK}{X:Cx}{k n:Nat}{f:Addr}{fd:FuncData}{ps ks:List Str}{x:Str}{p pos:Pos}{e:Expr}{es:List Expr}{kws:List Keyword}{cs ck:M (List D)}{m:List D->List Sl->Res Rv}{gD:List D->List D->List D}{c:Nat}
theorem make_core{gV:List V->List V->List V}(hD:∀R F ds vs es zs x,RepL Γ R F ds vs->RepL Γ R F es zs->vs.length=n->zs.length=ks.length->∃vs',gV (.ref x::vs) zs=.ref x::vs'∧RepL Γ R F (gD ds es) vs'∧(gD ds es).length+1=ps.length){σ:L2.St}{H:Hp}{Q:VK}
  (h:tM Γ W (cY m n ks.length gD cs ck) σ H Q) {np:Nat} (hn:np+1=ps.length):Q4 (Γ.cA c) n ks.length (spI Γ c np m) gV (WE W) (tMl Γ W cs) (tMl Γ W ck) σ H Q:=by iterate
 obtain⟨F,E,C,R,ρ,S,rel,h⟩:=h;refine⟨F,E,C,R,ρ,S,rel,CKl.bindV h λds ρ1 S1 w1 vs x1 rel1 o1 ck1=>⟨w1.F,w1.E,w1.C,w1.R,ρ1,S1,rel1,CKl.bindV ck1 λes ρ2 S2 w2 zs x2 rel2 o2 ck2=>?_⟩⟩;split at ck2
 ·rename_i hl;have l1:vs.length=n:=by rw[<-o1.length];exact hl.1
  have l2:zs.length=ks.length:=by rw[<-o2.length];exact hl.2
  refine⟨l1,l2,λx dx hx hdx ne=>?_⟩;obtain⟨vs',e1,e2,e3⟩:=hD w2.R w2.F ds vs es zs x (o1.up x2.gr) o2 l1 l2;refine⟨by rw[e1,aG,<-e2.length];omega,w2.F,w2.C,w2.R,S2,gD ds es,w2.H,x,dx,vs',e1,rfl,hx,hdx,ne,rel2.callee,e2,?_⟩;have fk:=CK.call rel2 ck2;cases q:m (gD ds es) S2 with
  |ok r ρ' S' t=>
   rw[q] at fk;exact λw' x' r' o'=>⟨rfl,fk w' (.ref x) x' r' o'⟩
  |ex y ρ' S'=>rw[q] at fk;exact fk
  |bad=>rw[q] at fk;exact fk
 ·exact ck2.elim
theorem Bg{np:Nat}(ks:List Str){j:Nat}(hj:ks.length=j)(hn:np+1=ps.length)(M:Mk X.K (Γ.cA c) f)(F:FnOk X.prog X.w X.K X.mg X.base (L2.CX X.prog X.w) k f fd ps (spI Γ c np m))(hr:Room (k+1) X.A)(hg:Gl X x)(hm:X.mg x=some (.ref (Γ.cA c)))(hb:CallI Γ X.K fd ps n ks gD)(tk:Takes X W)
  (ha:PA X (e::es) (tMl Γ W cs)) (hkw:PK X kws (tMl Γ W ck)) (hall:(backToKw pos (keywordEach kws X.env)).all (·.1.isSome)=true) (hks:(backToKw pos (keywordEach kws X.env)).filterMap (·.1)=ks)
  (hdb:(x == ("__debug__" : Str))=false) (he:starEach (e::es) X.env=(false,eval e X.env)::starEach es X.env)
  (hpl:((backTo pos (starEach (e::es) X.env)).any (·.1) ||(backToKw pos (keywordEach kws X.env)).any (·.1.isNone))=false) :
  PE X (.Call (.Name x p) (e::es) kws pos) (tM Γ W (cY m n j gD cs ck)):=by
 subst hj;obtain⟨g,gV,hb,hD⟩:=hb;exact(znA M F hr hg hm hb (λσ=>passAt tk σ) ha hkw hall hks hdb he hpl).imp λ_ _ _ h=>make_core hD h hn
def envI(n c:Nat)(ds:List D):List Sl:=.ins c []::(ds.map .val++List.replicate (n - 1 - ds.length) .emp)
def finI(ρ S:List Sl):Res Rv:=match ρ[0]? with
 |some s=>if s.own? then .ok (.fr s) [] S false else .bad
 |none=>.bad
def endI:Res Fl->Res Rv
 |.ok .nx ρ S _=>finI ρ S
 |.ok (.rt (.d .non)) ρ S _=>finI ρ S
 |.ex x _ S=>.ex x [] S
 |_=>.bad
def defI(n c:Nat)(b:M Fl):List D->List Sl->Res Rv:=λds S=>endI (b (envI n c ds) S)
theorem zvU{P:Program}{wd:World}{K:yF}{mg:Str->Option Value}{base:Heap}{k np:Nat}{x qual:Str}{params:Arguments}{body:List Stmt}{scope:Scope}{dvs:List V}{kws:List (Str×V)}{f:Addr}{fd:FuncData}{N ps:List Str}{b:M Fl}(c:Nat)
    (hF:FunD K x qual params body scope dvs kws f fd) (hS:FnScope N ps scope) (hnp:np+1=ps.length)
    (hb:∀(cdv:Value) (A:Around) (outer:List Env) (s:Shared) (H:Hp) (E:XK),Room k (A.deeper (envOfC qual scope s.heap.objs.size f cdv))->
      Takes (cxOf (L2.CX P wd) P wd K mg base N qual scope f cdv A outer s H E) (λcls d _ H=>E cls d H)->
      PassesOwn (model P wd) (cxOf (L2.CX P wd) P wd K mg base N qual scope f cdv A outer s H E).A (cxOf (L2.CX P wd) P wd K mg base N qual scope f cdv A outer s H E).env (cxOf (L2.CX P wd) P wd K mg base N qual scope f cdv A outer s H E).xe->
      PSs (cxOf (L2.CX P wd) P wd K mg base N qual scope f cdv A outer s H E) body (tS Γ (λcls d _ H=>E cls d H) [0] b)) :
    FnOk P wd K mg base (L2.CX P wd) (k+1) f fd ps (spI Γ c np (defI N.length c b)):=by iterate
  refine hF.ok hS (sp:=spI Γ c np (defI N.length c b)) (λvs H Q E h=>by rw[<-hnp];exact h.1) λcdv A outer s H vs Q E hr ⟨hl,F,C,R,S,ds,H0,x,dx,vs',e1,e2,nx,ndx,ne,rel0,l,fk⟩=>?_;refine⟨_,hb cdv A outer s H E hr (takes_of rfl rfl rfl rfl) (passes_of rfl),?_⟩;subst e1 e2;have g0:=rel0.good;have ln:=l.length;obtain⟨fx,ax⟩:=g0.none_of nx;obtain⟨fdx,adx⟩:=g0.none_of ndx;have cells:∀q:Addr×HO,q∈([(x,HO.ins (Γ.cA c) dx []),(dx,HO.own x)]:Cells)->upd (upd H0 dx (.own x)) x (.ins (Γ.cA c) dx []) q.1=some q.2∧F q.1=none∧q.1∉Wd.ad ⟨F,[],C,R,H0⟩∧H0 q.1=none:=by
    intro q hq;simp only[List.mem_cons,List.not_mem_nil,or_false] at hq;rcases hq with rfl|rfl
    · exact⟨upd_same,fx,ax,nx⟩
    · exact⟨by show upd _ _ _ dx=_;rw[upd_ne ne,upd_same],fdx,adx,ndx⟩
  have old:∀{a:Addr} {o:HO},H0 a=some o->upd (upd H0 dx (.own x)) x (.ins (Γ.cA c) dx []) a=some o:=λ{a o} h=>by
    rw[upd_ne (λz=>by subst z;rw[nx] at h;cases h),upd_ne (λz=>by subst z;rw[ndx] at h;cases h)];exact h
  have adE:Wd.ad ⟨F,[(x,HO.ins (Γ.cA c) dx []),(dx,HO.own x)],C,R,upd (upd H0 dx (.own x)) x (.ins (Γ.cA c) dx [])⟩=x::dx::C.map (·.1):=rfl;have ad0:Wd.ad ⟨F,[],C,R,H0⟩=C.map (·.1):=rfl;rw[ad0] at ax adx;have gI:Good ⟨F,[(x,HO.ins (Γ.cA c) dx []),(dx,HO.own x)],C,R,upd (upd H0 dx (.own x)) x (.ins (Γ.cA c) dx [])⟩:=by
    refine⟨λa o h=>old (g0.sub a o h),λq hq=>?_,?_⟩
    · rcases aV.mp hq with hq | hq
      · obtain ⟨z1, z2, _⟩ := cells q hq
        exact⟨z1,z2⟩
      · obtain ⟨z1, z2⟩ := g0.cell q (List.mem_append_right _ hq)
        exact⟨old z1,z2⟩
    · rw [adE]
      have nd:=g0.nd;rw[ad0] at nd;refine bz.mpr ⟨λz=>?_,bz.mpr ⟨adx,nd⟩⟩;rcases au.mp z with z|z
      · exact ne z.symm
      · exact ax z
  have xI:Ext ⟨F,[],C,R,H0⟩ ⟨F,[(x,HO.ins (Γ.cA c) dx []),(dx,HO.own x)],C,R,upd (upd H0 dx (.own x)) x (.ins (Γ.cA c) dx [])⟩:=by
    refine⟨.refl,λa o h _=>old h,λa z=>?_,λ_ _ h=>.inl h,λa o h=>⟨o,old h⟩⟩;rw[adE] at z;rcases au.mp z with z|z
    · exact .inr (z ▸ nx)
    rcases au.mp z with z|z
    · exact .inr (z ▸ ndx)
    · exact .inl z
  refine⟨F,[(x,.ins (Γ.cA c) dx []),(dx,.own x)],C,R,envI N.length c ds,S,⟨gI,?_,rel0.own⟩,?_⟩
  · unfold envI
    have e:L2.start N (.ref x::vs')=some (.ref x)::(vs'.map some++List.replicate (N.length - 1 - ds.length) none):=by
      unfold L2.start;rw[ak,aG,ln,bQ,show N.length - (vs'.length+1)=N.length - 1 - vs'.length by omega]
    rw[e];refine⟨some (.ref x),_,[(x,.ins (Γ.cA c) dx []),(dx,.own x)],[],rfl,?_,OwnE.params _ l,rfl⟩;exact OwnO.mk (Own.mkObj (fs:=[]) (show RepF Γ R F [] [] by rw[RepF]))
  · unfold defI at fk
    have leave:∀{ρ' S':List Sl} {w':Wd} {σ':L2.St},FKi Γ ⟨F,[],C,R,H0⟩ x Q E (finI ρ' S')->Ext ⟨F,[(x,HO.ins (Γ.cA c) dx []),(dx,HO.own x)],C,R,upd (upd H0 dx (.own x)) x (.ins (Γ.cA c) dx [])⟩ w'->
        Pin [0] (L2.start N (.ref x::vs')) σ'->Rel Γ w' ρ' S' σ'->Q .non w'.H:=λ{ρ' S' w' σ'} fk x' p' rel'=>by
      have es:σ'[0]? = some (some (.ref x)):=by
        rw[p' 0 (by simp)];rfl
      have fk2:FKi Γ ⟨F,[],C,R,H0⟩ x Q E (match ρ'[0]? with|some s=>if s.own? then .ok (.fr s) [] S' false else .bad|none=>.bad):=fk
      cases q:ρ'[0]? with
      |none=>rw[q] at fk2;exact fk2.elim
      |some s=>
        rw[q] at fk2
        by_cases hs:s.own? = true
        · simp only [if_pos hs] at fk2
          have eo:outR (.env 0) ρ' S'=.ok (.fr s) (ρ'.set 0 .emp) S' true:=by
            unfold outR;simp only[q];rw[if_pos hs]
          obtain⟨w2,eH,x2,rel2,o2⟩:=Nz (Γ:=Γ) (w0:=⟨F,[],C,R,H0⟩) (xI.trans x') rel' (r:=.env 0) es eo;obtain⟨x3,r3,o3⟩:=rel2.leave x2;rw[<-eH];exact fk2 ⟨w2.F,[],w2.C,w2.R,w2.H⟩ x3 r3 (o3 _ _ o2)
        · simp only [if_neg hs] at fk2
          exact fk2.elim
    cases q:b (envI N.length c ds) S with
    |ok fl ρ' S' t=>
      rw[q] at fk;cases fl with
      |nx=>exact λw' σ' x' p' rel'=>leave fk x' p' rel'
      |rt r=>
        cases r with
        |d d0=>
          cases d0 with
          |non=>
            intro w' σ' v x' p' rel' o';have ev:v=.non:=o';subst ev;exact leave fk x' p' rel'
          |_=>exact fk.elim
        |_=>exact fk.elim
      |bk=>exact fk.elim
      |ct=>exact fk.elim
    |ex y ρ' S'=>
      rw[q] at fk;intro w' σ' cls d x' p' rel' o';obtain⟨x2,r2,o2⟩:=rel'.leave (xI.trans x');exact fk ⟨w'.F,[],w'.C,w'.R,w'.H⟩ cls d x2 r2 (by cases y<;>exact o')
    |bad=>rw[q] at fk;exact fk
end
end
section
def D.typS(S:List Sl):D->Option Ty
 |.ob j=>match S[j]? with
  |some (.lst _)=>some .lst
  |some (.dK _)=>some .dct
  |some (.dT _)=>some .dct
  |some (.ins c fs)=>((Sl.ins c fs).obj?).map λp=>.ow p.1
  |_=>none
 |d=>d.typ
/-- n own classes;sub: which is one of which -/
def isT2(n:Nat)(sub:Nat->Nat->Bool):Ty->Ty->Option Bool
 |.ow c,.ow d=>if c<n∧d<n then some (sub c d) else none
 |.ow c,u=>if c<n∧u≠.non then some false else none
 |t,.ow d=>if d<n then some false else none
 |.bl,.int=>some true
 |t,u=>if u≠.non then some (decide (t=u)) else none
def oO(n:Nat)(sub:Nat->Nat->Bool)(t:Ty):List Ty->Option Bool
 |[]=>some false
 |u::us=>match isT2 n sub t u with
  |some true=>some true
  |some false=>oO n sub t us
  |none=>none
structure ClT(Γ:Gm)(n:Nat)(sub:Nat->Nat->Bool):Prop where
  cls:∀c,c<n->Cls Γ.K (Γ.cA c)∧PySem.W.findIn Γ.K (.ref (Γ.cA c)) "__class__" = some (some (.builtin "object.__class__"))∧PySem.W.specialIn Γ.K (.builtin "object.__class__") "__get__" = some (some (.builtin "getset_descriptor.__get__")) ∧
    PySem.W.takesIn Γ.K (.builtin "object.__class__")=some true∧PySem.W.mroIn Γ.K (Γ.cA c) (.type "object")=some true
  oo:∀c,c<n->∀d,d<n->PySem.W.kitOne Γ.K (.ref (Γ.cA c)) (.ref (Γ.cA d))=some (sub c d)∧(sub d c=false∨c=d->PySem.W.notFirst Γ.K (Γ.cA c) (.ref (Γ.cA d))=true)
  ob:∀c,c<n->∀t,t∈bT6->PySem.W.kitOne Γ.K (.ref (Γ.cA c)) (.type t.name)=some false
  bo:∀c,c<n->∀t,t∈bT7->PySem.W.kitOne Γ.K (.type t.name) (.ref (Γ.cA c))=some false∧PySem.W.notFirst Γ.K (Γ.cA c) (.type t.name)=true
section
variable{Γ:Gm}{W:WX}{n:Nat}{sub:Nat->Nat->Bool}{w w0 w1:Wd}{σ:L2.St}{ρ S:List Sl}
def Ty.isOw:Ty->Bool
 |.ow _=>true
 |_=>false
theorem Ty.val_b{t:Ty}(h:t.isOw=false):t.val Γ=.type t.name∧t∈bT7:=by
 cases t with
 |ow c=>cases h
 |_=>exact⟨rfl,by decide⟩
theorem kit2(O:ClT Γ n sub){t u:Ty}{b:Bool}(e:isT2 n sub t u=some b):PySem.W.kitOne Γ.K (t.val Γ) (u.val Γ)=some b:=by iterate
 cases ht:t.isOw with
 |true=>
  cases t with
  |ow c=>
   cases hu:u.isOw with
   |true=>
    cases u with
    |ow d=>
     simp only[isT2] at e;split at e
     ·rename_i h;cases e;exact(O.oo c h.1 d h.2).1
     ·cases e
    |_=>cases hu
   |false=>
    have e':(if c<n∧u≠.non then some false else none)=some b:=by
     cases u<;>first|exact e|cases hu
    split at e'
    ·rename_i h;cases e';rw[(Ty.val_b (Γ:=Γ) hu).1];refine O.ob c h.1 u ?_;cases u<;>first|decide|exact absurd rfl h.2|(cases hu;done)
    ·cases e'
  |_=>cases ht
 |false=>
  cases hu:u.isOw with
  |true=>
   cases u with
   |ow d=>
    have e':(if d<n then some false else none)=some b:=by
     cases t<;>first|exact e|cases ht
    split at e'
    ·rename_i h;cases e';rw[(Ty.val_b (Γ:=Γ) ht).1];exact(O.bo d h t (Ty.val_b (Γ:=Γ) ht).2).1
    ·cases e'
   |_=>cases hu
  |false=>
   have e1:isT (λ_ _=>none) t u=some b∧u∈[Ty.int,.bl,.str,.lst,.tup,.dct]:=by
    cases t<;>cases u<;>first|(cases ht;done)|(cases hu;done)|(exact⟨by simpa[isT2,isT] using e,by decide⟩)|(exfalso;revert e;simp[isT2])
   rw[(Ty.val_b (Γ:=Γ) hu).1,(Ty.val_b (Γ:=Γ) ht).1];exact kit_ty ((zuA t (Ty.val_b (Γ:=Γ) ht).2 u e1.2).trans e1.1)
theorem Q5(O:ClT Γ n sub){t:Ty}:∀{us:List Ty} {b:Bool},oO n sub t us=some b->PySem.W.kitAny Γ.K (t.val Γ) (us.map (·.val Γ))=some b
 |[],b,e=>by cases e;rfl
 |u::us,b,e=>by
  rw[oO] at e;show PySem.W.kitAny Γ.K (t.val Γ) (u.val Γ::us.map (·.val Γ))=some b;cases q:isT2 n sub t u with
  |none=>rw[q] at e;cases e
  |some k=>
   rw[q] at e;unfold PySem.W.kitAny;rw[kit2 O q];cases k with
   |true=>cases e;rfl
   |false=>exact Q5 O e
theorem typ2(O:ClT Γ n sub)(h:Rel Γ w ρ S σ){d:D}{v:V}{t:Ty}(e:d.typS S=some t)(hc:∀c,t=.ow c->c<n)(r:Rep Γ w.R w.F d v):TyX Γ.K w.H v (t.val Γ):=by iterate
 have plain:d.typ=some t->TyX Γ.K w.H v (t.val Γ):=λe=>by
  have O2:OwOk Γ (λc u=>match t with
    |.ow c'=>if c=c' then(match u with
     |.ow d=>if c=d then some (sub c d) else none
     |_=>none) else none
    |_=>none):=by iterate
   constructor
   ·intro c u b z;cases t with
    |ow c'=>
     simp only at z;split at z
     ·rename_i hcc;subst hcc;cases u with
      |ow d=>
       simp only at z;split at z
       ·rename_i hcd;subst hcd;cases z;exact(O.oo c (hc c rfl) c (hc c rfl)).1
       ·cases z
      |_=>cases z
     ·cases z
    |_=>cases z
   ·intro c u b z;cases t with
    |ow c'=>
     simp only at z;split at z
     ·rename_i hcc;subst hcc;exact O.cls c (hc c rfl)
     ·cases z
    |_=>cases z
  refine zxG O2 h.good e (λc z=>⟨.ow c,sub c c,?_⟩) (r.top h.good);subst z;simp
 cases d with
 |ob j=>
  have e:(match S[j]? with
   |some (.lst _)=>some Ty.lst
   |some (.dK _)=>some .dct
   |some (.dT _)=>some .dct
   |some (.ins c fs)=>((Sl.ins c fs).obj?).map λp=>.ow p.1
   |_=>none)=some t:=e
  cases q:S[j]? with
  |none=>rw[q] at e;cases e
  |some s=>
   rw[q] at e;obtain⟨a,A,B,b,h1,h2,h3,_⟩:=h.own.sto_at q;have o':Rep Γ w.R w.F (.ob j) v:=r;rw[Rep] at o';obtain⟨a',e1,e2⟩:=o';rw[h1] at e1;cases e1;subst e2;have cell:=h.cellsH h2;cases s with
   |lst xs=>
    cases e;obtain⟨v',ev,ow⟩:=h3;rw[Own] at ow;obtain⟨a2,ys,e3,_,e4⟩:=ow;cases ev;cases e3;subst e4;exact .base (.lst (cell (a,.lst ys) (by simp)))
   |dK xs=>
    cases e;obtain⟨v',ev,ow⟩:=h3;rw[Own] at ow;obtain⟨a2,ys,e3,_,e4⟩:=ow;cases ev;cases e3;subst e4;exact .base (.dK (cell (a,.dK ys) (by simp)))
   |dT xs=>
    cases e;obtain⟨v',ev,ow⟩:=h3;rw[Own] at ow;obtain⟨a2,ys,e3,_,e4⟩:=ow;cases ev;cases e3;subst e4;exact .base (.dT (cell (a,.dT ys) (by simp)))
   |ins c fs=>
    have e:((Sl.ins c fs).obj?).map (λp=>Ty.ow p.1)=some t:=e;cases q2:(Sl.ins c fs).obj? with
    |none=>rw[q2] at e;cases e
    |some p=>
     obtain⟨c',gs⟩:=p;rw[q2] at e;cases e;obtain⟨a2,dx,hs,e3,e4,_,_⟩:=h.obj (w0:=w) (r:=.d (.ob j)) (v:=.ref a) (c:=c') (fs:=gs) r (by show(S[j]?).bind Sl.obj? = _;rw[q];exact q2);cases e3;obtain⟨c1,c2,c3,c4,c5⟩:=O.cls c' (hc c' rfl);exact .base (.ins e4 c1 c2 c3 c4 c5)
   |_=>cases e
 |_=>exact plain e
end
def isiR(n:Nat)(sub:Nat->Nat->Bool)(S:List Sl):List D->Option Bool
 |[x,.tup cs]=>match x.typS S,jG cs with
  |some t,some us=>if us.isEmpty then none else oO n sub t us
  |_,_=>none
 |[x,c]=>match x.typS S,c.asTy with
  |some t,some u=>isT2 n sub t u
  |_,_=>none
 |_=>none
def cIsi(n:Nat)(sub:Nat->Nat->Bool)(cs:M (List D)):M Rv:=λρ S=>(cs ρ S).bind λds ρ S=>match isiR n sub S ds with
 |some b=>.ok (.d (.bl b)) ρ S false
 |none=>.bad
theorem Q6{n:Nat}{sub:Nat->Nat->Bool}{t u:Ty}{b:Bool}(e:isT2 n sub t u=some b):∀c,t=.ow c->c<n:=λc h=>by
 subst h;cases u with
 |ow d=>
  simp only[isT2] at e;split at e
  ·rename_i h;exact h.1
  ·cases e
 |_=>
  simp only[isT2] at e;split at e
  ·rename_i h;exact h.1
  ·cases e
theorem zq5{n:Nat}{sub:Nat->Nat->Bool}{t:Ty}:∀{us:List Ty} {b:Bool},us≠[]->oO n sub t us=some b->∀c,t=.ow c->c<n
 |[],_,h,_=>absurd rfl h
 |u::us,b,_,e=>by
  rw[oO] at e;cases q:isT2 n sub t u with
  |none=>rw[q] at e;cases e
  |some k=>exact Q6 q
section
variable{X:Cx}{Γ:Gm}{W:WX}{n:Nat}{sub:Nat->Nat->Bool}{e:Expr}{es:List Expr}{cs:M (List D)}{p pos:Pos}
theorem zxg{w:Wd}{σ:L2.St}{ρ S:List Sl}{ds:List D}{vs:List V}{b:Bool}{Q:VK}(O:ClT Γ n sub)(h:Rel Γ w ρ S σ)(l:RepL Γ w.R w.F ds vs)(e:isiR n sub S ds=some b)(q:Q (.bl b) w.H):rIsi Γ.K vs w.H Q∨rIsiT Γ.K vs w.H Q:=by iterate
 have two:∃x c,ds=[x,c]:=by
  match ds,e with
  |[x,c],_=>exact⟨x,c,rfl⟩
  |[],e=>cases e
  |[x],e=>cases e
  |x::c::y::r,e=>exact absurd e (by cases c<;>simp[isiR])
 obtain⟨x,c,rfl⟩:=two;rw[RepL] at l;obtain⟨v,vs',rfl,rx,l⟩:=l;rw[RepL] at l;obtain⟨u,vs2,rfl,rc,l⟩:=l;rw[RepL] at l;subst l
 by_cases ht:∃cs,c=.tup cs
 ·obtain⟨cs,rfl⟩:=ht;simp only[isiR] at e;cases e1:x.typS S with
  |none=>simp only[e1] at e;cases e
  |some t=>
   cases e2:jG cs with
   |none=>simp only[e1,e2] at e;cases e
   |some us=>
    simp only[e1,e2] at e;split at e
    ·cases e
    ·rename_i hne;rw[Rep] at rc;obtain⟨a,ys,rfl,ha,la⟩:=rc;obtain⟨k1,k2⟩:=Oj e2 la;have ne:us≠[]:=λz=>hne (by rw[z];rfl);exact .inr ⟨v,a,ys,_,_,b,rfl,h.good.sub _ _ ha,k1,typ2 O h e1 (zq5 ne e) rx,Q5 O e,q⟩
 ·have e':(match x.typS S,c.asTy with
   |some t,some u=>isT2 n sub t u
   |_,_=>none)=some b:=by
   cases c<;>first|exact e|exact absurd ⟨_,rfl⟩ ht
  cases e1:x.typS S with
  |none=>simp only[e1] at e';cases e'
  |some t=>
   cases e2:c.asTy with
   |none=>simp only[e1,e2] at e';cases e'
   |some u'=>
    simp only[e1,e2] at e';obtain⟨k1,k2⟩:=Oi e2 rc;exact .inl ⟨v,u,_,_,b,rfl,k1,typ2 O h e1 (Q6 e') rx,kit2 O e',q⟩
theorem fU(hK:Γ.K=X.K)(O:ClT Γ n sub)(hg:Gl X "isinstance") (hm:X.mg "isinstance" = none) (ha:PA X (e::es) (tMl Γ W cs)) (he:starEach (e::es) X.env=(false,eval e X.env)::starEach es X.env) (hpl:(backTo pos (starEach es X.env)).any (·.1)=false) :
  PE X (.Call (.Name "isinstance" p) (e::es) [] pos) (tM Γ W (cIsi n sub cs)):=by iterate
 refine(pe_callB (CallR.or call_isi call_isiT) hg hm (by rfl) ha (by decide) (by decide) he hpl).imp λσ H Q ⟨F,E,C,R,ρ,S,rel,h⟩=>⟨F,E,C,R,ρ,S,rel,CKl.bindV h λds ρ1 S1 w1 vs x1 rel1 l1 ck1=>?_⟩;cases q:isiR n sub S1 ds with
 |none=>simp only[q] at ck1;exact ck1.elim
 |some b=>
  simp only[q] at ck1;rw[<-hK];exact zxg O rel1 l1 q (ck1 w1 (.bl b) (.refl _) (λ_=>rfl) rel1 (show Rep Γ w1.R w1.F (.bl b) (.bl b) from eV))
end
end
section
section
variable(X:Cx)(Γ:Gm)(W:WX)
/-- the data ds stand for vs;g tells what is done -/
def rDat(g:List D->List Sl->Res Rv):L2.St->List V->Hp->VK->Prop:=λσ vs H Q=>∃F E C R ρ S ds,Rel Γ ⟨F,E,C,R,H⟩ ρ S σ∧RepL Γ R F ds vs∧CK Γ W ⟨F,E,C,R,H⟩ σ Q ((g ds S).at ρ)
def OpD2(f:Value->Value->Sem Value)(g:List D->List Sl->Res Rv):Prop:=∀(pins:List (Addr×Obj)) (s:Shared) (σ:L2.St) (H:Hp) (x y:V) (v u:Value) (Q:VK),Inv X pins σ H s->RelV x v->RelV y u->rDat Γ W g σ [x,y] H Q->
 wpAny (model X.prog X.w) X.A (f v u) (EP X pins σ Q) X.xe s
def OpD1(f:Value->Sem Value)(g:List D->List Sl->Res Rv):Prop:=∀(pins:List (Addr×Obj)) (s:Shared) (σ:L2.St) (H:Hp) (x:V) (v:Value) (Q:VK),Inv X pins σ H s->RelV x v->rDat Γ W g σ [x] H Q->
 wpAny (model X.prog X.w) X.A (f v) (EP X pins σ Q) X.xe s
end
/-- first the one,then the other -/
def hOr(g g':List D->List Sl->Res Rv):List D->List Sl->Res Rv:=λds S=>match g ds S with
 |.bad=>g' ds S
 |r=>r
section
variable{X:Cx}{Γ:Gm}{W:WX}{f:Value->Value->Sem Value}{f1:Value->Sem Value}{g g':List D->List Sl->Res Rv}
theorem rDat.or{σ:L2.St}{vs:List V}{H:Hp}{Q:VK}(h:rDat Γ W (hOr g g') σ vs H Q):rDat Γ W g σ vs H Q∨rDat Γ W g' σ vs H Q:=by iterate
 obtain⟨F,E,C,R,ρ,S,ds,rel,l,ck⟩:=h;cases q:g ds S with
 |bad=>
  have e:hOr g g' ds S=g' ds S:=by simp only[hOr,q]
  rw[e] at ck;exact .inr ⟨F,E,C,R,ρ,S,ds,rel,l,ck⟩
 |ok r ρ' S' t=>
  have e:hOr g g' ds S=g ds S:=by simp only[hOr,q]
  rw[e] at ck;exact .inl ⟨F,E,C,R,ρ,S,ds,rel,l,ck⟩
 |ex y ρ' S'=>
  have e:hOr g g' ds S=g ds S:=by simp only[hOr,q]
  rw[e] at ck;exact .inl ⟨F,E,C,R,ρ,S,ds,rel,l,ck⟩
theorem OpD2.or(h:OpD2 X Γ W f g)(h':OpD2 X Γ W f g'):OpD2 X Γ W f (hOr g g'):=λpins s σ H x y v u Q I rx ry q=>q.or.elim (h pins s σ H x y v u Q I rx ry) (h' pins s σ H x y v u Q I rx ry)
theorem OpD1.or(h:OpD1 X Γ W f1 g)(h':OpD1 X Γ W f1 g'):OpD1 X Γ W f1 (hOr g g'):=λpins s σ H x v Q I rx q=>q.or.elim (h pins s σ H x v Q I rx) (h' pins s σ H x v Q I rx)
end
/-- a new thing is frozen at once -/
def frzR(r:Rv):M Rv:=λρ S=>match r with
 |.fr s=>.ok (.d s.frz) ρ S false
 |r=>.ok r ρ S false
def cF(c:M Rv):M Rv:=λρ S=>(c ρ S).bind λr ρ S=>frzR r ρ S
def two2(g:D->D->Option Rv):Option D->Option D->Option Rv
 |some a,some b=>g a b
 |_,_=>none
def own2(h:List D->List Sl->Res Rv):Rv->Rv->M Rv
 |.d d1,.d d2=>λρ S=>(h [d1,d2] S).at ρ
 |_,_=>M.bad
def cOp2(g:D->D->Option Rv)(h:List D->List Sl->Res Rv)(ca cb:M Rv):M Rv:=λρ S=>(cF ca ρ S).bind λra ρ S=>(cF cb ρ S).bind λrb ρ S=>match two2 g (cont ρ S ra) (cont ρ S rb) with
 |some r=>.ok r ρ S false
 |none=>own2 h ra rb ρ S
section
variable{X:Cx}{Γ:Gm}{W:WX}{w w0 w1:Wd}{σ:L2.St}{ρ S:List Sl}{f:Value->Value->Sem Value}{g:D->D->Option Rv}{h:List D->List Sl->Res Rv}{r:R2}{a b:Expr}{ca cb:M Rv}{pos:Pos}
theorem CK.frz{c:M Rv}{fn:Rv->List Sl->List Sl->Res Rv}{Q Q1:VK}(h:CK Γ W w σ Q ((cF c ρ S).bind fn))
  (k:∀a ρ' S' w' v,Ext w w'->Rel Γ w' ρ' S' σ->RvOk Γ w w' σ a v->CK Γ W w' σ Q (fn a ρ' S')->Q1 v w'.H):CK Γ W w σ Q1 (c ρ S):=by iterate
 unfold cF at h;cases q:c ρ S with
 |ok r ρ1 S1 t1=>
  rw[q] at h;intro w1 v x1 e1 r1 o1;rw[Res.bind_ok] at h;cases r with
  |fr s=>
   obtain⟨F',up,x',g',rep⟩:=M8 x1 r1.good o1;have h:CK Γ W w σ Q (((Res.ok (.d s.frz) ρ1 S1 false).addt t1).bind fn):=h;exact k (.d s.frz) ρ1 S1 { w1 with F:=F' } v x' (r1.move ⟨⟨[],by simp⟩,up⟩ g' rfl rfl rfl) rep (CK.ext x' (t:=t1 ||false) (λz=>e1 (by cases t1<;>first|rfl|cases z)) h)
  |d x=>
   have h:CK Γ W w σ Q (((Res.ok (.d x) ρ1 S1 false).addt t1).bind fn):=h;exact k (.d x) ρ1 S1 w1 v x1 r1 o1 (CK.ext x1 (t:=t1 ||false) (λz=>e1 (by cases t1<;>first|rfl|cases z)) h)
  |env i=>
   have h:CK Γ W w σ Q (((Res.ok (.env i) ρ1 S1 false).addt t1).bind fn):=h;exact k (.env i) ρ1 S1 w1 v x1 r1 o1 (CK.ext x1 (t:=t1 ||false) (λz=>e1 (by cases t1<;>first|rfl|cases z)) h)
 |ex y ρ1 S1=>rw[q] at h;exact h
 |bad=>rw[q] at h;exact h
theorem Bj{ra rb:Rv}{v u:V}{Q:VK}(rel:Rel Γ w ρ S σ)(oa:RvOk Γ w0 w σ ra v)(ob:RvOk Γ w1 w σ rb u)(ck:CK Γ W w σ Q (own2 h ra rb ρ S)):rDat Γ W h σ [v,u] w.H Q:=by
 cases ra with
 |d d1=>
  cases rb with
  |d d2=>
   refine⟨w.F,w.E,w.C,w.R,ρ,S,[d1,d2],rel,?_,ck⟩;rw[RepL];refine⟨v,[u],rfl,oa,?_⟩;rw[RepL];exact⟨u,[],rfl,ob,by rw[RepL]⟩
  |_=>exact ck.elim
 |_=>exact ck.elim
/-- both ways of an operator -/
theorem zrr(ho:OpR X f r)(hg:cR Γ g r)(hd:OpD2 X Γ W f h)(ha:PE X a (tM Γ W ca))(hb:PE X b (tM Γ W cb)){pins:List (Addr×Obj)}{s:Shared}{H:Hp}{Q:VK}{Q':Value->Shared->Prop}{ff:Value->Value->Sem Value}(I:Inv X pins σ H s)(t:tM Γ W (cOp2 g h ca cb) σ H Q)
  (fin:∀v u s2,wpAny (model X.prog X.w) X.A (f v u) (EP X pins σ Q) X.xe s2->wpAny (model X.prog X.w) X.A (ff v u) Q' X.xe s2) :
  wpAny (model X.prog X.w) X.A (eval a X.env) (λv s₁=>wpAny (model X.prog X.w) X.A (eval b X.env) (λu s₂=>wpAny (model X.prog X.w) X.A (ff v u) Q' X.xe s₂) X.xe s₁) X.xe s:=by iterate
 obtain⟨F,E,C,R,ρ,S,rel,ck⟩:=t;have t':tM Γ W ca σ H λx H1=>tM Γ W cb σ H1 λy H2=>r x y H2 Q∨rDat Γ W h σ [x,y] H2 Q:=by
  refine⟨F,E,C,R,ρ,S,rel,CK.frz ck λra ρ1 S1 w1 v1 x1 rel1 o1 ck1=>?_⟩;refine⟨w1.F,w1.E,w1.C,w1.R,ρ1,S1,rel1,CK.frz ck1 λrb ρ2 S2 w2 v2 x2 rel2 o2 ck2=>?_⟩;cases e1:cont ρ2 S2 ra with
  |none=>simp only[e1,two2] at ck2;exact .inr (Bj rel2 (o1.up x2) o2 ck2)
  |some d1=>
   cases e2:cont ρ2 S2 rb with
   |none=>simp only[e1,e2,two2] at ck2;exact .inr (Bj rel2 (o1.up x2) o2 ck2)
   |some d2=>
    simp only[e1,e2,two2] at ck2;cases e3:g d1 d2 with
    |none=>simp only[e3] at ck2;exact .inr (Bj rel2 (o1.up x2) o2 ck2)
    |some rr=>
     simp only[e3] at ck2;refine .inl (hg w2 v1 v2 d1 d2 Q rel2.good (rel2.top (o1.up x2) e1) (rel2.top o2 e2) ?_);rw[e3];exact CK.prim (ρ:=ρ2) (S:=S2) (o:=some rr) rel2 ck2
 refine thn (ha.run pins s σ H _ I t') λv s1 ⟨x,H1,I1,r1,q1⟩=>?_;refine thn (hb.run pins s1 σ H1 _ I1 q1) λu s2 ⟨y,H2,I2,r2,q2⟩=>?_;exact fin v u s2 (q2.elim (ho pins s2 σ H2 x y v u Q I2 r1 r2) (hd pins s2 σ H2 x y v u Q I2 r1 r2))
theorem oR{op:Operator}(ho:OpR X (binaryOp op) r)(hg:cR Γ g r)(hd:OpD2 X Γ W (binaryOp op) h)(ha:PE X a (tM Γ W ca))(hb:PE X b (tM Γ W cb)):PE X (.BinOp a op b pos) (tM Γ W (cOp2 g h ca cb)):=
 ⟨λpins s σ H Q I t=>wpAny_BinOp (zrr ho hg hd ha hb I t λ_ _ _ z=>z)⟩
end
def isC(c:Nat)(d:D)(S:List Sl):Bool:=match getO (.d d) [] S with
 |some (c',_)=>decide (c'=c)
 |none=>false
def notQ:Res Rv->Res Rv
 |.ok (.d (.bl b)) ρ S t=>.ok (.d (.bl (!b))) ρ S t
 |.ex x ρ S=>.ex x ρ S
 |_=>.bad
def hNe(h:List D->List Sl->Res Rv):List D->List Sl->Res Rv:=λds S=>notQ (h ds S)
section
variable{X:Cx}{Γ:Gm}{W:WX}{n:Nat}{sub:Nat->Nat->Bool}{w w0 w1:Wd}{σ:L2.St}{ρ S:List Sl}{c k:Nat}{f:Addr}{fd:FuncData}{ps:List Str}{m:List D->List Sl->Res Rv}
theorem Rel.isC{d:D}{v:V}(h:Rel Γ w ρ S σ)(r:Rep Γ w.R w.F d v)(e:DV.isC c d S=true):∃a dx gs,v=.ref a∧w.H a=some (.ins (Γ.cA c) dx gs):=by
 unfold DV.isC at e;cases q:getO (.d d) [] S with
 |none=>rw[q] at e;cases e
 |some p=>
  obtain⟨c',fs⟩:=p;rw[q] at e;have e1:=aR e;subst e1;have q':getO (.d d) ρ S=some (c',fs):=by
   cases d<;>first|exact q|cases q
  obtain⟨a,dx,gs,h1,h2,_,h4⟩:=h.obj (w0:=w) (r:=.d d) r q';exact⟨a,dx,gs,h1,h2⟩
theorem rDat.ne{g:List D->List Sl->Res Rv}{vs:List V}{H:Hp}{Q:VK}(h:rDat Γ W (hNe g) σ vs H Q):rDat Γ W g σ vs H λv H'=>∃b,v=.bl b∧Q (.bl (!b)) H':=by iterate
 obtain⟨F,E,C,R,ρ,S,ds,rel,l,ck⟩:=h;refine⟨F,E,C,R,ρ,S,ds,rel,l,?_⟩;unfold hNe at ck;cases q:g ds S with
 |ok r ρ' S' t=>
  rw[q] at ck;cases r with
  |d x=>
   cases x with
   |bl b=>
    intro w' v x' e' r' o';cases(show v=.bl b from o')
    exact⟨b,rfl,ck w' (.bl (!b)) x' e' r' (show Rep Γ w'.R w'.F (.bl (!b)) (.bl (!b)) from eV)⟩
   |_=>exact ck.elim
  |_=>exact ck.elim
 |ex y ρ' S'=>rw[q] at ck;exact ck
 |bad=>rw[q] at ck;exact ck.elim
end
end
section
def own1(h:List D->List Sl->Res Rv):Rv->M Rv
 |.d d1=>λρ S=>(h [d1] S).at ρ
 |_=>M.bad
def one1(g:List D->Option Rv):Option D->Option Rv
 |some d=>g [d]
 |none=>none
def cOp1(g:List D->Option Rv)(h:List D->List Sl->Res Rv)(c:M Rv):M Rv:=λρ S=>(cF c ρ S).bind λr ρ S=>match one1 g (cont ρ S r) with
 |some r'=>.ok r' ρ S false
 |none=>own1 h r ρ S
def isStr:D->Bool
 |.str _=>true
 |_=>false
def fmtD:D->Option Str
 |.str y=>if y.length≤sizeLine then some y else none
 |.int i=>if i.natAbs.log2<1920 then some (toString i) else none
 |_=>none
def cFmt(c:M Rv):M Rv:=λρ S=>(c ρ S).bind λr ρ S=>match (cont ρ S r).bind fmtD with
 |some y=>.ok (.d (.str y)) ρ S false
 |none=>.bad
def catR(acc:Str):D->Option Str
 |.str y=>if(acc++y).length≤sizeLine then some (acc++y) else none
 |_=>none
def cJsA:List (M Rv)->Str->M Rv
 |[],acc=>λρ S=>.ok (.d (.str acc)) ρ S false
 |c::cs,acc=>λρ S=>(cD c ρ S).bind λd ρ S=>match catR acc d with
  |some acc'=>cJsA cs acc' ρ S
  |none=>.bad
def cJs(cs:List (M Rv)):M Rv:=cJsA cs Str.empty
end
section
def Bl:List D->Option (List D)
 |[.lst xs]=>some (iG 0 xs)
 |[.kl xs]=>some (iG 0 xs)
 |[.tup xs]=>some (iG 0 xs)
 |[.kt xs]=>some (iG 0 xs)
 |[.str z]=>some (iG 0 (z.cps.toList.map λc=>.str ⟨#[c]⟩))
 |_=>none
def zwA(cs:M (List D)):M (List D):=λρ S=>(cs ρ S).bind λds ρ S=>match Bl ds with
 |some xs=>.ok xs ρ S false
 |none=>.bad
end
section
structure KonT(Γ:Gm)(kon:Nat->Str->Option D):Prop where
  ok:∀c f d,kon c f=some d->∃v u,ClX.CRead Γ.K (Γ.cA c) (.type "type")∧ClX.CVal Γ.K (Γ.cA c) (.type "type") f v u∧Cls Γ.K (Γ.cA c)∧Con Γ.K (Γ.cA c) f v u∧∀R F,Rep Γ R F d v
def konR(kon:Nat->Str->Option D)(f:Str)(r:Rv)(ρ S:List Sl):Option D:=match r with
 |.d (.cl c)=>kon c f
 |r=>match getO r ρ S with
  |some (c,fs)=>if(fs.lookup f).isNone=true then kon c f else none
  |none=>none
def cKon(kon:Nat->Str->Option D)(f:Str)(co:M Rv):M Rv:=λρ S=>(co ρ S).bind λr ρ S=>match konR kon f r ρ S with
 |some d=>.ok (.d d) ρ S false
 |none=>.bad
def stoR(r:Rv):M Rv:=λρ S=>match r with
 |.fr s=>if s.one=true then .ok (.d (.ob S.length)) ρ (S++[s]) false else .bad
 |_=>.bad
def uh(c:M Rv):M Rv:=λρ S=>(c ρ S).bind λr ρ S=>stoR r ρ S
theorem zuq{X:Cx}{Γ:Gm}{W:WX}{e:Expr}{c:M Rv}(he:PE X e (tM Γ W c)):PE X e (tM Γ W (uh c)):=
 he.imp λσ H Q ⟨F,E,C,R,ρ,S,rel,ck⟩=>⟨F,E,C,R,ρ,S,rel,by
  unfold uh at ck;cases q:c ρ S with
  |bad=>rw[q] at ck;exact ck.elim
  |ex y ρ1 S1=>rw[q] at ck;exact ck
  |ok r ρ1 S1 t=>
   rw[q,Res.bind_ok] at ck;cases r with
   |fr s=>
    simp only[stoR] at ck
    by_cases hs:s.one=true
    ·rw[if_pos hs] at ck;intro w1 v x1 e1 rel1 o1;obtain⟨w2,eH,x2,r2,eE,rep⟩:=Rel.push x1 rel1 o1 hs;rw[<-eH];exact ck w2 v x2 (λz=>by rw[eE];exact e1 (by cases t<;>first|rfl|cases z)) r2 rep
    ·rw[if_neg hs] at ck;exact ck.elim
   |_=>exact ck.elim⟩
theorem zoU{α:Type}(ix:List Nat)(x:α)(l:List α):pick (0::ix.map (·+1)) (x::l)=x::pick ix l:=by
 unfold pick;rw[List.filterMap_cons,List.getElem?_cons_zero];congr 1;rw[List.filterMap_map];congr 1
section
variable{Γ:Gm}{K:yF}{x qual:Str}{params:Arguments}{body:List Stmt}{scope:Scope}{dvs:List V}{kws:List (Str×V)}{f:Addr}{fd:FuncData}{ps:List Str}
theorem zzC(F:FunD K x qual params body scope [] kws f fd)(n:Nat)(ks:List Str)(ix:List Nat)(hl:ix.length+1=ps.length)(hi:∀i∈ix,i<n+ks.length)
  (h:∀(kV doc pm:Value) (an:Option Addr) (cdv ct:Value) (us ws:List Value),us.length=n+1->ws.length=ks.length->bindArgs (PySem.W.fnOf x qual params body scope .none kV doc pm an cdv ct) ⟨us,ks.zip ws⟩=pure (ps.zip (pick (0::ix.map (·+1)) (us++ws)))) :
  CallI Γ K fd ps n ks (λds es=>pick ix (ds++es)):=by iterate
 obtain⟨oc,od,dV,kV,doc,pm,an,cdv,ct,osl,rfl,lk,hcd,hD,hK⟩:=F.ex;rcases hD with ⟨_,rfl⟩|⟨e,_⟩
 ·refine⟨λus ws=>pick (0::ix.map (·+1)) (us++ws),λvs zs=>pick (0::ix.map (·+1)) (vs++zs),⟨λs us ws X l1 l2=>.of_eq (h kV doc pm an cdv ct us ws l1 l2),λr1 r2=>tU (r1.append r2) _⟩,λR F ds vs es zs x l1 l2 n1 n2=>⟨pick ix (vs++zs),zoU ix _ _,(l1.app l2).pick ix,?_⟩⟩;rw[xG,hl];intro i hx;rw[aA,l1.length,l2.length,n1,n2];exact hi i hx
 ·exact absurd rfl e
end
theorem zw0{lm:Nat->LamI}{ce:List (Str×Addr)}{tb:Str->Addr}{K:yF}{nm:Nat->Str}{n:Nat}{sub:Nat->Nat->Bool}(h:MK K nm n sub=true):ClT ⟨K,λc=>He.ga K (nm c),lm,ce,tb⟩ n sub:=by iterate
 obtain⟨h0,h1⟩:=He.ba h;obtain⟨z1,z2⟩:=He.ba h0;have row:∀c,c<n->clsB K (nm c)=true∧∀d,d<n->MJ K (nm c) (nm d) (sub c d) (!(sub d c) ||c == d)=true:=λc hc=>by
  have a:=bJ.mp h1 c (List.mem_range.mpr hc);obtain⟨_,a2⟩:=He.ba a;obtain⟨a3,a4⟩:=He.ba a2;exact⟨a3,λd hd=>bJ.mp a4 d (List.mem_range.mpr hd)⟩
 refine⟨λc hc=>?_,λc hc d hd=>?_,λc hc t ht=>?_,λc hc t ht=>?_⟩
 ·obtain⟨a1,a2⟩:=He.ba (row c hc).1;obtain⟨a3,a4⟩:=He.ba a2;obtain⟨a5,a6⟩:=He.ba a4;exact⟨He.cls_ok a1,He.eqO_ok a3,He.eqO_ok z1,aR z2,aR a5⟩
 ·obtain⟨a1,a2⟩:=He.ba ((row c hc).2 d hd);refine⟨aR a1,λhx=>?_⟩;have e:(!(sub d c) ||c == d)=true:=by
   rcases hx with z|z
   ·rw[z];rfl
   ·subst z;simp
  rw[e] at a2
  simpa using a2
 ·obtain⟨a1,a2⟩:=He.ba (row c hc).1;obtain⟨a3,a4⟩:=He.ba a2;obtain⟨a5,a6⟩:=He.ba a4;obtain⟨a7,a8⟩:=He.ba a6;exact aR (bJ.mp a7 t ht)
 ·obtain⟨a1,a2⟩:=He.ba (row c hc).1;obtain⟨a3,a4⟩:=He.ba a2;obtain⟨a5,a6⟩:=He.ba a4;obtain⟨a7,a8⟩:=He.ba a6;obtain⟨b1,b2⟩:=He.ba (bJ.mp a8 t ht);exact⟨aR b1,b2⟩
def fldT(l:List (Nat×Str)):Nat->Str->Bool:=λc f=>l.any λp=>p.1 == c && decide (p.2=f)
theorem zzo{lm:Nat->LamI}{ce:List (Str×Addr)}{tb:Str->Addr}{K:yF}{nm:Nat->Str}{l:List (Nat×Str)}(h:MN K nm l=true):FT ⟨K,λc=>He.ga K (nm c),lm,ce,tb⟩ (fldT l):=by
 refine⟨λc f e=>?_⟩;obtain⟨p,hp,e⟩:=bO.mp e;obtain⟨e1,e2⟩:=He.ba e;have e1:=beq_iff_eq.mp e1;have e2:=aR e2;subst e1 e2;obtain⟨a1,a2⟩:=He.ba (bJ.mp h p hp);exact⟨He.cls_ok a1,He.noat_ok a2⟩
theorem ztx{K:yF}{x f:Str}(h:MP K x f=true):PropOf K (He.ga K x) f (He.ma K (He.ga K x) f) (wfA "property" x f K):=by
 obtain⟨h1,h2⟩:=He.ba h;obtain⟨h3,h4⟩:=He.ba h2;obtain⟨h5,h6⟩:=He.ba h4;refine⟨He.eqO_ok h1,He.eqO_ok h3,aR h5,?_⟩;unfold wfA;cases q:PySem.W.recIn K (He.ma K (He.ga K x) f) "property" with
 |none=>rw[q] at h6;cases h6
 |some l=>
  cases l with
  |nil=>rw[q] at h6;cases h6
  |cons a r=>
   cases a with
   |ref g=>exact⟨r,rfl⟩
   |_=>rw[q] at h6;cases h6
theorem zu6{K:yF}{x f:Str}{v:V}(h:konB K x f v=true):∃u,ClX.CRead K (He.ga K x) (.type "type")∧ClX.CVal K (He.ga K x) (.type "type") f v u∧Cls K (He.ga K x)∧Con K (He.ga K x) f v u:=by iterate
 obtain⟨h1,h2⟩:=He.ba h;obtain⟨h3,h4⟩:=He.ba h2;obtain⟨h5,h6⟩:=He.ba h4;obtain⟨h7,h8⟩:=He.ba h6;have h7:PySem.W.copiedNames.contains f=false:=by simpa using h7
 cases q:PySem.W.findCls K (.ref (He.ga K x)) (.type "type") f with
 |none=>rw[q] at h8;cases h8
 |some g=>
  cases g with
  |val u=>
   cases q2:PySem.W.findIn K (.ref (He.ga K x)) f with
   |none=>rw[q,q2] at h8;cases h8
   |some o=>
    cases o with
    |none=>rw[q,q2] at h8;cases h8
    |some u'=>
     rw[q,q2] at h8;obtain⟨e1,e2⟩:=He.ba h8;obtain⟨e3,e4⟩:=He.ba e2;have e1:=aR e1;subst e1;exact⟨u,⟨h1,He.eqO_ok h3⟩,⟨q,He.relB_ok e3⟩,He.cls_ok h5,⟨q2,He.relB_ok e3,He.eqO_ok e4,h7⟩⟩
  |_=>rw[q] at h8;cases h8
def konT(l:List (Nat×Str×D)):Nat->Str->Option D:=λc f=>(l.find? λp=>p.1 == c && decide (p.2.1=f)).map λp=>p.2.2
theorem zva{lm:Nat->LamI}{ce:List (Str×Addr)}{tb:Str->Addr}{K:yF}{nm:Nat->Str}{l:List (Nat×Str×D)}(h:MT K nm l=true):KonT ⟨K,λc=>He.ga K (nm c),lm,ce,tb⟩ (konT l):=by iterate
 refine⟨λc f d e=>?_⟩;obtain⟨p,hp,e9⟩:=aW.mp (show((l.find? λp=>p.1 == c && decide (p.2.1=f)).map λp=>p.2.2)=some d from e)
 clear e;have e1:(p.1 == c && decide (p.2.1=f))=true:=by simpa using List.find?_some hp
 have mem:=List.mem_of_find?_eq_some hp;clear hp;obtain⟨e2,e3⟩:=He.ba e1;clear e1;have e2:=beq_iff_eq.mp e2;have e3:=aR e3;subst e2 e3 e9;have a:=bJ.mp h p mem;cases q:p.2.2.sc with
 |none=>rw[q] at a;cases a
 |some v=>
  rw[q] at a;obtain⟨u,k1,k2,k3,k4⟩:=zu6 a;refine⟨v,u,k1,k2,k3,k4,λR F=>?_⟩;cases h:p.2.2 with
  |non=>rw[h] at q;cases q;exact sY
  |bl b=>rw[h] at q;cases q;exact eV
  |int b=>rw[h] at q;cases q;exact dY
  |str b=>rw[h] at q;cases q;exact jg
  |_=>rw[h] at q;cases q
def obsY(chk:yF->Bool)(fn:List He5.DefA)(K:yF):He.AlD:=(chk K && fn.all λd=>d.ok K,fn.map λd=>He5.fnA K (d.at_ K))
def jm(chk:yF->Bool)(fn:List He5.DefA)(K:yF):Prop:=obsY chk fn K=He5.valA fn
theorem jm.chk{chk:yF->Bool}{fn:List He5.DefA}{K:yF}(c:jm chk fn K):chk K=true:=
 (Bool.and_eq_true_iff.mp (congrArg (λz:He.AlD=>z.1) c)).1
theorem jm.fn{chk:yF->Bool}{fn:List He5.DefA}{K:yF}(c:jm chk fn K)(i:Nat){d:He5.DefA}(h:fn[i]? = some d) :
  ∃fd,FunD K d.name d.qual d.params d.body d.scope (d.dvs K) (d.kws K) (d.at_ K) fd:=by
 have h1:=(Bool.and_eq_true_iff.mp (congrArg (λz:He.AlD=>z.1) c)).2;have h2:(fn.map λd=>He5.fnA K (d.at_ K))=fn.map He5.DefA.val:=congrArg (λz:He.AlD=>z.2) c
 have e:He5.fnA K (d.at_ K)=d.val:=by
  have z:=congrArg (λl=>l[i]?) h2;simp only[List.getElem?_map,h,Option.map_some] at z;exact aZ z
 exact He5.DefA.funD e (bJ.mp h1 d (aY h))
end
section
section
variable{Γ:Gm}{W:WX}{X:Cx}{k n:Nat}{f:Addr}{fd:FuncData}{ps:List Str}{mn:Str}{pos apos:Pos}{e o:Expr}{es:List Expr}{kws:List Keyword}{co:M Rv}{cs ck:M (List D)}{m:List D->List Sl->Res Rv}{gD:List D->List D->List D}{pl:Sem Bool}{c:Nat}
theorem jL(ks:List Str){j:Nat}(hj:ks.length=j)(he:PE X o (tM Γ W co))(cl:Cls X.K (Γ.cA c))(hm:Meth X.K (Γ.cA c) mn f)(F:FnOk X.prog X.w X.K X.mg X.base (L2.CX X.prog X.w) k f fd ps (spM Γ ps.length m))(hr:Room k X.A)(hb:d9 Γ X.K fd ps 1 ks gD)(tk:Takes X W)(hkw:PK X kws (tMl Γ W ck))
  (hall:(backToKw pos (keywordEach kws X.env)).all (·.1.isSome)=true) (hks:(backToKw pos (keywordEach kws X.env)).filterMap (·.1)=ks)
  (hpl:((backTo pos (starEach [] X.env)).any (·.1) ||(backToKw pos (keywordEach kws X.env)).any (·.1.isNone))=false)
  (ht:eval (.Call (.Attribute o mn apos) [] kws pos) X.env=(do
   let ov <-eval o X.env
   standAt apos.atName
   let (f,first) <-holding [ov] (getMethod ov mn pl)
   callWith pos f first (backTo pos (starEach [] X.env)) (backToKw pos (keywordEach kws X.env)))) :
  PE X (.Call (.Attribute o mn apos) [] kws pos) (tM Γ W (gY c mn m 0 j gD co cG ck)):=by
 subst hj;exact zqo he cl hm F hr hb tk hkw hall hks hpl ht
end
theorem jn{K:yF}{fd:FuncData}{ps:List Str}(h:∀(s:Shared) (us:List Value),us.length=ps.length->BindsTo s fd ⟨us,[]⟩ (ps.zip us)):Binds K fd ps []:=λs us _ hl=>by
 rw[aN] at hl ⊢;exact h s us hl
/-- a check by its row -/
theorem cQ{l:List Bool}(c:(l.all λb=>b)=true)(i:Nat){b:Bool}(h:l[i]? = some b):b=true:=bJ.mp c b (aY h)
end
section
/-- what is walked: items known ahead,or the list at k of the store -/
inductive Src where
  |its (ds:List D)|ob (k:Nat)
structure WalkO(Γ:Gm)(J:It)(k:Nat)(a:Addr)(f:Nat->D->D):Prop where
  go:∀i (w:Wd) (ρ S:List Sl) (σ:L2.St) xs d,Rel Γ w ρ S σ->S[k]? = some (.lst xs)->xs[i]? = some d->w.R[k]? = some a->J.go i w.H∧∀x H',J.yld i w.H x H'->∃w',w'.H=H'∧Ext w w'∧w'.E=w.E∧w'.C=w.C∧w'.R=w.R∧Good w'∧Rep Γ w'.R w'.F (f i d) x
  stop:∀i (w:Wd) (ρ S:List Sl) (σ:L2.St) xs,Rel Γ w ρ S σ->S[k]? = some (.lst xs)->w.R[k]? = some a->xs.length≤i->J.stop i w.H
def lF(f:Nat->D->D)(g:Tgt)(b:M Fl)(k:Nat):Nat->Nat->M Fl
 |0,_=>λ_ _=>.bad
 |n+1,i=>λρ S=>match S[k]? with
  |some (.lst xs)=>(match xs[i]? with
   |none=>.ok .nx ρ S false
   |some d=>(match eX g (f i d) ρ with
    |none=>.bad
    |some ρ1=>match b ρ1 S with
     |.ok .nx ρ2 S2 _=>lF f g b k n (i+1) ρ2 S2
     |.ok .ct ρ2 S2 _=>lF f g b k n (i+1) ρ2 S2
     |.ok .bk ρ2 S2 _=>.ok .nx ρ2 S2 false
     |.ok (.rt r) ρ2 S2 _=>.ok (.rt r) ρ2 S2 false
     |.ex x ρ2 S2=>.ex x ρ2 S2
     |.bad=>.bad))
  |_=>.bad
def jo(k:Nat)(S:List Sl):Nat:=match S[k]? with
 |some (.lst xs)=>xs.length+1
 |_=>0
def jM(f:Nat->D->D)(ci:M Src)(g:Tgt)(b:M Fl):M Fl:=λρ S=>match ci ρ S with
 |.ok (.its ds) ρ S _=>forM g b ds ρ S
 |.ok (.ob k) ρ S _=>lF f g b k (jo k S) 0 ρ S
 |.ex x ρ S=>.ex x ρ S
 |.bad=>.bad
section
variable(Γ:Gm)(W:WX)(f:Nat->D->D)
def CKs(w:Wd)(σ:L2.St)(Q:It->Hp->Prop):Res Src->Prop
 |.ok (.its ds) ρ' S' _=>∀w' J I,Ext w w'->Rel Γ w' ρ' S' σ->I w'->Walk Γ J ds I->Q J w'.H
 |.ok (.ob k) ρ' S' _=>∀w' J a,Ext w w'->Rel Γ w' ρ' S' σ->w'.R[k]? = some a->WalkO Γ J k a f->Q J w'.H
 |.ex x ρ' S'=>∀w' cls d,Ext w w'->Rel Γ w' ρ' S' σ->XOk Γ w' x cls d->W cls d σ w'.H
 |.bad=>False
def tIO(c:M Src):TI:=λσ H Q=>∃F E C R ρ S,Rel Γ ⟨F,E,C,R,H⟩ ρ S σ∧CKs Γ W f ⟨F,E,C,R,H⟩ σ Q (c ρ S)
end
section
variable{X:Cx}{Γ:Gm}{W:WX}{P:List Nat}{tg iter:Expr}{body:List Stmt}{ci:M Src}{b:M Fl}{g:Tgt}{t:TG}{pos:Pos}{f:Nat->D->D}
theorem iH{w w':Wd}{k:Nat}{a:Addr}(x:Gr w.R w'.R w.F w'.F)(h:w.R[k]? = some a):w'.R[k]? = some a:=by
 obtain⟨m,e⟩:=x.r;rw[e,bu (bx.mp h).1];exact h
theorem zov(ht:TgOk Γ t g)(hP:∀j∈P,j∉g.slots){D:Ends}{σ:L2.St}{H:Hp}(h:tS Γ W P (jM f ci g b) D σ H):tFor (tIO Γ W f ci) t (tS Γ W P b) D σ H:=by iterate
 obtain⟨F,E,C,R,ρ,S,rel,sk⟩:=h;unfold jM at sk;cases q:ci ρ S with
 |bad=>refine⟨F,E,C,R,ρ,S,rel,?_⟩;rw[q] at sk ⊢;exact sk
 |ex y ρ1 S1=>refine⟨F,E,C,R,ρ,S,rel,?_⟩;rw[q] at sk ⊢;exact λw2 cls d x2 R2 o2=>sk w2 σ cls d x2 .refl R2 o2
 |ok src ρ1 S1 t1=>
  cases src with
  |its ds=>
   have z:tFor (tI Γ W (λρ S=>match ci ρ S with|.ok (.its ds) ρ S t=>.ok ds ρ S t|.ex x ρ S=>.ex x ρ S|_=>.bad)) t (tS Γ W P b) D σ H:=
    N5 ht hP ⟨F,E,C,R,ρ,S,rel,by unfold cFor;simp only[q] at sk ⊢;exact sk⟩
   obtain⟨F',E',C',R',ρ',S',rel',ck⟩:=z;refine⟨F',E',C',R',ρ',S',rel',?_⟩;cases q2:ci ρ' S' with
   |bad=>simp only[q2] at ck;exact ck
   |ex y ρ2 S2=>simp only[q2] at ck;exact ck
   |ok src ρ2 S2 t2=>
    cases src with
    |its ds=>simp only[q2] at ck;exact ck
    |ob k=>simp only[q2] at ck;exact ck.elim
  |ob k=>
   refine⟨F,E,C,R,ρ,S,rel,?_⟩;rw[q] at sk ⊢;simp only at sk;intro w1 J a0 x1 rel1 root1 walk;refine⟨λi m σ' H'=>∃w ρ S,w.H=H'∧Ext ⟨F,E,C,R,H⟩ w∧Pin P σ σ'∧Rel Γ w ρ S σ'∧w.R[k]? = some a0∧SK Γ W P ⟨F,E,C,R,H⟩ σ D (lF f g b k m i ρ S),
    ⟨jo k S1,w1,ρ1,S1,rfl,x1,.refl,rel1,root1,sk⟩,?_⟩
   rintro i m σ2 H2 ⟨w2,ρ2,S2,eH,x2,p2,rel2,root2,sk2⟩;subst eH;cases m with
   |zero=>exact sk2.elim
   |succ m=>
    simp only[lF] at sk2;cases q1:S2[k]? with
    |none=>simp only[q1] at sk2;exact sk2.elim
    |some s=>
     cases s with
     |lst xs=>
      simp only[q1] at sk2;cases q4:xs[i]? with
      |none=>
       simp only[q4] at sk2;exact .inl ⟨walk.stop i w2 ρ2 S2 σ2 xs rel2 q1 root2 (by simpa using q4),sk2 w2 σ2 x2 p2 rel2⟩
      |some d=>
       simp only[q4] at sk2;obtain⟨go,turn⟩:=walk.go i w2 ρ2 S2 σ2 xs d rel2 q1 q4 root2;refine .inr ⟨go,λσ' H'=>∃w ρ S,w.H=H'∧Ext ⟨F,E,C,R,H⟩ w∧Pin P σ σ'∧Rel Γ w ρ S σ'∧w.R[k]? = some a0∧SK Γ W P ⟨F,E,C,R,H⟩ σ D (lF f g b k m (i+1) ρ S),λσ' H' z=>⟨m,by omega,z⟩,λx H' y=>?_⟩;obtain⟨w3,eH3,x3,eE,eC,eR,g3,r3⟩:=turn x H' y;subst eH3;have rel3:=rel2.move x3.gr g3 eE eC eR;cases q2:eX g (f i d) ρ2 with
       |none=>simp only[q2] at sk2;exact sk2.elim
       |some ρ3=>
        simp only[q2] at sk2;refine ht w3 ρ2 S2 σ2 _ x ρ3 _ rel3 r3 q2 λw4 σ4 eH4 x4 eF4 eR4 rel4 same len=>?_;have p4:Pin P σ σ4:=p2.trans λj hj=>same j (hP j hj);have x04:=(x2.trans x3).trans x4;have root4:=iH x4.gr (iH x3.gr root2);refine⟨w4.F,w4.E,w4.C,w4.R,ρ3,S2,rel4,?_⟩;cases q3:b ρ3 S2 with
        |bad=>simp only[q3] at sk2;exact sk2
        |ex y ρ5 S5=>
         simp only[q3] at sk2;exact λw5 σ5 cls d x5 p5 r5 o5=>sk2 w5 σ5 cls d (x04.trans x5) (p4.trans p5) r5 o5
        |ok fl ρ5 S5 t5=>
         simp only[q3] at sk2;cases fl with
         |nx=>exact λw5 σ5 x5 p5 rel5=>⟨w5,ρ5,S5,rfl,x04.trans x5,p4.trans p5,rel5,iH x5.gr root4,sk2⟩
         |ct=>exact λw5 σ5 x5 p5 rel5=>⟨w5,ρ5,S5,rfl,x04.trans x5,p4.trans p5,rel5,iH x5.gr root4,sk2⟩
         |bk=>exact λw5 σ5 x5 p5 r5=>sk2 w5 σ5 (x04.trans x5) (p4.trans p5) r5
         |rt r=>exact λw5 σ5 v x5 p5 r5 o5=>sk2 w5 σ5 v (x04.trans x5) (p4.trans p5) r5 (o5.base x04)
     |_=>simp only[q1] at sk2;exact sk2.elim
theorem Q7(hp:PassesOwn (model X.prog X.w) X.A X.env X.xe)(hc:X.calm=true)(hi:PI X tg iter (tIO Γ W f ci))(hg:PG X tg t)(ht:TgOk Γ t g)(hP:∀j∈P,j∉g.slots)(hb:PSs X body (tS Γ W P b))(hs:∀x,foldedSetIterable iter X.env x=pure x) :
  PS X (.For tg iter body [] pos) (tS Γ W P (jM f ci g b)):=(ps_for hp hc hi hg hb hs).imp λ_ _ _ h=>zov ht hP h
def iW(f:Nat->D->D)(vs:List Nat)(g:Tgt)(t:M Bool)(c:M Rv)(k:Nat):Nat->Nat->List D->M (List D)
 |0,_,_=>λ_ _=>.bad
 |n+1,i,acc=>λρ S=>match S[k]? with
  |some (.lst xs)=>(match xs[i]? with
   |none=>.ok acc ρ S false
   |some d=>(match eX g (f i d) ρ with
    |none=>.bad
    |some ρ1=>match t ρ1 S with
     |.ok true ρ2 S2 _=>(match cD c ρ2 S2 with
      |.ok d' ρ3 S3 _=>if acc.length<sizeLine then iW f vs g t c k n (i+1) (acc++[d']) (dC ρ3 vs) S3 else .bad
      |_=>.bad)
     |.ok false ρ2 S2 _=>iW f vs g t c k n (i+1) acc (dC ρ2 vs) S2
     |_=>.bad))
  |_=>.bad
def ul(r:Res (List D)):Res Rv:=match r with
 |.ok acc ρ2 S2 _=>.ok (.fr (.lst acc)) ρ2 S2 true
 |_=>.bad
def cLcO(f:Nat->D->D)(ci:M Src)(vs:List Nat)(g:Tgt)(t:M Bool)(c:M Rv):M Rv:=λρ S=>match ci ρ S with
 |.ok (.its ds) ρ1 S1 _=>ul (gj vs g t c ds [] (dC ρ1 vs) S1)
 |.ok (.ob k) ρ1 S1 _=>ul (iW f vs g t c k (jo k S1) 0 [] (dC ρ1 vs) S1)
 |.ex x ρ1 S1=>.ex x ρ1 S1
 |.bad=>.bad
variable{elt:Expr}{vs:List Nat}{tt:M Bool}{c:M Rv}
theorem Q8(ht:TgOk Γ t g)(hv:∀j∈g.slots,j∈vs){σ:L2.St}{H:Hp}{Q:VK}(h:tM Γ W (cLcO f ci vs g tt c) σ H Q):tLc (tIO Γ W f ci) t (tMb Γ W0 tt) (tM Γ W0 c) vs σ H Q:=by iterate
  obtain⟨F,E,C,R,ρ,S,rel,ck⟩:=h;unfold cLcO at ck;cases q:ci ρ S with
  |bad=>refine⟨F,E,C,R,ρ,S,rel,?_⟩;rw[q] at ck ⊢;exact ck
  |ex y ρ1 S1=>refine⟨F,E,C,R,ρ,S,rel,?_⟩;rw[q] at ck ⊢;exact ck
  |ok src ρ1 S1 t1=>
    cases src with
    |its ds=>
      have z:tLc (tI Γ W (λρ S=>match ci ρ S with|.ok (.its ds) ρ S t=>.ok ds ρ S t|.ex x ρ S=>.ex x ρ S|_=>.bad)) t (tMb Γ W0 tt) (tM Γ W0 c) vs σ H Q:=
        N7 ht hv ⟨F,E,C,R,ρ,S,rel,by unfold cLc;simp only[q] at ck ⊢;exact ck⟩
      obtain⟨F',E',C',R',ρ',S',rel',ck2⟩:=z;refine⟨F',E',C',R',ρ',S',rel',?_⟩;cases q2:ci ρ' S' with
      |bad=>simp only[q2] at ck2;exact ck2
      |ex y ρ2 S2=>simp only[q2] at ck2;exact ck2
      |ok src ρ2 S2 t2=>
        cases src with
        |its ds=>simp only[q2] at ck2;exact ck2
        |ob k=>simp only[q2] at ck2;exact ck2.elim
    |ob k=>
      refine⟨F,E,C,R,ρ,S,rel,?_⟩;rw[q] at ck ⊢;simp only at ck;intro w1 J a0 x1 rel1 root1 walk Dd hD;have n0:H Dd=none:=x1.none_of hD;obtain⟨w2,eH2,x2,rel2,_,_⟩:=rel1.wipe vs;refine⟨λi m H'=>∃w ρ S accD acc,w.H=H'∧Ext ⟨F,E,C,R,H⟩ w∧Rel Γ w (dC ρ vs) S (L2.wipe σ vs)∧w.R[k]? = some a0∧Hid Dd (.lst acc) w∧RepL Γ w.R w.F accD acc ∧
          CK Γ W ⟨F,E,C,R,H⟩ σ Q (ul (iW f vs g tt c k m i accD (dC ρ vs) S)),⟨jo k S1,?_⟩,?_⟩
      · have hD2 : w2.H Dd = none := by rw [eH2]; exact hD
        obtain⟨f1,f2⟩:=rel2.good.none_of hD2;refine⟨{ w2 with H:=upd w2.H Dd (.lst []) },ρ1,S1,[],[],by rw[eH2],(x1.trans x2).trans (.new rel2.good hD2),rel2.move .refl (.new rel2.good hD2) rfl rfl rfl,?_,⟨upd_same,f1,f2⟩,by rw[RepL],ck⟩
        exact iH (w':={ w2 with H:=upd w2.H Dd (.lst []) }) x2.gr root1
      · rintro i m H2 ⟨w3, ρ3, S3, accD, acc, eH, x3, rel3, root3, hid, racc, ck3⟩
        subst eH;cases m with
        |zero=>exact ck3.elim
        |succ m=>
          simp only[iW] at ck3;cases q1:S3[k]? with
          |none=>simp only[q1] at ck3;exact ck3.elim
          |some s=>
            cases s with
            |lst xs=>
              simp only[q1] at ck3;cases q0:xs[i]? with
              |none=>
                simp only[q0] at ck3;refine .inl ⟨walk.stop i w3 _ S3 _ xs rel3 q1 root3 (by simpa using q0),?_⟩;refine ck3 w3 (.ref Dd) x3 (λz=>nomatch z) rel3.unwipe ⟨[(Dd,.lst acc)],?_,⟨λp hp=>?_,by simp⟩,λp hp=>?_⟩
                · rw[Own];exact⟨Dd,acc,rfl,racc,rfl⟩
                · have e : p = (Dd, .lst acc) := by simpa using hp
                  subst e;exact⟨hid.h,hid.f,hid.n⟩
                · have e : p = (Dd, .lst acc) := by simpa using hp
                  subst e;exact .inl n0
              |some d=>
                simp only[q0] at ck3;obtain⟨go,turn⟩:=walk.go i w3 _ S3 _ xs d rel3 q1 q0 root3;refine .inr ⟨go,λH'=>∃w ρ S accD acc,w.H=H'∧Ext ⟨F,E,C,R,H⟩ w∧Rel Γ w (dC ρ vs) S (L2.wipe σ vs)∧w.R[k]? = some a0∧Hid Dd (.lst acc) w∧RepL Γ w.R w.F accD acc ∧
                  CK Γ W ⟨F,E,C,R,H⟩ σ Q (ul (iW f vs g tt c k m (i+1) accD (dC ρ vs) S)),λH' z=>⟨m,by omega,z⟩,λx H' y=>?_⟩
                obtain⟨w4,eH4,x4,eE,eC,eR,g4,r4⟩:=turn x H' y;subst eH4;have rel4:=rel3.move x4.gr g4 eE eC eR;cases q2:eX g (f i d) (dC ρ3 vs) with
                |none=>simp only[q2] at ck3;exact ck3.elim
                |some ρ5=>
                  simp only[q2] at ck3;refine ht w4 _ S3 _ _ x ρ5 _ rel4 r4 q2 λw5 σ5 eH5 x5 eF5 eR5 rel5 same len=>⟨?_,?_⟩
                  · rw [jD (σ := L2.wipe σ vs) len fun j hj => same j fun z => hj (hv j z)]
                    exact jD (by rw[wipe_length]) λj hj=>jC hj
                  · have ew:L2.wipe σ5 vs=L2.wipe σ vs:=by
                      rw[jD (σ:=L2.wipe σ vs) len λj hj=>same j λz=>hj (hv j z)];exact jD (by rw[wipe_length]) λj hj=>jC hj
                    have x05:=(x3.trans x4).trans x5;have i5:=iH x5.gr (iH x4.gr root3);have hid5:=(hid.up (λ_ z=>nomatch z) x4).up (λ_ z=>nomatch z) x5;have racc5:=fQ x5.gr (fQ x4.gr racc);refine⟨w5.F,w5.E,w5.C,w5.R,ρ5,S3,rel5,?_⟩;cases q3:tt ρ5 S3 with
                    |bad=>simp only[q3] at ck3;exact ck3
                    |ex y ρ6 S6=>simp only[q3] at ck3;exact ck3.elim
                    |ok kk ρ6 S6 t6=>
                      intro w6 x6 _ rel6;have x06:=x05.trans x6;have i6:=iH x6.gr i5;have hid6:=hid5.up (λ_ z=>nomatch z) x6;have racc6:=fQ x6.gr racc5;cases kk with
                      |false=>
                        simp only[q3] at ck3;rw[if_neg Bool.false_ne_true];obtain⟨w7,eH7,x7,rel7,_,_⟩:=rel6.wipe vs;rw[ew] at rel7;exact⟨w7,ρ6,S6,accD,acc,eH7,x06.trans x7,rel7,iH x7.gr i6,hid6.up (λ_ z=>nomatch z) x7,fQ x7.gr racc6,ck3⟩
                      |true=>
                        simp only[q3] at ck3;rw[if_pos rfl];refine⟨w6.F,w6.E,w6.C,w6.R,ρ6,S6,rel6,?_⟩;cases q4:cD c ρ6 S6 with
                        |bad=>simp only[q4] at ck3;exact ck3.elim
                        |ex y ρ7 S7=>simp only[q4] at ck3;exact ck3.elim
                        |ok d7 ρ7 S7 t7=>
                          simp only[q4] at ck3;refine oG q4 λw7 v x7 rel7 r7=>?_;have hid7:=hid6.up (λ_ z=>nomatch z) x7;have racc7:=fQ x7.gr racc6
                          by_cases hl:accD.length<sizeLine
                          · simp only [if_pos hl] at ck3
                            refine⟨acc,hid7.h,by rw[<-racc7.length];exact hl,?_⟩;obtain⟨x8,rel8,hid8⟩:=hid7.put (o':=.lst (acc++[v])) (x06.trans x7) n0 rel7;obtain⟨w9,eH9,x9,rel9,_,_⟩:=rel8.wipe vs;rw[ew] at rel9;exact⟨w9,ρ7,S7,accD++[d7],acc++[v],eH9,x8.trans x9,rel9,iH (w:=w7) (w':=w9) x9.gr (iH x7.gr i6),hid8.up (λ_ z=>nomatch z) x9,
                              (racc7.app (ys:=[d7]) (ys':=[v]) (by rw[RepL];exact⟨v,[],rfl,r7,by rw[RepL]⟩)).up x9.gr,ck3⟩
                          · simp only [if_neg hl] at ck3
                            exact ck3.elim
            |_=>simp only[q1] at ck3;exact ck3.elim
section
variable{scope:Scope}{own:List (Str×Nat)}{ifs:List Expr}
theorem qG(hc:X.calm=true)(hN:X.N.Nodup)(hi:PI X tg iter (tIO Γ W f ci))(ok:BlkOk X.N X.env.scope scope own)(ht:TgOk Γ t g)(hv:∀j∈g.slots,j∈own.map (·.2))
  (hg:∀(s:Shared) (H:Hp) (C:Addr) (cl:List (Str×Addr)) (fp:List Addr),PG (X.blk s H scope (compEnvC scope cl C X.env) fp) tg t) (hts:∀(s:Shared) (H:Hp) (C:Addr) (cl:List (Str×Addr)) (fp:List Addr),PTs (X.blk s H scope (compEnvC scope cl C X.env) fp) ifs (tMb Γ W0 tt))
  (he:∀(s:Shared) (H:Hp) (C:Addr) (cl:List (Str×Addr)) (fp:List Addr),PE (X.blk s H scope (compEnvC scope cl C X.env) fp) elt (tM Γ W0 c)) (hs:∀x,foldedSetIterable iter X.env x=pure x) :
  PE X (.ListComp elt [⟨tg,iter,ifs,0⟩] scope pos) (tM Γ W (cLcO f ci (own.map (·.2)) g tt c)):=
 (pe_lc hc hN hi ok hg hts he hs).imp λ_ _ _ h=>Q8 ht hv h
theorem zmd{y:Str}{i:Nat}{own':Bool}{spos py:Pos}(hc:X.calm=true)(hN:X.N.Nodup)(hy:X.N[i]? = some y)(hyl:X.env.scope.names.lookup y=some .local)(hp:i∉P)
  (hsw:swapsWith (.ListComp elt [⟨tg,iter,ifs,0⟩] scope pos) (some (.Name y py)) spos.line X.env=pure true) (hi:PI X tg iter (tIO Γ W f ci)) (ok:BlkOk X.N X.env.scope scope own) (ht:TgOk Γ t g) (hv:∀j∈g.slots,j∈own.map (·.2))
  (hg:∀(s:Shared) (H:Hp) (C:Addr) (cl:List (Str×Addr)) (fp:List Addr),PG (X.blk s H scope (compEnvC scope cl C X.env) fp) tg t) (hts:∀(s:Shared) (H:Hp) (C:Addr) (cl:List (Str×Addr)) (fp:List Addr),PTs (X.blk s H scope (compEnvC scope cl C X.env) fp) ifs (tMb Γ W0 tt))
  (he:∀(s:Shared) (H:Hp) (C:Addr) (cl:List (Str×Addr)) (fp:List Addr),PE (X.blk s H scope (compEnvC scope cl C X.env) fp) elt (tM Γ W0 c)) (hs:∀x,foldedSetIterable iter X.env x=pure x) :
  PS X (.Assign [.Name y py] (.ListComp elt [⟨tg,iter,ifs,0⟩] scope pos) spos) (tS Γ W P (cSet own' i (cLcO f ci (own.map (·.2)) g tt c))):=
 (ps_setLc hc hN hy hyl hsw hi ok hg hts he hs).imp λD σ H ⟨F,E,C,R,ρ,S,rel,sk⟩=>Q8 (W:=W) ht hv ⟨F,E,C,R,ρ,S,rel,CK.bindS sk λr ρ1 S1 w1 v x1 rel1 o1 sk1=>NB hp x1 rel1 o1 sk1⟩
end
end
def srcR(S:List Sl):D->Option Src
 |.ob k=>match S[k]? with
  |some (.lst _)=>some (.ob k)
  |_=>none
 |d=>d.its.map .its
def gA(c:M Rv):M Src:=λρ S=>(cD c ρ S).bind λd ρ S=>match srcR S d with
 |some s=>.ok s ρ S false
 |none=>.bad
def jr(S:List Sl):List D->Option Src
 |[.ob k]=>match S[k]? with
  |some (.lst _)=>some (.ob k)
  |_=>none
 |ds=>(Bl ds).map .its
def zxd(cs:M (List D)):M Src:=λρ S=>(cs ρ S).bind λds ρ S=>match jr S ds with
 |some s=>.ok s ρ S false
 |none=>.bad
abbrev idF:Nat->D->D:=λ_ d=>d
section
variable{X:Cx}{Γ:Gm}{W:WX}{tg e:Expr}{c:M Rv}{cs:M (List D)}
/-- a list of the store as it stands -/
theorem Rel.obL{w:Wd}{ρ S:List Sl}{σ:L2.St}{k:Nat}{xs:List D}{a:Addr}(h:Rel Γ w ρ S σ)(q:S[k]? = some (.lst xs))(r:w.R[k]? = some a):∃ys,w.H a=some (.lst ys)∧RepL Γ w.R w.F xs ys:=by
 obtain⟨a1,A,B,b,h1,h2,h3,_⟩:=h.own.sto_at q;rw[r] at h1;cases h1;obtain⟨v,ev,ow⟩:=h3;rw[Own] at ow;obtain⟨a2,ys,e1,e2,e3⟩:=ow;cases ev;cases e1;subst e3;exact⟨ys,h.cellsH h2 (a,.lst ys) (by simp),e2⟩
theorem zms{K:yF}{k:Nat}{a:Addr}:WalkO Γ (Itl K a) k a idF where
 go:=λi w ρ S σ xs d rel q e r=>by
  obtain⟨ys,ha,l⟩:=rel.obL q r;obtain⟨v,h1,h2⟩:=l.get e;refine⟨⟨ys,v,SqL.of ha,h1⟩,λx H' ⟨e1,e2⟩=>?_⟩;subst e1;have z:=e2 ys (SqL.of ha);rw[h1] at z;cases z;exact⟨w,rfl,.refl w,rfl,rfl,rfl,rel.good,h2⟩
 stop:=λi w ρ S σ xs rel q r hl=>by
  obtain⟨ys,ha,l⟩:=rel.obL q r;exact⟨ys,SqL.of ha,by rw[<-l.length];exact hl⟩
theorem jN(hK:Γ.K=X.K)(h:PE X e (tM Γ W c)):PI X tg e (tIO Γ W idF (gA c)):=by iterate
 refine((wY (W:=W) (tg:=tg) hK h).or (pi_list h)).imp λσ H Q ⟨F,E,C,R,ρ,S,rel,ck⟩=>?_;unfold gA at ck;cases q:cD c ρ S with
 |bad=>rw[q] at ck;exact ck.elim
 |ex y ρ1 S1=>
  rw[q] at ck;exact .inl ⟨F,E,C,R,ρ,S,rel,by unfold cIts;rw[q];exact ck⟩
 |ok d ρ1 S1 t=>
  rw[q,Res.bind_ok] at ck;have plain:∀xs,d.its=some xs->srcR S1 d=some (.its xs)->tI Γ W (cIts c) σ H Q:=λxs e1 e2=>by
   simp only[e2] at ck;refine⟨F,E,C,R,ρ,S,rel,?_⟩;unfold cIts;rw[q,Res.bind_ok];simp only[e1];exact ck
  by_cases ho:∃k,d=.ob k
  ·obtain⟨k,rfl⟩:=ho;simp only[srcR] at ck;cases q1:S1[k]? with
   |none=>simp only[q1] at ck;exact ck.elim
   |some s=>
    cases s with
    |lst xs=>
     simp only[q1] at ck;refine .inr ⟨F,E,C,R,ρ,S,rel,oG q λw' v x r o=>?_⟩;rw[Rep] at o;obtain⟨a,e1,e2⟩:=o;obtain⟨ys,ha,l⟩:=r.obL q1 e1;exact⟨a,e2,⟨ys,SqL.of ha⟩,ck w' _ a x r e1 zms⟩
    |_=>simp only[q1] at ck;exact ck.elim
  ·have e2:srcR S1 d=d.its.map .its:=by
    cases d<;>first|rfl|exact absurd ⟨_,rfl⟩ ho
   cases q1:d.its with
   |none=>rw[e2,q1] at ck;exact ck.elim
   |some xs=>exact .inl (plain xs q1 (by rw[e2,q1];rfl))
end
end
section
abbrev XQ:=Exn->List Sl->List Sl->Prop
def wr{α:Type}(r:Res α)(Q:α->List Sl->List Sl->Prop)(E:XQ):Prop:=match r with
 |.ok a ρ S _=>Q a ρ S
 |.ex x ρ S=>E x ρ S
 |.bad=>False
def wp{α:Type}(c:M α)(ρ S:List Sl)(Q:α->List Sl->List Sl->Prop)(E:XQ):Prop:=wr (c ρ S) Q E
def wm(m:List D->List Sl->Res Rv)(ds:List D)(S:List Sl)(Q:Rv->List Sl->Prop)(E:Exn->List Sl->Prop):Prop:=wr (m ds S) (λr _ S=>Q r S) (λx _ S=>E x S)
/-- a call: the caller's frame stays -/
def wA(m:List D->List Sl->Res Rv)(ds:List D)(ρ S:List Sl)(Q:Rv->List Sl->List Sl->Prop)(E:XQ):Prop:=wm m ds S (λr S'=>Q r ρ S') (λx S'=>E x ρ S')
def wO{α:Type}(o:Option α)(P:α->Prop):Prop:=∃a,o=some a∧P a
def wO2{α β:Type}(o:Option (α×β))(P:α->β->Prop):Prop:=∃a b,o=some (a,b)∧P a b
def wC(r:Rv)(ρ S:List Sl)(P:D->Prop):Prop:=∃d,cont ρ S r=some d∧P d
def wCs(rs:List Rv)(ρ S:List Sl)(P:List D->Prop):Prop:=∃ds,fB ρ S rs=some ds∧P ds
def wB(r:Rv)(P:Bool->Prop):Prop:=∃b,r=.d (.bl b)∧P b
def wI(b:Bool)(p q:Prop):Prop:=if b=true then p else q
def wG(p q:Prop):Prop:=p∧q
def wF(r:Rv)(ρ S:List Sl)(Q:D->List Sl->List Sl->Prop):Prop:=wr (toD r ρ S) Q λ_ _ _=>False
def wV(r:Rv)(ρ S:List Sl)(Q:Rv->List Sl->List Sl->Prop):Prop:=wr (outR r ρ S) Q λ_ _ _=>False
def wS(own:Bool)(i:Nat)(r:Rv)(ρ S:List Sl)(Q:Fl->List Sl->List Sl->Prop):Prop:=wr (setS own i r ρ S) Q λ_ _ _=>False
def wN(f:Fl)(p:Prop)(q:Fl->Prop):Prop:=match f with
 |.nx=>p
 |f=>q f
def wP(r:Rv)(ρ S:List Sl)(P:Sl->Prop):Prop:=∃s,getP r ρ S=some s∧P s
def wU(r:Rv)(s:Sl)(ρ S:List Sl)(Q:List Sl->List Sl->Prop):Prop:=Q (putP r s ρ S).1 (putP r s ρ S).2
def wArg(l:List D)(P:List D->Prop):Prop:=P l
def wX{α:Type}(R:α->Prop)(P:α->Prop):Prop:=∃a,R a∧P a
def wSto(i:Nat)(r:Rv)(ρ S:List Sl)(Q:Fl->List Sl->List Sl->Prop):Prop:=wr (jE i r ρ S) Q λ_ _ _=>False
def lG(r:Rv)(ρ S:List Sl)(Q:Rv->List Sl->List Sl->Prop):Prop:=wr (stoR r ρ S) Q λ_ _ _=>False
def wPar(i j:Nat)(ds:List D)(ρ S:List Sl)(Q:Fl->List Sl->List Sl->Prop):Prop:=∃d e,ds=[d,e]∧i<ρ.length∧j<ρ.length∧Q .nx ((ρ.set i (.val d)).set j (.val e)) S
def uo(i j k:Nat)(ds:List D)(ρ S:List Sl)(Q:Fl->List Sl->List Sl->Prop):Prop:=∃d e f,ds=[d,e,f]∧i<ρ.length∧j<ρ.length∧k<ρ.length∧Q .nx (((ρ.set i (.val d)).set j (.val e)).set k (.val f)) S
def wEnd(f:Fl)(S:List Sl)(Q:Rv->List Sl->Prop):Prop:=match f with
 |.nx=>Q (.d .non) S
 |.rt r=>Q r S
 |_=>False
section
variable{α β:Type}{ρ ρ' S S' T xs ys:List Sl}{E:XQ}{s u:Sl}{i j n:Nat}
def nt(xs:List Sl)(i:Nat)(s:Sl):Prop:=xs[i]? = some s
def st(xs:List Sl)(i:Nat)(s:Sl)(ys:List Sl):Prop:=i<xs.length∧xs.set i s=ys
theorem nt_z:nt (s::xs) 0 s:=rfl
theorem nt_s(h:nt xs n s):nt (u::xs) (n+1) s:=by rw[nt,List.getElem?_cons_succ];exact h
theorem dw(h:nt xs n s):nt (T++xs) (T.length+n) s:=by rw[nt,List.getElem?_append_right (by omega),Nat.add_sub_cancel_left];exact h
theorem dD(h:nt xs 0 s):nt (T++xs) T.length s:=dw (n:=0) h
theorem st_z:st (u::xs) 0 s (s::xs):=⟨Nat.succ_pos _,rfl⟩
theorem st_s(h:st xs n s ys):st (u::xs) (n+1) s (u::ys):=⟨Nat.succ_lt_succ h.1,by rw[List.set_cons_succ,h.2]⟩
theorem uv(h:st xs n s ys):st (T++xs) (T.length+n) s (T++ys):=⟨by rw[aA];have:=h.1;omega,by rw[List.set_append_right _ _ (by omega),Nat.add_sub_cancel_left,h.2]⟩
theorem Bm(h:st xs 0 s ys):st (T++xs) T.length s (T++ys):=uv (n:=0) h
/-- a new thing at the store's end -/
def pu(S:List Sl)(s:Sl)(n:Nat)(S':List Sl):Prop:=S.length=n∧S++[s]=S'
theorem Bo:pu [] s 0 [s]:=⟨rfl,rfl⟩
theorem Bp(h:pu S s n S'):pu (u::S) s (n+1) (u::S'):=⟨by rw[aG,h.1],by rw[bQ,h.2]⟩
theorem Bq(h:pu S s n S'):pu (T++S) s (T.length+n) (T++S'):=⟨by rw[aA,h.1],by rw[aK,h.2]⟩
theorem Br:pu T s T.length (T++[s]):=⟨rfl,rfl⟩
theorem cP{r:Res α}{f:α->List Sl->List Sl->Res β}{Q:β->List Sl->List Sl->Prop}(h:wr r (λa ρ S=>wr (f a ρ S) Q E) E):wr (r.bind f) Q E:=by
 cases r with
 |ok a ρ S t=>
  have h:wr (f a ρ S) Q E:=h;show wr ((f a ρ S).addt t) Q E;cases q:f a ρ S with
  |ok b ρ S t=>rw[q] at h;exact h
  |ex x ρ S=>rw[q] at h;exact h
  |bad=>rw[q] at h;exact h
 |ex x ρ S=>exact h
 |bad=>exact h
theorem cM{r:Res α}{Q Q':α->List Sl->List Sl->Prop}{E':XQ}(h:wr r Q E)(k:∀a ρ S,Q a ρ S->Q' a ρ S)(k2:∀a ρ S,E a ρ S->E' a ρ S):wr r Q' E':=by
 cases r with
 |ok a ρ S t=>exact k _ _ _ h
 |ex x ρ S=>exact k2 _ _ _ h
 |bad=>exact h
theorem lH{r:Res α}{Q:α->List Sl->List Sl->Prop}(h:wr r Q λ_ _ _=>False):wr r Q E:=cM h (λ_ _ _ h=>h) λ_ _ _ h=>h.elim
theorem zxJ{m:List D->List Sl->Res Rv}{ds:List D}{Q Q':Rv->List Sl->Prop}{E:Exn->List Sl->Prop}(h:wm m ds S Q λ_ _=>False)(k:∀a S,Q a S->Q' a S):wm m ds S Q' E:=cM h (λa _ S h=>k a S h) λ_ _ _ h=>h.elim
theorem uw{m:List D->List Sl->Res Rv}{ds:List D}{Q:Rv->List Sl->Prop}{E:Exn->List Sl->Prop}{r:Rv}{t:Bool}(e:m ds S=.ok r ρ S' t)(h:Q r S'):wm m ds S Q E:=by rw[wm,e];exact h
theorem g8{m:List D->List Sl->Res Rv}{ds:List D}{Q:Rv->List Sl->List Sl->Prop}(h:wm m ds S (λr S'=>Q r ρ S') (λx S'=>E x ρ S')):wA m ds ρ S Q E:=h
theorem lJ{r:Res Rv}{Q:Rv->List Sl->List Sl->Prop}(h:wr r (λa _ S=>Q a ρ S) (λx _ S=>E x ρ S)):wr (r.at ρ) Q E:=by
 cases r<;>exact h
variable{P:D->Prop}
theorem ig{o:Option α}{P:α->Prop}{a:α}(e:o=some a)(h:P a):wO o P:=⟨a,e,h⟩
theorem Bs{a}(h:P (.int a)):wC (.d (.int a)) ρ S P:=⟨_,rfl,h⟩
theorem qH{a}(h:P (.str a)):wC (.d (.str a)) ρ S P:=⟨_,rfl,h⟩
theorem Bt{a}(h:P (.bl a)):wC (.d (.bl a)) ρ S P:=⟨_,rfl,h⟩
theorem Bu(h:P .non):wC (.d .non) ρ S P:=⟨_,rfl,h⟩
theorem Bv{a}(h:P (.ty a)):wC (.d (.ty a)) ρ S P:=⟨_,rfl,h⟩
theorem Bw{a}(h:P (.cl a)):wC (.d (.cl a)) ρ S P:=⟨_,rfl,h⟩
theorem Bx{a}(h:P (.lst a)):wC (.d (.lst a)) ρ S P:=⟨_,rfl,h⟩
theorem BJ{a}(h:P (.kl a)):wC (.d (.kl a)) ρ S P:=⟨_,rfl,h⟩
theorem BK{a}(h:P (.tup a)):wC (.d (.tup a)) ρ S P:=⟨_,rfl,h⟩
theorem BL{a}(h:P (.kt a)):wC (.d (.kt a)) ρ S P:=⟨_,rfl,h⟩
theorem zz6{a}(h:P (.dK a)):wC (.d (.dK a)) ρ S P:=⟨_,rfl,h⟩
theorem BP{c a}(h:P (.ins c a)):wC (.d (.ins c a)) ρ S P:=⟨_,rfl,h⟩
theorem BR{a}(h:P (.lst a)):wC (.fr (.lst a)) ρ S P:=⟨_,rfl,h⟩
theorem qI{a}(e:nt S j (.lst a))(h:P (.lst a)):wC (.d (.ob j)) ρ S P:=⟨.lst a,by have e:S[j]? = _:=e;simp only[cont,e],h⟩
theorem zv5{a}(e:nt S j (.dK a))(h:P (.dK a)):wC (.d (.ob j)) ρ S P:=⟨.dK a,by have e:S[j]? = _:=e;simp only[cont,e],h⟩
theorem BV{a}(e:nt ρ i (.lst a))(h:P (.lst a)):wC (.env i) ρ S P:=⟨.lst a,by have e:ρ[i]? = _:=e;simp only[cont,e];rfl,h⟩
theorem zuk{a}(e:nt ρ i (.dK a))(h:P (.dK a)):wC (.env i) ρ S P:=⟨.dK a,by have e:ρ[i]? = _:=e;simp only[cont,e];rfl,h⟩
theorem ztb{a}(e:nt ρ i (.dT a))(h:P (.dT a)):wC (.env i) ρ S P:=⟨.dT a,by have e:ρ[i]? = _:=e;simp only[cont,e];rfl,h⟩
theorem BW{P:List D->Prop}(h:P []):wCs [] ρ S P:=⟨_,rfl,h⟩
theorem BX{P:List D->Prop}{r:Rv}{rs:List Rv}(h:wC r ρ S λd=>wCs rs ρ S λds=>P (d::ds)):wCs (r::rs) ρ S P:=by
 obtain⟨d,e,ds,e2,h⟩:=h;exact⟨d::ds,by simp only[fB,e,e2],h⟩
theorem BZ{P:Bool->Prop}{b:Bool}(h:P b):wB (.d (.bl b)) P:=⟨b,rfl,h⟩
theorem wI_t{p q:Prop}(h:p):wI true p q:=by rw[wI,if_pos rfl];exact h
theorem wI_f{p q:Prop}(h:q):wI false p q:=by rw[wI,if_neg (by decide)];exact h
theorem Q9{b:Bool}{p q:Prop}(e:b=true)(h:p):wI b p q:=by rw[wI,if_pos e];exact h
theorem ux{b:Bool}{p q:Prop}(e:b=false)(h:q):wI b p q:=by rw[wI,e];exact h
theorem uz{c p q:Prop}[Decidable c](h1:c->p)(h2:¬c->q):wI (decide c) p q:=by
 by_cases h:c
 ·exact Q9 (aP h) (h1 h)
 ·exact ux (aQ h) (h2 h)
theorem zqc{b:Bool}{p q:Prop}(h1:b=true->p)(h2:b=false->q):wI b p q:=by
 cases b
 ·exact wI_f (h2 rfl)
 ·exact wI_t (h1 rfl)
theorem oU{p q:Prop}(h:p)(k:q):wG p q:=⟨h,k⟩
variable{QD:D->List Sl->List Sl->Prop}{QR:Rv->List Sl->List Sl->Prop}{QF:Fl->List Sl->List Sl->Prop}{QB:Bool->List Sl->List Sl->Prop}
theorem wF_d{d:D}(h:QD d ρ S):wF (.d d) ρ S QD:=h
theorem Ca{a}(h:QD (.lst a) ρ S):wF (.fr (.lst a)) ρ S QD:=h
theorem Ra{s:Sl}{d:D}(e:s.frz=d)(h:QD d ρ S):wF (.fr s) ρ S QD:=by subst e;exact h
theorem Rb{s:Sl}(e:nt ρ i s)(o:s.own? = true)(e2:st ρ i (.val s.frz) ρ')(h:QD s.frz ρ' S):wF (.env i) ρ S QD:=by
 have e:ρ[i]? = some s:=e;obtain⟨_,rfl⟩:=e2;simp only[wF,toD,e,o,if_true];exact h
theorem wV_d{d:D}(h:QR (.d d) ρ S):wV (.d d) ρ S QR:=h
theorem Cd{s:Sl}(h:QR (.fr s) ρ S):wV (.fr s) ρ S QR:=h
theorem Ce{s:Sl}(e:nt ρ i s)(o:s.own? = true)(e2:st ρ i .emp ρ')(h:QR (.fr s) ρ' S):wV (.env i) ρ S QR:=by
 have e:ρ[i]? = some s:=e;obtain⟨_,rfl⟩:=e2;simp only[wV,outR,e,o,if_true];exact h
theorem wS_d{own:Bool}{d:D}(e:st ρ i (.val d) ρ')(h:QF .nx ρ' S):wS own i (.d d) ρ S QF:=by
 obtain⟨l,rfl⟩:=e;have:setS own i (.d d) ρ S=.ok .nx (ρ.set i (.val d)) S (false ||false):=by
  cases own<;>simp only[setS,toD,Res.bind,if_pos l,Res.addt]
 rw[wS,this];exact h
theorem Cg{s:Sl}(e:st ρ i s ρ')(h:QF .nx ρ' S):wS true i (.fr s) ρ S QF:=by
 obtain⟨l,rfl⟩:=e;simp only[wS,setS,if_pos l];exact h
theorem Ci{s:Sl}{d:D}(e0:s.frz=d)(e:st ρ i (.val d) ρ')(h:QF .nx ρ' S):wS false i (.fr s) ρ S QF:=by
 obtain⟨l,rfl⟩:=e;subst e0;simp only[wS,setS,toD,Res.bind,if_pos l,Res.addt];exact h
theorem Cj{a}(e:st ρ i (.val (.lst a)) ρ')(h:QF .nx ρ' S):wS false i (.fr (.lst a)) ρ S QF:=Ci rfl e h
theorem Rc{ρ1:List Sl}{s:Sl}(e0:nt ρ j s)(o:s.own? = true)(e1:st ρ j (.val s.frz) ρ1)(e:st ρ1 i (.val s.frz) ρ')(h:QF .nx ρ' S){own:Bool}:wS own i (.env j) ρ S QF:=by
 have e0:ρ[j]? = some s:=e0;obtain⟨l1,rfl⟩:=e1;obtain⟨l,rfl⟩:=e;have:setS own i (.env j) ρ S=.ok .nx ((ρ.set j (.val s.frz)).set i (.val s.frz)) S (true ||false):=by
  cases own<;>simp only[setS,toD,e0,o,if_true,Res.bind,if_pos l,Res.addt]
 rw[wS,this];exact h
theorem Ck{p:Prop}{q:Fl->Prop}(h:p):wN .nx p q:=h
theorem Cm{p:Prop}{q:Fl->Prop}{r:Rv}(h:q (.rt r)):wN (.rt r) p q:=h
theorem Cp{p:Prop}{q:Fl->Prop}(h:q .bk):wN .bk p q:=h
theorem Cq{p:Prop}{q:Fl->Prop}(h:q .ct):wN .ct p q:=h
theorem uA{P:Sl->Prop}{s:Sl}(e:nt S j s)(o:s.one=true)(h:P s):wP (.d (.ob j)) ρ S P:=⟨s,by
 have e:S[j]? = some s:=e;simp only[getP,e,Option.bind_some,Sl.one?,o,if_true],h⟩
theorem Cr{P:Sl->Prop}{s:Sl}(e:nt ρ i s)(o:s.one=true)(h:P s):wP (.env i) ρ S P:=⟨s,by
 have e:ρ[i]? = some s:=e;simp only[getP,e,Option.bind_some,Sl.one?,o,if_true],h⟩
theorem uB{Q:List Sl->List Sl->Prop}{s:Sl}(e:st S j s S')(h:Q ρ S'):wU (.d (.ob j)) s ρ S Q:=by obtain⟨_,rfl⟩:=e;exact h
theorem Cu{Q:List Sl->List Sl->Prop}{s:Sl}(e:st ρ i s ρ')(h:Q ρ' S):wU (.env i) s ρ S Q:=by obtain⟨_,rfl⟩:=e;exact h
theorem Cv{Q:Rv->List Sl->Prop}(h:Q (.d .non) S):wEnd .nx S Q:=h
theorem Cy{Q:Rv->List Sl->Prop}{r:Rv}(h:Q r S):wEnd (.rt r) S Q:=h
def _root_.DV.D.asInt:D->Option Int
 |.int i=>some i
 |_=>none
theorem Cz{a:Int}{P:Int->Prop}(h:P a):wO (D.asInt (.int a)) P:=⟨_,rfl,h⟩
theorem qJ{d:D}(e:nt ρ i (.val d))(h:QR (.d d) ρ S):wp (bY i) ρ S QR E:=by
 have e:ρ[i]? = _:=e;simp only[wp,bY,e];exact h
theorem CG{s:Sl}(e:nt ρ i s)(o:s.one=true)(h:QR (.env i) ρ S):wp (bY i) ρ S QR E:=by
 have e:ρ[i]? = _:=e;cases s<;>first|(cases o;done)|(simp only[wp,bY,e];exact h)
theorem CJ{c fs}(e:nt ρ i (.ins c fs))(h:QR (.env i) ρ S):wp (bY i) ρ S QR E:=by
 have e:ρ[i]? = _:=e;simp only[wp,bY,e];exact h
theorem wp_C{d:D}(h:QR (.d d) ρ S):wp (cC d) ρ S QR E:=h
theorem Rf{g:D->D->Option Rv}{ra rb:Rv}(h:wC ra ρ S λd1=>wC rb ρ S λd2=>wO (g d1 d2) λr=>QR r ρ S):wr (match cont ρ S ra,cont ρ S rb with
 |some d1,some d2=>lift (g d1 d2) ρ S
 |_,_=>.bad) QR E:=by
 obtain⟨d1,e1,d2,e2,r,e3,h⟩:=h;simp only[e1,e2,e3,lift];exact h
theorem qK{g:D->D->Option Rv}{ca cb:M Rv}(h:wp ca ρ S (λra ρ S=>wp cb ρ S (λrb ρ S=>wC ra ρ S λd1=>wC rb ρ S λd2=>wO (g d1 d2) λr=>QR r ρ S) E) E):wp (cBin g ca cb) ρ S QR E:=
 cP (cM h (λ_ _ _ h=>cP (cM h (λ_ _ _ h=>Rf h) λ_ _ _ h=>h)) λ_ _ _ h=>h)
theorem CN{g g':D->D->Option Rv}{ca cb cc:M Rv}(h:wp ca ρ S (λra ρ S=>wp cb ρ S (λrb ρ S=>wC ra ρ S λd1=>wC rb ρ S λd2=>wO (g d1 d2) λr=>wB r λb=>wI b (wp cc ρ S (λrc ρ S=>wC rb ρ S λd2=>wC rc ρ S λd3=>wO (g' d2 d3) λr=>QR r ρ S) E) (QR (.d (.bl false)) ρ S)) E) E):wp (lg g g' ca cb cc) ρ S QR E:=by
 refine cP (cM h (λra _ _ h=>cP (cM h (λrb ρ S h=>?_) λ_ _ _ h=>h)) λ_ _ _ h=>h);obtain⟨d1,e1,d2,e2,r,e3,b,e4,h⟩:=h;subst e4;cases b with
 |false=>simp only[e1,e2,e3];exact h
 |true=>
  simp only[e1,e2,e3];exact cP (cM h (λrc ρ S h=>Rf h) λ_ _ _ h=>h)
theorem qL{c:M Rv}(h:wp c ρ S (λr ρ S=>wB r λb=>QB b ρ S) E):wp (cTst c) ρ S QB E:=
 cP (cM h (λ_ _ _ ⟨b,e,h⟩=>by subst e;exact h) λ_ _ _ h=>h)
theorem zvu{α:Type}{r:Rv}{Q:α->List Sl->List Sl->Prop}{f:Bool->Res α}(h:wC r ρ S λd=>wO (truD d) λb=>wr (f b) Q E):wr (match (cont ρ S r).bind truD with
 |some b=>f b
 |none=>.bad) Q E:=by
 obtain⟨d,e1,b,e2,h⟩:=h;simp only[e1,Option.bind_some,e2];exact h
theorem CP{c:M Rv}(h:wp c ρ S (λr ρ S=>wC r ρ S λd=>wO (truD d) λb=>QB b ρ S) E):wp (cTru c) ρ S QB E:=
 cP (cM h (λ_ _ _ h=>zvu h) λ_ _ _ h=>h)
theorem CQ{c:M Bool}(h:wp c ρ S (λb ρ S=>QB (!b) ρ S) E):wp (fM c) ρ S QB E:=cP (cM h (λ_ _ _ h=>h) λ_ _ _ h=>h)
theorem uC{α:Type}{b:Bool}{p q:Res α}{Q:α->List Sl->List Sl->Prop}(h:wI b (wr p Q E) (wr q Q E)):wr (if b=true then p else q) Q E:=by
 cases b<;>exact h
theorem CT{c d:M Bool}(h:wp c ρ S (λb ρ S=>wI b (wp d ρ S QB E) (QB false ρ S)) E):wp (pY c d) ρ S QB E:=cP (cM h (λ_ _ _ h=>uC h) λ_ _ _ h=>h)
theorem CV{c d:M Bool}(h:wp c ρ S (λb ρ S=>wI b (QB true ρ S) (wp d ρ S QB E)) E):wp (cOrB c d) ρ S QB E:=cP (cM h (λ_ _ _ h=>uC h) λ_ _ _ h=>h)
theorem Rg{r:Rv}{p q:Res Rv}(h:wC r ρ S λd=>wO (truD d) λb=>wI b (wr p QR E) (wr q QR E)):wr (match (cont ρ S r).bind truD with
 |some true=>p
 |some false=>q
 |none=>.bad) QR E:=by
 obtain⟨d,e1,b,e2,h⟩:=h;cases b
 ·simp only[e1,Option.bind_some,e2];exact h
 ·simp only[e1,Option.bind_some,e2];exact h
theorem CW{ca cb:M Rv}(h:wp ca ρ S (λra ρ S=>wC ra ρ S λd=>wO (truD d) λb=>wI b (wp cb ρ S QR E) (QR ra ρ S)) E):wp (cAnd ca cb) ρ S QR E:=cP (cM h (λ_ _ _ h=>Rg h) λ_ _ _ h=>h)
theorem CZ{ca cb:M Rv}(h:wp ca ρ S (λra ρ S=>wC ra ρ S λd=>wO (truD d) λb=>wI b (QR ra ρ S) (wp cb ρ S QR E)) E):wp (cOr ca cb) ρ S QR E:=cP (cM h (λ_ _ _ h=>Rg h) λ_ _ _ h=>h)
theorem De{ca:M Rv}(h:wp ca ρ S (λra ρ S=>wC ra ρ S λd=>wO (truD d) λb=>QR (.d (.bl (!b))) ρ S) E):wp (cNot ca) ρ S QR E:=
 cP (cM h (λ_ _ _ ⟨d,e,b,e2,h⟩=>by simp only[e,Option.bind_some,e2];exact h) λ_ _ _ h=>h)
theorem Df{t:M Bool}{ca cb:M Rv}(h:wp t ρ S (λb ρ S=>wI b (wp ca ρ S QR E) (wp cb ρ S QR E)) E):wp (cIf t ca cb) ρ S QR E:=cP (cM h (λ_ _ _ h=>uC h) λ_ _ _ h=>h)
theorem Dg{c:M Rv}(h:wp c ρ S (λr ρ S=>wC r ρ S λd=>wO (D.asInt d) λi=>QR (.d (.int (-i))) ρ S) E):wp (cNeg c) ρ S QR E:=cP (cM h (λ_ _ _ ⟨d,e,i,e2,h⟩=>by
  cases d<;>first|(cases e2;simp only[e];exact h)|cases e2) λ_ _ _ h=>h)
theorem Dh(h:QB true ρ S):wp cYes ρ S QB E:=h
theorem wp_D{c:M Rv}(h:wp c ρ S (λr ρ S=>wF r ρ S QD) E):wp (cD c) ρ S QD E:=cP (cM h (λ_ _ _ h=>lH h) λ_ _ _ h=>h)
variable{QL:List D->List Sl->List Sl->Prop}{QRs:List Rv->List Sl->List Sl->Prop}
theorem uD(h:QL [] ρ S):wp cG ρ S QL E:=h
theorem qM{c:M Rv}{cs:M (List D)}(h:wp c ρ S (λr ρ S=>wF r ρ S λd ρ S=>wp cs ρ S (λds ρ S=>QL (d::ds) ρ S) E) E):wp (bZ c cs) ρ S QL E:=
 cP (cM (wp_D h) (λ_ _ _ h=>cP (cM h (λ_ _ _ h=>h) λ_ _ _ h=>h)) λ_ _ _ h=>h)
theorem Di(h:QRs [] ρ S):wp cU ρ S QRs E:=h
theorem Dj{c:M Rv}{cs:M (List Rv)}(h:wp c ρ S (λd ρ S=>wp cs ρ S (λds ρ S=>QRs (d::ds) ρ S) E) E):wp (cV c cs) ρ S QRs E:=
 cP (cM h (λ_ _ _ h=>cP (cM h (λ_ _ _ h=>h) λ_ _ _ h=>h)) λ_ _ _ h=>h)
theorem uE{cs:M (List D)}(h:wp cs ρ S (λds ρ S=>wG (ds.length≤sizeLine) (QR (.d (.tup ds)) ρ S)) E):wp (cTup cs) ρ S QR E:=cP (cM h (λ_ _ _ h=>by rw[if_pos h.1];exact h.2) λ_ _ _ h=>h)
theorem uF{cs:M (List D)}(h:wp cs ρ S (λds ρ S=>wG (ds.length≤sizeLine) (QR (.fr (.lst ds)) ρ S)) E):wp (cLst cs) ρ S QR E:=cP (cM h (λ_ _ _ h=>by rw[if_pos h.1];exact h.2) λ_ _ _ h=>h)
theorem uG{o:Option Rv}(h:wO o λr=>QR r ρ S):wr (lift o ρ S) QR E:=by
 obtain⟨r,e,h⟩:=h;subst e;exact h
theorem Dk{g:List D->Option Rv}{cs:M (List Rv)}(h:wp cs ρ S (λrs ρ S=>wCs rs ρ S λds=>wO (g ds) λr=>QR r ρ S) E):wp (cBlt g cs) ρ S QR E:=
 cP (cM h (λ_ _ _ ⟨ds,e,h⟩=>by simp only[e];exact uG h) λ_ _ _ h=>h)
theorem Dm{T:String}{g:D->List D->Option Rv}{co:M Rv}{cs:M (List Rv)}(h:wp co ρ S (λro ρ S=>wC ro ρ S λd0=>wG (tyD T d0=true) (wp cs ρ S (λrs ρ S=>wC ro ρ S λd=>wCs rs ρ S λds=>wO (g d ds) λr=>QR r ρ S) E)) E):wp (cMt T g co cs) ρ S QR E:=by
 refine cP (cM h (λ_ _ _ ⟨d0,e,t,h⟩=>?_) λ_ _ _ h=>h);simp only[e,if_pos t];exact cP (cM h (λ_ _ _ ⟨d,e,ds,e2,h⟩=>by simp only[e,e2];exact uG h) λ_ _ _ h=>h)
variable{QO:Option Int->List Sl->List Sl->Prop}
theorem Do(h:QO none ρ S):wp cNoP ρ S QO E:=h
theorem Dq{c:M Rv}(h:wp c ρ S (λr ρ S=>wC r ρ S λd=>wO (qd d) λo=>QO o ρ S) E):wp (jB c) ρ S QO E:=
 cP (cM h (λ_ _ _ ⟨d,e,o,e2,h⟩=>by simp only[e,Option.bind_some,e2];exact h) λ_ _ _ h=>h)
theorem Dr{g:D->Option Int->Option Int->Option Rv}{ce:M Rv}{cl ch:M (Option Int)}(h:wp ce ρ S (λre ρ S=>wp cl ρ S (λlo ρ S=>wp ch ρ S (λhi ρ S=>wC re ρ S λd=>wO (g d lo hi) λr=>QR r ρ S) E) E) E):wp (cSl g ce cl ch) ρ S QR E:=
 cP (cM h (λ_ _ _ h=>cP (cM h (λ_ _ _ h=>cP (cM h (λ_ _ _ ⟨d,e,h⟩=>by simp only[e];exact uG h) λ_ _ _ h=>h)) λ_ _ _ h=>h)) λ_ _ _ h=>h)
theorem wp_call{m:List D->List Sl->Res Rv}{n j:Nat}{gD:List D->List D->List D}{cs ks:M (List D)}(h:wp cs ρ S (λds ρ S=>wp ks ρ S (λes ρ S=>wG (ds.length=n∧es.length=j) (wArg (gD ds es) λas=>wA m as ρ S QR E)) E) E):wp (cY m n j gD cs ks) ρ S QR E:=
 cP (cM h (λ_ _ _ h=>cP (cM h (λ_ _ _ ⟨l,h⟩=>by rw[if_pos l];exact lJ h) λ_ _ _ h=>h)) λ_ _ _ h=>h)
theorem Ds{T:Nat->Str->Bool}{f:Str}{co:M Rv}(h:wp co ρ S (λr ρ S=>wO (fldR T f (getO r ρ S)) λd=>QR (.d d) ρ S) E):wp (cFld T f co) ρ S QR E:=
 cP (cM h (λ_ _ _ ⟨d,e,h⟩=>by simp only[e];exact h) λ_ _ _ h=>h)
theorem Dt{T:Nat->Str->Bool}{f:Str}{cv co:M Rv}(h:wp cv ρ S (λr ρ S=>wF r ρ S λd ρ S=>wp co ρ S (λro ρ S=>wO (fstR T f d (getW ro ρ S)) λs=>wU ro s ρ S λρ S=>QF .nx ρ S) E) E):wp (cFst T f cv co) ρ S QF E:=
 cP (cM (wp_D h) (λ_ _ _ h=>cP (cM h (λ_ _ _ ⟨d,e,h⟩=>by simp only[e];exact h) λ_ _ _ h=>h)) λ_ _ _ h=>h)
theorem Du{c:Nat}{mn:Str}{m:List D->List Sl->Res Rv}{n j:Nat}{gD:List D->List D->List D}{co:M Rv}{cs ks:M (List D)}(h:wp co ρ S (λr ρ S=>wF r ρ S λd ρ S=>wG (lE c mn d S=true) (wp cs ρ S (λds ρ S=>wp ks ρ S (λes ρ S=>wG (ds.length=n∧es.length=j) (wArg (gD (d::ds) es) λas=>wA m as ρ S QR E)) E) E)) E):wp (gY c mn m n j gD co cs ks) ρ S QR E:=
 cP (cM (wp_D h) (λ_ _ _ h=>by rw[if_pos h.1];exact cP (cM h.2 (λ_ _ _ h=>cP (cM h (λ_ _ _ ⟨l,h⟩=>by rw[if_pos l];exact lJ h) λ_ _ _ h=>h)) λ_ _ _ h=>h)) λ_ _ _ h=>h)
theorem Dy{c:Nat}{m:List D->List Sl->Res Rv}{co:M Rv}(h:wp co ρ S (λr ρ S=>wF r ρ S λd ρ S=>wG (lE c "" d S=true) (wA m [d] ρ S QR λ_ _ _=>False)) E):wp (Bf c m co) ρ S QR E:=
 cP (cM (wp_D h) (λd ρ S h=>by
  rw[if_pos h.1];have h2:wr (m [d] S) (λa _ S=>QR a ρ S) (λx _ S=>False):=h.2;refine lJ ?_;cases q:m [d] S with
  |ok r ρ S t=>rw[q] at h2;exact h2
  |ex x ρ S=>rw[q] at h2;exact h2.elim
  |bad=>rw[q] at h2;exact h2.elim) λ_ _ _ h=>h)
theorem Dz{n:Nat}{sub:Nat->Nat->Bool}{cs:M (List D)}(h:wp cs ρ S (λds ρ S=>wO (isiR n sub S ds) λb=>QR (.d (.bl b)) ρ S) E):wp (cIsi n sub cs) ρ S QR E:=
 cP (cM h (λ_ _ _ ⟨d,e,h⟩=>by simp only[e];exact h) λ_ _ _ h=>h)
theorem DG{kon:Nat->Str->Option D}{f:Str}{co:M Rv}(h:wp co ρ S (λr ρ S=>wO (konR kon f r ρ S) λd=>QR (.d d) ρ S) E):wp (cKon kon f co) ρ S QR E:=
 cP (cM h (λ_ _ _ ⟨d,e,h⟩=>by simp only[e];exact h) λ_ _ _ h=>h)
theorem DK{c:M Rv}(h:wp c ρ S (λr ρ S=>wC r ρ S λd=>wO (fmtD d) λy=>QR (.d (.str y)) ρ S) E):wp (cFmt c) ρ S QR E:=
 cP (cM h (λ_ _ _ ⟨d,e,y,e2,h⟩=>by simp only[e,Option.bind_some,e2];exact h) λ_ _ _ h=>h)
theorem DN{acc:Str}(h:QR (.d (.str acc)) ρ S):wp (cJsA [] acc) ρ S QR E:=h
theorem DP{acc:Str}{c:M Rv}{cs:List (M Rv)}(h:wp c ρ S (λr ρ S=>wF r ρ S λd ρ S=>wO (catR acc d) λacc'=>wp (cJsA cs acc') ρ S QR E) E):wp (cJsA (c::cs) acc) ρ S QR E:=
 cP (cM (wp_D h) (λ_ _ _ ⟨y,e,h⟩=>by simp only[e];exact h) λ_ _ _ h=>h)
theorem DQ{cs:List (M Rv)}(h:wp (cJsA cs Str.empty) ρ S QR E):wp (cJs cs) ρ S QR E:=h
def wZ(r:Rv)(P:Rv->Prop):Prop:=match r with
 |.fr s=>P (.d s.frz)
 |r=>P r
theorem wZ_d{P:Rv->Prop}{d:D}(h:P (.d d)):wZ (.d d) P:=h
theorem DR{P:Rv->Prop}{a}(h:P (.d (.lst a))):wZ (.fr (.lst a)) P:=h
theorem zz9{P:Rv->Prop}{s:Sl}{d:D}(e:s.frz=d)(h:P (.d d)):wZ (.fr s) P:=by subst e;exact h
theorem DW{P:Rv->Prop}(h:P (.env i)):wZ (.env i) P:=h
theorem wp_F{c:M Rv}(h:wp c ρ S (λr ρ S=>wZ r λr=>QR r ρ S) E):wp (cF c) ρ S QR E:=cP (cM h (λr _ _ h=>by cases r<;>exact h) λ_ _ _ h=>h)
/-- built-in reading of an operator,or else the class's own -/
def wQ(g:D->D->Option Rv)(h:List D->List Sl->Res Rv)(ra rb:Rv)(ρ S:List Sl)(Q:Rv->List Sl->List Sl->Prop)(E:XQ):Prop:=wr (match two2 g (cont ρ S ra) (cont ρ S rb) with
 |some r=>.ok r ρ S false
 |none=>own2 h ra rb ρ S) Q E
theorem uH{g:D->D->Option Rv}{h:List D->List Sl->Res Rv}{ca cb:M Rv}(k:wp ca ρ S (λra ρ S=>wZ ra λra=>wp cb ρ S (λrb ρ S=>wZ rb λrb=>wQ g h ra rb ρ S QR E) E) E):wp (cOp2 g h ca cb) ρ S QR E:=
 cP (cM (wp_F k) (λ_ _ _ k=>cP (cM (wp_F k) (λ_ _ _ k=>k) λ_ _ _ h=>h)) λ_ _ _ h=>h)
theorem DY{g:D->D->Option Rv}{h:List D->List Sl->Res Rv}{ra rb:Rv}(k:wC ra ρ S λd1=>wC rb ρ S λd2=>wO (g d1 d2) λr=>QR r ρ S):wQ g h ra rb ρ S QR E:=by
 obtain⟨d1,e1,d2,e2,r,e3,k⟩:=k;simp only[wQ,e1,e2,two2,e3];exact k
theorem Rh{g:D->D->Option Rv}{h:List D->List Sl->Res Rv}{d e:D}(n:two2 g (cont ρ S (.d d)) (cont ρ S (.d e))=none)(k:wA h [d,e] ρ S QR E):wQ g h (.d d) (.d e) ρ S QR E:=by
 simp only[wQ,n];exact lJ k
def wW(g:List D->Option Rv)(h:List D->List Sl->Res Rv)(r:Rv)(ρ S:List Sl)(Q:Rv->List Sl->List Sl->Prop)(E:XQ):Prop:=wr (match one1 g (cont ρ S r) with
 |some r'=>.ok r' ρ S false
 |none=>own1 h r ρ S) Q E
theorem Ea{g:List D->Option Rv}{h:List D->List Sl->Res Rv}{c:M Rv}(k:wp c ρ S (λra ρ S=>wZ ra λra=>wW g h ra ρ S QR E) E):wp (cOp1 g h c) ρ S QR E:=
 cP (cM (wp_F k) (λ_ _ _ k=>k) λ_ _ _ h=>h)
theorem Eb{g:List D->Option Rv}{h:List D->List Sl->Res Rv}{r:Rv}(k:wC r ρ S λd=>wO (g [d]) λr=>QR r ρ S):wW g h r ρ S QR E:=by
 obtain⟨d1,e1,r,e3,k⟩:=k;simp only[wW,e1,one1,e3];exact k
theorem zwu{g:List D->Option Rv}{h:List D->List Sl->Res Rv}{d:D}(n:one1 g (cont ρ S (.d d))=none)(k:wA h [d] ρ S QR E):wW g h (.d d) ρ S QR E:=by
 simp only[wW,n];exact lJ k
theorem Ec(h:QF .nx ρ S):wp cNx ρ S QF E:=h
theorem Ed{a b:M Fl}(h:wp a ρ S (λf ρ S=>wN f (wp b ρ S QF E) λf=>QF f ρ S) E):wp (cSeq a b) ρ S QF E:=by
 unfold wp cSeq at *;cases q:a ρ S with
 |ok f ρ1 S1 t=>rw[q] at h;cases f<;>exact h
 |ex x ρ S=>rw[q] at h;exact h
 |bad=>rw[q] at h;exact h
theorem Ef{c:M Rv}(h:wp c ρ S (λ_ ρ S=>QF .nx ρ S) E):wp (zzt c) ρ S QF E:=cP (cM h (λ_ _ _ h=>h) λ_ _ _ h=>h)
theorem Eh{t:M Bool}{a b:M Fl}(h:wp t ρ S (λk ρ S=>wI k (wp a ρ S QF E) (wp b ρ S QF E)) E):wp (cIfS t a b) ρ S QF E:=cP (cM h (λ_ _ _ h=>uC h) λ_ _ _ h=>h)
theorem qN{c:M Rv}(h:wp c ρ S (λr ρ S=>wV r ρ S λr ρ S=>QF (.rt r) ρ S) E):wp (cRet c) ρ S QF E:=
 cP (cM h (λ_ _ _ h=>cP (cM (lH h) (λ_ _ _ h=>h) λ_ _ _ h=>h)) λ_ _ _ h=>h)
theorem Ei(h:QF (.rt (.d .non)) ρ S):wp zzd ρ S QF E:=h
theorem Ek{own:Bool}{i:Nat}{c:M Rv}(h:wp c ρ S (λr ρ S=>wS own i r ρ S QF) E):wp (cSet own i c) ρ S QF E:=cP (cM h (λ_ _ _ h=>lH h) λ_ _ _ h=>h)
theorem El{i:Nat}{c:M Rv}(h:wp c ρ S (λr ρ S=>wSto i r ρ S QF) E):wp (cSto i c) ρ S QF E:=cP (cM h (λ_ _ _ h=>lH h) λ_ _ _ h=>h)
theorem ztY{i n:Nat}{s:Sl}(o:s.one=true)(e:pu S s n S')(e2:st ρ i (.val (.ob n)) ρ')(h:QF .nx ρ' S'):wSto i (.fr s) ρ S QF:=by
 obtain⟨rfl,rfl⟩:=e;obtain⟨l,rfl⟩:=e2;simp only[wSto,jE,l,o,and_self,if_true];exact h
theorem En{i n:Nat}{a}(e:pu S (.lst a) n S')(e2:st ρ i (.val (.ob n)) ρ')(h:QF .nx ρ' S'):wSto i (.fr (.lst a)) ρ S QF:=ztY rfl e e2 h
theorem Eo{c:M Rv}(h:wp c ρ S (λr ρ S=>lG r ρ S QR) E):wp (uh c) ρ S QR E:=cP (cM h (λ_ _ _ h=>lH h) λ_ _ _ h=>h)
theorem zro{n:Nat}{s:Sl}(o:s.one=true)(e:pu S s n S')(h:QR (.d (.ob n)) ρ S'):lG (.fr s) ρ S QR:=by
 obtain⟨rfl,rfl⟩:=e;simp only[lG,stoR,o,if_true];exact h
theorem Ep{n:Nat}{a}(e:pu S (.lst a) n S')(h:QR (.d (.ob n)) ρ S'):lG (.fr (.lst a)) ρ S QR:=zro rfl e h
theorem Es{g:Sl->D->D->Option Sl}{c co ci:M Rv}(h:wp c ρ S (λr ρ S=>wF r ρ S λd ρ S=>wp co ρ S (λro ρ S=>wp ci ρ S (λri ρ S=>wP ro ρ S λs=>wC ri ρ S λk=>wO (g s k d) λs'=>wU ro s' ρ S λρ S=>QF .nx ρ S) E) E) E):wp (cPut g c co ci) ρ S QF E:=
 cP (cM (wp_D h) (λ_ _ _ h=>cP (cM h (λ_ _ _ h=>cP (cM h (λ_ _ _ ⟨s,e1,k,e2,s',e3,h⟩=>by simp only[e1,e2,e3];exact h) λ_ _ _ h=>h)) λ_ _ _ h=>h)) λ_ _ _ h=>h)
theorem Et{T:String}{g:Sl->List D->Option (D×Sl)}{co:M Rv}{cs:M (List D)}(h:wp co ρ S (λro ρ S=>wP ro ρ S λs0=>wG (tyS T s0=true) (wp cs ρ S (λds ρ S=>wP ro ρ S λs=>wO2 (g s ds) λd s'=>wU ro s' ρ S λρ S=>QR (.d d) ρ S) E)) E):wp (cMm T g co cs) ρ S QR E:=by
 refine cP (cM h (λ_ _ _ ⟨s0,e,t,h⟩=>?_) λ_ _ _ h=>h);simp only[e,if_pos t];exact cP (cM h (λ_ _ _ ⟨s,e,d,s',e2,h⟩=>by simp only[e,e2];exact h) λ_ _ _ h=>h)
theorem Eu{i j:Nat}{cs:M (List D)}(h:wp cs ρ S (λds ρ S=>wPar i j ds ρ S QF) E):wp (cPar i j cs) ρ S QF E:=
 cP (cM h (λ_ _ _ ⟨d,e,e0,l1,l2,h⟩=>by
  subst e0;simp only[l1,l2,and_self,if_true];exact h) λ_ _ _ h=>h)
theorem Ew{i j:Nat}{d e:D}{ρ1 ρ2:List Sl}(e1:st ρ i (.val d) ρ1)(e2:st ρ1 j (.val e) ρ2)(h:QF .nx ρ2 S):wPar i j [d,e] ρ S QF:=by
 obtain⟨l1,rfl⟩:=e1;obtain⟨l2,rfl⟩:=e2;rw[bM] at l2;exact⟨d,e,rfl,l1,l2,h⟩
theorem Ey{i j k:Nat}{cs:M (List D)}(h:wp cs ρ S (λds ρ S=>uo i j k ds ρ S QF) E):wp (zz2 i j k cs) ρ S QF E:=
 cP (cM h (λ_ _ _ ⟨d,e,f,e0,l1,l2,l3,h⟩=>by
  subst e0;simp only[l1,l2,l3,and_self,if_true];exact h) λ_ _ _ h=>h)
theorem Ez{i j k:Nat}{d e f:D}{ρ1 ρ2 ρ3:List Sl}(e1:st ρ i (.val d) ρ1)(e2:st ρ1 j (.val e) ρ2)(e3:st ρ2 k (.val f) ρ3)(h:QF .nx ρ3 S):uo i j k [d,e,f] ρ S QF:=by
 obtain⟨l1,rfl⟩:=e1;obtain⟨l2,rfl⟩:=e2;obtain⟨l3,rfl⟩:=e3;rw[bM] at l2;rw[bM,bM] at l3;exact⟨d,e,f,rfl,l1,l2,l3,h⟩
def tq(g:Tgt)(d:D)(ρ ρ':List Sl):Prop:=eX g d ρ=some ρ'
theorem uI{d:D}(e:st ρ i (.val d) ρ'):tq (.nm i) d ρ ρ':=by obtain⟨l,rfl⟩:=e;exact if_pos l
theorem EY:tq (.tp []) (.tup []) ρ ρ:=rfl
theorem Fb{is:List Nat}{d:D}{ds:List D}{ρ1:List Sl}(e:st ρ i (.val d) ρ1)(h:tq (.tp is) (.tup ds) ρ1 ρ'):tq (.tp (i::is)) (.tup (d::ds)) ρ ρ':=by
 obtain⟨l,rfl⟩:=e;show bindL (i::is) (d::ds) ρ=some ρ';rw[bindL,if_pos l];exact h
theorem Fd{g:Tgt}{c:M Rv}(h:wp c ρ S (λr ρ S=>wF r ρ S λd ρ S=>wX (tq g d ρ) λρ'=>QF .nx ρ' S) E):wp (tL g c) ρ S QF E:=
 cP (cM (wp_D h) (λ_ _ _ ⟨ρ',e,h⟩=>by have e:eX _ _ _=some ρ':=e;simp only[setT,e];exact h) λ_ _ _ h=>h)
theorem gK{α:Type}{R P:α->Prop}{a:α}(e:R a)(h:P a):wX R P:=⟨a,e,h⟩
def rp(n:Nat)(l:List Sl):Prop:=List.replicate n .emp=l
theorem rp_z:rp 0 []:=rfl
theorem rp_s{n:Nat}{l:List Sl}(h:rp n l):rp (n+1) (.emp::l):=by rw[rp,List.replicate_succ,h]
def ev(n:Nat)(ds:List D)(ρ:List Sl):Prop:=env0 n ds=ρ
def evI(n k:Nat)(ds:List D)(ρ:List Sl):Prop:=envI n k ds=ρ
theorem Fe{n:Nat}{l:List Sl}(h:rp n l):ev n [] l:=h
theorem Ff{n:Nat}{d:D}{ds:List D}{l:List Sl}(h:ev n ds l):ev (n+1) (d::ds) (.val d::l):=by
 rw[ev,env0,ak,aG,Nat.succ_sub_succ,bQ];exact congrArg _ h
theorem Fg{n k:Nat}{ds:List D}{l:List Sl}(h:ev n ds l):evI (n+1) k ds (.ins k []::l):=by
 rw[evI,envI,Nat.add_sub_cancel];exact congrArg _ h
def aq(l as:List D):Prop:=l=as
theorem Fj{l as:List D}{P:List D->Prop}(e:aq l as)(h:P as):wArg l P:=by rw[wArg,show l=as from e];exact h
theorem Fo:aq [] []:=rfl
theorem Fp{d:D}{xs ys:List D}(h:aq xs ys):aq (d::xs) (d::ys):=congrArg _ h
theorem Fq{l r:List D}(h:aq l r):aq ([]++l) r:=h
theorem Ft{d:D}{xs l r:List D}(h:aq (xs++l) r):aq ((d::xs)++l) (d::r):=congrArg _ h
theorem Fv{xs ys zs l r:List D}(h:aq (xs++ys) l)(k:aq (l++zs) r):aq ((xs++ys)++zs) r:=by rw[show xs++ys=l from h];exact k
def nd(xs:List D)(i:Nat)(d:D):Prop:=xs[i]? = some d
theorem nd_z{d:D}{xs:List D}:nd (d::xs) 0 d:=rfl
theorem nd_s{d u:D}{xs:List D}{n:Nat}(h:nd xs n d):nd (u::xs) (n+1) d:=by rw[nd,List.getElem?_cons_succ];exact h
def pn(is:List Nat)(xs as:List D):Prop:=pick is xs=as
theorem Fw{xs:List D}:pn [] xs []:=rfl
theorem Fx{i:Nat}{is:List Nat}{xs as:List D}{d:D}(e:nd xs i d)(h:pn is xs as):pn (i::is) xs (d::as):=by
 rw[pn,Ba,show xs[i]? = some d from e,Bb,show pick is xs=as from h]
theorem Fy{is:List Nat}{l l' as:List D}(e:aq l l')(h:pn is l' as):aq (pick is l) as:=by rw[show l=l' from e];exact h
theorem dM{n:Nat}{c:M Fl}{ds:List D}{Q:Rv->List Sl->Prop}{E:Exn->List Sl->Prop}(e:ev n ds ρ)(h:wp c ρ S (λf _ S=>wEnd f S Q) (λx _ S=>E x S)):wm (defM n c) ds S Q E:=by
 have e:env0 n ds=ρ:=e;subst e;unfold wm defM wp at *;cases q:c (env0 n ds) S with
 |ok f ρ1 S1 t=>rw[q] at h;cases f<;>exact h
 |ex x ρ S=>rw[q] at h;exact h
 |bad=>rw[q] at h;exact h
def Ri(f:Fl)(ρ S:List Sl)(Q:Rv->List Sl->Prop):Prop:=(f=.nx∨f=.rt (.d .non))∧∃s,nt ρ 0 s∧s.own? = true∧Q (.fr s) S
theorem zqK{Q:Rv->List Sl->Prop}(e:nt ρ 0 s)(o:s.own? = true)(h:Q (.fr s) S):Ri .nx ρ S Q:=⟨.inl rfl,s,e,o,h⟩
theorem FJ{n k:Nat}{c:M Fl}{ds:List D}{Q:Rv->List Sl->Prop}{E:Exn->List Sl->Prop}(e:evI n k ds ρ)(h:wp c ρ S (λf ρ S=>Ri f ρ S Q) (λx _ S=>E x S)):wm (defI n k c) ds S Q E:=by
 have e:envI n k ds=ρ:=e;subst e;unfold wm defI wp at *;cases q:c (envI n k ds) S with
 |ok f ρ1 S1 t=>
  rw[q] at h;obtain⟨h,s,e,o,z⟩:=h;have e:ρ1[0]? = some s:=e;rcases h with h|h<;>(subst h;simp only[endI,finI,e,o,if_true];exact z)
 |ex x ρ S=>rw[q] at h;exact h
 |bad=>rw[q] at h;exact h
end
end
section
section
variable{α β:Type}{ρ ρ' S S' T:List Sl}{E:XQ}{s u:Sl}{i j n k:Nat}{QF:Fl->List Sl->List Sl->Prop}{QR:Rv->List Sl->List Sl->Prop}{QL:List D->List Sl->List Sl->Prop}
variable{QS:Src->List Sl->List Sl->Prop}
theorem FQ{c:M Rv}(h:wp c ρ S (λr ρ S=>wF r ρ S λd ρ S=>wO d.its λds=>QL ds ρ S) E):wp (cIts c) ρ S QL E:=
 cP (cM (wp_D h) (λ_ _ _ ⟨ds,e,h⟩=>by simp only[e];exact h) λ_ _ _ h=>h)
theorem FW{c:M Rv}(h:wp c ρ S (λr ρ S=>wF r ρ S λd ρ S=>wO (srcR S d) λs=>QS s ρ S) E):wp (gA c) ρ S QS E:=
 cP (cM (wp_D h) (λ_ _ _ ⟨ds,e,h⟩=>by simp only[e];exact h) λ_ _ _ h=>h)
theorem FZ{cs:M (List D)}(h:wp cs ρ S (λds ρ S=>wO (jr S ds) λs=>QS s ρ S) E):wp (zxd cs) ρ S QS E:=
 cP (cM h (λ_ _ _ ⟨ds,e,h⟩=>by simp only[e];exact h) λ_ _ _ h=>h)
theorem Ge{cs:M (List D)}(h:wp cs ρ S (λds ρ S=>wO (Bl ds) λs=>QL s ρ S) E):wp (zwA cs) ρ S QL E:=
 cP (cM h (λ_ _ _ ⟨ds,e,h⟩=>by simp only[e];exact h) λ_ _ _ h=>h)
def Gf:List D->Option (List D)
 |[.int j]=>if -(2 ^ 62)≤j∧j<2 ^ 62 then some (gh 0 j.toNat) else none
 |_=>none
def Gg:List D->Option (List D)
 |[.int i,.int j]=>if -(2 ^ 62)≤i∧i<2 ^ 62∧-(2 ^ 62)≤j∧j<2 ^ 62 then some (gh i (j - i).toNat) else none
 |_=>none
theorem uJ{j:Int}{P:List D->Prop}(l:-(2 ^ 62)≤j∧j<2 ^ 62)(h:P (gh 0 j.toNat)):wO (Gf [.int j]) P:=⟨_,if_pos l,h⟩
theorem Gh{i j:Int}{P:List D->Prop}(l:-(2 ^ 62)≤i∧i<2 ^ 62∧-(2 ^ 62)≤j∧j<2 ^ 62)(h:P (gh i (j - i).toNat)):wO (Gg [.int i,.int j]) P:=⟨_,if_pos l,h⟩
theorem Gi{cs:M (List D)}(h:wp cs ρ S (λds ρ S=>wO (Gf ds) λds=>QL ds ρ S) E):wp (oF cs) ρ S QL E:=
 cP (cM h (λ_ _ _ ⟨xs,e,h⟩=>by
  unfold Gf at e;split at e<;>first|(split at e<;>first|(rename_i l;cases e;simp only[if_pos l];exact h)|cases e)|cases e) λ_ _ _ h=>h)
theorem Gj{cs:M (List D)}(h:wp cs ρ S (λds ρ S=>wO (Gg ds) λds=>QL ds ρ S) E):wp (NP cs) ρ S QL E:=
 cP (cM h (λ_ _ _ ⟨xs,e,h⟩=>by
  unfold Gg at e;split at e<;>first|(split at e<;>first|(rename_i l;cases e;simp only[if_pos l];exact h)|cases e)|cases e) λ_ _ _ h=>h)
def zipO:List D->Option (List D)
 |[.lst xs,.lst ys]=>some (zipD xs ys)
 |[.tup xs,.tup ys]=>some (zipD xs ys)
 |[.tup xs,.kt ys]=>some (zipD xs ys)
 |[.kt xs,.tup ys]=>some (zipD xs ys)
 |_=>none
theorem Gn{cs:M (List D)}(h:wp cs ρ S (λds ρ S=>wO (zipO ds) λds=>QL ds ρ S) E):wp (cZip cs) ρ S QL E:=
 cP (cM h (λds _ _ ⟨xs,e,h⟩=>by
  unfold zipO at e;split at e<;>first|(cases e;exact h)|cases e) λ_ _ _ h=>h)
def wL(g:Tgt)(b:M Fl)(ds:List D)(ρ S:List Sl)(Q:Fl->List Sl->List Sl->Prop)(E:XQ):Prop:=wr (forM g b ds ρ S) Q E
def wJ(f:Fl)(ρ S:List Sl)(next:Prop)(Q:Fl->List Sl->List Sl->Prop):Prop:=match f with
 |.nx=>next
 |.ct=>next
 |.bk=>Q .nx ρ S
 |.rt r=>Q (.rt r) ρ S
theorem Gp{p:Prop}(h:p):wJ .nx ρ S p QF:=h
theorem Gq{p:Prop}(h:p):wJ .ct ρ S p QF:=h
theorem Gu{p:Prop}(h:QF .nx ρ S):wJ .bk ρ S p QF:=h
theorem Gv{p:Prop}{r:Rv}(h:QF (.rt r) ρ S):wJ (.rt r) ρ S p QF:=h
variable{g:Tgt}{b:M Fl}{d:D}{ds:List D}
theorem Gx(h:QF .nx ρ S):wL g b [] ρ S QF E:=h
theorem oV{ρ1:List Sl}(e:tq g d ρ ρ1)(h:wp b ρ1 S (λf ρ S=>wJ f ρ S (wL g b ds ρ S QF E) QF) E):wL g b (d::ds) ρ S QF E:=by
 have e:eX g d ρ=some ρ1:=e;unfold wL forM;simp only[e];unfold wp at h;cases q:b ρ1 S with
 |ok f ρ2 S2 t=>rw[q] at h;cases f<;>exact h
 |ex x ρ S=>rw[q] at h;exact h
 |bad=>rw[q] at h;exact h
theorem Gy(I:List D->List Sl->List Sl->Prop)(hs:∀d ds ρ S,I (d::ds) ρ S->wX (tq g d ρ) λρ1=>wp b ρ1 S (λf ρ S=>wJ f ρ S (I ds ρ S) QF) E)(he:∀ρ S,I [] ρ S->QF .nx ρ S):∀(ds:List D) (ρ S:List Sl),I ds ρ S->wL g b ds ρ S QF E
 |[],ρ,S,h=>Gx (he ρ S h)
 |d::ds,ρ,S,h=>by
  obtain⟨ρ1,e,k⟩:=hs d ds ρ S h;exact oV e (cM k (λf ρ S h=>by cases f<;>first|exact Gy I hs he ds ρ S h|exact h) λ_ _ _ h=>h)
theorem Gz{ci:M (List D)}(h:wp ci ρ S (λds ρ S=>wL g b ds ρ S QF E) E):wp (cFor ci g b) ρ S QF E:=by
 unfold wp cFor at *;cases q:ci ρ S with
 |ok f ρ1 S1 t=>rw[q] at h;exact h
 |ex x ρ S=>rw[q] at h;exact h
 |bad=>rw[q] at h;exact h
def wLO(f:Nat->D->D)(g:Tgt)(b:M Fl)(s:Src)(ρ S:List Sl)(Q:Fl->List Sl->List Sl->Prop)(E:XQ):Prop:=wr (match s with
 |.its ds=>forM g b ds ρ S
 |.ob k=>lF f g b k (jo k S) 0 ρ S) Q E
theorem GD{f:Nat->D->D}{ci:M Src}(h:wp ci ρ S (λs ρ S=>wLO f g b s ρ S QF E) E):wp (jM f ci g b) ρ S QF E:=by
 unfold wp jM at *;cases q:ci ρ S with
 |ok f ρ1 S1 t=>rw[q] at h;cases f<;>exact h
 |ex x ρ S=>rw[q] at h;exact h
 |bad=>rw[q] at h;exact h
theorem GJ{f:Nat->D->D}(h:wL g b ds ρ S QF E):wLO f g b (.its ds) ρ S QF E:=h
def iY(f:Nat->D->D):Nat->List D->List D
 |_,[]=>[]
 |i,d::ds=>f i d::iY f (i+1) ds
theorem GX:∀(i:Nat) (ds:List D),iY idF i ds=ds
 |_,[]=>rfl
 |i,d::ds=>congrArg (d::·) (GX (i+1) ds)
def wq(ρ:List Sl)(vs:List Nat)(ρ':List Sl):Prop:=dC ρ vs=ρ'
theorem GZ:wq ρ [] ρ:=rfl
theorem G3{ρ1 ρ2:List Sl}{v:Nat}{vs:List Nat}(h:wq ρ vs ρ1)(e:st ρ1 v .emp ρ2):wq ρ (v::vs) ρ2:=by
 unfold wq at *;rw[dC,h];exact e.2
variable{vs:List Nat}{t:M Bool}{c:M Rv}{acc:List D}
def wK(vs:List Nat)(g:Tgt)(t:M Bool)(c:M Rv)(ds acc:List D)(ρ S:List Sl)(Q:List D->List Sl->List Sl->Prop):Prop:=wr (gj vs g t c ds acc ρ S) Q λ_ _ _=>False
theorem Rj(h:QL acc ρ S):wK vs g t c [] acc ρ S QL:=h
theorem Rk{ρ1:List Sl}(e:tq g d ρ ρ1)(h:wp t ρ1 S (λb ρ S=>wI b (wp c ρ S (λr ρ S=>wF r ρ S λd' ρ S=>wG (acc.length<sizeLine) (wX (wq ρ vs) λρ'=>wK vs g t c ds (acc++[d']) ρ' S QL)) λ_ _ _=>False) (wX (wq ρ vs) λρ'=>wK vs g t c ds acc ρ' S QL)) λ_ _ _=>False):wK vs g t c (d::ds) acc ρ S QL:=by iterate
 have e:eX g d ρ=some ρ1:=e;unfold wK gj;simp only[e];unfold wp at h;cases q:t ρ1 S with
 |ok f ρ2 S2 t2=>
  rw[q] at h;cases f with
  |false=>obtain⟨ρ',e,h⟩:=h;have e:dC ρ2 vs=ρ':=e;subst e;exact h
  |true=>
   have h:wp (cD c) ρ2 S2 (λd' ρ S=>wG (acc.length<sizeLine) (wX (wq ρ vs) λρ'=>wK vs g t c ds (acc++[d']) ρ' S QL)) (λ_ _ _=>False):=wp_D h;unfold wp at h;simp only[];cases q2:cD c ρ2 S2 with
   |ok d' ρ3 S3 t3=>
    rw[q2] at h;obtain⟨l,ρ',e,h⟩:=h;have e:dC ρ3 vs=ρ':=e;subst e;simp only[if_pos l];exact h
   |ex x ρ S=>rw[q2] at h;exact h.elim
   |bad=>rw[q2] at h;exact h.elim
 |ex x ρ S=>rw[q] at h;exact h.elim
 |bad=>rw[q] at h;exact h.elim
theorem qO(I:List D->List D->List Sl->List Sl->Prop)(hs:∀d ds acc ρ S,I (d::ds) acc ρ S->wX (tq g d ρ) λρ1=>wp t ρ1 S (λb ρ S=>wI b (wp c ρ S (λr ρ S=>wF r ρ S λd' ρ S=>wG (acc.length<sizeLine) (wX (wq ρ vs) λρ'=>I ds (acc++[d']) ρ' S)) λ_ _ _=>False) (wX (wq ρ vs) λρ'=>I ds acc ρ' S)) λ_ _ _=>False)
  (he:∀acc ρ S,I [] acc ρ S->QL acc ρ S):∀(ds acc:List D) (ρ S:List Sl),I ds acc ρ S->wK vs g t c ds acc ρ S QL
 |[],acc,ρ,S,h=>Rj (he acc ρ S h)
 |d::ds,acc,ρ,S,h=>by
  obtain⟨ρ1,e,k⟩:=hs d ds acc ρ S h;refine Rk e (cM k (λb ρ S h=>?_) λ_ _ _ h=>h);cases b with
  |false=>obtain⟨ρ',e,h⟩:=h;exact gK e (qO I hs he _ _ _ _ h)
  |true=>exact cM h (λr ρ S h=>cM h (λd ρ S ⟨l,ρ',e,h⟩=>oU l (gK e (qO I hs he _ _ _ _ h))) λ_ _ _ h=>h) λ_ _ _ h=>h
/-- a comprehension that changes nothing -/
theorem qP(p:D->Bool)(f:D->D)(hl:ds.length≤sizeLine)(hs:∀d∈ds,wX (tq g d ρ) λρ1=>wp t ρ1 S (λb ρ2 S2=>wI b (wp c ρ2 S2 (λr ρ3 S3=>wF r ρ3 S3 λd' ρ3 S3=>d'=f d∧p d=true∧wq ρ3 vs ρ∧S3=S) λ_ _ _=>False) (p d=false∧wq ρ2 vs ρ∧S2=S)) λ_ _ _=>False)
  (h:QL ((ds.filter p).map f) ρ S):wK vs g t c ds [] ρ S QL:=by iterate
 refine qO (λrest acc ρ' S'=>ρ'=ρ∧S'=S∧(∀d∈rest,d∈ds)∧acc++(rest.filter p).map f=(ds.filter p).map f∧acc.length+rest.length≤sizeLine) ?_ ?_ ds [] ρ S ⟨rfl,rfl,λ_ h=>h,rfl,by simpa using hl⟩
 ·rintro d rest acc _ _ ⟨rfl,rfl,hm,ha,hb⟩;obtain⟨ρ1,e,k⟩:=hs d (hm d (bK ..));rw[aG] at hb;refine gK e (cM k (λb ρ2 S2 h=>?_) λ_ _ _ h=>h);cases b with
  |false=>
   obtain⟨hp,w,rfl⟩:=h;refine gK w ⟨rfl,rfl,λx hx=>hm x (bL _ hx),?_,by omega⟩;rw[bH,if_neg (by rw[hp];decide)] at ha;exact ha
  |true=>
   refine cM h (λr ρ3 S3 h=>cM h (λd' ρ3 S3 ⟨e1,hp,w,e2⟩=>?_) λ_ _ _ h=>h) λ_ _ _ h=>h;subst e1 e2;refine oU (by omega) (gK w ⟨rfl,rfl,λx hx=>hm x (List.mem_cons_of_mem _ hx),?_,by simp only[List.length_append,List.length_cons,List.length_nil];omega⟩);rw[bH,if_pos hp] at ha;rw[aK];exact ha
 ·rintro acc _ _ ⟨rfl,rfl,_,ha,_⟩;rw[List.filter_nil,List.map_nil,aN] at ha;subst ha;exact h
/-- each element answers to its own,the store keeps J -/
theorem zvd(J:List Sl->Prop)(R:D->D->Prop)(hl:ds.length≤sizeLine)(h0:J S)(hs:∀d∈ds,∀S,J S->wX (tq g d ρ) λρ1=>wp t ρ1 S (λb ρ2 S2=>wI b (wp c ρ2 S2 (λr ρ3 S3=>wF r ρ3 S3 λd' ρ3 S3=>R d d'∧wq ρ3 vs ρ∧J S3) λ_ _ _=>False) False) λ_ _ _=>False)
  (h:∀acc S,J S->Paired R ds acc->QL acc ρ S):wK vs g t c ds [] ρ S QL:=by iterate
 refine qO (λrest acc ρ' S'=>ρ'=ρ∧J S'∧acc.length+rest.length≤sizeLine∧∃fst,fst++rest=ds∧Paired R fst acc) ?_ ?_ ds [] ρ S ⟨rfl,h0,by simpa using hl,[],rfl,.nil⟩
 ·rintro d rest acc _ S' ⟨rfl,hj,hb,fst,e0,pr⟩;obtain⟨ρ1,e,k⟩:=hs d (by rw[<-e0];exact List.mem_append_right _ (bK ..)) S' hj;rw[aG] at hb;refine gK e (cM k (λb ρ2 S2 h=>?_) λ_ _ _ h=>h);cases b with
  |false=>exact h.elim
  |true=>
   refine cM h (λr ρ3 S3 h=>cM h (λd' ρ3 S3 ⟨e1,w,e2⟩=>?_) λ_ _ _ h=>h) λ_ _ _ h=>h;refine oU (by omega) (gK w ⟨rfl,e2,by simp only[List.length_append,List.length_cons,List.length_nil];omega,fst++[d],by rw[List.append_assoc];exact e0,?_⟩);have app:∀{a b:List D},Paired R a b->Paired R (a++[d]) (b++[d']):=by
    intro a b p
    induction p with
    |nil=>exact .cons e1 .nil
    |cons q _ ih=>exact .cons q ih
   exact app pr
 ·rintro acc _ S' ⟨rfl,hj,_,fst,e0,pr⟩;rw[aN] at e0;subst e0;exact h acc S' hj pr
theorem G4{ci:M (List D)}(h:wp ci ρ S (λds ρ S=>wX (wq ρ vs) λρ'=>wK vs g t c ds [] ρ' S λacc ρ S=>QR (.fr (.lst acc)) ρ S) E):wp (cLc ci vs g t c) ρ S QR E:=by
 unfold wp cLc at *;cases q:ci ρ S with
 |ok f ρ1 S1 t1=>
  rw[q] at h;obtain⟨ρ',e,h⟩:=h;have e:dC ρ1 vs=ρ':=e;subst e;unfold wK at h;simp only[];cases q2:gj vs g t c f [] (dC ρ1 vs) S1 with
  |ok acc ρ2 S2 t2=>rw[q2] at h;exact h
  |ex x ρ S=>rw[q2] at h;exact h.elim
  |bad=>rw[q2] at h;exact h.elim
 |ex x ρ S=>rw[q] at h;exact h
 |bad=>rw[q] at h;exact h
def wKO(f:Nat->D->D)(vs:List Nat)(g:Tgt)(t:M Bool)(c:M Rv)(s:Src)(ρ S:List Sl)(Q:List D->List Sl->List Sl->Prop):Prop:=wr (match s with
 |.its ds=>gj vs g t c ds [] ρ S
 |.ob k=>iW f vs g t c k (jo k S) 0 [] ρ S) Q λ_ _ _=>False
theorem G5{f:Nat->D->D}(h:wK vs g t c ds [] ρ S QL):wKO f vs g t c (.its ds) ρ S QL:=h
theorem G6{f:Nat->D->D}{ci:M Src}(h:wp ci ρ S (λs ρ S=>wX (wq ρ vs) λρ'=>wKO f vs g t c s ρ' S λacc ρ S=>QR (.fr (.lst acc)) ρ S) E):wp (cLcO f ci vs g t c) ρ S QR E:=by iterate
 unfold wp cLcO at *;cases q:ci ρ S with
 |ok s ρ1 S1 t1=>
  rw[q] at h;obtain⟨ρ',e,h⟩:=h;have e:dC ρ1 vs=ρ':=e;subst e;unfold wKO at h;cases s with
  |its ds=>
   simp only[] at h ⊢;cases q2:gj vs g t c ds [] (dC ρ1 vs) S1 with
   |ok acc ρ2 S2 t2=>rw[q2] at h;exact h
   |ex x ρ S=>rw[q2] at h;exact h.elim
   |bad=>rw[q2] at h;exact h.elim
  |ob k=>
   simp only[] at h ⊢;cases q2:iW f vs g t c k (jo k S1) 0 [] (dC ρ1 vs) S1 with
   |ok acc ρ2 S2 t2=>rw[q2] at h;exact h
   |ex x ρ S=>rw[q2] at h;exact h.elim
   |bad=>rw[q2] at h;exact h.elim
 |ex x ρ S=>rw[q] at h;exact h
 |bad=>rw[q] at h;exact h
variable{P:Rv->Prop}{P1:Option Int->Prop}{PB:Bool->Prop}{PL:List D->Prop}{PS:Src->Prop}{a b':Int}{x y:Str}{xs ys:List D}{D1:D}
theorem G7(h:P (.d (.int (a+b')))):wO (oAdd (.int a) (.int b')) P:=⟨_,rfl,h⟩
theorem zmP(l:xs.length+ys.length≤sizeLine)(h:P (.fr (.lst (xs++ys)))):wO (oAdd (.lst xs) (.lst ys)) P:=⟨.fr (.lst (xs++ys)),by simp only[oAdd,v7,oInt,tD,tE,if_pos l];rfl,h⟩
theorem G8(h:P (.d (.int (a - b')))):wO (oSub (.int a) (.int b')) P:=⟨_,rfl,h⟩
theorem iZ(l:a.natAbs<2 ^ 64∨b'.natAbs<2 ^ 64∨(a.natAbs<2 ^ 400000∧b'.natAbs<2 ^ 400000))(h:P (.d (.int (a*b')))):wO (oMul (.int a) (.int b')) P:=⟨.d (.int (a*b')),by
 have:kZ (.int a) (.int b')=some (.d (.int (a*b'))):=by simp only[kZ,oInt,if_pos l];rfl
 simp only[oMul,this];rfl,h⟩
theorem G9(l:0<b')(h:P (.d (.int (a % b')))):wO (oMod (.int a) (.int b')) P:=⟨_,tX l,h⟩
theorem Hf(l:0<b')(l2:b'<1152921504606846976)(h:P (.d (.int (a / b')))):wO (jA (.int a) (.int b')) P:=⟨_,tY l l2,h⟩
theorem Hg(h:P (.d (.bl (decide (a<b'))))):wO (oLt (.int a) (.int b')) P:=⟨_,rfl,h⟩
theorem Hh(h:P (.d (.bl (decide (a≤b'))))):wO (oLe (.int a) (.int b')) P:=⟨_,rfl,h⟩
theorem Hi(h:P (.d (.bl (decide (b'<a))))):wO (oGt (.int a) (.int b')) P:=⟨_,rfl,h⟩
theorem Hj(h:P (.d (.bl (decide (b'≤a))))):wO (oGe (.int a) (.int b')) P:=⟨_,rfl,h⟩
theorem Hk(h:P (.d (.bl (decide (a=b'))))):wO (oEq false (.int a) (.int b')) P:=⟨_,tZ a b',h⟩
theorem Hl(h:P (.d (.bl (!decide (a=b'))))):wO (oEq true (.int a) (.int b')) P:=⟨_,t8 a b',h⟩
theorem Hm(h:P (.d (.bl (decide (x=y))))):wO (oEq false (.str x) (.str y)) P:=⟨_,QT x y,h⟩
theorem zn0(a b:Str):oEq true (.str a) (.str b)=some (.d (.bl (!decide (a=b)))):=by
 show some (Rv.d (.bl (true != decide (V.str a=V.str b))))=_;rw[QJ];simp
theorem Hn(h:P (.d (.bl (!decide (x=y))))):wO (oEq true (.str x) (.str y)) P:=⟨_,zn0 x y,h⟩
theorem Ho{p q:Bool}(h:P (.d (.bl (p == q)))):wO (oEq false (.bl p) (.bl q)) P:=⟨_,QM p q,h⟩
theorem Hq{p q:Bool}(h:P (.d (.bl (!(p == q))))):wO (oEq true (.bl p) (.bl q)) P:=⟨_,QQ p q,h⟩
/-- neg,== worked out -/
theorem Rm{neg:Bool}(h:P (.d (.bl (neg != D1.isNon)))):wO (oIs neg D1 .non) P:=⟨_,rfl,h⟩
theorem Hr{neg:Bool}(h:P (.d (.bl (neg != !(Builtin.Str.occurrences y x 0 y.length 1).isEmpty)))):wO (oIn neg (.str x) (.str y)) P:=⟨.d (.bl (neg != !(Builtin.Str.occurrences y x 0 y.length 1).isEmpty)),by
 have:oInL neg (.str x) (.str y)=none:=rfl;simp only[oIn,this];rfl,h⟩
theorem Ht{p:Bool}(h:PB p):wO (truD (.bl p)) PB:=⟨_,rfl,h⟩
theorem Hu(l:x.length≤sizeLine)(h:PB ((x.length:Int) != 0)):wO (truD (.str x)) PB:=⟨(x.length:Int) != 0,by simp only[truD,if_pos l],h⟩
theorem Hv(h:P1 (some a)):wO (qd (.int a)) P1:=⟨_,rfl,h⟩
theorem Hw(h:PL xs):wO (D.its (.lst xs)) PL:=⟨_,rfl,h⟩
theorem Hz(h:PL xs):wO (D.its (.kl xs)) PL:=⟨_,rfl,h⟩
theorem HD(h:PL xs):wO (D.its (.tup xs)) PL:=⟨_,rfl,h⟩
theorem HF(h:PL xs):wO (D.its (.kt xs)) PL:=⟨_,rfl,h⟩
theorem HJ(h:PL (jj x)):wO (D.its (.str x)) PL:=⟨_,rfl,h⟩
theorem HQ(h:PS (.its xs)):wO (srcR S (.lst xs)) PS:=⟨_,rfl,h⟩
theorem HR(h:PS (.its xs)):wO (srcR S (.kl xs)) PS:=⟨_,rfl,h⟩
theorem HS(h:PS (.its xs)):wO (srcR S (.tup xs)) PS:=⟨_,rfl,h⟩
theorem HW(h:PS (.its xs)):wO (srcR S (.kt xs)) PS:=⟨_,rfl,h⟩
theorem HX(h:PS (.its (jj x))):wO (srcR S (.str x)) PS:=⟨_,rfl,h⟩
theorem uK(e:nt S k (.lst xs))(h:PS (.ob k)):wO (srcR S (.ob k)) PS:=⟨.ob k,by have e:S[k]? = _:=e;simp only[srcR,e],h⟩
theorem HY(h:PS (.its (iG 0 xs))):wO (jr S [.lst xs]) PS:=⟨_,rfl,h⟩
theorem Ib(h:PS (.its (iG 0 xs))):wO (jr S [.kl xs]) PS:=⟨_,rfl,h⟩
theorem Ie(h:PS (.its (iG 0 xs))):wO (jr S [.tup xs]) PS:=⟨_,rfl,h⟩
theorem Ig(h:PS (.its (iG 0 xs))):wO (jr S [.kt xs]) PS:=⟨_,rfl,h⟩
theorem Ih(h:PS (.its (iG 0 (jj x)))):wO (jr S [.str x]) PS:=⟨_,rfl,h⟩
theorem Ii(e:nt S k (.lst xs))(h:PS (.ob k)):wO (jr S [.ob k]) PS:=⟨.ob k,by have e:S[k]? = _:=e;simp only[jr,e],h⟩
theorem Ij(h:PL (zipD xs ys)):wO (zipO [.lst xs,.lst ys]) PL:=⟨_,rfl,h⟩
theorem Ik(h:PL (zipD xs ys)):wO (zipO [.tup xs,.tup ys]) PL:=⟨_,rfl,h⟩
theorem Il(h:PL (zipD xs ys)):wO (zipO [.tup xs,.kt ys]) PL:=⟨_,rfl,h⟩
theorem Im(h:PL (zipD xs ys)):wO (zipO [.kt xs,.tup ys]) PL:=⟨_,rfl,h⟩
theorem Io(h:P (.d (.int xs.length))):wO (gLen [.lst xs]) P:=⟨_,rfl,h⟩
theorem Ip(h:P (.d (.int xs.length))):wO (gLen [.kl xs]) P:=⟨_,rfl,h⟩
theorem Ir(h:P (.d (.int xs.length))):wO (gLen [.tup xs]) P:=⟨_,rfl,h⟩
theorem Iu(h:P (.d (.int xs.length))):wO (gLen [.kt xs]) P:=⟨_,rfl,h⟩
theorem Iv(l:x.length≤sizeLine)(h:P (.d (.int x.length))):wO (gLen [.str x]) P:=⟨_,zm6 l,h⟩
theorem Iw(h:P (.d (.int a))):wO (gInt [.int a]) P:=⟨_,rfl,h⟩
theorem Iz(h:P (.d (.int (if a<0 then -a else a)))):wO (gAbs [.int a]) P:=⟨_,rfl,h⟩
theorem IK(h:P (.fr (.lst xs))):wO (fK [.lst xs]) P:=⟨_,rfl,h⟩
theorem IV(h:P (.fr (.lst xs))):wO (fK [.kl xs]) P:=⟨_,rfl,h⟩
theorem IW(h:P (.fr (.lst xs))):wO (fK [.tup xs]) P:=⟨_,rfl,h⟩
theorem Jc(h:P (.fr (.lst xs))):wO (fK [.kt xs]) P:=⟨_,rfl,h⟩
theorem Jd(l:x.length≤sizeLine)(h:P (.fr (.lst (jj x)))):wO (fK [.str x]) P:=⟨.fr (.lst (jj x)),by
 have:xq [.str x]=none:=rfl;simp only[fK,this,tQ,if_pos l];rfl,h⟩
theorem Je(h:P (.d (.tup xs))):wO (gTup [.lst xs]) P:=⟨_,rfl,h⟩
theorem Jf(h:P (.d (.tup xs))):wO (gTup [.tup xs]) P:=⟨_,rfl,h⟩
theorem Ro{ns:List Bool}(e:blsD xs=some ns)(h:P (.d (.bl (ns.all id)))):wO (gAll [.lst xs]) P:=⟨.d (.bl (ns.all id)),by simp only[gAll,e];rfl,h⟩
theorem fV(e:atI xs a=some D1)(h:P (.d D1)):wO (oGet (.lst xs) (.int a)) P:=⟨.d D1,by rw[ue,e];rfl,h⟩
theorem il(e:atI xs a=some D1)(h:P (.d D1)):wO (oGet (.tup xs) (.int a)) P:=⟨.d D1,by rw[uf,e];rfl,h⟩
theorem zmx{c:Nat}(l:x.length≤sizeLine)(e:atI x.cps.toList a=some c)(h:P (.d (.str ⟨#[c]⟩))):wO (oGet (.str x) (.int a)) P:=⟨_,by rw[zmL l,e];rfl,h⟩
theorem oW{α:Type}{x:α}{xs:List α}:atI (x::xs) 0=some x:=by rw[jk (by decide)];rfl
theorem oX{α:Type}{x y:α}{xs:List α}:atI (x::y::xs) 1=some y:=by rw[jk (by decide)];rfl
theorem oY{α:Type}{x y z:α}{xs:List α}:atI (x::y::z::xs) 2=some z:=by rw[jk (by decide)];rfl
theorem oZ{α:Type}{x y z w:α}{xs:List α}:atI (x::y::z::w::xs) 3=some w:=by rw[jk (by decide)];rfl
theorem Jg{α:Type}{x y z w v:α}{xs:List α}:atI (x::y::z::w::v::xs) 4=some v:=by rw[jk (by decide)];rfl
theorem atI_nat{α:Type}{x:α}{xs:List α}{n:Nat}(h:xs[n]? = some x):atI xs (n:Int)=some x:=by rw[jk (Int.natCast_nonneg n)];exact h
theorem Jh{lo hi:Option Int}(h:P (.fr (.lst (cutD xs lo hi)))):wO (oCut (.lst xs) lo hi) P:=⟨_,rfl,h⟩
theorem Ji{lo hi:Option Int}(h:P (.fr (.lst (cutD xs lo hi)))):wO (oCut (.kl xs) lo hi) P:=⟨_,rfl,h⟩
theorem Jj{lo hi:Option Int}(l:x.length≤sizeLine)(h:P (.d (.str (cutS x lo hi)))):wO (oCut (.str x) lo hi) P:=⟨_,cut_str l lo hi,h⟩
theorem map_eraseIdx{α β:Type}(f:α->β):∀(xs:List α) (n:Nat),(xs.map f).eraseIdx n=(xs.eraseIdx n).map f
 |[],_=>rfl
 |_::_,0=>rfl
 |x::xs,n+1=>congrArg (f x::·) (map_eraseIdx f xs n)
theorem zrE{PQ:D->Sl->Prop}(l:0≤a∧a<xs.length)(l2:a<2 ^ 63)(e:xs[a.toNat]? = some d)(h:PQ d (.lst (xs.eraseIdx a.toNat))):wO2 (oH (.lst xs) [.int a]) PQ:=⟨d,.lst (xs.eraseIdx a.toNat),by
 have q:seqIndex? a xs.length=some a.toNat:=by
  unfold seqIndex?;have h1:¬a<0:=by omega
  simp only[h1,if_false];have h2:(decide (0≤a) && decide (a<(xs.length:Int)))=true:=by simp[l.1,l.2]
  rw[if_pos h2]
 have c:-(2 ^ 63)≤a∧a<2 ^ 63:=⟨by omega,l2⟩;simp only[oH,if_pos c,q,Option.bind_some,e];rfl,h⟩
theorem zmt{PX:Sl->Prop}{j:Nat}(e:ixN xs.length a=some j)(h:PX (.lst (xs.set j d))):wO (stS (.lst xs) (.int a) d) PX:=⟨.lst (xs.set j d),by
 simp only[stS,stL,e];rfl,h⟩
end
end
section
section
variable{α:Type}{ρ ρ' S S' T:List Sl}{E:XQ}{i j n k c:Nat}{QF:Fl->List Sl->List Sl->Prop}{QR:Rv->List Sl->List Sl->Prop}{QD:D->List Sl->List Sl->Prop}{d:D}{fs:List (Str×D)}{f g:Str}
theorem Jk{c:M α}{Q:α->List Sl->List Sl->Prop}(h:wp c ρ S Q E):wp c ρ S Q E:=h
theorem Jl{o:Option α}{P:α->Prop}(h:wO o P):wO o P:=h
theorem Jo{r:Rv}{P:D->Prop}(h:wC r ρ S P):wC r ρ S P:=h
theorem Jp{a b c d:Nat}{q:Prop}(h:a=b)(k:c=d)(z:q):wG (a=b∧c=d) q:=⟨⟨h,k⟩,z⟩
theorem Jq{b:Bool}{q:Prop}(h:b=true)(z:q):wG (b=true) q:=⟨h,z⟩
theorem Jr{a b:Nat}{q:Prop}(h:a≤b)(z:q):wG (a≤b) q:=⟨h,z⟩
theorem Jt{a:Nat}(h:Nat.ble a 1000=true):a≤sizeLine:=dG (Nat.le_of_ble_eq_true h)
theorem Ju{n:Nat}{sub:Nat->Nat->Bool}{ds:List D}{P:Bool->Prop}(e:isiR n sub S ds=some true)(h:P true):wO (isiR n sub S ds) P:=⟨_,e,h⟩
theorem Jv{n:Nat}{sub:Nat->Nat->Bool}{ds:List D}{P:Bool->Prop}(e:isiR n sub S ds=some false)(h:P false):wO (isiR n sub S ds) P:=⟨_,e,h⟩
theorem Jw{z:Str}:tyD "str" (.str z)=true:=by simp[tyD]
theorem Jx{z:List D}:tyD "list" (.lst z)=true:=by simp[tyD]
theorem Jy{z:List D}:tyD "list" (.kl z)=true:=by simp[tyD]
theorem Jz{z:List D}:tyS "list" (.lst z)=true:=by simp[tyS]
theorem JB{neg:Bool}{D1:D}{P:Rv->Prop}(e:(neg != D1.isNon)=true)(h:P (.d (.bl true))):wO (oIs neg D1 .non) P:=Rm (by rw[e];exact h)
theorem JC{neg:Bool}{D1:D}{P:Rv->Prop}(e:(neg != D1.isNon)=false)(h:P (.d (.bl false))):wO (oIs neg D1 .non) P:=Rm (by rw[e];exact h)
theorem JD{b:Bool}{p q:Prop}(h:wI b q p):wI (!b) p q:=by cases b<;>exact h
theorem JF{p q:Prop}(h:p):wI (true == true) p q:=h
theorem JG{p q:Prop}(h:p):wI (false == false) p q:=h
theorem JH{p q:Prop}(h:q):wI (true == false) p q:=ux rfl h
theorem JK{p q:Prop}(h:q):wI (false == true) p q:=ux rfl h
theorem qQ{c p q:Prop}[Decidable c](h:c)(k:p):wI (decide c) p q:=Q9 (aP h) k
theorem JL{c p q:Prop}[Decidable c](h:¬c)(k:q):wI (decide c) p q:=ux (aQ h) k
theorem uL{c:Nat}{fs:List (Str×D)}{g:D->D->Option Rv}{h:List D->List Sl->Res Rv}{e:D}(n:two2 g (some (.ins c fs)) (cont ρ S (.d e))=none)(k:wA h [.ins c fs,e] ρ S QR E):wQ g h (.d (.ins c fs)) (.d e) ρ S QR E:=Rh n k
theorem JM{c:Nat}{fs:List (Str×D)}{g:List D->Option Rv}{h:List D->List Sl->Res Rv}(n:one1 g (some (.ins c fs))=none)(k:wA h [.ins c fs] ρ S QR E):wW g h (.d (.ins c fs)) ρ S QR E:=zwu n k
def lk(f:Str)(fs:List (Str×D))(d:D):Prop:=fs.lookup f=some d
def lkn(f:Str)(fs:List (Str×D)):Prop:=fs.lookup f=none
theorem lk_z:lk f ((f,d)::fs) d:=by rw[lk,List.lookup_cons];simp
theorem lk_s{x:D}(n:(f == g)=false)(h:lk f fs d):lk f ((g,x)::fs) d:=by rw[lk,List.lookup_cons,n];exact h
theorem JN:lkn f []:=rfl
theorem JP{x:D}(n:(f == g)=false)(h:lkn f fs):lkn f ((g,x)::fs):=by rw[lkn,List.lookup_cons,n];exact h
theorem JQ{F:Nat->Str->Bool}{P:D->Prop}(t:F c f=true)(e:lk f fs d)(h:P d):wO (fldR F f (getO (.d (.ins c fs)) ρ S)) P:=⟨d,by
 show(if F c f=true then fs.lookup f else none)=some d
 rw[if_pos t];exact e,h⟩
theorem JR{mn:Str}{q:Prop}(h:lkn mn fs)(z:q):wG (lE c mn (.ins c fs) S=true) q:=⟨by
 show(decide (c=c) && (fs.lookup mn).isNone)=true;rw[show fs.lookup mn=none from h];simp,z⟩
theorem JS:(Sl.ins c (objF fs)).frz=.ins c fs:=by rw[Sl.frz,QX]
theorem JT(h:QD (.ins c fs) ρ S):wF (.fr (.ins c (objF fs))) ρ S QD:=Ra JS h
theorem JV{P:Rv->Prop}(h:P (.d (.ins c fs))):wZ (.fr (.ins c (objF fs))) P:=zz9 JS h
theorem JW(e:st ρ i (.val (.ins c fs)) ρ')(h:QF .nx ρ' S):wS false i (.fr (.ins c (objF fs))) ρ S QF:=Ci JS e h
/-- a field of the new object -/
theorem Rp{F:Nat->Str->Bool}{P:Sl->Prop}{gs:List (Str×D)}{ss:List (Str×Sl)}(e:nt ρ i (.ins c ss))(v:jK ss=some fs)(t:F c f=true)(l:fs.length<1000)(z:puF f d fs=gs)(h:P (.ins c (objF gs))):wO (fstR F f d (getW (.env i) ρ S)) P:=⟨.ins c (objF gs),by
 have e:ρ[i]? = _:=e;subst z;simp only[getW,e,Option.bind_some,Sl.obj?,v,Option.map_some,fstR,t,l,and_self,if_true],h⟩
end
section
variable{T:List Sl}{b:Sl}{n:Int}{Q:Rv->List Sl->Prop}{E:Exn->List Sl->Prop}
theorem ph(hb:Bag b)(h0:0<n)(h1:n<1152921504606846976)(h:∀v b',Bag b'->0≤v->v<n->Q (.d (.int v)) (b'::T)):wm fO [.ob 0,.int n] (b::T) Q E:=by
 obtain⟨v,b',v0,v1,hb',e⟩:=Bag.draw n hb h0 h1;exact uw (e T) (h v b' hb' v0 v1)
theorem JX(hb:Bag b){ds:List D}(h0:0<ds.length)(h1:ds.length<1000)(h:∀d b',Bag b'->d∈ds->Q (.d d) (b'::T)):wm ofM [.ob 0,.lst ds] (b::T) Q E:=by
 obtain⟨v,b',m,hb',e⟩:=hb.of_lst h0 h1;exact uw (e T) (h v b' hb' m)
theorem zxE{ns:List Int}{S:List Sl}(h:∀b,Bag (.lst b)->Q (.fr (.lst b)) S):wm ug [.kl (ns.map .int)] S Q E:=by
 obtain⟨b,hb,e⟩:=zuy ns S;exact uw e (h b hb)
end
end
local macro_rules
  | `(tactic| symm) => `(tactic| repeat (first
  | ((with_reducible refine Jk ?_); first
   | ((with_reducible apply qJ); (focus ((repeat (first | with_reducible apply nt_z | with_reducible apply nt_s | with_reducible apply dw | with_reducible apply dD)); done)))
   | (with_reducible first | refine wp_C ?_ | refine qM ?_ | refine uD ?_ | refine Dj ?_ | refine Di ?_ | refine qK ?_ | refine Ed ?_ | refine Ek ?_ | refine Eh ?_ | refine qL ?_ | refine Dk ?_ | refine wp_call ?_ | refine qN ?_ | refine Ec ?_ | refine CT ?_ | refine CV ?_ | refine CQ ?_ | refine CP ?_ | refine Df ?_ | refine CW ?_ | refine CZ ?_ | refine De ?_ | refine Es ?_ | refine Et ?_ | refine uF ?_ | refine uE ?_ | refine CN ?_ | refine Dz ?_ | refine Gz ?_ | refine GD ?_ | refine FQ ?_ | refine FW ?_ | refine FZ ?_ | refine Ge ?_ | refine Gi ?_ | refine Gj ?_ | refine Gn ?_ | refine G4 ?_ | refine G6 ?_ | refine Dh ?_ | refine Dm ?_ | refine Dr ?_ | refine Do ?_ | refine Dq ?_ | refine Dg ?_ | refine Ef ?_ | refine Ei ?_ | refine El ?_ | refine Eo ?_ | refine Eu ?_ | refine Ey ?_ | refine Fd ?_ | refine Ds ?_ | refine Dt ?_ | refine Du ?_ | refine Dy ?_ | refine DG ?_ | refine DK ?_ | refine DQ ?_ | refine DN ?_ | refine DP ?_ | refine uH ?_ | refine Ea ?_)
   | ((with_reducible apply CG); (focus ((repeat (first | with_reducible apply nt_z | with_reducible apply nt_s | with_reducible apply dw | with_reducible apply dD)); done)); exact rfl)
   | ((with_reducible apply CJ); (focus ((repeat (first | with_reducible apply nt_z | with_reducible apply nt_s | with_reducible apply dw | with_reducible apply dD)); done))))
  | ((with_reducible refine Jl ?_); first
   | (with_reducible first | refine G7 ?_ | refine G8 ?_)
   | ((with_reducible refine iZ (Or.inr (Or.inl ?_)) ?_); decide)
   | ((with_reducible refine iZ (Or.inl ?_) ?_); decide)
   | ((with_reducible refine G9 ?_ ?_); decide)
   | ((with_reducible refine Hf ?_ ?_ ?_); decide; decide)
   | (with_reducible first | refine Hg ?_ | refine Hh ?_ | refine Hi ?_ | refine Hj ?_ | refine Hk ?_ | refine Hl ?_ | refine Hm ?_ | refine Hn ?_ | refine Ho ?_ | refine Hq ?_ | refine Hr ?_)
   | with_reducible refine fV oW ?_
   | with_reducible refine fV oX ?_
   | with_reducible refine fV oY ?_
   | with_reducible refine fV oZ ?_
   | with_reducible refine fV Jg ?_
   | with_reducible refine il oW ?_
   | with_reducible refine il oX ?_
   | with_reducible refine il oY ?_
   | with_reducible refine il oZ ?_
   | (with_reducible first | refine Ht ?_ | refine Io ?_ | refine Ir ?_ | refine Ip ?_ | refine Iu ?_ | refine Iw ?_ | refine Iz ?_ | refine IK ?_ | refine IV ?_ | refine IW ?_ | refine Jc ?_)
   | ((with_reducible refine Jd ?_ ?_); focus first | assumption | exact dG (by decide +kernel))
   | ((with_reducible refine Iv ?_ ?_); focus first | assumption | exact dG (by decide +kernel))
   | ((with_reducible refine Hu ?_ ?_); focus first | assumption | exact dG (by decide +kernel))
   | ((with_reducible refine Jj ?_ ?_); focus first | assumption | exact dG (by decide +kernel))
   | (with_reducible first | refine Je ?_ | refine Jf ?_)
   | ((with_reducible refine Ju ?_ ?_); exact rfl)
   | ((with_reducible refine Jv ?_ ?_); exact rfl)
   | ((with_reducible refine JB ?_ ?_); exact rfl)
   | ((with_reducible refine JC ?_ ?_); exact rfl)
   | ((with_reducible refine uJ ?_ ?_); decide)
   | ((with_reducible refine Gh ?_ ?_); decide)
   | (with_reducible first | refine Ij ?_ | refine Ik ?_ | refine Il ?_ | refine Im ?_ | refine Hw ?_ | refine Hz ?_ | refine HD ?_ | refine HF ?_ | refine HJ ?_ | refine HQ ?_ | refine HR ?_ | refine HS ?_ | refine HW ?_ | refine HX ?_)
   | ((with_reducible apply uK); (focus ((repeat (first | with_reducible apply nt_z | with_reducible apply nt_s | with_reducible apply dw | with_reducible apply dD)); done)))
   | (with_reducible first | refine HY ?_ | refine Ib ?_ | refine Ie ?_ | refine Ig ?_ | refine Ih ?_)
   | ((with_reducible apply Ii); (focus ((repeat (first | with_reducible apply nt_z | with_reducible apply nt_s | with_reducible apply dw | with_reducible apply dD)); done)))
   | (with_reducible first | refine Hv ?_ | refine Jh ?_ | refine Ji ?_ | refine Cz ?_)
   | ((with_reducible apply JQ); focus decide +kernel))
  | ((with_reducible refine Jo ?_); first
   | (with_reducible first | refine Bs ?_ | refine qH ?_ | refine Bx ?_ | refine BK ?_)
   | ((with_reducible apply qI); (focus ((repeat (first | with_reducible apply nt_z | with_reducible apply nt_s | with_reducible apply dw | with_reducible apply dD)); done)))
   | ((with_reducible apply BV); (focus ((repeat (first | with_reducible apply nt_z | with_reducible apply nt_s | with_reducible apply dw | with_reducible apply dD)); done)))
   | (with_reducible first | refine BR ?_ | refine Bt ?_ | refine Bu ?_ | refine BJ ?_ | refine BL ?_ | refine Bv ?_ | refine Bw ?_ | refine BP ?_))
  | (with_reducible first | apply nt_z | apply nt_s | apply st_z | apply st_s | refine wF_d ?_ | refine BX ?_ | refine BW ?_ | refine Ck ?_ | apply wS_d | apply Cj | apply Cg | refine BZ ?_ | refine wI_t ?_ | refine wI_f ?_ | refine JD ?_ | refine JF ?_ | refine JG ?_ | refine JH ?_ | refine JK ?_)
  | ((with_reducible refine qQ ?_ ?_); (focus first | assumption | omega | exact aR rfl))
  | ((with_reducible refine JL ?_ ?_); (focus first | assumption | omega | exact of_decide_eq_false rfl))
  | ((with_reducible refine Jp ?_ ?_ ?_); exact rfl; exact rfl)
  | (with_reducible first | apply Fj | apply Fy | apply Fv | apply Ft | apply Fq | apply Fp | apply Fo | apply Fx | apply Fw | apply nd_z | apply nd_s | refine wV_d ?_ | refine Cd ?_)
  | ((with_reducible apply Ce); (focus ((repeat (first | with_reducible apply nt_z | with_reducible apply nt_s | with_reducible apply dw | with_reducible apply dD)); done)); (focus exact rfl))
  | (with_reducible first | refine Cy ?_ | refine Cv ?_ | refine Cm ?_ | refine Cp ?_ | refine Cq ?_ | refine Gp ?_ | refine Gv ?_ | refine Gu ?_ | refine Gq ?_)
  | ((with_reducible apply uA); (focus ((repeat (first | with_reducible apply nt_z | with_reducible apply nt_s | with_reducible apply dw | with_reducible apply dD)); done)); exact rfl)
  | ((with_reducible apply Cr); (focus ((repeat (first | with_reducible apply nt_z | with_reducible apply nt_s | with_reducible apply dw | with_reducible apply dD)); done)); exact rfl)
  | (with_reducible first | apply uB | apply Cu)
  | ((with_reducible refine Jq ?_ ?_); focus first | with_reducible exact Jw | with_reducible exact Jx | with_reducible exact Jz | with_reducible exact Jy)
  | ((with_reducible refine Jr ?_ ?_); exact Jt rfl)
  | (with_reducible first | refine Ca ?_ | refine JT ?_ | refine GJ ?_ | refine G5 ?_ | apply gK | apply GZ | apply G3 | apply uI | apply EY | apply Fb | apply En | apply Ep | apply Bo | apply Bp | apply Bq | apply Br | apply dw | apply dD | apply uv | apply Bm | apply Ew | apply Ez | apply lk_z)
  | ((with_reducible refine lk_s ?_ ?_); focus decide +kernel)
  | with_reducible apply JN
  | ((with_reducible refine JP ?_ ?_); focus decide +kernel)
  | (with_reducible first | refine JR ?_ ?_ | refine wZ_d ?_)
  | ((with_reducible refine uL ?_ ?_); exact rfl)
  | with_reducible refine DY ?_
  | ((with_reducible refine JM ?_ ?_); exact rfl)
  | (with_reducible first | refine Eb ?_ | refine DR ?_ | refine JV ?_ | refine DW ?_ | apply JW | apply Ff | apply Fe | apply rp_s | apply rp_z | apply Fg)
  ))
section
section
variable{n:Nat}{sub:Nat->Nat->Bool}
def gM(n:Nat)(sub:Nat->Nat->Bool)(rec:List D->List Sl->Res Rv):M Fl:=(cSeq (cIfS (cOrB (cTst (cBin (oIs false) (bY 1) (cC .non))) (cTst (cBin (oIs false) (bY 0) (cC .non)))) (cRet (cAnd (cBin (oIs false) (bY 1) (cC .non)) (cBin (oIs false) (bY 0) (cC .non)))) cNx)
  (cSeq (cIfS (cTru (cIsi n sub (bZ (bY 1) (bZ (cTup (bZ (cC (.ty "list")) (bZ (cC (.ty "tuple")) cG))) cG)))) (cSeq (cIfS (cOrB (cTst (cBin (oEq true) (cIsi n sub (bZ (bY 0) (bZ (cC (.ty "list")) cG))) (cIsi n sub (bZ (bY 1) (bZ (cC (.ty "list")) cG))))) (cTst (cBin (oEq true) (cIsi n sub (bZ (bY 0) (bZ (cC (.ty "tuple")) cG))) (cIsi n sub (bZ (bY 1) (bZ (cC (.ty "tuple")) cG)))))) (cRet (cC (.bl false))) cNx)
  (cRet (cAnd (cBin (oEq false) (cBlt gLen (cV (bY 0) cU)) (cBlt gLen (cV (bY 1) cU))) (cBlt gAll (cV (cLc (cZip (bZ (bY 0) (bZ (bY 1) cG))) [2,3] (.tp [2,3]) cYes (cY rec 2 0 cb2 (bZ (bY 2) (bZ (bY 3) cG)) cG)) cU))))) cNx)
  (cSeq (cIfS (cOrB (cTst (cBin (oEq true) (cIsi n sub (bZ (bY 1) (bZ (cC (.ty "bool")) cG))) (cIsi n sub (bZ (bY 0) (bZ (cC (.ty "bool")) cG))))) (cTst (cBin (oEq true) (cIsi n sub (bZ (bY 1) (bZ (cC (.ty "int")) cG))) (cIsi n sub (bZ (bY 0) (bZ (cC (.ty "int")) cG)))))) (cRet (cC (.bl false))) cNx)
  (cRet (cAnd (cBin (oEq false) (cIsi n sub (bZ (bY 1) (bZ (cC (.ty "str")) cG))) (cIsi n sub (bZ (bY 0) (bZ (cC (.ty "str")) cG)))) (cBin (oEq false) (bY 0) (bY 1)))))))
def iI(n:Nat)(sub:Nat->Nat->Bool):Nat->List D->List Sl->Res Rv
 |0=>λ_ _=>.bad
 |k+1=>defM 4 (gM n sub (iI n sub k))
/-- the comparison says True and changes nothing -/
def Sq(n:Nat)(sub:Nat->Nat->Bool)(k:Nat)(x y:D):Prop:=∀S,wm (iI n sub k) [x,y] S (λr S'=>r=.d (.bl true)∧S'=S) λ_ _=>False
theorem Sq.w{k:Nat}{x y:D}{S:List Sl}{Q:Rv->List Sl->Prop}{E:Exn->List Sl->Prop}(h:Sq n sub k x y)(q:Q (.d (.bl true)) S):wm (iI n sub k) [x,y] S Q E:=
 zxJ (h S) λa S' ⟨e,e2⟩=>by subst e e2;exact q
theorem zxC{k:Nat}:Sq n sub (k+1) .non .non:=λS=>by
 show wm (defM 4 (gM n sub (iI n sub k))) _ _ _ _;unfold gM;apply dM;symm;exact⟨rfl,rfl⟩
theorem zvI{k:Nat}{a:Int}:Sq n sub (k+1) (.int a) (.int a):=λS=>by
 show wm (defM 4 (gM n sub (iI n sub k))) _ _ _ _;unfold gM;apply dM;symm;exact⟨by simp,rfl⟩
theorem zwR{k:Nat}{a:Str}:Sq n sub (k+1) (.str a) (.str a):=λS=>by
 show wm (defM 4 (gM n sub (iI n sub k))) _ _ _ _;unfold gM;apply dM;symm;exact⟨by simp,rfl⟩
theorem zy4{k:Nat}{a:Bool}:Sq n sub (k+1) (.bl a) (.bl a):=λS=>by
 show wm (defM 4 (gM n sub (iI n sub k))) _ _ _ _;unfold gM;apply dM;symm;exact⟨by simp,rfl⟩
theorem Rq{k:Nat}{xs ys:List D}(h:Paired (Sq n sub k) xs ys):∀d∈zipD xs ys,∃x y,d=.tup [x,y]∧Sq n sub k x y:=QV h
theorem JZ:∀{xs ys:List D},(zipD xs ys).length≤xs.length
 |[],_=>Nat.zero_le _
 |_::_,[]=>Nat.zero_le _
 |_::xs,_::ys=>Nat.succ_le_succ (JZ (xs:=xs) (ys:=ys))
theorem Rr(ds:List D):blsD ((ds.filter λ_=>true).map λ_=>D.bl true)=some (List.replicate ds.length true):=by
 induction ds with
 |nil=>rfl
 |cons d r ih=>
  rw[bH,if_pos rfl,ak,blsD,ih];rfl
theorem zvf{k:Nat}{xs ys:List D}(h:Paired (Sq n sub k) xs ys)(hl:xs.length≤1000):Sq n sub (k+1) (.lst xs) (.lst ys):=λS=>by
 show wm (defM 4 (gM n sub (iI n sub k))) _ _ _ _;unfold gM;apply dM;symm;refine qQ (by rw[Bc h]) ?_;symm;refine qP (λ_=>true) (λ_=>.bl true) (dG (bh JZ hl)) ?_ ?_
 ·intro d hd;obtain⟨x,y,rfl,z⟩:=Rq h d hd;symm;refine g8 (Sq.w z ?_);symm;refine⟨rfl,rfl,?_,rfl⟩;symm
 ·symm;refine Ro (Rr _) ?_;symm;exact⟨by simp,rfl⟩
theorem zvK{k:Nat}{xs ys:List D}(h:Paired (Sq n sub k) xs ys)(hl:xs.length≤1000):Sq n sub (k+1) (.tup xs) (.tup ys):=λS=>by
 show wm (defM 4 (gM n sub (iI n sub k))) _ _ _ _;unfold gM;apply dM;symm;refine qQ (by rw[Bc h]) ?_;symm;refine qP (λ_=>true) (λ_=>.bl true) (dG (bh JZ hl)) ?_ ?_
 ·intro d hd;obtain⟨x,y,rfl,z⟩:=Rq h d hd;symm;refine g8 (Sq.w z ?_);symm;refine⟨rfl,rfl,?_,rfl⟩;symm
 ·symm;refine Ro (Rr _) ?_;symm;exact⟨by simp,rfl⟩
/-- data of small depth,with nothing of objects -/
def Pl:Nat->D->Prop
 |0,_=>False
 |k+1,d=>match d with
  |.non=>True
  |.bl _=>True
  |.int _=>True
  |.str _=>True
  |.lst xs=>xs.length≤1000∧∀x∈xs,Pl k x
  |.tup xs=>xs.length≤1000∧∀x∈xs,Pl k x
  |_=>False
theorem same_refl:∀(k:Nat) (d:D),Pl k d->Sq n sub k d d
 |0,_,h=>h.elim
 |k+1,d,h=>by iterate
  have go:∀xs:List D,(∀x∈xs,Pl k x)->Paired (Sq n sub k) xs xs:=by
   intro xs
   induction xs with
   |nil=>exact λ_=>.nil
   |cons x r ih=>exact λh=>.cons (same_refl k x (h x (bK ..))) (ih λy hy=>h y (bL _ hy))
  cases d with
  |non=>exact zxC
  |bl b=>exact zy4
  |int i=>exact zvI
  |str x=>exact zwR
  |lst xs=>exact zvf (go xs h.2) h.1
  |tup xs=>exact zvK (go xs h.2) h.1
  |_=>exact h.elim
theorem zvb{k:Nat}{x y:D}{S:List Sl}{Q:Rv->List Sl->Prop}{E:Exn->List Sl->Prop}(e:x=y)(h:Pl k y)(q:Q (.d (.bl true)) S):wm (iI n sub k) [x,y] S Q E:=by
 subst e;exact(same_refl k x h).w q
theorem jt{P:D->Prop}:∀x∈([]:List D),P x:=λ_ h=>nomatch h
theorem fu{P:D->Prop}{x:D}{xs:List D}(h:P x)(k:∀x∈xs,P x):∀y∈x::xs,P y:=λy hy=>(au.mp hy).elim (λe=>e ▸ h) (k y)
theorem pq{k:Nat}{xs:List D}(l:xs.length≤1000)(h:∀x∈xs,Pl k x):Pl (k+1) (.lst xs):=⟨l,h⟩
theorem uM{k:Nat}{xs:List D}(l:xs.length≤1000)(h:∀x∈xs,Pl k x):Pl (k+1) (.tup xs):=⟨l,h⟩
theorem jO{k:Nat}{a:Int}:Pl (k+1) (.int a):=trivial
theorem jP{k:Nat}{a:Str}:Pl (k+1) (.str a):=trivial
theorem Ru{k:Nat}{a:Bool}:Pl (k+1) (.bl a):=trivial
theorem Rw{k:Nat}:Pl (k+1) .non:=trivial
end
structure EqD{α:Type}(e:α->D)(ok:α->Prop)(n:Nat):Prop where
  ex:∀a,ok a->∃p,dat (e a)=some p∧p.canLay0=true∧p.depth≤n
  eq:∀a b p q,ok a->ok b->dat (e a)=some p->dat (e b)=some q->(PyData.eqv p q=true↔a=b)
section
variable{α β:Type}{e:α->D}{ok:α->Prop}{e2:β->D}{ok2:β->Prop}{n m:Nat}
theorem EqD.int:EqD D.int (λ_=>True) 0 where
 ex:=λa _=>⟨.int a,by rw[dat],by rw[PyData.canLay0],by rw[PyData.depth];exact aO 0⟩
 eq:=λa b p q _ _ h k=>by
  rw[dat] at h k;cases h;cases k;rw[PyData.eqv,beq_iff_eq]
theorem EqD.bl:EqD D.bl (λ_=>True) 0 where
 ex:=λa _=>⟨.bool a,by rw[dat],by rw[PyData.canLay0],by rw[PyData.depth];exact aO 0⟩
 eq:=λa b p q _ _ h k=>by
  rw[dat] at h k;cases h;cases k;rw[PyData.eqv,beq_iff_eq]
theorem EqD.str:EqD D.str (λx=>PyData.strOk x=true) 0 where
 ex:=λa h=>⟨.str a,by rw[dat],by rw[PyData.canLay0];exact h,by rw[PyData.depth];exact aO 0⟩
 eq:=λa b p q _ _ h k=>by
  rw[dat] at h k;cases h;cases k;rw[PyData.eqv,beq_iff_eq]
theorem EqD.all(E:EqD e ok n):∀(xs:List α),(∀x∈xs,ok x)->∃ps,datL (xs.map e)=some ps∧PyData.canLayAll0 ps=true∧PyData.depthAll ps≤n
 |[],_=>⟨[],by rw[List.map_nil,datL],by rw[PyData.canLayAll0],by rw[PyData.depthAll];exact Nat.zero_le _⟩
 |x::xs,h=>by
  obtain⟨p,e1,e2,e3⟩:=E.ex x (h x (bK ..));obtain⟨ps,q1,q2,q3⟩:=E.all xs λy hy=>h y (bL _ hy);refine⟨p::ps,by rw[ak,datL,e1,q1],by rw[PyData.canLayAll0,e2,q2];rfl,by rw[PyData.depthAll];exact Nat.max_le.mpr ⟨e3,q3⟩⟩
theorem EqD.allEq(E:EqD e ok n):∀(xs ys:List α) (ps qs:List PyData),(∀x∈xs,ok x)->(∀x∈ys,ok x)->datL (xs.map e)=some ps->datL (ys.map e)=some qs->(PyData.eqvAll ps qs=true↔xs=ys)
 |[],[],ps,qs,_,_,h,k=>by
  rw[List.map_nil,datL] at h k;cases h;cases k;rw[PyData.eqvAll];simp
 |[],y::ys,ps,qs,_,ho,h,k=>by
  obtain⟨p,e1,_⟩:=E.ex y (ho y (bK ..));obtain⟨rs,q1,_⟩:=E.all ys λz hz=>ho z (bL _ hz);rw[List.map_nil,datL] at h;rw[ak,datL,e1,q1] at k;cases h;cases k;rw[PyData.eqvAll];simp
 |x::xs,[],ps,qs,ho,_,h,k=>by
  obtain⟨p,e1,_⟩:=E.ex x (ho x (bK ..));obtain⟨rs,q1,_⟩:=E.all xs λz hz=>ho z (bL _ hz);rw[List.map_nil,datL] at k;rw[ak,datL,e1,q1] at h;cases h;cases k;rw[PyData.eqvAll];simp
 |x::xs,y::ys,ps,qs,ho,ho2,h,k=>by iterate
  obtain⟨p,e1,_⟩:=E.ex x (ho x (bK ..));obtain⟨rs,q1,_⟩:=E.all xs λz hz=>ho z (bL _ hz);obtain⟨p2,e2,_⟩:=E.ex y (ho2 y (bK ..));obtain⟨rs2,q2,_⟩:=E.all ys λz hz=>ho2 z (bL _ hz);rw[ak,datL,e1,q1] at h;rw[ak,datL,e2,q2] at k;cases h;cases k;rw[PyData.eqvAll,bD,E.eq x y p p2 (ho x (bK ..)) (ho2 y (bK ..)) e1 e2,E.allEq xs ys rs rs2 (λz hz=>ho z (bL _ hz)) (λz hz=>ho2 z (bL _ hz)) q1 q2,List.cons.injEq]
theorem EqD.lst(E:EqD e ok n):EqD (λxs:List α=>D.lst (xs.map e)) (λxs=>∀x∈xs,ok x) (n+1) where
 ex:=λxs h=>by
  obtain⟨ps,e1,e2,e3⟩:=E.all xs h;exact⟨.list ps,by rw[dat,e1];rfl,by rw[PyData.canLay0];exact e2,by rw[PyData.depth];omega⟩
 eq:=λxs ys p q hx hy h k=>by
  obtain⟨ps,e1,_⟩:=E.all xs hx;obtain⟨qs,e2,_⟩:=E.all ys hy;rw[dat,e1] at h;rw[dat,e2] at k;cases h;cases k;rw[PyData.eqv];exact E.allEq xs ys ps qs hx hy e1 e2
theorem EqD.tup(E:EqD e ok n):EqD (λxs:List α=>D.tup (xs.map e)) (λxs=>∀x∈xs,ok x) (n+1) where
 ex:=λxs h=>by
  obtain⟨ps,e1,e2,e3⟩:=E.all xs h;exact⟨.tuple ps,by rw[dat,e1];rfl,by rw[PyData.canLay0];exact e2,by rw[PyData.depth];omega⟩
 eq:=λxs ys p q hx hy h k=>by
  obtain⟨ps,e1,_⟩:=E.all xs hx;obtain⟨qs,e2,_⟩:=E.all ys hy;rw[dat,e1] at h;rw[dat,e2] at k;cases h;cases k;rw[PyData.eqv];exact E.allEq xs ys ps qs hx hy e1 e2
theorem EqD.oEq[DecidableEq α](E:EqD e ok n)(hn:n≤64){a b:α}(sa:(e a).sc=none)(oa:ok a)(ob:ok b)(neg:Bool):oEq neg (e a) (e b)=some (.d (.bl (neg != decide (a=b)))):=by iterate
 obtain⟨p,a1,a2,a3⟩:=E.ex a oa;obtain⟨q,b1,b2,b3⟩:=E.ex b ob;have s1:SeqAt.shaped p=true:=by rw[SeqAt.shaped,a2,aP (bh a3 hn)];rfl
 have s2:SeqAt.shaped q=true:=by rw[SeqAt.shaped,b2,aP (bh b3 hn)];rfl
 have z:PyData.eqv p q=decide (a=b):=by rw[Bool.eq_iff_iff,E.eq a b p q oa ob a1 b1,decide_eq_true_eq]
 unfold DV.oEq oEqS oEqD;simp only[sa,a1,b1,s1,s2,and_self,if_true,z];rfl
end
end
section
section
variable{X:Cx}{Γ:Gm}{W:WX}{w w0 w1:Wd}{σ:L2.St}{ρ S:List Sl}{c k:Nat}{f:Addr}{fd:FuncData}{ps:List Str}{m:List D->List Sl->Res Rv}{g:D->D->Option Rv}{h:List D->List Sl->Res Rv}{r:R2}{a b:Expr}{ca cb:M Rv}{pos:Pos}
abbrev zyC(b:Expr):Prop:=∀o i,subscripted b true o i=runValue (.builtin "lifetime.subscript" ⟨[o,i],[]⟩)
variable(X Γ W) in
def OpDI(g:List D->List Sl->Res Rv):Prop:=∀(value slice:Expr) (pins:List (Addr×Obj)) (s:Shared) (σ:L2.St) (H:Hp) (x y:V) (v u:Value) (Q:VK),Inv X pins σ H s->RelV x v->RelV y u->rDat Γ W g σ [x,y] H Q->zyC slice->
 wpAny (model X.prog X.w) X.A (subscriptTail value slice v u) (EP X pins σ Q) X.xe s
theorem OpDI.or{g g':List D->List Sl->Res Rv}(h:OpDI X Γ W g)(h':OpDI X Γ W g'):OpDI X Γ W (hOr g g'):=λvalue slice pins s σ H x y v u Q I rx ry q z=>q.or.elim (λq=>h value slice pins s σ H x y v u Q I rx ry q z) (λq=>h' value slice pins s σ H x y v u Q I rx ry q z)
end
end
section
section
variable{X:Cx}{Γ:Gm}{W:WX}{P:List Nat}{w w0 w1:Wd}{σ:L2.St}{ρ S:List Sl}{c k:Nat}{f:Addr}{fd:FuncData}{ps:List Str}{m:List D->List Sl->Res Rv}{h:List D->List Sl->Res Rv}
theorem zju{prog:Program}{wd:World}{A:Around}{E:Value->Shared->Prop}{s:Shared}{K:yF}{x C L f:Addr}{h₀:Heap}{m:Str->Option Value}{ox:Obj}{od:Option Obj}{i v:Value}{Q:Unit->Shared->Prop}
  (F:PyProof.Rows.Fr h₀ L s.heap m) (X₀:K.In h₀) (I:PySem.W.InstAt s.heap x ox C od) (hq:PySem.W.noSeq K C=true) (hs:PySem.W.findIn K (.ref C) "__setitem__" = some (some (.ref f))) (hf:PySem.W.isFn K (.ref f)=true)
  (h:wpAny (model prog wd) A (call (.ref f) [.ref x,i,v]) (λ_ s'=>Q () s') E s):wpAny (model prog wd) A (setItem (.ref x) i v) Q E s:=by
 have X:=X₀.keeps F.keep;unfold PySem.setItem PySem.sequenceKey;refine wpAny_holding (wpAny_bind (wpAny_bind (I.type.here ?_)));refine wpAny_bind ((PySem.W.anyM_none X hq).here ?_);rw[if_pos (show(!false)=true from rfl)]
 exact wpAny_pure (wpAny_bind (PySem.W.special_fn X I hs (beq_iff_eq.mp hf) (wpAny_mono h (λ_ _ z=>wpAny_pure z) λ_ _ z=>z)))
/-- a[b]=v,a of the class c -/
def pA(c:Nat)(m:List D->List Sl->Res Rv):List D->List Sl->Res Rv:=λds S=>match ds with
 |[d1,d2,d3]=>if isC c d1 S=true then m [d1,d2,d3] S else .bad
 |_=>.bad
variable(X Γ W) in
def OpDS(g:List D->List Sl->Res Rv):Prop:=∀(pins:List (Addr×Obj)) (s:Shared) (σ:L2.St) (H:Hp) (x y z:V) (v u t:Value) (Q:Hp->Prop),Inv X pins σ H s->RelV x v->RelV y u->RelV z t->rDat Γ W g σ [x,y,z] H (λ_ H'=>Q H')->
 wpAny (model X.prog X.w) X.A (setItem v u t) (λ_ s'=>∃H',Inv X pins σ H' s'∧Q H') X.xe s
theorem zuo(hK:Γ.K=X.K)(hl:ps.length=3)(hq:PySem.W.noSeq X.K (Γ.cA c)=true)(hs:PySem.W.findIn X.K (.ref (Γ.cA c)) "__setitem__" = some (some (.ref f))) (hf:PySem.W.isFn X.K (.ref f)=true)
  (F:FnOk X.prog X.w X.K X.mg X.base (L2.CX X.prog X.w) k f fd ps (spM Γ ps.length m)) (hr:Room k X.A) (hb:Binds X.K fd ps []) (tk:Takes X W):OpDS X Γ W (pA c m):=by iterate
 intro pins s σ H x y z v u t Q I rx ry rz ⟨F0,E,C,R,ρ,S,ds,rel,l,ck⟩
 match ds,l,ck with
 |[d1,d2,d3],l,ck=>
  have l0:=l;rw[RepL] at l;obtain⟨x',vs',e1,rx',l⟩:=l;cases e1;simp only[pA] at ck;split at ck
  ·rename_i hk;obtain⟨a,dx,gs,rfl,ea⟩:=rel.isC rx' hk;cases(show v=Value.ref a from rx)
   obtain⟨mA,Ob,_⟩:=ins_get I.hok ea;obtain⟨od,J,_⟩:=Ob.look;obtain⟨mm,hF⟩:=I.fr;refine zju hF I.ok.mod.kin J hq hs hf ?_;refine wpAny_mono (run_fnS (us:=[.ref a,u,t]) (vs:=[.ref a,y,z]) F hr hb (passAt tk σ) I (.cons rfl (.cons ry (.cons rz .nil))) (rel.spM l0 (by rw[hl];rfl) ck)) (λw s' z=>?_) λ_ _ x=>x;obtain⟨z',H',I',rz,qz⟩:=z;exact⟨H',I',qz⟩
  ·exact ck.elim
 |[],_,ck=>exact ck.elim
 |[_],_,ck=>exact ck.elim
 |[_,_],_,ck=>exact ck.elim
 |_::_::_::_::_,_,ck=>exact ck.elim
def J8(h:List D->List Sl->Res Rv)(cv co ci:M Rv):M Fl:=λρ S=>(cD cv ρ S).bind λd ρ S=>(cD co ρ S).bind λo ρ S=>(cD ci ρ S).bind λi ρ S=>((h [o,i,d] S).at ρ).bind λ_ ρ S=>.ok .nx ρ S false
def zyz(Γ:Gm)(W:WX)(h:List D->List Sl->Res Rv)(to ti:TE):TG:=λv σ H Q=>to σ H λo H1=>ti σ H1 λi H2=>rDat Γ W h σ [o,i,v] H2 λ_ H3=>Q σ H3
theorem zuz{o i:Expr}{to ti:TE}{pos:Pos}(ho:PE X o to)(hi:PE X i ti)(hs:OpDS X Γ W h)
  (ha:∀v,assign (.Subscript o i pos) X.env v=(do
   let ov <-holding [v] (eval o X.env)
   let iv <-holding [v,ov] (eval i X.env)
   standAt pos
   holding [v,ov,iv] (setItem ov iv v)
   release [v,ov,iv] []):=by intro _;rfl):PG X (.Subscript o i pos) (zyz Γ W h to ti):=by iterate
 refine⟨λpins s σ H v u Q I r h=>?_⟩;rw[ha];refine wpAny_bind (wpAny_holding (thn (ho.run pins s σ H _ I h) λov s1 ⟨x,H1,I1,r1,q1⟩=>?_));refine wpAny_bind (wpAny_holding (thn (hi.run pins s1 σ H1 _ I1 q1) λiv s2 ⟨y,H2,I2,r2,q2⟩=>?_));refine wpAny_bind (wpAny_standAt (wpAny_bind (wpAny_holding (thn (hs pins s2 σ H2 x y v ov iv u _ I2 r1 r2 r q2) λ_ s3 ⟨H3,I3,q3⟩=>?_))));exact wpAny_release ⟨σ,H3,I3,q3⟩
theorem zqW{e o i:Expr}{cv co ci:M Rv}{pos tpos:Pos}(hs:OpDS X Γ W h)(he:PE X e (tM Γ W cv))(ho:PE X o (tM Γ W co))(hi:PE X i (tM Γ W ci))
  (ha:∀v,assign (.Subscript o i tpos) X.env v=(do
   let ov <-holding [v] (eval o X.env)
   let iv <-holding [v,ov] (eval i X.env)
   standAt tpos
   holding [v,ov,iv] (setItem ov iv v)
   release [v,ov,iv] []))
  (h1:swapsWithSole [.Subscript o i tpos] e pos.line X.env=pure false) (h2:swappedStores [.Subscript o i tpos] e X.env=pure none) :
  PS X (.Assign [.Subscript o i tpos] e pos) (tS Γ W P (J8 h cv co ci)):=
 (ps_asg he (zuz ho hi hs ha) h1 h2).imp λD σ H ⟨F,E,C,R,ρ,S,rel,sk⟩=>⟨F,E,C,R,ρ,S,rel,CK.datumS sk λd ρ1 S1 w1 v1 x1 rel1 o1 sk1=>
  ⟨w1.F,w1.E,w1.C,w1.R,ρ1,S1,rel1,CK.datumS (SK.ext x1 .refl sk1) λo ρ2 S2 w2 v2 x2 rel2 o2 sk2=>
   ⟨w2.F,w2.E,w2.C,w2.R,ρ2,S2,rel2,CK.datumS (SK.ext x2 .refl sk2) λi ρ3 S3 w3 v3 x3 rel3 o3 sk3=>
    ⟨w3.F,w3.E,w3.C,w3.R,ρ3,S3,[o,i,d],rel3,by
     rw[RepL];refine⟨v2,_,rfl,o2.up x3.gr,?_⟩;rw[RepL];refine⟨v3,_,rfl,o3,?_⟩;rw[RepL];exact⟨v1,_,rfl,(o1.up x2.gr).up x3.gr,by rw[RepL]⟩,by
     cases q:h [o,i,d] S3 with
     |ok r ρ' S' t=>
      rw[q] at sk3;exact λw' v x' e' r' o'=>sk3 w' σ (x3.trans x') .refl r'
     |ex y ρ' S'=>
      rw[q] at sk3;exact λw' cls dd x' r' o'=>sk3 w' σ cls dd (x3.trans x') .refl r' o'
     |bad=>rw[q] at sk3;exact sk3.elim⟩⟩⟩⟩
end
end
section
section
variable{ρ S:List Sl}{E:XQ}{QF:Fl->List Sl->List Sl->Prop}{h m:List D->List Sl->Res Rv}{cv co ci:M Rv}{c:Nat}
theorem Rx(k:wp cv ρ S (λr ρ S=>wF r ρ S λd ρ S=>wp co ρ S (λr ρ S=>wF r ρ S λo ρ S=>wp ci ρ S (λr ρ S=>wF r ρ S λi ρ S=>wA h [o,i,d] ρ S (λ_ ρ S=>QF .nx ρ S) E) E) E) E):wp (J8 h cv co ci) ρ S QF E:=
 cP (cM (wp_D k) (λd ρ S k=>cP (cM (wp_D k) (λo ρ S k=>cP (cM (wp_D k) (λi ρ S k=>cP (cM (lJ k) (λ_ _ _ h=>h) λ_ _ _ h=>h)) λ_ _ _ h=>h)) λ_ _ _ h=>h)) λ_ _ _ h=>h)
theorem zu4{d1 d2 d3:D}{Q:Rv->List Sl->Prop}{E:Exn->List Sl->Prop}(e:isC c d1 S=true)(k:wm m [d1,d2,d3] S Q E):wm (pA c m) [d1,d2,d3] S Q E:=by
 simp only[wm,pA,e,if_true];exact k
end
end
section
def qR:D->List D->Option Rv
 |.str a,[.str b]=>match Builtin.Str.occurrences a b 0 a.length 1 with
  |i::_=>some (.d (.int (i:Nat)))
  |[]=>none
 |_,_=>none
section
variable{Γ:Gm}
theorem ztp:MtOk Γ qR (λx xs H Q=>∃a b i rest,x=.str a∧xs=[.str b]∧Builtin.Str.occurrences a b 0 a.length 1=i::rest∧Q (.int (i:Nat)) H):=by
 intro w v d vs ds Q gd tv t q
 match d,ds,q with
 |.str a,[.str b],q=>
  obtain rfl:=fH tv;obtain⟨v,rfl,t1⟩:=eY t;obtain rfl:=fH t1;simp only[qR] at q;split at q
  ·rename_i i rest e;exact⟨a,b,i,rest,rfl,rfl,e,q.d gd dY⟩
  ·exact q.elim
end
theorem zrg{a b:Str}{i:Nat}{rest:List Nat}{P:Rv->Prop}(e:Builtin.Str.occurrences a b 0 a.length 1=i::rest)(h:P (.d (.int i))):wO (qR (.str a) [.str b]) P:=⟨.d (.int i),by simp only[qR,e],h⟩
end
section
section
variable{ρ S:List Sl}{E:XQ}{QR:Rv->List Sl->List Sl->Prop}{QL:List D->List Sl->List Sl->Prop}{vs:List Nat}{t:M Bool}{c:M Rv}{g:Tgt}{k:Nat}
theorem Ry{xs:List D}{P:List D->Prop}(h:P xs):wO (D.itemsL (.lst xs)) P:=⟨_,rfl,h⟩
theorem Rz{c:M Rv}(h:wp c ρ S (λr ρ S=>wC r ρ S λd=>wO (D.itemsL d) λxs=>wO (gH xs) λks=>wG (ks.length+1<scanBound) (QR (.d (.int (metK ks ks.length).length)) ρ S)) E):wp (tR c) ρ S QR E:=
 cP (cM h (λ_ _ _ ⟨d,e,xs,e2,ks,e3,l,h⟩=>by simp only[e,Option.bind_some,e2,e3,if_pos l];exact h) λ_ _ _ h=>h)
theorem J9{f:Nat->D->D}{xs:List D}(I:List D->List D->List Sl->List Sl->Prop)
  (hs:∀d ds acc ρ S,nt S k (.lst xs)->I (d::ds) acc ρ S->wX (tq g d ρ) λρ1=>wp t ρ1 S (λb ρ S=>wI b (wp c ρ S (λr ρ S=>wF r ρ S λd' ρ S=>wG (acc.length<sizeLine) (wX (wq ρ vs) λρ'=>I ds (acc++[d']) ρ' S∧nt S k (.lst xs))) λ_ _ _=>False) (wX (wq ρ vs) λρ'=>I ds acc ρ' S∧nt S k (.lst xs))) λ_ _ _=>False)
  (he:∀acc ρ S,I [] acc ρ S->QL acc ρ S):∀(n i:Nat) (acc:List D) (ρ S:List Sl),nt S k (.lst xs)->xs.length+1=n+i->i≤xs.length->I (iY f i (xs.drop i)) acc ρ S->wr (iW f vs g t c k n i acc ρ S) QL λ_ _ _=>False
 |0,i,acc,ρ,S,e,l,l2,h=>by omega
 |n+1,i,acc,ρ,S,e,l,l2,h=>by iterate
  have e':S[k]? = some (.lst xs):=e;unfold iW;simp only[e'];cases q:xs[i]? with
  |none=>
   have:xs.length≤i:=List.getElem?_eq_none_iff.mp q;rw[List.drop_eq_nil_of_le this] at h;exact he acc ρ S h
  |some d=>
   have l3:i<xs.length:=(bx.mp q).1;have l4:xs.drop i=d::xs.drop (i+1):=by
    rw[List.drop_eq_getElem_cons l3,(bx.mp q).2]
   rw[l4] at h;obtain⟨ρ1,e1,w⟩:=hs (f i d) _ acc ρ S e h;have e1:eX g (f i d) ρ=some ρ1:=e1;simp only[e1];unfold wp at w;cases q2:t ρ1 S with
   |ok fl ρ2 S2 t2=>
    rw[q2] at w;cases fl with
    |false=>
     obtain⟨ρ',e2,h2,h3⟩:=w;have e2:dC ρ2 vs=ρ':=e2;subst e2;exact J9 I hs he n (i+1) acc _ S2 h3 (by omega) (by omega) h2
    |true=>
     have w:wp (cD c) ρ2 S2 (λd' ρ S=>wG (acc.length<sizeLine) (wX (wq ρ vs) λρ'=>I _ (acc++[d']) ρ' S∧nt S k (.lst xs))) (λ_ _ _=>False):=wp_D w;unfold wp at w;simp only[];cases q3:cD c ρ2 S2 with
     |ok d' ρ3 S3 t3=>
      rw[q3] at w;obtain⟨l,ρ',e2,h2,h3⟩:=w;have e2:dC ρ3 vs=ρ':=e2;subst e2;simp only[if_pos l];exact J9 I hs he n (i+1) _ _ S3 h3 (by omega) (by omega) h2
     |ex x ρ S=>rw[q3] at w;exact w.elim
     |bad=>rw[q3] at w;exact w.elim
   |ex x ρ S=>rw[q2] at w;exact w.elim
   |bad=>rw[q2] at w;exact w.elim
theorem zsZ{f:Nat->D->D}{xs:List D}(e:nt S k (.lst xs))(I:List D->List D->List Sl->List Sl->Prop)(h:I (iY f 0 xs) [] ρ S)
  (hs:∀d ds acc ρ S,nt S k (.lst xs)->I (d::ds) acc ρ S->wX (tq g d ρ) λρ1=>wp t ρ1 S (λb ρ S=>wI b (wp c ρ S (λr ρ S=>wF r ρ S λd' ρ S=>wG (acc.length<sizeLine) (wX (wq ρ vs) λρ'=>I ds (acc++[d']) ρ' S∧nt S k (.lst xs))) λ_ _ _=>False) (wX (wq ρ vs) λρ'=>I ds acc ρ' S∧nt S k (.lst xs))) λ_ _ _=>False)
  (he:∀acc ρ S,I [] acc ρ S->QL acc ρ S):wKO f vs g t c (.ob k) ρ S QL:=by
 have e':S[k]? = some (.lst xs):=e;have:jo k S=xs.length+1:=by simp only[jo,e']
 unfold wKO;simp only[this];exact J9 I hs he _ 0 [] ρ S e rfl (Nat.zero_le _) h
/-- one that changes nothing,over a list of the store -/
theorem zq7{f:Nat->D->D}{xs:List D}(e:nt S k (.lst xs))(p:D->Bool)(fn:D->D)(hl:xs.length≤sizeLine)
  (hs:∀d∈iY f 0 xs,wX (tq g d ρ) λρ1=>wp t ρ1 S (λb ρ2 S2=>wI b (wp c ρ2 S2 (λr ρ3 S3=>wF r ρ3 S3 λd' ρ3 S3=>d'=fn d∧p d=true∧wq ρ3 vs ρ∧S3=S) λ_ _ _=>False) (p d=false∧wq ρ2 vs ρ∧S2=S)) λ_ _ _=>False)
  (h:QL (((iY f 0 xs).filter p).map fn) ρ S):wKO f vs g t c (.ob k) ρ S QL:=by iterate
 have rl:∀(i:Nat) (ds:List D),(iY f i ds).length=ds.length:=λi ds=>by
  induction ds generalizing i with
  |nil=>rfl
  |cons d ds ih=>rw[iY,aG,aG,ih]
 refine zsZ e (λrest acc ρ' S'=>ρ'=ρ∧S'=S∧(∀d∈rest,d∈iY f 0 xs)∧acc++(rest.filter p).map fn=((iY f 0 xs).filter p).map fn∧acc.length+rest.length≤sizeLine) ⟨rfl,rfl,λ_ h=>h,rfl,by simpa[rl] using hl⟩ ?_ ?_
 ·rintro d rest acc _ _ e ⟨rfl,rfl,hm,ha,hb⟩;obtain⟨ρ1,e1,k⟩:=hs d (hm d (bK ..));rw[aG] at hb;refine gK e1 (cM k (λb ρ2 S2 h=>?_) λ_ _ _ h=>h);cases b with
  |false=>
   obtain⟨hp,w,rfl⟩:=h;refine gK w ⟨⟨rfl,rfl,λx hx=>hm x (bL _ hx),?_,by omega⟩,e⟩;rw[bH,if_neg (by rw[hp];decide)] at ha;exact ha
  |true=>
   refine cM h (λr ρ3 S3 h=>cM h (λd' ρ3 S3 ⟨e1,hp,w,e2⟩=>?_) λ_ _ _ h=>h) λ_ _ _ h=>h;subst e1 e2;refine oU (by omega) (gK w ⟨⟨rfl,rfl,λx hx=>hm x (List.mem_cons_of_mem _ hx),?_,by simp only[List.length_append,List.length_cons,List.length_nil];omega⟩,e⟩);rw[bH,if_pos hp] at ha;rw[aK];exact ha
 ·rintro acc _ _ ⟨rfl,rfl,_,ha,_⟩;rw[List.filter_nil,List.map_nil,aN] at ha;subst ha;exact h
end
theorem RB(l:List Key)(k:Key):inK l k=true↔k∈l:=by
 unfold inK;rw[bO];exact⟨λ⟨y,h1,h2⟩=>aR h2 ▸ h1,λh=>⟨k,h,aP rfl⟩⟩
theorem RD(ks:List Key):∀i,i≤ks.length->∀k,k∈metK ks i↔k∈ks.take i
 |0,_,k=>by simp[metK]
 |i+1,h,k=>by iterate
  obtain⟨x,e⟩:∃x,ks[i]? = some x:=⟨ks[i],by simp[show i<ks.length from h]⟩
  rw[tO e,List.take_add_one,e];have ih:=RD ks i (Nat.le_of_lt h);unfold stepK;split
  ·rename_i hx;have hx:=(ih x).mp ((RB _ _).mp hx);rw[ih k];simp only[List.mem_append,Option.toList_some,List.mem_singleton];exact⟨.inl,λz=>z.elim id λz=>z ▸ hx⟩
  ·simp only[List.mem_append,Option.toList_some,List.mem_singleton,ih k]
/-- none comes again: as many as there are -/
theorem RG{ks:List Key}(h:ks.Nodup):∀i,i≤ks.length->(metK ks i).length=i
 |0,_=>by simp[metK]
 |i+1,hi=>by iterate
  have ih:=RG h i (Nat.le_of_lt hi);obtain⟨x,e⟩:∃x,ks[i]? = some x:=⟨ks[i],by simp[show i<ks.length from hi]⟩
  rw[tO e,<-Oc];have nx:¬inK (metK ks i) x=true:=λz=>by
   have hm:=(RD ks i (Nat.le_of_lt hi) x).mp ((RB _ _).mp z);obtain⟨j,hj,e2⟩:=List.mem_iff_getElem.mp hm;rw[List.length_take] at hj;rw[List.getElem_take] at e2;have e3:ks[i]'hi=x:=by
    have:=aJ hi;rw[e] at this;exact(aZ this).symm
   have:=(List.getElem_inj h).mp (e2.trans e3.symm);omega
  rw[if_neg nx,ih]
theorem RJ:∀cs:List Nat,gH (cs.map λc=>D.str ⟨#[c]⟩)=some (cs.map λc=>(.inr ⟨#[c]⟩:Key))
 |[]=>rfl
 |c::cs=>by rw[ak,gH,RJ cs];rfl
theorem ztK{a b:Nat}(h:(⟨#[a]⟩:Str)=⟨#[b]⟩):a=b:=by
 have:=congrArg (λx:Str=>x.cps.toList) h
 simpa using this
theorem keys_nodup{cs:List Nat}(h:cs.Nodup):(cs.map λc=>(.inr ⟨#[c]⟩:Key)).Nodup:=by
 rw[List.Nodup,List.pairwise_map];exact List.Pairwise.imp (λhab e=>hab (ztK (Sum.inr.inj e))) h
theorem iJ(cs:List Nat):(catS cs).length=cs.length:=by simp[catS,Str.length]
theorem pB(cs:List Nat):(catS cs).cps.toList=cs:=by simp[catS]
/-- the place of a sign in a text of different signs -/
theorem ztH{x:Str}{c i:Nat}(h:x.cps.toList.Nodup)(e:x.cps.toList[i]? = some c):∃rest,Builtin.Str.occurrences x ⟨#[c]⟩ 0 x.length 1=i::rest:=by iterate
 have hne:(!(Builtin.Str.occurrences x ⟨#[c]⟩ 0 x.length 1).isEmpty)=true:=by
  rw[StrLaws.found_one];exact aP (aY e)
 cases q:Builtin.Str.occurrences x ⟨#[c]⟩ 0 x.length 1 with
 |nil=>rw[q] at hne;simp at hne
 |cons j rest=>
  have hj:=StrLaws.occ_spec x ⟨#[c]⟩ 0 x.length 1 j (by rw[q];exact bK ..);have ej:=(StrLaws.subAt_one x c j).mp hj;obtain⟨l1,e1⟩:=bx.mp e;obtain⟨l2,e2⟩:=bx.mp ej;have:=(List.getElem_inj h).mp (e1.trans e2.symm);subst this;exact⟨rest,rfl⟩
theorem erase_perm{α:Type}:∀{l:List α} {i:Nat} (h:i<l.length),(l[i]::l.eraseIdx i).Perm l
 |[],_,h=>absurd h (Nat.not_lt_zero _)
 |x::l,0,_=>.refl _
 |x::l,i+1,h=>(List.Perm.swap x (l[i]'(Nat.lt_of_succ_lt_succ h)) _).trans ((erase_perm (Nat.lt_of_succ_lt_succ h)).cons x)
abbrev chrD(c:Nat):D:=.str ⟨#[c]⟩
abbrev sgnS:Str:="abcdefghijklmnopqrstuvwxyz0123456789"
theorem zol:sgnS.cps.toList.Nodup:=by decide +kernel
theorem Ka(cs:List Nat):jj (catS cs)=cs.map chrD:=by rw[jj,pB]
theorem ints_of{P:Int->Prop}:∀{ds ys:List D},Paired (λ_ d'=>∃v,P v∧d'=D.int v) ds ys->∃xs:List Int,ys=xs.map .int∧xs.length=ds.length∧∀v∈xs,P v
 |_,_,.nil=>⟨[],rfl,rfl,λc h=>by cases h⟩
 |_,_,.cons ⟨c,hc,e⟩ t=>by
  obtain⟨cs,e1,e2,e3⟩:=ints_of t;subst e e1;refine⟨c::cs,rfl,by simp[e2],λx hx=>?_⟩;rcases au.mp hx with y|y
  ·subst y;exact hc
  ·exact e3 x y
theorem zop(xs:List D)(k:Nat):cutD xs (some (k:Int)) none=xs.drop k:=by
 unfold cutD;rw[HT.sIx_none,HT.sIx_nat];rcases Nat.le_total k xs.length with h|h
 ·rw[Nat.min_eq_left h,List.take_of_length_le (by rw[List.length_drop];exact aO _)]
 ·rw[Nat.min_eq_right h,List.drop_of_length_le h,List.drop_of_length_le (aO _),List.take_nil]
abbrev pk1:List D->List D->List D:=λds es=>pick [0] (ds++es)
abbrev pk2:List D->List D->List D:=λds es=>pick [0,1] (ds++es)
def symC:M Fl:=(cSeq (cSet true 2 (cBlt fK (cV (cC (.str "abcdefghijklmnopqrstuvwxyz0123456789")) cU)))
  (cRet (cMt "str" oM (cC (.str "")) (cV (cLc (oF (bZ (cBin oAdd (cC (.int 1)) (cY fO 2 0 pk2 (bZ (bY 0) (bZ (bY 1) cG)) cG)) cG)) [3] (.nm 3) cYes (cMm "list" oH (bY 2) (bZ (cY fO 2 0 pk2 (bZ (bY 0) (bZ (cBlt gLen (cV (bY 2) cU)) cG)) cG) cG))) cU))))
def symM:=defM 4 symC
section
variable(n:Nat)(sub:Nat->Nat->Bool)
def RK:M Fl:=(cSeq (cIfS (fM (cTru (cIsi n sub (bZ (bY 0) (bZ (cC (.ty "str")) cG))))) (cRet (cC (.bl false))) cNx)
  (cSeq (jM idF (gA (bY 0)) (.nm 2) (cIfS (cTst (cBin (oIn true) (bY 2) (bY 1))) (cRet (cC (.bl false))) cNx))
  (cRet (cC (.bl true)))))
def Kc:List D->List Sl->Res Rv:=defM 3 (RK n sub)
def numC:M Fl:=(cRet (cAnd (cIsi n sub (bZ (bY 0) (bZ (cC (.ty "int")) cG))) (cAnd (cNot (cIsi n sub (bZ (bY 0) (bZ (cC (.ty "bool")) cG)))) (lg oLe oLe (bY 1) (bY 0) (bY 2)))))
def numM:List D->List Sl->Res Rv:=defM 3 (numC n sub)
def RL:M Fl:=(cRet (cAnd (cY (Kc n sub) 2 0 pk2 (bZ (bY 0) (bZ (cC (.str "abcdefghijklmnopqrstuvwxyz0123456789")) cG)) cG) (cAnd (lg oLe oLe (cC (.int 1)) (cBlt gLen (cV (bY 0) cU)) (cC (.int 5))) (cBin (oEq false) (tR (cBlt fK (cV (bY 0) cU))) (cBlt gLen (cV (bY 0) cU))))))
def RM:List D->List Sl->Res Rv:=defM 1 (RL n sub)
def RN:M Fl:=(cRet (cAnd (cIsi n sub (bZ (bY 0) (bZ (cC (.ty "str")) cG))) (cAnd (cBin (oEq false) (cBlt gLen (cV (bY 0) cU)) (cC (.int 1))) (cBin (oIn false) (bY 0) (bY 1)))))
def RP:List D->List Sl->Res Rv:=defM 2 (RN n sub)
def rowC:M Fl:=(cRet (cIsi n sub (bZ (bY 0) (bZ (cTup (bZ (cC (.ty "list")) (bZ (cC (.ty "tuple")) cG))) cG))))
def rowM:List D->List Sl->Res Rv:=defM 1 (rowC n sub)
end
end
local macro_rules
  | `(tactic| symm) => `(tactic| repeat (first
  | ((with_reducible refine Jk ?_); first
   | ((with_reducible apply qJ); (focus ((repeat (first | with_reducible apply nt_z | with_reducible apply nt_s | with_reducible apply dw | with_reducible apply dD)); done)))
   | (with_reducible first | refine wp_C ?_ | refine qM ?_ | refine uD ?_ | refine Dj ?_ | refine Di ?_ | refine qK ?_ | refine Ed ?_ | refine Ek ?_ | refine Eh ?_ | refine qL ?_ | refine Dk ?_ | refine wp_call ?_ | refine qN ?_ | refine Ec ?_ | refine CT ?_ | refine CV ?_ | refine CQ ?_ | refine CP ?_ | refine Df ?_ | refine CW ?_ | refine CZ ?_ | refine De ?_ | refine Es ?_ | refine Et ?_ | refine uF ?_ | refine uE ?_ | refine CN ?_ | refine Dz ?_ | refine Gz ?_ | refine GD ?_ | refine FQ ?_ | refine FW ?_ | refine FZ ?_ | refine Ge ?_ | refine Gi ?_ | refine Gj ?_ | refine Gn ?_ | refine G4 ?_ | refine G6 ?_ | refine Dh ?_ | refine Dm ?_ | refine Dr ?_ | refine Do ?_ | refine Dq ?_ | refine Dg ?_ | refine Ef ?_ | refine Ei ?_ | refine El ?_ | refine Eo ?_ | refine Eu ?_ | refine Ey ?_ | refine Fd ?_ | refine Ds ?_ | refine Dt ?_ | refine Du ?_ | refine Dy ?_ | refine DG ?_ | refine DK ?_ | refine DQ ?_ | refine DN ?_ | refine DP ?_ | refine uH ?_ | refine Ea ?_ | refine Rz ?_ | refine Rx ?_)
   | ((with_reducible apply CG); (focus ((repeat (first | with_reducible apply nt_z | with_reducible apply nt_s | with_reducible apply dw | with_reducible apply dD)); done)); exact rfl)
   | ((with_reducible apply CJ); (focus ((repeat (first | with_reducible apply nt_z | with_reducible apply nt_s | with_reducible apply dw | with_reducible apply dD)); done))))
  | ((with_reducible refine Jl ?_); first
   | (with_reducible first | refine G7 ?_ | refine G8 ?_)
   | ((with_reducible refine iZ (Or.inr (Or.inl ?_)) ?_); decide)
   | ((with_reducible refine iZ (Or.inl ?_) ?_); decide)
   | ((with_reducible refine G9 ?_ ?_); decide)
   | ((with_reducible refine Hf ?_ ?_ ?_); decide; decide)
   | (with_reducible first | refine Hg ?_ | refine Hh ?_ | refine Hi ?_ | refine Hj ?_ | refine Hk ?_ | refine Hl ?_ | refine Hm ?_ | refine Hn ?_ | refine Ho ?_ | refine Hq ?_ | refine Hr ?_)
   | with_reducible refine fV oW ?_
   | with_reducible refine fV oX ?_
   | with_reducible refine fV oY ?_
   | with_reducible refine fV oZ ?_
   | with_reducible refine fV Jg ?_
   | with_reducible refine il oW ?_
   | with_reducible refine il oX ?_
   | with_reducible refine il oY ?_
   | with_reducible refine il oZ ?_
   | (with_reducible first | refine Ht ?_ | refine Io ?_ | refine Ir ?_ | refine Ip ?_ | refine Iu ?_ | refine Iw ?_ | refine Iz ?_ | refine IK ?_ | refine IV ?_ | refine IW ?_ | refine Jc ?_)
   | ((with_reducible refine Jd ?_ ?_); focus first | assumption | exact dG (by decide +kernel))
   | ((with_reducible refine Iv ?_ ?_); focus first | assumption | exact dG (by decide +kernel))
   | ((with_reducible refine Hu ?_ ?_); focus first | assumption | exact dG (by decide +kernel))
   | ((with_reducible refine Jj ?_ ?_); focus first | assumption | exact dG (by decide +kernel))
   | (with_reducible first | refine Je ?_ | refine Jf ?_)
   | ((with_reducible refine Ju ?_ ?_); exact rfl)
   | ((with_reducible refine Jv ?_ ?_); exact rfl)
   | ((with_reducible refine JB ?_ ?_); exact rfl)
   | ((with_reducible refine JC ?_ ?_); exact rfl)
   | ((with_reducible refine uJ ?_ ?_); decide)
   | ((with_reducible refine Gh ?_ ?_); decide)
   | (with_reducible first | refine Ij ?_ | refine Ik ?_ | refine Il ?_ | refine Im ?_ | refine Hw ?_ | refine Hz ?_ | refine HD ?_ | refine HF ?_ | refine HJ ?_ | refine HQ ?_ | refine HR ?_ | refine HS ?_ | refine HW ?_ | refine HX ?_)
   | ((with_reducible apply uK); (focus ((repeat (first | with_reducible apply nt_z | with_reducible apply nt_s | with_reducible apply dw | with_reducible apply dD)); done)))
   | (with_reducible first | refine HY ?_ | refine Ib ?_ | refine Ie ?_ | refine Ig ?_ | refine Ih ?_)
   | ((with_reducible apply Ii); (focus ((repeat (first | with_reducible apply nt_z | with_reducible apply nt_s | with_reducible apply dw | with_reducible apply dD)); done)))
   | (with_reducible first | refine Hv ?_ | refine Jh ?_ | refine Ji ?_ | refine Cz ?_ | refine Ry ?_)
   | ((with_reducible apply JQ); focus decide +kernel))
  | ((with_reducible refine Jo ?_); first
   | (with_reducible first | refine Bs ?_ | refine qH ?_ | refine Bx ?_ | refine BK ?_)
   | ((with_reducible apply qI); (focus ((repeat (first | with_reducible apply nt_z | with_reducible apply nt_s | with_reducible apply dw | with_reducible apply dD)); done)))
   | ((with_reducible apply BV); (focus ((repeat (first | with_reducible apply nt_z | with_reducible apply nt_s | with_reducible apply dw | with_reducible apply dD)); done)))
   | (with_reducible first | refine BR ?_ | refine Bt ?_ | refine Bu ?_ | refine BJ ?_ | refine BL ?_ | refine Bv ?_ | refine Bw ?_ | refine BP ?_))
  | (with_reducible first | apply nt_z | apply nt_s | apply st_z | apply st_s | refine wF_d ?_ | refine BX ?_ | refine BW ?_ | refine Ck ?_ | apply wS_d | apply Cj | apply Cg | refine BZ ?_ | refine wI_t ?_ | refine wI_f ?_ | refine JD ?_ | refine JF ?_ | refine JG ?_ | refine JH ?_ | refine JK ?_)
  | ((with_reducible refine qQ ?_ ?_); (focus first | assumption | omega | exact aR rfl))
  | ((with_reducible refine JL ?_ ?_); (focus first | assumption | omega | exact of_decide_eq_false rfl))
  | ((with_reducible refine Jp ?_ ?_ ?_); exact rfl; exact rfl)
  | (with_reducible first | apply Fj | apply Fy | apply Fv | apply Ft | apply Fq | apply Fp | apply Fo | apply Fx | apply Fw | apply nd_z | apply nd_s | refine wV_d ?_ | refine Cd ?_)
  | ((with_reducible apply Ce); (focus ((repeat (first | with_reducible apply nt_z | with_reducible apply nt_s | with_reducible apply dw | with_reducible apply dD)); done)); (focus exact rfl))
  | (with_reducible first | refine Cy ?_ | refine Cv ?_ | refine Cm ?_ | refine Cp ?_ | refine Cq ?_ | refine Gp ?_ | refine Gv ?_ | refine Gu ?_ | refine Gq ?_)
  | ((with_reducible apply uA); (focus ((repeat (first | with_reducible apply nt_z | with_reducible apply nt_s | with_reducible apply dw | with_reducible apply dD)); done)); exact rfl)
  | ((with_reducible apply Cr); (focus ((repeat (first | with_reducible apply nt_z | with_reducible apply nt_s | with_reducible apply dw | with_reducible apply dD)); done)); exact rfl)
  | (with_reducible first | apply uB | apply Cu)
  | ((with_reducible refine Jq ?_ ?_); focus first | with_reducible exact Jw | with_reducible exact Jx | with_reducible exact Jz | with_reducible exact Jy)
  | ((with_reducible refine Jr ?_ ?_); exact Jt rfl)
  | (with_reducible first | refine Ca ?_ | refine JT ?_ | refine GJ ?_ | refine G5 ?_ | apply gK | apply GZ | apply G3 | apply uI | apply EY | apply Fb | apply En | apply Ep | apply Bo | apply Bp | apply Bq | apply Br | apply dw | apply dD | apply uv | apply Bm | apply Ew | apply Ez | apply lk_z)
  | ((with_reducible apply lk_s); focus decide +kernel)
  | with_reducible apply JN
  | ((with_reducible refine JP ?_ ?_); focus decide +kernel)
  | (with_reducible first | refine JR ?_ ?_ | refine wZ_d ?_)
  | ((with_reducible refine uL ?_ ?_); exact rfl)
  | with_reducible refine DY ?_
  | ((with_reducible refine JM ?_ ?_); exact rfl)
  | (with_reducible first | refine Eb ?_ | refine DR ?_ | refine JV ?_ | refine DW ?_ | apply JW | apply Ff | apply Fe | apply rp_s | apply rp_z | apply Fg)
  ))
section
section
variable{S T:List Sl}{Q:Rv->List Sl->Prop}{E:Exn->List Sl->Prop}{b:Sl}{n:Nat}{sub:Nat->Nat->Bool}
theorem zp4{m:Int}(hb:Bag b)(m0:0<m)(m1:m≤30)(h:∀cs b',Bag b'->0<cs.length->(cs.length:Int)≤m->(∀c∈cs,c∈sgnS.cps.toList)->cs.Nodup->Q (.d (.str (catS cs))) (b'::T)) :
  wm symM [.ob 0,.int m] (b::T) Q E:=by iterate
 unfold symM symC;apply dM;symm;refine ph hb m0 (by omega) λv b1 hb1 v0 v1=>?_;symm;refine uJ ⟨by omega,by omega⟩ ?_;symm;have hl:(gh 0 (1+v).toNat).length=(1+v).toNat:=zmO _ _;refine qO (λrest acc ρ S=>∃cs ls b,Bag b∧ρ=[.val (.ob 0),.val (.int m),.lst (ls.map chrD),.emp]∧S=b::T∧acc=cs.map chrD∧cs.length+rest.length=(1+v).toNat∧(cs++ls).Perm sgnS.cps.toList) ?_ ?_ _ _ _ _ ⟨[],sgnS.cps.toList,b1,hb1,rfl,rfl,rfl,by rw[List.length_nil,Nat.zero_add];exact hl,.refl _⟩
 ·rintro d ds acc _ _ ⟨cs,ls,b,hb,rfl,rfl,rfl,l1,pm⟩;rw[aG] at l1;have l2:=pm.length_eq;rw[aA,show sgnS.cps.toList.length=36 by decide +kernel] at l2;symm;rw[aj];refine ph hb (by omega) (by omega) λw b2 hb2 w0 w1=>?_;symm;have hw:w.toNat<ls.length:=by omega
  refine zrE (d:=chrD ls[w.toNat]) ⟨w0,by rw[aj];exact w1⟩ (by omega) (by rw[az,aJ hw];rfl) ?_;symm;refine oU (by rw[aj];exact bj (show _<1000 by omega) (dG (aO _))) ?_;symm;refine⟨cs++[ls[w.toNat]],ls.eraseIdx w.toNat,b2,hb2,by rw[map_eraseIdx],rfl,by rw[aX];rfl,?_,?_⟩
  ·rw[aA,aG,List.length_nil];omega
  ·refine List.Perm.trans ?_ pm;rw[aK];exact List.Perm.append_left cs (erase_perm hw)
 ·rintro acc _ _ ⟨cs,ls,b,hb,rfl,rfl,rfl,l1,pm⟩;symm;rw[List.length_nil] at l1;refine ig (zt1 (by omega)) ?_;symm;refine h cs b hb (by omega) (by omega) (λc hc=>pm.subset (List.mem_append_left _ hc)) ?_;exact(bB.mp (pm.nodup_iff.mpr zol)).1
theorem zwt{x y:Str}(h:Q (.d (.bl (x.cps.toList.all λc=>decide (c∈y.cps.toList)))) S):wm (Kc n sub) [.str x,.str y] S Q E:=by iterate
 unfold Kc RK;apply dM;symm;refine Gy (λrest ρ S'=>S'=S∧∃cs:List Nat,rest=cs.map chrD∧(∃o,ρ=[.val (.str x),.val (.str y),o])∧(x.cps.toList.all λc=>decide (c∈y.cps.toList))=(cs.all λc=>decide (c∈y.cps.toList))) ?_ ?_ _ _ _ ⟨rfl,x.cps.toList,rfl,⟨_,rfl⟩,rfl⟩
 ·rintro d ds ρ S' ⟨rfl,cs,e,⟨o,rfl⟩,ha⟩;cases cs with
  |nil=>cases e
  |cons c cs=>
   cases e;rw[List.all_cons] at ha;symm;rw[StrLaws.found_one];refine zqc (λhc=>?_) (λhc=>?_)
   ·symm;have:decide (c∈y.cps.toList)=false:=by
     cases q:decide (c∈y.cps.toList)
     ·rfl
     ·rw[q] at hc;cases hc
    rw[this] at ha;rw[ha] at h;exact h
   ·symm;have:decide (c∈y.cps.toList)=true:=by
     cases q:decide (c∈y.cps.toList)
     ·rw[q] at hc;cases hc
     ·rfl
    rw[this,Bool.true_and] at ha;exact⟨rfl,cs,rfl,⟨_,rfl⟩,ha⟩
 ·rintro ρ S' ⟨rfl,cs,e,⟨o,rfl⟩,ha⟩;cases cs with
  |cons c cs=>cases e
  |nil=>
   symm;rw[ha] at h;exact h
theorem RQ{a l m:Int}(h:Q (.d (.bl (decide (l≤a) && decide (a≤m)))) S):wm (numM n sub) [.int a,.int l,.int m] S Q E:=by
 unfold numM numC;apply dM;symm;refine uz (λh1=>?_) λh1=>?_
 ·symm;rw[aP h1,Bool.true_and] at h;exact h
 ·symm;rw[aQ h1,Bool.false_and] at h;exact h
theorem RW{a l m:Int}(h1:l≤a)(h2:a≤m)(h:Q (.d (.bl true)) S):wm (numM n sub) [.int a,.int l,.int m] S Q E:=by
 refine RQ ?_;rw[aP h1,aP h2];exact h
theorem qT{cs:List Nat}(hc:∀c∈cs,c∈sgnS.cps.toList)(hn:cs.Nodup)(l1:1≤cs.length)(l2:cs.length≤5)(h:Q (.d (.bl true)) S):wm (RM n sub) [.str (catS cs)] S Q E:=by iterate
 have hl:(catS cs).length≤sizeLine:=by rw[iJ];exact dG (by omega)
 unfold RM RL;apply dM;symm;refine zwt ?_;have ha:((catS cs).cps.toList.all λc=>decide (c∈sgnS.cps.toList))=true:=by iterate
  rw[pB];exact bJ.mpr λc h=>aP (hc c h)
 rw[show((catS cs).cps.toList.all λc=>decide (c∈(Str.ofString "abcdefghijklmnopqrstuvwxyz0123456789").cps.toList))=true from ha]
 have l3:(1:Int)≤(catS cs).length:=by rw[iJ];omega
 have l4:((catS cs).length:Int)≤5:=by rw[iJ];omega
 symm;rw[Ka];refine ig (RJ cs) ?_;refine oU (by rw[aj];exact bj (show _<1000 by omega) (by decide +kernel)) ?_;rw[RG (keys_nodup hn) _ (aO _),aj];symm;rw[iJ,aP rfl];exact h
theorem Kd{cs:List Nat}{c:Nat}(h:Q (.d (.bl (decide (c∈cs)))) S):wm (RP n sub) [.str ⟨#[c]⟩,.str (catS cs)] S Q E:=by
 have hl:(⟨#[c]⟩:Str).length≤sizeLine:=dG (by show 1≤_;decide);unfold RP RN;apply dM;symm;rw[StrLaws.found_one,pB,Bool.false_bne];exact h
theorem zmJ{k:Nat}{xs:List D}(e:nt S k (.lst xs)):isiR n sub S [.ob k,.tup [.ty "list",.ty "tuple"]]=some true:=by
 have e:S[k]? = _:=e;have e2:D.typS S (.ob k)=some .lst:=by simp only[D.typS,e]
 have e3:jG [.ty "list",.ty "tuple"]=some [.lst,.tup]:=by decide
 unfold isiR;simp only[e2,e3];rfl
theorem uN{xs:List D}(h:Q (.d (.bl true)) S):wm (rowM n sub) [.lst xs] S Q E:=by
 unfold rowM rowC;apply dM;symm;exact h
theorem zt6{xs:List D}(h:Q (.d (.bl true)) S):wm (rowM n sub) [.tup xs] S Q E:=by
 unfold rowM rowC;apply dM;symm;exact h
theorem zvs{k:Nat}{xs:List D}(e:nt S k (.lst xs))(h:Q (.d (.bl true)) S):wm (rowM n sub) [.ob k] S Q E:=by
 unfold rowM rowC;apply dM;symm;refine ig (zmJ e) ?_;symm;exact h
end
end
section
theorem ztl{K:yF}{C:Addr}(h:oexB K C=true):OexC K C:=by iterate
 unfold oexB at h;obtain⟨q,h2⟩:=He.ba h;obtain⟨h3,h4⟩:=He.ba h2;obtain⟨h5,h6⟩:=He.ba h4;obtain⟨h7,h8⟩:=He.ba h6;refine⟨?_,He.eqO_ok h3,aR h5,aR h7,h8⟩;split at q
 ·rename_i t dd cd sl ho;split at q
  ·rename_i C' bm k0 k1 k2 k3 n k5 hm hs;obtain⟨a1,a2⟩:=He.ba q;obtain⟨a3,a4⟩:=He.ba a2;obtain⟨a5,a6⟩:=He.ba a4;obtain⟨a7,a8⟩:=He.ba a6;obtain⟨a9,a10⟩:=He.ba a8;have a1:=aR a1;have a3:=aR a3;have a5:=aR a5;subst a1 a3 a5;obtain⟨nm,bs,mro,ns,qn,hd,sn,sub,ab,col,del⟩:=cd
   dsimp only at hm a7 a9
   obtain rfl:del=false:=by simpa using a7
   subst hm a9;have hsl:sl=#[k0,k1,k2,k3,some (.builtin "ValueError.__new__"),k5]:=by
    obtain⟨l⟩:=sl;simp only at hs;rw[hs]
   subst hsl;exact⟨nm,qn,ns,bs,bm,sn,sub,ab,col,dd,k0,k1,k2,k3,k5,ho,a10⟩
  ·cases q
 ·cases q
/-- B.__init__(self,..),B a class that has ValueError's -/
structure VeB(K:yF)(B:Addr):Prop where
  rd:PySem.W.readsIn K B (.type "type")=true
  ga:PySem.W.specialIn K (.ref B) "__getattribute__" = some (some (.builtin "type.__getattribute__"))
  at_:PySem.W.findCls K (.ref B) (.type "type") "__init__" = some (.val (.builtin "ValueError.__init__"))
theorem ztv{K:yF}{B:Addr}(h:veBB K B=true):VeB K B:=by
 obtain⟨h1,h2⟩:=He.ba h;obtain⟨h3,h4⟩:=He.ba h2;refine⟨h1,He.eqO_ok h3,?_⟩;split at h4
 ·rename_i n e;have h4:=aR h4;subst h4;exact e
 ·cases h4
section
variable{X:Cx}{e:Expr}{es:List Expr}{ta:TA}{B:Str}{CB:Addr}{p1 p2 pos:Pos}
theorem uO{pl:Sem Bool}(hg:Gl X B)(hm:X.mg B=some (.ref CB))(V:VeB X.K CB)(ha:PA X (e::es) ta)(hdb:(B == ("__debug__" : Str))=false)
  (hc:eval (.Call (.Attribute (.Name B p1) "__init__" p2) (e::es) [] pos) X.env=(do
   let ov <-eval (.Name B p1) X.env
   standAt p2.atName
   let (f,first) <-holding [ov] (getMethod ov "__init__" pl)
   callWith pos f first (backTo pos (starEach (e::es) X.env)) (backToKw pos (keywordEach [] X.env))))
  (he:starEach (e::es) X.env=(false,eval e X.env)::starEach es X.env) (hpl:(backTo pos (starEach es X.env)).any (·.1)=false) :
  PE X (.Call (.Attribute (.Name B p1) "__init__" p2) (e::es) [] pos) (tVeI X.K ta):=by iterate
 refine⟨λpins s σ H Q I h=>?_⟩;refine PySem.W.methodCall_KW (ld_glob I hg hm ?_ hdb) hc;refine PySem.W.method_cls I.kIn V.ga (PySem.W.cls_value I.kIn V.rd V.at_ rfl ?_)
 show wpAny _ _ (callWith pos (Value.builtin "ValueError.__init__") [] (backTo pos (starEach (e::es) X.env)) []) _ _ _;refine PyProof.Rows.callWith_method1 (thn (ha.run pos pins _ σ H _ (I.tok _) h) λus s1 ⟨vs,H1,I1,r1,a,C,ws,ev,hl,T,ea,q⟩=>?_) he hpl;subst ev;cases r1 with
 |@cons _ u0 _ ur ra rw'=>
  obtain rfl:u0=Value.ref a:=ra;have hlen:ur.length≤sizeLine:=by
   rw[<-Paired.length rw',sizeLine_eq];omega
  exact oinit_ok T I1 ea hlen λs' J=>⟨.non,H1,J,rfl,q⟩
end
/-- the fields of such an exception,the last stored first -/
def excV(code:Str)(fs:List Str)(ws:List V):List (Str×V):=(fs.zip ws).reverse++[(("code" : Str),V.str code)]
def excF(code:Str)(fs:List Str)(ds:List D):List (Str×D):=(fs.zip ds).reverse++[(("code" : Str),D.str code)]
/-- what its __init__ promises -/
def spX(C:Addr)(code:Str)(fs:List Str):Sp:=λvs H Q E=>vs.length=fs.length+1∧∃a ws,vs=.ref a::ws∧H a=some (exo a C none) ∧
 ∀d H',H d=none->d≠a->H' a=some (exo a C (some d))->H' d=some (exd d (excV code fs ws))->(∀b,b≠a->b≠d->H' b=H b)->Q .non H'
structure ExcK(K:yF)(C:Addr)(fs:List Str):Prop where
  oex:OexC K C
  no:∀f∈("code" : Str)::fs,PySem.W.findIn K (.ref C) f=some none
theorem uP{K:yF}{C:Addr}{fs:List Str}(h:excB K C fs=true):ExcK K C fs:=by
 obtain⟨h1,h2⟩:=He.ba h;exact⟨ztl h1,λf hf=>He.eqO_ok (bJ.mp h2 f hf)⟩
section
variable{K:yF}{C:Addr}{code f g:Str}{vs:List V}{H:Hp}{D:Ends}{E:XK}{p q:Str}
abbrev tEx1(K:yF)(code f:Str):TS:=tSeq (tDrop (tVeI K (tCons (tVar 0) (tCons (tC (.str code)) tNil)))) (tSeq (tOst K "code" (tVar 0) (tC (.str code))) (tOst K f (tVar 0) (tVar 1)))
theorem uQ(T:ExcK K C [f])(h:spX C code [f] vs H D.rt E)(hD:∀σ H',D.rt .non H'->D.nx σ H'):tEx1 K code f D (start ["self",p] vs) H:=by iterate
 obtain⟨hl,a,ws,rfl,ea,fin⟩:=h
 match ws,hl with
 |[y],_=>
  refine⟨.ref a,rfl,a,C,[.str code],rfl,Nat.le_of_ble_eq_true rfl,T.oex,ea,.ref a,rfl,a,C,rfl,T.oex,T.no _ (bK ..),.inl ⟨ea,λd nd ne=>?_⟩⟩;refine⟨y,rfl,.ref a,rfl,a,C,rfl,T.oex,T.no _ (bL _ (bK ..)),.inr ⟨d,[("code",.str code)],upd_same,?_,Nat.le_of_ble_eq_true rfl,?_⟩⟩
  ·rw[upd_ne ne,upd_same]
  ·refine hD _ _ (fin d _ nd ne ?_ upd_same λb n1 n2=>?_)
   ·rw[upd_ne (Ne.symm ne),upd_same]
   ·rw[upd_ne n2,upd_ne n1,upd_ne n2]
 |[],hl=>exact absurd hl (by simp)
 |_::_::_,hl=>exact absurd hl (by simp)
end
/-- an exception's __init__ by its body -/
theorem uR{P:Program}{wd:World}{K:yF}{mg:Str->Option Value}{base:Heap}{x qual:Str}{params:Arguments}{body:List Stmt}{scope:Scope}{f:Addr}{fd:FuncData}{N:List Str}{C:Addr}{code:Str}{fs:List Str}{t:TS}
  (hF:FunD K x qual params body scope [] [] f fd) (hS:FnScope N N scope) (hN:N.length=fs.length+1)
  (hb:∀(cdv:Value) (A:Around) (outer:List Env) (s:Shared) (H:Hp) (E:XK),PSs (cxOf (L2.CX P wd) P wd K mg base N qual scope f cdv A outer s H E) body t)
  (ht:∀(vs:List V) (H:Hp) (D:Ends) (E:XK),spX C code fs vs H D.rt E->(∀σ H',D.rt .non H'->D.nx σ H')->t D (start N vs) H):FnOk P wd K mg base (L2.CX P wd) 1 f fd N (spX C code fs):=
 hF.ok (k:=0) hS (λvs H Q E h=>by rw[hN];exact h.1) λcdv A outer s H vs Q E hr h=>⟨t,hb cdv A outer s H E,ht vs H _ E h λ_ _ z=>z⟩
def jc(c n:Nat)(mk:List D->List (Str×D))(cs:M (List D)):M Fl:=λρ S=>(cs ρ S).bind λds ρ S=>if ds.length=n then .ex (.own c (mk ds)) ρ S else .bad
theorem Ke{Γ:Gm}{R:List Addr}{F:Hp}:∀{a b:List (Str×D)} {c d:List (Str×V)},RepF Γ R F a c->RepF Γ R F b d->RepF Γ R F (a++b) (c++d)
 |[],_,_,_,h,k=>by rw[RepF] at h;subst h;exact k
 |(f,x)::a,_,_,_,h,k=>by
  rw[RepF] at h;obtain⟨y,ys,rfl,r,l⟩:=h;rw[bQ,bQ,RepF];exact⟨y,_,rfl,r,Ke l k⟩
theorem RX{Γ:Gm}{R:List Addr}{F:Hp}{f:Str}{x:D}{y:V}(h:Rep Γ R F x y):RepF Γ R F [(f,x)] [(f,y)]:=by
 rw[RepF];exact⟨y,[],rfl,h,by rw[RepF]⟩
theorem zqS{Γ:Gm}{R:List Addr}{F:Hp}{code:Str}:∀{fs:List Str} {ds:List D} {vs:List V},RepL Γ R F ds vs->RepF Γ R F (excF code fs ds) (excV code fs vs):=by iterate
 intro fs ds vs h;refine Ke ?_ (RX (by rw[Rep]))
 induction fs generalizing ds vs with
 |nil=>rw[List.zip_nil_left,List.zip_nil_left,List.reverse_nil,RepF];rfl
 |cons f fs ih=>
  cases ds with
  |nil=>rw[RepL] at h;subst h;rw[List.zip_nil_right,List.zip_nil_right,List.reverse_nil,RepF];rfl
  |cons d ds=>
   rw[RepL] at h;obtain⟨y,ys,rfl,r,l⟩:=h;rw[List.zip_cons_cons,List.zip_cons_cons,List.reverse_cons,List.reverse_cons];exact Ke (ih l) (RX r)
section
variable{X:Cx}{Γ:Gm}{W:WX}{P:List Nat}{c k:Nat}{fI:Addr}{fd:FuncData}{ps:List Str}{code:Str}{fs:List Str}{x:Str}{p pos pos':Pos}{e:Expr}{es:List Expr}{cs:M (List D)}
theorem jQ(hc:X.calm=true)(tk:Takes X W)(T:ExcK X.K (Γ.cA c) fs)(iC:PySem.W.findIn X.K (.ref (Γ.cA c)) "__init__" = some (some (.ref fI))) (tI:PySem.W.typeIn X.K (.ref fI)=some (.type "function"))
  (F1:FnOk X.prog X.w X.K X.mg X.base (L2.CX X.prog X.w) k fI fd ps (spX (Γ.cA c) code fs)) (hr:Room (k+1) X.A) (hb:Binds X.K fd ps []) (hg:Gl X x) (hm:X.mg x=some (.ref (Γ.cA c))) (hl:fs.length≤900) (ha:PA X (e::es) (tMl Γ W cs))
  (hx:Passes (L2.CX X.prog X.w) X (λ_ _ _=>False)) (hdb:(x == ("__debug__" : Str))=false) (he:starEach (e::es) X.env=(false,eval e X.env)::starEach es X.env) (hpl:(backTo pos (starEach es X.env)).any (·.1)=false) :
  PS X (.Raise (some (.Call (.Name x p) (e::es) [] pos)) none pos') (tS Γ W P (jc c fs.length (excF code fs) cs)):=by iterate
 refine(ps_raise hc tk (pmk_oex T.oex iC tI F1 hr hb .nil hx hg hm ha hdb he hpl)).imp λD σ H ⟨F,E,C,R,ρ,S,rel,sk⟩=>?_;refine⟨F,E,C,R,ρ,S,rel,CKl.bindS sk λds ρ1 S1 w1 vs x1 rel1 o1 sk1=>?_⟩;split at sk1
 ·rename_i hds;have lv:vs.length=fs.length:=by rw[<-o1.length];exact hds
  refine⟨by omega,λa na=>⟨by rw[aG,aN,lv],a,vs,by rw[aN],upd_same,λd H' nd ne ea ed old=>⟨rfl,d,excV code fs vs,ea,ed,?_,?_⟩⟩⟩
  ·have nd:upd w1.H a (exo a (Γ.cA c) none) d=none:=nd;rw[upd_ne ne] at nd;exact nd
  ·have nd:upd w1.H a (exo a (Γ.cA c) none) d=none:=nd;rw[upd_ne ne] at nd;have eH:upd (L2.del H' a) d (.xd (excV code fs vs))=upd w1.H d (.xd (excV code fs vs)):=by
    funext b
    by_cases hb:b=d
    ·subst hb;rw[upd_same,upd_same]
    ·rw[upd_ne hb,upd_ne hb]
     by_cases hb2:b=a
     ·subst hb2;rw[L2.del_same];exact na.symm
     ·rw[L2.del_ne hb2,old b hb2 hb];show upd w1.H a (exo a (Γ.cA c) none) b=_;rw[upd_ne hb2]
   rw[eH];have g:=rel1.good;exact sk1 { w1 with F:=upd w1.F d (.xd (excV code fs vs)),H:=upd w1.H d (.xd (excV code fs vs)) } σ (.ref (Γ.cA c)) (some d) (x1.trans (Ext.newF g nd)) .refl (rel1.move (Ext.newF g nd).gr (Good.newF g nd) rfl rfl rfl)
    ⟨rfl,d,excV code fs vs,rfl,upd_same,zqS (RepL.up (Ext.newF g nd).gr _ _ o1)⟩
 ·exact sk1.elim
end
end
section
structure XT(Γ:Gm)(T:Nat->Str->Bool):Prop where
  ok:∀c f,T c f=true->XfC Γ.K (Γ.cA c)∧PySem.W.findIn Γ.K (.ref (Γ.cA c)) f=some none
theorem zyg{lm:Nat->LamI}{ce:List (Str×Addr)}{tb:Str->Addr}{K:yF}{nm:Nat->Str}{l:List (Nat×Str)}(h:M3 K nm l=true):XT ⟨K,λc=>He.ga K (nm c),lm,ce,tb⟩ (fldT l):=by
 refine⟨λc f e=>?_⟩;obtain⟨p,hp,e⟩:=bO.mp e;obtain⟨e1,e2⟩:=He.ba e;have e1:=beq_iff_eq.mp e1;have e2:=aR e2;subst e1 e2;obtain⟨a1,a2⟩:=He.ba (bJ.mp h p hp);exact⟨xfB_ok a1,He.eqO_ok a2⟩
def xfR(T:Nat->Str->Bool)(f:Str)(r:Rv)(S:List Sl):Option D:=match r with
 |.d (.ob j)=>(match S[j]? with
  |some (.exn c fs)=>if T c f=true then fs.lookup f else none
  |_=>none)
 |_=>none
def cXf(T:Nat->Str->Bool)(f:Str)(co:M Rv):M Rv:=λρ S=>(co ρ S).bind λr ρ S=>match xfR T f r S with
 |some d=>.ok (.d d) ρ S false
 |none=>.bad
section
variable{X:Cx}{Γ:Gm}{W:WX}{T:Nat->Str->Bool}{f:Str}{e:Expr}{co:M Rv}{pos:Pos}{w:Wd}{σ:L2.St}{ρ S:List Sl}
theorem Rel.exn{j c:Nat}{fs:List (Str×D)}{v:V}(h:Rel Γ w ρ S σ)(o:Rep Γ w.R w.F (.ob j) v)(e:S[j]? = some (.exn c fs)) :
  ∃a oe dd vs gs,v=.ref a∧w.H a=some (.frz oe (.own a))∧oe.cls=.ref (Γ.cA c)∧oe.dict=some dd∧oe.data=.fields vs∧w.H dd=some (.xd gs)∧RepF Γ w.R w.F fs gs:=by
 obtain⟨a',A,B,b,h1,h2,h3,h4⟩:=h.own.sto_at e;rw[Rep] at o;obtain⟨a,e5,e6⟩:=o;rw[h1] at e5;cases e5;obtain⟨v',ev,ow⟩:=OwnO.of_ne h3 (λz=>by cases z);cases ev;rw[Own] at ow;obtain⟨a,oe,dd,vs,gs,e1,e2,e3,e4,e5,e6',e7⟩:=ow;cases e1;subst e7;exact⟨a',oe,dd,vs,gs,e6,(h.good.cell (a',_) (by rw[h2];simp)).1,e2,e3,e4,h.good.sub _ _ e5,e6'⟩
theorem gQ(hK:Γ.K=X.K)(xt:XT Γ T)(he:PE X e (tM Γ W co))(hb:attributeBase e f X.env (eval e X.env)=eval e X.env):PE X (.Attribute e f pos) (tM Γ W (cXf T f co)):=by iterate
 refine⟨λpins s σ H Q I t=>?_⟩;obtain⟨F,E,C,R,ρ,S,rel,ck⟩:=t;have t':tM Γ W co σ H λx H1=>∃a oe dd vs gs cn v,x=.ref a∧H1 a=some (.frz oe (.own a))∧oe.cls=.ref (Γ.cA cn)∧oe.dict=some dd∧oe.data=.fields vs∧H1 dd=some (.xd gs)∧gs.lookup f=some v∧XfC Γ.K (Γ.cA cn)∧PySem.W.findIn Γ.K (.ref (Γ.cA cn)) f=some none∧Q v H1:=by
  refine⟨F,E,C,R,ρ,S,rel,CK.bind ck λr ρ1 S1 w1 v1 x1 rel1 o1 ck1=>?_⟩;cases q:xfR T f r S1 with
  |none=>simp only[q] at ck1;exact ck1.elim
  |some d=>
   simp only[q] at ck1;unfold xfR at q;split at q
   ·rename_i j;split at q
    ·rename_i cn fs es;split at q
     ·rename_i ht;obtain⟨a,oe,dd,vs,gs,e1,e2,e3,e4,e5,e6,e7⟩:=rel1.exn o1 es;obtain⟨v,l1,l2⟩:=(e7.look f).1 d q;obtain⟨t1,t2⟩:=xt.ok cn f ht;exact⟨a,oe,dd,vs,gs,cn,v,e1,e2,e3,e4,e5,e6,l1,t1,t2,ck1 w1 v (.refl _) (λ_=>rfl) rel1 l2⟩
     ·cases q
    ·cases q
   ·cases q
 refine attr_of hb (thn (he.run pins s σ H _ I t') λu s1 hh=>?_);obtain⟨x,H1,I1,rx,a,oe,dd,vs,gs,cn,v,ex,ea,ec,ed,edt,edd,l,T1,hno,q⟩:=hh;subst ex;obtain rfl:u=Value.ref a:=rx;have ha:s1.heap.get? a=some oe:=(show ObjOk X.prog X.w H1 s1.heap a (.frz oe (.own a)) from I1.hok a _ ea).1
 have hx:ObjOk X.prog X.w H1 s1.heap dd (.xd gs):=I1.hok dd _ edd;obtain⟨mA,hns,hr⟩:=hx;obtain⟨od,ho,hl⟩:=lookIn_ns hns;obtain⟨u,hu,ru⟩:=RelO.some_of (v:=v) (o:=mA f) (by rw[<-l];exact hr f);have J:PySem.W.InstAt s1.heap a oe (Γ.cA cn) (some od):=⟨ha,ec,by unfold PySem.W.notCls;rw[edt]<;>rfl,by rw[ed];exact ho⟩;rw[hK] at T1 hno;exact HandSPX.exc_get I1.kIn J T1.ga T1.gg T1.exC (PySem.W.findObj_own T1.hdC hno rfl (by rw[hl,hu])) (handed_of ru) ⟨v,H1,I1.tok _,ru,q⟩
end
def addX(H:Hp)(ex:List (Addr×Obj)):Hp:=λb=>match ex.find? (λp=>p.1 == b) with
 |some p=>some (.frz p.2 (.own b))
 |none=>H b
def remX(H:Hp)(ex:List (Addr×Obj)):Hp:=λb=>if(ex.any λp=>p.1 == b)=true then none else H b
theorem addX_out{H:Hp}{ex:List (Addr×Obj)}{b:Addr}(h:∀p∈ex,p.1≠b):addX H ex b=H b:=by
 unfold addX;rw[List.find?_eq_none.mpr λp hp=>by simpa using h p hp]
theorem Kf{H:Hp}{ex:List (Addr×Obj)}{b:Addr}(h:∃p∈ex,p.1=b):∃p∈ex,p.1=b∧addX H ex b=some (.frz p.2 (.own b)):=by
 obtain⟨p,hp,e⟩:=h;unfold addX;cases q:ex.find? (λp=>p.1 == b) with
 |none=>exact absurd (by simpa using e) (List.find?_eq_none.mp q p hp)
 |some p'=>exact⟨p',List.mem_of_find?_eq_some q,beq_iff_eq.mp (List.find?_some (p:=λp:Addr×Obj=>p.1 == b) q),rfl⟩
theorem remX_out{H:Hp}{ex:List (Addr×Obj)}{b:Addr}(h:∀p∈ex,p.1≠b):remX H ex b=H b:=by
 unfold remX;rw[if_neg];intro z;obtain⟨p,hp,e⟩:=bO.mp z;exact h p hp (beq_iff_eq.mp e)
theorem uU{H:Hp}{ex:List (Addr×Obj)}{b:Addr}(h:∃p∈ex,p.1=b):remX H ex b=none:=by
 obtain⟨p,hp,e⟩:=h;unfold remX;rw[if_pos (List.any_eq_true.mpr ⟨p,hp,by simpa using e⟩)]
theorem inX(ex:List (Addr×Obj))(b:Addr):(∃p∈ex,p.1=b)∨∀p∈ex,p.1≠b:=by
 by_cases h:∃p∈ex,p.1=b
 ·exact .inl h
 ·exact .inr λp hp e=>h ⟨p,hp,e⟩
/-- untracked things of a state,out of the frames' way -/
structure ExOk(X:Cx)(H:Hp)(s:Shared)(ex:List (Addr×Obj)):Prop where
  get:∀p∈ex,s.heap.get? p.1=some p.2
  free:∀p∈ex,H p.1=none
  nofs:∀p∈ex,p.1∉frs X.stack
  nob:∀p∈ex,X.base.get? p.1=none
section
variable{X:Cx}{pins:List (Addr×Obj)}{σ:L2.St}{H H':Hp}{s s':Shared}{ex:List (Addr×Obj)}
theorem Inv.env0X(I:Inv X pins σ H s)(x:ExOk X H s ex):Env0 X.prog X.w X.K X.mg X.base X.A X.stack s (addX H ex):=by iterate
 have e:=I.env0;refine⟨e.frames,e.mod,λb o h=>⟨(e.bs b o h).1,?_⟩,e.bsz,e.funs,λb hb=>?_,λb o h=>?_,e.bare⟩
 ·rw[addX_out λp hp z=>by rw[<-z,x.nob p hp] at h;cases h];exact(e.bs b o h).2
 ·rw[addX_out λp hp z=>x.nofs p hp (by rw[z];exact hb)];exact e.frf b hb
 ·rcases inX ex b with z|z
  ·obtain⟨p,hp,e1,e2⟩:=Kf (H:=H) z;rw[e2] at h;cases h;subst e1;exact⟨x.get p hp,⟨_,x.get p hp⟩⟩
  ·rw[addX_out z] at h;exact(e.hok b o h).stay (λ_ _ _ q=>q) (λc q=>by
    rw[addX_out λp hp e=>by rw[<-e,x.free p hp] at q;cases q];exact q) λc xs q=>by
    rw[addX_out λp hp e=>by rw[<-e,x.free p hp] at q;cases q];exact q
/-- behind a call that knew them -/
theorem Inv.afterX{H1:Hp}(I:Inv X pins σ H s)(x:ExOk X H s ex)(ho:s'.os=s.os)(hg:AllBare s'.gens)(un:Un (frs X.stack) [] (addX H ex) H1 s.heap s'.heap)(hok:HOk X.prog X.w H1 s'.heap) :
  Inv X pins σ (remX H1 ex) s'∧∀p∈ex,∃q∈ex,q.1=p.1∧H1 p.1=some (.frz q.2 (.own p.1)):=by iterate
 have at1:∀{b:Addr},(∃p∈ex,p.1=b)->∃p∈ex,p.1=b∧H1 b=some (.frz p.2 (.own b)):=λ{b} z=>by
  obtain⟨p,hp,e1,e2⟩:=Kf (H:=H) z;exact⟨p,hp,e1,un.frzs b _ _ e2⟩
 refine⟨I.call' (ch:=[]) ho ?_ ?_ hg (λ_ z=>absurd z (by simp)),λp hp=>at1 ⟨p,hp,rfl⟩⟩
 ·refine⟨λb o e n hb _=>?_,λb o e n hb _=>?_,λb o e n _=>?_,un.there,λb xs e=>?_,λb o u e=>?_,λb ps e=>?_⟩
  ·rcases inX ex b with z|z
   ·obtain⟨p,hp,e1,e2⟩:=at1 z;have h2:=(show ObjOk X.prog X.w H1 s'.heap b (.frz p.2 (.own b)) from hok b _ e2).1
    have h3:=x.get p hp;rw[e1,e] at h3;cases h3;exact h2
   ·exact un.keep b o e (by rw[addX_out z];exact n) hb (by simp)
  ·rcases inX ex b with ⟨p,hp,z⟩|z
   ·exact absurd (by rw[z];exact hb) (x.nofs p hp)
   ·exact un.slot b o e (by rw[addX_out z];exact n) hb (by simp)
  ·rcases inX ex b with z|z
   ·exact uU z
   ·rw[remX_out z];exact un.free b o e (by rw[addX_out z];exact n) (by simp)
  ·have z:∀p∈ex,p.1≠b:=λp hp z=>by rw[<-z,x.free p hp] at e;cases e
   rw[remX_out z];exact un.tups b xs (by rw[addX_out z];exact e)
  ·have z:∀p∈ex,p.1≠b:=λp hp z=>by rw[<-z,x.free p hp] at e;cases e
   rw[remX_out z];exact un.frzs b o u (by rw[addX_out z];exact e)
  ·have z:∀p∈ex,p.1≠b:=λp hp z=>by rw[<-z,x.free p hp] at e;cases e
   obtain⟨more,e2⟩:=un.tbls b ps (by rw[addX_out z];exact e);exact⟨more,by rw[remX_out z];exact e2⟩
 ·intro b o e;rcases inX ex b with z|z
  ·rw[uU z] at e;cases e
  ·rw[remX_out z] at e;have nf:∀c u,H1 c=some u->(∀o a,u≠.frz o (.own a))->∀p∈ex,p.1≠c:=λc u h1 h2 p hp z=>by
    obtain⟨q,_,_,h3⟩:=at1 ⟨p,hp,z⟩;rw[h1] at h3;cases h3;exact h2 _ _ rfl
   exact(hok b o e).stay (λ_ _ _ q=>q) (λc q=>by rw[remX_out (nf c _ q (λ_ _ z=>by cases z))];exact q) λc xs q=>by rw[remX_out (nf c _ q (λ_ _ z=>by cases z))];exact q
end
/-- a def's body at its start,from what the def promises -/
theorem znP{Γ:Gm}{N:List Str}{n:Nat}{c:M Fl}{vs:List V}{H:Hp}{Q:VK}{E:XK}(h:spM Γ n (defM N.length c) vs H Q E):tS Γ (λcls d _ H=>E cls d H) [] c { nx:=λ_ H'=>Q .non H',rt:=Q } (L2.start N vs) H:=by iterate
 obtain⟨hl,F,C,R,S,ds,rel,l,fk⟩:=h;have ln:=l.length;refine⟨F,[],C,R,env0 N.length ds,S,⟨rel.good,by unfold env0 L2.start;rw[ln];exact OwnE.params _ l,rel.own⟩,?_⟩;unfold defM at fk;cases q:c (env0 N.length ds) S with
 |bad=>rw[q] at fk;exact fk
 |ex y ρ' S'=>
  rw[q] at fk;exact λw' σ' cls d x' p' rel' o'=>let ⟨x2,r2,_⟩:=rel'.leave x';fk ⟨w'.F,[],w'.C,w'.R,w'.H⟩ cls d x2 r2 (by cases y<;>exact o')
 |ok fl ρ' S' t=>
  rw[q] at fk;cases fl with
  |bk=>exact fk.elim
  |ct=>exact fk.elim
  |nx=>exact λw' σ' x' p' rel'=>let ⟨x2,r2,_⟩:=rel'.leave x';fk ⟨w'.F,[],w'.C,w'.R,w'.H⟩ .non x2 r2 (show Rep Γ w'.R w'.F .non .non from sY)
  |rt r=>exact λw' σ' v x' p' rel' o'=>let ⟨x2,r2,o2⟩:=rel'.leave x';fk ⟨w'.F,[],w'.C,w'.R,w'.H⟩ v x2 r2 (o2 r v o')
structure FnC(P:Program)(wd:World)(K:yF)(mg:Str->Option Value)(base:Heap)(k:Nat)(f:Addr)(fd:FuncData)(ps:List Str)(sp:Sp):Prop where
  len:∀vs H Q E,sp vs H Q E->vs.length=ps.length
  run:∀(A:Around) (outer:List Env) (s:Shared) (H:Hp) (args:Args) (us:List Value) (vs:List V) (Q:VK),L2H.RoomH k A->Env0 P wd K mg base A outer s H->BindsTo s fd args (ps.zip us)->Vals vs us->sp vs H Q (λ_ _ _=>False)->
    codeAny (model P wd) A (.call (.ref f) args) (CR (L2.CX P wd) outer P wd H s Q λ_ _ _=>False) s
theorem ztO{P:Program}{wd:World}{K:yF}{mg:Str->Option Value}{base:Heap}{A:Around}{outer:List Env}{s:Shared}{H:Hp}(e0:Env0 P wd K mg base A outer s H):∃p,L2H.PinOk outer H s p:=by
 obtain⟨o,es,ep,ho,hd,_⟩:=e0.mod.glob;obtain⟨h1,h2⟩:=e0.bs _ _ ho;refine⟨(mainGlobals,o),h1,h2,λhm=>?_,λv z=>?_⟩
 ·have:=(e0.funs.mem hm).1;rw[ho] at this;cases this
 ·have z:o.data=.cell v:=z;rw[hd] at z;cases z
section
variable{P:Program}{wd:World}{K:yF}{mg:Str->Option Value}{base:Heap}{k:Nat}{x qual:Str}{params:Arguments}{body:List Stmt}{scope:Scope}{dvs:List V}{kws:List (Str×V)}{f:Addr}{fd:FuncData}{N ps:List Str}
theorem zvk{sp:Sp}(hF:FunD K x qual params body scope dvs kws f fd)(S:FnScope N ps scope)(len:∀vs H Q E,sp vs H Q E->vs.length=ps.length)
  (hbody:∀(cdv:Value) (A:Around) (outer:List Env) (s:Shared) (H:Hp) (vs:List V) (Q:VK) (p:Addr×Obj),L2H.RoomH k (A.deeper (envOfC qual scope s.heap.objs.size f cdv))->sp vs H Q (λ_ _ _=>False)->
   ∃t,PSs (L2H.cxH (L2.CX P wd) P wd K mg base N qual scope f cdv A outer s H (λ_ _ _=>False) p) body t∧t { nx:=λ_ H'=>Q .non H',rt:=Q } (L2.start N vs) H):FnC P wd K mg base (k+1) f fd ps sp:=by iterate
 obtain⟨oc,od,dV,kV,doc,pm,an,cdv,ct,osl,rfl,lk,hcd,_,_⟩:=hF.ex;refine⟨len,λA outer s H args us vs Q hr e0 hb r hsp=>?_⟩;have hl:=len _ _ _ _ hsp;have inH:K.In s.heap:=e0.mod.kin.keeps λb o e=>(e0.bs b o e).1;have nl:s.heap.NoLimit:=e0.mod.nolimit.keeps λb o e=>(e0.bs b o e).1;obtain⟨p,hp⟩:=ztO e0;refine codeAny_call_function hr.depth (inH _ _ lk) rfl S.co S.gen rfl (PySem.W.codeRec_of inH hcd) (hb _ _ _ _ ?_);refine wpAny_newFunctionEnv_cells S.kind (λy hy=>(S.par y.1 (List.of_mem_zip hy).1).imp id λq=>⟨q,PySem.W.cellsFrom_some _ _ _ (.inl q)⟩) λenv he s1 hx=>?_;subst he;refine⟨nl.keeps hx.toInCall.keep,codeAny_func ?_⟩;obtain⟨t,ht,hq⟩:=hbody cdv A outer s H vs Q p (hr.deeper _) hsp;refine wpAny_mono (ht.run [] s1 _ H _ (L2H.inv_startH S hp e0 hl r hx) hq) (λfl s' hs=>?_) λ_ _ hs=>hs;cases fl with
 |ret u=>exact let ⟨v,_,H',J,rv,q⟩:=hs;⟨v,H',J.os,J.bare,J.base,J.hok,rv,q⟩
 |next=>exact let ⟨_,H',J,q⟩:=hs;⟨.non,H',J.os,J.bare,J.base,J.hok,rfl,q⟩
 |brk=>exact False.elim (show False from hs.choose_spec.choose_spec.2)
 |cont=>exact False.elim (show False from hs.choose_spec.choose_spec.2)
theorem zuY{Γ:Gm}{c:M Fl}(hF:FunD K x qual params body scope dvs kws f fd)(hS:FnScope N ps scope)
  (hb:∀(cdv:Value) (A:Around) (outer:List Env) (s:Shared) (H:Hp) (p:Addr×Obj),L2H.RoomH k (A.deeper (envOfC qual scope s.heap.objs.size f cdv))->
   PSs (L2H.cxH (L2.CX P wd) P wd K mg base N qual scope f cdv A outer s H (λ_ _ _=>False) p) body (tS Γ (λcls d _ H=>False) [] c)) :
  FnC P wd K mg base (k+1) f fd ps (spM Γ ps.length (defM N.length c)):=by
 refine zvk hF hS (λvs H Q E h=>(show vs.length=ps.length∧_ from h).1) λcdv A outer s H vs Q p hr h=>⟨_,hb cdv A outer s H p hr,znP h⟩
end
end
section
def cLam(k i:Nat)(q:Str):M Rv:=λρ S=>match ρ[i]? with
 |some (.tab q')=>if q'=q then .ok (.d (.fn k)) ρ S true else .bad
 |_=>.bad
section
variable{X:Cx}{Γ:Gm}{W:WX}{k i:Nat}{q:Str}{c:Addr}{params:Arguments}{body:Expr}{scope:Scope}{pos:Pos}
theorem jR(hL:Γ.lam k=⟨X.env.qual++"<lambda>",params,body,scope⟩) (hq:X.env.qual++"<lambda>" = q) (hcel:Γ.cel=X.env.cells) (hcode:X.env.code=.ref c) (TB:LamX.TabB X.base X.mg c (Γ.tb q))
  (L:LamX.LamS X.env.scope scope) (hdef:defaultsOf params X.env=([],[])):PE X (.Lambda params body scope pos) (tM Γ W (cLam k i q)):=by iterate
 refine⟨λpins s σ H Q I t=>?_⟩;obtain⟨F,E,C,R,ρ,S,rel,ck⟩:=t;unfold cLam at ck;split at ck
 ·rename_i q' es;split at ck
  ·rename_i hqq;subst hqq;subst hq;obtain⟨o,A,B,b,h1,h2,h3,h4⟩:=rel.own.env_at es;obtain⟨v',ev,ow⟩:=OwnO.of_ne h3 (λz=>by cases z);rw[Own] at ow;obtain⟨ps,e1,tc,e2⟩:=ow;subst ev e1 e2;have g:=rel.good;have hP:H (Γ.tb (X.env.qual++"<lambda>"))=some (.tbl ps):=(g.cell ((Γ.tb (X.env.qual++"<lambda>")),.tbl ps) (by show _∈E++C;rw[show E=_ from h2];simp)).1
   have hP':s.heap.get? (Γ.tb (X.env.qual++"<lambda>"))=some { cls:=.none,data:=.fields ps }:=I.hok _ _ hP;have bP:s.heap.BuiltinsAt X.mg (Γ.tb (X.env.qual++"<lambda>")):=TB.bm.keeps I.bk;have obj:∀(pm:Value) (c':Addr) (ct:Value),(Γ.lam k).obj Γ.cel pm c' ct=PySem.W.kla_obj "<lambda>" (X.env.qual++"<lambda>") params body scope (cloFrom X.env.cells scope.names []) pm c' ct:=λpm c' ct=>by rw[hL,hcel]
   have nmq:(Γ.lam k).qual=X.env.qual++"<lambda>":=by rw[hL]
   have ful:(Γ.lam k).Full Γ.cel:=by rw[hL,hcel];exact L.has I.ok
   refine PySem.W.kla_eval hdef ?_;cases hc:codeAmong pos ps.toList with
   |none=>
    refine PySem.W.kla_makeFunction (mg:=X.mg) (c:=c) (P:=(Γ.tb (X.env.qual++"<lambda>"))) (ps:=ps) (closure_ok (L.has I.ok)) I.ok.glob (I.mod.glob.keeps I.bk) hcode (TB.code.keeps I.bk) hP' tc.tr hc TB.gP bP λc' ctv h' tk hx hge hlt hrec htb=>?_;obtain⟨c2,oc,vs,t,e2,hoc,hd,hv⟩:=hrec;cases e2;have I1:=LamX.inv_table (t':=tk) (more:=#[rawInt pos.line,rawInt pos.col,.ref c']) (q:=X.env.qual++"<lambda>") (h':=h') I hP hx htb hge ⟨oc,vs,t,hoc,hd,hv⟩;have I2:=I1.laid (t':=tk) (a:=h'.objs.size) (o:=.frz (PySem.W.kla_obj "<lambda>" (X.env.qual++"<lambda>") params body scope (cloFrom X.env.cells scope.names []) ((X.mg "__name__").getD .none) c' ctv) (.own h'.objs.size))
     (h':=h'.push (PySem.W.kla_obj "<lambda>" (X.env.qual++"<lambda>") params body scope (cloFrom X.env.cells scope.names []) ((X.mg "__name__").getD .none) c' ctv)) (λb o e=>Heap.get?_push_of_some _ e) (aO _) ⟨Heap.get?_push_size _ rfl,⟨_,Heap.get?_push_size _ rfl⟩⟩
    obtain⟨g1,x1⟩:=g.put (a:=(Γ.tb (X.env.qual++"<lambda>"))) (ob:=.tbl ps) (o':=.tbl (ps++#[rawInt pos.line,rawInt pos.col,.ref c'])) (A:=A) (B:=B++C) (E':=A++[((Γ.tb (X.env.qual++"<lambda>")),.tbl (ps++#[rawInt pos.line,rawInt pos.col,.ref c']))]++B) (C':=C)
     (by show E++C=_;rw[show E=_ from h2];simp) (by simp)
    have nC0:H c'=none:=I.hok.fresh hge;have nC:upd H (Γ.tb (X.env.qual++"<lambda>")) (.tbl (ps++#[rawInt pos.line,rawInt pos.col,.ref c'])) c'=none:=by rw[upd_ne (Ne.symm (ne_of_none hP nC0))];exact nC0
    have g2:=Good.newF (p:=c') (o:=LamX.CodeO c' (X.env.qual++"<lambda>")) g1 nC;have x2:=Ext.newF (p:=c') (o:=LamX.CodeO c' (X.env.qual++"<lambda>")) g1 nC;have nf:=I1.hok.fresh (aO h'.objs.size);have g3:=Good.newF (p:=h'.objs.size) (o:=.frz (PySem.W.kla_obj "<lambda>" (X.env.qual++"<lambda>") params body scope (cloFrom X.env.cells scope.names []) ((X.mg "__name__").getD .none) c' ctv) (.own h'.objs.size)) g2 nf;have x3:=Ext.newF (p:=h'.objs.size) (o:=.frz (PySem.W.kla_obj "<lambda>" (X.env.qual++"<lambda>") params body scope (cloFrom X.env.cells scope.names []) ((X.mg "__name__").getD .none) c' ctv) (.own h'.objs.size)) g2 nf;have nfc:c'≠h'.objs.size:=Nat.ne_of_lt hlt;refine⟨.ref h'.objs.size,_,I2,rfl,ck _ (.ref h'.objs.size) ((x1.trans x2).trans x3) (λz=>nomatch z) ⟨g3,?_⟩ ?_⟩
    ·have z:=h4 _ ((x2.trans x3).gr.f) (.tab (X.env.qual++"<lambda>")) (some (.ref (Γ.tb (X.env.qual++"<lambda>")))) [((Γ.tb (X.env.qual++"<lambda>")),.tbl (ps++#[rawInt pos.line,rawInt pos.col,.ref c']))] (OwnO.mk (by
      rw[Own];have eL:(ps++#[rawInt pos.line,rawInt pos.col,.ref c']).toList=ps.toList++[rawInt pos.line,rawInt pos.col,.ref c']:=by simp
      refine⟨_,rfl,⟨by rw[eL];exact PySem.TriplesOk_snoc _ _ _ _ tc.tr,λp' cv hcv=>?_⟩,rfl⟩;rw[eL] at hcv;rcases LamX.among_app _ tc.tr hcv with y|y
      ·obtain⟨c0,y1,y2⟩:=tc.co p' cv y;exact⟨c0,y1,(x2.trans x3).gr.f _ _ y2⟩
      ·exact⟨c',y,by show upd (upd F c' _) _ _ c'=_;rw[upd_ne nfc];exact upd_same⟩))
     rw[set_same es,set_same h1] at z;exact z
    ·show Rep Γ R _ (.fn k) _;rw[Rep];refine⟨_,c',(X.mg "__name__").getD .none,ctv,rfl,by rw[obj];exact upd_same,?_,ful⟩;rw[nmq];show upd (upd F c' _) _ _ c'=_;rw[upd_ne nfc];exact upd_same
   |some cv=>
    obtain⟨c',e,hco⟩:=tc.co pos cv hc;subst e;refine PySem.W.kla_makeFunctionHit (mg:=X.mg) (c:=c) (P:=(Γ.tb (X.env.qual++"<lambda>"))) (ps:=ps) (closure_ok (L.has I.ok)) I.ok.glob (I.mod.glob.keeps I.bk) hcode (TB.code.keeps I.bk) hP' tc.tr hc bP λctv h' tk hx hsz=>?_;have I1:Inv X pins σ H { s with heap:=h',toks:=tk }:=I.kept hx
    have I2:=I1.laid (t':=tk) (a:=h'.objs.size) (o:=.frz (PySem.W.kla_obj "<lambda>" (X.env.qual++"<lambda>") params body scope (cloFrom X.env.cells scope.names []) ((X.mg "__name__").getD .none) c' ctv) (.own h'.objs.size))
     (h':=h'.push (PySem.W.kla_obj "<lambda>" (X.env.qual++"<lambda>") params body scope (cloFrom X.env.cells scope.names []) ((X.mg "__name__").getD .none) c' ctv)) (λb o e=>Heap.get?_push_of_some _ e) (aO _) ⟨Heap.get?_push_size _ rfl,⟨_,Heap.get?_push_size _ rfl⟩⟩
    have nf:=I1.hok.fresh (aO h'.objs.size);have x3:=Ext.newF (p:=h'.objs.size) (o:=.frz (PySem.W.kla_obj "<lambda>" (X.env.qual++"<lambda>") params body scope (cloFrom X.env.cells scope.names []) ((X.mg "__name__").getD .none) c' ctv) (.own h'.objs.size)) g nf;refine⟨.ref h'.objs.size,_,I2,rfl,ck _ (.ref h'.objs.size) x3 (λz=>nomatch z) (rel.move x3.gr (Good.newF g nf) rfl rfl rfl) ?_⟩;show Rep Γ R _ (.fn k) _;rw[Rep];exact⟨_,c',(X.mg "__name__").getD .none,ctv,rfl,by rw[obj];exact upd_same,by rw[nmq];exact x3.gr.f _ _ hco,ful⟩
  ·exact ck.elim
 ·exact ck.elim
end
section
variable{Γ:Gm}{w:Wd}{S:List Sl}{j:Nat}{x:Str}{d:D}{a:Addr}{o:Obj}{u:Value}{y:V}
theorem exp1(h:RelS Γ w S)(e:S[j]? = some (.rsv x))(ha:Γ.cel.lookup x=some a)(hn:w.H a=none)(hd:o.data=.cell (some u))(r:RelV y u)(rep:Rep Γ w.R w.F d y) :
  ∃C',RelS Γ ⟨w.F,[],C',w.R,upd w.H a (.frz o (.own a))⟩ (S.set j (.cel x d))∧Ext w ⟨w.F,[],C',w.R,upd w.H a (.frz o (.own a))⟩:=by iterate
 obtain⟨a',A,B,b,h1,h2,h3,h4⟩:=h.own.at e;obtain⟨v',ev,ow⟩:=OwnO.of_ne h3 (λz=>by cases z);cases ev;rw[Own] at ow;obtain⟨e1,_,e3⟩:=ow;subst e3;have g:=h.good;obtain⟨n1,n2⟩:=g.none_of hn;have eC:w.C=A++B:=by rw[h2];simp
 have ad:w.ad=A.map (·.1)++B.map (·.1):=by show(w.E++w.C).map _=_;rw[h.noE,eC];simp
 have nd:=g.nd;rw[ad] at nd n2;obtain⟨q1,q2,q3⟩:=bB.mp nd;have nA:a∉A.map (·.1):=λz=>n2 (List.mem_append_left _ z);have nB:a∉B.map (·.1):=λz=>n2 (List.mem_append_right _ z);refine⟨A++[(a,.frz o (.own a))]++B,⟨⟨λb u q=>?_,λp hp=>?_,?_⟩,rfl,?_⟩,⟨.refl,λb u q _=>?_,λb z=>?_,λb u q=>.inl q,λb u q=>⟨u,?_⟩⟩⟩
 ·show upd w.H a _ b=some u;rw[upd_ne (λz=>by subst z;rw[n1] at q;cases q)];exact g.sub b u q
 ·have hp:p∈A++[(a,HO.frz o (.own a))]++B:=hp;simp only[List.mem_append,List.mem_singleton] at hp;rcases hp with (hp|hp)|hp
  ·have:=g.cell p (by rw[eC];simp[hp]);exact⟨(upd_ne (λz=>nA (by rw[<-z];exact bf hp))).trans this.1,this.2⟩
  ·subst hp;exact⟨upd_same,n1⟩
  ·have:=g.cell p (by rw[eC];simp[hp]);exact⟨(upd_ne (λz=>nB (by rw[<-z];exact bf hp))).trans this.1,this.2⟩
 ·show((([]:Cells)++(A++[(a,HO.frz o (.own a))]++B)).map (·.1)).Nodup;rw[aM,aX,aX];refine List.nodup_append.mpr ⟨List.nodup_append.mpr ⟨q1,by simp,λp hp q hq z=>?_⟩,q2,λp hp q hq z=>?_⟩
  ·have hq:q=a:=by simpa using hq
   subst hq z;exact nA hp
  ·rcases aV.mp hp with hp|hp
   ·exact q3 p hp q hq z
   ·have hp:p=a:=by simpa using hp
    subst hp z;exact nB hq
 ·exact h4 w.F (λ_ _ h=>h) (.cel x d) [(a,.frz o (.own a))] (OwnO.mk (by rw[Own];exact⟨a,o,u,y,e1,ha,hd,r,rep,rfl⟩))
 ·show upd w.H a _ b=some u;rw[upd_ne (λz=>by subst z;rw[hn] at q;cases q)];exact q
 ·have z:b∈(([]:Cells)++(A++[(a,HO.frz o (.own a))]++B)).map (·.1):=z;rw[aM,aX,aX] at z;rcases aV.mp z with z|z
  ·rcases aV.mp z with z|z
   ·exact .inl (by rw[ad];exact List.mem_append_left _ z)
   ·have z:b=a:=by simpa using z
    subst z;exact .inr hn
  ·exact .inl (by rw[ad];exact List.mem_append_right _ z)
 ·show upd w.H a _ b=some u;rw[upd_ne (λz=>by subst z;rw[hn] at q;cases q)];exact q
theorem hid1(h:RelS Γ w S)(e:S[j]? = some (.cel x d)) :
  ∃a o u y C',Γ.cel.lookup x=some a∧a∈w.ad∧w.H a=some (.frz o (.own a))∧o.data=.cell (some u)∧RelV y u∧Rep Γ w.R w.F d y∧RelS Γ ⟨w.F,[],C',w.R,L2.del w.H a⟩ (S.set j (.rsv x))∧∀b,b∈Wd.ad ⟨w.F,[],C',w.R,L2.del w.H a⟩->b∈w.ad:=by iterate
 obtain⟨a0,A,B,b,h1,h2,h3,h4⟩:=h.own.at e;obtain⟨v',ev,ow⟩:=OwnO.of_ne h3 (λz=>by cases z);cases ev;rw[Own] at ow;obtain⟨a,o,u,y,e1,e2,e3,e4,e5,e6⟩:=ow;subst e6;have g:=h.good;have ca:=g.cell (a,.frz o (.own a)) (by rw[h2];simp);have ad:w.ad=A.map (·.1)++[a]++B.map (·.1):=by show(w.E++w.C).map _=_;rw[h.noE,h2];simp
 have nd:=g.nd;rw[ad] at nd;obtain⟨q1,q2,q3⟩:=bB.mp nd;obtain⟨q4,q5,q6⟩:=bB.mp q1;have nA:∀p∈A,p.1≠a:=λp hp z=>q6 _ (List.mem_map_of_mem hp) a (by simp) z;have nB:∀p∈B,p.1≠a:=λp hp z=>q3 a (by simp) _ (List.mem_map_of_mem hp) z.symm;have old:∀p,p∈A++B->L2.del w.H a p.1=some p.2∧w.F p.1=none:=λp hp=>by
  rcases aV.mp hp with hp|hp
  ·rw[L2.del_ne (nA p hp)];exact g.cell p (by rw[h2];simp[hp])
  ·rw[L2.del_ne (nB p hp)];exact g.cell p (by rw[h2];simp[hp])
 refine⟨a,o,u,y,A++B,e2,by rw[ad];simp,ca.1,e3,e4,e5,⟨⟨λb u q=>?_,λp hp=>old p hp,?_⟩,rfl,?_⟩,λb z=>?_⟩
 ·show L2.del w.H a b=some u;rw[L2.del_ne (λz=>by subst z;rw[show w.F b=none from ca.2] at q;cases q)]
  exact g.sub b u q
 ·show((([]:Cells)++(A++B)).map (·.1)).Nodup;rw[aM,aX];exact bB.mpr ⟨q4,q2,λp hp q hq=>q3 p (List.mem_append_left _ hp) q hq⟩
 ·have z:=h4 w.F (λ_ _ h=>h) (.rsv x) [] (OwnO.mk (by rw[Own];exact⟨e1,⟨a,e2⟩,rfl⟩));rw[aN] at z;exact z
 ·have z:b∈(([]:Cells)++(A++B)).map (·.1):=z;rw[aM,aX] at z;rw[ad];rcases aV.mp z with z|z
  ·exact List.mem_append_left _ (List.mem_append_left _ z)
  ·exact List.mem_append_right _ z
end
end
section
theorem zgO{B:Heap}{l:List Env}{a:Addr}{Z:Obj->Prop}{h h':Heap}(R:HandSPX.FlyingZ B l a Z h)(k:∀b o,h.get? b=some o->h'.get? b=some o):HandSPX.FlyingZ B l a Z h':=by
 obtain⟨r1,r2,r3,oe,vs,T,oT,ts,q1,q2,q3,q4,q5,q6,q7,q8,q9⟩:=R;exact⟨λb o q=>k b o (r1 b o q),r2,r3.of_keeps λb o q _=>⟨o,k b o q,rfl⟩,oe,vs,T,oT,ts,k _ _ q1,q2,q3,q4,q5,q6,k _ _ q7,q8,q9⟩
/-- what the clause wishes of an exception of the body -/
def wTup(K:yF)(base:Heap)(cs:List Value)(i:Nat)(ts:Addr->Value->Option Addr->TS)(D:Ends):WX:=λcls d σ H=>
 PySem.W.exmAny K cls cs=some true∧∀a,H a=none->base.get? a=none->
  ts a cls d { nx:=λσ' H'=>D.nx (σ'.set i none) H',rt:=D.rt,bk:=λσ' H'=>D.bk (σ'.set i none) H',ct:=λσ' H'=>D.ct (σ'.set i none) H' } (σ.set i (some (.ref a))) H
section
variable{X:Cx}{x1 x2 x3 n:Str}{c1 c2 c3:Value}{i:Nat}{body suite:List Stmt}{b₀:Stmt}{n1 n2 n3 tp pos pos':Pos}{kk:Nat}{tb:WX->TS}{ts:Addr->Value->Option Addr->TS}
theorem zm1(hs:X.stack=X.env::X.outer)(hf:X.env.frame=some X.env.locals)(hN:X.N.Nodup)(hi:X.N[i]? = some n)(hln:X.env.kindOf n=some .local)
    (k1:Gl X x1∧X.mg x1=some c1∧(x1 == ("__debug__" : Str))=false) (k2:Gl X x2∧X.mg x2=some c2∧(x2 == ("__debug__" : Str))=false) (k3:Gl X x3∧X.mg x3=some c3∧(x3 == ("__debug__" : Str))=false)
    (hb:∀(W:WX) (pn:List (Addr×Obj)) (xe:Value->Shared->Prop),Takes (X.tr pn xe) W->PSs (X.tr pn xe) body (tb W))
    (hsu:∀(a:Addr) (oe:Obj) (cls:Value) (d:Option Addr) (pn:List (Addr×Obj)),X.base.get? a=none->Zc cls d oe->(∃vs,oe.data=.fields vs)->PSs (X.suite a ((a,oe)::pn)) (b₀::suite) (ts a cls d)) :
    PS X (.Try body [.ExceptHandler (some (.Tuple [.Name x1 n1,.Name x2 n2,.Name x3 n3] kk tp)) (some n) (b₀::suite) pos'] [] [] pos) (λD σ H=>tb (wTup X.K X.base [c1,c2,c3] i ts D) D σ H):=by iterate
  refine⟨λpins s σ H D I h=>?_⟩;have hok:=I.ok;have hframes:X.A.frames=some (X.env::X.outer):=by rw[hok.frames,hs]
  refine wpAny_Try_except ?_;refine wpAny_mono ((hb (wTup X.K X.base [c1,c2,c3] i ts D) (X.pn++pins)
    (λev sa=>wpAny (model X.prog X.w) X.A (noteFrame ev X.env) (λ_ sb=>wpAny (model X.prog X.w) X.A (setFlight ev none) (λ_ sc=>
      wpAny (model X.prog X.w) X.A (handleBy ev X.env [.ExceptHandler (some (.Tuple [.Name x1 n1,.Name x2 n2,.Name x3 n3] kk tp)) (some n) (b₀::suite) pos']) (SP X pins D) X.xe sc) X.xe sb) X.xe sa)
    (λu s' xx=>?_)).run [] s σ H D (I.toTry _) h) (λf s1 q=>?_) (λ_ _ he=>he)
  · obtain ⟨a, B, sI, pins', σ', H', cls, d, rfl, J', nb, up, sky, na, os, ag, hm, hyes⟩ := xx
    have J:=J'.ofTry hok;rw[show X.stack=X.env::X.outer from hs] at sky
    show wpAny (model X.prog X.w) X.A (noteFrame (.ref a) X.env) _ _ _;refine Sky.land Zc.steady hframes hf sky λha fa ua=>?_;have Ja:Inv X pins σ' H' { s' with heap:=ha }:=J.landed nb fa.1 (up.trans ua) os ag
    obtain⟨oa,va,ea,za,da⟩:=fa.there;have apart:a∉frs (X.env::X.outer):=λz=>by
      obtain⟨_,o',e',hnf⟩:=fa.2.2.1.mem z;rw[ea] at e';cases e';exact hnf _ da
    have aL:a≠X.env.locals:=λz=>apart (by rw[z];exact List.mem_filterMap.mpr ⟨X.env,bK,hf⟩);have aF:a∉X.fs:=λz=>by
      obtain⟨ev,hev,q⟩:=List.mem_filterMap.mp z;exact apart (List.mem_filterMap.mpr ⟨ev,bL _ hev,q⟩)
    have aB:X.base.get? a=none:=by
      cases q:X.base.get? a with
      |none=>rfl
      |some ob=>
        have z:=nb a ob (J.bk a ob q) (by rw[hs];exact apart);rw[fa.2.1] at z;cases z
    have Sa:=Ja.suite ea da na aL aF;refine wpAny_handleBy_cons (codeAny_handlers_test ?_) (by intro z;cases z);refine wpAny_Tuple ?_;refine wpAny_items_cons (ld_glob (X:=X.suite a ((a,oa)::(X.pn++pins))) Sa k1.1 k1.2.1 ?_ k1.2.2);refine wpAny_items_cons (ld_glob (X:=X.suite a ((a,oa)::(X.pn++pins))) Sa k2.1 k2.2.1 ?_ k2.2.2);refine wpAny_items_cons (ld_glob (X:=X.suite a ((a,oa)::(X.pn++pins))) Sa k3.1 k3.2.1 ?_ k3.2.2);refine wpAny_items_nil ⟨by size_fits,?_⟩;have kp:∀b o,ha.get? b=some o->(ha.push { cls:=.type "tuple",data:=.seq [c1,c2,c3].toArray }).get? b=some o:=λ_ _ z=>Heap.get?_push_of_some _ z;have fk:=zgO fa kp;have LT:PySem.W.Looks (model X.prog X.w) (ha.push { cls:=.type "tuple",data:=.seq [c1,c2,c3].toArray }) (typeOf (.ref a)) cls:=λ_ _ _ _ kq q=>wpAny_typeOf_ref (kq _ _ (kp _ _ ea)) (by rw[za.1];exact q);refine(PySem.W.exm_tup3 (M:=model X.prog X.w) (PySem.W.Frag.In.keeps Ja.kIn kp) LT (Heap.get?_push_size ha rfl) hm).here ?_;refine codeAny_handlers_suite_as ?_;refine HandSPX.lands_againZ fk λhb2 fb ub=>?_;have Jb:Inv X pins σ' H' { s' with heap:=hb2 }:=J.landed nb fb.1 (((up.trans ua).trans (Heap.UpToSlots.of_keeps kp)).trans ub) os ag
    obtain⟨ob,vb,eb,zb,db⟩:=fb.there;refine store_ok (X:=X.suite a ((a,ob)::(X.pn++pins))) (v:=.ref a) (Jb.suite eb db na aL aF) hN hi (.inl hln) rfl (λs5 S5=>?_) (.inr hln);refine wpAny_mono ((hsu a ob cls d (X.pn++pins) aB zb ⟨_,db⟩).run [] s5 _ H' _ S5 (hyes a na aB)) (λf s6 hsp=>?_) (λ_ _ z=>z.elim);have fin:∀{σ6:L2.St} {H6:Hp} {Q:Shared->Prop},Inv (X.suite a ((a,ob)::(X.pn++pins))) [] σ6 H6 s6->(∀s7,Inv X pins (σ6.set i none) H6 s7->Q s7)->
        wpAny (model X.prog X.w) X.A (do bindName X.env n .none;unbindBehindTheSuite X.env n pos') (λ_ s7=>Q s7) X.xe s6:=λ{σ6 H6 Q} z hq=>gone_ok (z.unsuite hok) hN hi hln hq
    cases f with
    |next=>exact let ⟨_,_,z,q⟩:=hsp;fin z λ_ J7=>⟨_,_,J7,q⟩
    |brk=>exact let ⟨_,_,z,q⟩:=hsp;fin z λ_ J7=>⟨_,_,J7,q⟩
    |cont=>exact let ⟨_,_,z,q⟩:=hsp;fin z λ_ J7=>⟨_,_,J7,q⟩
    |ret u=>exact let ⟨_,_,_,z,r,q⟩:=hsp;fin z λ_ J7=>⟨_,_,_,J7,r,q⟩
  · cases f with
    |next=>exact let ⟨_,_,J',z⟩:=q;wpAny_execs_nil ⟨_,_,J'.ofTry hok,z⟩
    |brk=>exact let ⟨_,_,J',z⟩:=q;⟨_,_,J'.ofTry hok,z⟩
    |cont=>exact let ⟨_,_,J',z⟩:=q;⟨_,_,J'.ofTry hok,z⟩
    |ret u=>exact let ⟨_,_,_,J',r,z⟩:=q;⟨_,_,_,J'.ofTry hok,r,z⟩
end
end
section
/-- (the cell's name,its place in the store,its slot) -/
abbrev CelL:=List (Str×Nat×Nat)
def jT:CelL->List Sl->List Sl->Option (List Sl)
 |[],_,S=>some S
 |t::J,ρ,S=>match ρ[t.2.2]?,S[t.2.1]? with
  |some (.val d),some (.rsv y)=>if y=t.1 then jT J ρ (S.set t.2.1 (.cel t.1 d)) else none
  |_,_=>none
def iK:CelL->List Sl->Option (List Sl)
 |[],S=>some S
 |t::J,S=>match S[t.2.1]? with
  |some (.cel y _)=>if y=t.1 then iK J (S.set t.2.1 (.rsv t.1)) else none
  |_=>none
def ir:CelL->List Sl->List Sl->Option (List Sl)
 |[],_,S=>some S
 |t::J,S0,S=>match S0[t.2.1]?,S[t.2.1]? with
  |some (.cel _ d),some (.rsv y)=>if y=t.1 then ir J S0 (S.set t.2.1 (.cel t.1 d)) else none
  |_,_=>none
def adJ(cel:List (Str×Addr))(J:CelL)(b:Addr):Prop:=∃t∈J,cel.lookup t.1=some b
/-- different cells -/
def DisJ(cel:List (Str×Addr)):CelL->Prop
 |[]=>True
 |t::J=>(∀a,cel.lookup t.1=some a->¬adJ cel J a)∧DisJ cel J
theorem gR{cel:List (Str×Addr)}{t:Str×Nat×Nat}{J:CelL}{b:Addr}:adJ cel (t::J) b↔cel.lookup t.1=some b∨adJ cel J b:=by
 constructor
 ·rintro⟨t',h,e⟩;rcases au.mp h with z|z
  ·subst z;exact .inl e
  ·exact .inr ⟨t',z,e⟩
 ·rintro(e|⟨t',h,e⟩)
  ·exact⟨t,bK ..,e⟩
  ·exact⟨t',bL _ h,e⟩
section
variable{Γ:Gm}
/-- what is known of a cell -/
structure CelK(Γ:Gm)(R:List Addr)(F:Hp)(x:Str)(d:D)(a:Addr)(o:Obj):Prop where
  at_:Γ.cel.lookup x=some a
  val:∃u y,o.data=.cell (some u)∧RelV y u∧Rep Γ R F d y
theorem uV:∀{J:CelL} {w:Wd} {S S2:List Sl},RelS Γ w S->iK J S=some S2->∃w2,RelS Γ w2 S2∧w2.F=w.F∧w2.R=w.R∧(∀b,adJ Γ.cel J b->w2.H b=none)∧(∀b,¬adJ Γ.cel J b->w2.H b=w.H b)∧(∀b,b∈w2.ad->b∈w.ad)∧DisJ Γ.cel J ∧
  ∀t∈J,∃d a o,S[t.2.1]? = some (.cel t.1 d)∧CelK Γ w.R w.F t.1 d a o∧a∈w.ad∧w.H a=some (.frz o (.own a))
 |[],w,S,S2,h,e=>by
  cases e;exact⟨w,h,rfl,rfl,λb ⟨_,z,_⟩=>by simp at z,λ_ _=>rfl,λ_ z=>z,trivial,λ_ z=>by simp at z⟩
 |t::J,w,S,S2,h,e=>by iterate
  simp only[iK] at e;split at e
  ·rename_i y d es;split at e
   ·rename_i hy;subst hy;obtain⟨a,o,u,y',C',e1,e2,e3,e4,e5,e6,e7,e8⟩:=hid1 h es;obtain⟨w2,r1,r2,r3,r4,r5,r6,r7,r8⟩:=uV e7 e;refine⟨w2,r1,r2,r3,λb hb=>?_,λb hb=>?_,λb hb=>e8 b (r6 b hb),⟨λa' ha hj=>?_,r7⟩,λt' ht=>?_⟩
    ·by_cases z:adJ Γ.cel J b
     ·exact r4 b z
     ·rw[r5 b z];rcases gR.mp hb with y|y
      ·rw[e1] at y;cases y;exact L2.del_same
      ·exact absurd y z
    ·rw[r5 b λz=>hb (gR.mpr (.inr z))];exact L2.del_ne λz=>hb (gR.mpr (.inl (by rw[z];exact e1)))
    ·rw[e1] at ha;cases ha;obtain⟨t',ht,z⟩:=hj;obtain⟨d',a',o',q1,q2,q3,q4⟩:=r8 t' ht;rw[q2.at_] at z
     cases z;have q4:L2.del w.H a a=_:=q4;rw[L2.del_same] at q4;cases q4
    ·rcases au.mp ht with z|z
     ·subst z;exact⟨d,a,o,es,⟨e1,u,y',e4,e5,e6⟩,e2,e3⟩
     ·obtain⟨d',a',o',q1,q2,q3,q4⟩:=r8 t' z;refine⟨d',a',o',?_,q2,e8 a' q3,?_⟩
      ·by_cases hj:t.2.1=t'.2.1
       ·rw[hj,List.getElem?_set_self (by rw[<-hj];exact(bx.mp es).1)] at q1;cases q1
       ·rw[List.getElem?_set_ne hj] at q1;exact q1
      ·have q4:L2.del w.H a a'=some (.frz o' (.own a')):=q4
       by_cases hz:a'=a
       ·subst hz;rw[L2.del_same] at q4;cases q4
       ·rw[L2.del_ne hz] at q4;exact q4
   ·cases e
  ·cases e
theorem R4{HH:Hp}{S0:List Sl}:∀{J:CelL} {w:Wd} {S S4:List Sl},RelS Γ w S->ir J S0 S=some S4->DisJ Γ.cel J->(∀b,adJ Γ.cel J b->w.H b=none)->
  (∀t∈J,∃d a o,S0[t.2.1]? = some (.cel t.1 d)∧CelK Γ w.R w.F t.1 d a o∧HH a=some (.frz o (.own a)))->
  ∃w4,RelS Γ w4 S4∧w4.F=w.F∧w4.R=w.R∧Ext w w4∧(∀b,adJ Γ.cel J b->w4.H b=HH b)∧(∀b,¬adJ Γ.cel J b->w4.H b=w.H b)
 |[],w,S,S2,h,e,_,_,_=>by
  cases e;exact⟨w,h,rfl,rfl,.refl _,λb ⟨_,z,_⟩=>by simp at z,λ_ _=>rfl⟩
 |t::J,w,S,S4,h,e,dj,hn,hk=>by iterate
  simp only[ir] at e;split at e
  ·rename_i y' d y es0 es;split at e
   ·rename_i hy;subst hy;obtain⟨d',a,o,q1,q2,q3⟩:=hk t (bK ..);rw[es0] at q1;cases q1;obtain⟨u,yv,k1,k2,k3⟩:=q2.val;have na:=hn a (gR.mpr (.inl q2.at_))
    obtain⟨C',r1,x1⟩:=exp1 h es q2.at_ na k1 k2 k3
    have nj:=dj.1 a q2.at_
    obtain⟨w4,s1,s2,s3,s4,s5,s6⟩:=R4 (HH:=HH) r1 e dj.2 (λb hb=>by
     show upd w.H a _ b=none;rw[upd_ne (λz=>nj (by rw[<-z];exact hb))];exact hn b (gR.mpr (.inr hb))) (λt' ht=>hk t' (bL _ ht))
    refine⟨w4,s1,s2,s3,x1.trans s4,λb hb=>?_,λb hb=>?_⟩
    ·by_cases z:adJ Γ.cel J b
     ·exact s5 b z
     ·rw[s6 b z];rcases gR.mp hb with y|y
      ·rw[q2.at_] at y
       cases y;rw[q3];exact upd_same
      ·exact absurd y z
    ·rw[s6 b λz=>hb (gR.mpr (.inr z))];exact upd_ne λz=>hb (gR.mpr (.inl (by rw[z];exact q2.at_)))
   ·cases e
  ·cases e
theorem zqN{H:Hp}{ex:List (Addr×Obj)}{a:Addr}{o:Obj}:addX (upd H a (.frz o (.own a))) ex=addX H (ex++[(a,o)]):=by
 funext b;unfold addX;rw[List.find?_append];cases q:ex.find? (λp=>p.1 == b) with
 |some p=>rfl
 |none=>
  show upd H a _ b=_
  by_cases hb:a=b
  ·subst hb;rw[upd_same];simp
  ·rw[upd_ne (Ne.symm hb)];have:(a == b)=false:=by simpa using hb
   simp[this]
theorem R5{ρ:List Sl}{h:Heap}:∀{J:CelL} {w:Wd} {S S1:List Sl},RelS Γ w S->jT J ρ S=some S1->DisJ Γ.cel J->(∀b,adJ Γ.cel J b->w.H b=none)->
  (∀t∈J,∀d,ρ[t.2.2]? = some (.val d)->∃a o,CelK Γ w.R w.F t.1 d a o∧h.get? a=some o)->
  ∃ex w1,RelS Γ w1 S1∧w1.F=w.F∧w1.R=w.R∧Ext w w1∧w1.H=addX w.H ex∧(∀p∈ex,adJ Γ.cel J p.1∧h.get? p.1=some p.2)∧∀b,adJ Γ.cel J b->∃p∈ex,p.1=b
 |[],w,S,S1,r,e,_,_,_=>by
  cases e;exact⟨[],w,r,rfl,rfl,.refl _,rfl,λ_ z=>by simp at z,λb ⟨_,z,_⟩=>by simp at z⟩
 |t::J,w,S,S1,r,e,dj,hn,hk=>by iterate
  simp only[jT] at e;split at e
  ·rename_i d y er es;split at e
   ·rename_i hy;subst hy;obtain⟨a,o,q2,q3⟩:=hk t (bK ..) d er;obtain⟨u,yv,k1,k2,k3⟩:=q2.val;have na:=hn a (gR.mpr (.inl q2.at_))
    obtain⟨C',r1,x1⟩:=exp1 r es q2.at_ na k1 k2 k3
    have nj:=dj.1 a q2.at_
    obtain⟨ex,w1,s1,s2,s3,s4,s5,s6,s7⟩:=R5 r1 e dj.2 (λb hb=>by
     show upd w.H a _ b=none;rw[upd_ne (λz=>nj (by rw[<-z];exact hb))];exact hn b (gR.mpr (.inr hb))) (λt' ht=>hk t' (bL _ ht))
    refine⟨ex++[(a,o)],w1,s1,s2,s3,x1.trans s4,by rw[s5];exact zqN,λp hp=>?_,λb hb=>?_⟩
    ·rcases aV.mp hp with z|z
     ·exact⟨gR.mpr (.inr (s6 p z).1),(s6 p z).2⟩
     ·have z:p=(a,o):=by simpa using z
      subst z;exact⟨gR.mpr (.inl q2.at_),q3⟩
    ·rcases gR.mp hb with z|z
     ·rw[q2.at_] at z
      cases z;exact⟨(a,o),by simp,rfl⟩
     ·obtain⟨p,hp,e⟩:=s7 b z;exact⟨p,List.mem_append_left _ hp,e⟩
   ·cases e
  ·cases e
end
def qU(J:CelL)(m:List D->List Sl->Res Rv)(n:Nat)(gD:List D->List D->List D)(cs:M (List D)):M Rv:=λρ S=>(cs ρ S).bind λds ρ S=>
 if ds.length=n then(match jT J ρ S with
  |some S1=>(match m (gD ds []) S1 with
   |.ok r _ S' _=>(match iK J S' with
    |some S2=>.ok r ρ S2 false
    |none=>.bad)
   |_=>.bad)
  |none=>.bad) else .bad
section
variable{X:Cx}{Γ:Gm}{W:WX}{k n:Nat}{f:Addr}{fd:FuncData}{ps:List Str}{x:Str}{p pos:Pos}{e:Expr}{es:List Expr}{cs:M (List D)}{m:List D->List Sl->Res Rv}{gD:List D->List D->List D}{J:CelL}
theorem zsX{H H2:Hp}{ex:List (Addr×Obj)}{A:Addr->Prop}(h1:∀p∈ex,A p.1)(h2:∀b,A b->∃p∈ex,p.1=b)(n:∀b,A b->H2 b=none)(s:∀b,¬A b->H2 b=H b):remX H ex=H2:=by
 funext b;rcases inX ex b with z|z
 ·rw[uU z];obtain⟨p,hp,e⟩:=z;exact(n b (e ▸ h1 p hp)).symm
 ·rw[remX_out z];exact(s b λy=>let ⟨p,hp,e⟩:=h2 b y;z p hp e).symm
theorem R6(inj:∀x y c,X.env.cells.lookup x=some c->X.env.cells.lookup y=some c->x=y):∀{J:CelL},(J.map (·.1)).Nodup->DisJ X.env.cells J
 |[],_=>trivial
 |t::J,h=>by
  rw[ak,bz] at h;refine⟨λa ha ⟨t',ht,e⟩=>h.1 ?_,R6 inj h.2⟩;rw[inj _ _ _ ha e];exact bf ht
theorem Kg(F:FnOk X.prog X.w X.K X.mg X.base (L2.CX X.prog X.w) k f fd ps (spM Γ ps.length m))(hr:Room k X.A)(hg:Gl X x)(hm:X.mg x=some (.ref f))(hk:PySem.W.keepIn X.K (.ref f)=true)(hb:d9 Γ X.K fd ps n [] gD)
  (hcel:Γ.cel=X.env.cells) (hfn:∀x,X.fn x=true) (hJ:∀t∈J,X.env.scope.names.lookup t.1=some .cell∧X.N[t.2.2]? = some t.1) (hnd:(J.map (·.1)).Nodup)
  (ha:PA X (e::es) (tMl Γ W cs)) (hdb:(x == ("__debug__" : Str))=false) (he:starEach (e::es) X.env=(false,eval e X.env)::starEach es X.env) (hpl:(backTo pos (starEach es X.env)).any (·.1)=false) :
  PE X (.Call (.Name x p) (e::es) [] pos) (tM Γ W (qU J m n gD cs)):=by iterate
 refine⟨λpins s σ H Q I t=>?_⟩;obtain⟨F0,E,C,R,ρ,S,rel,ck⟩:=t;obtain⟨g,gV,hbn,hD⟩:=hb;refine wpAny_Call_Name_kw (ld_glob I hg hm ?_ hdb);refine PySem.W.callWith_K (h₀:=X.base) I.ok.mod.kin hk (thn (ha.run pos pins s σ H (λvs H1=>vs.length=n∧∀s1 us,Inv X pins σ H1 s1->Vals vs us->wpAny (model X.prog X.w) X.A (call (.ref f) us) (EP X pins σ Q) X.xe s1) I ⟨F0,E,C,R,ρ,S,rel,CKl.bindV ck λds ρ1 S1 w1 vs x1 rel1 o1 ck1=>?_⟩) λus s1 ⟨vs,H1,I1,rv,ln,q⟩=>⟨I1.kIn,q s1 us I1 rv⟩) he hpl;split at ck1
 ·rename_i hn;have lv:vs.length=n:=by rw[<-o1.length];exact hn
  refine⟨lv,λs1 us I1 rv=>?_⟩;cases q1:jT J ρ1 S1 with
  |none=>rw[q1] at ck1;exact ck1.elim
  |some S2=>
   simp only[q1] at ck1;have dj:DisJ Γ.cel J:=by rw[hcel];exact R6 I1.ok.inj hnd
   have adC:∀b,adJ Γ.cel J b->∃y,X.env.cells.lookup y=some b:=λb ⟨t,_,z⟩=>⟨t.1,by rw[<-hcel];exact z⟩;have free:∀b,adJ Γ.cel J b->w1.H b=none:=λb hb=>let ⟨y,z⟩:=adC b hb;I1.freeC y b z
   obtain⟨ex,w2,r2,f2,R2,x2,H2,ex1,ex2⟩:=R5 (h:=s1.heap) rel1.callee q1 dj free λt ht d er=>by
    obtain⟨kc,kn⟩:=hJ t ht;obtain⟨o',A,B,b,h1,h2,h3,_⟩:=rel1.own.env_at er;obtain⟨v,ev,ow⟩:=OwnO.of_ne h3 (λz=>by cases z);subst ev;rw[Own] at ow;obtain⟨mm,hns,hl⟩:=I1.loc;obtain⟨u,ru,lk⟩:=hl _ _ _ kn h1 (.inr (.inl kc));rcases lk with ⟨z,_⟩|⟨_,cc,z1,z2⟩
    ·have z:X.env.scope.names.lookup t.1=some .local:=z;rw[kc] at z;cases z
    ·obtain⟨oc,z3,z4⟩:=z2;exact⟨cc,oc,⟨by rw[hcel];exact z1,u,v,z4,ru,ow.2⟩,z3⟩
   have xo:ExOk X w1.H s1 ex:=⟨λp hp=>(ex1 p hp).2,λp hp=>free _ (ex1 p hp).1,λp hp z=>by
    obtain⟨y,e⟩:=adC _ (ex1 p hp).1;rcases au.mp (I1.stkSub _ z) with z|z
    ·exact I1.cne y _ e z
    ·obtain⟨_,oo,ho,_⟩:=I1.ok.funs.mem z;exact absurd (Heap.lt_size ho) (Nat.not_lt.mpr (I1.ok.cab y _ (hfn y) e)),λp hp=>by
    obtain⟨y,e⟩:=adC _ (ex1 p hp).1;exact Heap.get?_none_of_le (bh I1.ok.bsz (I1.ok.cab y _ (hfn y) e))⟩
   obtain⟨F2,E2,C2,Rr2,Hh2⟩:=w2;have f2:F2=w1.F:=f2;have R2:Rr2=w1.R:=R2;have H2:Hh2=addX w1.H ex:=H2;have E0:E2=[]:=r2.noE;subst f2 R2 H2 E0;obtain⟨z1,z2⟩:=hD w1.R w1.F ds vs [] [] o1 (by rw[RepL]) lv rfl;cases q2:m (gD ds []) S2 with
   |bad=>simp only[q2] at ck1;exact(show False from ck1).elim
   |ex y ρ' S'=>simp only[q2] at ck1;exact(show False from ck1).elim
   |ok r ρ' S' t'=>
    simp only[q2] at ck1;cases q3:iK J S' with
    |none=>rw[q3] at ck1;exact ck1.elim
    |some S4=>
     simp only[q3] at ck1;have rc:=F.run X.A X.stack s1 (addX w1.H ex) ⟨us,[]⟩ (g us []) (gV vs []) (λv H'=>∃w',w'.H=H'∧Ext ⟨w1.F,[],C2,w1.R,addX w1.H ex⟩ w'∧RelS Γ w' S'∧RvOk Γ ⟨w1.F,[],C2,w1.R,addX w1.H ex⟩ w' [] r v) (λ_ _ _=>False) hr (Inv.env0X I1 xo)
      (hbn.to s1 us [] I1.kIn (by rw[<-rv.length];exact lv) rfl) (hbn.rel rv .nil) ⟨by rw[<-z1.length];exact z2,w1.F,C2,w1.R,S2,gD ds [],r2,z1,by rw[q2];exact λw' v x' h' o'=>⟨w',rfl,x',h',o'⟩⟩
     refine wpAny_call (codeAny_mono rc λr' s' hq=>?_);cases r' with
     |error er=>
      obtain⟨_,_,_,_,_,_,_,_,_,_,_,_,hf⟩:=hq;exact hf.elim
     |ok fl=>
      cases fl with
      |next=>exact False.elim hq
      |brk=>exact False.elim hq
      |cont=>exact False.elim hq
      |ret u=>
       obtain⟨v,H3,os,bare,un,hok,rv',w',eH,x3,r3,o3⟩:=hq;subst eH;have J':=(Inv.afterX I1 xo os bare un hok).1;obtain⟨w4,h1,h2,h3,h4,h5,h6,_,h8⟩:=uV r3 q3;have eq4:remX w'.H ex=w4.H:=zsX (A:=adJ Γ.cel J) (λp hp=>(ex1 p hp).1) ex2 h4 h5;have xx:=x2.trans x3;have inw:∀b,adJ Γ.cel J b->b∈w'.ad:=λb ⟨t,ht,z⟩=>by
        obtain⟨d',a',o',_,k2,k3,_⟩:=h8 t ht;rw[k2.at_] at z
        cases z;exact k3
       have nad:∀{b:Addr} {o:HO},w1.H b=some o->¬adJ Γ.cel J b:=λ{b o} z y=>by rw[free b y] at z;cases z
       have xw:Ext ⟨w1.F,[],w1.C,w1.R,w1.H⟩ w4:=by
        refine⟨by rw[h2,h3];exact xx.gr,λb o z n=>?_,λb z=>xx.cnew b (h6 b z),λb o z=>?_,λb o z=>?_⟩
        ·rw[h5 b (nad z)];exact xx.keep b o z n
        ·rw[h2] at z;exact xx.fnew b o z
        ·rw[h5 b (nad z)];exact xx.live b o z
       have o4:RvOk Γ ⟨w1.F,[],w1.C,w1.R,w1.H⟩ w4 [] r v:=by
        have o3:=RvOk.base x2 o3;cases r with
        |d d=>exact(show Rep Γ w4.R w4.F d v from by rw[h2,h3];exact o3)
        |env i=>exact absurd (show([]:L2.St)[i]? = some (some v) from o3) (by simp)
        |fr s=>
         obtain⟨c,ow,fr,b⟩:=o3;refine⟨c,by rw[h2,h3];exact ow,⟨λp hp=>?_,fr.nd⟩,b⟩;obtain⟨a1,a2,a3⟩:=fr.at_ p hp
         exact⟨by rw[h5 _ (λy=>a3 (inw _ y))];exact a1,by rw[h2];exact a2,λy=>a3 (h6 _ y)⟩
       obtain⟨xE,relE,oE⟩:=qj rel1 xw h1;exact⟨v,_,J',rv',by rw[eq4];exact ck1 ⟨w4.F,w1.E,w4.C,w4.R,w4.H⟩ v xE (λ_=>rfl) relE (oE r v o4)⟩
 ·exact ck1.elim
end
end
section
structure LamSc(L:LamI)(N:List Str):Prop where
  kind:L.scope.kind=.function
  co:L.scope.isCoroutine=false
  gen:L.scope.isGenerator=false
  own:∀y∈L.scope.names,y.2≠.local∧y.2≠.cell
  free:∀y∈L.scope.names,y.2=.free->y.1∈N
  bind:∀(cl:List (Str×Addr)) (pm cv ctv:Value),bindArgs (PySem.W.kla_fn "<lambda>" L.qual L.params L.body L.scope cl pm cv ctv) ⟨[],[]⟩=pure []
abbrev lK(L:LamI)(cel:List (Str×Addr))(l f c:Addr):Env:=PySem.W.envX L.qual L.scope l f (.ref c) (cloFrom cel L.scope.names [])
def uW(P:Program)(wd:World)(K:yF)(mg:Str->Option Value)(base:Heap)(N:List Str)(L:LamI)(cel:List (Str×Addr))(A:Around)(outer:List Env)(s:Shared)(H:Hp)(E:XK)(f c:Addr):Cx where
 prog:=P
 w:=wd
 K:=K
 mg:=mg
 base:=base
 A:=A.deeper (lK L cel s.heap.objs.size f c)
 N:=N
 s_0:=s
 H_0:=H
 env:=lK L cel s.heap.objs.size f c
 outer:=outer
 stack:=lK L cel s.heap.objs.size f c::outer
 ex:=[]
 fn:=λ_=>false
 calm:=true
 pn:=[]
 xe:=λe s'=>wpAny (model P wd) (A.deeper (lK L cel s.heap.objs.size f c)) (leaving (lK L cel s.heap.objs.size f c) e) (λ_ s''=>L2.CX P wd outer H s E e s'') (λe' s''=>L2.CX P wd outer H s E e' s'') s'
section
variable{P:Program}{wd:World}{K:yF}{mg:Str->Option Value}{base:Heap}{N:List Str}{L:LamI}{cel:List (Str×Addr)}{A:Around}{outer:List Env}{s:Shared}{H:Hp}{E:XK}{f c:Addr}{ys:List V}{h₁:Heap}{tk:Nat}
theorem uX{x:Str}{a:Addr}(hc:∀y∈N,∃b,cel.lookup y=some b)(S:LamSc L N)(e:(cloFrom cel L.scope.names []).lookup x=some a):x∈N∧cel.lookup x=some a:=by
 rcases cloFrom_mem (PySem.mem_of_lookup e) with z|⟨z1,z2⟩
 ·cases z
 ·have hx:=S.free _ z1 rfl;obtain⟨b,hb⟩:=hc x hx;refine⟨hx,?_⟩;have e2:a=b:=by
   rw[z2,hb]<;>rfl
  rw[e2];exact hb
theorem clo_has{x:Str}(hx:L.scope.names.lookup x=some .free):∃b,(cloFrom cel L.scope.names []).lookup x=some b:=
 mem_lookup (cloFrom_has (cells:=cel) (acc:=[]) (show(x,NameKind.free)∈L.scope.names from PySem.mem_of_lookup hx))
theorem zma(S:LamSc L N)(e0:Env0 P wd K mg base A outer s H)(hd:A.handled=none)(hv:∀(i:Nat) y,N[i]? = some y->∃a o u v,cel.lookup y=some a∧s.heap.get? a=some o∧o.data=.cell (some u)∧ys[i]? = some v∧RelV v u∧H a=none)
  (inj:∀y z a,y∈N->z∈N->cel.lookup y=some a->cel.lookup z=some a->y=z) (hl:ys.length=N.length) (hns:h₁.Ns s.heap.objs.size λy=>([]:List (Str×Value)).reverse.lookup y) (kp:∀b o,s.heap.get? b=some o->h₁.get? b=some o) :
  Inv (uW P wd K mg base N L cel A outer s H E f c) [] (ys.map some) H { s with heap:=h₁,toks:=tk }:=by iterate
 have hc:∀y∈N,∃b,cel.lookup y=some b:=λy hy=>by
  obtain⟨i,hi⟩:=List.mem_iff_getElem?.mp hy;obtain⟨a,_,_,_,e,_⟩:=hv i y hi;exact⟨a,e⟩
 have cellAt:∀x a,(cloFrom cel L.scope.names []).lookup x=some a->(∃v,h₁.IsCell a v)∧H a=none:=λx a e=>by
  obtain⟨hx,ha⟩:=uX hc S e;obtain⟨i,hi⟩:=List.mem_iff_getElem?.mp hx;obtain⟨a',o,u,v,e1,e2,e3,_,_,e6⟩:=hv i x hi;rw[ha] at e1;cases e1;exact⟨⟨some u,o,kp _ _ e2,e3⟩,e6⟩
 have nox:∀b:Addr,b∉(uW P wd K mg base N L cel A outer s H E f c).ex:=λb z=>absurd (show b∈([]:List Addr) from z) (by simp)
 refine⟨⟨e0.mod,S.kind,rfl,rfl,aO _,λx y a e1 e2=>?_,λx hx=>?_,λx a z _=>?_,λ_=>hd,Around.frames_deeper e0.frames,.inr ⟨rfl,rfl⟩,λb z=>absurd z (nox b),e0.bs,e0.bsz,λb _ _=>nox b,λb z=>absurd z (nox b),e0.funs,e0.frf⟩,
  rfl,e0.bare,Un.kept kp,⟨_,hns,λi x v e1 e2 e3=>?_⟩,λx a e=>(cellAt x a e).1,e0.hok.fresh (Nat.le_refl _),λx a e=>(cellAt x a e).2,λq hq=>absurd (show q∈([]:List (Addr×Obj))++[] from hq) (by simp),e0.hok.kept kp,?_⟩
 ·obtain⟨a1,a2⟩:=uX hc S e1;obtain⟨b1,b2⟩:=uX hc S e2;exact inj x y a a1 b1 a2 b2
 ·have hx:L.scope.names.lookup x=some .cell∨L.scope.names.lookup x=some .free:=hx;rcases hx with z|z
  ·exact absurd rfl (S.own _ (PySem.mem_of_lookup z)).2
  ·exact clo_has z
 ·exact Bool.noConfusion (show false=true from z)
 ·have e3:Vis L.scope x:=e3;rcases e3 with z|z|z
  ·exact absurd rfl (S.own _ (PySem.mem_of_lookup z)).1
  ·exact absurd rfl (S.own _ (PySem.mem_of_lookup z)).2
  ·obtain⟨a,o,u,v',k1,k2,k3,k4,k5,k6⟩:=hv i x e1;obtain⟨b,hb⟩:=clo_has (cel:=cel) z;obtain⟨_,hb2⟩:=uX hc S hb;rw[k1] at hb2;cases hb2;rw[az,k4] at e2;cases e2;exact⟨u,k5,.inr ⟨.inr z,a,hb,o,kp _ _ k2,k3⟩⟩
 ·show(ys.map some).length=N.length;rw[aj,hl]
end
def rdS:CelL->List Sl->Option (List Sl)
 |[],_=>some []
 |t::J,S=>match S[t.2.1]? with
  |some (.cel _ d)=>(rdS J S).map (.val d::·)
  |_=>none
theorem R7{Γ:Gm}{R:List Addr}{F H:Hp}{S:List Sl}:∀{J:CelL},(∀t∈J,∃d a o,S[t.2.1]? = some (.cel t.1 d)∧CelK Γ R F t.1 d a o∧H a=some (.frz o (.own a)))->
  ∃(ds:List D) (ys:List V),rdS J S=some (ds.map .val)∧RepL Γ R F ds ys∧ys.length=(J.map (·.1)).length∧∀(i:Nat) y,(J.map (·.1))[i]? = some y->∃a o u v,Γ.cel.lookup y=some a∧H a=some (.frz o (.own a))∧o.data=.cell (some u)∧ys[i]? = some v∧RelV v u
 |[],_=>⟨[],[],rfl,by rw[RepL],rfl,λi y h=>by simp at h⟩
 |t::J,h=>by iterate
  obtain⟨ds,ys,e1,e2,e3,e4⟩:=R7 (J:=J) λt' ht=>h t' (bL _ ht);obtain⟨d,a,o,k1,k2,k3⟩:=h t (bK ..);obtain⟨u,y,k4,k5,k6⟩:=k2.val;refine⟨d::ds,y::ys,by rw[rdS,k1,e1];rfl,by rw[RepL];exact⟨y,ys,rfl,k6,e2⟩,by rw[aG,e3,ak,aG],λi z hz=>?_⟩;cases i with
  |zero=>
   rw[ak,List.getElem?_cons_zero] at hz;cases hz;exact⟨a,o,u,y,k2.at_,k3,k4,rfl,k5⟩
  |succ i=>
   rw[ak,List.getElem?_cons_succ] at hz;exact e4 i z hz
def eG(J:CelL)(c:M Rv):List Sl->Res Rv:=λS=>match rdS J S with
 |none=>.bad
 |some ρ0=>match iK J S with
  |none=>.bad
  |some S2=>match c ρ0 S2 with
   |.bad=>.bad
   |.ok r _ S' _=>(match ir J S S' with
    |none=>.bad
    |some S4=>(match r with
     |.env _=>.bad
     |r=>.ok r [] S4 false))
   |.ex y _ S'=>(match ir J S S' with
    |none=>.bad
    |some S4=>.ex y [] S4)
structure LamF(P:Program)(wd:World)(K:yF)(mg:Str->Option Value)(base:Heap)(Γ:Gm)(lev k:Nat)(J:CelL)(c:M Rv):Prop where
  sc:LamSc (Γ.lam k) (J.map (·.1))
  run:∀(A:Around) (outer:List Env) (s:Shared) (H:Hp) (E:XK) (f c':Addr),Room lev (A.deeper (lK (Γ.lam k) Γ.cel s.heap.objs.size f c'))->
    Takes (uW P wd K mg base (J.map (·.1)) (Γ.lam k) Γ.cel A outer s H E f c') (λcls d _ H=>E cls d H)->
    PE (uW P wd K mg base (J.map (·.1)) (Γ.lam k) Γ.cel A outer s H E f c') (Γ.lam k).body (tM Γ (λcls d _ H=>E cls d H) c)
/-- some are looked at: what was hidden of them comes back -/
structure MixK(H H2 H3 H4:Hp)(h:Heap)(fs:List Addr)(A:Addr->Prop):Prop where
  at_:∀b,A b->∃o,H b=some (.frz o (.own b))∧h.get? b=some o∧b∉fs
  n2:∀b,A b->H2 b=none
  s2:∀b,¬A b->H2 b=H b
  n4:∀b,A b->H4 b=H b
  s4:∀b,¬A b->H4 b=H3 b
section
variable{P:Program}{wd:World}{H H2 H3 H4:Hp}{h h':Heap}{fs:List Addr}{A:Addr->Prop}
theorem MixK.nA(m:MixK H H2 H3 H4 h fs A){b:Addr}(n:H b=none):¬A b:=λz=>by
 obtain⟨o,e,_⟩:=m.at_ b z
 rw[n] at e;cases e
theorem MixK.hok(m:MixK H H2 H3 H4 h fs A){B:Heap}(hk:∀b o,A b->h.get? b=some o->B.get? b=some o)(hok:HOk P wd H3 B)(n3:∀b,A b->H3 b=none):HOk P wd H4 B:=λb o e=>by
 by_cases z:A b
 ·obtain⟨o',e1,e2,_⟩:=m.at_ b z
  rw[m.n4 b z,e1] at e;cases e;exact⟨hk b o' z e2,⟨_,hk b o' z e2⟩⟩
 ·rw[m.s4 b z] at e;have nz:∀c u,H3 c=some u->¬A c:=λc u q y=>by rw[n3 c y] at q;cases q
  exact(hok b o e).stay (λ_ _ _ q=>q) (λc q=>by rw[m.s4 c (nz c _ q)];exact q) λc xs q=>by rw[m.s4 c (nz c _ q)];exact q
theorem MixK.un(m:MixK H H2 H3 H4 h fs A)(un:Un fs [] H2 H3 h h'):Un fs [] H H4 h h':=by iterate
 refine⟨λb o e n hb hx=>un.keep b o e (by rw[m.s2 b (m.nA n)];exact n) hb hx,λb o e n hb hx=>un.slot b o e (by rw[m.s2 b (m.nA n)];exact n) hb hx,λb o e n hx=>by rw[m.s4 b (m.nA n)];exact un.free b o e (by rw[m.s2 b (m.nA n)];exact n) hx,un.there,λb xs e=>?_,λb o u e=>?_,λb ps e=>?_⟩
 ·have z:¬A b:=λy=>by obtain⟨o,e1,_⟩:=m.at_ b y;rw[e] at e1;cases e1
  rw[m.s4 b z];exact un.tups b xs (by rw[m.s2 b z];exact e)
 ·by_cases z:A b
  ·rw[m.n4 b z];exact e
  ·rw[m.s4 b z];exact un.frzs b o u (by rw[m.s2 b z];exact e)
 ·have z:¬A b:=λy=>by obtain⟨o,e1,_⟩:=m.at_ b y;rw[e] at e1;cases e1
  rw[m.s4 b z];exact un.tbls b ps (by rw[m.s2 b z];exact e)
theorem MixK.ub{B:Heap}(m:MixK H H2 H3 H4 h fs A)(ub:UB fs H2 H3 h B h'):UB fs H H4 h B h':=by iterate
 refine⟨λb o e n hb=>ub.keep b o e (by rw[m.s2 b (m.nA n)];exact n) hb,ub.slot,λb o e n=>by rw[m.s4 b (m.nA n)];exact ub.free b o e (by rw[m.s2 b (m.nA n)];exact n),ub.there,λb xs e=>?_,λb o u e=>?_,λb ps e=>?_⟩
 ·have z:¬A b:=λy=>by obtain⟨o,e1,_⟩:=m.at_ b y;rw[e] at e1;cases e1
  rw[m.s4 b z];exact ub.tups b xs (by rw[m.s2 b z];exact e)
 ·by_cases z:A b
  ·rw[m.n4 b z];exact e
  ·rw[m.s4 b z];exact ub.frzs b o u (by rw[m.s2 b z];exact e)
 ·have z:¬A b:=λy=>by obtain⟨o,e1,_⟩:=m.at_ b y;rw[e] at e1;cases e1
  rw[m.s4 b z];exact ub.tbls b ps (by rw[m.s2 b z];exact e)
end
theorem R8{cel:List (Str×Addr)}:∀{J:CelL},DisJ cel J->∀y z a,y∈J.map (·.1)->z∈J.map (·.1)->cel.lookup y=some a->cel.lookup z=some a->y=z
 |[],_,y,z,a,hy,_,_,_=>by simp at hy
 |t::J,d,y,z,a,hy,hz,e1,e2=>by
  rw[ak] at hy hz;have inJ:∀x,x∈J.map (·.1)->cel.lookup x=some a->adJ cel J a:=λx hx e=>by
   obtain⟨t',ht,q⟩:=ao.mp hx;exact⟨t',ht,by rw[q];exact e⟩
  rcases au.mp hy with p|p<;>rcases au.mp hz with q|q
  ·rw[p,q]
  ·exact absurd (inJ z q e2) (d.1 a (by rw[<-p];exact e1))
  ·exact absurd (inJ y p e1) (d.1 a (by rw[<-q];exact e2))
  ·exact R8 d.2 y z a p q e1 e2
def cRun(lamM:Nat->List Sl->Res Rv)(i:Nat):M Rv:=λρ S=>match ρ[i]? with
 |some (.val (.fn k))=>(lamM k S).at ρ
 |_=>.bad
section
variable{X:Cx}{Γ:Gm}{W:WX}{lamM:Nat->List Sl->Res Rv}{lev i:Nat}{a:Str}{p1 p2:Pos}
theorem zwp(hlam:∀k,(∃J c,lamM k=eG J c∧LamF X.prog X.w X.K X.mg X.base Γ lev k J c)∨∀S,lamM k S=.bad)(hr:Room (lev+1) X.A)(tk:Takes X W)(hN:X.N[i]? = some a)(hv:Vis X.env.scope a)
    (hd:(a == ("__debug__" : Str))=false) (hcd:(a == ("__classdict__" : Str))=false):PE X (.Call (.Name a p1) [] [] p2) (tM Γ W (cRun lamM i)):=by iterate
  refine⟨λpins s σ H Q I t=>?_⟩;obtain⟨F,E,C,R,ρ,S,rel,ck⟩:=t;unfold cRun at ck;split at ck
  case h_2=>exact ck.elim
  rename_i k er;obtain⟨o,A,B,b,h1,h2,h3,_⟩:=rel.own.env_at er;obtain⟨v,ev,ow⟩:=OwnO.of_ne h3 (λz=>by cases z);subst ev;rw[Own] at ow;have rp:=ow.2;rw[Rep] at rp;obtain⟨f,c',pm,ct,ev,qf,qc,_⟩:=rp;subst ev;refine wpAny_Call_Name_kw (thn ((pe_var (pos:=p1) (i:=i) hN hv hd hcd).run pins s σ H (λv H1=>v=.ref f∧H1=H) I ⟨.ref f,h1,rfl,rfl⟩) λu s1 ⟨v,H1,I1,r1,q1⟩=>?_);obtain⟨ev,eH⟩:=q1;subst ev eH;obtain rfl:u=Value.ref f:=r1;have of1:s1.heap.get? f=some ((Γ.lam k).obj Γ.cel pm c' ct):=(show ObjOk X.prog X.w H1 s1.heap f (.frz _ (.own f)) from I1.hok f _ (rel.good.sub _ _ qf)).1
  have hco:=(show ObjOk X.prog X.w H1 s1.heap c' (LamX.CodeO c' (Γ.lam k).qual) from I1.hok c' _ (rel.good.sub _ _ qc)).1
  obtain⟨oc,vs,tt,hoc,hdc,hvc⟩:=hco;refine PySem.W.callWith_F0 ⟨_,_,_,_,of1⟩ ?_;rcases hlam k with ⟨J,c,em,LF⟩|hbad
  case inr=>rw[hbad S] at ck;exact(show False from ck).elim
  rw[em] at ck;simp only[eG] at ck;cases q1:rdS J S with
  |none=>simp only[q1] at ck;exact(show False from ck).elim
  |some ρ0=>
  cases q2:iK J S with
  |none=>simp only[q1,q2] at ck;exact(show False from ck).elim
  |some S2=>
  simp only[q1,q2] at ck;obtain⟨w2,r2,f2,R2,h4,h5,h6,dj,h8⟩:=uV rel.callee q2;obtain⟨F2,E2,C2,Rr2,H2⟩:=w2;have f2:F2=F:=f2;have R2:Rr2=R:=R2;have E0:E2=[]:=r2.noE;subst f2 R2 E0;have h4:∀b,adJ Γ.cel J b->H2 b=none:=h4;have h5:∀b,¬adJ Γ.cel J b->H2 b=H1 b:=h5;have h8:∀t∈J,∃d a o,S[t.2.1]? = some (.cel t.1 d)∧CelK Γ Rr2 F2 t.1 d a o∧H1 a=some (.frz o (.own a)):=λt ht=>let ⟨d,a,o,z1,z2,_,z3⟩:=h8 t ht;⟨d,a,o,z1,z2,z3⟩
  obtain⟨ds,ys,e1,rl,ln,hvl⟩:=R7 h8;rw[q1] at e1;cases e1;have celA:∀b,adJ Γ.cel J b->∃o,H1 b=some (.frz o (.own b))∧s1.heap.get? b=some o∧b∉frs X.stack:=λb ⟨t,ht,z⟩=>by
    obtain⟨d,a,o,z1,z2,z3⟩:=h8 t ht;rw[z2.at_] at z
    cases z;exact⟨o,z3,(show ObjOk X.prog X.w H1 s1.heap b (.frz o (.own b)) from I1.hok b _ z3).1,λhm=>by rw[I1.stkFree b hm] at z3;cases z3⟩
  have hne:∀{r ρ' S' t},c (ds.map .val) S2=.ok r ρ' S' t->∀i,r≠.env i:=λq3 i e=>by
    subst e;simp only[q3] at ck;split at ck
    · exact(show False from ck)
    · exact(show False from ck)
  have e0:=I1.env0;have h2n:∀b,H1 b=none->H2 b=none:=λb n=>by
    by_cases z:adJ Γ.cel J b
    · exact h4 b z
    · rw[h5 b z];exact n
  have e2:Env0 X.prog X.w X.K X.mg X.base X.A X.stack s1 H2:=⟨e0.frames,e0.mod,λb o h=>⟨(e0.bs b o h).1,h2n b (e0.bs b o h).2⟩,e0.bsz,e0.funs,λb hb=>h2n b (e0.frf b hb),λb o h=>by
    have nz:¬adJ Γ.cel J b:=λz=>by rw[h4 b z] at h;cases h
    rw[h5 b nz] at h;have keepH:∀c u,H1 c=some u->(∀o a,u≠.frz o (.own a))->H2 c=some u:=λc u q n=>by
      rw[h5 c λz=>by obtain⟨o,e,_⟩:=celA c z;rw[q] at e;cases e;exact n _ _ rfl];exact q
    exact(e0.hok b o h).stay (λ_ _ _ q=>q) (λc q=>keepH c _ q λ_ _ z=>nomatch z) (λc xs q=>keepH c _ q λ_ _ z=>nomatch z),e0.bare⟩
  have rc:codeAny (model X.prog X.w) X.A (.call (.ref f) ⟨[],[]⟩) (CR (L2.CX X.prog X.w) X.stack X.prog X.w H2 s1
      (λv H3=>∃r ρ' S' t w3,c (ds.map .val) S2=.ok r ρ' S' t∧w3.H=H3∧Ext ⟨F2,[],C2,Rr2,H2⟩ w3∧RelS Γ w3 S'∧RvOk Γ ⟨F2,[],C2,Rr2,H2⟩ w3 [] r v)
      (λcls d H3=>∃y ρ' S' w3,c (ds.map .val) S2=.ex y ρ' S'∧w3.H=H3∧Ext ⟨F2,[],C2,Rr2,H2⟩ w3∧RelS Γ w3 S'∧XOk Γ w3 y cls d)) s1:=by
    refine PySem.W.kla_callFunE hr.depth of1 rfl LF.sc.co LF.sc.gen rfl ⟨c',oc,vs,tt,rfl,hoc,hdc,hvc⟩ ?_;rw[LF.sc.bind];refine wpAny_pure (wpAny_newFunctionEnv (λy hy=>(LF.sc.own y hy).2) (λy hy=>absurd hy (by simp)) (λh₁ hns hsb=>⟨I1.nolimit.fresh _ hsb,?_⟩) LF.sc.kind);have kp:∀b o,s1.heap.get? b=some o->h₁.get? b=some o:=λb o e=>hsb.extBut b o (Nat.ne_of_lt (Heap.lt_size e)) (Heap.get?_push_of_some _ e);show codeAny _ _ (.expr (Γ.lam k).body (lK (Γ.lam k) Γ.cel s1.heap.objs.size f c')) _ _;have JJ:=zma (tk:=s1.toks+([]:List (Str×Value)).length) (f:=f) (c:=c') (E:=λcls d H3=>∃y ρ' S' w3,c (ds.map .val) S2=.ex y ρ' S'∧w3.H=H3∧Ext ⟨F2,[],C2,Rr2,H2⟩ w3∧RelS Γ w3 S'∧XOk Γ w3 y cls d)
      LF.sc e2 hr.hd (ys:=ys) (λi y hy=>by
        obtain⟨a,o,u,v,z1,z2,z3,z4,z5⟩:=hvl i y hy;have ad:adJ Γ.cel J a:=by
          obtain⟨t,ht,q⟩:=ao.mp (aY hy);exact⟨t,ht,by rw[q];exact z1⟩
        obtain⟨o',y1,y2,_⟩:=celA a ad;rw[z2] at y1;cases y1;exact⟨a,o,u,v,z1,y2,z3,z4,z5,h4 a ad⟩) (R8 dj) ln hns kp
    refine PySem.W.kla_codeExpr (wpAny_mono ((LF.run X.A X.stack s1 H2 _ f c' (hr.deeper _) (takes_of rfl rfl rfl rfl)).run [] _ _ H2 (λv H3=>∃r ρ' S' t w3,c (ds.map .val) S2=.ok r ρ' S' t∧w3.H=H3∧Ext ⟨F2,[],C2,Rr2,H2⟩ w3∧RelS Γ w3 S'∧RvOk Γ ⟨F2,[],C2,Rr2,H2⟩ w3 [] r v) JJ ⟨F2,[],C2,Rr2,ds.map .val,S2,⟨r2.good,by have z:=OwnE.params 0 rl;simpa using z,r2.own⟩,?_⟩) (λv s' hq=>?_) λe s' hq=>hq)
    · cases q3 : c (ds.map .val) S2 with
      |bad=>simp only[q3] at ck;exact(show False from ck).elim
      |ok r ρ' S' t=>
        have hne:=hne q3;intro w' v x' _ rel' o';obtain⟨x2',r2',o2'⟩:=rel'.leave x';exact⟨r,ρ',S',t,⟨w'.F,[],w'.C,w'.R,w'.H⟩,rfl,rfl,x2',r2',o2' r v (by cases r with|env i=>exact absurd rfl (hne i)|d d=>exact o'|fr z=>exact o')⟩
      |ex y ρ' S'=>
        intro w' cls d x' rel' o';obtain⟨x2',r2',_⟩:=rel'.leave x';exact⟨y,ρ',S',⟨w'.F,[],w'.C,w'.R,w'.H⟩,rfl,rfl,x2',r2',by cases y<;>exact o'⟩
    · obtain ⟨w', H', J', rv, q⟩ := hq
      exact⟨w',H',J'.os,J'.bare,J'.base,J'.hok,rv,q⟩
  -- behind the body
  have back:∀{w3:Wd} {S' S4:List Sl},Ext ⟨F2,[],C2,Rr2,H2⟩ w3->RelS Γ w3 S'->ir J S S'=some S4->(∀b,adJ Γ.cel J b->w3.H b=none)->∃w4,RelS Γ w4 S4∧w4.F=w3.F∧w4.R=w3.R∧Ext w3 w4∧Ext ⟨F2,[],C,Rr2,H1⟩ w4∧MixK H1 H2 w3.H w4.H s1.heap (frs X.stack) (adJ Γ.cel J):=by
    intro w3 S' S4 x3 r3 q4 n3;obtain⟨w4,s1',s2,s3,s4,s5,s6⟩:=R4 (HH:=H1) r3 q4 dj n3 λt ht=>by
      obtain⟨d,a,o,z1,z2,z3⟩:=h8 t ht;obtain⟨u,y,z4,z5,z6⟩:=z2.val;exact⟨d,a,o,z1,⟨z2.at_,u,y,z4,z5,Rep.up x3.gr _ _ z6⟩,z3⟩
    refine⟨w4,s1',s2,s3,s4,?_,⟨celA,h4,h5,s5,s6⟩⟩;have gd:=rel.callee.good;have nad:∀b,b∉Wd.ad ⟨F2,[],C,Rr2,H1⟩->¬adJ Γ.cel J b:=λb n ⟨t,ht,z⟩=>by
      obtain⟨d,a,o,_,z2,z3,_⟩:=(uV rel.callee q2).choose_spec.2.2.2.2.2.2.2 t ht;rw[z2.at_] at z
      cases z;exact n z3
    have inad:∀b,adJ Γ.cel J b->b∈Wd.ad ⟨F2,[],C,Rr2,H1⟩:=λb z=>Classical.byContradiction λn=>nad b n z;refine⟨⟨by rw[s3];exact x3.gr.r,λb o z=>by rw[s2];exact x3.gr.f b o z⟩,λb o z n=>?_,λb z=>?_,λb o z=>?_,λb o z=>?_⟩
    · rw [s6 b (nad b n)]
      exact x3.keep b o (by rw[show Wd.H ⟨F2,[],C2,Rr2,H2⟩ b=H2 b from rfl,h5 b (nad b n)];exact z) λy=>n (h6 b y)
    · by_cases y : adJ Γ.cel J b
      · exact .inl (inad b y)
      · rcases s4.cnew b z with q | q
        · rcases x3.cnew b q with q | q
          · exact .inl (h6 b q)
          · have q : H2 b = none := q
            rw[h5 b y] at q;exact .inr q
        · have := x3.none_of q
          have this:H2 b=none:=this;rw[h5 b y] at this;exact .inr this
    · rw [s2] at z
      by_cases y:adJ Γ.cel J b
      · exact .inr (.inr (.inl (inad b y)))
      · rcases x3.fnew b o z with q | q | q | ⟨xs, q⟩
        · exact .inl q
        · have q : H2 b = none := q
          rw[h5 b y] at q;exact .inr (.inl q)
        · exact .inr (.inr (.inl (h6 b q)))
        · have q : H2 b = some (.tup xs) := q
          rw[h5 b y] at q;exact .inr (.inr (.inr ⟨xs,q⟩))
    · by_cases y : adJ Γ.cel J b
      · exact⟨o,by rw[s5 b y];exact z⟩
      · rw [s6 b y]
        exact x3.live b o (by rw[show Wd.H ⟨F2,[],C2,Rr2,H2⟩ b=H2 b from rfl,h5 b y];exact z)
  refine wpAny_call (codeAny_mono rc λr s' hq=>?_);cases r with
  |error er=>
    obtain⟨a,Bh,H',cls,d,rfl,fl,hok,ub,na,os,ag,y,ρ',S',w3,q3,eH,x3,r3,ok3⟩:=hq;subst eH;simp only[q3] at ck;cases q4:ir J S S' with
    |none=>rw[q4] at ck;exact(show False from ck).elim
    |some S4=>
      rw[q4] at ck;have n3:∀b,adJ Γ.cel J b->w3.H b=none:=λb z=>let ⟨o,_,e,_⟩:=celA b z;ub.free b o e (h4 b z)
      obtain⟨w4,k1,k2,k3,k4,k5,mk⟩:=back x3 r3 q4 n3;obtain⟨xE,relE,_⟩:=qj rel k5 k1;have bk:∀b o,adJ Γ.cel J b->s1.heap.get? b=some o->Bh.get? b=some o:=λb o z e=>ub.keep b o e (h4 b z) (celA b z).choose_spec.2.2;refine passAt tk σ pins H1 s1 (.ref a) s' I1 ⟨a,Bh,w4.H,cls,d,rfl,fl,mk.hok bk hok n3,mk.ub ub,?_,os,ag,?_⟩
      · have nA:¬adJ Γ.cel J a:=λz=>by
          obtain⟨o,_,e,_⟩:=celA a z;have:=bk a o z e;rw[fl.2.1] at this;cases this
        rw[mk.s4 a nA];exact na
      · exact ck ⟨w4.F,E,w4.C,w4.R,w4.H⟩ cls d xE relE (by
          cases y with
          |blt n=>exact ok3
          |own cc fs=>
            obtain⟨z1,dd,gs,z2,z3,z4⟩:=ok3;exact⟨z1,dd,gs,z2,by show w4.F dd=_;rw[k2];exact z3,by show RepF Γ w4.R w4.F fs gs;rw[k2,k3];exact z4⟩)
  |ok fl=>
    cases fl with
    |next=>exact False.elim hq
    |brk=>exact False.elim hq
    |cont=>exact False.elim hq
    |ret u=>
      obtain⟨v,H3,os,bare,un,hok,rv,r,ρ',S',tt',w3,q3,eH,x3,r3,o3⟩:=hq;subst eH;simp only[q3] at ck;cases q4:ir J S S' with
      |none=>rw[q4] at ck;exact(show False from ck).elim
      |some S4=>
        rw[q4] at ck;have n3:∀b,adJ Γ.cel J b->w3.H b=none:=λb z=>let ⟨o,_,e,_⟩:=celA b z;un.free b o e (h4 b z) (by simp)
        obtain⟨w4,k1,k2,k3,k4,k5,mk⟩:=back x3 r3 q4 n3;obtain⟨xE,relE,oE⟩:=qj rel k5 k1;have hk:∀b o,adJ Γ.cel J b->s1.heap.get? b=some o->s'.heap.get? b=some o:=λb o z e=>un.keep b o e (h4 b z) (celA b z).choose_spec.2.2 (by simp);have fin:∀r',(r'=r)->CK Γ W ⟨F2,E,C,Rr2,H1⟩ σ Q (.ok r' ρ S4 false)->RvOk Γ ⟨F2,[],C,Rr2,H1⟩ w4 [] r' v->EP X pins σ Q u s':=λr' _ ck o4=>
          I1.after ⟨v,w4.H,os,bare,mk.un un,mk.hok hk hok n3,rv,ck ⟨w4.F,E,w4.C,w4.R,w4.H⟩ v xE (λ_=>rfl) relE (oE r' v o4)⟩
        cases r with
        |env i=>exact(show False from ck).elim
        |d d=>exact fin _ rfl ck (show Rep Γ w4.R w4.F d v from by rw[k2,k3];exact o3)
        |fr s=>
          obtain⟨cc,ow',fr',b'⟩:=o3;refine fin _ rfl ck ⟨cc,Own.up k4.gr _ _ _ ow',fr'.up k4 (Own.nt _ _ _ ow'),λp hp=>?_⟩;have ny:¬adJ Γ.cel J p.1:=λy=>by
            have:=(fr'.at_ p hp).1
            rw[n3 _ y] at this;cases this
          rcases b' p hp with z|z
          · have z : H2 p.1 = none := z
            rw[h5 _ ny] at z;exact .inl z
          · exact .inr (h6 _ z)
end
end
section
section
variable{Γ:Gm}{w w1 w2 w3:Wd}{S:List Sl}{H:Hp}{a:Addr}{oe:Obj}{c j:Nat}{fs:List (Str×D)}{gs:List (Str×V)}{vs:Array Value}{dd:Addr}
theorem R9:addX H [(a,oe)]=upd H a (.frz oe (.own a)):=by
  funext b
  by_cases z:b=a
  · subst z
    obtain⟨p,hp,_,e⟩:=Kf (H:=H) (ex:=[(b,oe)]) (b:=b) ⟨(b,oe),by simp,rfl⟩;have:p=(b,oe):=by simpa using hp
    subst this;rw[e,upd_same]
  · rw [upd_ne z]
    exact addX_out fun p hp e => z (by have : p = (a, oe) := by simpa using hp
                                       subst this;exact e.symm)
theorem zr0:remX H [(a,oe)]=L2.del H a:=by
  funext b
  by_cases z:b=a
  · subst z
    rw[L2.del_same];exact uU ⟨(b,oe),by simp,rfl⟩
  · rw [L2.del_ne z]
    exact remX_out fun p hp e => z (by have : p = (a, oe) := by simpa using hp
                                       subst this;exact e.symm)
abbrev Wd.exp(w:Wd)(a:Addr)(oe:Obj):Wd:=⟨w.F,[],w.C++[(a,.frz oe (.own a))],w.R++[a],upd w.H a (.frz oe (.own a))⟩
theorem expX(h:RelS Γ w S)(n:w.H a=none)(e1:oe.cls=.ref (Γ.cA c))(e2:oe.dict=some dd)(e3:oe.data=.fields vs)(e4:w.F dd=some (.xd gs))(e5:RepF Γ w.R w.F fs gs) :
  RelS Γ (w.exp a oe) (S++[.exn c fs]):=by iterate
 obtain⟨n1,n2⟩:=h.good.none_of n;have gr:Gr w.R (w.R++[a]) w.F w.F:=⟨⟨[a],rfl⟩,λ_ _ z=>z⟩;have ad:w.ad=w.C.map (·.1):=by show(w.E++w.C).map _=_;rw[h.noE,aM]
 refine⟨⟨λb u q=>?_,λp hp=>?_,?_⟩,rfl,?_⟩
 ·show upd w.H a _ b=some u;rw[upd_ne (λz=>by subst z;rw[n1] at q;cases q)];exact h.good.sub b u q
 ·have hp:p∈w.C++[(a,HO.frz oe (.own a))]:=hp;rcases aV.mp hp with hp|hp
  ·have:=h.good.cell p (List.mem_append_right _ hp);exact⟨(upd_ne (λz=>n2 (by rw[ad,<-z];exact bf hp))).trans this.1,this.2⟩
  ·have hp:p=(a,HO.frz oe (.own a)):=by simpa using hp
   subst hp;exact⟨upd_same,n1⟩
 ·show((([]:Cells)++(w.C++[(a,HO.frz oe (.own a))])).map (·.1)).Nodup;rw[aM,aX];have nd:=h.good.nd;rw[ad] at nd n2;refine List.nodup_append.mpr ⟨nd,by simp,λp hp q hq z=>?_⟩;have hq:q=a:=by simpa using hq
  subst hq z;exact n2 hp
 ·refine OwnS.snoc (OwnO.mk ?_) (h.own.up gr);rw[Own];exact⟨a,oe,dd,vs,gs,rfl,e1,e2,e3,e4,RepF.up gr _ _ e5,rfl⟩
theorem hidX(h:RelS Γ w S)(e:S[j]? = some (.exn c fs)) :
  ∃a C',w.R[j]? = some a∧RelS Γ ⟨w.F,[],C',w.R,L2.del w.H a⟩ (S.set j .emp)∧∀b,b∈Wd.ad ⟨w.F,[],C',w.R,L2.del w.H a⟩->b∈w.ad:=by iterate
 obtain⟨a',A,B,b,h1,h2,h3,h4⟩:=h.own.at e;obtain⟨v',ev,ow⟩:=OwnO.of_ne h3 (λz=>by cases z);cases ev;rw[Own] at ow;obtain⟨a,o,dd,vs,gs,e1,_,_,_,_,_,e6⟩:=ow;cases e1;subst e6;have g:=h.good;have ad:w.ad=A.map (·.1)++[a']++B.map (·.1):=by show(w.E++w.C).map _=_;rw[h.noE,h2];simp
 have nd:=g.nd;rw[ad] at nd;obtain⟨q1,q2,q3⟩:=bB.mp nd;obtain⟨q4,q5,q6⟩:=bB.mp q1;have nA:∀p∈A,p.1≠a':=λp hp z=>q6 _ (List.mem_map_of_mem hp) a' (by simp) z;have nB:∀p∈B,p.1≠a':=λp hp z=>q3 a' (by simp) _ (List.mem_map_of_mem hp) z.symm;have ca:=g.cell (a',.frz o (.own a')) (by rw[h2];simp);have old:∀p,p∈A++B->L2.del w.H a' p.1=some p.2∧w.F p.1=none:=λp hp=>by
  rcases aV.mp hp with hp|hp
  ·rw[L2.del_ne (nA p hp)];exact g.cell p (by rw[h2];simp[hp])
  ·rw[L2.del_ne (nB p hp)];exact g.cell p (by rw[h2];simp[hp])
 refine⟨a',A++B,h1,⟨⟨λb u q=>?_,λp hp=>old p hp,?_⟩,rfl,?_⟩,λb z=>?_⟩
 ·show L2.del w.H a' b=some u;rw[L2.del_ne (λz=>by subst z;rw[show w.F b=none from ca.2] at q;cases q)]
  exact g.sub b u q
 ·show((([]:Cells)++(A++B)).map (·.1)).Nodup;rw[aM,aX];exact bB.mpr ⟨q4,q2,λp hp q hq=>q3 p (List.mem_append_left _ hp) q hq⟩
 ·have z:=h4 w.F (λ_ _ h=>h) .emp [] rfl;rw[aN] at z;exact z
 ·have z:b∈(([]:Cells)++(A++B)).map (·.1):=z;rw[aM,aX] at z;rw[ad];rcases aV.mp z with z|z
  ·exact List.mem_append_left _ (List.mem_append_left _ z)
  ·exact List.mem_append_right _ z
/-- behind the call that knew it -/
theorem ztF{C':Cells}(nE:w.E=[])(n:w.H a=none)(x:Ext (w.exp a oe) w3)(g4:Good ⟨w3.F,[],C',w3.R,L2.del w3.H a⟩)(r:∀b,b∈Wd.ad ⟨w3.F,[],C',w3.R,L2.del w3.H a⟩->b∈w3.ad) :
  Ext w ⟨w3.F,[],C',w3.R,L2.del w3.H a⟩:=by iterate
 have na:a∉Wd.ad ⟨w3.F,[],C',w3.R,L2.del w3.H a⟩:=λz=>by
  obtain⟨p,hp,e⟩:=ao.mp z;have:=(g4.cell p hp).1;rw[e,show Wd.H ⟨w3.F,[],C',w3.R,L2.del w3.H a⟩ a=L2.del w3.H a a from rfl,L2.del_same] at this
  cases this
 have inad:∀b,b∈(w.exp a oe).ad->b∈w.ad∨b=a:=λb z=>by
  have z:b∈(([]:Cells)++(w.C++[(a,HO.frz oe (.own a))])).map (·.1):=z;rw[aM,aX] at z;rcases aV.mp z with z|z
  ·refine .inl ?_;show b∈(w.E++w.C).map _;rw[nE,aM];exact z
  ·exact .inr (by simpa using z)
 have nH:∀b,(w.exp a oe).H b=none->w.H b=none:=λb z=>by
  by_cases e:b=a
  ·rw[e];exact n
  ·have z:upd w.H a _ b=none:=z;rw[upd_ne e] at z;exact z
 refine⟨⟨?_,λb o z=>x.gr.f b o z⟩,λb o z nb=>?_,λb z=>?_,λb o z=>?_,λb o z=>?_⟩
 ·obtain⟨m,hm⟩:=x.gr.r;exact⟨[a]++m,by show w3.R=_;rw[hm];show w.R++[a]++m=_;rw[aK]⟩
 ·have ne:b≠a:=λe=>by rw[e,n] at z;cases z
  show L2.del w3.H a b=some o;rw[L2.del_ne ne];refine x.keep b o (by show upd w.H a _ b=_;rw[upd_ne ne];exact z) λy=>?_;rcases inad b y with y|y
  ·exact nb y
  ·exact ne y
 ·have ne:b≠a:=λe=>na (by rw[<-e];exact z);rcases x.cnew b (r b z) with y|y
  ·rcases inad b y with y|y
   ·exact .inl y
   ·exact absurd y ne
  ·exact .inr (nH b y)
 ·rcases x.fnew b o z with y|y|y|⟨xs,y⟩
  ·exact .inl y
  ·exact .inr (.inl (nH b y))
  ·rcases inad b y with y|y
   ·exact .inr (.inr (.inl y))
   ·exact .inr (.inl (by rw[y];exact n))
  ·by_cases e:b=a
   ·exact .inr (.inl (by rw[e];exact n))
   ·have y:upd w.H a _ b=some (.tup xs):=y;rw[upd_ne e] at y;exact .inr (.inr (.inr ⟨xs,y⟩))
 ·have ne:b≠a:=λe=>by rw[e,n] at z;cases z
  obtain⟨o',q⟩:=x.live b o (by show upd w.H a _ b=_;rw[upd_ne ne];exact z);exact⟨o',by show L2.del w3.H a b=_;rw[L2.del_ne ne];exact q⟩
end
/-- what is told of an exception -/
def pC(c:Nat)(fs:List (Str×D))(fldM:List D->List Sl->Res Rv)(S:List Sl):Res Rv:=match fs.lookup ("code" : Str) with
 |some dc=>(match fldM [.ob S.length] (S++[.exn c fs]) with
  |.ok (.d r) _ S' _=>(match S'[S.length]? with
   |some (.exn _ _)=>.ok (.d (.tup [dc,r])) [] (S'.set S.length .emp) false
   |_=>.bad)
  |_=>.bad)
 |none=>.bad
def tryB(n:Nat)(c:M Fl)(T:Nat->Bool)(fldM:List D->List Sl->Res Rv):List D->List Sl->Res Rv:=λds S=>match c (env0 n ds) S with
 |.ok (.rt r) _ S' _=>.ok r [] S' false
 |.ex (.own y fs) ρ' S'=>if T y=true∧ρ'.length=2 then pC y fs fldM S' else .bad
 |_=>.bad
/-- the call that asks for the fields: reading -/
def Sd(Γ:Gm)(m:List D->List Sl->Res Rv)(i:Nat)(a:Addr)(cls:Value)(d:Option Addr):TE:=λσ H Q=>σ[i]? = some (some (.ref a))∧∀oe,Zc cls d oe->(∃vs,oe.data=.fields vs)->H a=none->spM Γ 1 m [.ref a] (addX H [(a,oe)]) (λv H1=>Q v (remX H1 [(a,oe)])) λ_ _ _=>False
def Ss(Γ:Gm)(K:yF)(m:List D->List Sl->Res Rv)(i:Nat)(a:Addr)(cls:Value)(d:Option Addr):TS:=λD σ H=>∃C,cls=.ref C∧XfC K C∧PySem.W.findIn K (.ref C) "code" = some none∧tRet (tTup (tCons (tXf a cls d C "code" (tVar i)) (tCons (Sd Γ m i a cls d) tNil))) D σ H
section
variable{X:Cx}{Γ:Gm}{m:List D->List Sl->Res Rv}{i k:Nat}{a f:Addr}{fd:FuncData}{ps:List Str}{oe:Obj}{cls:Value}{d:Option Addr}{pn:List (Addr×Obj)}{n x:Str}{p1 p2 p3 p4 p5 p6 p7:Pos}{kk:Nat}
theorem zuW(F:FnC X.prog X.w X.K X.mg X.base k f fd ps (spM Γ 1 m))(hr:L2H.RoomH k X.A)(hg:Gl X x)(hm:X.mg x=some (.ref f))(hk:PySem.W.keepIn X.K (.ref f)=true)(hb:Binds X.K fd ps [])(hps:ps.length=1)
  (hN:X.N[i]? = some n) (hv:Vis X.env.scope n) (hdb:(x == ("__debug__" : Str))=false) (hd1:(n == ("__debug__" : Str))=false) (hd2:(n == ("__classdict__" : Str))=false) (hba:X.base.get? a=none) (hz:Zc cls d oe) (hf:∃vs,oe.data=.fields vs) :
  PE (X.suite a ((a,oe)::pn)) (.Call (.Name x p1) [.Name n p2] [] p3) (Sd Γ m i a cls d):=by iterate
 refine⟨λpins s σ H Q I ⟨hσ,t⟩=>?_⟩;refine wpAny_Call_Name_kw (ld_glob (X:=X.suite a ((a,oe)::pn)) I hg hm ?_ hdb);have arg:PA (X.suite a ((a,oe)::pn)) [.Name n p2] (tCons (tVar i) tNil):=pa_cons (pe_var (X:=X.suite a ((a,oe)::pn)) hN hv hd1 hd2) pa_nil;refine PySem.W.callWith_K (h₀:=X.base) I.ok.mod.kin hk (thn (arg.run p3 pins s σ H (λvs H1=>vs=[.ref a]∧H1=H) I ⟨.ref a,hσ,rfl,rfl⟩) λus s1 ⟨vs,H1,I1,rv,ev,eH⟩=>⟨I1.kIn,?_⟩) rfl rfl;subst ev eH;obtain⟨ga,na,nL,nF,_⟩:=I1.pin (a,oe) (List.mem_append_left _ bK);have xo:ExOk (X.suite a ((a,oe)::pn)) H1 s1 [(a,oe)]:=by
  refine⟨λp hp=>?_,λp hp=>?_,λp hp=>?_,λp hp=>?_⟩<;>(have hp:p=(a,oe):=by simpa using hp)<;>subst hp
  ·exact ga
  ·exact na
  ·intro z;rcases au.mp (I1.stkSub _ z) with z|z
   ·exact nL z
   ·exact nF z
  ·exact hba
 have rc:=F.run (X.suite a ((a,oe)::pn)).A (X.suite a ((a,oe)::pn)).stack s1 (addX H1 [(a,oe)]) ⟨us,[]⟩ us [.ref a] (λv H'=>Q v (remX H' [(a,oe)])) ⟨hr.dp,hr.un⟩ (Inv.env0X I1 xo)
  (by have:=hb s1 us I1.kIn (by rw[aN,<-rv.length,hps];rfl);rwa[aN] at this) rv (t oe hz hf na)
 refine wpAny_call (codeAny_mono rc λr' s' hq=>?_);cases r' with
 |error er=>
  obtain⟨_,_,_,_,_,_,_,_,_,_,_,_,hf⟩:=hq;exact hf.elim
 |ok fl=>
  cases fl with
  |next=>exact False.elim hq
  |brk=>exact False.elim hq
  |cont=>exact False.elim hq
  |ret u=>
   obtain⟨v,H3,os,bare,un,hok,rv',q⟩:=hq;exact⟨v,_,(Inv.afterX I1 xo os bare un hok).1,rv',q⟩
theorem zqb(F:FnC X.prog X.w X.K X.mg X.base k f fd ps (spM Γ 1 m))(hr:L2H.RoomH k X.A)(hg:Gl X x)(hm:X.mg x=some (.ref f))(hk:PySem.W.keepIn X.K (.ref f)=true)(hb:Binds X.K fd ps [])(hps:ps.length=1)
  (hN:X.N[i]? = some n) (hv:Vis X.env.scope n) (hdb:(x == ("__debug__" : Str))=false) (hd1:(n == ("__debug__" : Str))=false) (hd2:(n == ("__classdict__" : Str))=false) (hba:X.base.get? a=none) (hz:Zc cls d oe) (hf:∃vs,oe.data=.fields vs) :
  PSs (X.suite a ((a,oe)::pn)) [.Return (some (.Tuple [.Attribute (.Name n p1) "code" p2,.Call (.Name x p3) [.Name n p4] [] p5] kk p6)) p7] (Ss Γ X.K m i a cls d):=by
 refine⟨λpins s σ H Dn I ⟨C,eC,T,hno,t⟩=>?_⟩;exact(pss_one (ps_ret (pe_tup (pa_cons (pe_xf T hno hz hf (pe_var (X:=X.suite a ((a,oe)::pn)) hN hv hd1 hd2)) (pa_cons (zuW F hr hg hm hk hb hps hN hv hdb hd1 hd2 hba hz hf) pa_nil))))).run pins s σ H Dn I t
end
/-- the classes that are caught,and what must hold of them -/
structure CatT(Γ:Gm)(cs:List Value)(T:Nat->Bool):Prop where
  ok:∀c,T c=true->PySem.W.exmAny Γ.K (.ref (Γ.cA c)) cs=some true∧XfC Γ.K (Γ.cA c)∧PySem.W.findIn Γ.K (.ref (Γ.cA c)) "code" = some none
theorem zxM{P:Program}{wd:World}{mg:Str->Option Value}{base:Heap}{Γ:Gm}{k kF:Nat}{q qual:Str}{params:Arguments}{scope:Scope}{dvs:List V}{kws:List (Str×V)}{f fF:Addr}{fd fdF:FuncData}{ps psF:List Str}{c:M Fl}{T:Nat->Bool}{fldM:List D->List Sl->Res Rv}
  {ask n x x1 x2 x3:Str} {c1 c2 c3:Value} {body:List Stmt} {n1 n2 n3 tp pos pos' p1 p2 p3 p4 p5 p6 p7:Pos} {kk kk2:Nat}
  (hF:FunD Γ.K q qual params [.Try body [.ExceptHandler (some (.Tuple [.Name x1 n1,.Name x2 n2,.Name x3 n3] kk tp)) (some n) [.Return (some (.Tuple [.Attribute (.Name n p1) "code" p2,.Call (.Name x p3) [.Name n p4] [] p5] kk2 p6)) p7] pos'] [] [] pos] scope dvs kws f fd)
  (hS:FnScope [ask,n] ps scope) (hps:ps.length=1) (hnd:ask≠n) (hln:scope.names.lookup n=some .local) (hd1:(n == ("__debug__" : Str))=false) (hd2:(n == ("__classdict__" : Str))=false)
  (k1:scope.names.lookup x1=some .globalImplicit∧mg x1=some c1∧(x1 == ("__debug__" : Str))=false) (k2:scope.names.lookup x2=some .globalImplicit∧mg x2=some c2∧(x2 == ("__debug__" : Str))=false) (k3:scope.names.lookup x3=some .globalImplicit∧mg x3=some c3∧(x3 == ("__debug__" : Str))=false)
  (hb:∀(cdv:Value) (A:Around) (outer:List Env) (s:Shared) (H:Hp) (E:XK) (W:WX) (pn:List (Addr×Obj)) (xe:Value->Shared->Prop),Room k (A.deeper (envOfC qual scope s.heap.objs.size f cdv))->
   Takes ((cxOf (L2.CX P wd) P wd Γ.K mg base [ask,n] qual scope f cdv A outer s H E).tr pn xe) W->PSs ((cxOf (L2.CX P wd) P wd Γ.K mg base [ask,n] qual scope f cdv A outer s H E).tr pn xe) body (tS Γ W [] c))
  (F:FnC P wd Γ.K mg base kF fF fdF psF (spM Γ 1 fldM)) (hkF:kF≤k) (hgx:scope.names.lookup x=some .globalImplicit) (hmx:mg x=some (.ref fF)) (hdx:(x == ("__debug__" : Str))=false) (hkx:PySem.W.keepIn Γ.K (.ref fF)=true) (hbx:Binds Γ.K fdF psF []) (hpF:psF.length=1)
  (hT:CatT Γ [c1,c2,c3] T) :
  FnOk P wd Γ.K mg base (L2.CX P wd) (k+1) f fd ps (spM Γ 1 (tryB 2 c T fldM)):=by iterate
 have nd2:[ask,n].Nodup:=by simp[hnd]
 refine hF.ok hS (sp:=spM Γ 1 (tryB 2 c T fldM)) (λvs H Q E h=>h.1.trans hps.symm) λcdv A outer s H vs Q E hr ⟨hl,F0,C,R,S,ds,rel,l,fk⟩=>?_;have ln:=l.length;refine⟨λD σ H=>tS Γ (wTup Γ.K base [c1,c2,c3] 1 (λa cls d=>Ss Γ Γ.K fldM 1 a cls d) D) [] c D σ H,pss_one (zm1 (X:=cxOf (L2.CX P wd) P wd Γ.K mg base [ask,n] qual scope f cdv A outer s H E) (tb:=λW=>tS Γ W [] c) rfl rfl nd2 rfl hln k1 k2 k3 (λW pn xe tk=>hb cdv A outer s H E W pn xe hr tk)
  (λa oe cls d pn hba hz hf=>zqb (X:=cxOf (L2.CX P wd) P wd Γ.K mg base [ask,n] qual scope f cdv A outer s H E) F (L2H.roomH_of (hr.mono hkF)) hgx hmx hkx hbx hpF rfl (.inl hln) hdx hd1 hd2 hba hz hf)),?_⟩
 refine⟨F0,[],C,R,env0 2 ds,S,⟨rel.good,by unfold env0 L2.start;rw[ln];exact OwnE.params _ l,rel.own⟩,?_⟩;unfold tryB at fk;cases q:c (env0 2 ds) S with
 |bad=>rw[q] at fk;exact fk
 |ok fl ρ' S' t=>
  rw[q] at fk;cases fl with
  |nx=>exact fk.elim
  |bk=>exact fk.elim
  |ct=>exact fk.elim
  |rt r=>
   intro w' σ' v x' p' rel' o';obtain⟨x2,r2,o2⟩:=rel'.leave x';exact fk ⟨w'.F,[],w'.C,w'.R,w'.H⟩ v x2 r2 (o2 r v o')
 |ex y ρ' S'=>
  rw[q] at fk;cases y with
  |blt nm=>exact fk.elim
  |own y fs=>
   simp only at fk;split at fk
   case isFalse=>exact fk.elim
   rename_i hTy;obtain⟨hTy,hρ⟩:=hTy;obtain⟨t1,t2,t3⟩:=hT.ok y hTy;intro w' σ' cls d x' p' rel' ⟨o1,dd,gs,o2,o3,o4⟩;subst o1 o2;obtain⟨x1',r1,_⟩:=rel'.leave x';refine⟨t1,λa na hba=>?_⟩;have hlen:σ'.length=2:=by iterate
    rw[<-rel'.own.1.length];exact hρ
   refine⟨Γ.cA y,rfl,t2,t3,.ref a,by rw[List.getElem?_set_self (by omega)],rfl,rfl,dd,gs,?_⟩;unfold pC at fk;cases q2:fs.lookup ("code" : Str) with
   |none=>simp only[q2] at fk;exact fk.elim
   |some dc=>
    simp only[q2] at fk;obtain⟨vc,l1,l2⟩:=(o4.look "code").1 dc q2;refine⟨vc,rfl,rel'.good.sub _ _ o3,l1,by rw[List.getElem?_set_self (by omega)],λoe hz ⟨vs',hf⟩ _=>?_⟩;have ex:=expX r1 na hz.1 hz.2 hf o3 o4;have rlen:S'.length=w'.R.length:=r1.own.length;refine⟨rfl,w'.F,w'.C++[(a,.frz oe (.own a))],w'.R++[a],S'++[.exn y fs],[.ob S'.length],by rw[R9];exact ex,?_,?_⟩
    ·rw[RepL];refine⟨.ref a,[],rfl,?_,by rw[RepL]⟩;rw[Rep];exact⟨a,by rw[rlen];simp,rfl⟩
    cases q3:fldM [.ob S'.length] (S'++[.exn y fs]) with
    |bad=>simp only[q3] at fk;exact fk.elim
    |ex z ρ2 S2=>simp only[q3] at fk;exact fk.elim
    |ok r ρ2 S2 t2'=>
     simp only[q3] at fk;cases r with
     |env i=>exact fk.elim
     |fr z=>exact fk.elim
     |d r=>
      simp only at fk;intro w3 v x3 r3 o3';rw[R9] at x3;split at fk
      case h_2=>exact fk.elim
      rename_i c9 fs9 e9;obtain⟨a9,C9,k1',k2',k3'⟩:=hidX r3 e9;have ea:a9=a:=by
       obtain⟨m,hm⟩:=x3.gr.r;have hm:w3.R=w'.R++[a]++m:=hm;rw[hm,rlen,List.getElem?_append_left (by simp)] at k1'
       simpa using k1'.symm
      subst ea;have x4:=ztF (w:=⟨w'.F,[],w'.C,w'.R,w'.H⟩) rfl na x3 k2'.good k3';show _≤_∧_;refine⟨Nat.le_of_ble_eq_true rfl,λp hp=>?_⟩;rw[zr0] at hp ⊢;have g4:=Good.newF (o:=.tup [vc,v]) k2'.good hp;have x5:=Ext.newF (o:=.tup [vc,v]) k2'.good hp;refine fk ⟨upd w3.F p (.tup [vc,v]),[],C9,w3.R,upd (L2.del w3.H a9) p (.tup [vc,v])⟩ (.ref p) ((x1'.trans x4).trans x5) ⟨g4,rfl,OwnS.up x5.gr k2'.own⟩ ?_;show Rep Γ _ _ (.tup [dc,r]) (.ref p);rw[Rep];refine⟨p,[vc,v],rfl,upd_same,?_⟩;rw[RepL];refine⟨vc,[v],rfl,Rep.up x5.gr _ _ (Rep.up x4.gr _ _ l2),?_⟩;rw[RepL];exact⟨v,[],rfl,Rep.up x5.gr _ _ o3',by rw[RepL]⟩
end
section
def cRsv(xs:List Str):M Fl:=λρ S=>.ok .nx ρ (S++xs.map .rsv) false
section
variable{Γ:Gm}{W:WX}{P:List Nat}{c:M Fl}{D:Ends}{σ:L2.St}{H:Hp}
theorem Su{R:List Addr}{F:Hp}:∀{xs:List Str},(∀x∈xs,∃a,Γ.cel.lookup x=some a)->∃as,OwnS Γ R F (xs.map .rsv) as []
 |[],_=>⟨[],rfl,rfl⟩
 |x::xs,h=>by
  obtain⟨as,o⟩:=Su (R:=R) (F:=F) (xs:=xs) λy hy=>h y (bL _ hy);obtain⟨a,e⟩:=h x (bK ..);exact⟨a::as,a,as,[],[],rfl,OwnO.mk (by rw[Own];exact⟨⟨a,rfl⟩,⟨a,e⟩,rfl⟩),o,rfl⟩
theorem OwnS.cat{R:List Addr}{F:Hp}{T:List Sl}{rt:List Addr}{ct:Cells}(o:OwnS Γ R F T rt ct):∀{S:List Sl} {r:List Addr} {C:Cells},OwnS Γ R F S r C->OwnS Γ R F (S++T) (r++rt) (C++ct)
 |[],_,_,h=>by
  obtain⟨rfl,rfl⟩:=h
  simpa using o
 |s::S,r,C,h=>by
  obtain⟨b,r',c1,c2,rfl,q,l,rfl⟩:=h;exact⟨b,r'++rt,c1,c2++ct,rfl,q,OwnS.cat o l,by simp⟩
theorem zxO{xs:List Str}(hx:∀x∈xs,∃a,Γ.cel.lookup x=some a)(h:tS Γ W P (cSeq (cRsv xs) c) D σ H):tS Γ W P c D σ H:=by iterate
 obtain⟨F,E,C,R,ρ,S,rel,sk⟩:=h;obtain⟨as,o⟩:=Su (R:=R) (F:=F) hx;have gr:Gr R (R++as) F F:=⟨⟨as,rfl⟩,λ_ _ z=>z⟩;have x:Ext ⟨F,E,C,R,H⟩ ⟨F,E,C,R++as,H⟩:=⟨gr,λ_ _ z _=>z,λ_ z=>.inl z,λ_ _ z=>.inl z,λ_ o z=>⟨o,z⟩⟩;refine⟨F,E,C,R++as,ρ,S++xs.map .rsv,⟨⟨rel.good.sub,rel.good.cell,rel.good.nd⟩,rel.own.1.up gr,?_⟩,?_⟩
 ·have z:=OwnS.cat (o.up gr) (rel.own.2.up gr);rw[aN] at z;exact z
 ·unfold cSeq cRsv at sk;exact SK.ext x .refl (show SK Γ W P ⟨F,E,C,R,H⟩ σ D (c ρ (S++xs.map .rsv)) from sk)
end
/-- a slot that no name sees -/
theorem Inv.ghost{X:Cx}{pins:List (Addr×Obj)}{σ:L2.St}{H:Hp}{s:Shared}{i:Nat}{x:Str}{o:Option V}(I:Inv X pins σ H s)(hN:X.N[i]? = some x)(nv:¬Vis X.env.scope x):Inv X pins (σ.set i o) H s:=by
 refine⟨I.ok,I.os,I.bare,I.base,?_,I.cell,I.free,I.freeC,I.pin,I.hok,by rw[bM];exact I.len⟩;obtain⟨m,hn,hl⟩:=I.loc;refine⟨m,hn,λj y v h1 h2 h3=>?_⟩
 by_cases e:i=j
 ·subst e;rw[hN] at h1;cases h1;exact absurd h3 nv
 ·rw[List.getElem?_set_ne e] at h2;exact hl j y v h1 h2 h3
theorem zoZ{X:Cx}{i:Nat}{x:Str}{o:Option V}{body:List Stmt}{t:TS}(hN:X.N[i]? = some x)(nv:¬Vis X.env.scope x)(h:PSs X body t):PSs X body (λD σ H=>t D (σ.set i o) H):=
 ⟨λpins s σ H D I z=>h.run pins s _ H D (Inv.ghost I hN nv) z⟩
abbrev lawT(K:yF):Addr×Addr:=He.cT K ("law",none)
def pD(K:yF)(n:Nat)(tb:Addr):Sp:=λvs H Q E=>∃(a:Addr) (ns:List Int),vs=[.ref a]∧ns.length≤n∧H tb=some (.tbl #[])∧SqL K H a (ns.map V.int)∧∀H',Q (.bl true) H'
theorem zvP{P:Program}{wd:World}{K:yF}{mg:Str->Option Value}{base:Heap}{k it n:Nat}{q qual x dum:Str}{params:Arguments}{body:List Stmt}{scope:Scope}{kws:List (Str×V)}{f:Addr}{fd:FuncData}{N:List Str}{G:List (Str×Addr)->Gm}{c:M Fl}
  (hf:f=He.fAd K ("law",none)) (hF:FunD K "law" qual params body scope [] kws f fd) (hS:FnScope N [x] scope) (hG:∀ce,(G ce).K=K∧(G ce).tb q=(lawT K).2)
  (hN:N[it]? = some dum) (hit:1≤it) (nv:¬Vis scope dum) (TB:LamX.TabB base mg (lawT K).1 (lawT K).2)
  (hb:∀(A:Around) (outer:List Env) (s:Shared) (H:Hp) (E:XK),Room k (A.deeper (envOfC qual scope s.heap.objs.size f (.ref (lawT K).1)))->
   Takes (cxOf (L2.CX P wd) P wd K mg base N qual scope f (.ref (lawT K).1) A outer s H E) (λcls d _ H=>E cls d H)->
   PassesOwn (model P wd) (cxOf (L2.CX P wd) P wd K mg base N qual scope f (.ref (lawT K).1) A outer s H E).A (cxOf (L2.CX P wd) P wd K mg base N qual scope f (.ref (lawT K).1) A outer s H E).env (cxOf (L2.CX P wd) P wd K mg base N qual scope f (.ref (lawT K).1) A outer s H E).xe->
   PSs (cxOf (L2.CX P wd) P wd K mg base N qual scope f (.ref (lawT K).1) A outer s H E) body (tS (G (cellsFrom (s.heap.objs.size+1) scope.names [])) (λcls d _ H=>E cls d H) [] c))
  (hm:∀ns:List Int,ns.length≤n->∃ρ S t,c ((env0 N.length [.kl (ns.map .int)]).set it (.tab q)) []=.ok (.rt (.d (.bl true))) ρ S t) :
  FnOk P wd K mg base (L2.CX P wd) (k+1) f fd [x] (pD K n (lawT K).2):=by iterate
 obtain⟨oc,od,dV,kV,doc,pm,an,cdv,ct,osl,rfl,lk,hcd,_,_⟩:=hF.ex;obtain⟨cc,rfl⟩:=He.codeIn_ref hcd;have ecc:He.codeOf K ("law",none)=cc:=He.codeOf_eq (by rw[<-hf];exact lk) rfl;have e1:(lawT K).1=cc:=ecc;subst e1;refine fn_of lk hcd hS (λvs H Q E ⟨a,ns,e,_⟩=>by rw[e]<;>rfl) λA outer s H vs Q E hr ⟨a,ns,ev,hl,ht,hs,hq⟩=>?_;subst ev;refine⟨_,zoZ (o:=some (.ref (lawT K).2)) (X:=cxOf (L2.CX P wd) P wd K mg base N qual scope f (.ref (lawT K).1) A outer s H E) hN nv (hb A outer s H E hr (takes_of rfl rfl rfl rfl) (passes_of rfl)),?_⟩;obtain⟨ρ,S,t,em⟩:=hm ns hl;have e2:=(hG (cellsFrom (s.heap.objs.size+1) scope.names [])).2;have e3:=(hG (cellsFrom (s.heap.objs.size+1) scope.names [])).1;generalize G (cellsFrom (s.heap.objs.size+1) scope.names [])=Γ at e2 e3;have itN:it<N.length:=(bx.mp hN).1;have hs2:SqL K (L2.del H (lawT K).2) a (ns.map V.int):=by
  rcases hs with (hs|⟨o,hs⟩)|hs
  ·exact .inl (.inl (by rw[L2.del_ne (λz=>by rw[z,ht] at hs;cases hs)];exact hs))
  ·exact .inl (.inr ⟨o,by rw[L2.del_ne (λz=>by rw[z,ht] at hs;cases hs)];exact hs⟩)
  ·exact .inr hs
 have lds:RepL Γ [] (L2.del H (lawT K).2) [.kl (ns.map .int)] [.ref a]:=by
  refine xK ?_ xJ;rw[Rep,e3];refine⟨a,_,rfl,hs2,?_⟩;clear hs2 hs em hl
  induction ns with
  |nil=>exact xJ
  |cons i r ih=>exact xK dY ih
 have own:OwnE Γ [] (L2.del H (lawT K).2) (env0 N.length [.kl (ns.map .int)]) (L2.start N [.ref a]) []:=by
  unfold env0 L2.start;exact OwnE.params _ lds
 have emp:(env0 N.length [D.kl (ns.map .int)])[it]? = some .emp:=by
  unfold env0;rw[List.getElem?_append_right (by simpa using hit),List.getElem?_replicate,if_pos (by simp;omega)]
 obtain⟨o,A1,B1,b1,o1,o2,o3,o4⟩:=own.at emp;have o3:b1=[]:=o3;subst o3;have o2:A1=[]∧B1=[]:=by simpa using o2.symm
 obtain⟨rfl,rfl⟩:=o2;have z:=o4 (L2.del H (lawT K).2) (λ_ _ h=>h) (.tab q) (some (.ref (lawT K).2)) [((lawT K).2,.tbl #[])] (OwnO.mk (by
  rw[Own,e2];refine⟨#[],rfl,⟨trivial,λpos cv e=>?_⟩,rfl⟩;cases e))
 refine⟨L2.del H (lawT K).2,[((lawT K).2,.tbl #[])],[],[],_,[],⟨⟨λb u e=>?_,λp hp=>?_,by simp⟩,z,⟨rfl,rfl⟩⟩,?_⟩
 ·have e:L2.del H (lawT K).2 b=some u:=e
  by_cases y:b=(lawT K).2
  ·rw[y,L2.del_same] at e;cases e
  ·rw[L2.del_ne y] at e;exact e
 ·have hp:p=((lawT K).2,.tbl #[]):=by simpa using hp
  subst hp;exact⟨ht,L2.del_same⟩
 ·rw[em];intro w' σ' v x' p' rel' o';have o':Rep Γ w'.R w'.F (.bl true) v:=o';rw[Rep] at o';subst o';exact hq _
structure SaysZ(chk:yF->Bool)(fn:List He5.DefA)(h:Heap)(K:yF):Prop where
  y:jm chk fn K
  hd:PySem.W.codeHdIn K (lawT K).1 (lawT K).2=true
  out:K.lookup (lawT K).2=none
  empty:h.get? (lawT K).2=some { cls:=.none,data:=.fields #[] }
theorem zqm{n:Nat}{chk:yF->Bool}{fn:List He5.DefA}{h:Heap}(e:rR n chk fn h.get? = He5.valA fn):SaysZ chk fn h (He.frT h.get? (He5.asA h.get? n)):=by iterate
 have e1:(chk (He.frT h.get? (He5.asA h.get? n)) && (fn.all (λd=>d.ok (He.frT h.get? (He5.asA h.get? n))) && He.tabsB h.get? [("law",none)] (He.frT h.get? (He5.asA h.get? n))))=true:=congrArg (λz:He.AlD=>z.1) e;obtain⟨h1,h2⟩:=He.ba e1;obtain⟨h3,h4⟩:=He.ba h2;obtain⟨h5,h6⟩:=He.ba (bJ.mp h4 ("law",none) (bK ..));have e2:fn.map (λd=>He5.fnA (He.frT h.get? (He5.asA h.get? n)) (d.at_ (He.frT h.get? (He5.asA h.get? n))))=(He5.valA fn).2:=congrArg (λz:He.AlD=>z.2) e
 refine⟨?_,h5,?_,?_⟩
 ·show(chk _ && fn.all _,_)=_;rw[h1,h3,e2];rfl
 ·cases q:h.get? (lawT (He.frT h.get? (He5.asA h.get? n))).2 with
  |none=>rw[q] at h6;cases h6
  |some o=>rw[q] at h6;exact He.frT_none q h6
 ·cases q:h.get? (lawT (He.frT h.get? (He5.asA h.get? n))).2 with
  |none=>rw[q] at h6;cases h6
  |some o=>rw[q] at h6;rw[He.emptyTab_eq h6]
def Kh(n:Nat)(chk:yF->Bool)(fn:List He5.DefA):PySem.W.Hook where
 α:=He.AlD
 obs:=λs=>rR n chk fn s.heap.get?
 val:=λ_=>He5.valA fn
 says:=λ_ h=>∃K:yF,K.In h∧SaysZ chk fn h K
 of:=λ_ _ e=>⟨_,He.frT_in,zqm e⟩
 keeps:=λ_ _ _ ⟨K,hK,c⟩ k=>⟨K,PySem.W.Frag.In.keeps hK k,⟨c.y,c.hd,c.out,k _ _ c.empty⟩⟩
theorem zri{n:Nat}{chk:yF->Bool}{fn:List He5.DefA}{g:Addr->Option Obj}{s:Shared}(h:∀a,g a=s.heap.get? a):rR n chk fn g=(Kh n chk fn).obs s:=by
 have e:g=s.heap.get?:=funext h;subst e;rfl
theorem zqZ{law:PySem.W.OpenLaw}{st k:Nat}{q:Program}{nms:List Str}{XP:(Str->Option Value)->Heap->Prop}{chk:yF->Bool}{fn:List He5.DefA}{d:DefRec}{x:Str}
  (h1:law.most=some 63) (h2:d.params.defaults=[]) (h3:Room k callerA)
  (F:∀(w:World) (K:yF) (mg:Str->Option Value) (h:Heap),K.In h->h.Ns mainGlobals mg->jm chk fn K->∃(fa:Addr) (fd:FuncData),mg d.name=some (.ref fa)∧(∀(s:Shared) (u:Value),BindsTo s fd ⟨[u],[]⟩ [(x,u)]) ∧
   ∀base:Heap,LamX.TabB base mg (lawT K).1 (lawT K).2->FnOk law.prog w K mg base (L2.CX law.prog w) k fa fd [x] (pD K 63 (lawT K).2)) :
  PySem.W.WalkO q nms XP (Kh st chk fn).says law.row.toRowW d [] (λf vs=>PySem.call f vs):=by iterate
 refine LamX.walk_ofTsE (n:=63) (CX:=λw=>L2.CX law.prog w) (x:=x) h1 (by decide) h2 h3 (λw mg fa h Y hns hmg=>?_) λw H s e s' z=>zrf H s e s' z;obtain⟨K,KX,c⟩:=Y;obtain⟨fa',fd,at',binds,ok⟩:=F w K mg h KX hns c.y;obtain rfl:fa=fa':=by
  have z:=hmg.symm.trans at';injection z with z
  injection z
 refine⟨K,KX,fd,[lawT K],pD K 63 (lawT K).2,λp hp=>?_,λp hp=>?_,λp hp=>?_,binds,λH a ns hl _ ht hs=>⟨a,ns,rfl,hl,ht _ (List.mem_cons_self ..),hs,λ_=>rfl⟩,λbase _ _ tb=>ok base (tb _ (List.mem_cons_self ..))⟩<;>(have hp:p=lawT K:=by simpa using hp)<;>subst hp
 ·exact c.empty
 ·exact c.out
 ·exact PySem.W.codeHd_of_K KX c.hd
end
section
def noE:Expr:=.Name "" ⟨0,0,0,0⟩
/-- the n-th part of an expression -/
def chE:Expr->Nat->Expr
 |.BoolOp _ vs _,n=>vs.getD n noE
 |.BinOp l _ _ _,0=>l
 |.BinOp _ _ r _,_+1=>r
 |.UnaryOp _ e _,_=>e
 |.Lambda _ b _ _,_=>b
 |.IfExp t _ _ _,0=>t
 |.IfExp _ b _ _,1=>b
 |.IfExp _ _ o _,_+2=>o
 |.Compare l _ _ _,0=>l
 |.Compare _ _ cs _,n+1=>cs.getD n noE
 |.Call f _ _ _,0=>f
 |.Call _ as _ _,n+1=>as.getD n noE
 |.Attribute v _ _,_=>v
 |.Subscript v _ _,0=>v
 |.Subscript _ s _,_+1=>s
 |.List es _,n=>es.getD n noE
 |.Tuple es _ _,n=>es.getD n noE
 |e,_=>e
/-- a statement's expression;the i-th statement of its k-th block -/
def stE:Stmt->Expr
 |.Return (some e) _=>e
 |.Assign _ e _=>e
 |.For _ e _ _ _=>e
 |.If e _ _ _=>e
 |.While e _ _ _=>e
 |.Expr e _=>e
 |_=>noE
def stB:Stmt->Nat->Nat->Stmt
 |.For _ _ b _ _,0,i=>b.getD i (.Pass ⟨0,0,0,0⟩)
 |.If _ b _ _,0,i=>b.getD i (.Pass ⟨0,0,0,0⟩)
 |.If _ _ o _,_+1,i=>o.getD i (.Pass ⟨0,0,0,0⟩)
 |.While _ b _ _,0,i=>b.getD i (.Pass ⟨0,0,0,0⟩)
 |s,_,_=>s
def noL:LamI:=⟨"",⟨[],[],none,[],[],none,[]⟩,noE,⟨.function,[],false,false,[]⟩⟩
def lamOf(q:Str):Expr->LamI
 |.Lambda ps b sc _=>⟨q,ps,b,sc⟩
 |_=>noL
def jd(L:LamI)(N:List Str):Bool:=decide (L.scope.kind=.function) && !L.scope.isCoroutine && !L.scope.isGenerator && L.scope.names.all λy=>!decide (y.2=.local) && !decide (y.2=.cell) && (!decide (y.2=.free) ||N.contains y.1)
theorem jU{L:LamI}{N:List Str}(h:jd L N=true)(hb:∀(cl:List (Str×Addr)) (pm cv ctv:Value),bindArgs (PySem.W.kla_fn "<lambda>" L.qual L.params L.body L.scope cl pm cv ctv) ⟨[],[]⟩=pure []):LamSc L N:=by
 unfold jd at h;simp only[Bool.and_eq_true,Bool.not_eq_true',List.all_eq_true,Bool.or_eq_true,decide_eq_true_eq,decide_eq_false_iff_not,List.contains_iff_mem] at h;obtain⟨⟨⟨h1,h2⟩,h3⟩,h4⟩:=h;refine⟨h1,h2,h3,λy hy=>(h4 y hy).1,λy hy e=>?_,hb⟩;rcases(h4 y hy).2 with z|z
 ·exact absurd e z
 ·exact z
theorem jV{P:Program}{w:World}{X:Cx}:Passes (L2.CX P w) X (λ_ _ _=>False):=by
 rintro _ _ _ _ _ _ _ ⟨_,_,_,_,_,_,_,_,_,_,_,_,h⟩;exact h.elim
theorem zvO{lm:Nat->LamI}{ce:List (Str×Addr)}{tb:Str->Addr}{K:yF}{nm:Nat->Str}{cs:List Str}{l:List Nat}(h:M4 K nm cs l=true):CatT ⟨K,λc=>He.ga K (nm c),lm,ce,tb⟩ (cs.map λx=>.ref (He.ga K x)) (λc=>l.contains c):=by
 refine⟨λc e=>?_⟩;have hc:c∈l:=List.contains_iff_mem.mp e;obtain⟨h1,h2⟩:=He.ba (bJ.mp h c hc);obtain⟨h3,h4⟩:=He.ba h2;exact⟨aR h1,xfB_ok h3,He.eqO_ok h4⟩
theorem zwI{n:Nat}{sc:Scope}{xs:List Str}{x:Str}(hx:x∈xs)(h:∀x∈xs,sc.names.lookup x=some .cell):∃a,(cellsFrom n sc.names []).lookup x=some a:=cell_has (h x hx)
theorem zuF{X:Cx}{Γ:Gm}{W:WX}{P:List Nat}{body:List Stmt}{c:M Fl}{xs:List Str}(hx:∀x∈xs,∃a,Γ.cel.lookup x=some a)(h:PSs X body (tS Γ W P c)):PSs X body (tS Γ W P (cSeq (cRsv xs) c)):=h.imp λ_ _ _ z=>zxO hx z
end
section
section
variable{α:Type}{ρ S S2 S4:List Sl}{QR:Rv->List Sl->List Sl->Prop}{QF:Fl->List Sl->List Sl->Prop}{QL:List D->List Sl->List Sl->Prop}{E:XQ}{Q:Rv->List Sl->Prop}{E1:Exn->List Sl->Prop}{j k c:Nat}{fs:List (Str×D)}{T:Nat->Str->Bool}{f code:Str}{d dc:D}
theorem wp_raise{n:Nat}{mk:List D->List (Str×D)}{cs:M (List D)}(h:wp cs ρ S (λds ρ S=>wG (ds.length=n∧0=0) (E (.own c (mk ds)) ρ S)) E):wp (jc c n mk cs) ρ S QF E:=
 cP (cM h (λ_ _ _ ⟨e,h⟩=>by rw[if_pos e.1];exact h) λ_ _ _ h=>h)
theorem Kl{co:M Rv}(h:wp co ρ S (λr ρ S=>wO (xfR T f r S) λd=>QR (.d d) ρ S) E):wp (cXf T f co) ρ S QR E:=
 cP (cM h (λ_ _ _ ⟨d,e,h⟩=>by simp only[e];exact h) λ_ _ _ h=>h)
theorem Km{P:D->Prop}(e:nt S j (.exn c fs))(ht:T c f=true)(l:fs.lookup f=some d)(h:P d):wO (xfR T f (.d (.ob j)) S) P:=⟨d,by
 have e:S[j]? = _:=e;simp only[xfR,e,ht,if_true,l],h⟩
theorem zwv{i:Nat}{q:Str}(e:nt ρ i (.tab q))(h:QR (.d (.fn k)) ρ S):wp (cLam k i q) ρ S QR E:=by
 have e:ρ[i]? = _:=e;simp only[wp,cLam,e,if_true];exact h
def wl(r:Res Rv)(Q:Rv->List Sl->Prop)(E:Exn->List Sl->Prop):Prop:=wr r (λr _ S=>Q r S) λx _ S=>E x S
theorem zve{J:CelL}{cb:M Rv}{ρ0:List Sl}(e1:rdS J S=some ρ0)(e2:iK J S=some S2)(h:wp cb ρ0 S2 (λr _ S'=>(∀i,r≠.env i)∧∃S4,ir J S S'=some S4∧Q r S4) (λx _ S'=>∃S4,ir J S S'=some S4∧E1 x S4)):wl (eG J cb S) Q E1:=by
 unfold wl eG;simp only[e1,e2];unfold wp at h;cases q:cb ρ0 S2 with
 |bad=>rw[q] at h;exact h.elim
 |ex y ρ' S'=>
  rw[q] at h;obtain⟨S4,e4,h⟩:=h;simp only[e4];exact h
 |ok r ρ' S' t=>
  rw[q] at h;obtain⟨ne,S4,e4,h⟩:=h;simp only[e4];cases r with
  |env i=>exact absurd rfl (ne i)
  |d x=>exact h
  |fr x=>exact h
theorem ne_d{x:D}:∀i,Rv.d x≠.env i:=λ_ z=>nomatch z
theorem zy5{x:Sl}:∀i,Rv.fr x≠.env i:=λ_ z=>nomatch z
/-- the try's body -/
abbrev tryC(lamM:Nat->List Sl->Res Rv):M Fl:=cRet (cTup (bZ (cC (.str "")) (bZ (cRun lamM 0) cG)))
theorem wp_run{lamM:Nat->List Sl->Res Rv}{i:Nat}(e:nt ρ i (.val (.fn k)))(h:wl (lamM k S) (λr S=>QR r ρ S) (λx S=>E x ρ S)):wp (cRun lamM i) ρ S QR E:=by
 have e:ρ[i]? = _:=e;simp only[wp,cRun,e];unfold wl at h;cases q:lamM k S with
 |bad=>rw[q] at h;exact h.elim
 |ex y ρ' S'=>rw[q] at h;exact h
 |ok r ρ' S' t=>rw[q] at h;exact h
def catQ(T:Nat->Bool)(fld:List D->List Sl->Res Rv)(Q:Rv->List Sl->Prop)(x:Exn)(S:List Sl):Prop:=∃y fs,x=.own y fs∧T y=true∧wl (pC y fs fld S) Q λ_ _=>False
theorem jW{lamM:Nat->List Sl->Res Rv}{TT:Nat->Bool}{fld:List D->List Sl->Res Rv}(h:wl (lamM k S) (λr S'=>wF r [.val (.fn k),.emp] S' λd _ S''=>Q (.d (.tup [.str "",d])) S'') (catQ TT fld Q)):wm (tryB 2 (tryC lamM) TT fld) [.fn k] S Q E1:=by iterate
 have z:wp (tryC lamM) [.val (.fn k),.emp] S (λfl _ S'=>∃r,fl=.rt r∧Q r S') (λx ρ S'=>ρ=[.val (.fn k),.emp]∧catQ TT fld Q x S'):=by
  refine qN (uE (qM (wp_C ?_)));symm;refine wp_run (k:=k) (i:=0) nt_z ?_;refine cM h (λr ρ S h=>?_) λx ρ S h=>⟨rfl,h⟩;refine cM h (λd ρ S h=>?_) λ_ _ _ h=>h;refine uD ?_;exact⟨Nat.le_of_ble_eq_true rfl,wV_d ⟨_,rfl,h⟩⟩
 unfold wm tryB;have e0:env0 2 [D.fn k]=[.val (.fn k),.emp]:=rfl;rw[e0];unfold wp at z;cases q:tryC lamM [.val (.fn k),.emp] S with
 |bad=>rw[q] at z;exact z.elim
 |ok fl ρ' S' t=>
  rw[q] at z;obtain⟨r,rfl,z⟩:=z;exact z
 |ex y ρ' S'=>
  rw[q] at z;obtain⟨e1,y1,fs1,e2,e3,z⟩:=z;subst e1 e2;show wr (if TT y1=true∧([.val (.fn k),.emp]:List Sl).length=2 then pC y1 fs1 fld S' else .bad) _ _
  rw[if_pos ⟨e3,rfl⟩];exact cM z (λ_ _ _ h=>h) λ_ _ _ h=>h.elim
theorem ztz{fld:List D->List Sl->Res Rv}(l:fs.lookup ("code" : Str)=some dc) (h:wm fld [.ob S.length] (S++[.exn c fs]) (λr S'=>S'=S++[.exn c fs]∧∃d,r=.d d∧Q (.d (.tup [dc,d])) (S++[.emp])) λ_ _=>False):wl (pC c fs fld S) Q λ_ _=>False:=by iterate
 unfold wl pC;simp only[l];unfold wm at h;cases q:fld [.ob S.length] (S++[.exn c fs]) with
 |bad=>rw[q] at h;exact h.elim
 |ex y ρ' S'=>rw[q] at h;exact h.elim
 |ok r ρ' S' t=>
  rw[q] at h;obtain⟨rfl,d,rfl,h⟩:=h;have e1:(S++[Sl.exn c fs])[S.length]? = some (.exn c fs):=by simp
  have e2:(S++[Sl.exn c fs]).set S.length .emp=S++[.emp]:=by simp
  simp only[e1,e2];exact h
def lcod(l:List Str):M Rv:=cLst (l.foldr (λx m=>bZ (cC (.str x)) m) cG)
abbrev Sw:List Str:=["InvalidPiece","InvalidRow","InvalidPattern","InvalidRule","InvalidCommand"]
abbrev Sy:List Str:=["UnlikeNames","NotFewer","Unfounded","NoText","NothingLeft"]
abbrev SJ:List Str:=["InvalidReader","UnlikeSymbols","UnknownName"]
abbrev SM:List Str:=["InvalidPage","Full"]
def cdIn(T:Nat->Str->Bool)(l:List Str):M Bool:=cTst (cBin (oIn false) (cXf T "code" (bY 0)) (lcod l))
def cdEq(T:Nat->Str->Bool)(x:Str):M Bool:=cTst (cBin (oEq false) (cXf T "code" (bY 0)) (cC (.str x)))
def SN(T:Nat->Str->Bool):M Fl:=cSeq (cIfS (cdIn T Sw) (cRet (cTup (bZ (cXf T "at" (bY 0)) cG))) cNx)
 (cSeq (cIfS (cdIn T Sy) (cRet (cTup cG)) cNx)
 (cSeq (cIfS (cdIn T SJ) (cRet (cTup (bZ (cXf T "name" (bY 0)) cG))) cNx)
 (cSeq (cIfS (cdIn T SM) (cRet (cIf (cdEq T "InvalidPage") (cTup (bZ (cXf T "line" (bY 0)) cG)) (cTup (bZ (cXf T "limit" (bY 0)) cG)))) cNx)
 (cRet (cIf (cdEq T "TooMany") (cTup (bZ (cXf T "subject" (bY 0)) (bZ (cXf T "most" (bY 0)) cG))) (cTup (bZ (cXf T "given" (bY 0)) cG)))))))
def uY(T:Nat->Str->Bool):List D->List Sl->Res Rv:=defM 1 (SN T)
theorem SQ:∀{l:List Str} {acc:List D->List Sl->List Sl->Prop},acc (l.map .str) ρ S->wp (l.foldr (λx m=>bZ (cC (.str x)) m) cG) ρ S acc E
 |[],_,h=>h
 |x::l,_,h=>qM (wp_C (SQ (l:=l) h))
theorem uZ{l:List Str}{b:Bool}{QB:Bool->List Sl->List Sl->Prop}(e0:nt ρ 0 (.val (.ob j)))(e:nt S j (.exn c fs))(ht:T c "code" = true) (lk:fs.lookup ("code" : Str)=some (.str code)) (hl:l.length≤1000) (ei:oIn false (.str code) (.lst (l.map .str))=some (.d (.bl b))) (h:QB b ρ S):wp (cdIn T l) ρ S QB E:=by
 unfold cdIn lcod;refine qL (qK (Kl (qJ e0 ?_)));refine Km e ht lk ?_;refine uF (SQ ⟨by rw[aj];exact dG hl,?_⟩);symm;exact ig ei ⟨b,rfl,h⟩
theorem zun{x:Str}{b:Bool}{QB:Bool->List Sl->List Sl->Prop}(e0:nt ρ 0 (.val (.ob j)))(e:nt S j (.exn c fs))(ht:T c "code" = true) (lk:fs.lookup ("code" : Str)=some (.str code)) (ei:oEq false (.str code) (.str x)=some (.d (.bl b))) (h:QB b ρ S):wp (cdEq T x) ρ S QB E:=by
 unfold cdEq;refine qL (qK (Kl (qJ e0 ?_)));refine Km e ht lk ?_;refine wp_C ?_;refine qH ?_;refine qH ?_;exact ig ei ⟨b,rfl,h⟩
/-- what is known of a code -/
structure CodeI(code:Str)(b1 b2 b3 b4 bt:Bool):Prop where
  i1:oIn false (.str code) (.lst (Sw.map .str))=some (.d (.bl b1))
  i2:oIn false (.str code) (.lst (Sy.map .str))=some (.d (.bl b2))
  i3:oIn false (.str code) (.lst (SJ.map .str))=some (.d (.bl b3))
  i4:oIn false (.str code) (.lst (SM.map .str))=some (.d (.bl b4))
  it:oEq false (.str code) (.str "TooMany")=some (.d (.bl bt))
section
variable{b2 b3 b4 bt:Bool}{d2:D}
theorem zjM(C:CodeI code false false false false false)(e:nt S j (.exn c fs))(ht:T c "code" = true) (lk:fs.lookup ("code" : Str)=some (.str code)) (ha:T c "given" = true) (la:fs.lookup ("given" : Str)=some d) (h:Q (.d (.tup [d])) S):wm (uY T) [.ob j] S Q E1:=by
 unfold uY SN;apply dM;symm;refine uZ rfl e ht lk (by decide) C.i1 ?_;symm;refine uZ rfl e ht lk (by decide) C.i2 ?_;symm;refine uZ rfl e ht lk (by decide) C.i3 ?_;symm;refine uZ rfl e ht lk (by decide) C.i4 ?_;symm;refine zun rfl e ht lk C.it ?_;symm;refine Kl ?_;symm;refine Km e ha la ?_;symm;exact h
end
theorem zuU{s:Sl}:nt (S++[s]) S.length s:=by show(S++[s])[S.length]? = _;simp
theorem jX{TT:Nat->Bool}(C:CodeI code false false false false false)(hT:TT c=true)(ht:T c "code" = true) (ha:T c "given" = true) (h:Q (.d (.tup [.str code,.tup [d]])) (S++[.emp])):catQ TT (uY T) Q (.own c (excF code ["given"] [d])) S:=
 ⟨c,_,rfl,hT,ztz (dc:=.str code) rfl (zjM C zuU ht rfl ha (d:=d) rfl ⟨rfl,_,rfl,h⟩)⟩
end
end
section
section
variable{α:Type}{ρ S S0 S1 S2 S4:List Sl}{QR:Rv->List Sl->List Sl->Prop}{E:XQ}{Q:Rv->List Sl->Prop}{E1:Exn->List Sl->Prop}{j k c i:Nat}{d:D}{x:Str}{J:CelL}
def exq(J:CelL)(ρ S S1:List Sl):Prop:=jT J ρ S=some S1
def hdq(J:CelL)(S S1:List Sl):Prop:=iK J S=some S1
def rdq(J:CelL)(S ρ:List Sl):Prop:=rdS J S=some ρ
def rsq(J:CelL)(S0 S S1:List Sl):Prop:=ir J S0 S=some S1
theorem zty:exq [] ρ S S:=rfl
theorem zqf(e:nt ρ i (.val d))(e2:nt S j (.rsv x))(e3:st S j (.cel x d) S1)(h:exq J ρ S1 S2):exq ((x,j,i)::J) ρ S S2:=by
 have e:ρ[i]? = _:=e;have e2:S[j]? = _:=e2;obtain⟨_,rfl⟩:=e3;unfold exq;simp only[jT,e,e2,if_true];exact h
theorem zsW:hdq [] S S:=rfl
theorem zqj(e2:nt S j (.cel x d))(e3:st S j (.rsv x) S1)(h:hdq J S1 S2):hdq ((x,j,i)::J) S S2:=by
 have e2:S[j]? = _:=e2;obtain⟨_,rfl⟩:=e3;unfold hdq;simp only[iK,e2,if_true];exact h
theorem zue:rdq [] S []:=rfl
theorem zqC(e2:nt S j (.cel x d))(h:rdq J S ρ):rdq ((x,j,i)::J) S (.val d::ρ):=by
 have e2:S[j]? = _:=e2;have h:rdS J S=_:=h;unfold rdq;simp only[rdS,e2,h,Option.map_some]
theorem zuv:rsq [] S0 S S:=rfl
theorem zq6(e:nt S0 j (.cel x d))(e2:nt S j (.rsv x))(e3:st S j (.cel x d) S1)(h:rsq J S0 S1 S2):rsq ((x,j,i)::J) S0 S S2:=by
 have e:S0[j]? = _:=e;have e2:S[j]? = _:=e2;obtain⟨_,rfl⟩:=e3;unfold rsq;simp only[ir,e,e2,if_true];exact h
theorem zqh{m:List D->List Sl->Res Rv}{n:Nat}{gD:List D->List D->List D}{cs:M (List D)}(h:wp cs ρ S (λds ρ S=>wG (ds.length=n∧0=0) (wX (exq J ρ S) λS1=>wArg (gD ds []) λas=>wm m as S1 (λr S'=>wX (hdq J S') λS2=>QR r ρ S2) (λ_ _=>False))) E):wp (qU J m n gD cs) ρ S QR E:=by iterate
 refine cP (cM h (λds ρ S ⟨e,S1,e1,h⟩=>?_) λ_ _ _ h=>h);have e1:jT J ρ S=some S1:=e1;have h:wm m (gD ds []) S1 _ _:=h;simp only[if_pos e.1,e1];unfold wm at h;cases q:m (gD ds []) S1 with
 |bad=>rw[q] at h;exact h.elim
 |ex y ρ' S'=>rw[q] at h;exact h.elim
 |ok r ρ' S' t=>
  rw[q] at h;obtain⟨S3,e3,h⟩:=h;have e3:iK J S'=some S3:=e3;simp only[e3];exact h
def wNe(r:Rv)(p:Prop):Prop:=(∀i,r≠.env i)∧p
theorem zyj{p:Prop}(h:p):wNe (.d d) p:=⟨ne_d,h⟩
theorem zy2{s:Sl}{p:Prop}(h:p):wNe (.fr s) p:=⟨zy5,h⟩
theorem jY{cb:M Rv}(h:wX (rdq J S) λρ0=>wX (hdq J S) λS2=>wp cb ρ0 S2 (λr _ S'=>wNe r (wX (rsq J S S') λS4=>Q r S4)) (λx _ S'=>wX (rsq J S S') λS4=>E1 x S4)):wl (eG J cb S) Q E1:=by
 obtain⟨ρ0,e1,S2,e2,h⟩:=h;exact zve e1 e2 h
def wTs(m:List D->List Sl->Res Rv):List D->List D->List Sl->(List D->List Sl->Prop)->Prop
 |[],acc,S,P=>P acc S
 |d::ds,acc,S,P=>wm m [d] S (λr S'=>∃x,r=.d x∧wTs m ds (acc++[x]) S' P) λ_ _=>False
theorem u5{m:List D->List Sl->Res Rv}{acc:List D}{P:List D->List Sl->Prop}(h:P acc S):wTs m [] acc S P:=h
theorem jZ{m:List D->List Sl->Res Rv}{acc ds:List D}{P:List D->List Sl->Prop}(h:wm m [d] S (λr S'=>∃x,r=.d x∧wTs m ds (acc++[x]) S' P) λ_ _=>False):wTs m (d::ds) acc S P:=h
abbrev S8(m:List D->List Sl->Res Rv):M Fl:=cRet (cLcO idF (gA (bY 0)) [1] (.nm 1) cYes (cY m 1 0 (λds es=>pick [0] (ds++es)) (bZ (bY 1) cG) cG))
theorem S9{m:List D->List Sl->Res Rv}{s0:Sl}{P:List D->List Sl->Prop}:∀(ds acc:List D) (S:List Sl),acc.length+ds.length≤1000->wTs m ds acc S P->wK [1] (.nm 1) cYes (cY m 1 0 (λds es=>pick [0] (ds++es)) (bZ (bY 1) cG) cG) ds acc [s0,.emp] S λacc _ S=>P acc S
 |[],acc,S,_,h=>Rj h
 |d::ds,acc,S,hl,h=>by
  rw[aG] at hl;refine Rk (ρ1:=[s0,.val d]) (by apply uI;symm) ?_;symm;refine cM h (λr _ S' ⟨x,e,h⟩=>?_) λ_ _ _ h=>h.elim;subst e;symm;have lt:acc.length<sizeLine:=bj (by omega:acc.length<1001) (by decide);refine⟨lt,[s0,.emp],by symm,?_⟩;exact S9 ds (acc++[x]) S' (by rw[List.length_append];simp;omega) h
theorem Ko{m:List D->List Sl->Res Rv}{ds:List D}(hl:ds.length≤1000)(h:wTs m ds [] S λxs S'=>Q (.fr (.lst xs)) S'):wm (defM 2 (S8 m)) [.lst ds] S Q E1:=by
 apply dM;symm;refine cM (S9 (s0:=.val (.lst ds)) ds [] S (by simpa using hl) h) (λacc ρ S' h=>?_) λ_ _ _ h=>h;symm;exact h
end
end
section
/-- C.m is a staticmethod around the def at f -/
structure SMet(K:yF)(C:Addr)(m:Str)(f:Addr):Prop where
  rd:PySem.W.readsIn K C (.type "type")=true
  ga:PySem.W.specialIn K (.ref C) "__getattribute__" = some (some (.builtin "type.__getattribute__"))
  at_:∃p rest,PySem.W.findCls K (.ref C) (.type "type") m=some (.get (.builtin "staticmethod.__get__") (.ref p) .none (.ref C))∧PySem.W.recIn K p "staticmethod" = some (.ref f::rest)
theorem zug{K:yF}{x m:Str}(h:M5 K x m=true):SMet K (He.ga K x) m (wfA "staticmethod" x m K):=by iterate
 obtain⟨h1,h2⟩:=He.ba h;obtain⟨h3,h4⟩:=He.ba h2;refine⟨h1,He.eqO_ok h3,?_⟩;split at h4
 ·rename_i b p C q;obtain⟨h5,h6⟩:=He.ba h4;obtain⟨h7,h8⟩:=He.ba h6;obtain⟨h9,h10⟩:=He.ba h8;have h5:=aR h5;have h7:=aR h7;have h9:=aR h9;subst h5 h7 h9;unfold wfA;cases e:PySem.W.recIn K (He.ma K (He.ga K x) m) "staticmethod" with
  |none=>rw[e] at h10;cases h10
  |some l=>
   rw[e] at h10
   match l,h10 with
   |.ref g::rest,_=>exact⟨_,rest,q,e⟩
 ·cases h4
section
variable{X:Cx}{Γ:Gm}{W:WX}{k n:Nat}{f C:Addr}{fd:FuncData}{ps ks:List Str}{x mn:Str}{p1 pos apos:Pos}{e:Expr}{es:List Expr}{kws:List Keyword}{cs ck:M (List D)}{m:List D->List Sl->Res Rv}{gD:List D->List D->List D}{pl:Sem Bool}
theorem Tc{pins:List (Addr×Obj)}{σ:L2.St}{H:Hp}{s:Shared}{Q:Value×List Value->Shared->Prop}{E:Value->Shared->Prop}{A:Around}(M:SMet X.K C mn f)(I:Inv X pins σ H s)(h:∀s',Inv X pins σ H s'->Q (.ref f,[]) s') :
  wpAny (model X.prog X.w) A (getMethod (.ref C) mn pl) Q E s:=by
 obtain⟨p,rest,h1,h2⟩:=M.at_
 refine PySem.W.method_cls I.kIn M.ga (PySem.W.cls_bind I.kIn M.rd h1 (wpAny_call (PySem.W.sm_get (s:={ s with toks:=s.toks+1 }) I.kIn h2 (PySem.W.handed_on rfl (h _ (I.tok _))))))
end
end
section
def lnq(l:List D)(n:Nat):Prop:=l.length=n
theorem zuG:lnq [] 0:=rfl
theorem zqe{d:D}{l:List D}{n:Nat}(h:lnq l n):lnq (d::l) (n+1):=by
 have h:l.length=n:=h;show(d::l).length=n+1;rw[aG,h]
theorem zwY{l k:List D}{a b:Nat}{q:Prop}(h:lnq l a)(h2:lnq k b)(z:q):wG (l.length=a∧k.length=b) q:=⟨⟨h,h2⟩,z⟩
theorem ztX{l:List D}{a:Nat}{q:Prop}(h:lnq l a)(z:q):wG (l.length=a∧0=0) q:=⟨⟨h,rfl⟩,z⟩
theorem ztS{i:Nat}{a:List D}{ρ ρ' S:List Sl}{QD:D->List Sl->List Sl->Prop}(e:nt ρ i (.lst a))(e2:st ρ i (.val (.lst a)) ρ')(h:QD (.lst a) ρ' S):wF (.env i) ρ S QD:=Rb e rfl e2 h
theorem zx9{xs:List Str}{ρ S S':List Sl}{QF:Fl->List Sl->List Sl->Prop}{E:XQ}(e:S++xs.map .rsv=S')(h:QF .nx ρ S'):wp (cRsv xs) ρ S QF E:=by subst e;exact h
theorem ztg{a b:Str}(h:a.cps.toList=b.cps.toList):a=b:=by
 obtain⟨a⟩:=a;obtain⟨b⟩:=b;exact congrArg Str.mk (Array.toList_inj.mp h)
end
section
structure Sh(p:Prop):Prop where
  out:p
section
variable{ρ ρ' S S':List Sl}{E:XQ}{i j k:Nat}{QR:Rv->List Sl->List Sl->Prop}{QF:Fl->List Sl->List Sl->Prop}{QD:D->List Sl->List Sl->Prop}
theorem zpM{d:D}(e:nt ρ i (.val d))(h:QR (.d d) ρ S):Sh (wp (bY i) ρ S QR E):=⟨qJ e h⟩
theorem zmr{s:Sl}(e:nt ρ i s)(o:s.one=true)(h:QR (.env i) ρ S):Sh (wp (bY i) ρ S QR E):=⟨CG e o h⟩
theorem zm0{c fs}(e:nt ρ i (.ins c fs))(h:QR (.env i) ρ S):Sh (wp (bY i) ρ S QR E):=⟨CJ e h⟩
theorem zqJ{q:Str}(e:nt ρ i (.tab q))(h:QR (.d (.fn k)) ρ S):Sh (wp (cLam k i q) ρ S QR E):=⟨zwv e h⟩
theorem zxq{own:Bool}{d:D}(e:st ρ i (.val d) ρ')(h:QF .nx ρ' S):Sh (wS own i (.d d) ρ S QF):=⟨wS_d e h⟩
theorem znU{a}(e:st ρ i (.val (.lst a)) ρ')(h:QF .nx ρ' S):Sh (wS false i (.fr (.lst a)) ρ S QF):=⟨Cj e h⟩
theorem zqg{s:Sl}(e:st ρ i s ρ')(h:QF .nx ρ' S):Sh (wS true i (.fr s) ρ S QF):=⟨Cg e h⟩
theorem zrz{c fs}(e:st ρ i (.val (.ins c fs)) ρ')(h:QF .nx ρ' S):Sh (wS false i (.fr (.ins c (objF fs))) ρ S QF):=⟨JW e h⟩
theorem zpT{l as:List D}{P:List D->Prop}(e:aq l as)(h:P as):Sh (wArg l P):=⟨Fj e h⟩
theorem zum{Q:List Sl->List Sl->Prop}{s:Sl}(e:st S j s S')(h:Q ρ S'):Sh (wU (.d (.ob j)) s ρ S Q):=⟨uB e h⟩
theorem zrb{Q:List Sl->List Sl->Prop}{s:Sl}(e:st ρ i s ρ')(h:Q ρ' S):Sh (wU (.env i) s ρ S Q):=⟨Cu e h⟩
theorem zqF{s:Sl}(e:nt ρ i s)(o:s.own? = true)(e2:st ρ i .emp ρ')(h:QR (.fr s) ρ' S):Sh (wV (.env i) ρ S QR):=⟨Ce e o e2 h⟩
theorem zmq{n:Nat}{a}(e:pu S (.lst a) n S')(e2:st ρ i (.val (.ob n)) ρ')(h:QF .nx ρ' S'):Sh (wSto i (.fr (.lst a)) ρ S QF):=⟨En e e2 h⟩
theorem zk6{n:Nat}{a}(e:pu S (.lst a) n S')(h:QR (.d (.ob n)) ρ S'):Sh (lG (.fr (.lst a)) ρ S QR):=⟨Ep e h⟩
theorem znt{a:List D}(e:nt ρ i (.lst a))(e2:st ρ i (.val (.lst a)) ρ')(h:QD (.lst a) ρ' S):Sh (wF (.env i) ρ S QD):=⟨ztS e e2 h⟩
end
theorem zzB{x0 x1 x2 x3}(h:wF x0 x1 x2 x3):wF x0 x1 x2 x3:=h
theorem zzk{x0 x1 x2 x3 x4 x5}(h:wS x0 x1 x2 x3 x4 x5):wS x0 x1 x2 x3 x4 x5:=h
theorem zyp{x0 x1 x2}(h:wN x0 x1 x2):wN x0 x1 x2:=h
theorem zsV{x0 x1}(h:wArg x0 x1):wArg x0 x1:=h
theorem zws{x0 x1 x2 x3}(h:wCs x0 x1 x2 x3):wCs x0 x1 x2 x3:=h
theorem zy9{x0 x1}(h:wB x0 x1):wB x0 x1:=h
theorem zyy{x0 x1 x2}(h:wI x0 x1 x2):wI x0 x1 x2:=h
theorem zzu{x0 x1}(h:wG x0 x1):wG x0 x1:=h
theorem zzv{x0 x1 x2 x3}(h:wV x0 x1 x2 x3):wV x0 x1 x2 x3:=h
theorem zte{x0 x1 x2}(h:wEnd x0 x1 x2):wEnd x0 x1 x2:=h
theorem zyI{x0 x1 x2 x3 x4}(h:wJ x0 x1 x2 x3 x4):wJ x0 x1 x2 x3 x4:=h
theorem zyn{x0 x1 x2 x3}(h:wP x0 x1 x2 x3):wP x0 x1 x2 x3:=h
theorem zy6{x0 x1 x2 x3 x4}(h:wU x0 x1 x2 x3 x4):wU x0 x1 x2 x3 x4:=h
theorem zvZ{x0 x1 x2 x3 x4 x5 x6 x7}(h:wLO x0 x1 x2 x3 x4 x5 x6 x7):wLO x0 x1 x2 x3 x4 x5 x6 x7:=h
theorem zxX{x0 x1 x2 x3 x4 x5 x6 x7 x8}(h:wKO x0 x1 x2 x3 x4 x5 x6 x7 x8):wKO x0 x1 x2 x3 x4 x5 x6 x7 x8:=h
theorem zye{a:Type}{x0 x1:a->Prop}(h:wX x0 x1):wX x0 x1:=h
theorem zuH{x0 x1 x2 x3 x4}(h:wSto x0 x1 x2 x3 x4):wSto x0 x1 x2 x3 x4:=h
theorem zqq{x0 x1 x2 x3}(h:lG x0 x1 x2 x3):lG x0 x1 x2 x3:=h
theorem zt9{x0 x1 x2 x3 x4 x5}(h:wPar x0 x1 x2 x3 x4 x5):wPar x0 x1 x2 x3 x4 x5:=h
theorem zrF{x0 x1 x2 x3 x4 x5 x6}(h:uo x0 x1 x2 x3 x4 x5 x6):uo x0 x1 x2 x3 x4 x5 x6:=h
theorem zvr{x0 x1}(h:lkn x0 x1):lkn x0 x1:=h
theorem zy3{x0 x1}(h:wZ x0 x1):wZ x0 x1:=h
theorem zyb{x0 x1 x2 x3 x4 x5 x6 x7}(h:wQ x0 x1 x2 x3 x4 x5 x6 x7):wQ x0 x1 x2 x3 x4 x5 x6 x7:=h
theorem zyx{x0 x1 x2 x3 x4 x5 x6}(h:wW x0 x1 x2 x3 x4 x5 x6):wW x0 x1 x2 x3 x4 x5 x6:=h
theorem zwz{x0 x1}(h:wNe x0 x1):wNe x0 x1:=h
theorem zxk{x0 x1 x2 x3 x4}(h:wTs x0 x1 x2 x3 x4):wTs x0 x1 x2 x3 x4:=h
theorem h_st{x0 x1 x2 x3}(h:st x0 x1 x2 x3):Sh (st x0 x1 x2 x3):=⟨h⟩
theorem h_nt{x0 x1 x2}(h:nt x0 x1 x2):Sh (nt x0 x1 x2):=⟨h⟩
theorem h_aq{x0 x1}(h:aq x0 x1):Sh (aq x0 x1):=⟨h⟩
theorem h_pn{x0 x1 x2}(h:pn x0 x1 x2):Sh (pn x0 x1 x2):=⟨h⟩
theorem h_nd{x0 x1 x2}(h:nd x0 x1 x2):Sh (nd x0 x1 x2):=⟨h⟩
theorem zz3{x0 x1}(h:lnq x0 x1):Sh (lnq x0 x1):=⟨h⟩
theorem h_wq{x0 x1 x2}(h:wq x0 x1 x2):Sh (wq x0 x1 x2):=⟨h⟩
theorem h_tq{x0 x1 x2 x3}(h:tq x0 x1 x2 x3):Sh (tq x0 x1 x2 x3):=⟨h⟩
theorem h_pu{x0 x1 x2 x3}(h:pu x0 x1 x2 x3):Sh (pu x0 x1 x2 x3):=⟨h⟩
theorem h_lk{x0 x1 x2}(h:lk x0 x1 x2):Sh (lk x0 x1 x2):=⟨h⟩
theorem h_ev{x0 x1 x2}(h:ev x0 x1 x2):Sh (ev x0 x1 x2):=⟨h⟩
theorem h_rp{x0 x1}(h:rp x0 x1):Sh (rp x0 x1):=⟨h⟩
theorem zyU{x0 x1 x2 x3}(h:evI x0 x1 x2 x3):Sh (evI x0 x1 x2 x3):=⟨h⟩
theorem zzc{x0 x1 x2 x3}(h:exq x0 x1 x2 x3):Sh (exq x0 x1 x2 x3):=⟨h⟩
theorem zyA{x0 x1 x2}(h:hdq x0 x1 x2):Sh (hdq x0 x1 x2):=⟨h⟩
theorem zzn{x0 x1 x2}(h:rdq x0 x1 x2):Sh (rdq x0 x1 x2):=⟨h⟩
theorem zzp{x0 x1 x2 x3}(h:rsq x0 x1 x2 x3):Sh (rsq x0 x1 x2 x3):=⟨h⟩
end
section
/-- what goes into a slot: own keeps a new thing -/
def fixS(own:Bool)(r:Rv):M Sl:=λρ S=>match own,r with
 |true,.fr s=>.ok s ρ S false
 |_,r=>(toD r ρ S).bind λd ρ S=>.ok (.val d) ρ S false
def zym(o1 o2:Bool)(i j:Nat)(ca cb:M Rv):M Fl:=λρ S=>(ca ρ S).bind λra ρ S=>(fixS o1 ra ρ S).bind λs1 ρ S=>(cb ρ S).bind λrb ρ S=>(fixS o2 rb ρ S).bind λs2 ρ S=>
 if i<ρ.length∧j<ρ.length then .ok .nx ((ρ.set i s1).set j s2) S false else .bad
section
variable{X:Cx}{Γ:Gm}{W:WX}{P:List Nat}{w0 w1:Wd}{σ:L2.St}{ρ S:List Sl}{D:Ends}
/-- a slot's thing,not yet put down -/
def Kr(Γ:Gm)(w0 w:Wd)(s:Sl)(v:V):Prop:=∃c,Own Γ w.R w.F s v c∧Fresh w c∧∀p∈c,w0.H p.1=none∨p.1∈w0.ad
theorem Kr.up{w2:Wd}{s:Sl}{v:V}(x:Ext w1 w2):Kr Γ w0 w1 s v->Kr Γ w0 w2 s v
 |⟨c,o,f,b⟩=>⟨c,Own.up x.gr _ _ _ o,f.up x (Own.nt _ _ _ o),b⟩
end
def wFx(own:Bool)(r:Rv)(ρ S:List Sl)(Q:Sl->List Sl->List Sl->Prop):Prop:=wr (fixS own r ρ S) Q λ_ _ _=>False
section
variable{ρ S:List Sl}{E:XQ}{QS:Sl->List Sl->List Sl->Prop}{QF:Fl->List Sl->List Sl->Prop}
theorem zzm{own:Bool}{d:D}(h:QS (.val d) ρ S):wFx own (.d d) ρ S QS:=by cases own<;>exact h
theorem zud{s:Sl}(h:QS s ρ S):wFx true (.fr s) ρ S QS:=h
theorem zrA{a:List D}(h:QS (.val (.lst a)) ρ S):wFx false (.fr (.lst a)) ρ S QS:=h
theorem zuj{o1 o2:Bool}{i j:Nat}{ca cb:M Rv}(h:wp ca ρ S (λra ρ S=>wFx o1 ra ρ S λs1 ρ S=>wp cb ρ S (λrb ρ S=>wFx o2 rb ρ S λs2 ρ S=>wX (st ρ i s1) λρ1=>wX (st ρ1 j s2) λρ2=>QF .nx ρ2 S) E) E):wp (zym o1 o2 i j ca cb) ρ S QF E:=
 cP (cM h (λ_ _ _ h=>cP (cM (lH h) (λ_ _ _ h=>cP (cM h (λ_ _ _ h=>cP (cM (lH h) (λs2 ρ S h=>by
  obtain⟨ρ1,⟨l1,rfl⟩,ρ2,⟨l2,rfl⟩,h⟩:=h;rw[bM] at l2;simp only[l1,l2,and_self,if_true];exact h) λ_ _ _ h=>h)) λ_ _ _ h=>h)) λ_ _ _ h=>h)) λ_ _ _ h=>h)
theorem zx5{x0 x1 x2 x3 x4}(h:wFx x0 x1 x2 x3 x4):wFx x0 x1 x2 x3 x4:=h
end
end
section
def zyc:D->Option (Key×D)
 |.tup [k,v]=>(keyD k).map λk=>(k,v)
 |_=>none
def Td:List D->Option (List (Key×D))
 |[]=>some []
 |x::xs=>match zyc x,Td xs with
  |some p,some ps=>some (p::ps)
  |_,_=>none
def merD(kvs more:List (Key×D)):List (Key×D):=more.foldl (λacc kv=>puk acc kv.1 kv.2) kvs
def zyN:List D->Option Rv
 |[.lst ps]=>(Td ps).map λkvs=>.fr (.dK (merD [] kvs))
 |_=>none
section
variable{ρ ρ' S:List Sl}{i:Nat}{QF:Fl->List Sl->List Sl->Prop}
theorem zrv{a}(e:st ρ i (.val (.dK a)) ρ')(h:QF .nx ρ' S):Sh (wS false i (.fr (.dK a)) ρ S QF):=⟨Ci rfl e h⟩
end
end
section
def datE(d:D):PyData:=(dat d).getD .none
def tupB:PyData->Bool
 |.tuple (_::_)=>true
 |_=>false
def othB:PyData->Bool
 |.none=>false
 |.tuple _=>false
 |_=>true
def j5(ps:List PyData):Bool:=(ps.all λd=>ps.all λd'=>PySem.W.alike d d') && (ps.all tupB ||ps.all othB) && ps.all (λd=>decide (d.depth≤60)) && decide (ps.length≤sizeLine)
def srtD(xs:List D):List D:=xs.mergeSort (PySem.W.dataLe false datE)
def lL:List D->Option Rv
 |[.lst xs]=>match datL xs with
  |some ps=>if j5 ps=true then some (.fr (.lst (srtD xs))) else none
  |none=>none
 |_=>none
abbrev Tf(K:yF):List V->Hp->VK->Prop:=λvs H Q=>∃(a:Addr) (xs:List (V×PyData)),vs=[.ref a]∧SqL K H a (xs.map (·.1))∧(∀x∈xs,Dp K H x.1 x.2)∧j5 (xs.map (·.2))=true ∧
 ∀p,H p=none->Q (.ref p) (upd H p (.lst ((xs.mergeSort (PySem.W.dataLe false (·.2))).map (·.1))))
theorem zrt{ps:List PyData}(h:j5 ps=true):PySem.W.AllAlike ps∧PySem.W.Sortable ps∧(∀d∈ps,d.depth≤60)∧ps.length≤sizeLine:=by iterate
 unfold j5 at h;rw[bD,bD,bD,Bool.or_eq_true,bJ,bJ,bJ,bJ,decide_eq_true_eq] at h;obtain⟨⟨⟨h1,h2⟩,h3⟩,h4⟩:=h;refine⟨λd hd d' hd'=>bJ.mp (h1 d hd) d' hd',?_,λd hd=>aR (h3 d hd),h4⟩;rcases h2 with h2|h2
 ·refine .inl λd hd=>?_;have z:=h2 d hd;unfold tupB at z;split at z
  ·exact⟨_,_,rfl⟩
  ·cases z
 ·refine .inr λd hd=>?_;have z:=h2 d hd;unfold othB at z;split at z
  ·cases z
  ·cases z
  ·rename_i n1 n2;exact⟨n1,n2⟩
section
variable{X:Cx}
theorem Tg:∀{xs:List (V×PyData)} {us:List Value},Vals (xs.map (·.1)) us->PySem.W.EachIs (λu (b:V×PyData)=>RelV b.1 u) us xs
 |[],_,h=>by cases h;exact .nil
 |_::_,_,h=>by
  rw[ak] at h;cases h with
  |cons r t=>exact .cons r (Tg t)
theorem Th:∀{xs:List (V×PyData)} {us:List Value},PySem.W.EachIs (λu (b:V×PyData)=>RelV b.1 u) us xs->Vals (xs.map (·.1)) us
 |[],_,h=>by cases h;exact .nil
 |_::_,_,h=>by
  cases h with
  |cons r t=>exact .cons r (Th t)
theorem Tj{pins:List (Addr×Obj)}{σ:L2.St}{H:Hp}{s:Shared}(I:Inv X pins σ H s):∀{xs:List (V×PyData)} {us:List Value},(∀x∈xs,Dp X.K H x.1 x.2)->Vals (xs.map (·.1)) us->PySem.W.EachIs (λu (b:V×PyData)=>∃as,Reads s.heap u b.2 as) us xs
 |[],_,_,h=>by cases h;exact .nil
 |x::_,_,d,h=>by
  rw[ak] at h;cases h with
  |cons r t=>exact .cons (Dp.reads I _ _ _ (d x (bK ..)) r) (Tj I (λy hy=>d y (bL _ hy)) t)
theorem zqX(hu:X.A.units+64<cLine):CallR X (.builtin "sorted") (Tf X.K):=by iterate
 intro pins s σ H vs us Q I r h;obtain⟨a,xs,rfl,hs,hd,ok,q⟩:=h;obtain⟨its,rv,hl,hz⟩:=I.list hs;obtain⟨k1,k2,k3,k4⟩:=zrt ok;rw[Vals.ref1 r];rw[aj] at hz;refine PySem.W.sorted_data (vs:=its) (bs:=xs) (enc:=(·.2)) (R:=λu b=>RelV b.1 u) hl.isList (Tg rv) (Tj I hd rv) k1 k2 hz (λb hb=>?_) λout lo eo=>?_
 ·have z:=k3 b.2 (bf hb);omega
 obtain⟨ep,he'⟩:=PyProof.Rows.sortedAll_at s.heap its out.toArray;have hlen:((xs.mergeSort (PySem.W.dataLe false (·.2))).map (·.1)).length≤sizeLine:=by rw[aj,List.length_mergeSort];exact hz
 exact⟨.ref _,upd H (s.heap.objs.size+1) (.lst ((xs.mergeSort (PySem.W.dataLe false (·.2))).map (·.1))),I.laid (t':=s.toks) (λ_ _=>PyProof.Rows.sortedAll_old) (Nat.le_succ _) ⟨hlen,out,ep,Th eo,he'⟩,rfl,q _ (I.hok.fresh (Nat.le_succ _))⟩
end
section
variable{Γ:Gm}{w:Wd}
/-- data,values and readings side by side -/
theorem zip3(g:Good w):∀{xs:List D} {ys:List V} {ps:List PyData},datL xs=some ps->RepL Γ w.R w.F xs ys->
  ∃zs:List (D×V×PyData),zs.map (·.1)=xs∧zs.map (·.2.1)=ys∧zs.map (·.2.2)=ps∧∀z∈zs,Rep Γ w.R w.F z.1 z.2.1∧dat z.1=some z.2.2∧Dp Γ.K w.H z.2.1 z.2.2
 |[],ys,ps,e,l=>by
  rw[datL] at e;cases e;rw[RepL] at l;subst l;exact⟨[],rfl,rfl,rfl,λ_ h=>nomatch h⟩
 |x::xs,ys,ps,e,l=>by
  rw[RepL] at l;obtain⟨y,ys',rfl,h,l⟩:=l;rw[datL] at e;split at e
  ·rename_i p ps' e1 e2;cases e;obtain⟨zs,rfl,rfl,rfl,hz⟩:=zip3 g e2 l;refine⟨(x,y,p)::zs,rfl,rfl,rfl,λz hm=>?_⟩;rcases au.mp hm with e|hm
   ·subst e;exact⟨h,e1,Rep.dp g x y p e1 h⟩
   ·exact hz z hm
  ·cases e
theorem Tn{R:List Addr}{F:Hp}:∀{zs:List (D×V×PyData)},(∀z∈zs,Rep Γ R F z.1 z.2.1)->RepL Γ R F (zs.map (·.1)) (zs.map (·.2.1))
 |[],_=>xJ
 |z::zs,h=>xK (h z (bK ..)) (Tn λy hy=>h y (bL _ hy))
theorem zr4:dZ Γ lL (Tf Γ.K):=by iterate
 intro w vs ds Q gd t q
 match ds,q with
 |[.lst xs],q=>
  obtain⟨v,rfl,a,ys,rfl,h,l⟩:=eY t;cases e:datL xs with
  |none=>simp only[lL,e] at q;exact q.elim
  |some ps=>
   simp only[lL,e] at q
   by_cases ok:j5 ps=true
   ·rw[if_pos ok] at q;obtain⟨zs,rfl,rfl,rfl,hz⟩:=zip3 gd e l;have e1:(zs.map (·.2)).map (·.1)=zs.map (·.2.1):=aH;have e2:(zs.map (·.2)).map (·.2)=zs.map (·.2.2):=aH;refine⟨a,zs.map (·.2),rfl,by rw[e1];exact SqL.of h,λx hx=>?_,by rw[e2];exact ok,λp hp=>?_⟩
    ·obtain⟨z,hm,rfl⟩:=ao.mp hx;exact(hz z hm).2.2
    ·have s1:(zs.mergeSort (PySem.W.dataLe false (·.2.2))).map (·.2)=(zs.map (·.2)).mergeSort (PySem.W.dataLe false (·.2)):=PySem.W.sort_maps _ λ_ _ _ _=>rfl;have s2:(zs.mergeSort (PySem.W.dataLe false (·.2.2))).map (·.1)=srtD (zs.map (·.1)):=PySem.W.sort_maps _ λx hx y hy=>by
      have ex:datE x.1=x.2.2:=by unfold datE;rw[(hz x hx).2.1];rfl
      have ey:datE y.1=y.2.2:=by unfold datE;rw[(hz y hy).2.1];rfl
      rw[PySem.W.dataLe_eq,PySem.W.dataLe_eq];show cond false _ _=cond false _ _;rw[ex,ey]
     rw[<-s1,aH];exact q.fr gd hp (λps z=>nomatch z) (by
      rw[Own];refine⟨p,_,rfl,?_,rfl⟩;rw[<-s2];exact Tn λz hm=>(hz z (List.mem_mergeSort.mp hm)).1)
   ·rw[if_neg ok] at q;exact q.elim
end
def prsK:List D->Option (List (Key×D))
 |[]=>some []
 |[_]=>none
 |k::v::r=>match keyD k,prsK r with
  |some k,some ps=>some ((k,v)::ps)
  |_,_=>none
def zwg(ck cv:M Rv)(cs:M (List D)):M (List D):=λρ S=>(cD ck ρ S).bind λd ρ S=>(cD cv ρ S).bind λe ρ S=>(cs ρ S).bind λds ρ S=>.ok (d::e::ds) ρ S false
def zyq(cs:M (List D)):M Rv:=λρ S=>(cs ρ S).bind λds ρ S=>match prsK ds with
 |some kvs=>if kvs.length≤15 then .ok (.fr (.dK (merD [] kvs))) ρ S false else .bad
 |none=>.bad
section
variable{X:Cx}{Γ:Gm}{W:WX}{w:Wd}{pos:Pos}{k v:Expr}{ks:List (Option Expr)}{vs:List Expr}{ck cv:M Rv}{cs:M (List D)}
/-- {} -/
def zzg:M Rv:=λρ S=>.ok (.fr (.dK [])) ρ S false
def zww:M Rv:=λρ S=>.ok (.fr (.dT [])) ρ S false
end
def isDk:D->Bool
 |.dK _=>true
 |.dT _=>true
 |.lt _=>true
 |_=>false
def Ks(co ck cx:M Rv):M Rv:=λρ S=>(co ρ S).bind λro ρ S=>match cont ρ S ro with
 |some d0=>if isDk d0=true then(cD ck ρ S).bind λk ρ S=>(cD cx ρ S).bind λx ρ S=>match cont ρ S ro with
  |some d=>lift ((dGet d k).map λo=>.d (o.getD x)) ρ S
  |none=>.bad else .bad
 |none=>.bad
def zyL(co ck:M Rv):M Rv:=λρ S=>(co ρ S).bind λro ρ S=>match cont ρ S ro with
 |some d0=>if isDk d0=true then(cD ck ρ S).bind λk ρ S=>match cont ρ S ro with
  |some d=>lift ((dGet d k).map λo=>.d (o.getD .non)) ρ S
  |none=>.bad else .bad
 |none=>.bad
section
variable{X:Cx}{Γ:Gm}{W:WX}{w:Wd}{o e f:Expr}{co ck cx:M Rv}{apos cpos:Pos}
theorem ztZ{d:D}{v:V}(g:Good w)(h:isDk d=true)(t:Top Γ w d v):∃a,v=.ref a∧IsD w.H a:=by
 cases d with
 |dK kvs=>obtain⟨a,ys,rfl,h,_⟩:=t;exact⟨a,rfl,.inl ⟨ys,.inl h⟩⟩
 |dT kvs=>obtain⟨a,ys,rfl,h,_⟩:=t;exact⟨a,rfl,.inr ⟨ys,.inl h⟩⟩
 |lt kvs=>have t:Rep Γ w.R w.F (.lt kvs) v:=t;rw[Rep] at t;obtain⟨a,o,ys,rfl,h,_⟩:=t;exact⟨a,rfl,.inr ⟨ys,.inr ⟨o,g.sub _ _ h⟩⟩⟩
 |_=>cases h
theorem zo0{R:List Addr}{F:Hp}{a:Option D}{b:Option V}{d:D}{v:V}(h:RepO Γ R F a b)(k:Rep Γ R F d v):Rep Γ R F (a.getD d) (b.getD v):=by
 cases a with
 |none=>
  cases b with
  |none=>exact k
  |some y=>exact h.elim
 |some x=>
  cases b with
  |none=>exact h.elim
  |some y=>exact h
theorem zux(hu:X.A.units+1<cLine)(ho:PE X o (tM Γ W co))(he:PE X e (tM Γ W ck))(hf:PE X f (tM Γ W cx))(m:M2 X o "get" apos e f cpos):PE X (.Call (.Attribute o "get" apos) [e,f] [] cpos) (tM Γ W (Ks co ck cx)):=
 (pe_dget2 hu ho he hf m).imp λσ H Q ⟨F,E,C,R,ρ,S,rel,c0⟩=>⟨F,E,C,R,ρ,S,rel,CK.bind c0 λro ρ1 S1 w1 v1 x1 rel1 o1 c1=>by iterate
  cases e1:cont ρ1 S1 ro with
  |none=>simp only[e1] at c1;exact c1.elim
  |some d0=>
   simp only[e1] at c1;split at c1
   ·rename_i hd;obtain⟨a,ev,isd⟩:=ztZ rel1.good hd (rel1.top o1 e1);refine⟨a,ev,isd,w1.F,w1.E,w1.C,w1.R,ρ1,S1,rel1,CK.datum c1 λk ρ2 S2 w2 v2 x2 rel2 o2 c2=>⟨w2.F,w2.E,w2.C,w2.R,ρ2,S2,rel2,CK.datum c2 λx ρ3 S3 w3 v3 x3 rel3 o3 c3=>?_⟩⟩;cases e2:cont ρ3 S3 ro with
    |none=>simp only[e2] at c3;exact c3.elim
    |some d=>
     simp only[e2] at c3;cases e3:dGet d k with
     |none=>simp only[e3] at c3;exact c3.elim
     |some z=>
      simp only[e3] at c3;obtain⟨a',z',ev',dg,ro'⟩:=wu rel3.good e3 (rel3.top ((o1.up x2).up x3) e2) (Rep.top rel3.good (Rep.up x3.gr _ _ o2));rw[ev] at ev';cases ev';exact⟨z',dg,(CK.prim (o:=some (.d (z.getD x))) rel3 c3).d rel3.good (zo0 ro' o3)⟩
   ·exact c1.elim⟩
def Tp(kvs:List (Key×D)):List D:=kvs.map λkv=>.tup [keyV kv.1,kv.2]
def zwB(co:M Rv):M Rv:=λρ S=>(co ρ S).bind λro ρ S=>match cont ρ S ro with
 |some (.dK kvs)=>.ok (.fr (.lst (Tp kvs))) ρ S false
 |_=>.bad
end
section
variable{ρ S:List Sl}{QR:Rv->List Sl->List Sl->Prop}{QL:List D->List Sl->List Sl->Prop}{E:XQ}{P:Rv->Prop}
theorem zlZ{kvs:List (Key×D)}(h:P (.fr (.lst (kvs.map λkv=>keyV kv.1)))):wO (fK [.dK kvs]) P:=⟨_,rfl,h⟩
theorem znf{xs:List D}{ps:List PyData}(e:datL xs=some ps)(k:j5 ps=true)(h:P (.fr (.lst (srtD xs)))):wO (lL [.lst xs]) P:=⟨_,by simp only[lL,e,if_pos k],h⟩
theorem zrl{ck cv:M Rv}{cs:M (List D)}(h:wp ck ρ S (λr ρ S=>wF r ρ S λd ρ S=>wp cv ρ S (λr ρ S=>wF r ρ S λe ρ S=>wp cs ρ S (λds ρ S=>QL (d::e::ds) ρ S) E) E) E):wp (zwg ck cv cs) ρ S QL E:=
 cP (cM (wp_D h) (λ_ _ _ h=>cP (cM (wp_D h) (λ_ _ _ h=>cP (cM h (λ_ _ _ h=>h) λ_ _ _ h=>h)) λ_ _ _ h=>h)) λ_ _ _ h=>h)
theorem ztD{cs:M (List D)}(h:wp cs ρ S (λds ρ S=>wO (prsK ds) λkvs=>wG (kvs.length≤15) (QR (.fr (.dK (merD [] kvs))) ρ S)) E):wp (zyq cs) ρ S QR E:=
 cP (cM h (λ_ _ _ ⟨kvs,e,l,h⟩=>by simp only[e,if_pos l];exact h) λ_ _ _ h=>h)
theorem zt7(h:QR (.fr (.dK [])) ρ S):wp zzg ρ S QR E:=h
theorem zrp(h:QR (.fr (.dT [])) ρ S):wp zww ρ S QR E:=h
theorem zuM{co ck cx:M Rv}(h:wp co ρ S (λro ρ S=>wC ro ρ S λd0=>wG (isDk d0=true) (wp ck ρ S (λr ρ S=>wF r ρ S λk ρ S=>wp cx ρ S (λr ρ S=>wF r ρ S λx ρ S=>wC ro ρ S λd=>wO (dGet d k) λo=>QR (.d (o.getD x)) ρ S) E) E)) E):wp (Ks co ck cx) ρ S QR E:=
 cP (cM h (λ_ _ _ ⟨d0,e,l,h⟩=>by
  simp only[e,if_pos l];exact cP (cM (wp_D h) (λ_ _ _ h=>cP (cM (wp_D h) (λ_ _ _ ⟨d,e2,o,e3,h⟩=>by simp only[e2,e3];exact h) λ_ _ _ h=>h)) λ_ _ _ h=>h)) λ_ _ _ h=>h)
theorem ztU{co ck:M Rv}(h:wp co ρ S (λro ρ S=>wC ro ρ S λd0=>wG (isDk d0=true) (wp ck ρ S (λr ρ S=>wF r ρ S λk ρ S=>wC ro ρ S λd=>wO (dGet d k) λo=>QR (.d (o.getD .non)) ρ S) E)) E):wp (zyL co ck) ρ S QR E:=
 cP (cM h (λ_ _ _ ⟨d0,e,l,h⟩=>by
  simp only[e,if_pos l];exact cP (cM (wp_D h) (λ_ _ _ ⟨d,e2,o,e3,h⟩=>by simp only[e2,e3];exact h) λ_ _ _ h=>h)) λ_ _ _ h=>h)
def itmO:D->Option (List (Key×D))
 |.dK kvs=>some kvs
 |_=>none
theorem zwj{kvs:List (Key×D)}{P:List (Key×D)->Prop}(h:P kvs):wO (itmO (.dK kvs)) P:=⟨_,rfl,h⟩
theorem wp_items{co:M Rv}(h:wp co ρ S (λro ρ S=>wC ro ρ S λd=>wO (itmO d) λkvs=>QR (.fr (.lst (Tp kvs))) ρ S) E):wp (zwB co) ρ S QR E:=
 cP (cM h (λ_ _ _ ⟨d,e,kvs,e2,h⟩=>by
  unfold itmO at e2;split at e2
  ·cases e2;simp only[e];exact h
  ·cases e2) λ_ _ _ h=>h)
theorem zwd{a:List (Key×D)}{PD:D->Prop}(h:PD (.dK a)):wC (.fr (.dK a)) ρ S PD:=⟨_,rfl,h⟩
theorem zvL{a:List (Key×D)}{QD:D->List Sl->List Sl->Prop}(h:QD (.dK a) ρ S):wF (.fr (.dK a)) ρ S QD:=Ra rfl h
theorem zyJ{kvs:List (Key×D)}{q:Prop}(h:q):wG (isDk (.dK kvs)=true) q:=⟨rfl,h⟩
theorem zxD{kvs:List (Key×D)}{x:Str}{P:Option D->Prop}(h:P (luk kvs (.inr x:Key))):wO (dGet (.dK kvs) (.str x)) P:=⟨_,rfl,h⟩
theorem zxT{kvs:List (Key×D)}{x:Int}{P:Option D->Prop}(h:P (luk kvs (.inl x:Key))):wO (dGet (.dK kvs) (.int x)) P:=⟨_,rfl,h⟩
end
end
section
def zuZ:List D->Option Rv
 |[.dK kvs]=>some (.fr (.dK kvs))
 |_=>none
def zwa:List D->Option Rv:=λds=>(zyN ds).or (zuZ ds)
def zz1(co:M Rv):M Rv:=λρ S=>(co ρ S).bind λro ρ S=>match cont ρ S ro with
 |some (.dK kvs)=>.ok (.fr (.lst (kvs.map (·.2)))) ρ S false
 |_=>.bad
def qW(vs:List Nat)(g:Tgt)(t:M Bool)(ck cv:M Rv):List D->List (Key×D)->M (List (Key×D))
 |[],acc=>λρ S=>.ok acc ρ S false
 |d::ds,acc=>λρ S=>match eX g d ρ with
  |none=>.bad
  |some ρ1=>match t ρ1 S with
   |.ok true ρ2 S2 _=>(match cD ck ρ2 S2 with
    |.ok dk ρ3 S3 _=>(match cD cv ρ3 S3 with
     |.ok dv ρ4 S4 _=>(match keyD dk with
      |some k=>if acc.length<sizeLine then qW vs g t ck cv ds (puk acc k dv) (dC ρ4 vs) S4 else .bad
      |none=>.bad)
     |_=>.bad)
    |_=>.bad)
   |.ok false ρ2 S2 _=>qW vs g t ck cv ds acc (dC ρ2 vs) S2
   |_=>.bad
def cDc(ci:M (List D))(vs:List Nat)(g:Tgt)(t:M Bool)(ck cv:M Rv):M Rv:=λρ S=>match ci ρ S with
 |.ok ds ρ1 S1 _=>(match qW vs g t ck cv ds [] (dC ρ1 vs) S1 with
  |.ok acc ρ2 S2 _=>.ok (.fr (.dK acc)) ρ2 S2 true
  |_=>.bad)
 |.ex x ρ1 S1=>.ex x ρ1 S1
 |.bad=>.bad
section
variable{ρ ρ' S S':List Sl}{QR:Rv->List Sl->List Sl->Prop}{QK:List (Key×D)->List Sl->List Sl->Prop}{E:XQ}{P:Rv->Prop}{vs:List Nat}{g:Tgt}{t:M Bool}{ck cv:M Rv}{ds:List D}{acc:List (Key×D)}{d:D}
theorem zmG{kvs:List (Key×D)}(h:P (.fr (.dK kvs))):wO (zwa [.dK kvs]) P:=⟨_,rfl,h⟩
theorem zto{co:M Rv}(h:wp co ρ S (λro ρ S=>wC ro ρ S λd=>wO (itmO d) λkvs=>QR (.fr (.lst (kvs.map (·.2)))) ρ S) E):wp (zz1 co) ρ S QR E:=
 cP (cM h (λ_ _ _ ⟨d,e,kvs,e2,h⟩=>by
  unfold itmO at e2;split at e2
  ·cases e2;simp only[e];exact h
  ·cases e2) λ_ _ _ h=>h)
def wKD(vs:List Nat)(g:Tgt)(t:M Bool)(ck cv:M Rv)(ds:List D)(acc:List (Key×D))(ρ S:List Sl)(Q:List (Key×D)->List Sl->List Sl->Prop):Prop:=wr (qW vs g t ck cv ds acc ρ S) Q λ_ _ _=>False
theorem zz0{ci:M (List D)}(h:wp ci ρ S (λds ρ S=>wX (wq ρ vs) λρ'=>wKD vs g t ck cv ds [] ρ' S λacc ρ S=>QR (.fr (.dK acc)) ρ S) E):wp (cDc ci vs g t ck cv) ρ S QR E:=by iterate
 unfold wp cDc at *;cases q:ci ρ S with
 |ok f ρ1 S1 t1=>
  rw[q] at h;obtain⟨ρ',e,h⟩:=h;have e:dC ρ1 vs=ρ':=e;subst e;unfold wKD at h;simp only[];cases q2:qW vs g t ck cv f [] (dC ρ1 vs) S1 with
  |ok acc ρ2 S2 t2=>rw[q2] at h;exact h
  |ex x ρ S=>rw[q2] at h;exact h.elim
  |bad=>rw[q2] at h;exact h.elim
 |ex x ρ S=>rw[q] at h;exact h
 |bad=>rw[q] at h;exact h
end
section
variable{ρ ρ' ρ1 S:List Sl}{i j:Nat}{QD:D->List Sl->List Sl->Prop}{QF:Fl->List Sl->List Sl->Prop}
theorem znW{a:List (Key×D)}(e:nt ρ i (.dK a))(e2:st ρ i (.val (.dK a)) ρ')(h:QD (.dK a) ρ' S):Sh (wF (.env i) ρ S QD):=⟨Rb e rfl e2 h⟩
theorem zpn{own:Bool}{a:List (Key×D)}(e0:nt ρ j (.dK a))(e1:st ρ j (.val (.dK a)) ρ1)(e:st ρ1 i (.val (.dK a)) ρ')(h:QF .nx ρ' S):Sh (wS own i (.env j) ρ S QF):=⟨Rc e0 rfl e1 e h⟩
theorem znr{own:Bool}{a:List D}(e0:nt ρ j (.lst a))(e1:st ρ j (.val (.lst a)) ρ1)(e:st ρ1 i (.val (.lst a)) ρ')(h:QF .nx ρ' S):Sh (wS own i (.env j) ρ S QF):=⟨Rc e0 rfl e1 e h⟩
end
theorem zza{z:List (Key×D)}:tyS "dict" (.dK z)=true:=by simp[tyS]
theorem zyZ{z:List (List Key×D)}:tyS "dict" (.dT z)=true:=by simp[tyS]
theorem zpb{xs:List (Key×D)}{P:Rv->Prop}(h:P (.d (.int xs.length))):wO (gLen [.dK xs]) P:=⟨_,rfl,h⟩
theorem zpN{xs:List (List Key×D)}{P:Rv->Prop}(h:P (.d (.int xs.length))):wO (gLen [.dT xs]) P:=⟨_,rfl,h⟩
end
section
def XB.nm:XB->String
 |.ve=>"ValueError"
 |.le=>"LookupError"
 |.ie=>"IndexError"
end
section
def revS(z:Str):Str:=⟨z.cps.toList.reverse.toArray⟩
section
variable{X:Cx}{Γ:Gm}{W:WX}
def oRev:D->Option Rv
 |.lst xs=>some (.fr (.lst xs.reverse))
 |.kl xs=>some (.fr (.lst xs.reverse))
 |.str z=>if z.length≤sizeLine then some (.d (.str (revS z))) else none
 |_=>none
theorem RepL.snoc{R:List Addr}{F:Hp}:∀{xs:List D} {ys:List V} {x:D} {y:V},RepL Γ R F xs ys->Rep Γ R F x y->RepL Γ R F (xs++[x]) (ys++[y])
 |[],ys,x,y,h,q=>by
  rw[RepL] at h;subst h;rw[aM,aM,RepL];exact⟨y,[],rfl,q,by rw[RepL]⟩
 |a::xs,ys,x,y,h,q=>by
  rw[RepL] at h;obtain⟨b,r,e,p,l⟩:=h;subst e;rw[bQ,bQ,RepL];exact⟨b,r++[y],rfl,p,RepL.snoc l q⟩
def cRev(c:M Rv):M Rv:=λρ S=>(c ρ S).bind λr ρ S=>match cont ρ S r with
 |some d=>lift (oRev d) ρ S
 |none=>.bad
variable{ρ S:List Sl}{E:XQ}{QR:Rv->List Sl->List Sl->Prop}{P:Rv->Prop}
theorem zvq{c:M Rv}(h:wp c ρ S (λr ρ S=>wC r ρ S λd=>wO (oRev d) λr=>QR r ρ S) E):wp (cRev c) ρ S QR E:=
 cP (cM h (λ_ _ _ ⟨d,e,h⟩=>by simp only[e];exact uG h) λ_ _ _ h=>h)
theorem zmB{xs:List D}(h:P (.fr (.lst xs.reverse))):wO (oRev (.lst xs)) P:=⟨_,rfl,h⟩
theorem zq4{xs:List D}(h:P (.fr (.lst xs.reverse))):wO (oRev (.kl xs)) P:=⟨_,rfl,h⟩
end
end
section
section
variable{X:Cx}{Γ:Gm}{w:Wd}
theorem RepK.len{R:List Addr}{F:Hp}:∀{xs:List (Key×D)} {ys:List (Key×V)},RepK Γ R F xs ys->xs.length=ys.length
 |[],ys,h=>by rw[RepK] at h;subst h;rfl
 |(k,x)::xs,ys,h=>by
  rw[RepK] at h;obtain⟨y,r,e,_,l⟩:=h;subst e;rw[aG,aG,RepK.len l]
end
end
section
/-- the lambda's env sees these names -/
def Sees(env:Env)(ν:List (Str×V))(h:Heap):Prop:=∃m,h.Ns env.locals m∧∀x y,ν.lookup x=some y->∃u,RelV y u∧Look env h m x u
end
section
section
variable{X:Cx}{Γ:Gm}{W:WX}{P:List Nat}{cc Dc g:Addr}{sf m:Str}{body:List Stmt}{p0 p1 apos pos pos2:Pos}{e:Expr}{es:List Expr}{rest:List Stmt}{k n c np:Nat}{fd:FuncData}{ps:List Str}{mm:List D->List Sl->Res Rv}{cs:M (List D)}{cr:M Fl}{pl:Sem Bool}
theorem CKl.mono{w:Wd}{σ:L2.St}{Q Q':List V->Hp->Prop}{r:Res (List D)}(h:CKl Γ W w σ Q r)(k:∀vs H,Q vs H->Q' vs H):CKl Γ W w σ Q' r:=by
 cases r with
 |ok ds ρ S t=>exact λw' vs a b c d=>k _ _ (h w' vs a b c d)
 |ex y ρ S=>exact h
 |bad=>exact h
end
end
section
/-- a def's parts,its cells aside -/
def fnZ(K:yF)(a:Addr):He.FnW:=match K.lookup a with
 |some ⟨_,_,.func fd,_⟩=>some (fd.name,fd.qualname,fd.params,fd.body,fd.scope,fd.globals,[],fd.builtins)
 |_=>none
structure DefQ where
  at_:yF->Addr
  name:Str
  qual:Str
  params:Arguments
  body:List Stmt
  scope:Scope
def DefQ.val(d:DefQ):He.FnW:=some (d.name,d.qual,d.params,.stmts d.body,d.scope,mainGlobals,[],builtinsNs)
def Tq(sn:List DefQ)(K:yF):Prop:=sn.map (λd=>fnZ K (d.at_ K))=sn.map DefQ.val
theorem Tq.fn{sn:List DefQ}{K:yF}(c:Tq sn K)(i:Nat){d:DefQ}(h:sn[i]? = some d):fnZ K (d.at_ K)=d.val:=by
 have z:=congrArg (λl=>l[i]?) c;simp only[List.getElem?_map,h,Option.map_some] at z;exact aZ z
end
section
theorem Sees.kept{env:Env}{ν:List (Str×V)}{h h':Heap}(sv:Sees env ν h)(kp:∀b o,h.get? b=some o->h'.get? b=some o):Sees env ν h':=by
 obtain⟨m,hn,hl⟩:=sv;refine⟨m,hn.keeps kp,λx y e=>?_⟩;obtain⟨u,r,l⟩:=hl x y e;refine⟨u,r,?_⟩;rcases l with l|⟨l1,c,l2,⟨o,l3,l4⟩⟩
 ·exact .inl l
 ·exact .inr ⟨l1,c,l2,⟨o,kp _ _ l3,l4⟩⟩
end
section
theorem ztf{o:Option (Option Value)}(h:refO o=true):∃rc,o=some rc∧(rc=none∨∃g:Addr,rc=some (.ref g)):=by
 unfold refO at h;split at h
 ·exact⟨_,rfl,.inl rfl⟩
 ·exact⟨_,rfl,.inr ⟨_,rfl⟩⟩
 ·cases h
end
section
section
variable{X:Cx}{Γ:Gm}{W:WX}{P:List Nat}{x:Str}{p pos apos spos npos:Pos}{a b e o:Expr}{es:List Expr}{kws:List Keyword}{c ca cb co:M Rv}{cs ck:M (List D)}{cr:M (List Rv)}{m:List D->List Sl->Res Rv}{gD:List D->List D->List D}{k n z i:Nat}{f:Addr}{fd:FuncData}{ps:List Str}
theorem nA(i:Nat){x:Str}{pos:Pos}(hN:X.N[i]? = some x:=by exact rfl)(hv:X.env.scope.names.lookup x=some .local:=by exact rfl)(hd:(x == ("__debug__" : Str))=false:=by decide) (hcd:(x == ("__classdict__" : Str))=false:=by decide):PE X (.Name x pos) (tM Γ W (bY i)):=cI i hN (.inl hv) hd hcd
theorem nB(i:Nat){x:Str}{pos:Pos}(hN:X.N[i]? = some x:=by exact rfl)(hv:X.env.scope.names.lookup x=some .cell:=by exact rfl)(hd:(x == ("__debug__" : Str))=false:=by decide) (hcd:(x == ("__classdict__" : Str))=false:=by decide):PE X (.Name x pos) (tM Γ W (bY i)):=cI i hN (.inr (.inl hv)) hd hcd
end
end
section
theorem zuB{c:Nat}{fs:List (Str×D)}{g:D->D->Option Rv}{h:List D->List Sl->Res Rv}{d:D}{ρ S:List Sl}{QR:Rv->List Sl->List Sl->Prop}{E:XQ}(n:two2 g (cont ρ S (.d d)) (some (.ins c fs))=none)(k:wA h [d,.ins c fs] ρ S QR E):wQ g h (.d d) (.d (.ins c fs)) ρ S QR E:=Rh n k
end
section
theorem u6{ce own:List (Str×Addr)}{x:Str}{b:Addr}(h:ce.lookup x=some b):(ce++own).lookup x=some b:=by
 induction ce with
 |nil=>cases h
 |cons p ce ih=>
  obtain⟨k,v⟩:=p;rw[bQ,List.lookup_cons];rw[List.lookup_cons] at h;cases q:(x == k) with
  |true=>rw[q] at h;exact h
  |false=>rw[q] at h;exact ih h
theorem Ku{a b:List (Str×Addr)}:∀{names:List (Str×NameKind)} {acc:List (Str×Addr)},(∀y∈names,y.2=.free->b.lookup y.1=a.lookup y.1)->cloFrom b names acc=cloFrom a names acc
 |[],_,_=>rfl
 |(n,k)::r,acc,h=>by
  unfold cloFrom;split
  ·rename_i hk;have e:=h (n,k) List.mem_cons_self (by simpa using hk);rw[show b.lookup n=a.lookup n from e]
   exact Ku λy hy=>h y (bL _ hy)
  ·exact Ku λy hy=>h y (bL _ hy)
theorem LamI.Full.app{L:LamI}{ce own:List (Str×Addr)}(h:L.Full ce):L.Full (ce++own):=λy hy e=>let ⟨b,z⟩:=h y hy e;⟨b,u6 z⟩
theorem LamI.Full.obj{L:LamI}{ce own:List (Str×Addr)}(h:L.Full ce)(pm:Value)(c:Addr)(ct:Value):L.obj (ce++own) pm c ct=L.obj ce pm c ct:=by
 show PySem.W.kla_obj _ _ _ _ _ (cloFrom (ce++own) L.scope.names []) _ _ _=PySem.W.kla_obj _ _ _ _ _ (cloFrom ce L.scope.names []) _ _ _;rw[Ku (a:=ce) λy hy e=>let ⟨b,z⟩:=h y hy e;by rw[u6 z,z]]
/-- the same names,more cells -/
abbrev Gm.more(Γ:Gm)(own:List (Str×Addr)):Gm:=⟨Γ.K,Γ.cA,Γ.lam,Γ.cel++own,Γ.tb⟩
section
variable{Γ:Gm}{R R':List Addr}{F F':Hp}{own:List (Str×Addr)}
mutual
theorem Rep.to:∀(d:D) (v:V),Rep Γ R F d v->Rep (Γ.more own) R F d v
 |.non,v,h=>h
 |.bl b,v,h=>h
 |.int i,v,h=>h
 |.str x,v,h=>h
 |.ty n,v,h=>h
 |.cl n,v,h=>by rw[Rep] at h ⊢;exact h
 |.unk,v,h=>by rw[Rep] at h ⊢;exact h
 |.fn n,v,h=>by
  rw[Rep] at h ⊢;obtain⟨f,c,pm,ct,e,q,l,u⟩:=h;exact⟨f,c,pm,ct,e,by rw[u.obj];exact q,l,u.app⟩
 |.lst xs,v,h=>by
  rw[Rep] at h ⊢;obtain⟨a,ys,e,q,l⟩:=h;exact⟨a,ys,e,q,RepL.to xs ys l⟩
 |.kl xs,v,h=>by
  rw[Rep] at h ⊢;obtain⟨a,ys,e,q,l⟩:=h;exact⟨a,ys,e,q,RepL.to xs ys l⟩
 |.tup xs,v,h=>by
  rw[Rep] at h ⊢;obtain⟨a,ys,e,q,l⟩:=h;exact⟨a,ys,e,q,RepL.to xs ys l⟩
 |.kt xs,v,h=>by
  rw[Rep] at h ⊢;obtain⟨a,ys,e,q,l⟩:=h;exact⟨a,ys,e,q,RepL.to xs ys l⟩
 |.dK xs,v,h=>by
  rw[Rep] at h ⊢;obtain⟨a,ys,e,q,l⟩:=h;exact⟨a,ys,e,q,RepK.to xs ys l⟩
 |.dT xs,v,h=>by
  rw[Rep] at h ⊢;obtain⟨a,ys,e,q,l⟩:=h;exact⟨a,ys,e,q,RepT.to xs ys l⟩
 |.lt xs,v,h=>by
  rw[Rep] at h ⊢;obtain⟨a,o,ys,e,q,l⟩:=h;exact⟨a,o,ys,e,q,RepT.to xs ys l⟩
 |.ins c fs,v,h=>by
  rw[Rep] at h ⊢;obtain⟨a,dx,gs,e,q,q2,l⟩:=h;exact⟨a,dx,gs,e,q,q2,RepF.to fs gs l⟩
 |.ob i,v,h=>by
  rw[Rep] at h ⊢;exact h
theorem RepL.to:∀(xs:List D) (ys:List V),RepL Γ R F xs ys->RepL (Γ.more own) R F xs ys
 |[],ys,h=>h
 |x::xs,ys,h=>by
  rw[RepL] at h ⊢;obtain⟨y,ys',e,q,l⟩:=h;exact⟨y,ys',e,Rep.to x y q,RepL.to xs ys' l⟩
theorem RepK.to:∀(xs:List (Key×D)) (ys:List (Key×V)),RepK Γ R F xs ys->RepK (Γ.more own) R F xs ys
 |[],ys,h=>h
 |(k,x)::xs,ys,h=>by
  rw[RepK] at h ⊢;obtain⟨y,ys',e,q,l⟩:=h;exact⟨y,ys',e,Rep.to x y q,RepK.to xs ys' l⟩
theorem RepT.to:∀(xs:List (List Key×D)) (ys:List (List Key×V)),RepT Γ R F xs ys->RepT (Γ.more own) R F xs ys
 |[],ys,h=>h
 |(k,x)::xs,ys,h=>by
  rw[RepT] at h ⊢;obtain⟨y,ys',e,q,l⟩:=h;exact⟨y,ys',e,Rep.to x y q,RepT.to xs ys' l⟩
theorem RepF.to:∀(xs:List (Str×D)) (ys:List (Str×V)),RepF Γ R F xs ys->RepF (Γ.more own) R F xs ys
 |[],ys,h=>h
 |(k,x)::xs,ys,h=>by
  rw[RepF] at h ⊢;obtain⟨y,ys',e,q,l⟩:=h;exact⟨y,ys',e,Rep.to x y q,RepF.to xs ys' l⟩
end
mutual
theorem Own.to:∀(s:Sl) (v:V) (c:Cells),Own Γ R F s v c->Own (Γ.more own) R F s v c
 |.emp,v,c,h=>h
 |.val d,v,c,h=>by
  rw[Own] at h ⊢;exact⟨h.1,Rep.to d v h.2⟩
 |.lst xs,v,c,h=>by
  rw[Own] at h ⊢;obtain⟨a,ys,e,q,l⟩:=h;exact⟨a,ys,e,RepL.to xs ys q,l⟩
 |.dK xs,v,c,h=>by
  rw[Own] at h ⊢;obtain⟨a,ys,e,q,l⟩:=h;exact⟨a,ys,e,RepK.to xs ys q,l⟩
 |.dT xs,v,c,h=>by
  rw[Own] at h ⊢;obtain⟨a,ys,e,q,l⟩:=h;exact⟨a,ys,e,RepT.to xs ys q,l⟩
 |.ins cn fs,v,c,h=>by
  rw[Own] at h ⊢;obtain⟨a,dx,gs,c',e,q,l⟩:=h;exact⟨a,dx,gs,c',e,OwnF.to fs gs c' q,l⟩
 |.tab q,v,c,h=>by rw[Own] at h ⊢;exact h
 |.rsv x,v,c,h=>by
  rw[Own] at h ⊢;obtain⟨e1,⟨a,e2⟩,e3⟩:=h;exact⟨e1,⟨a,u6 e2⟩,e3⟩
 |.cel x d,v,c,h=>by
  rw[Own] at h ⊢;obtain⟨a,o,u,y,e1,e2,e3,e4,e5,e6⟩:=h;exact⟨a,o,u,y,e1,u6 e2,e3,e4,Rep.to d y e5,e6⟩
 |.exn cn fs,v,c,h=>by
  rw[Own] at h ⊢;obtain⟨a,o,dd,vs,gs,e1,e2,e3,e4,e5,e6,e7⟩:=h;exact⟨a,o,dd,vs,gs,e1,e2,e3,e4,e5,RepF.to fs gs e6,e7⟩
theorem OwnF.to:∀(fs:List (Str×Sl)) (gs:List (Str×V)) (c:Cells),OwnF Γ R F fs gs c->OwnF (Γ.more own) R F fs gs c
 |[],gs,c,h=>h
 |(f,s)::fs,gs,c,h=>by
  rw[OwnF] at h ⊢;obtain⟨v,gs',c1,c2,e,q,l,e2⟩:=h;exact⟨v,gs',c1,c2,e,Own.to s v c1 q,OwnF.to fs gs' c2 l,e2⟩
end
end
end
section
def rsvS:List (Nat×Str)->List Sl->Option (List Sl)
 |[],S=>some S
 |p::J,S=>match S[p.1]? with
  |some .emp=>rsvS J (S.set p.1 (.rsv p.2))
  |_=>none
def Em:List Sl->List Sl->Prop
 |[],T=>T=[]
 |s::S,T=>∃t T',T=t::T'∧(t=s∨(s=.emp∧∃x,t=.rsv x))∧Em S T'
theorem Em.refl:∀(S:List Sl),Em S S
 |[]=>rfl
 |s::S=>⟨s,S,rfl,.inl rfl,Em.refl S⟩
section
variable{Γ:Gm}
theorem OwnO.to{R:List Addr}{F:Hp}{own:List (Str×Addr)}{s:Sl}{o:Option V}{c:Cells}(h:OwnO Γ R F s o c):OwnO (Γ.more own) R F s o c:=by
 by_cases e:s=.emp
 ·subst e;exact h
 ·obtain⟨v,e1,ow⟩:=h.of_ne e;subst e1;exact OwnO.mk (Own.to s v c ow)
theorem OwnS.to{R:List Addr}{F:Hp}{own:List (Str×Addr)}:∀{S:List Sl} {r:List Addr} {C:Cells},OwnS Γ R F S r C->OwnS (Γ.more own) R F S r C
 |[],_,_,h=>h
 |s::S,r,C,h=>by
  obtain⟨a,r',c1,c2,e1,q,l,e2⟩:=h;exact⟨a,r',c1,c2,e1,q.to,OwnS.to l,e2⟩
end
end
section
section
variable{ρ S S1 S2:List Sl}{QR:Rv->List Sl->List Sl->Prop}{E:XQ}{Q:Rv->List Sl->Prop}{E1:Exn->List Sl->Prop}{i j k n c:Nat}{J:CelL}{cs:M (List D)}{q:Str}{ds:List D}
def rvq(J:List (Nat×Str))(S S1:List Sl):Prop:=rsvS J S=some S1
theorem zt0:rvq [] S S:=rfl
theorem Tr{x:Str}{J:List (Nat×Str)}(e:nt S j .emp)(e2:st S j (.rsv x) S1)(h:rvq J S1 S2):rvq ((j,x)::J) S S2:=by
 obtain⟨l,rfl⟩:=e2;have e:S[j]? = some .emp:=e;unfold rvq;simp only[rsvS,e];exact h
def pt2(b:Nat)(S:List Sl)(x y:Sl):List Sl:=(S.set b x).set (b+1) y
end
section
variable{S:List Sl}{b i:Nat}{x y z s:Sl}
theorem Tt{X:List Sl}(h:nt S i s):nt (S++X) i s:=by
 have h:S[i]? = some s:=h;show(S++X)[i]? = some s;rw[bu (bx.mp h).1];exact h
/-- both places wait -/
structure Two(b:Nat)(S:List Sl):Prop where
  e0:nt S b .emp
  e1:nt S (b+1) .emp
theorem Two.len(h:Two b S):b+1<S.length:=(bx.mp h.e1).1
theorem Two.nt(h:Two b S)(k:nt S i s)(ne:s≠.emp):nt (pt2 b S x y) i s:=by
 have k:S[i]? = some s:=k;have n0:b≠i:=λe=>by
  subst e;have z:S[b]? = some .emp:=h.e0;rw[z] at k;cases k;exact ne rfl
 have n1:b+1≠i:=λe=>by
  subst e;have z:S[b+1]? = some .emp:=h.e1;rw[z] at k;cases k;exact ne rfl
 show(pt2 b S x y)[i]? = some s;unfold pt2;rw[List.getElem?_set_ne n1,List.getElem?_set_ne n0];exact k
theorem Two.rsv{u v:Str}(h:Two b S):rvq [(b,u),(b+1,v)] S (pt2 b S (.rsv u) (.rsv v)):=
 Tr h.e0 ⟨by have:=h.len;omega,rfl⟩ (Tr (by
  show(S.set b _)[b+1]? = _;rw[List.getElem?_set_ne (by omega)];exact h.e1) ⟨by rw[bM];exact h.len,rfl⟩ zt0)
theorem Two.up{X:List Sl}(h:Two b S):Two b (S++X):=⟨Tt h.e0,Tt h.e1⟩
end
end
end DV
namespace DV
open PySem PySem.SeqAt
open AutoSeq1 (wpAny_loadPart')
open MeetsSeq MeetsSeq2 MeetsSeq3 SeqRoads2
end DV
namespace DV
open PySem PySem.Spec PyProof.Rows L2
end DV
namespace DV
open PySem PySem.W PySem.Calls PyProof.Rows HandSHeadRun
end DV
namespace DV
open PySem PySem.Spec PyProof.Rows L2
end DV
namespace DV
open PySem PySem.SeqAt PySem.W
end DV
namespace DV
open PySem PySem.Spec PyProof.Rows L2
end DV
namespace DV
open PySem PySem.SeqAt
open AutoSeq1 (wpAny_loadPart')
open MeetsSeq MeetsSeq2 MeetsSeq3 SeqRoads2
end DV
namespace DV
open PySem PySem.Spec PyProof.Rows L2
end DV
namespace DV
open PySem PySem.SeqAt
open AutoSeq1 (wpAny_loadPart')
open MeetsSeq MeetsSeq2 MeetsSeq3 SeqRoads2
open GQ
end DV
namespace DV
open PySem PySem.Spec PyProof.Rows L2
section
section
variable{Γ:Gm}{R:List Addr}{F:Hp}
theorem OwnS.nt:∀{S:List Sl} {r:List Addr} {c:Cells},OwnS Γ R F S r c->∀p∈c,∀xs,p.2≠.tup xs
 |[],_,_,h=>by rw[h.2];exact nofun
 |_::_,_,_,⟨o,σ',c1,c2,_,q,l,e2⟩=>λp hp xs=>by
  rw[e2] at hp;rcases aV.mp hp with hp|hp
  ·exact q.nt p hp xs
  ·exact OwnS.nt l p hp xs
end
end
end DV
namespace DV
open PySem PySem.SeqAt
open AutoSeq1 (wpAny_loadPart')
open MeetsSeq MeetsSeq2 MeetsSeq3 SeqRoads2
open GQ
end DV
namespace DV
open PySem PySem.Spec PyProof.Rows L2
section
open PySem.W
theorem Tu{M:Model}{s:Shared}{v:Value}{T:String}(h:s.TypeIs v T):Looks M s.heap (typeOf v) (.type T):=by
 intro A Q E s' k q;refine wpAny_typeOf (s:=s') ?_ q;cases v with
 |ref a=>obtain⟨o,ho,hc⟩:=h;exact⟨o,k _ _ ho,hc⟩
 |_=>exact h
section
variable{prog:Program}{w:World}{A:Around}{E:Value->Shared->Prop}{s:Shared}{K:Frag}{x C L f g:Addr}{h₀:Heap}{m:Str->Option Value}{ox:Obj}{od:Option Obj}{T:String}
/-- x op b,x of an own class,b of a built-in kind -/
theorem zqY{op:Operator}{b:Value}{fo ro rc:Option Value}{Q:Value->Shared->Prop}(F:Fr h₀ L s.heap m)(X₀:K.In h₀)(I:InstAt s.heap x ox C od)(hb:s.TypeIs b T)(hc:selfFirst K C=true)
  (hs:findIn K (.ref C) (PySem.dunder op.info.2)=some (some (.ref f))) (hf:isFn K (.ref f)=true) (hr:findIn K (.ref C) (dunderR op.info.2)=some rc) (hp:rc=none∨∃g:Addr,rc=some (.ref g))
  (h1:findIn K (.type T) (PySem.dunder op.info.2)=some fo) (h2:findIn K (.type T) (dunderR op.info.2)=some ro) (hsub:subIn K (.type T) (.ref C)=some false)
  (h:wpAny (model prog w) A (call (.ref f) [.ref x,b]) (PySem.W.CmpBack Q) E s):wpAny (model prog w) A (binaryOp op (.ref x) b) Q E s:=by iterate
 have X:=X₀.keeps F.keep;obtain⟨cd,rest,hcd,hm⟩:=ksp_first hc;rcases hi:op.info with ⟨sym,nm'⟩;rw[hi] at hs hr h1 h2
 dsimp only at hs hr h1 h2
 have one:=ksp_try X I hs hf h;have L2:Looks (model prog w) s.heap (typeOf b) (.type T):=Tu hb;obtain⟨hh,g,d,tt,os⟩:=s;have L1:Looks (model prog w) hh (typeOf (.ref x)) (.ref C):=I.type;have L2:Looks (model prog w) hh (typeOf b) (.type T):=L2;have L3:Looks (model prog w) hh (fillsNumberSlot (.ref C) nm') true:=fills_K X hcd hm hs;have L4:Looks (model prog w) hh (fillsNumberSlot (.type T) nm') ((fo.isSome && !isSeqSlot fo) ||(ro.isSome && !isSeqSlot ro)):=ksp_fillsT X h1 h2
 have L5:Looks (model prog w) hh (isSubtype (.type T) (.ref C)) false:=looks_subIn X hsub;have L6:Looks (model prog w) hh (numberSlotInPython (.ref C) nm') true:=ksp_inPy X hs hr hp;have L7:Looks (model prog w) hh (numberSlotInPython (.type T) nm') false:=Looks.of_pure rfl;have L8:Looks (model prog w) hh (typeLookup (.type T) (dunderR nm')) ro:=looks_findIn X h2;generalize ((fo.isSome && !isSeqSlot fo) ||(ro.isSome && !isSeqSlot ro))=right at L4
 have hne:(Value.ref C == Value.type T)=false:=Bool.eq_false_iff.mpr λq=>by cases beq_iff_eq.mp q
 simp only[binaryOp,hi];refine wpAny_holding (wpAny_bind ?_);unfold binaryOp1;refine wpAny_bind (L1.at (wpAny_bind (L2.at (wpAny_bind (L3.at ?_)))));simp only[hne,Bool.false_eq_true,if_false];cases right <;>
 ·ksp_lk
  refine wpAny_mono one (λr s' hr'=>?_) λ_ _ e=>e;obtain⟨v,rfl,hq⟩:=hr'
  ksp_lk
  exact hq
/-- a op x: the built-in kind does not know it,the own class's reflected def answers -/
theorem zqy{op:Operator}{a:Value}{fo ro:Option Value}{Q:Value->Shared->Prop}(F:Fr h₀ L s.heap m)(X₀:K.In h₀)(I:InstAt s.heap x ox C od)(ha:s.TypeIs a T)(hc:selfFirst K C=true)
  (hs0:findIn K (.ref C) (PySem.dunder op.info.2)=some (some (.ref g))) (hs:findIn K (.ref C) (dunderR op.info.2)=some (some (.ref f))) (hf:isFn K (.ref f)=true)
  (h1:findIn K (.type T) (PySem.dunder op.info.2)=some fo) (h2:findIn K (.type T) (dunderR op.info.2)=some ro) (hsub:subIn K (.ref C) (.type T)=some false)
  (dec:((fo.isSome && !isSeqSlot fo) ||(ro.isSome && !isSeqSlot ro))=true->∀(Q:Option Value->Shared->Prop),Q none s->wpAny (model prog w) A (tryMethod a (PySem.dunder op.info.2) (.ref x)) Q E s)
  (h:wpAny (model prog w) A (call (.ref f) [.ref x,a]) (PySem.W.CmpBack Q) E s):wpAny (model prog w) A (binaryOp op a (.ref x)) Q E s:=by iterate
 have X:=X₀.keeps F.keep;obtain⟨cd,rest,hcd,hm⟩:=ksp_first hc;rcases hi:op.info with ⟨sym,nm'⟩;rw[hi] at hs hs0 h1 h2 dec
 dsimp only at hs hs0 h1 h2 dec
 have one:=ksp_try X I hs hf h;have L2:Looks (model prog w) s.heap (typeOf a) (.type T):=Tu ha;obtain⟨hh,gg,d,tt,os⟩:=s;have L1:Looks (model prog w) hh (typeOf (.ref x)) (.ref C):=I.type;have L2:Looks (model prog w) hh (typeOf a) (.type T):=L2;have L3:Looks (model prog w) hh (fillsNumberSlot (.ref C) nm') true:=fills_K X hcd hm hs0;have L4:Looks (model prog w) hh (fillsNumberSlot (.type T) nm') ((fo.isSome && !isSeqSlot fo) ||(ro.isSome && !isSeqSlot ro)):=ksp_fillsT X h1 h2
 have L5:Looks (model prog w) hh (isSubtype (.ref C) (.type T)) false:=looks_subIn X hsub;have L7:Looks (model prog w) hh (numberSlotInPython (.type T) nm') false:=Looks.of_pure rfl;generalize ((fo.isSome && !isSeqSlot fo) ||(ro.isSome && !isSeqSlot ro))=left at L4 dec
 have hne:(Value.type T == Value.ref C)=false:=Bool.eq_false_iff.mpr λq=>by cases beq_iff_eq.mp q
 simp only[binaryOp,hi];refine wpAny_holding (wpAny_bind ?_);unfold binaryOp1;refine wpAny_bind (L2.at (wpAny_bind (L1.at (wpAny_bind (L4.at ?_)))));simp only[hne,Bool.false_eq_true,if_false];refine wpAny_bind (L3.at ?_);cases left with
 |false=>
  ksp_lk
  refine wpAny_mono one (λr s' hr'=>?_) λ_ _ e=>e;obtain⟨v,rfl,hq⟩:=hr'
  ksp_lk
  exact hq
 |true=>
  ksp_lk
  refine dec rfl _ ?_
  ksp_lk
  refine wpAny_mono one (λr s' hr'=>?_) λ_ _ e=>e;obtain⟨v,rfl,hq⟩:=hr'
  ksp_lk
  exact hq
end
section
variable{prog:Program}{w:World}{A:Around}{E:Value->Shared->Prop}{s:Shared}
theorem zhu(a:Int)(t:Tok)(x:Addr):Meets (Builtin.«int.__mul__» ⟨[.int a t,.ref x],[]⟩) (λ_ R s=>(∃o,s.heap.get? x=some o∧o.data=.plain)∧R (.ok (.ret Value.notImplemented)) s):=
 .of_wp λprog w A R s h=>by
  obtain⟨⟨o,ho,hd⟩,h⟩:=h;show wpAny _ _ ((asInt? (.ref x)) >>= _) _ _ s;unfold asInt?;refine wpAny_bind (wpAny_bind (wpAny_load ho ?_));rw[hd];exact wpAny_pure (wpAny_bind (wpAny_rule (wpAny_pure ⟨_,rfl,h⟩)))
theorem zgL(b:Bool)(x:Addr):Meets (Builtin.«int.__mul__» ⟨[.bool b,.ref x],[]⟩) (λ_ R s=>(∃o,s.heap.get? x=some o∧o.data=.plain)∧R (.ok (.ret Value.notImplemented)) s):=
 .of_wp λprog w A R s h=>by
  obtain⟨⟨o,ho,hd⟩,h⟩:=h;show wpAny _ _ ((asInt? (.ref x)) >>= _) _ _ s;unfold asInt?;refine wpAny_bind (wpAny_bind (wpAny_load ho ?_));rw[hd];exact wpAny_pure (wpAny_bind (wpAny_rule (wpAny_pure ⟨_,rfl,h⟩)))
theorem dec_int{a:Int}{t:Tok}{x:Addr}{o:Obj}(ho:s.heap.get? x=some o)(hd:o.data=.plain)(Q:Option Value->Shared->Prop)(h:Q none s):wpAny (model prog w) A (tryMethod (.int a t) (PySem.dunder "mul") (.ref x)) Q E s:=by iterate
 refine wpAny_tryMethod_declines (self:=.int a t) (other:=.ref x) (name:=PySem.dunder "mul") (T:="int") (id:="int.__mul__") (Q:=Q) ?_ ?_ ?_
 ·exact typeIs_int s a t
 ·exact PySem.F.slot_int_mul
 have z:=call_meets (prog:=prog) (w:=w) (A:=A) (E:=E) (s:=s) (Q:=λv s'=>v=.notImplemented∧Q none s') PySem.F.slot_int_mul (typeIs_int s a t) PySem.F.entry_int_mul (PySem.F.args_int_mul_2 _ _) (zhu a t x);exact z ⟨⟨o,ho,hd⟩,rfl,h⟩
theorem zrs{b:Bool}{x:Addr}{o:Obj}(ho:s.heap.get? x=some o)(hd:o.data=.plain)(Q:Option Value->Shared->Prop)(h:Q none s):wpAny (model prog w) A (tryMethod (.bool b) (PySem.dunder "mul") (.ref x)) Q E s:=by iterate
 refine wpAny_tryMethod_declines (self:=.bool b) (other:=.ref x) (name:=PySem.dunder "mul") (T:="bool") (id:="int.__mul__") (Q:=Q) ?_ ?_ ?_
 ·exact typeIs_bool' s b
 ·exact PySem.F.slot_bool_mul
 have z:=call_meets (prog:=prog) (w:=w) (A:=A) (E:=E) (s:=s) (Q:=λv s'=>v=.notImplemented∧Q none s') PySem.F.slot_bool_mul (typeIs_bool' s b) PySem.F.entry_int_mul (PySem.F.args_int_mul_2 _ _) (zgL b x);exact z ⟨⟨o,ho,hd⟩,rfl,h⟩
end
def kdT:D->Option String
 |.int _=>some "int"
 |.bl _=>some "bool"
 |.non=>some "NoneType"
 |.str _=>some "str"
 |.tup _=>some "tuple"
 |.kt _=>some "tuple"
 |_=>none
def ju(c:Nat)(m:List D->List Sl->Res Rv):List D->List Sl->Res Rv:=λds S=>match ds with
 |[d1,d2]=>if isC c d1 S=true∧(kdT d2).isSome=true then m [d1,d2] S else .bad
 |_=>.bad
def pF(c:Nat)(m:List D->List Sl->Res Rv):List D->List Sl->Res Rv:=λds S=>match ds with
 |[d1,d2]=>if isC c d2 S=true∧(kdT d1).isSome=true then m [d2,d1] S else .bad
 |_=>.bad
theorem Tv{d:D}{T:String}(e:kdT d=some T):T∈vY:=by
 unfold kdT at e;split at e<;>first|(cases e;decide)|cases e
theorem Tw{K:Frag}{C:Addr}{T:String}(h:mulK K C=true)(m:T∈vY):∃fo ro,findIn K (.type T) (PySem.dunder "mul")=some fo∧findIn K (.type T) (dunderR "mul")=some ro∧kY K T=some ((fo.isSome && !isSeqSlot fo) ||(ro.isSome && !isSeqSlot ro))∧subIn K (.type T) (.ref C)=some false∧subIn K (.ref C) (.type T)=some false:=by
 unfold mulK at h;rw[bD,bJ] at h;have z:=h.1 T m;rw[bD,bD] at z;obtain⟨z1,z2,z3⟩:=z;unfold kY at z1 ⊢;cases e1:findIn K (.type T) (PySem.dunder "mul") with
 |none=>rw[e1] at z1;cases z1
 |some fo=>
  cases e2:findIn K (.type T) (dunderR "mul") with
  |none=>rw[e1,e2] at z1;cases z1
  |some ro=>exact⟨fo,ro,rfl,rfl,rfl,beq_iff_eq.mp z2,beq_iff_eq.mp z3⟩
theorem u9{K:Frag}{C:Addr}{T:String}(h:mulK K C=true)(m:T = "NoneType"∨T = "str"∨T = "tuple"):kY K T=some false:=by
 unfold mulK at h;rw[bD,bD,bD] at h;obtain⟨_,z1,z2,z3⟩:=h;rcases m with rfl|rfl|rfl
 ·exact beq_iff_eq.mp z1
 ·exact beq_iff_eq.mp z2
 ·exact beq_iff_eq.mp z3
section
variable{X:Cx}{Γ:Gm}{W:WX}{c k:Nat}{f g:Addr}{fd:FuncData}{ps:List Str}{m:List D->List Sl->Res Rv}
theorem Tz{pins:List (Addr×Obj)}{s:Shared}{σ:L2.St}{w:Wd}{ρ S:List Sl}{d:D}{y:V}{u:Value}{T:String}(hK:Γ.K=X.K)(I:Inv X pins σ w.H s)(rel:Rel Γ w ρ S σ)(r:Rep Γ w.R w.F d y)(ru:RelV y u)(e:kdT d=some T):s.TypeIs u T:=by iterate
 cases d<;>simp only[kdT,Option.some.injEq,reduceCtorEq] at e<;>subst e<;>rw[Rep] at r
 ·subst r;cases(show u=Value.none from ru);rfl
 ·subst r;cases(show u=Value.bool _ from ru);rfl
 ·subst r;obtain⟨t,rfl⟩:=(show ∃t,u=Value.int _ t from ru);exact typeIs_int s _ t
 ·subst r;obtain⟨t,rfl⟩:=(show ∃t,u=Value.str _ t from ru);rfl
 ·obtain⟨a,ys,rfl,q,_⟩:=r;cases(show u=Value.ref a from ru)
  obtain⟨its,_,⟨o,ho,hc,_⟩,_⟩:=I.tuple (a:=a) (xs:=ys) (.inl (.inl (rel.good.sub _ _ q)));exact⟨o,ho,hc⟩
 ·obtain⟨a,ys,rfl,q,_⟩:=r;cases(show u=Value.ref a from ru)
  obtain⟨its,_,⟨o,ho,hc,_⟩,_⟩:=I.tuple (a:=a) (xs:=ys) (SqT.up rel.good.sub (hK ▸ q));exact⟨o,ho,hc⟩
theorem vf(hK:Γ.K=X.K)(hl:ps.length=2)(hc:selfFirst X.K (Γ.cA c)=true)(hs:findIn X.K (.ref (Γ.cA c)) (PySem.dunder "mul")=some (some (.ref f))) (hf:isFn X.K (.ref f)=true) (hr:refO (findIn X.K (.ref (Γ.cA c)) (dunderR "mul"))=true) (hm:mulK X.K (Γ.cA c)=true)
  (F:FnOk X.prog X.w X.K X.mg X.base (L2.CX X.prog X.w) k f fd ps (spM Γ ps.length m)) (hrm:Room k X.A) (hb:Binds X.K fd ps []) (tk:Takes X W):OpD2 X Γ W (binaryOp .Mult) (ju c m):=by iterate
 obtain⟨rc,m3,m5⟩:=ztf hr;intro pins s σ H x y v u Q I rx ry ⟨F0,E,C,R,ρ,S,ds,rel,l,ck⟩
 match ds,l,ck with
 |[d1,d2],l,ck=>
  have l0:=l;rw[RepL] at l;obtain⟨x',vs',e1,rx',l⟩:=l;rw[RepL] at l;obtain⟨y',vs2,e2,ry',l⟩:=l;rw[RepL] at l;subst l;cases e1;cases e2;simp only[ju] at ck;split at ck
  ·rename_i k1;obtain⟨T,eT⟩:=Option.isSome_iff_exists.mp k1.2;obtain⟨fo,ro,m1,m2,_,m4,_⟩:=Tw hm (Tv eT);have ty:=Tz (s:=s) hK I rel ry' ry eT;obtain⟨a,dx,gs,rfl,ea⟩:=rel.isC rx' k1.1;cases(show v=Value.ref a from rx)
   obtain⟨mA,Ob,_⟩:=ins_get I.hok ea;obtain⟨od,J,_⟩:=Ob.look;obtain⟨mm,hF⟩:=I.fr;refine zqY (op:=.Mult) (T:=T) hF I.ok.mod.kin J ty hc hs hf m3 m5 m1 m2 m4 ?_;refine wpAny_mono (run_fnS (us:=[.ref a,u]) (vs:=[.ref a,y]) F hrm hb (passAt tk σ) I (.cons rfl (.cons ry .nil)) (rel.spM l0 (by rw[hl];rfl) ck)) (λw s' z=>?_) λ_ _ x=>x;obtain⟨z',H',I',rz,qz⟩:=z;exact SlX.cmpback rz ⟨z',H',I',rz,qz⟩
  ·exact ck.elim
 |[],_,ck=>exact ck.elim
 |[_],_,ck=>exact ck.elim
 |_::_::_::_,_,ck=>exact ck.elim
theorem TF(hK:Γ.K=X.K)(hl:ps.length=2)(hc:selfFirst X.K (Γ.cA c)=true)(hs0:findIn X.K (.ref (Γ.cA c)) (PySem.dunder "mul")=some (some (.ref g))) (hs:findIn X.K (.ref (Γ.cA c)) (dunderR "mul")=some (some (.ref f))) (hf:isFn X.K (.ref f)=true) (hm:mulK X.K (Γ.cA c)=true)
  (F:FnOk X.prog X.w X.K X.mg X.base (L2.CX X.prog X.w) k f fd ps (spM Γ ps.length m)) (hrm:Room k X.A) (hb:Binds X.K fd ps []) (tk:Takes X W):OpD2 X Γ W (binaryOp .Mult) (pF c m):=by iterate
 intro pins s σ H x y v u Q I rx ry ⟨F0,E,C,R,ρ,S,ds,rel,l,ck⟩
 match ds,l,ck with
 |[d1,d2],l,ck=>
  rw[RepL] at l;obtain⟨x',vs',e1,rx',l⟩:=l;rw[RepL] at l;obtain⟨y',vs2,e2,ry',l⟩:=l;rw[RepL] at l;subst l;cases e1;cases e2;simp only[pF] at ck;split at ck
  ·rename_i k1;obtain⟨T,eT⟩:=Option.isSome_iff_exists.mp k1.2;obtain⟨fo,ro,m1,m2,m6,_,m4⟩:=Tw hm (Tv eT);have ty:=Tz (s:=s) hK I rel rx' rx eT;have l0:RepL Γ R F0 [d2,d1] [y,x]:=by
    rw[RepL];refine⟨y,[x],rfl,ry',?_⟩;rw[RepL];refine⟨x,[],rfl,rx',?_⟩;rw[RepL]
   have rep1:=rx';obtain⟨a,dx,gs,rfl,ea⟩:=rel.isC ry' k1.1;cases(show u=Value.ref a from ry)
   obtain⟨mA,Ob,_⟩:=ins_get I.hok ea;obtain⟨od,J,_⟩:=Ob.look;obtain⟨mm,hF⟩:=I.fr;refine zqy (op:=.Mult) (T:=T) hF I.ok.mod.kin J ty hc hs0 hs hf m1 m2 m4 (λlt Q' hQ=>?_) ?_
   ·cases d1<;>simp only[kdT,Option.some.injEq,reduceCtorEq] at eT<;>subst eT<;>rw[Rep] at rep1
    ·exact absurd (m6.symm.trans (u9 hm bU)) (by rw[lt];decide)
    ·subst rep1;cases(show v=Value.bool _ from rx);exact zrs J.at_ rfl Q' hQ
    ·subst rep1;obtain⟨t,rfl⟩:=(show ∃t,v=Value.int _ t from rx);exact dec_int J.at_ rfl Q' hQ
    ·exact absurd (m6.symm.trans (u9 hm bW)) (by rw[lt];decide)
    ·exact absurd (m6.symm.trans (u9 hm (.inr bV))) (by rw[lt];decide)
    ·exact absurd (m6.symm.trans (u9 hm (.inr bV))) (by rw[lt];decide)
   refine wpAny_mono (run_fnS (us:=[.ref a,v]) (vs:=[.ref a,x]) F hrm hb (passAt tk σ) I (.cons rfl (.cons rx .nil)) (rel.spM l0 (by rw[hl];rfl) ck)) (λw s' z=>?_) λ_ _ x=>x;obtain⟨z',H',I',rz,qz⟩:=z;exact SlX.cmpback rz ⟨z',H',I',rz,qz⟩
  ·exact ck.elim
 |[],_,ck=>exact ck.elim
 |[_],_,ck=>exact ck.elim
 |_::_::_::_,_,ck=>exact ck.elim
end
theorem vg{c:Nat}{m:List D->List Sl->Res Rv}{d1 d2:D}{S:List Sl}{Q:Rv->List Sl->Prop}{E:Exn->List Sl->Prop}(e:isC c d1 S=true)(e2:(kdT d2).isSome=true)(h:wm m [d1,d2] S Q E):wm (ju c m) [d1,d2] S Q E:=by
 unfold wm ju;simp only[e,e2,and_self,if_true];exact h
theorem TJ{c:Nat}{m:List D->List Sl->Res Rv}{d1 d2:D}{S:List Sl}{Q:Rv->List Sl->Prop}{E:Exn->List Sl->Prop}(e:isC c d2 S=true)(e2:(kdT d1).isSome=true)(h:wm m [d2,d1] S Q E):wm (pF c m) [d1,d2] S Q E:=by
 unfold wm pF;simp only[e,e2,and_self,if_true];exact h
end
section
open PySem.W (dictOf kwEs)
section
variable{prog:Program}{w:World}{A:Around}{E:Value->Shared->Prop}{s:Shared}{d:Addr}
theorem zwy{es:List DictEntry}{n:Nat}{k:Str}{v:Value}{Q:Unit->Shared->Prop}(D:s.heap.get? d=some (dictOf es n))(hs:∀e∈es,e.key.isStr k=false)(hr:∀e∈es,e.refKey=false)
  (h:∀h',h'.get? d=some (dictOf (es++[⟨PyData.keyHash w.params k,.str k s.toks,v⟩]) (n+1))->(∀b,b≠d->h'.get? b=s.heap.get? b)->h'.objs.size=s.heap.objs.size->Q () { s with heap:=h',toks:=s.toks+1 }) :
  wpAny (model prog w) A (nsSet d k v) Q E s:=by iterate
 have e1:es.any (·.key.isStr k)=false:=by
  cases q:es.any (·.key.isStr k) with
  |false=>rfl
  |true=>obtain⟨e,he,z⟩:=bO.mp q;rw[hs e he] at z;cases z
 have e2:es.any (·.refKey)=false:=by
  cases q:es.any (·.refKey) with
  |false=>rfl
  |true=>obtain⟨e,he,z⟩:=bO.mp q;rw[hr e he] at z;cases z
 have e:Obj.putName k (PyData.keyHash w.params k) (.str k s.toks) v (dictOf es n)=dictOf (es++[⟨PyData.keyHash w.params k,.str k s.toks,v⟩]) (n+1):=by
  rw[PySem.W.putName_dict,PySem.W.putL_new hs];show dictOf _ (if es.any (·.key.isStr k) then n else n+1)=_
  rw[e1,if_neg Bool.false_ne_true]
 have c:aRefKeyMayBeTheName k es.toArray=false:=by
  rw[aRefKeyMayBeTheName_at,<-Array.any_toList,<-Array.any_toList];show(!es.any (·.key.isStr k) && es.any (·.refKey))=false;rw[e2,Bool.and_false]
 unfold nsSet;refine wpAny_bind (wpAny_bind (wpAny_askSetting (wpAny_pure (wpAny_bind (wpAny_mkText (wpAny_bind (wpAny_loadPart D ?_)))))))
 dsimp only
 rw[c];refine wpAny_updatePart D (h _ ?_ (λb hb=>Heap.get?_update_other _ _ (Ne.symm hb)) (by simp));have z:=Heap.get?_update_self (Obj.putName k (PyData.keyHash w.params k) (.str k s.toks) v) D (by rw[e];rfl);exact Eq.trans z (congrArg some e)
theorem TV{Q:PUnit->Shared->Prop}:∀(ex:List (Str×Value)) (s:Shared) (es:List DictEntry) (n:Nat),s.heap.get? d=some (dictOf es n)->
  (∀e∈es,∀x∈ex,e.key.isStr x.1=false)->(∀e∈es,e.refKey=false)->(ex.map (·.1)).Nodup->
  (∀h' tk,h'.get? d=some (dictOf (es++kwEs w.params s.toks ex) (n+ex.length))->(∀b,b≠d->h'.get? b=s.heap.get? b)->h'.objs.size=s.heap.objs.size->Q ⟨⟩ { s with heap:=h',toks:=tk })->
  wpAny (model prog w) A (forIn ex PUnit.unit λx _=>(nsSet d x.1 x.2 >>= λ_=>pure (ForInStep.yield PUnit.unit))) Q E s
 |[],s,es,n,D,_,_,_,h=>by
  rw[List.forIn_nil];refine wpAny_pure (h s.heap s.toks ?_ (λ_ _=>rfl) rfl);show s.heap.get? d=some (dictOf (es++[]) n);rw[aN];exact D
 |x::r,s,es,n,D,hs,hr,hn,h=>by iterate
  obtain⟨hn1,hn2⟩:=bz.mp (show(x.1::r.map (·.1)).Nodup from hn)
  rw[List.forIn_cons];refine wpAny_bind (wpAny_bind (zwy D (λe he=>hs e he x (.head _)) hr λh' D' k' z'=>wpAny_pure ?_));show wpAny (model prog w) A (forIn r PUnit.unit λx _=>(nsSet d x.1 x.2 >>= λ_=>pure (ForInStep.yield PUnit.unit))) Q E { s with heap:=h',toks:=s.toks+1 }
  refine TV r { s with heap:=h',toks:=s.toks+1 } _ _ D' (λe he y hy=>?_) (λe he=>?_) hn2 λh'' tk D'' k'' z''=>?_
  ·rcases aV.mp he with he|he
   ·exact hs e he y (.tail _ hy)
   ·obtain rfl:=aU.mp he;show(x.1 == y.1)=false;exact beq_eq_false_iff_ne.mpr λq=>hn1 (by rw[q];exact bf hy)
  ·rcases aV.mp he with he|he
   ·exact hr e he
   ·obtain rfl:=aU.mp he;rfl
  ·refine h h'' tk ?_ (λb hb=>(k'' b hb).trans (k' b hb)) (z''.trans z');rw[D'',aK,show n+(x::r).length=n+1+r.length by rw[aG];omega];rfl
end
/-- the dict of the words left over -/
def kwK(ex:List (Str×Value)):List (Key×Value):=ex.map λx=>((.inr x.1:Key),x.2)
def kwV(kv:List (Str×V)):List (Key×V):=kv.map λx=>((.inr x.1:Key),x.2)
theorem TX{prog:Program}{w:World}:∀(ex:List (Str×Value)) (t:Tok),Pairs (mixKind prog w) (kwEs w.params t ex) (kwK ex)
 |[],_=>.nil
 |x::r,t=>.cons (show Value.isStrOf x.1 (.str x.1 t)=true by simp[Value.isStrOf]) rfl (TX r (t+1))
theorem ztM{prog:Program}{w:World}{h:Heap}{d:Addr}{ex:List (Str×Value)}{t:Tok}{n:Nat}(hn:(ex.map (·.1)).Nodup)(D:h.get? d=some (dictOf (kwEs w.params t ex) n)):h.DictOf (mixKind prog w) d (kwK ex):=by iterate
 refine⟨_,(kwEs w.params t ex).toArray,n,D,⟨rfl,rfl,rfl⟩,rfl,λe he=>?_,TX ex t,?_⟩
 ·obtain⟨k,u,hk,hh⟩:=PySem.W.kwEs_key ex t e (List.mem_toArray.mp he);exact⟨.inr k,by rw[hk];show Value.isStrOf k (.str k u)=true;simp[Value.isStrOf],hh.trans rfl⟩
 ·unfold kwK;rw[aH];have e:((·.1)∘λx:Str×Value=>((Sum.inr x.1:Key),x.2))=(λx:Str=>(Sum.inr x:Key))∘(·.1):=rfl;rw[e,<-aH];exact List.Pairwise.map _ (λ_ _ hne q=>hne (by injection q)) hn
theorem TY:∀{kv:List (Str×V)} {kz:List (Str×Value)},KV kv kz->KV (kwV kv) (kwK kz)
 |_,_,.nil=>.nil
 |_,_,.cons (a:=a) (b:=b) r l=>.cons ⟨congrArg Sum.inr r.1,r.2⟩ (TY l)
/-- what binding does: the words left over are filled into a new dict -/
def Kv(fd:FuncData)(args:Args)(front:List (Str×Value))(pd:Str)(kz:List (Str×Value)):Prop:=
 bindArgs fd args=((alloc ({ cls:=.type "dict",data:=.dict #[] }:Obj):Sem Addr) >>= λd=>(forIn kz PUnit.unit λx _=>(nsSet d x.1 x.2 >>= λ_=>pure (ForInStep.yield PUnit.unit))) >>= λ_=>pure (front++[(pd,Value.ref d)]))
section
variable{P:Program}{w:World}{K:yF}{mg:Str->Option Value}{base:Heap}{A:Around}{outer:List Env}{s:Shared}{H:Hp}
theorem zur{h2:Heap}{tk:Nat}{u:HO}(e0:Env0 P w K mg base A outer s H)(kp:∀b x,s.heap.get? b=some x->h2.get? b=some x)(sz:s.heap.objs.size≤h2.objs.size)(new:ObjOk P w (upd H s.heap.objs.size u) h2 s.heap.objs.size u) :
  Env0 P w K mg base A outer { s with heap:=h2,toks:=tk } (upd H s.heap.objs.size u):=by
 refine⟨e0.frames,e0.mod,λb x e=>⟨kp b x (e0.bs b x e).1,?_⟩,bh e0.bsz sz,Heap.FunFrames.of_keeps (λb x e _=>⟨x,kp b x e,rfl⟩) e0.funs,λb hb=>?_,e0.hok.laid kp (aO _) new,e0.bare⟩
 ·rw[upd_ne (Nat.ne_of_lt (Heap.lt_size (e0.bs b x e).1))];exact(e0.bs b x e).2
 ·obtain⟨_,x,hx,_⟩:=e0.funs.mem hb;rw[upd_ne (Nat.ne_of_lt (Heap.lt_size hx))];exact e0.frf b hb
end
/-- such a def's promise -/
structure KwOk(P:Program)(w:World)(K:yF)(mg:Str->Option Value)(base:Heap)(CX:CXT)(k:Nat)(f:Addr)(fd:FuncData)(ps:List Str)(pd:Str)(sp:Sp):Prop where
  run:∀(A:Around) (outer:List Env) (s:Shared) (H:Hp) (args:Args) (us:List Value) (vs:List V) (kz:List (Str×Value)) (kv:List (Str×V)) (Q:VK) (E:XK),Room k A->Env0 P w K mg base A outer s H->Kv fd args (ps.zip us) pd kz->Vals vs us->vs.length=ps.length->KV kv kz->
    (kz.map (·.1)).Nodup->kz.length≤sizeLine->(∀p,H p=Option.none->sp (vs++[V.ref p]) (upd H p (.dK (kwV kv))) Q E)->codeAny (model P w) A (.call (.ref f) args) (CR CX outer P w H s Q E) s
theorem KwOk.mono{P:Program}{w:World}{K:yF}{mg:Str->Option Value}{base:Heap}{CX:CXT}{j k:Nat}{f:Addr}{fd:FuncData}{ps:List Str}{pd:Str}{sp:Sp}(F:KwOk P w K mg base CX j f fd ps pd sp)(h:j≤k):KwOk P w K mg base CX k f fd ps pd sp:=
 ⟨λA outer s H args us vs kz kv Q E hr=>F.run A outer s H args us vs kz kv Q E (hr.mono h)⟩
theorem zzs{P:Program}{w:World}{K:yF}{mg:Str->Option Value}{base:Heap}{CX:CXT}{x qual:Str}{params:Arguments}{body:List Stmt}{scope:Scope}{dvs:List V}{kws:List (Str×V)}{f:Addr}{fd:FuncData}{N ps:List Str}{pd:Str}{k:Nat}{sp:Sp}
  (F:FunD K x qual params body scope dvs kws f fd) (S:FnScope N (ps++[pd]) scope) (hCX:StX.CXUp CX)
  (hbody:∀(cdv:Value) (A:Around) (outer:List Env) (s:Shared) (H:Hp) (vs:List V) (Q:VK) (E:XK),Room k (A.deeper (envOfC qual scope s.heap.objs.size f cdv))->sp vs H Q E->
   ∃t,PSs (cxOf CX P w K mg base N qual scope f cdv A outer s H E) body t∧t { nx:=λ_ H'=>Q .non H',rt:=Q } (start N vs) H):KwOk P w K mg base CX (k+1) f fd ps pd sp:=by iterate
 refine⟨λA outer s H args us vs kz kv Q E hr e0 hb r hl rk nd lz hsp=>?_⟩;obtain⟨oc,od,dV,kV,doc,pm,an,cdv,ct,osl,rfl,lk,hcd,_,_⟩:=F.ex;have hn:H s.heap.objs.size=Option.none:=e0.hok.fresh (aO _);refine StX.run_bnd lk hcd S hr e0 (G:=λxs H2=>∃p,H p=Option.none∧xs=vs++[V.ref p]∧H2=upd H p (.dK (kwV kv))) (λA' Ex Q' h=>?_) λs2 H2 xs ⟨p,hp,ex,eH⟩ hr'=>?_
 ·rw[hb];refine wpAny_bind (wpAny_alloc ?_);have D0:(s.heap.push ({ cls:=.type "dict",data:=.dict #[] }:Obj)).get? s.heap.objs.size=some (dictOf [] 0):=Heap.get?_push_size _ rfl;refine wpAny_bind (TV (d:=s.heap.objs.size) kz _ [] 0 D0 (λ_ he=>nomatch he) (λ_ he=>nomatch he) nd λh' tk D kp sz=>wpAny_pure ?_);rw[aM] at D;have kp2:∀b o,s.heap.get? b=some o->h'.get? b=some o:=λb o e=>by
   rw[kp b (Nat.ne_of_lt (Heap.lt_size e))];exact Heap.get?_push_of_some _ e
  have sz2:s.heap.objs.size≤h'.objs.size:=by
   rw[sz];show _≤(s.heap.push _).objs.size;rw[Heap.size_push];exact Nat.le_succ _
  have new:ObjOk P w (upd H s.heap.objs.size (.dK (kwV kv))) h' s.heap.objs.size (.dK (kwV kv)):=by
   refine⟨?_,beq_eq_false_iff_ne.mpr (Ne.symm (Nat.ne_of_lt (StX.env0_big e0))),kwK kz,TY rk,ztM nd D⟩;show((kv.map λx=>((Sum.inr x.1:Key),x.2))).length≤_;rw[aj,Paired.length rk];exact lz
  have un:Un (frs outer) [] H (upd H s.heap.objs.size (.dK (kwV kv))) s.heap h':=Un.laid kp2 (aO _) hn;have z:=h { s with heap:=h',toks:=tk } (upd H s.heap.objs.size (.dK (kwV kv))) (vs++[V.ref s.heap.objs.size]) (us++[Value.ref s.heap.objs.size]) (zur e0 kp2 sz2 new) un rfl (λe s'=>hCX outer s H _ _ E e s' un kp2 rfl) (r.append (.cons rfl .nil))
   (by rw[aA,aA,hl];rfl) ⟨_,hn,rfl,rfl⟩
  rw[List.zip_append (by rw[<-r.length];exact hl.symm)] at z;exact z
 ·subst ex eH;exact hbody cdv A outer s2 _ _ Q E hr' (hsp p hp)
def kwD(ks:List Str)(es:List D):List (Key×D):=(ks.zip es).map λx=>((.inr x.1:Key),x.2)
theorem T5{Γ:Gm}{R:List Addr}{F:Hp}:∀(j:Nat) {es:List D} {zs:List V},RepL Γ R F es zs->RepL Γ R F (es.take j) (zs.take j)∧RepL Γ R F (es.drop j) (zs.drop j)
 |0,es,zs,h=>⟨by rw[List.take_zero,List.take_zero,RepL],h⟩
 |j+1,[],zs,h=>by
  rw[RepL] at h;subst h;exact⟨by rw[List.take_nil,List.take_nil,RepL],by rw[List.drop_nil,List.drop_nil,RepL]⟩
 |j+1,e::es,zs,h=>by
  rw[RepL] at h;obtain⟨y,ys,rfl,r,l⟩:=h;obtain⟨h1,h2⟩:=T5 j l;exact⟨by rw[List.take_succ_cons,List.take_succ_cons,RepL];exact⟨y,_,rfl,r,h1⟩,h2⟩
theorem Kw{Γ:Gm}{R:List Addr}{F:Hp}{bs:List D}{ys:List V}(h2:RepL Γ R F bs ys):∀{es:List D} {zs:List V},RepL Γ R F es zs->RepL Γ R F (es++bs) (zs++ys)
 |[],zs,h=>by
  rw[RepL] at h;subst h;exact h2
 |e::es,zs,h=>by
  rw[RepL] at h;obtain⟨y,ys',rfl,r,l⟩:=h;rw[bQ,RepL];exact⟨y,_,rfl,r,Kw h2 l⟩
theorem T6{Γ:Gm}{R:List Addr}{F:Hp}:∀(ks:List Str) {es:List D} {zs:List V},RepL Γ R F es zs->RepK Γ R F (kwD ks es) (kwV (ks.zip zs))
 |[],es,zs,_=>by
  show RepK Γ R F [] [];rw[RepK]
 |k::ks,[],zs,h=>by
  rw[RepL] at h;subst h;show RepK Γ R F [] [];rw[RepK]
 |k::ks,e::es,zs,h=>by
  rw[RepL] at h;obtain⟨y,ys,rfl,r,l⟩:=h;show RepK Γ R F ((.inr k,e)::kwD ks es) ((.inr k,y)::kwV (ks.zip ys));rw[RepK];exact⟨y,_,rfl,r,T6 ks l⟩
theorem T7:∀(ks:List Str) {zs:List V} {ws:List Value},Vals zs ws->KV (ks.zip zs) (ks.zip ws)
 |[],_,_,_=>.nil
 |_::_,_,_,.nil=>.nil
 |_::ks,_,_,.cons r l=>.cons ⟨rfl,r⟩ (T7 ks l)
theorem zul{zs:List V}{ws:List Value}(h:Vals zs ws)(j:Nat):Vals (zs.take j) (ws.take j)∧Vals (zs.drop j) (ws.drop j):=by
 induction h generalizing j with
 |nil=>rw[List.take_nil,List.take_nil,List.drop_nil,List.drop_nil];exact⟨.nil,.nil⟩
 |cons r l ih=>
  cases j with
  |zero=>exact⟨.nil,.cons r l⟩
  |succ j=>exact⟨.cons r (ih j).1,(ih j).2⟩
theorem T8:∀{ks:List Str} {ws:List Value},ks.Nodup->((ks.zip ws).map (·.1)).Nodup
 |[],_,_=>List.nodup_nil
 |_::_,[],_=>List.nodup_nil
 |k::ks,w::ws,h=>by
  obtain⟨h1,h2⟩:=bz.mp h;show(k::(ks.zip ws).map (·.1)).Nodup;refine bz.mpr ⟨λhk=>h1 ?_,T8 h2⟩;obtain⟨x,hx,e⟩:=ao.mp hk;rw[<-e];exact(List.of_mem_zip (a:=x.1) (b:=x.2) hx).1
def cKw(m:List D->List Sl->Res Rv)(n j:Nat)(ks:List Str)(cs ck:M (List D)):M Rv:=λρ S=>(cs ρ S).bind λds ρ S=>(ck ρ S).bind λes ρ S=>
 if ds.length=n∧es.length=ks.length then(m (ds++es.take j++[.dK (kwD (ks.drop j) (es.drop j))]) S).at ρ else .bad
section
variable{P:Program}{wd:World}{K:yF}{mg:Str->Option Value}{base:Heap}{Γ:Gm}{k:Nat}{x qual:Str}{params:Arguments}{body:List Stmt}{scope:Scope}{dvs:List V}{kws:List (Str×V)}{f:Addr}{fd:FuncData}{N ps:List Str}{pd:Str}{c:M Fl}
theorem zwH(hF:FunD K x qual params body scope dvs kws f fd)(hS:FnScope N (ps++[pd]) scope)
  (hb:∀(cdv:Value) (A:Around) (outer:List Env) (s:Shared) (H:Hp) (E:XK),Room k (A.deeper (envOfC qual scope s.heap.objs.size f cdv))->
   Takes (cxOf (L2.CX P wd) P wd K mg base N qual scope f cdv A outer s H E) (λcls d _ H=>E cls d H)->
   PassesOwn (model P wd) (cxOf (L2.CX P wd) P wd K mg base N qual scope f cdv A outer s H E).A (cxOf (L2.CX P wd) P wd K mg base N qual scope f cdv A outer s H E).env (cxOf (L2.CX P wd) P wd K mg base N qual scope f cdv A outer s H E).xe->
   PSs (cxOf (L2.CX P wd) P wd K mg base N qual scope f cdv A outer s H E) body (tS Γ (λcls d _ H=>E cls d H) [] c)) :
  KwOk P wd K mg base (L2.CX P wd) (k+1) f fd ps pd (spM Γ (ps.length+1) (defM N.length c)):=by iterate
 refine zzs hF hS StX.cxUp λcdv A outer s H vs Q E hr ⟨hl,F,C,R,S,ds,rel,l,fk⟩=>?_;refine⟨_,hb cdv A outer s H E hr (takes_of rfl rfl rfl rfl) (passes_of rfl),?_⟩;have ln:=l.length;refine⟨F,[],C,R,env0 N.length ds,S,⟨rel.good,?_,rel.own⟩,?_⟩
 ·unfold env0 L2.start;rw[ln];exact OwnE.params _ l
 ·unfold defM at fk;cases q:c (env0 N.length ds) S with
  |ok fl ρ' S' t=>
   rw[q] at fk;cases fl with
   |nx=>
    intro w' σ' x' p' rel';obtain⟨x2,r2,o2⟩:=rel'.leave x';exact fk ⟨w'.F,[],w'.C,w'.R,w'.H⟩ .non x2 r2 (show Rep Γ w'.R w'.F .non .non from sY)
   |rt r=>
    intro w' σ' v x' p' rel' o';obtain⟨x2,r2,o2⟩:=rel'.leave x';exact fk ⟨w'.F,[],w'.C,w'.R,w'.H⟩ v x2 r2 (o2 r v o')
   |bk=>exact fk.elim
   |ct=>exact fk.elim
  |ex y ρ' S'=>
   rw[q] at fk;intro w' σ' cls d x' p' rel' o';obtain⟨x2,r2,o2⟩:=rel'.leave x';exact fk ⟨w'.F,[],w'.C,w'.R,w'.H⟩ cls d x2 r2 (by cases y<;>exact o')
  |bad=>rw[q] at fk;exact fk
end
/-- how such a call's values come to the parameters -/
def iw(K:yF)(fd:FuncData)(ps:List Str)(pd:Str)(n j:Nat)(ks:List Str):Prop:=n+j=ps.length∧j≤ks.length∧(ks.drop j).Nodup∧ks.length≤1000∧∀us ws:List Value,us.length=n->ws.length=ks.length->Kv fd ⟨us,ks.zip ws⟩ (ps.zip (us++ws.take j)) pd ((ks.drop j).zip (ws.drop j))
section
variable{X:Cx}{Γ:Gm}{W:WX}{k n j:Nat}{f C:Addr}{fd:FuncData}{ps ks:List Str}{pd x mn:Str}{p1 pos apos:Pos}{e:Expr}{es:List Expr}{kws:List Keyword}{cs ck:M (List D)}{m:List D->List Sl->Res Rv}{pl:Sem Bool}
/-- the two lists of values,then the call -/
def tKw(n j:Nat)(ks:List Str)(sp:Sp)(E:L2.St->XK)(t tk:TA):TE:=λσ H Q=>t σ H λvs H1=>tk σ H1 λzs H2=>vs.length=n∧zs.length=ks.length∧∀p,H2 p=none->sp (vs++zs.take j++[V.ref p]) (upd H2 p (.dK (kwV ((ks.drop j).zip (zs.drop j))))) Q (E σ)
theorem kw_core(hn:n+j=ps.length)(hj:j≤ks.length){σ:L2.St}{H:Hp}{Q:VK}(h:tM Γ W (cKw m n j ks cs ck) σ H Q):tKw n j ks (spM Γ (ps.length+1) m) (WE W) (tMl Γ W cs) (tMl Γ W ck) σ H Q:=by iterate
 obtain⟨F,E,C,R,ρ,S,rel,h⟩:=h;refine⟨F,E,C,R,ρ,S,rel,CKl.bindV h λds ρ1 S1 w1 vs x1 rel1 o1 ck1=>⟨w1.F,w1.E,w1.C,w1.R,ρ1,S1,rel1,CKl.bindV ck1 λes ρ2 S2 w2 zs x2 rel2 o2 ck2=>?_⟩⟩;split at ck2
 ·rename_i hl;have l1:vs.length=n:=by rw[<-o1.length];exact hl.1
  have l2:zs.length=ks.length:=by rw[<-o2.length];exact hl.2
  refine⟨l1,l2,λp hp=>?_⟩;have gd:=rel2.good;have x3:=Ext.newF (o:=HO.dK (kwV ((ks.drop j).zip (zs.drop j)))) gd hp;have g3:=Good.newF (o:=HO.dK (kwV ((ks.drop j).zip (zs.drop j)))) gd hp;have rel3:=rel2.move x3.gr g3 rfl rfl rfl;have l3:RepL Γ w2.R (upd w2.F p (HO.dK (kwV ((ks.drop j).zip (zs.drop j))))) (ds++es.take j++[.dK (kwD (ks.drop j) (es.drop j))]) (vs++zs.take j++[V.ref p]):=by
   have z1:=(o1.up x2.gr).up x3.gr;obtain⟨z2,z3⟩:=T5 j (o2.up x3.gr);refine Kw ?_ (Kw z2 z1);rw[RepL];refine⟨V.ref p,[],rfl,?_,by rw[RepL]⟩;rw[Rep];exact⟨p,_,rfl,upd_same,T6 _ z3⟩
  refine rel3.spM l3 ?_ (CK.ext (t:=false) x3 (λ_=>rfl) ?_)
  ·rw[aA,aA,hl.1,List.length_take,hl.2];show n+min j ks.length+1=ps.length+1;omega
  ·have e:∀r:Res Rv,r.addt false=r:=λr=>by cases r<;>simp[Res.addt]
   rw[e];exact ck2
 ·exact ck2.elim
theorem T9{CX:CXT}{sp:Sp}{E:L2.St->XK}{pins:List (Addr×Obj)}{σ:L2.St}{H:Hp}{s:Shared}{Q:VK}{us ws:List Value}{vs zs:List V}(F:KwOk X.prog X.w X.K X.mg X.base CX k f fd ps pd sp)(hr:Room k X.A)(hb:iw X.K fd ps pd n j ks)(hx:PassesAt CX X σ (E σ))
  (I:Inv X pins σ H s) (r:Vals vs us) (rz:Vals zs ws) (l1:vs.length=n) (l2:zs.length=ks.length) (h:∀p,H p=none->sp (vs++zs.take j++[V.ref p]) (upd H p (.dK (kwV ((ks.drop j).zip (zs.drop j))))) Q (E σ)) :
  wpAny (model X.prog X.w) X.A (call (.ref f) us (ks.zip ws)) (EP X pins σ Q) X.xe s:=by iterate
 obtain⟨hn,hj,nd,lk,hb⟩:=hb;obtain⟨r1,r2⟩:=zul rz j;refine wpAny_call (codeAny_mono (F.run X.A X.stack s H ⟨us,ks.zip ws⟩ (us++ws.take j) (vs++zs.take j) ((ks.drop j).zip (ws.drop j)) ((ks.drop j).zip (zs.drop j)) Q (E σ) hr I.env0 (hb us ws (r.length.symm.trans l1) (rz.length.symm.trans l2)) (r.append r1) ?_ (T7 _ r2) (T8 nd) ?_ h) λr s' hq=>?_)
 ·rw[aA,List.length_take,l1,l2];omega
 ·rw[List.length_zip,List.length_drop];have:ks.length - j≤1000:=by omega
  exact bh (Nat.min_le_left _ _) (bh this (by rw[sizeLine_eq];decide))
 cases r with
 |error e=>exact hx pins H s e s' I hq
 |ok fl=>
  cases fl with
  |ret u=>exact I.after hq
  |next=>exact False.elim hq
  |brk=>exact False.elim hq
  |cont=>exact False.elim hq
theorem lM(M:SMet X.K C mn f)(F:KwOk X.prog X.w X.K X.mg X.base (L2.CX X.prog X.w) k f fd ps pd (spM Γ (ps.length+1) m))(hr:Room k X.A)(hg:Gl X x)(hm:X.mg x=some (.ref C))(hk:PySem.W.keepIn X.K (.ref f)=true)(hb:iw X.K fd ps pd n j ks)(tk:Takes X W)
  (ha:PA X (e::es) (tMl Γ W cs)) (hkw:PK X kws (tMl Γ W ck)) (hall:(backToKw pos (keywordEach kws X.env)).all (·.1.isSome)=true) (hks:(backToKw pos (keywordEach kws X.env)).filterMap (·.1)=ks)
  (hdb:(x == ("__debug__" : Str))=false) (he:starEach (e::es) X.env=(false,eval e X.env)::starEach es X.env)
  (hpl:((backTo pos (starEach (e::es) X.env)).any (·.1) ||(backToKw pos (keywordEach kws X.env)).any (·.1.isNone))=false)
  (ht:eval (.Call (.Attribute (.Name x p1) mn apos) (e::es) kws pos) X.env=(do
   let ov <-eval (.Name x p1) X.env
   standAt apos.atName
   let (f,first) <-holding [ov] (getMethod ov mn pl)
   callWith pos f first (backTo pos (starEach (e::es) X.env)) (backToKw pos (keywordEach kws X.env)))) :
  PE X (.Call (.Attribute (.Name x p1) mn apos) (e::es) kws pos) (tM Γ W (cKw m n j ks cs ck)):=by iterate
 refine PE.imp (t:=tKw n j ks (spM Γ (ps.length+1) m) (WE W) (tMl Γ W cs) (tMl Γ W ck)) ?_ λ_ _ _ h=>kw_core hb.1 hb.2.1 h;refine⟨λpins s σ H Q I h=>?_⟩;refine PySem.W.methodCall_KW (ld_glob I hg hm ?_ hdb) ht;refine Tc M I λs0 I0=>?_;refine PySem.W.callWith_KW (h₀:=X.base) I0.ok.mod.kin hk hall (thn (ha.run pos pins s0 σ H _ I0 h) λus s1 ⟨vs,H1,I1,r,q⟩=>?_) hpl he;refine thn (hkw.run pos pins s1 σ H1 _ I1 q) λws s2 ⟨zs,H2,I2,rz,l1,l2,q2⟩=>⟨I2.kIn,?_⟩;rw[hks];exact T9 F hr hb (passAt tk σ) I2 r rz l1 l2 q2
theorem zjE(M:SMet X.K C mn f)(F:KwOk X.prog X.w X.K X.mg X.base (L2.CX X.prog X.w) k f fd ps pd (spM Γ (ps.length+1) m))(hr:Room k X.A)(hg:Gl X x)(hm:X.mg x=some (.ref C))(hk:PySem.W.keepIn X.K (.ref f)=true)(hb:iw X.K fd ps pd 0 j ks)(tk:Takes X W)
  (hkw:PK X kws (tMl Γ W ck)) (hall:(backToKw pos (keywordEach kws X.env)).all (·.1.isSome)=true) (hks:(backToKw pos (keywordEach kws X.env)).filterMap (·.1)=ks)
  (hdb:(x == ("__debug__" : Str))=false)
  (hpl:((backTo pos (starEach [] X.env)).any (·.1) ||(backToKw pos (keywordEach kws X.env)).any (·.1.isNone))=false)
  (ht:eval (.Call (.Attribute (.Name x p1) mn apos) [] kws pos) X.env=(do
   let ov <-eval (.Name x p1) X.env
   standAt apos.atName
   let (f,first) <-holding [ov] (getMethod ov mn pl)
   callWith pos f first (backTo pos (starEach [] X.env)) (backToKw pos (keywordEach kws X.env)))) :
  PE X (.Call (.Attribute (.Name x p1) mn apos) [] kws pos) (tM Γ W (cKw m 0 j ks cG ck)):=by iterate
 refine PE.imp (t:=tKw 0 j ks (spM Γ (ps.length+1) m) (WE W) tNil (tMl Γ W ck)) ?_ λσ H Q h=>by
  obtain⟨F,E,C,R,ρ,S,rel,h⟩:=kw_core hb.1 hb.2.1 h;exact h ⟨F,E,C,R,H⟩ [] (.refl _) (λ_=>rfl) rel (by rw[RepL])
 refine⟨λpins s σ H Q I h=>?_⟩;refine PySem.W.methodCall_KW (ld_glob I hg hm ?_ hdb) ht;refine Tc M I λs0 I0=>?_;refine PySem.W.callWith_KW0 (h₀:=X.base) I0.ok.mod.kin hk hall ?_ hpl;refine thn (hkw.run pos pins s0 σ H _ I0 h) λws s2 ⟨zs,H2,I2,rz,l1,l2,q2⟩=>⟨I2.kIn,?_⟩;rw[hks];exact T9 (us:=[]) (vs:=[]) F hr hb (passAt tk σ) I2 .nil rz l1 l2 q2
end
section
variable{ρ S:List Sl}{QR:Rv->List Sl->List Sl->Prop}{E:XQ}{m:List D->List Sl->Res Rv}{n j:Nat}{ks:List Str}{cs ck:M (List D)}
theorem j6(h:wp cs ρ S (λds ρ S=>wp ck ρ S (λes ρ S=>wG (ds.length=n∧es.length=ks.length) (wA m (ds++es.take j++[.dK (kwD (ks.drop j) (es.drop j))]) ρ S QR E)) E) E):wp (cKw m n j ks cs ck) ρ S QR E:=
 cP (cM h (λ_ _ _ h=>cP (cM h (λ_ _ _ h=>by rw[if_pos h.1];exact lJ h.2) λ_ _ _ h=>h)) λ_ _ _ h=>h)
end
theorem j7{K:yF}{x qual:Str}{params:Arguments}{body:List Stmt}{scope:Scope}{f:Addr}{fd:FuncData}{ps ks:List Str}{pd:Str}{n j:Nat}(F:FunD K x qual params body scope [] [] f fd)(h1:n+j=ps.length)(h2:j≤ks.length)(h3:(ks.drop j).Nodup)(h4:ks.length≤1000)
  (h:∀(kV doc pm:Value) (an:Option Addr) (cdv ct:Value) (us ws:List Value),us.length=n->ws.length=ks.length->Kv (PySem.W.fnOf x qual params body scope .none kV doc pm an cdv ct) ⟨us,ks.zip ws⟩ (ps.zip (us++ws.take j)) pd ((ks.drop j).zip (ws.drop j))):iw K fd ps pd n j ks:=by
 obtain⟨oc,od,dV,kV,doc,pm,an,cdv,ct,osl,rfl,_,_,dv,_⟩:=F.ex;rcases dv with ⟨_,rfl⟩|⟨z,_⟩
 ·exact⟨h1,h2,h3,h4,λus ws l1 l2=>h kV doc pm an cdv ct us ws l1 l2⟩
 ·exact absurd rfl z
end
end DV
namespace Lk09
open PySem PySem.Spec PyProof.Rows L2 DV
def flds:Nat->Str->Bool:=fldT fldl
def kons:Nat->Str->Option D:=konT konl
abbrev Ky:LamI:=lamOf "law.<locals>.<lambda>" (chE (chE (stE (stB ((defBody dN).getD 1 (.Pass ⟨0,0,0,0⟩)) 0 5)) 1) 0)
abbrev Kz:LamI:=lamOf "law.<locals>.<lambda>" (chE (chE (stE (stB ((defBody dN).getD 1 (.Pass ⟨0,0,0,0⟩)) 0 5)) 1) 1)
abbrev KC:LamI:=lamOf "law.<locals>.<lambda>" (chE (chE (chE (chE (stE (stB ((defBody dN).getD 1 (.Pass ⟨0,0,0,0⟩)) 0 8)) 0) 1) 1) 0)
abbrev KD:LamI:=lamOf "law.<locals>.<lambda>" (chE (chE (chE (chE (stE (stB ((defBody dN).getD 1 (.Pass ⟨0,0,0,0⟩)) 0 8)) 0) 1) 1) 1)
abbrev KH:LamI:=lamOf "law.<locals>.<lambda>" (chE (stE ((defBody dN).getD 6 (.Pass ⟨0,0,0,0⟩))) 0)
abbrev KJ:LamI:=lamOf "law.<locals>.<lambda>" (chE (stE ((defBody dN).getD 6 (.Pass ⟨0,0,0,0⟩))) 1)
abbrev KN:LamI:=lamOf "law.<locals>.<lambda>" (chE (stE ((defBody dN).getD 6 (.Pass ⟨0,0,0,0⟩))) 2)
abbrev KQ:LamI:=lamOf "law.<locals>.<lambda>" (chE (stE ((defBody dN).getD 6 (.Pass ⟨0,0,0,0⟩))) 3)
def zxW:Nat->LamI:=λk=>([Ky,Kz,KC,KD,KH,KJ,KN,KQ]:List LamI).getD k noL
abbrev Gk(K:yF)(ce:List (Str×Addr)):Gm:=⟨K,λc=>He.ga K (cnm c),zxW,ce,λ_=>(lawT K).2⟩
def xfs:Nat->Str->Bool:=fldT xfl
abbrev zgC:Nat:=3
abbrev zfB:Nat:=4
abbrev zeC:Nat:=2
abbrev ze4:Nat:=1
abbrev KR:Nat:=0
local macro_rules
 | `(tactic| nofun) => `(tactic| exact ⟨rfl, rfl, rfl, by decide +kernel, rfl, by decide +kernel, by decide +kernel⟩)
local macro_rules
 | `(tactic| ac_rfl) => `(tactic| decide +kernel)
theorem zvF:FnScope ["value","least","most"] ["value","least","most"] (defScope rW):=by nofun
theorem Ua:FnScope ["value","signs","sign"] ["value","signs"] (defScope rY):=by nofun
theorem zx8:FnScope ["value"] ["value"] (defScope rZ):=by nofun
theorem zvg:FnScope ["value","symbols"] ["value","symbols"] (defScope sr):=by nofun
theorem zw9:FnScope ["value"] ["value"] (defScope su):=by nofun
theorem zvm:FnScope ["value"] ["value"] (defScope sE):=by nofun
theorem zz7:FnScope ["self","given"] ["self","given"] (defScope s_z0):=by nofun
theorem zzx:FnScope ["self","given"] ["self","given"] (defScope s_z3):=by nofun
theorem Ub:FnScope ["self","symbols","values","value"] ["self","symbols","values"] (defScope s_z6):=by nofun
theorem zz5:FnScope ["self"] ["self"] (defScope s_z7):=by nofun
theorem zwF:FnScope ["self"] ["self"] (defScope sG):=by nofun
theorem zyt:FnScope ["self","given"] ["self","given"] (defScope s_z1):=by nofun
theorem vh:FnScope ["symbols","more","word","symbol"] ["symbols","more"] (defScope pO):=by nofun
theorem zyd:FnScope ["self","symbol","value"] ["self","symbol","value"] (defScope s_z4):=by nofun
theorem zyO:FnScope ["self","given"] ["self","given"] (defScope s_z2):=by nofun
theorem KY:FnScope ["self","times","value"] ["self","times"] (defScope s_z8):=by nofun
theorem zyX:FnScope ["self","times"] ["self","times"] (defScope s_z5):=by nofun
theorem vm:FnScope ["_law_script","_law_mixed","_law_cell"] ["_law_script"] (defScope sH):=by nofun
theorem pG:FnScope ["_law_bag","_law_sides","_law_cell","_law_small","_law_digit","_law_seed","_law_step"] ["_law_bag","_law_sides"] (defScope sJ):=by nofun
theorem zvN:FnScope ["_law_bag","_law_things"] ["_law_bag","_law_things"] (defScope sO):=by nofun
theorem vo:FnScope ["_law_found","_law_due","_law_a_z","_law_b_z"] ["_law_found","_law_due"] (defScope pP):=by nofun
theorem zwT:FnScope ["_law_e"] ["_law_e"] (defScope sS):=by nofun
theorem zvt:FnScope ["_law_ask","_law_e"] ["_law_ask"] (defScope sU):=by nofun
theorem KZ:FnScope ["_law_asks","_law_ask"] ["_law_asks"] (defScope pQ):=by nofun
theorem vp:FnScope ["_law_bag","_law_most","_law_left","_law_k"] ["_law_bag","_law_most"] (defScope s_z9):=by nofun
theorem Uc:FnScope ["_law_bag","_law_way"] ["_law_bag"] (defScope sV):=by nofun
theorem K6:FnScope ["_law_bag","_law_symbols_z","_law_symbol"] ["_law_bag","_law_symbols_z"] (defScope pU):=by nofun
theorem eO:FnScope ["_law_script","_law_bag","_law_turn","_law_symbols_z","_law_prices_here","_law_times","_law_made","_law_great","_law_due","_law_found","_law_bad","_law_twice","_law_one","_law_two","_law_odd","_law_asks","_law_price","<tab>"] ["_law_script"] (defScope dN):=by nofun
abbrev hk:PySem.W.Hook:=Kh 5 chk fnl
theorem zyV(s:PySem.W.SharedT):ob s=hk.obs s.abs:=zri (HandSHeadRun.getT_eq s)
section
open PySem.W PySem.Calls
theorem run(w:World):HandSHeadRun.RunEq R (PySem.W.view R.prog [32]) hk ob 20000 nms w:=λos=>by
 have h1:=run1 w os;have h2:=run2 w os;cases e:(HandSHeadRun.endF (HandSHeadRun.stepQ (HandSHeadRun.denQ HandSHeadRun.tabQ) R.prog w) 20000 R.prog w os) with
 |none=>rw[e] at h1;cases h1
 |some s=>
  rw[e] at h1 h2;have h1:=aZ h1;have h2:ob s=hk.val w:=aZ h2;obtain⟨a,b⟩:=Prod.mk.inj h1;exact congrArg some (Prod.ext a (Prod.ext b h2))
end
abbrev zw8:Prop:=∀{P:Program} {wd:World} {K:yF} {h:Heap} {mg:Str->Option Value} (X:K.In h) (G:h.Ns mainGlobals mg) (c:jm chk fnl K),
  ∃(fa:Addr) (fd:FuncData),mg "law" = some (.ref fa)∧(∀(s:Shared) (u:Value),BindsTo s fd ⟨[u],[]⟩ [("_law_script",u)])∧∀base:Heap,LamX.TabB base mg (lawT K).1 (lawT K).2->FnOk P wd K mg base (L2.CX P wd) 10 fa fd ["_law_script"] (pD K 63 (lawT K).2)
end Lk09
section
open PySem PySem.W PySem.Calls PyProof.Rows
theorem Lk09.holds_of0(F:Lk09.zw8):PySem.Challenge.rw_rightfrom_k09_costs_multiplied_and_price.Holds:=by iterate
 refine Lk09.o0 λsaid=>?_;refine HandSHeadRun.head_any (r:=OpenLaw.row PySem.Challenge.rw_rightfrom_k09_costs_multiplied_and_price) (q:=view (OpenLaw.row PySem.Challenge.rw_rightfrom_k09_costs_multiplied_and_price).prog [32]) (H:=Lk09.hk) (ob:=Lk09.ob) (M:=20000) (loose:=Lk09.nms) (d:=HandSHeadRun.topDef (OpenLaw.row PySem.Challenge.rw_rightfrom_k09_costs_multiplied_and_price).prog 32) (kwd:=[]) Lk09.zyV
  (by kernel_rfl) (λs=>by kernel_rfl) Lk09.run (by kernel_rfl) (by kernel_rfl) (by kernel_rfl) (by rfl) (by first|assumption|decide +kernel) (by decide +kernel) ⟨rfl,rfl,rfl,rfl,rfl,by decide +kernel⟩ ?hw ?hc
 case hw=>w_witness2
 case hc=>
  refine DV.zqZ (law:=PySem.Challenge.rw_rightfrom_k09_costs_multiplied_and_price) (k:=10) (x:="_law_script") rfl (by kernel_rfl) ⟨rfl,by decide,by decide⟩ ?F;intro w K mg h KX G c;have e:(HandSHeadRun.topDef (OpenLaw.row PySem.Challenge.rw_rightfrom_k09_costs_multiplied_and_price).prog 32).name=("law" : PySem.Str):=by kernel_rfl
  rw[e];exact F KX G c
end
namespace Lk09
open PySem PySem.Spec PyProof.Rows L2 DV
section
structure Tx(K:yF)(mg:Str->Option Value):Prop where
  g_is_number:mg "is_number" = some (.ref (He.ga K "is_number"))
  g_only_of:mg "only_of" = some (.ref (He.ga K "only_of"))
  g_is_symbols:mg "is_symbols" = some (.ref (He.ga K "is_symbols"))
  g_is_symbol:mg "is_symbol" = some (.ref (He.ga K "is_symbol"))
  g_is_row:mg "is_row" = some (.ref (He.ga K "is_row"))
  g_is_cost:mg "is_cost" = some (.ref (He.ga K "is_cost"))
  g__law_open:mg "_law_open" = some (.ref (He.ga K "_law_open"))
  g__law_draw:mg "_law_draw" = some (.ref (He.ga K "_law_draw"))
  g__law_of:mg "_law_of" = some (.ref (He.ga K "_law_of"))
  g__law_same:mg "_law_same" = some (.ref (He.ga K "_law_same"))
  g__law_field:mg "_law_field" = some (.ref (He.ga K "_law_field"))
  g__law_try:mg "_law_try" = some (.ref (He.ga K "_law_try"))
  g__law_tries:mg "_law_tries" = some (.ref (He.ga K "_law_tries"))
  g__law_symbols:mg "_law_symbols" = some (.ref (He.ga K "_law_symbols"))
  g__law_cost:mg "_law_cost" = some (.ref (He.ga K "_law_cost"))
  g__law_prices:mg "_law_prices" = some (.ref (He.ga K "_law_prices"))
  g_law:mg "law" = some (.ref (He.ga K "law"))
  g_Costs:mg "Costs" = some (.ref (He.ga K "Costs"))
  cls_Costs:Cls K (He.ga K "Costs")
  mk_Costs:Mk K (He.ga K "Costs") (He.ma K (He.ga K "Costs") "__init__")
  sm_Costs_priced:SMet K (He.ga K "Costs") "priced" (wfA "staticmethod" "Costs" "priced" K)
  m_z8:Meth K (He.ga K "Costs") "__mul__" (He.ma K (He.ga K "Costs") "__mul__")
  m_z5:Meth K (He.ga K "Costs") "__rmul__" (He.ma K (He.ga K "Costs") "__rmul__")
  m_z4:Meth K (He.ga K "Costs") "__setitem__" (He.ma K (He.ga K "Costs") "__setitem__")
  m_z11:Meth K (He.ga K "Costs") "listed" (He.ma K (He.ga K "Costs") "listed")
  p_Costs_symbols:PropOf K (He.ga K "Costs") "symbols" (He.ma K (He.ga K "Costs") "symbols") (wfA "property" "Costs" "symbols" K)
  ml_Costs:mulK K (He.ga K "Costs")=true
  mr_Costs:refO (PySem.W.findIn K (.ref (He.ga K "Costs")) (PySem.dunderR "mul"))=true
  sf_Costs:PySem.W.selfFirst K (He.ga K "Costs")=true
  ns_Costs:PySem.W.noSeq K (He.ga K "Costs")=true
  ct_:∀ce,ClT (Gk K ce) ncl sub
  ft_:∀ce,FT (Gk K ce) flds
  kt_:∀ce,KonT (Gk K ce) kons
  g_InvalidCost:mg "InvalidCost" = some (.ref (He.ga K "InvalidCost"))
  ex_InvalidCost:ExcK K (He.ga K "InvalidCost") ["given"]
  ei_InvalidCost:PySem.W.findIn K (.ref (He.ga K "InvalidCost")) "__init__" = some (some (.ref (He.ma K (He.ga K "InvalidCost") "__init__")))
  et_InvalidCost:PySem.W.typeIn K (.ref (He.ma K (He.ga K "InvalidCost") "__init__"))=some (.type "function")
  g_InvalidNumber:mg "InvalidNumber" = some (.ref (He.ga K "InvalidNumber"))
  ex_InvalidNumber:ExcK K (He.ga K "InvalidNumber") ["given"]
  ei_InvalidNumber:PySem.W.findIn K (.ref (He.ga K "InvalidNumber")) "__init__" = some (some (.ref (He.ma K (He.ga K "InvalidNumber") "__init__")))
  et_InvalidNumber:PySem.W.typeIn K (.ref (He.ma K (He.ga K "InvalidNumber") "__init__"))=some (.type "function")
  g_InvalidSymbol:mg "InvalidSymbol" = some (.ref (He.ga K "InvalidSymbol"))
  ex_InvalidSymbol:ExcK K (He.ga K "InvalidSymbol") ["given"]
  ei_InvalidSymbol:PySem.W.findIn K (.ref (He.ga K "InvalidSymbol")) "__init__" = some (some (.ref (He.ma K (He.ga K "InvalidSymbol") "__init__")))
  et_InvalidSymbol:PySem.W.typeIn K (.ref (He.ma K (He.ga K "InvalidSymbol") "__init__"))=some (.type "function")
  g_InvalidSymbols:mg "InvalidSymbols" = some (.ref (He.ga K "InvalidSymbols"))
  ex_InvalidSymbols:ExcK K (He.ga K "InvalidSymbols") ["given"]
  ei_InvalidSymbols:PySem.W.findIn K (.ref (He.ga K "InvalidSymbols")) "__init__" = some (some (.ref (He.ma K (He.ga K "InvalidSymbols") "__init__")))
  et_InvalidSymbols:PySem.W.typeIn K (.ref (He.ma K (He.ga K "InvalidSymbols") "__init__"))=some (.type "function")
  cat_:∀ce,CatT (Gk K ce) ((["FromError","Missing","NothingLeft"]:List Str).map λx=>.ref (He.ga K x)) (λc=>catl.contains c)
  xt:∀ce,XT (Gk K ce) xfs
  g_FromError:mg "FromError" = some (.ref (He.ga K "FromError"))
  g_Missing:mg "Missing" = some (.ref (He.ga K "Missing"))
  g_NothingLeft:mg "NothingLeft" = some (.ref (He.ga K "NothingLeft"))
  ve_FromError:VeB K (He.ga K "FromError")
  f_abs:mg "abs" = none
  f_all:mg "all" = none
  f_bool:mg "bool" = none
  f_int:mg "int" = none
  f_isinstance:mg "isinstance" = none
  f_len:mg "len" = none
  f_list:mg "list" = none
  f_range:mg "range" = none
  f_set:mg "set" = none
  f_sorted:mg "sorted" = none
  f_str:mg "str" = none
  f_tuple:mg "tuple" = none
  f_zip:mg "zip" = none
  k_GREATEST:∃t,mg "GREATEST" = some (.int 1000000000000 t)
  k_SIGNS:∃t,mg "SIGNS" = some (.str "abcdefghijklmnopqrstuvwxyz0123456789" t)
theorem Ud{K:yF}{h:Heap}{mg:Str->Option Value}(X:K.In h)(G:h.Ns mainGlobals mg)(c:chk K=true):Tx K mg:=by iterate
 exact⟨He.glo_ok X G (cQ (l:=chkl K) c 0 rfl),
  He.glo_ok X G (cQ (l:=chkl K) c 1 rfl),
  He.glo_ok X G (cQ (l:=chkl K) c 2 rfl),
  He.glo_ok X G (cQ (l:=chkl K) c 3 rfl),
  He.glo_ok X G (cQ (l:=chkl K) c 4 rfl),
  He.glo_ok X G (cQ (l:=chkl K) c 5 rfl),
  He.glo_ok X G (cQ (l:=chkl K) c 6 rfl),
  He.glo_ok X G (cQ (l:=chkl K) c 7 rfl),
  He.glo_ok X G (cQ (l:=chkl K) c 8 rfl),
  He.glo_ok X G (cQ (l:=chkl K) c 9 rfl),
  He.glo_ok X G (cQ (l:=chkl K) c 10 rfl),
  He.glo_ok X G (cQ (l:=chkl K) c 11 rfl),
  He.glo_ok X G (cQ (l:=chkl K) c 12 rfl),
  He.glo_ok X G (cQ (l:=chkl K) c 13 rfl),
  He.glo_ok X G (cQ (l:=chkl K) c 14 rfl),
  He.glo_ok X G (cQ (l:=chkl K) c 15 rfl),
  He.glo_ok X G (cQ (l:=chkl K) c 16 rfl),
  He.glo_ok X G (cQ (l:=chkl K) c 17 rfl),
  He.cls_ok (cQ (l:=chkl K) c 18 rfl),
  He.mkr_ok (cQ (l:=chkl K) c 19 rfl),
  zug (cQ (l:=chkl K) c 20 rfl),
  He.meth_ok (cQ (l:=chkl K) c 21 rfl),
  He.meth_ok (cQ (l:=chkl K) c 22 rfl),
  He.meth_ok (cQ (l:=chkl K) c 23 rfl),
  He.meth_ok (cQ (l:=chkl K) c 24 rfl),
  ztx (cQ (l:=chkl K) c 25 rfl),
  (cQ (l:=chkl K) c 26 rfl),
  (cQ (l:=chkl K) c 27 rfl),
  (cQ (l:=chkl K) c 28 rfl),
  (cQ (l:=chkl K) c 29 rfl),
  λ_=>zw0 (cQ (l:=chkl K) c 30 rfl),
  λ_=>zzo (cQ (l:=chkl K) c 31 rfl),
  λ_=>zva (cQ (l:=chkl K) c 32 rfl),
  He.glo_ok X G (cQ (l:=chkl K) c 33 rfl),
  uP (cQ (l:=chkl K) c 34 rfl),
  He.eqO_ok (cQ (l:=chkl K) c 35 rfl),
  aR (cQ (l:=chkl K) c 36 rfl),
  He.glo_ok X G (cQ (l:=chkl K) c 37 rfl),
  uP (cQ (l:=chkl K) c 38 rfl),
  He.eqO_ok (cQ (l:=chkl K) c 39 rfl),
  aR (cQ (l:=chkl K) c 40 rfl),
  He.glo_ok X G (cQ (l:=chkl K) c 41 rfl),
  uP (cQ (l:=chkl K) c 42 rfl),
  He.eqO_ok (cQ (l:=chkl K) c 43 rfl),
  aR (cQ (l:=chkl K) c 44 rfl),
  He.glo_ok X G (cQ (l:=chkl K) c 45 rfl),
  uP (cQ (l:=chkl K) c 46 rfl),
  He.eqO_ok (cQ (l:=chkl K) c 47 rfl),
  aR (cQ (l:=chkl K) c 48 rfl),
  λ_=>zvO (cQ (l:=chkl K) c 49 rfl),
  λ_=>zyg (cQ (l:=chkl K) c 50 rfl),
  He.glo_ok X G (cQ (l:=chkl K) c 51 rfl),
  He.glo_ok X G (cQ (l:=chkl K) c 52 rfl),
  He.glo_ok X G (cQ (l:=chkl K) c 53 rfl),
  ztv (cQ (l:=chkl K) c 54 rfl),
  He.free_ok X G (cQ (l:=chkl K) c 55 rfl),
  He.free_ok X G (cQ (l:=chkl K) c 56 rfl),
  He.free_ok X G (cQ (l:=chkl K) c 57 rfl),
  He.free_ok X G (cQ (l:=chkl K) c 58 rfl),
  He.free_ok X G (cQ (l:=chkl K) c 59 rfl),
  He.free_ok X G (cQ (l:=chkl K) c 60 rfl),
  He.free_ok X G (cQ (l:=chkl K) c 61 rfl),
  He.free_ok X G (cQ (l:=chkl K) c 62 rfl),
  He.free_ok X G (cQ (l:=chkl K) c 63 rfl),
  He.free_ok X G (cQ (l:=chkl K) c 64 rfl),
  He.free_ok X G (cQ (l:=chkl K) c 65 rfl),
  He.free_ok X G (cQ (l:=chkl K) c 66 rfl),
  He.free_ok X G (cQ (l:=chkl K) c 67 rfl),
  He.int_ok X G (cQ (l:=chkl K) c 68 rfl),
  He.str_ok X G (cQ (l:=chkl K) c 69 rfl)⟩
abbrev Ue:List D->List D->List D:=λds es=>pick [0] (ds++es)
theorem zqO{K:yF}(T:Tx K mg)(F:FnA mZ K f fd):d9 (Gk K ce) K fd ["_law_script"] 1 [] Ue:=
 cb_N (ps:=["_law_script"]) F 1 [] [0] rfl (by decide) λ_ _ _ _ _ _ us ws l1 l2=>match us,ws,l1,l2 with|[_],[],_,_=>rfl
abbrev Ug:List D->List D->List D:=λds es=>pick [0,1] (ds++es)
theorem zta{K:yF}(T:Tx K mg)(F:FnA nM K f fd):d9 (Gk K ce) K fd ["_law_bag","_law_most"] 2 [] Ug:=
 cb_N (ps:=["_law_bag","_law_most"]) F 2 [] [0,1] rfl (by decide) λ_ _ _ _ _ _ us ws l1 l2=>match us,ws,l1,l2 with|[_,_],[],_,_=>rfl
abbrev Uh:List D->List D->List D:=λds es=>pick [0,1] (ds++es)
theorem zqR{K:yF}(T:Tx K mg)(F:FnA nQ K f fd):d9 (Gk K ce) K fd ["_law_bag","_law_symbols_z"] 2 [] Uh:=
 cb_N (ps:=["_law_bag","_law_symbols_z"]) F 2 [] [0,1] rfl (by decide) λ_ _ _ _ _ _ us ws l1 l2=>match us,ws,l1,l2 with|[_,_],[],_,_=>rfl
abbrev vq:List D->List D->List D:=λds es=>pick [0,1] (ds++es)
theorem K7{K:yF}(T:Tx K mg)(F:FnA m9 K f fd):d9 (Gk K ce) K fd ["_law_bag","_law_things"] 2 [] vq:=
 cb_N (ps:=["_law_bag","_law_things"]) F 2 [] [0,1] rfl (by decide) λ_ _ _ _ _ _ us ws l1 l2=>match us,ws,l1,l2 with|[_,_],[],_,_=>rfl
abbrev j8:List D->List D->List D:=λds es=>pick [0,1] (ds++es)
theorem lN{K:yF}(T:Tx K mg)(F:FnA m7 K f fd):d9 (Gk K ce) K fd ["_law_bag","_law_sides"] 2 [] j8:=
 cb_N (ps:=["_law_bag","_law_sides"]) F 2 [] [0,1] rfl (by decide) λ_ _ _ _ _ _ us ws l1 l2=>match us,ws,l1,l2 with|[_,_],[],_,_=>rfl
abbrev vz:List D->List D->List D:=λds es=>pick [0,1] (ds++es)
theorem K8{K:yF}(T:Tx K mg)(F:FnA mK K f fd):CallI (Gk K ce) K fd ["self","symbols","values"] 2 [] vz:=
 zzC (ps:=["self","symbols","values"]) F 2 [] [0,1] rfl (by decide) λ_ _ _ _ _ _ us ws l1 l2=>match us,ws,l1,l2 with|[_,_,_],[],_,_=>rfl
abbrev vA:List D->List D->List D:=λds es=>pick [0] (ds++es)
theorem K9{K:yF}(T:Tx K mg)(F:FnA nJ K f fd):d9 (Gk K ce) K fd ["_law_asks"] 1 [] vA:=
 cb_N (ps:=["_law_asks"]) F 1 [] [0] rfl (by decide) λ_ _ _ _ _ _ us ws l1 l2=>match us,ws,l1,l2 with|[_],[],_,_=>rfl
abbrev lO:List D->List D->List D:=λds es=>pick [0,1] (ds++es)
theorem pH{K:yF}(T:Tx K mg)(F:FnA ni K f fd):d9 (Gk K ce) K fd ["_law_found","_law_due"] 2 [] lO:=
 cb_N (ps:=["_law_found","_law_due"]) F 2 [] [0,1] rfl (by decide) λ_ _ _ _ _ _ us ws l1 l2=>match us,ws,l1,l2 with|[_,_],[],_,_=>rfl
abbrev jw:List D->List D->List D:=λds es=>pick [0] (ds++es)
theorem j9{K:yF}(T:Tx K mg)(F:FnA mQ K f fd):d9 (Gk K ce) K fd ["self"] 1 [] jw:=
 cb_N (ps:=["self"]) F 1 [] [0] rfl (by decide) λ_ _ _ _ _ _ us ws l1 l2=>match us,ws,l1,l2 with|[_],[],_,_=>rfl
abbrev vB:List D->List D->List D:=λds es=>pick [0] (ds++es)
theorem La{K:yF}(T:Tx K mg)(F:FnA nO K f fd):d9 (Gk K ce) K fd ["_law_bag"] 1 [] vB:=
 cb_N (ps:=["_law_bag"]) F 1 [] [0] rfl (by decide) λ_ _ _ _ _ _ us ws l1 l2=>match us,ws,l1,l2 with|[_],[],_,_=>rfl
theorem zqk{K:yF}{f:Addr}{fd:FuncData}(F:FnA gG K f fd):iw K fd ["symbols"] "more" 1 0 []:=
 j7 F rfl (by decide) (by decide +kernel) (by decide) λ_ _ _ _ _ _ us ws l1 l2=>match us,ws,l1,l2 with|[_],[],_,_=>rfl
theorem zmb{K:yF}{f:Addr}{fd:FuncData}(F:FnA gG K f fd):iw K fd ["symbols"] "more" 1 0 ["b"]:=
 j7 F rfl (by decide) (by decide +kernel) (by decide) λ_ _ _ _ _ _ us ws l1 l2=>match us,ws,l1,l2 with|[_],[_],_,_=>rfl
theorem zij{K:yF}{f:Addr}{fd:FuncData}(F:FnA gG K f fd):iw K fd ["symbols"] "more" 1 0 ["y","x"]:=
 j7 F rfl (by decide) (by decide +kernel) (by decide) λ_ _ _ _ _ _ us ws l1 l2=>match us,ws,l1,l2 with|[_],[_,_],_,_=>rfl
theorem zcG{K:yF}{f:Addr}{fd:FuncData}(F:FnA gG K f fd):iw K fd ["symbols"] "more" 0 1 ["symbols","x","y"]:=
 j7 F rfl (by decide) (by decide +kernel) (by decide) λ_ _ _ _ _ _ us ws l1 l2=>match us,ws,l1,l2 with|[],[_,_,_],_,_=>rfl
abbrev Ld:List D->List D->List D:=λds es=>pick [0] (ds++es)
theorem Ui{K:yF}(T:Tx K mg)(F:FnA lY K f fd):d9 (Gk K ce) K fd ["value"] 1 [] Ld:=
 cb_N (ps:=["value"]) F 1 [] [0] rfl (by decide) λ_ _ _ _ _ _ us ws l1 l2=>match us,ws,l1,l2 with|[_],[],_,_=>rfl
abbrev Le:List D->List D->List D:=λds es=>pick [0,1] (ds++es)
theorem Uj{K:yF}(T:Tx K mg)(F:FnA lZ K f fd):d9 (Gk K ce) K fd ["value","symbols"] 2 [] Le:=
 cb_N (ps:=["value","symbols"]) F 2 [] [0,1] rfl (by decide) λ_ _ _ _ _ _ us ws l1 l2=>match us,ws,l1,l2 with|[_,_],[],_,_=>rfl
abbrev Uk:List D->List D->List D:=λds es=>pick [0] (ds++es)
theorem zqi{K:yF}(T:Tx K mg)(F:FnA mj K f fd):d9 (Gk K ce) K fd ["value"] 1 [] Uk:=
 cb_N (ps:=["value"]) F 1 [] [0] rfl (by decide) λ_ _ _ _ _ _ us ws l1 l2=>match us,ws,l1,l2 with|[_],[],_,_=>rfl
abbrev Lf:List D->List D->List D:=λds es=>pick [0] (ds++es)
theorem Ul{K:yF}(T:Tx K mg)(F:FnA mD K f fd):d9 (Gk K ce) K fd ["value"] 1 [] Lf:=
 cb_N (ps:=["value"]) F 1 [] [0] rfl (by decide) λ_ _ _ _ _ _ us ws l1 l2=>match us,ws,l1,l2 with|[_],[],_,_=>rfl
abbrev Lg:List D->List D->List D:=λds es=>pick [0,1,2] (ds++es)
theorem Um{K:yF}(T:Tx K mg)(F:FnA lW K f fd):d9 (Gk K ce) K fd ["value","least","most"] 1 ["least","most"] Lg:=
 cb_N (ps:=["value","least","most"]) F 1 ["least","most"] [0,1,2] rfl (by decide) λ_ _ _ _ _ _ us ws l1 l2=>match us,ws,l1,l2 with|[_],[_,_],_,_=>rfl
abbrev Uo:List D->List D->List D:=λds es=>pick [0,1] (ds++es)
theorem zqx{K:yF}(T:Tx K mg)(F:FnA lX K f fd):d9 (Gk K ce) K fd ["value","signs"] 2 [] Uo:=
 cb_N (ps:=["value","signs"]) F 2 [] [0,1] rfl (by decide) λ_ _ _ _ _ _ us ws l1 l2=>match us,ws,l1,l2 with|[_,_],[],_,_=>rfl
abbrev Uq:List D->List D->List D:=λds es=>pick [0] (ds++es)
theorem zqM{K:yF}(T:Tx K mg)(F:FnA nu K f fd):d9 (Gk K ce) K fd ["_law_ask"] 1 [] Uq:=
 cb_N (ps:=["_law_ask"]) F 1 [] [0] rfl (by decide) λ_ _ _ _ _ _ us ws l1 l2=>match us,ws,l1,l2 with|[_],[],_,_=>rfl
theorem zmz{K:yF}{f:Addr}{fd:FuncData}(F:FnA gG K f fd):iw K fd ["symbols"] "more" 1 0 ["q"]:=
 j7 F rfl (by decide) (by decide +kernel) (by decide) λ_ _ _ _ _ _ us ws l1 l2=>match us,ws,l1,l2 with|[_],[_],_,_=>rfl
theorem zfJ{K:yF}{f:Addr}{fd:FuncData}(F:FnA gG K f fd):iw K fd ["symbols"] "more" 1 0 ["z","w","a"]:=
 j7 F rfl (by decide) (by decide +kernel) (by decide) λ_ _ _ _ _ _ us ws l1 l2=>match us,ws,l1,l2 with|[_],[_,_,_],_,_=>rfl
theorem zjo{K:yF}{f:Addr}{fd:FuncData}(F:FnA gG K f fd):iw K fd ["symbols"] "more" 1 0 ["x","y"]:=
 j7 F rfl (by decide) (by decide +kernel) (by decide) λ_ _ _ _ _ _ us ws l1 l2=>match us,ws,l1,l2 with|[_],[_,_],_,_=>rfl
theorem zim{K:yF}{f:Addr}{fd:FuncData}(F:FnA gG K f fd):iw K fd ["symbols"] "more" 1 0 ["w","x"]:=
 j7 F rfl (by decide) (by decide +kernel) (by decide) λ_ _ _ _ _ _ us ws l1 l2=>match us,ws,l1,l2 with|[_],[_,_],_,_=>rfl
theorem Ur{K:yF}{f:Addr}{fd:FuncData}(F:FnA mH K f fd):Binds K fd ["self","given"] []:=jn (FunD.bindsA (ps:=["self","given"]) F λ_ _ _ _ _ _ us hl=>match us,hl with|[_,_],_=>rfl)
theorem Lh{K:yF}{f:Addr}{fd:FuncData}(F:FnA mJ K f fd):Binds K fd ["self","given"] []:=jn (FunD.bindsA (ps:=["self","given"]) F λ_ _ _ _ _ _ us hl=>match us,hl with|[_,_],_=>rfl)
theorem zzj{K:yF}{f:Addr}{fd:FuncData}(F:FnA mO K f fd):Binds K fd ["self"] []:=jn (FunD.bindsA (ps:=["self"]) F λ_ _ _ _ _ _ us hl=>match us,hl with|[_],_=>rfl)
theorem Us{K:yF}{f:Addr}{fd:FuncData}(F:FnA mU K f fd):Binds K fd ["self","given"] []:=jn (FunD.bindsA (ps:=["self","given"]) F λ_ _ _ _ _ _ us hl=>match us,hl with|[_,_],_=>rfl)
theorem zyG{K:yF}{f:Addr}{fd:FuncData}(F:FnA mV K f fd):Binds K fd ["self","symbol","value"] []:=jn (FunD.bindsA (ps:=["self","symbol","value"]) F λ_ _ _ _ _ _ us hl=>match us,hl with|[_,_,_],_=>rfl)
theorem zyo{K:yF}{f:Addr}{fd:FuncData}(F:FnA mW K f fd):Binds K fd ["self","given"] []:=jn (FunD.bindsA (ps:=["self","given"]) F λ_ _ _ _ _ _ us hl=>match us,hl with|[_,_],_=>rfl)
theorem vC{K:yF}{f:Addr}{fd:FuncData}(F:FnA mX K f fd):Binds K fd ["self","times"] []:=jn (FunD.bindsA (ps:=["self","times"]) F λ_ _ _ _ _ _ us hl=>match us,hl with|[_,_],_=>rfl)
theorem Ut{K:yF}{f:Addr}{fd:FuncData}(F:FnA mY K f fd):Binds K fd ["self","times"] []:=jn (FunD.bindsA (ps:=["self","times"]) F λ_ _ _ _ _ _ us hl=>match us,hl with|[_,_],_=>rfl)
theorem zxb{K:yF}{f:Addr}{fd:FuncData}(F:FnA nq K f fd):Binds K fd ["_law_e"] []:=jn (FunD.bindsA (ps:=["_law_e"]) F λ_ _ _ _ _ _ us hl=>match us,hl with|[_],_=>rfl)
abbrev Uu(K fd):=FnA lW K (lW.at_ K) fd
def Uv:M Fl:=(cRet (cAnd (cIsi ncl sub (bZ (bY 0) (bZ (cC (.ty "int")) cG))) (cAnd (cNot (cIsi ncl sub (bZ (bY 0) (bZ (cC (.ty "bool")) cG)))) (lg oLe oLe (bY 1) (bY 0) (bY 2)))))
def vD:=defM 3 Uv
abbrev vG(P wd K mg base ce):=∃fd,Uu K fd∧FnOk P wd K mg base (L2.CX P wd) 1 (lW.at_ K) fd ["value","least","most"] (spM (Gk K ce) 3 vD)
theorem zv1{K:yF}(T:Tx K mg):(∃fd,Uu K fd)->vG P wd K mg base ce:=by iterate
 rintro⟨fd,F⟩;refine⟨fd,F,?_⟩
 ·refine fG (Γ:=Gk K ce) (N:=["value","least","most"]) (ps:=["value","least","most"]) (c:=Uv) F zvF λcdv A outer s H E hr tk pas=>?_;exact(cW (dF (jh rfl (fU rfl (T.ct_ ce) rfl T.f_isinstance (cH (cI 0 rfl bU) (cH (fL T.f_int (by rfl) rfl (by decide) (by decide)) cJ rfl) rfl) rfl rfl) (jh rfl (zu9 rfl (fU rfl (T.ct_ ce) rfl T.f_isinstance (cH (cI 0 rfl bU) (cH (fL T.f_bool (by rfl) rfl (by decide) (by decide)) cJ rfl) rfl) rfl rfl)) (oA (Nr op_le op_le bLe bLe (cI 1 rfl bU) (cI 0 rfl bU) (cI 2 rfl bU) (by with_unfolding_all rfl)))))))
abbrev Uw(K fd):=FnA lX K (lX.at_ K) fd
abbrev ztW:M Fl:=(cIfS (cTst (cBin (oIn true) (bY 2) (bY 1))) (cRet (cC (.bl false))) cNx)
def Ux:M Fl:=(cSeq (cIfS (fM (cTru (cIsi ncl sub (bZ (bY 0) (bZ (cC (.ty "str")) cG))))) (cRet (cC (.bl false))) cNx)
  (cSeq (jM idF (gA (bY 0)) (.nm 2) ztW)
  (cRet (cC (.bl true)))))
def Uy:=defM 3 Ux
abbrev Lj(P wd K mg base ce):=∃fd,Uw K fd∧FnOk P wd K mg base (L2.CX P wd) 1 (lX.at_ K) fd ["value","signs"] (spM (Gk K ce) 2 Uy)
theorem zwW{K:yF}(T:Tx K mg):(∃fd,Uw K fd)->Lj P wd K mg base ce:=by iterate
 rintro⟨fd,F⟩;refine⟨fd,F,?_⟩
 ·refine fG (Γ:=Gk K ce) (N:=["value","signs","sign"]) (ps:=["value","signs"]) (c:=Ux) F Ua λcdv A outer s H E hr tk pas=>?_;have hu1:=hr.u1;exact(cZ (dR (gJ (fX rfl (fU rfl (T.ct_ ce) rfl T.f_isinstance (cH (cI 0 rfl bU) (cH (fL T.f_str (by rfl) rfl (by decide) (by decide)) cJ rfl) rfl) rfl rfl) (λ_=>rfl))) (cW (dF iz)) dU)
  (cZ (Q7 pas rfl (jN rfl (cI 0 rfl bU)) (pg_name (i:=2) Ua.nd rfl bU bU) (gU 2) (by decide) (cW (dR (d8 (zuV hu1) zwc (cI 2 rfl bU) (cI 1 rfl bU) (by with_unfolding_all rfl)) (cW (dF iz)) dU)) (λ_=>rfl))
  (cW (dF iz))))
abbrev Uz(K fd):=FnA lY K (lY.at_ K) fd
def UG:M Fl:=(cRet (cAnd (cY Uy 2 0 Uo (bZ (bY 0) (bZ (cC (.str "abcdefghijklmnopqrstuvwxyz0123456789")) cG)) cG) (cAnd (lg oLe oLe (cC (.int 1)) (cBlt gLen (cV (bY 0) cU)) (cC (.int 5))) (cBin (oEq false) (tR (cBlt fK (cV (bY 0) cU))) (cBlt gLen (cV (bY 0) cU))))))
def vH:=defM 1 UG
abbrev vI(P wd K mg base ce):=∃fd,Uz K fd∧FnOk P wd K mg base (L2.CX P wd) 2 (lY.at_ K) fd ["value"] (spM (Gk K ce) 1 vH)
theorem zwx{K:yF}(T:Tx K mg):Lj P wd K mg base ce->(∃fd,Uz K fd)->vI P wd K mg base ce:=by iterate
 rintro⟨_,F_z23,G_z23⟩ ⟨fd,F⟩;refine⟨fd,F,?_⟩
 ·refine fG (Γ:=Gk K ce) (N:=["value"]) (ps:=["value"]) (c:=UG) F zx8 λcdv A outer s H E hr tk pas=>?_;have hu:=hr.u64;exact(cW (dF (jh rfl (dH [] rfl G_z23 (hr.mono (by decide)) rfl T.g_only_of F_z23.kp (zqx T F_z23) tk (cH (cI 0 rfl bU) (cH (zzz T.k_SIGNS rfl (by decide)) cJ rfl) rfl) dh rfl rfl (by decide) rfl rfl) (jh rfl (Nr op_le op_le bLe bLe cO (fY iT iU rfl T.f_len (by rfl) (dJ (cI 0 rfl bU) dI rfl) rfl rfl (by decide) (by decide)) cO (by with_unfolding_all rfl)) (oA (jy (opEq hu) bEq (zn2 rfl rfl rfl T.f_len rfl T.f_set (fZ (oJ rfl) oK rfl T.f_list (by rfl) (dJ (cI 0 rfl bU) dI rfl) rfl rfl (by decide) (by decide)) rfl) (fY iT iU rfl T.f_len (by rfl) (dJ (cI 0 rfl bU) dI rfl) rfl rfl (by decide) (by decide)) (nomark _)))))))
abbrev UJ(K fd):=FnA lZ K (lZ.at_ K) fd
def UL:M Fl:=(cRet (cAnd (cIsi ncl sub (bZ (bY 0) (bZ (cC (.ty "str")) cG))) (cAnd (cBin (oEq false) (cBlt gLen (cV (bY 0) cU)) (cC (.int 1))) (cBin (oIn false) (bY 0) (bY 1)))))
def Lk:=defM 2 UL
abbrev vJ(P wd K mg base ce):=∃fd,UJ K fd∧FnOk P wd K mg base (L2.CX P wd) 1 (lZ.at_ K) fd ["value","symbols"] (spM (Gk K ce) 2 Lk)
theorem zvo{K:yF}(T:Tx K mg):(∃fd,UJ K fd)->vJ P wd K mg base ce:=by iterate
 rintro⟨fd,F⟩;refine⟨fd,F,?_⟩
 ·refine fG (Γ:=Gk K ce) (N:=["value","symbols"]) (ps:=["value","symbols"]) (c:=UL) F zvg λcdv A outer s H E hr tk pas=>?_;have hu:=hr.u64;have hu1:=hr.u1;exact(cW (dF (jh rfl (fU rfl (T.ct_ ce) rfl T.f_isinstance (cH (cI 0 rfl bU) (cH (fL T.f_str (by rfl) rfl (by decide) (by decide)) cJ rfl) rfl) rfl rfl) (jh rfl (jy (opEq hu) bEq (fY iT iU rfl T.f_len (by rfl) (dJ (cI 0 rfl bU) dI rfl) rfl rfl (by decide) (by decide)) cO (nomark _)) (oA (jy (opIn hu1) bIn (cI 0 rfl bU) (cI 1 rfl bU) (by with_unfolding_all rfl)))))))
abbrev UT(K fd):=FnA mj K (mj.at_ K) fd
def UV:M Fl:=(cRet (cIsi ncl sub (bZ (bY 0) (bZ (cTup (bZ (cC (.ty "list")) (bZ (cC (.ty "tuple")) cG))) cG))))
def UW:=defM 1 UV
abbrev Ln(P wd K mg base ce):=∃fd,UT K fd∧FnOk P wd K mg base (L2.CX P wd) 1 (mj.at_ K) fd ["value"] (spM (Gk K ce) 1 UW)
theorem zvp{K:yF}(T:Tx K mg):(∃fd,UT K fd)->Ln P wd K mg base ce:=by
 rintro⟨fd,F⟩;refine⟨fd,F,?_⟩
 ·refine fG (Γ:=Gk K ce) (N:=["value"]) (ps:=["value"]) (c:=UV) F zw9 λcdv A outer s H E hr tk pas=>?_;exact(cW (dF (fU rfl (T.ct_ ce) rfl T.f_isinstance (cH (cI 0 rfl bU) (cH (dO (cH (fL T.f_list (by rfl) rfl (by decide) (by decide)) (cH (fL T.f_tuple (by rfl) rfl (by decide) (by decide)) cJ rfl) rfl)) cJ rfl) rfl) rfl rfl)))
abbrev U0(K fd):=FnA mD K (mD.at_ K) fd
def vK:M Fl:=(cRet (cY vD 1 2 Lg (bZ (bY 0) cG) (bZ (cC (.int 0)) (bZ (cC (.int 1000000000000)) cG))))
def kh:=defM 1 vK
abbrev vL(P wd K mg base ce):=∃fd,U0 K fd∧FnOk P wd K mg base (L2.CX P wd) 2 (mD.at_ K) fd ["value"] (spM (Gk K ce) 1 kh)
theorem zwS{K:yF}(T:Tx K mg):vG P wd K mg base ce->(∃fd,U0 K fd)->vL P wd K mg base ce:=by
 rintro⟨_,F_z17,G_z17⟩ ⟨fd,F⟩;refine⟨fd,F,?_⟩
 ·refine fG (Γ:=Gk K ce) (N:=["value"]) (ps:=["value"]) (c:=vK) F zvm λcdv A outer s H E hr tk pas=>?_;exact(cW (dF (dH ["least","most"] rfl G_z17 (hr.mono (by decide)) rfl T.g_is_number F_z17.kp (Um T F_z17) tk (cH (cI 0 rfl bU) cJ rfl) (fJ cO (fJ (zzf T.k_GREATEST rfl (by decide)) dh)) rfl rfl (by decide) rfl rfl)))
abbrev U3(K fd):=FnA mH K (mH.at_ K) fd
abbrev vM(P wd K mg base)(ce:List (Str×Addr)):=∃fd,U3 K fd∧FnOk P wd K mg base (L2.CX P wd) 1 (mH.at_ K) fd ["self","given"] (spX (He.ga K "InvalidSymbols") "InvalidSymbols" ["given"])
theorem zyD{K:yF}(T:Tx K mg):(∃fd,U3 K fd)->vM P wd K mg base ce:=by iterate
 rintro⟨fd,F⟩;refine⟨fd,F,uR F zz7 rfl (t:=tEx1 K "InvalidSymbols" "given") (λcdv A outer s H E=>?_) λvs H D E h hD=>uQ T.ex_InvalidSymbols h hD⟩;exact(pss_cons (ps_expr (uO rfl T.g_FromError T.ve_FromError (pa_cons (pe_var (i:=0) rfl bU (by decide) (by decide)) (pa_cons pe_str pa_nil rfl) rfl) (by decide) rfl rfl rfl) rfl) (pss_cons (ps_ost (pe_var (i:=0) rfl bU (by decide) (by decide)) pe_str rfl) (pss_one (ps_ost (pe_var (i:=0) rfl bU (by decide) (by decide)) (pe_var (i:=1) rfl bU (by decide) (by decide)) rfl))))
abbrev U4(K fd):=FnA mJ K (mJ.at_ K) fd
abbrev vN(P wd K mg base)(ce:List (Str×Addr)):=∃fd,U4 K fd∧FnOk P wd K mg base (L2.CX P wd) 1 (mJ.at_ K) fd ["self","given"] (spX (He.ga K "InvalidCost") "InvalidCost" ["given"])
theorem zya{K:yF}(T:Tx K mg):(∃fd,U4 K fd)->vN P wd K mg base ce:=by iterate
 rintro⟨fd,F⟩;refine⟨fd,F,uR F zzx rfl (t:=tEx1 K "InvalidCost" "given") (λcdv A outer s H E=>?_) λvs H D E h hD=>uQ T.ex_InvalidCost h hD⟩;exact(pss_cons (ps_expr (uO rfl T.g_FromError T.ve_FromError (pa_cons (pe_var (i:=0) rfl bU (by decide) (by decide)) (pa_cons pe_str pa_nil rfl) rfl) (by decide) rfl rfl rfl) rfl) (pss_cons (ps_ost (pe_var (i:=0) rfl bU (by decide) (by decide)) pe_str rfl) (pss_one (ps_ost (pe_var (i:=0) rfl bU (by decide) (by decide)) (pe_var (i:=1) rfl bU (by decide) (by decide)) rfl))))
abbrev U5(K fd):=FnA mK K (mK.at_ K) fd
abbrev Lp:M Fl:=(cIfS (fM (cTru (cY kh 1 0 Lf (bZ (bY 3) cG) cG))) (jc 3 1 (excF "InvalidCost" ["given"]) (bZ (bY 3) cG)) cNx)
def c_z6:M Fl:=(cSeq (cIfS (fM (cTru (cY vH 1 0 Ld (bZ (bY 1) cG) cG))) (jc 1 1 (excF "InvalidSymbols" ["given"]) (bZ (bY 1) cG)) cNx)
  (cSeq (cIfS (cOrB (fM (cTru (cY UW 1 0 Uk (bZ (bY 2) cG) cG))) (cTst (cBin (oEq true) (cBlt gLen (cV (bY 2) cU)) (cBlt gLen (cV (bY 1) cU))))) (jc 3 1 (excF "InvalidCost" ["given"]) (bZ (bY 2) cG)) cNx)
  (cSeq (jM idF (gA (bY 2)) (.nm 3) Lp)
  (cSeq (cFst flds "own_symbols" (bY 1) (bY 0))
  (cFst flds "own_values" (uh (cBlt fK (cV (bY 2) cU))) (bY 0))))))
def m_z6:List D->List Sl->Res Rv:=defI 4 0 c_z6
abbrev qX(P wd K mg base ce):=∃fd,U5 K fd∧FnOk P wd K mg base (L2.CX P wd) 3 (mK.at_ K) fd ["self","symbols","values"] (spI (Gk K ce) 0 2 m_z6)
theorem zyw{K:yF}(T:Tx K mg):vI P wd K mg base ce->vM P wd K mg base ce->Ln P wd K mg base ce->vN P wd K mg base ce->vL P wd K mg base ce->(∃fd,U5 K fd)->qX P wd K mg base ce:=by iterate
 rintro⟨_,F_z13,G_z13⟩ ⟨_,F_z0,G_z0⟩ ⟨_,F_z26,G_z26⟩ ⟨_,F_z3,G_z3⟩ ⟨_,F_z25,G_z25⟩ ⟨fd,F⟩;refine⟨fd,F,?_⟩
 ·refine zvU (Γ:=Gk K ce) (np:=2) (N:=["self","symbols","values","value"]) (ps:=["self","symbols","values"]) (b:=c_z6) 0 F Ub rfl λcdv A outer s H E hr tk pas=>?_;have hu:=hr.u64;exact(cZ (dR (gJ (fX rfl (dH [] rfl G_z13 (hr.mono (by decide)) rfl T.g_is_symbols F_z13.kp (Ui T F_z13) tk (cH (cI 1 rfl bU) cJ rfl) dh rfl rfl (by decide) rfl rfl) (λ_=>rfl))) (cW (jQ (Γ:=Gk K ce) (c:=1) (fs:=["given"]) rfl tk T.ex_InvalidSymbols T.ei_InvalidSymbols T.et_InvalidSymbols G_z0 (hr.mono (by decide)) (Ur F_z0) rfl T.g_InvalidSymbols (by decide) (cH (cI 1 rfl bU) cJ rfl) jV (by decide) rfl rfl)) dU)
  (cZ (dR (PW.pt (qb (gJ (fX rfl (dH [] rfl G_z26 (hr.mono (by decide)) rfl T.g_is_row F_z26.kp (zqi T F_z26) tk (cH (cI 2 rfl bU) cJ rfl) dh rfl rfl (by decide) rfl rfl) (λ_=>rfl))) (pZ (d8 (opNe hu) bNe (fY iT iU rfl T.f_len (by rfl) (dJ (cI 2 rfl bU) dI rfl) rfl rfl (by decide) (by decide)) (fY iT iU rfl T.f_len (by rfl) (dJ (cI 1 rfl bU) dI rfl) rfl rfl (by decide) (by decide)) (nomark _))))) (cW (jQ (Γ:=Gk K ce) (c:=3) (fs:=["given"]) rfl tk T.ex_InvalidCost T.ei_InvalidCost T.et_InvalidCost G_z3 (hr.mono (by decide)) (Lh F_z3) rfl T.g_InvalidCost (by decide) (cH (cI 2 rfl bU) cJ rfl) jV (by decide) rfl rfl)) dU)
  (cZ (Q7 pas rfl (jN rfl (cI 2 rfl bU)) (pg_name (i:=3) Ub.nd rfl bU bU) (gU 3) (by decide) (cW (dR (gJ (fX rfl (dH [] rfl G_z25 (hr.mono (by decide)) rfl T.g_is_cost F_z25.kp (Ul T F_z25) tk (cH (cI 3 rfl bU) cJ rfl) dh rfl rfl (by decide) rfl rfl) (λ_=>rfl))) (cW (jQ (Γ:=Gk K ce) (c:=3) (fs:=["given"]) rfl tk T.ex_InvalidCost T.ei_InvalidCost T.et_InvalidCost G_z3 (hr.mono (by decide)) (Lh F_z3) rfl T.g_InvalidCost (by decide) (cH (cI 3 rfl bU) cJ rfl) jV (by decide) rfl rfl)) dU)) (λ_=>rfl))
  (cZ (QZ rfl (T.ft_ ce) (cI 0 rfl bU) (cI 1 rfl bU) rfl)
  (cW (QZ rfl (T.ft_ ce) (cI 0 rfl bU) (zuq (fZ (oJ rfl) oK rfl T.f_list (by rfl) (dJ (cI 2 rfl bU) dI rfl) rfl rfl (by decide) (by decide))) rfl))))))
abbrev U6(K fd):=FnA mO K (mO.at_ K) fd
def c_z7:M Fl:=(cRet (cFld flds "own_symbols" (bY 0)))
def m_z7:=defM 1 c_z7
abbrev Lq(P wd K mg base ce):=∃fd,U6 K fd∧FnOk P wd K mg base (L2.CX P wd) 1 (mO.at_ K) fd ["self"] (spM (Gk K ce) 1 m_z7)
theorem zyB{K:yF}(T:Tx K mg):(∃fd,U6 K fd)->Lq P wd K mg base ce:=by
 rintro⟨fd,F⟩;refine⟨fd,F,?_⟩
 ·refine fG (Γ:=Gk K ce) (N:=["self"]) (ps:=["self"]) (c:=c_z7) F zz5 λcdv A outer s H E hr tk pas=>?_;exact(cW (dF (lD rfl (T.ft_ ce) (cI 0 rfl bU) rfl)))
abbrev U7(K fd):=FnA mQ K (mQ.at_ K) fd
def Lr:M Fl:=(cRet (cBlt fK (cV (cFld flds "own_values" (bY 0)) cU)))
def m_z11:=defM 1 Lr
abbrev pJ(P wd K mg base ce):=∃fd,U7 K fd∧FnOk P wd K mg base (L2.CX P wd) 1 (mQ.at_ K) fd ["self"] (spM (Gk K ce) 1 m_z11)
theorem zxe{K:yF}(T:Tx K mg):(∃fd,U7 K fd)->pJ P wd K mg base ce:=by
 rintro⟨fd,F⟩;refine⟨fd,F,?_⟩
 ·refine fG (Γ:=Gk K ce) (N:=["self"]) (ps:=["self"]) (c:=Lr) F zwF λcdv A outer s H E hr tk pas=>?_;exact(cW (dF (fZ (oJ rfl) oK rfl T.f_list (by rfl) (dJ (lD rfl (T.ft_ ce) (cI 0 rfl bU) rfl) dI rfl) rfl rfl (by decide) (by decide))))
abbrev U8(K fd):=FnA mU K (mU.at_ K) fd
abbrev vO(P wd K mg base)(ce:List (Str×Addr)):=∃fd,U8 K fd∧FnOk P wd K mg base (L2.CX P wd) 1 (mU.at_ K) fd ["self","given"] (spX (He.ga K "InvalidSymbol") "InvalidSymbol" ["given"])
theorem zzb{K:yF}(T:Tx K mg):(∃fd,U8 K fd)->vO P wd K mg base ce:=by iterate
 rintro⟨fd,F⟩;refine⟨fd,F,uR F zyt rfl (t:=tEx1 K "InvalidSymbol" "given") (λcdv A outer s H E=>?_) λvs H D E h hD=>uQ T.ex_InvalidSymbol h hD⟩;exact(pss_cons (ps_expr (uO rfl T.g_FromError T.ve_FromError (pa_cons (pe_var (i:=0) rfl bU (by decide) (by decide)) (pa_cons pe_str pa_nil rfl) rfl) (by decide) rfl rfl rfl) rfl) (pss_cons (ps_ost (pe_var (i:=0) rfl bU (by decide) (by decide)) pe_str rfl) (pss_one (ps_ost (pe_var (i:=0) rfl bU (by decide) (by decide)) (pe_var (i:=1) rfl bU (by decide) (by decide)) rfl))))
abbrev U9(K fd):=FnA gG K (gG.at_ K) fd
abbrev Ls:M Fl:=(cIfS (fM (cTru (cY Lk 2 0 Le (bZ (bY 2) (bZ (bY 0) cG)) cG))) (jc 2 1 (excF "InvalidSymbol" ["given"]) (bZ (bY 2) cG)) cNx)
def qY:M Fl:=(cSeq (cIfS (fM (cTru (cY vH 1 0 Ld (bZ (bY 0) cG) cG))) (jc 1 1 (excF "InvalidSymbols" ["given"]) (bZ (bY 0) cG)) cNx)
  (cSeq (cFor (cIts (cBlt lL (cV (cBlt fK (cV (bY 1) cU)) cU))) (.nm 2) Ls)
  (cRet (cY m_z6 2 0 vz (bZ (bY 0) (bZ (cLcO idF (gA (bY 0)) [3] (.nm 3) cYes (Ks (bY 1) (bY 3) (cC (.int 0)))) cG)) cG))))
def fW:=defM 4 qY
abbrev km(P wd K mg base ce):=∃fd,U9 K fd∧KwOk P wd K mg base (L2.CX P wd) 5 (gG.at_ K) fd ["symbols"] "more" (spM (Gk K ce) 2 fW)
theorem zvE{K:yF}(T:Tx K mg):vI P wd K mg base ce->vM P wd K mg base ce->vJ P wd K mg base ce->vO P wd K mg base ce->qX P wd K mg base ce->(∃fd,U9 K fd)->km P wd K mg base ce:=by iterate
 rintro⟨_,F_z13,G_z13⟩ ⟨_,F_z0,G_z0⟩ ⟨_,F_z18,G_z18⟩ ⟨_,F_z1,G_z1⟩ ⟨_,F_z6,G_z6⟩ ⟨fd,F⟩;refine⟨fd,F,?_⟩
 ·refine zwH (pd:="more") (Γ:=Gk K ce) (N:=["symbols","more","word","symbol"]) (ps:=["symbols"]) (c:=qY) F vh λcdv A outer s H E hr tk pas=>?_;have hu:=hr.u64;have hu1:=hr.u1;exact(cZ (dR (gJ (fX rfl (dH [] rfl G_z13 (hr.mono (by decide)) rfl T.g_is_symbols F_z13.kp (Ui T F_z13) tk (cH (cI 0 rfl bU) cJ rfl) dh rfl rfl (by decide) rfl rfl) (λ_=>rfl))) (cW (jQ (Γ:=Gk K ce) (c:=1) (fs:=["given"]) rfl tk T.ex_InvalidSymbols T.ei_InvalidSymbols T.et_InvalidSymbols G_z0 (hr.mono (by decide)) (Ur F_z0) rfl T.g_InvalidSymbols (by decide) (cH (cI 0 rfl bU) cJ rfl) jV (by decide) rfl rfl)) dU)
  (cZ (xg pas rfl (wY rfl (fY (zqX hu) zr4 rfl T.f_sorted (by rfl) (dJ (fZ (oJ rfl) oK rfl T.f_list (by rfl) (dJ (cI 1 rfl bW) dI rfl) rfl rfl (by decide) (by decide)) dI rfl) rfl rfl (by decide) (by decide))) (pg_name (i:=2) vh.nd rfl bU bU) (gU 2) (by decide) (cW (dR (gJ (fX rfl (dH [] rfl G_z18 (hr.mono (by decide)) rfl T.g_is_symbol F_z18.kp (Uj T F_z18) tk (cH (cI 2 rfl bU) (cH (cI 0 rfl bU) cJ rfl) rfl) dh rfl rfl (by decide) rfl rfl) (λ_=>rfl))) (cW (jQ (Γ:=Gk K ce) (c:=2) (fs:=["given"]) rfl tk T.ex_InvalidSymbol T.ei_InvalidSymbol T.et_InvalidSymbol G_z1 (hr.mono (by decide)) (Us F_z1) rfl T.g_InvalidSymbol (by decide) (cH (cI 2 rfl bU) cJ rfl) jV (by decide) rfl rfl)) dU)) (λ_=>rfl))
  (cW (dF (Bg (c:=0) [] rfl rfl T.mk_Costs G_z6 (hr.mono (by decide)) rfl T.g_Costs (K8 T F_z6) tk (cH (cI 0 rfl bU) (cH (qG (own:=[("symbol",3)]) rfl vh.nd (jN rfl (cI 0 rfl bU)) (show BlkOk ["symbols","more","word","symbol"] (defScope pO) _ _ from blkOk_by (by decide +kernel)) (gU 3) (by decide) (λ_ _ _ _ _=>(pg_name (i:=3) vh.nd rfl bU bV)) (λ_ _ _ _ _=>lu) (λ_ _ _ _ _=>(zux hu1 (cI 1 rfl bW) (cI 3 rfl bU) cO ⟨rfl,rfl,rfl,rfl⟩)) (λ_=>rfl)) cJ rfl) rfl) dh rfl rfl (by decide) rfl rfl)))))
abbrev Va(K fd):=FnA mV K (mV.at_ K) fd
def c_z4:M Fl:=(cSeq (cIfS (fM (cTru (cY Lk 2 0 Le (bZ (bY 1) (bZ (cFld flds "own_symbols" (bY 0)) cG)) cG))) (jc 2 1 (excF "InvalidSymbol" ["given"]) (bZ (bY 1) cG)) cNx)
  (cSeq (cIfS (fM (cTru (cY kh 1 0 Lf (bZ (bY 2) cG) cG))) (jc 3 1 (excF "InvalidCost" ["given"]) (bZ (bY 2) cG)) cNx)
  (cPut stS (bY 2) (cFld flds "own_values" (bY 0)) (cMt "str" qR (cFld flds "own_symbols" (bY 0)) (cV (bY 1) cU)))))
def m_z4:=defM 3 c_z4
abbrev Lw(P wd K mg base ce):=∃fd,Va K fd∧FnOk P wd K mg base (L2.CX P wd) 3 (mV.at_ K) fd ["self","symbol","value"] (spM (Gk K ce) 3 m_z4)
theorem zyE{K:yF}(T:Tx K mg):vJ P wd K mg base ce->vO P wd K mg base ce->vL P wd K mg base ce->vN P wd K mg base ce->(∃fd,Va K fd)->Lw P wd K mg base ce:=by iterate
 rintro⟨_,F_z18,G_z18⟩ ⟨_,F_z1,G_z1⟩ ⟨_,F_z25,G_z25⟩ ⟨_,F_z3,G_z3⟩ ⟨fd,F⟩;refine⟨fd,F,?_⟩
 ·refine fG (Γ:=Gk K ce) (N:=["self","symbol","value"]) (ps:=["self","symbol","value"]) (c:=c_z4) F zyd λcdv A outer s H E hr tk pas=>?_;have hu1:=hr.u1;exact(cZ (dR (gJ (fX rfl (dH [] rfl G_z18 (hr.mono (by decide)) rfl T.g_is_symbol F_z18.kp (Uj T F_z18) tk (cH (cI 1 rfl bU) (cH (lD rfl (T.ft_ ce) (cI 0 rfl bU) rfl) cJ rfl) rfl) dh rfl rfl (by decide) rfl rfl) (λ_=>rfl))) (cW (jQ (Γ:=Gk K ce) (c:=2) (fs:=["given"]) rfl tk T.ex_InvalidSymbol T.ei_InvalidSymbol T.et_InvalidSymbol G_z1 (hr.mono (by decide)) (Us F_z1) rfl T.g_InvalidSymbol (by decide) (cH (cI 1 rfl bU) cJ rfl) jV (by decide) rfl rfl)) dU)
  (cZ (dR (gJ (fX rfl (dH [] rfl G_z25 (hr.mono (by decide)) rfl T.g_is_cost F_z25.kp (Ul T F_z25) tk (cH (cI 2 rfl bU) cJ rfl) dh rfl rfl (by decide) rfl rfl) (λ_=>rfl))) (cW (jQ (Γ:=Gk K ce) (c:=3) (fs:=["given"]) rfl tk T.ex_InvalidCost T.ei_InvalidCost T.et_InvalidCost G_z3 (hr.mono (by decide)) (Lh F_z3) rfl T.g_InvalidCost (by decide) (cH (cI 2 rfl bU) cJ rfl) jV (by decide) rfl rfl)) dU)
  (cW (lA (lw hu1) sAll (cI 2 rfl bU) (lD rfl (T.ft_ ce) (cI 0 rfl bU) rfl) (Nu rfl PySem.F.plainAttrs_str PySem.F.slot_str_index PySem.F.type_str_index mt_sindex ztp (lD rfl (T.ft_ ce) (cI 0 rfl bU) rfl) (dJ (cI 1 rfl bU) dI rfl) rfl rfl rfl rfl rfl) (λ_=>rfl) rfl rfl))))
abbrev Vb(K fd):=FnA mW K (mW.at_ K) fd
abbrev Ly(P wd K mg base)(ce:List (Str×Addr)):=∃fd,Vb K fd∧FnOk P wd K mg base (L2.CX P wd) 1 (mW.at_ K) fd ["self","given"] (spX (He.ga K "InvalidNumber") "InvalidNumber" ["given"])
theorem zyr{K:yF}(T:Tx K mg):(∃fd,Vb K fd)->Ly P wd K mg base ce:=by iterate
 rintro⟨fd,F⟩;refine⟨fd,F,uR F zyO rfl (t:=tEx1 K "InvalidNumber" "given") (λcdv A outer s H E=>?_) λvs H D E h hD=>uQ T.ex_InvalidNumber h hD⟩;exact(pss_cons (ps_expr (uO rfl T.g_FromError T.ve_FromError (pa_cons (pe_var (i:=0) rfl bU (by decide) (by decide)) (pa_cons pe_str pa_nil rfl) rfl) (by decide) rfl rfl rfl) rfl) (pss_cons (ps_ost (pe_var (i:=0) rfl bU (by decide) (by decide)) pe_str rfl) (pss_one (ps_ost (pe_var (i:=0) rfl bU (by decide) (by decide)) (pe_var (i:=1) rfl bU (by decide) (by decide)) rfl))))
abbrev Vc(K fd):=FnA mX K (mX.at_ K) fd
def c_z8:M Fl:=(cSeq (cIfS (fM (cTru (cY vD 1 2 Lg (bZ (bY 1) cG) (bZ (cC (.int 1)) (bZ (cC (.int 1000)) cG))))) (jc 4 1 (excF "InvalidNumber" ["given"]) (bZ (bY 1) cG)) cNx)
  (cRet (cY m_z6 2 0 vz (bZ (cFld flds "own_symbols" (bY 0)) (bZ (cLcO idF (gA (cFld flds "own_values" (bY 0))) [2] (.nm 2) cYes (cBin oMul (bY 2) (bY 1))) cG)) cG)))
def m_z8:=defM 3 c_z8
abbrev lQ(P wd K mg base ce):=∃fd,Vc K fd∧FnOk P wd K mg base (L2.CX P wd) 5 (mX.at_ K) fd ["self","times"] (spM (Gk K ce) 2 m_z8)
theorem zzh{K:yF}(T:Tx K mg):vG P wd K mg base ce->Ly P wd K mg base ce->qX P wd K mg base ce->(∃fd,Vc K fd)->lQ P wd K mg base ce:=by iterate
 rintro⟨_,F_z17,G_z17⟩ ⟨_,F_z2,G_z2⟩ ⟨_,F_z6,G_z6⟩ ⟨fd,F⟩;refine⟨fd,F,?_⟩
 ·refine fG (Γ:=Gk K ce) (N:=["self","times","value"]) (ps:=["self","times"]) (c:=c_z8) F KY λcdv A outer s H E hr tk pas=>?_;exact(cZ (dR (gJ (fX rfl (dH ["least","most"] rfl G_z17 (hr.mono (by decide)) rfl T.g_is_number F_z17.kp (Um T F_z17) tk (cH (cI 1 rfl bW) cJ rfl) (fJ cO (fJ cO dh)) rfl rfl (by decide) rfl rfl) (λ_=>rfl))) (cW (jQ (Γ:=Gk K ce) (c:=4) (fs:=["given"]) rfl tk T.ex_InvalidNumber T.ei_InvalidNumber T.et_InvalidNumber G_z2 (hr.mono (by decide)) (zyo F_z2) rfl T.g_InvalidNumber (by decide) (cH (cI 1 rfl bW) cJ rfl) jV (by decide) rfl rfl)) dU)
  (cW (dF (Bg (c:=0) [] rfl rfl T.mk_Costs G_z6 (hr.mono (by decide)) rfl T.g_Costs (K8 T F_z6) tk (cH (lD rfl (T.ft_ ce) (cI 0 rfl bU) rfl) (cH (qG (own:=[("value",2)]) rfl KY.nd (jN rfl (lD rfl (T.ft_ ce) (cI 0 rfl bU) rfl)) (show BlkOk ["self","times","value"] (defScope s_z8) _ _ from blkOk_by (by decide +kernel)) (gU 2) (by decide) (λ_ _ _ _ _=>(pg_name (i:=2) KY.nd rfl bU bV)) (λ_ _ _ _ _=>lu) (λ_ _ _ _ _=>(di eZ bMul (cI 2 rfl bU) (cI 1 rfl bW))) (λ_=>rfl)) cJ rfl) rfl) dh rfl rfl (by decide) rfl rfl))))
abbrev Vd(K fd):=FnA mY K (mY.at_ K) fd
def c_z5:M Fl:=(cRet (cOp2 oMul (ju 0 m_z8) (bY 0) (bY 1)))
def m_z5:=defM 2 c_z5
abbrev qZ(P wd K mg base ce):=∃fd,Vd K fd∧FnOk P wd K mg base (L2.CX P wd) 6 (mY.at_ K) fd ["self","times"] (spM (Gk K ce) 2 m_z5)
theorem zyi{K:yF}(T:Tx K mg):lQ P wd K mg base ce->(∃fd,Vd K fd)->qZ P wd K mg base ce:=by
 rintro⟨_,F_z8,G_z8⟩ ⟨fd,F⟩;refine⟨fd,F,?_⟩
 ·refine fG (Γ:=Gk K ce) (N:=["self","times"]) (ps:=["self","times"]) (c:=c_z5) F zyX λcdv A outer s H E hr tk pas=>?_;exact(cW (dF (oR eZ bMul (vf (c:=0) rfl rfl T.sf_Costs T.m_z8.at_ T.m_z8.fn T.mr_Costs T.ml_Costs G_z8 (hr.mono (by decide)) (vC F_z8) tk) (cI 0 rfl bU) (cI 1 rfl bU))))
abbrev Ve(K fd):=FnA mZ K (mZ.at_ K) fd
abbrev ztG:M Fl:=(cSet false 1 (cBin oMod (cBlt gInt (cV (cBin oAdd (cBin oAdd (cBin oMul (bY 1) (cC (.int 52361))) (cBin oMul (cBin oMod (cBlt gInt (cV (bY 2) cU)) (cC (.int 1000303))) (cC (.int 877)))) (cC (.int 37))) cU)) (cC (.int 2147483587))))
def Vf:M Fl:=(cSeq (cSet false 1 (cC (.int 12025)))
  (cSeq (cFor (cIts (cSl oCut (bY 0) cNoP (jB (cC (.int 63))))) (.nm 2) ztG)
  (cRet (cLst (bZ (cBlt fK (cV (cSl oCut (bY 0) cNoP (jB (cC (.int 63)))) cU)) (bZ (cC (.int 0)) (bZ (cC (.int 0)) (bZ (bY 1) (bZ (cC (.int 0)) cG)))))))))
def Lz:=defM 3 Vf
abbrev LC(P wd K mg base ce):=∃fd,Ve K fd∧FnOk P wd K mg base (L2.CX P wd) 1 (mZ.at_ K) fd ["_law_script"] (spM (Gk K ce) 1 Lz)
theorem zwD{K:yF}(T:Tx K mg):(∃fd,Ve K fd)->LC P wd K mg base ce:=by iterate
 rintro⟨fd,F⟩;refine⟨fd,F,?_⟩
 ·refine fG (Γ:=Gk K ce) (N:=["_law_script","_law_mixed","_law_cell"]) (ps:=["_law_script"]) (c:=Vf) F vm λcdv A outer s H E hr tk pas=>?_;exact(cZ (fD (own:=false) cO (by decide) vm.nd rfl bU bU rfl rfl)
  (cZ (xg pas rfl (wY rfl (wD xH bCut (cI 0 rfl bU) wy (wz cO))) (pg_name (i:=2) vm.nd rfl bU bU) (gU 2) (by decide) (cW (fD (own:=false) (di op_mod bMod (fZ call_int1 jH rfl T.f_int (by rfl) (dJ (di gq bAdd (di gq bAdd (di eZ bMul (cI 1 rfl bU) cO) (di eZ bMul (di op_mod bMod (fZ call_int1 jH rfl T.f_int (by rfl) (dJ (cI 2 rfl bU) dI rfl) rfl rfl (by decide) (by decide)) cO) cO)) cO) dI rfl) rfl rfl (by decide) (by decide)) cO) (by decide) vm.nd rfl bU bU rfl rfl)) (λ_=>rfl))
  (cW (dF (dW (cH (fZ (oJ rfl) oK rfl T.f_list (by rfl) (dJ (wD xH bCut (cI 0 rfl bU) wy (wz cO)) dI rfl) rfl rfl (by decide) (by decide)) (cH cO (cH cO (cH (cI 1 rfl bU) (cH cO cJ rfl) rfl) rfl) rfl) rfl))))))
abbrev Vg(K fd):=FnA m7 K (m7.at_ K) fd
def Vh:M Fl:=(cSeq (cPut stS (cBin oAdd (cBin oGet (bY 0) (cC (.int 4))) (cC (.int 1))) (bY 0) (cC (.int 4)))
  (cSeq (cIfS (pY (cTst (cBin (oEq false) (cBin oGet (bY 0) (cC (.int 2))) (cC (.int 0)))) (cTst (cBin oLt (cBin oGet (bY 0) (cC (.int 1))) (cBlt gLen (cV (cBin oGet (bY 0) (cC (.int 0))) cU))))) (cSeq (cSet false 2 (cBin oGet (cBin oGet (bY 0) (cC (.int 0))) (cBin oGet (bY 0) (cC (.int 1)))))
  (cSeq (cPut stS (cBin oAdd (cBin oGet (bY 0) (cC (.int 1))) (cC (.int 1))) (bY 0) (cC (.int 1)))
  (cIfS (cTst (cBin oGe (cBlt gAbs (cV (bY 2) cU)) (cBin oPow (cC (.int 10)) (cC (.int 18))))) (cPut stS (cBlt gAbs (cV (bY 2) cU)) (bY 0) (cC (.int 2))) (cSeq (cSet false 3 (cBin oAdd (cBin oMul (cBin oMod (cBlt gInt (cV (bY 2) cU)) (cC (.int 1000303))) (cC (.int 769))) (cC (.int 41))))
  (cPut stS (cBin oMod (cBlt gInt (cV (cBin oAdd (cBin oMul (cBin oGet (bY 0) (cC (.int 3))) (cC (.int 43789))) (bY 3)) cU)) (cC (.int 2147483629))) (bY 0) (cC (.int 3))))))) cNx)
  (cSeq (cIfS (cTst (cBin oGt (cBin oGet (bY 0) (cC (.int 2))) (cC (.int 0)))) (cSeq (cSet false 4 (cBin oMod (cBlt gInt (cV (cBin oGet (bY 0) (cC (.int 2))) cU)) (bY 1)))
  (cSeq (cPut stS (cBin jA (cBin oGet (bY 0) (cC (.int 2))) (bY 1)) (bY 0) (cC (.int 2)))
  (cRet (bY 4)))) cNx)
  (cSeq (cSet false 5 (cBin oGet (bY 0) (cC (.int 3))))
  (cSeq (cSet false 6 (cBin oAdd (cBin oAdd (cBin oMul (bY 5) (cC (.int 49031))) (cBin oMul (cBin oGet (bY 0) (cC (.int 4))) (cC (.int 110023)))) (cC (.int 60037))))
  (cSeq (cPut stS (cBin oMod (cBlt gInt (cV (cBin oAdd (cBin oMul (cBin oMul (bY 5) (bY 5)) (cC (.int 17))) (bY 6)) cU)) (cC (.int 2147483587))) (bY 0) (cC (.int 3)))
  (cRet (cBin oMod (cBlt gInt (cV (cBin oAdd (cBin jA (cBin oGet (bY 0) (cC (.int 3))) (cC (.int 73))) (cBin oMul (cBin oMod (cBlt gInt (cV (cBin oGet (bY 0) (cC (.int 3))) cU)) (cC (.int 8009))) (cC (.int 61)))) cU)) (bY 1)))))))))
def jx:=defM 7 Vh
abbrev pK(P wd K mg base ce):=∃fd,Vg K fd∧FnOk P wd K mg base (L2.CX P wd) 1 (m7.at_ K) fd ["_law_bag","_law_sides"] (spM (Gk K ce) 2 jx)
theorem zxA{K:yF}(T:Tx K mg):(∃fd,Vg K fd)->pK P wd K mg base ce:=by iterate
 rintro⟨fd,F⟩;refine⟨fd,F,?_⟩
 ·refine fG (Γ:=Gk K ce) (N:=["_law_bag","_law_sides","_law_cell","_law_small","_law_digit","_law_seed","_law_step"]) (ps:=["_law_bag","_law_sides"]) (c:=Vh) F pG λcdv A outer s H E hr tk pas=>?_;have hu:=hr.u64;have hu1:=hr.u1;exact(cZ (lA (lw hu1) sAll (di gq bAdd (eU (fj hu1) bGet (cI 0 rfl bU) cO (λ_ _=>rfl)) cO) (cI 0 rfl bU) cO (λ_=>rfl) rfl rfl)
  (cZ (dR (PW.pt (zuP (d8 (opEq hu) bEq (eU (fj hu1) bGet (cI 0 rfl bU) cO (λ_ _=>rfl)) cO (nomark _)) (zqE (d8 op_lt bLt (eU (fj hu1) bGet (cI 0 rfl bU) cO (λ_ _=>rfl)) (fY iT iU rfl T.f_len (by rfl) (dJ (eU (fj hu1) bGet (cI 0 rfl bU) cO (λ_ _=>rfl)) dI rfl) rfl rfl (by decide) (by decide)) (nomark _))))) (cZ (fD (own:=false) (eU (fj hu1) bGet (eU (fj hu1) bGet (cI 0 rfl bU) cO (λ_ _=>rfl)) (eU (fj hu1) bGet (cI 0 rfl bU) cO (λ_ _=>rfl)) (λ_ _=>rfl)) (by decide) pG.nd rfl bU bU rfl rfl)
  (cZ (lA (lw hu1) sAll (di gq bAdd (eU (fj hu1) bGet (cI 0 rfl bU) cO (λ_ _=>rfl)) cO) (cI 0 rfl bU) cO (λ_=>rfl) rfl rfl)
  (cW (dR (d8 op_ge bGe (fY call_abs Ol rfl T.f_abs (by rfl) (dJ (cI 2 rfl bU) dI rfl) rfl rfl (by decide) (by decide)) (di op_pow bPow cO cO) (nomark _)) (cW (lA (lw hu1) sAll (fY call_abs Ol rfl T.f_abs (by rfl) (dJ (cI 2 rfl bU) dI rfl) rfl rfl (by decide) (by decide)) (cI 0 rfl bU) cO (λ_=>rfl) rfl rfl)) (cZ (fD (own:=false) (di gq bAdd (di eZ bMul (di op_mod bMod (fZ call_int1 jH rfl T.f_int (by rfl) (dJ (cI 2 rfl bU) dI rfl) rfl rfl (by decide) (by decide)) cO) cO) cO) (by decide) pG.nd rfl bU bU rfl rfl)
  (cW (lA (lw hu1) sAll (di op_mod bMod (fZ call_int1 jH rfl T.f_int (by rfl) (dJ (di gq bAdd (di eZ bMul (eU (fj hu1) bGet (cI 0 rfl bU) cO (λ_ _=>rfl)) cO) (cI 3 rfl bU)) dI rfl) rfl rfl (by decide) (by decide)) cO) (cI 0 rfl bU) cO (λ_=>rfl) rfl rfl))))))) dU)
  (cZ (dR (d8 op_gt bGt (eU (fj hu1) bGet (cI 0 rfl bU) cO (λ_ _=>rfl)) cO (nomark _)) (cZ (fD (own:=false) (di op_mod bMod (fZ call_int1 jH rfl T.f_int (by rfl) (dJ (eU (fj hu1) bGet (cI 0 rfl bU) cO (λ_ _=>rfl)) dI rfl) rfl rfl (by decide) (by decide)) (cI 1 rfl bU)) (by decide) pG.nd rfl bU bU rfl rfl)
  (cZ (lA (lw hu1) sAll (di op_fdivW Nh (eU (fj hu1) bGet (cI 0 rfl bU) cO (λ_ _=>rfl)) (cI 1 rfl bU)) (cI 0 rfl bU) cO (λ_=>rfl) rfl rfl)
  (cW (dF (cI 4 rfl bU))))) dU)
  (cZ (fD (own:=false) (eU (fj hu1) bGet (cI 0 rfl bU) cO (λ_ _=>rfl)) (by decide) pG.nd rfl bU bU rfl rfl)
  (cZ (fD (own:=false) (di gq bAdd (di gq bAdd (di eZ bMul (cI 5 rfl bU) cO) (di eZ bMul (eU (fj hu1) bGet (cI 0 rfl bU) cO (λ_ _=>rfl)) cO)) cO) (by decide) pG.nd rfl bU bU rfl rfl)
  (cZ (lA (lw hu1) sAll (di op_mod bMod (fZ call_int1 jH rfl T.f_int (by rfl) (dJ (di gq bAdd (di eZ bMul (di eZ bMul (cI 5 rfl bU) (cI 5 rfl bU)) cO) (cI 6 rfl bU)) dI rfl) rfl rfl (by decide) (by decide)) cO) (cI 0 rfl bU) cO (λ_=>rfl) rfl rfl)
  (cW (dF (di op_mod bMod (fZ call_int1 jH rfl T.f_int (by rfl) (dJ (di gq bAdd (di op_fdivW Nh (eU (fj hu1) bGet (cI 0 rfl bU) cO (λ_ _=>rfl)) cO) (di eZ bMul (di op_mod bMod (fZ call_int1 jH rfl T.f_int (by rfl) (dJ (eU (fj hu1) bGet (cI 0 rfl bU) cO (λ_ _=>rfl)) dI rfl) rfl rfl (by decide) (by decide)) cO) cO)) dI rfl) rfl rfl (by decide) (by decide)) (cI 1 rfl bU))))))))))
abbrev Vi(K fd):=FnA m9 K (m9.at_ K) fd
def Vj:M Fl:=(cRet (cBin oGet (bY 1) (cY jx 2 0 j8 (bZ (bY 0) (bZ (cBlt gLen (cV (bY 1) cU)) cG)) cG)))
def rA:=defM 2 Vj
abbrev LK(P wd K mg base ce):=∃fd,Vi K fd∧FnOk P wd K mg base (L2.CX P wd) 2 (m9.at_ K) fd ["_law_bag","_law_things"] (spM (Gk K ce) 2 rA)
theorem zxz{K:yF}(T:Tx K mg):pK P wd K mg base ce->(∃fd,Vi K fd)->LK P wd K mg base ce:=by iterate
 rintro⟨_,F_z21,G_z21⟩ ⟨fd,F⟩;refine⟨fd,F,?_⟩
 ·refine fG (Γ:=Gk K ce) (N:=["_law_bag","_law_things"]) (ps:=["_law_bag","_law_things"]) (c:=Vj) F zvN λcdv A outer s H E hr tk pas=>?_;have hu1:=hr.u1;exact(cW (dF (eU (fj hu1) bGet (cI 1 rfl bU) (dH [] rfl G_z21 (hr.mono (by decide)) rfl T.g__law_draw F_z21.kp (lN T F_z21) tk (cH (cI 0 rfl bU) (cH (fY iT iU rfl T.f_len (by rfl) (dJ (cI 1 rfl bU) dI rfl) rfl rfl (by decide) (by decide)) cJ rfl) rfl) dh rfl rfl (by decide) rfl rfl) (λ_ _=>rfl))))
abbrev Vk(K fd):=FnA ni K (ni.at_ K) fd
def Vl(rec:List D->List Sl->Res Rv):M Fl:=(cSeq (cIfS (cOrB (cTst (cBin (oIs false) (bY 1) (cC .non))) (cTst (cBin (oIs false) (bY 0) (cC .non)))) (cRet (cAnd (cBin (oIs false) (bY 1) (cC .non)) (cBin (oIs false) (bY 0) (cC .non)))) cNx)
  (cSeq (cIfS (cTru (cIsi ncl sub (bZ (bY 1) (bZ (cTup (bZ (cC (.ty "list")) (bZ (cC (.ty "tuple")) cG))) cG)))) (cSeq (cIfS (cOrB (cTst (cBin (oEq true) (cIsi ncl sub (bZ (bY 0) (bZ (cC (.ty "list")) cG))) (cIsi ncl sub (bZ (bY 1) (bZ (cC (.ty "list")) cG))))) (cTst (cBin (oEq true) (cIsi ncl sub (bZ (bY 0) (bZ (cC (.ty "tuple")) cG))) (cIsi ncl sub (bZ (bY 1) (bZ (cC (.ty "tuple")) cG)))))) (cRet (cC (.bl false))) cNx)
  (cRet (cAnd (cBin (oEq false) (cBlt gLen (cV (bY 0) cU)) (cBlt gLen (cV (bY 1) cU))) (cBlt gAll (cV (cLc (cZip (bZ (bY 0) (bZ (bY 1) cG))) [2,3] (.tp [2,3]) cYes (cY rec 2 0 lO (bZ (bY 2) (bZ (bY 3) cG)) cG)) cU))))) cNx)
  (cSeq (cIfS (cOrB (cTst (cBin (oEq true) (cIsi ncl sub (bZ (bY 1) (bZ (cC (.ty "bool")) cG))) (cIsi ncl sub (bZ (bY 0) (bZ (cC (.ty "bool")) cG))))) (cTst (cBin (oEq true) (cIsi ncl sub (bZ (bY 1) (bZ (cC (.ty "int")) cG))) (cIsi ncl sub (bZ (bY 0) (bZ (cC (.ty "int")) cG)))))) (cRet (cC (.bl false))) cNx)
  (cRet (cAnd (cBin (oEq false) (cIsi ncl sub (bZ (bY 1) (bZ (cC (.ty "str")) cG))) (cIsi ncl sub (bZ (bY 0) (bZ (cC (.ty "str")) cG)))) (cBin (oEq false) (bY 0) (bY 1)))))))
def je:Nat->List D->List Sl->Res Rv
 |0=>λ_ _=>.bad
 |n+1=>defM 4 (Vl (je n))
abbrev LQ(n:Nat)(P:Program)(wd:World)(K:yF)(mg:Str->Option Value)(base:Heap)(ce:List (Str×Addr)):Prop:=∃fd,Vk K fd∧FnOk P wd K mg base (L2.CX P wd) (n+0) (ni.at_ K) fd ["_law_found","_law_due"] (spM (Gk K ce) 2 (je n))
theorem zwG{K:yF}(T:Tx K mg)(D0:∃fd,Vk K fd):∀n,LQ n P wd K mg base ce:=by iterate
 obtain⟨fd,F⟩:=D0;intro n
 induction n with
 |zero=>exact⟨fd,F,zu3⟩
 |succ n ih=>
  obtain⟨_,F_z19,G_z19⟩:=ih;rw[show n+1+0=(n+0)+1 by omega];refine⟨fd,F,?_⟩;refine fG (Γ:=Gk K ce) (N:=["_law_found","_law_due","_law_a_z","_law_b_z"]) (ps:=["_law_found","_law_due"]) (c:=(Vl (je n))) F vo λcdv A outer s H E hr tk pas=>?_;have hu:=hr.u64;exact(cZ (dR (PW.pt (qb (d8 opIs bIs (cI 1 rfl bU) nW (nomark _)) (pZ (d8 opIs bIs (cI 0 rfl bU) nW (nomark _))))) (cW (dF (jh rfl (jy opIs bIs (cI 1 rfl bU) nW (nomark _)) (oA (jy opIs bIs (cI 0 rfl bU) nW (nomark _)))))) dU)
  (cZ (dR (fX rfl (fU rfl (T.ct_ ce) rfl T.f_isinstance (cH (cI 1 rfl bU) (cH (dO (cH (fL T.f_list (by rfl) rfl (by decide) (by decide)) (cH (fL T.f_tuple (by rfl) rfl (by decide) (by decide)) cJ rfl) rfl)) cJ rfl) rfl) rfl rfl) (λ_=>rfl)) (cZ (dR (PW.pt (qb (d8 (opNe hu) bNe (fU rfl (T.ct_ ce) rfl T.f_isinstance (cH (cI 0 rfl bU) (cH (fL T.f_list (by rfl) rfl (by decide) (by decide)) cJ rfl) rfl) rfl rfl) (fU rfl (T.ct_ ce) rfl T.f_isinstance (cH (cI 1 rfl bU) (cH (fL T.f_list (by rfl) rfl (by decide) (by decide)) cJ rfl) rfl) rfl rfl) (nomark _)) (pZ (d8 (opNe hu) bNe (fU rfl (T.ct_ ce) rfl T.f_isinstance (cH (cI 0 rfl bU) (cH (fL T.f_tuple (by rfl) rfl (by decide) (by decide)) cJ rfl) rfl) rfl rfl) (fU rfl (T.ct_ ce) rfl T.f_isinstance (cH (cI 1 rfl bU) (cH (fL T.f_tuple (by rfl) rfl (by decide) (by decide)) cJ rfl) rfl) rfl rfl) (nomark _))))) (cW (dF iz)) dU)
  (cW (dF (jh rfl (jy (opEq hu) bEq (fY iT iU rfl T.f_len (by rfl) (dJ (cI 0 rfl bU) dI rfl) rfl rfl (by decide) (by decide)) (fY iT iU rfl T.f_len (by rfl) (dJ (cI 1 rfl bU) dI rfl) rfl rfl (by decide) (by decide)) (nomark _)) (oA (fY (cr_all rfl) zyv rfl T.f_all (by rfl) (dJ (N8 (own:=[("_law_a_z",2),("_law_b_z",3)]) rfl vo.nd (ztc rfl rfl T.f_zip (cH (cI 0 rfl bU) (cH (cI 1 rfl bU) cJ rfl) rfl) rfl rfl) (show BlkOk ["_law_found","_law_due","_law_a_z","_law_b_z"] (defScope pP) _ _ from blkOk_by (by decide +kernel)) (wH (is:=[2,3]) (n:=2) rfl) (by decide) (λ_ _ _ _ _=>(pg_tup rfl (pgs_cons (pg_name (i:=2) vo.nd rfl bU bV) (pgs_cons (pg_name (i:=3) vo.nd rfl bU bV) pgs_nil rfl) rfl) rfl rfl)) (λ_ _ _ _ _=>lu) (λ_ _ _ _ _=>(dH [] rfl G_z19 hr rfl T.g__law_same F_z19.kp (pH T F_z19) DV.takes0 (cH (cI 2 rfl bU) (cH (cI 3 rfl bU) cJ rfl) rfl) dh rfl rfl (by decide) rfl rfl)) (λ_=>rfl)) dI rfl) rfl rfl (by decide) (by decide))))))) dU)
  (cZ (dR (PW.pt (qb (d8 (opNe hu) bNe (fU rfl (T.ct_ ce) rfl T.f_isinstance (cH (cI 1 rfl bU) (cH (fL T.f_bool (by rfl) rfl (by decide) (by decide)) cJ rfl) rfl) rfl rfl) (fU rfl (T.ct_ ce) rfl T.f_isinstance (cH (cI 0 rfl bU) (cH (fL T.f_bool (by rfl) rfl (by decide) (by decide)) cJ rfl) rfl) rfl rfl) (nomark _)) (pZ (d8 (opNe hu) bNe (fU rfl (T.ct_ ce) rfl T.f_isinstance (cH (cI 1 rfl bU) (cH (fL T.f_int (by rfl) rfl (by decide) (by decide)) cJ rfl) rfl) rfl rfl) (fU rfl (T.ct_ ce) rfl T.f_isinstance (cH (cI 0 rfl bU) (cH (fL T.f_int (by rfl) rfl (by decide) (by decide)) cJ rfl) rfl) rfl rfl) (nomark _))))) (cW (dF iz)) dU)
  (cW (dF (jh rfl (jy (opEq hu) bEq (fU rfl (T.ct_ ce) rfl T.f_isinstance (cH (cI 1 rfl bU) (cH (fL T.f_str (by rfl) rfl (by decide) (by decide)) cJ rfl) rfl) rfl rfl) (fU rfl (T.ct_ ce) rfl T.f_isinstance (cH (cI 0 rfl bU) (cH (fL T.f_str (by rfl) rfl (by decide) (by decide)) cJ rfl) rfl) rfl rfl) (nomark _)) (oA (jy (opEq hu) bEq (cI 0 rfl bU) (cI 1 rfl bU) (nomark _)))))))))
abbrev Vm(K fd):=FnA nq K (nq.at_ K) fd
def Vn:M Fl:=(cSeq (cIfS (cTst (cBin (oIn false) (cXf xfs "code" (bY 0)) (cLst (bZ (cC (.str "InvalidPiece")) (bZ (cC (.str "InvalidRow")) (bZ (cC (.str "InvalidPattern")) (bZ (cC (.str "InvalidRule")) (bZ (cC (.str "InvalidCommand")) cG)))))))) (cRet (cTup (bZ (cXf xfs "at" (bY 0)) cG))) cNx)
  (cSeq (cIfS (cTst (cBin (oIn false) (cXf xfs "code" (bY 0)) (cLst (bZ (cC (.str "UnlikeNames")) (bZ (cC (.str "NotFewer")) (bZ (cC (.str "Unfounded")) (bZ (cC (.str "NoText")) (bZ (cC (.str "NothingLeft")) cG)))))))) (cRet (cTup cG)) cNx)
  (cSeq (cIfS (cTst (cBin (oIn false) (cXf xfs "code" (bY 0)) (cLst (bZ (cC (.str "InvalidReader")) (bZ (cC (.str "UnlikeSymbols")) (bZ (cC (.str "UnknownName")) cG)))))) (cRet (cTup (bZ (cXf xfs "name" (bY 0)) cG))) cNx)
  (cSeq (cIfS (cTst (cBin (oIn false) (cXf xfs "code" (bY 0)) (cLst (bZ (cC (.str "InvalidPage")) (bZ (cC (.str "Full")) cG))))) (cRet (cIf (cTst (cBin (oEq false) (cXf xfs "code" (bY 0)) (cC (.str "InvalidPage")))) (cTup (bZ (cXf xfs "line" (bY 0)) cG)) (cTup (bZ (cXf xfs "limit" (bY 0)) cG)))) cNx)
  (cRet (cIf (cTst (cBin (oEq false) (cXf xfs "code" (bY 0)) (cC (.str "TooMany")))) (cTup (bZ (cXf xfs "subject" (bY 0)) (bZ (cXf xfs "most" (bY 0)) cG))) (cTup (bZ (cXf xfs "given" (bY 0)) cG))))))))
def Vo:=defM 1 Vn
abbrev LR(P wd K mg base ce):=∃fd,Vm K fd∧FnC P wd K mg base 1 (nq.at_ K) fd ["_law_e"] (spM (Gk K ce) 1 Vo)
theorem zv3{K:yF}(T:Tx K mg):(∃fd,Vm K fd)->LR P wd K mg base ce:=by iterate
 rintro⟨fd,F⟩;refine⟨fd,F,?_⟩
 ·refine zuY (Γ:=Gk K ce) (c:=Vn) (N:=["_law_e"]) (ps:=["_law_e"]) F zwT λcdv A outer s H p hr=>?_;have hu:=hr.u64;have hu1:=hr.u1;exact(cZ (dR (d8 (opIn hu1) bIn (gQ rfl (T.xt ce) (cI 0 rfl bU) rfl) (dW (cH dB (cH dB (cH dB (cH dB (cH dB cJ rfl) rfl) rfl) rfl) rfl)) (by with_unfolding_all rfl)) (cW (dF (dO (cH (gQ rfl (T.xt ce) (cI 0 rfl bU) rfl) cJ rfl)))) dU)
  (cZ (dR (d8 (opIn hu1) bIn (gQ rfl (T.xt ce) (cI 0 rfl bU) rfl) (dW (cH dB (cH dB (cH dB (cH dB (cH dB cJ rfl) rfl) rfl) rfl) rfl)) (by with_unfolding_all rfl)) (cW (dF (dO cJ))) dU)
  (cZ (dR (d8 (opIn hu1) bIn (gQ rfl (T.xt ce) (cI 0 rfl bU) rfl) (dW (cH dB (cH dB (cH dB cJ rfl) rfl) rfl)) (by with_unfolding_all rfl)) (cW (dF (dO (cH (gQ rfl (T.xt ce) (cI 0 rfl bU) rfl) cJ rfl)))) dU)
  (cZ (dR (d8 (opIn hu1) bIn (gQ rfl (T.xt ce) (cI 0 rfl bU) rfl) (dW (cH dB (cH dB cJ rfl) rfl)) (by with_unfolding_all rfl)) (cW (dF (tH (d8 (opEq hu) bEq (gQ rfl (T.xt ce) (cI 0 rfl bU) rfl) dB (nomark _)) (dO (cH (gQ rfl (T.xt ce) (cI 0 rfl bU) rfl) cJ rfl)) (dO (cH (gQ rfl (T.xt ce) (cI 0 rfl bU) rfl) cJ rfl))))) dU)
  (cW (dF (tH (d8 (opEq hu) bEq (gQ rfl (T.xt ce) (cI 0 rfl bU) rfl) dB (nomark _)) (dO (cH (gQ rfl (T.xt ce) (cI 0 rfl bU) rfl) (cH (gQ rfl (T.xt ce) (cI 0 rfl bU) rfl) cJ rfl) rfl)) (dO (cH (gQ rfl (T.xt ce) (cI 0 rfl bU) rfl) cJ rfl)))))))))
abbrev Vp(K fd):=FnA nu K (nu.at_ K) fd
abbrev J_0:CelL:=[("_law_made",2,6),("_law_times",1,5)]
def rB:M Rv:=(gY 0 "listed" m_z11 0 0 jw (cOp2 oMul (ju 0 m_z8) (bY 0) (bY 1)) cG cG)
abbrev J_1:CelL:=[("_law_made",2,6),("_law_times",1,5)]
def rC:M Rv:=(gY 0 "listed" m_z11 0 0 jw (cOp2 oMul (pF 0 m_z5) (bY 1) (bY 0)) cG cG)
abbrev J_2:CelL:=[("_law_bad",3,10),("_law_made",2,6)]
def rD:M Rv:=(cOp2 oMul (ju 0 m_z8) (bY 1) (bY 0))
abbrev J_3:CelL:=[("_law_bad",3,10),("_law_made",2,6)]
def rE:M Rv:=(cOp2 oMul (pF 0 m_z5) (bY 0) (bY 1))
abbrev J_4:CelL:=[("_law_odd",5,14)]
def rF:M Rv:=(cKw fW 1 0 ["q"] (bZ (cC (.str "aa")) cG) (bZ (bY 0) cG))
abbrev J_5:CelL:=[("_law_odd",5,14)]
def rG:M Rv:=(cKw fW 1 0 ["z","w","a"] (bZ (cC (.str "xy")) cG) (bZ (bY 0) (bZ (cC (.int 1)) (bZ (cC (.int 2)) cG))))
abbrev J_6:CelL:=[("_law_odd",5,14),("_law_one",4,12)]
def rH:M Rv:=(cKw fW 1 0 ["x","y"] (bZ (cC (.str "xy")) cG) (bZ (bY 1) (bZ (bY 0) cG)))
abbrev J_7:CelL:=[("_law_odd",5,14)]
def rJ:M Rv:=(cKw fW 1 0 ["w","x"] (bZ (cC (.str "xy")) cG) (bZ (bY 0) (bZ (bY 0) cG)))
def lamM:Nat->List Sl->Res Rv
 |0=>eG J_0 rB
 |1=>eG J_1 rC
 |2=>eG J_2 rD
 |3=>eG J_3 rE
 |4=>eG J_4 rF
 |5=>eG J_5 rG
 |6=>eG J_6 rH
 |7=>eG J_7 rJ
 |_=>λ_=>.bad
theorem lf_0{K:yF}(T:Tx K mg)(C_z11:pJ P wd K mg base ce)(C_z8:lQ P wd K mg base ce):LamF P wd K mg base (Gk K ce) 6 0 J_0 rB:=by iterate
 obtain⟨_,F_z11,G_z11⟩:=C_z11;obtain⟨_,F_z8,G_z8⟩:=C_z8;refine⟨jU (show jd Ky ["_law_made","_law_times"]=true from by decide +kernel) (λ_ _ _ _=>rfl),λA outer s H E f c' hr tk=>?_⟩
 exact(jL (c:=0) [] rfl (oR eZ bMul (vf (c:=0) rfl rfl T.sf_Costs T.m_z8.at_ T.m_z8.fn T.mr_Costs T.ml_Costs G_z8 (hr.mono (by decide)) (vC F_z8) tk) (cI 0 rfl (.inr bV)) (cI 1 rfl (.inr bV))) T.cls_Costs T.m_z11 G_z11 (hr.mono (by decide)) (j9 T F_z11) tk dh rfl rfl rfl rfl)
theorem lf_1{K:yF}(T:Tx K mg)(C_z11:pJ P wd K mg base ce)(C_z5:qZ P wd K mg base ce):LamF P wd K mg base (Gk K ce) 6 1 J_1 rC:=by iterate
 obtain⟨_,F_z11,G_z11⟩:=C_z11;obtain⟨_,F_z5,G_z5⟩:=C_z5;refine⟨jU (show jd Kz ["_law_made","_law_times"]=true from by decide +kernel) (λ_ _ _ _=>rfl),λA outer s H E f c' hr tk=>?_⟩
 exact(jL (c:=0) [] rfl (oR eZ bMul (TF (c:=0) rfl rfl T.sf_Costs T.m_z8.at_ T.m_z5.at_ T.m_z5.fn T.ml_Costs G_z5 (hr.mono (by decide)) (Ut F_z5) tk) (cI 1 rfl (.inr bV)) (cI 0 rfl (.inr bV))) T.cls_Costs T.m_z11 G_z11 (hr.mono (by decide)) (j9 T F_z11) tk dh rfl rfl rfl rfl)
theorem lf_2{K:yF}(T:Tx K mg)(C_z8:lQ P wd K mg base ce):LamF P wd K mg base (Gk K ce) 6 2 J_2 rD:=by
 obtain⟨_,F_z8,G_z8⟩:=C_z8;refine⟨jU (show jd KC ["_law_bad","_law_made"]=true from by decide +kernel) (λ_ _ _ _=>rfl),λA outer s H E f c' hr tk=>?_⟩
 exact(oR eZ bMul (vf (c:=0) rfl rfl T.sf_Costs T.m_z8.at_ T.m_z8.fn T.mr_Costs T.ml_Costs G_z8 (hr.mono (by decide)) (vC F_z8) tk) (cI 1 rfl (.inr bV)) (cI 0 rfl (.inr bV)))
theorem lf_3{K:yF}(T:Tx K mg)(C_z5:qZ P wd K mg base ce):LamF P wd K mg base (Gk K ce) 6 3 J_3 rE:=by
 obtain⟨_,F_z5,G_z5⟩:=C_z5;refine⟨jU (show jd KD ["_law_bad","_law_made"]=true from by decide +kernel) (λ_ _ _ _=>rfl),λA outer s H E f c' hr tk=>?_⟩
 exact(oR eZ bMul (TF (c:=0) rfl rfl T.sf_Costs T.m_z8.at_ T.m_z5.at_ T.m_z5.fn T.ml_Costs G_z5 (hr.mono (by decide)) (Ut F_z5) tk) (cI 0 rfl (.inr bV)) (cI 1 rfl (.inr bV)))
theorem lf_4{K:yF}(T:Tx K mg)(C_z10:km P wd K mg base ce):LamF P wd K mg base (Gk K ce) 6 4 J_4 rF:=by
 obtain⟨_,F_z10,G_z10⟩:=C_z10;refine⟨jU (show jd KH ["_law_odd"]=true from by decide +kernel) (λ_ _ _ _=>rfl),λA outer s H E f c' hr tk=>?_⟩
 exact(lM (n:=1) (j:=0) (ks:=["q"]) T.sm_Costs_priced G_z10 (hr.mono (by decide)) rfl T.g_Costs F_z10.kp (zmz F_z10) tk (cH dB cJ rfl) (fJ (cI 0 rfl (.inr bV)) dh) rfl rfl (by decide) rfl rfl rfl)
theorem lf_5{K:yF}(T:Tx K mg)(C_z10:km P wd K mg base ce):LamF P wd K mg base (Gk K ce) 6 5 J_5 rG:=by
 obtain⟨_,F_z10,G_z10⟩:=C_z10;refine⟨jU (show jd KJ ["_law_odd"]=true from by decide +kernel) (λ_ _ _ _=>rfl),λA outer s H E f c' hr tk=>?_⟩
 exact(lM (n:=1) (j:=0) (ks:=["z","w","a"]) T.sm_Costs_priced G_z10 (hr.mono (by decide)) rfl T.g_Costs F_z10.kp (zfJ F_z10) tk (cH dB cJ rfl) (fJ (cI 0 rfl (.inr bV)) (fJ cO (fJ cO dh))) rfl rfl (by decide) rfl rfl rfl)
theorem lf_6{K:yF}(T:Tx K mg)(C_z10:km P wd K mg base ce):LamF P wd K mg base (Gk K ce) 6 6 J_6 rH:=by iterate
 obtain⟨_,F_z10,G_z10⟩:=C_z10;refine⟨jU (show jd KN ["_law_odd","_law_one"]=true from by decide +kernel) (λ_ _ _ _=>rfl),λA outer s H E f c' hr tk=>?_⟩
 exact(lM (n:=1) (j:=0) (ks:=["x","y"]) T.sm_Costs_priced G_z10 (hr.mono (by decide)) rfl T.g_Costs F_z10.kp (zjo F_z10) tk (cH dB cJ rfl) (fJ (cI 1 rfl (.inr bV)) (fJ (cI 0 rfl (.inr bV)) dh)) rfl rfl (by decide) rfl rfl rfl)
theorem lf_7{K:yF}(T:Tx K mg)(C_z10:km P wd K mg base ce):LamF P wd K mg base (Gk K ce) 6 7 J_7 rJ:=by
 obtain⟨_,F_z10,G_z10⟩:=C_z10;refine⟨jU (show jd KQ ["_law_odd"]=true from by decide +kernel) (λ_ _ _ _=>rfl),λA outer s H E f c' hr tk=>?_⟩
 exact(lM (n:=1) (j:=0) (ks:=["w","x"]) T.sm_Costs_priced G_z10 (hr.mono (by decide)) rfl T.g_Costs F_z10.kp (zim F_z10) tk (cH dB cJ rfl) (fJ (cI 0 rfl (.inr bV)) (fJ (cI 0 rfl (.inr bV)) dh)) rfl rfl (by decide) rfl rfl rfl)
def Vq:M Fl:=(cRet (cTup (bZ (cC (.str "")) (bZ (cRun lamM 0) cG))))
def iy:List D->List Sl->Res Rv:=tryB 2 Vq (λc=>catl.contains c) Vo
abbrev Ma(P wd K mg base ce):=∃fd,Vp K fd∧FnOk P wd K mg base (L2.CX P wd) 8 (nu.at_ K) fd ["_law_ask"] (spM (Gk K ce) 1 iy)
theorem zwM{K:yF}(T:Tx K mg)(C_z11:pJ P wd K mg base ce)(C_z8:lQ P wd K mg base ce)(C_z5:qZ P wd K mg base ce)(C_z10:km P wd K mg base ce)(C_z15:LR P wd K mg base ce)(D0:∃fd,Vp K fd):Ma P wd K mg base ce:=by iterate
 have LA:∀k,(∃J c,lamM k=eG J c∧LamF P wd K mg base (Gk K ce) 6 k J c)∨∀S,lamM k S=.bad:=λk=>match k with
  |0=>.inl ⟨J_0,rB,rfl,lf_0 T C_z11 C_z8⟩
  |1=>.inl ⟨J_1,rC,rfl,lf_1 T C_z11 C_z5⟩
  |2=>.inl ⟨J_2,rD,rfl,lf_2 T C_z8⟩
  |3=>.inl ⟨J_3,rE,rfl,lf_3 T C_z5⟩
  |4=>.inl ⟨J_4,rF,rfl,lf_4 T C_z10⟩
  |5=>.inl ⟨J_5,rG,rfl,lf_5 T C_z10⟩
  |6=>.inl ⟨J_6,rH,rfl,lf_6 T C_z10⟩
  |7=>.inl ⟨J_7,rJ,rfl,lf_7 T C_z10⟩
  |_+8=>.inr λ_=>rfl
 obtain⟨_,F_z15,G_z15⟩:=C_z15;obtain⟨fd,F⟩:=D0;refine⟨fd,F,?_⟩;refine zxM (Γ:=Gk K ce) (k:=7) (c:=Vq) (ask:="_law_ask") (n:="_law_e") F zvt rfl (by decide) rfl (by decide) (by decide) ⟨rfl,T.g_FromError,by decide⟩ ⟨rfl,T.g_Missing,by decide⟩ ⟨rfl,T.g_NothingLeft,by decide⟩ (λcdv A outer s H E W pn xe hr tk=>?_) G_z15 (by decide) rfl T.g__law_field (by decide) F_z15.kp (zxb F_z15) rfl (T.cat_ ce);exact(cW (dF (dO (cH dB (cH (zwp (i:=0) LA (hr.mono (by decide)) tk rfl bU (by decide) (by decide)) cJ rfl) rfl))))
abbrev Vr(K fd):=FnA nJ K (nJ.at_ K) fd
def Vs:M Fl:=(cRet (cLcO idF (gA (bY 0)) [1] (.nm 1) cYes (cY iy 1 0 Uq (bZ (bY 1) cG) cG)))
def rK:=defM 2 Vs
abbrev Mf(P wd K mg base ce):=∃fd,Vr K fd∧FnOk P wd K mg base (L2.CX P wd) 9 (nJ.at_ K) fd ["_law_asks"] (spM (Gk K ce) 1 rK)
theorem zwE{K:yF}(T:Tx K mg):Ma P wd K mg base ce->(∃fd,Vr K fd)->Mf P wd K mg base ce:=by iterate
 rintro⟨_,F_z22,G_z22⟩ ⟨fd,F⟩;refine⟨fd,F,?_⟩
 ·refine fG (Γ:=Gk K ce) (N:=["_law_asks","_law_ask"]) (ps:=["_law_asks"]) (c:=Vs) F KZ λcdv A outer s H E hr tk pas=>?_;exact(cW (dF (qG (own:=[("_law_ask",1)]) rfl KZ.nd (jN rfl (cI 0 rfl bU)) (show BlkOk ["_law_asks","_law_ask"] (defScope pQ) _ _ from blkOk_by (by decide +kernel)) (gU 1) (by decide) (λ_ _ _ _ _=>(pg_name (i:=1) KZ.nd rfl bU bV)) (λ_ _ _ _ _=>lu) (λ_ _ _ _ _=>(dH [] rfl G_z22 (hr.mono (by decide)) rfl T.g__law_try F_z22.kp (zqM T F_z22) DV.takes0 (cH (cI 1 rfl bU) cJ rfl) dh rfl rfl (by decide) rfl rfl)) (λ_=>rfl))))
abbrev Vt(K fd):=FnA nM K (nM.at_ K) fd
def c_z9:M Fl:=(cSeq (cSet true 2 (cBlt fK (cV (cC (.str "abcdefghijklmnopqrstuvwxyz0123456789")) cU)))
  (cRet (cMt "str" oM (cC (.str "")) (cV (cLc (oF (bZ (cBin oAdd (cC (.int 1)) (cY jx 2 0 j8 (bZ (bY 0) (bZ (bY 1) cG)) cG)) cG)) [3] (.nm 3) cYes (cMm "list" oH (bY 2) (bZ (cY jx 2 0 j8 (bZ (bY 0) (bZ (cBlt gLen (cV (bY 2) cU)) cG)) cG) cG))) cU))))
def m_z9:=defM 4 c_z9
abbrev Mg(P wd K mg base ce):=∃fd,Vt K fd∧FnOk P wd K mg base (L2.CX P wd) 2 (nM.at_ K) fd ["_law_bag","_law_most"] (spM (Gk K ce) 2 m_z9)
theorem zyh{K:yF}(T:Tx K mg):pK P wd K mg base ce->(∃fd,Vt K fd)->Mg P wd K mg base ce:=by iterate
 rintro⟨_,F_z21,G_z21⟩ ⟨fd,F⟩;refine⟨fd,F,?_⟩
 ·refine fG (Γ:=Gk K ce) (N:=["_law_bag","_law_most","_law_left","_law_k"]) (ps:=["_law_bag","_law_most"]) (c:=c_z9) F vp λcdv A outer s H E hr tk pas=>?_;exact(cZ (fD (own:=true) (fZ (oJ rfl) oK rfl T.f_list (by rfl) (dJ dB dI rfl) rfl rfl (by decide) (by decide)) (by decide) vp.nd rfl bV bU rfl rfl)
  (cW (dF (Nu rfl PySem.F.plainAttrs_str PySem.F.slot_str_join PySem.F.type_str_join mt_join zxw dB (dJ (N8 (own:=[("_law_k",3)]) rfl vp.nd (NZ rfl T.f_range (cH (di gq bAdd cO (dH [] rfl G_z21 (hr.mono (by decide)) rfl T.g__law_draw F_z21.kp (lN T F_z21) tk (cH (cI 0 rfl bW) (cH (cI 1 rfl bU) cJ rfl) rfl) dh rfl rfl (by decide) rfl rfl)) cJ rfl) rfl) (show BlkOk ["_law_bag","_law_most","_law_left","_law_k"] (defScope s_z9) _ _ from blkOk_by (by decide +kernel)) (gU 3) (by decide) (λ_ _ _ _ _=>(pg_name (i:=3) vp.nd rfl bU bV)) (λ_ _ _ _ _=>lu) (λ_ _ _ _ _=>(zyP PySem.F.plainAttrs_list PySem.F.slot_list_pop PySem.F.type_list_pop mt_popAt zuT (cI 2 rfl bW) (cH (dH [] rfl G_z21 (hr.mono (by decide)) rfl T.g__law_draw F_z21.kp (lN T F_z21) DV.takes0 (cH (cI 0 rfl bW) (cH (fY iT iU rfl T.f_len (by rfl) (dJ (cI 2 rfl bW) dI rfl) rfl rfl (by decide) (by decide)) cJ rfl) rfl) dh rfl rfl (by decide) rfl rfl) cJ rfl) rfl rfl rfl rfl rfl)) (λ_=>rfl)) dI rfl) rfl rfl rfl rfl rfl))))
abbrev Vu(K fd):=FnA nO K (nO.at_ K) fd
def Vv:M Fl:=(cSeq (cSet false 1 (cY jx 2 0 j8 (bZ (bY 0) (bZ (cC (.int 8)) cG)) cG))
  (cSeq (cIfS (cTst (cBin oLt (bY 1) (cC (.int 6)))) (cRet (cBin oGet (cLst (bZ (cC (.int 0)) (bZ (cC (.int 1)) (bZ (cC (.int 2)) (bZ (cC (.int 3)) (bZ (cC (.int 5)) (bZ (cC (.int 1)) cG))))))) (bY 1))) cNx)
  (cRet (cIf (cTst (cBin (oEq false) (bY 1) (cC (.int 6)))) (cY jx 2 0 j8 (bZ (bY 0) (bZ (cC (.int 100)) cG)) cG) (cBin oSub (cBin oPow (cC (.int 10)) (cC (.int 12))) (cY jx 2 0 j8 (bZ (bY 0) (bZ (cC (.int 3)) cG)) cG))))))
def rM:=defM 2 Vv
abbrev vP(P wd K mg base ce):=∃fd,Vu K fd∧FnOk P wd K mg base (L2.CX P wd) 2 (nO.at_ K) fd ["_law_bag"] (spM (Gk K ce) 1 rM)
theorem zx6{K:yF}(T:Tx K mg):pK P wd K mg base ce->(∃fd,Vu K fd)->vP P wd K mg base ce:=by iterate
 rintro⟨_,F_z21,G_z21⟩ ⟨fd,F⟩;refine⟨fd,F,?_⟩
 ·refine fG (Γ:=Gk K ce) (N:=["_law_bag","_law_way"]) (ps:=["_law_bag"]) (c:=Vv) F Uc λcdv A outer s H E hr tk pas=>?_;have hu:=hr.u64;have hu1:=hr.u1;exact(cZ (fD (own:=false) (dH [] rfl G_z21 (hr.mono (by decide)) rfl T.g__law_draw F_z21.kp (lN T F_z21) tk (cH (cI 0 rfl bU) (cH cO cJ rfl) rfl) dh rfl rfl (by decide) rfl rfl) (by decide) Uc.nd rfl bU bU rfl rfl)
  (cZ (dR (d8 op_lt bLt (cI 1 rfl bU) cO (nomark _)) (cW (dF (eU (fj hu1) bGet (dW (cH cO (cH cO (cH cO (cH cO (cH cO (cH cO cJ rfl) rfl) rfl) rfl) rfl) rfl)) (cI 1 rfl bU) (λ_ _=>rfl)))) dU)
  (cW (dF (tH (d8 (opEq hu) bEq (cI 1 rfl bU) cO (nomark _)) (dH [] rfl G_z21 (hr.mono (by decide)) rfl T.g__law_draw F_z21.kp (lN T F_z21) tk (cH (cI 0 rfl bU) (cH cO cJ rfl) rfl) dh rfl rfl (by decide) rfl rfl) (di op_sub bSub (di op_pow bPow cO cO) (dH [] rfl G_z21 (hr.mono (by decide)) rfl T.g__law_draw F_z21.kp (lN T F_z21) tk (cH (cI 0 rfl bU) (cH cO cJ rfl) rfl) dh rfl rfl (by decide) rfl rfl)))))))
abbrev Vw(K fd):=FnA nQ K (nQ.at_ K) fd
def Vx:M Fl:=(cRet (cLcO idF (gA (bY 1)) [2] (.nm 2) cYes (cY rM 1 0 vB (bZ (bY 0) cG) cG)))
def Mh:=defM 3 Vx
abbrev Mi(P wd K mg base ce):=∃fd,Vw K fd∧FnOk P wd K mg base (L2.CX P wd) 3 (nQ.at_ K) fd ["_law_bag","_law_symbols_z"] (spM (Gk K ce) 2 Mh)
theorem zvT{K:yF}(T:Tx K mg):vP P wd K mg base ce->(∃fd,Vw K fd)->Mi P wd K mg base ce:=by iterate
 rintro⟨_,F_z16,G_z16⟩ ⟨fd,F⟩;refine⟨fd,F,?_⟩
 ·refine fG (Γ:=Gk K ce) (N:=["_law_bag","_law_symbols_z","_law_symbol"]) (ps:=["_law_bag","_law_symbols_z"]) (c:=Vx) F K6 λcdv A outer s H E hr tk pas=>?_;exact(cW (dF (qG (own:=[("_law_symbol",2)]) rfl K6.nd (jN rfl (cI 1 rfl bU)) (show BlkOk ["_law_bag","_law_symbols_z","_law_symbol"] (defScope pU) _ _ from blkOk_by (by decide +kernel)) (gU 2) (by decide) (λ_ _ _ _ _=>(pg_name (i:=2) K6.nd rfl bU bV)) (λ_ _ _ _ _=>lu) (λ_ _ _ _ _=>(dH [] rfl G_z16 (hr.mono (by decide)) rfl T.g__law_cost F_z16.kp (La T F_z16) DV.takes0 (cH (cI 0 rfl bW) cJ rfl) dh rfl rfl (by decide) rfl rfl)) (λ_=>rfl))))
abbrev Vy(K fd):=FnA eQ K (eQ.at_ K) fd
def Vz:M Fl:=(cIfS (fM (cTru (cY (je 6) 2 0 lO (bZ (cLst (bZ (gY 0 "listed" m_z11 0 0 jw (bY 6) cG cG) (bZ (gY 0 "listed" m_z11 0 0 jw (bY 11) cG cG) cG))) (bZ (cLst (bZ (bY 4) (bZ (cBin oAdd (cLst (bZ (cBin oSub (cBin oPow (cC (.int 10)) (cC (.int 12))) (cC (.int 5))) cG)) (cSl oCut (bY 4) (jB (cC (.int 1))) cNoP)) cG))) cG)) cG))) (cRet (cC (.bl false))) cNx)
def VB:M Fl:=(cSeq (J8 (pA 0 m_z4) (cBin oSub (cBin oPow (cC (.int 10)) (cC (.int 12))) (cC (.int 5))) (bY 11) (cBin oGet (bY 3) (cC (.int 0))))
  Vz)
def Mj:M Fl:=(cSeq (cSet false 11 (cOp2 oMul (ju 0 m_z8) (bY 6) (cC (.int 1))))
  VB)
def VD:M Fl:=(cSeq (cIfS (fM (cTru (cY (je 6) 2 0 lO (bZ (qU [("_law_bad",3,10),("_law_made",2,6)] rK 1 vA (bZ (cLst (bZ (cLam 2 17 "law.<locals>.<lambda>") (bZ (cLam 3 17 "law.<locals>.<lambda>") cG))) cG)) (bZ (cBin oMul (cLst (bZ (cTup (bZ (cC (.str "InvalidNumber")) (bZ (cTup (bZ (bY 10) cG)) cG))) cG)) (cC (.int 2))) cG)) cG))) (cRet (cC (.bl false))) cNx)
  Mj)
def VF:M Fl:=(cSeq (cSet false 10 (cY rA 2 0 vq (bZ (bY 1) (bZ (cLst (bZ (cC (.int 0)) (bZ (cNeg (cC (.int 1))) (bZ (cC (.int 1001)) (bZ (cC (.bl true)) (bZ (cC .non) (bZ (cC (.str "2")) (bZ (cTup (bZ (cC (.int 2)) cG)) cG)))))))) cG)) cG))
  VD)
def VG:M Fl:=(cSeq (cIfS (cOrB (fM (cTru (cY (je 6) 2 0 lO (bZ (bY 9) (bZ (cLst (bZ (bY 8) (bZ (bY 8) cG))) cG)) cG))) (cTst (cBin (oEq true) (gY 0 "listed" m_z11 0 0 jw (bY 6) cG cG) (bY 4)))) (cRet (cC (.bl false))) cNx)
  VF)
def Ml:M Fl:=(cSeq (cSet false 9 (qU [("_law_made",2,6),("_law_times",1,5)] rK 1 vA (bZ (cLst (bZ (cLam 0 17 "law.<locals>.<lambda>") (bZ (cLam 1 17 "law.<locals>.<lambda>") cG))) cG)))
  VG)
def VH:M Fl:=(cSeq (cSet false 8 (cIf (cTst (cBin (oEq true) (bY 7) (cLst cG))) (cTup (bZ (cC (.str "InvalidCost")) (bZ (cTup (bZ (cBin oGet (bY 7) (cC (.int 0))) cG)) cG))) (cTup (bZ (cC (.str "")) (bZ (cLcO idF (gA (bY 4)) [16] (.nm 16) cYes (cBin oMul (bY 16) (bY 5))) cG)))))
  Ml)
def VJ:M Fl:=(cSeq (cSet false 7 (cLcO idF (gA (bY 4)) [16] (.nm 16) (cTst (cBin oGt (cBin oMul (bY 16) (bY 5)) (cBin oPow (cC (.int 10)) (cC (.int 12))))) (cBin oMul (bY 16) (bY 5))))
  VH)
def VL:M Fl:=(cSeq (cSet false 6 (cY m_z6 2 0 vz (bZ (bY 3) (bZ (bY 4) cG)) cG))
  VJ)
def VM:M Fl:=(cSeq (tL (.tp [4,5]) (cTup (bZ (cY Mh 2 0 Uh (bZ (bY 1) (bZ (bY 3) cG)) cG) (bZ (cY rA 2 0 vq (bZ (bY 1) (bZ (cLst (bZ (cC (.int 1)) (bZ (cC (.int 2)) (bZ (cC (.int 1000)) (bZ (cBin oAdd (cC (.int 1)) (cY jx 2 0 j8 (bZ (bY 1) (bZ (cC (.int 1000)) cG)) cG)) cG))))) cG)) cG) cG))))
  VL)
def Mp:M Fl:=(cSeq (cSet false 3 (cY m_z9 2 0 Ug (bZ (bY 1) (bZ (cC (.int 5)) cG)) cG))
  VM)
def rN:M Fl:=(cSeq (cSto 1 (cY Lz 1 0 Ue (bZ (bY 0) cG) cG))
  (cSeq (cRsv ["_law_times","_law_made","_law_bad","_law_one","_law_odd"])
  (cSeq (cFor (oF (bZ (cC (.int 5)) cG)) (.nm 2) Mp)
  (cSeq (tL (.tp [12,13]) (cTup (bZ (cY rM 1 0 vB (bZ (bY 1) cG) cG) (bZ (cY rM 1 0 vB (bZ (bY 1) cG) cG) cG))))
  (cSeq (cSet false 9 (cLst (bZ (gY 0 "listed" m_z11 0 0 jw (cKw fW 1 0 [] (bZ (cC (.str "xby")) cG) cG) cG cG) (bZ (gY 0 "listed" m_z11 0 0 jw (cKw fW 1 0 ["b"] (bZ (cC (.str "xby")) cG) (bZ (bY 12) cG)) cG cG) (bZ (gY 0 "listed" m_z11 0 0 jw (cKw fW 1 0 ["y","x"] (bZ (cC (.str "xby")) cG) (bZ (bY 13) (bZ (bY 12) cG))) cG cG) (bZ (Bf 0 m_z7 (cKw fW 0 1 ["symbols","x","y"] cG (bZ (cC (.str "yx")) (bZ (bY 13) (bZ (bY 12) cG))))) cG))))))
  (cSeq (cIfS (fM (cTru (cY (je 6) 2 0 lO (bZ (bY 9) (bZ (cLst (bZ (cLst (bZ (cC (.int 0)) (bZ (cC (.int 0)) (bZ (cC (.int 0)) cG)))) (bZ (cLst (bZ (cC (.int 0)) (bZ (bY 12) (bZ (cC (.int 0)) cG)))) (bZ (cLst (bZ (bY 12) (bZ (cC (.int 0)) (bZ (bY 13) cG)))) (bZ (cC (.str "yx")) cG))))) cG)) cG))) (cRet (cC (.bl false))) cNx)
  (cSeq (cSet false 14 (cY rA 2 0 vq (bZ (bY 1) (bZ (cLst (bZ (cC .non) (bZ (cC (.bl true)) (bZ (cNeg (cC (.int 1))) (bZ (cBin oAdd (cBin oPow (cC (.int 10)) (cC (.int 12))) (cC (.int 1))) (bZ (cC (.str "1")) cG)))))) cG)) cG))
  (cSeq (cSet false 15 (cLst (bZ (cLam 4 17 "law.<locals>.<lambda>") (bZ (cLam 5 17 "law.<locals>.<lambda>") (bZ (cLam 6 17 "law.<locals>.<lambda>") (bZ (cLam 7 17 "law.<locals>.<lambda>") cG))))))
  (cSeq (cSet false 8 (cLst (bZ (cTup (bZ (cC (.str "InvalidSymbols")) (bZ (cTup (bZ (cC (.str "aa")) cG)) cG))) (bZ (cTup (bZ (cC (.str "InvalidSymbol")) (bZ (cTup (bZ (cC (.str "a")) cG)) cG))) (bZ (cTup (bZ (cC (.str "InvalidCost")) (bZ (cTup (bZ (bY 14) cG)) cG))) (bZ (cTup (bZ (cC (.str "InvalidSymbol")) (bZ (cTup (bZ (cC (.str "w")) cG)) cG))) cG))))))
  (cRet (cY (je 6) 2 0 lO (bZ (qU [("_law_made",2,6),("_law_times",1,5),("_law_bad",3,10),("_law_odd",5,14),("_law_one",4,12)] rK 1 vA (bZ (bY 15) cG)) (bZ (bY 8) cG)) cG)))))))))))
abbrev Plain:Prop:=∀ns:List Int,ns.length≤63->∃ρ S t,rN ((env0 18 [.kl (ns.map .int)]).set 17 (.tab "law.<locals>.<lambda>")) []=.ok (.rt (.d (.bl true))) ρ S t
abbrev VN(P:Program)(wd:World)(K:yF)(mg:Str->Option Value)(base:Heap):Prop:=∃fd,Vy K fd∧FnOk P wd K mg base (L2.CX P wd) 10 (eQ.at_ K) fd ["_law_script"] (pD K 63 (lawT K).2)
theorem zwQ{P:Program}{wd:World}{K:yF}{mg:Str->Option Value}{base:Heap}(T:Tx K mg)(C_z20:∀ce,LC P wd K mg base ce)(C_z9:∀ce,Mg P wd K mg base ce)(C_z12:∀ce,Mi P wd K mg base ce)(C_z24:∀ce,LK P wd K mg base ce)(C_z21:∀ce,pK P wd K mg base ce)(C_z6:∀ce,qX P wd K mg base ce)(C_z14:∀ce,Mf P wd K mg base ce)(C_z19:∀ce,LQ 6 P wd K mg base ce)(C_z11:∀ce,pJ P wd K mg base ce)(C_z8:∀ce,lQ P wd K mg base ce)(C_z4:∀ce,Lw P wd K mg base ce)(C_z16:∀ce,vP P wd K mg base ce)(C_z10:∀ce,km P wd K mg base ce)(C_z7:∀ce,Lq P wd K mg base ce)(D0:∃fd,Vy K fd)(TB:LamX.TabB base mg (lawT K).1 (lawT K).2)(pl:Plain):VN P wd K mg base:=by iterate
 obtain⟨fd,F⟩:=D0;refine⟨fd,F,?_⟩;refine zvP (k:=9) (it:=17) (n:=63) (N:=["_law_script","_law_bag","_law_turn","_law_symbols_z","_law_prices_here","_law_times","_law_made","_law_great","_law_due","_law_found","_law_bad","_law_twice","_law_one","_law_two","_law_odd","_law_asks","_law_price","<tab>"]) (x:="_law_script") (dum:="<tab>") (G:=Gk K) (c:=rN) (q:="law.<locals>.<lambda>") rfl F eO (λ_=>⟨rfl,rfl⟩) rfl (by decide) (λz=>by rcases z with z|z|z<;>exact absurd z (by decide +kernel)) TB (λA outer s H E hr tk pas=>?_) pl
 obtain⟨_,F_z20,G_z20⟩:=C_z20 (cellsFrom (s.heap.objs.size+1) eQ.scope.names []);obtain⟨_,F_z9,G_z9⟩:=C_z9 (cellsFrom (s.heap.objs.size+1) eQ.scope.names []);obtain⟨_,F_z12,G_z12⟩:=C_z12 (cellsFrom (s.heap.objs.size+1) eQ.scope.names []);obtain⟨_,F_z24,G_z24⟩:=C_z24 (cellsFrom (s.heap.objs.size+1) eQ.scope.names []);obtain⟨_,F_z21,G_z21⟩:=C_z21 (cellsFrom (s.heap.objs.size+1) eQ.scope.names []);obtain⟨_,F_z6,G_z6⟩:=C_z6 (cellsFrom (s.heap.objs.size+1) eQ.scope.names []);obtain⟨_,F_z14,G_z14⟩:=C_z14 (cellsFrom (s.heap.objs.size+1) eQ.scope.names []);obtain⟨_,F_z19,G_z19⟩:=C_z19 (cellsFrom (s.heap.objs.size+1) eQ.scope.names []);obtain⟨_,F_z11,G_z11⟩:=C_z11 (cellsFrom (s.heap.objs.size+1) eQ.scope.names []);obtain⟨_,F_z8,G_z8⟩:=C_z8 (cellsFrom (s.heap.objs.size+1) eQ.scope.names []);obtain⟨_,F_z4,G_z4⟩:=C_z4 (cellsFrom (s.heap.objs.size+1) eQ.scope.names []);obtain⟨_,F_z16,G_z16⟩:=C_z16 (cellsFrom (s.heap.objs.size+1) eQ.scope.names []);obtain⟨_,F_z10,G_z10⟩:=C_z10 (cellsFrom (s.heap.objs.size+1) eQ.scope.names []);obtain⟨_,F_z7,G_z7⟩:=C_z7 (cellsFrom (s.heap.objs.size+1) eQ.scope.names []);have hu:=hr.u64;have hu1:=hr.u1;exact(cZ (zup (dH [] rfl G_z20 (hr.mono (by decide)) rfl T.g__law_open F_z20.kp (zqO T F_z20) tk (cH (cI 0 rfl bU) cJ rfl) dh rfl rfl (by decide) rfl rfl) (by decide) eO.nd rfl bU bU rfl rfl)
  (zuF (xs:=["_law_times","_law_made","_law_bad","_law_one","_law_odd"]) (λx hx=>zwI (x:=x) (show x∈(["_law_times","_law_made","_law_bad","_law_one","_law_odd"]:List Str) from hx) (show ∀x∈(["_law_times","_law_made","_law_bad","_law_one","_law_odd"]:List Str),(defScope dN).names.lookup x=some .cell from by decide +kernel)) (cZ (xg pas rfl (NZ rfl T.f_range (cH cO cJ rfl) rfl) (pg_name (i:=2) eO.nd rfl bU bU) (gU 2) (by decide) (cZ (fD (own:=false) (dH [] rfl G_z9 (hr.mono (by decide)) rfl T.g__law_symbols F_z9.kp (zta T F_z9) tk (cH (cI 1 rfl bU) (cH cO cJ rfl) rfl) dh rfl rfl (by decide) rfl rfl) (by decide) eO.nd rfl bU bU rfl rfl)
  (cZ (Oa (dO (cH (dH [] rfl G_z12 (hr.mono (by decide)) rfl T.g__law_prices F_z12.kp (zqR T F_z12) tk (cH (cI 1 rfl bU) (cH (cI 3 rfl bU) cJ rfl) rfl) dh rfl rfl (by decide) rfl rfl) (cH (dH [] rfl G_z24 (hr.mono (by decide)) rfl T.g__law_of F_z24.kp (K7 T F_z24) tk (cH (cI 1 rfl bU) (cH (dW (cH cO (cH cO (cH cO (cH (di gq bAdd cO (dH [] rfl G_z21 (hr.mono (by decide)) rfl T.g__law_draw F_z21.kp (lN T F_z21) tk (cH (cI 1 rfl bU) (cH cO cJ rfl) rfl) dh rfl rfl (by decide) rfl rfl)) cJ rfl) rfl) rfl) rfl)) cJ rfl) rfl) dh rfl rfl (by decide) rfl rfl) cJ rfl) rfl)) (pg_tup rfl (pgs_cons (pg_name (i:=4) eO.nd rfl bU bU) (pgs_cons (pg_name (i:=5) eO.nd rfl bV bU) pgs_nil rfl) rfl) rfl rfl) (wH (is:=[4,5]) (n:=2) rfl) (by decide) rfl rfl rfl)
  (cZ (fD (own:=false) (Bg (c:=0) [] rfl rfl T.mk_Costs G_z6 (hr.mono (by decide)) rfl T.g_Costs (K8 T F_z6) tk (cH (cI 3 rfl bU) (cH (cI 4 rfl bU) cJ rfl) rfl) dh rfl rfl (by decide) rfl rfl) (by decide) eO.nd rfl bV bU rfl rfl)
  (cZ (zmd (own:=[("_law_price",16)]) (own':=false) rfl eO.nd rfl rfl (by decide) rfl (jN rfl (cI 4 rfl bU)) (show BlkOk ["_law_script","_law_bag","_law_turn","_law_symbols_z","_law_prices_here","_law_times","_law_made","_law_great","_law_due","_law_found","_law_bad","_law_twice","_law_one","_law_two","_law_odd","_law_asks","_law_price","<tab>"] (defScope dN) _ _ from blkOk_by (by decide +kernel)) (gU 16) (by decide) (λ_ _ _ _ _=>(pg_name (i:=16) eO.nd rfl bU bV)) (λ_ _ _ _ _=>(zrB (d8 op_gt bGt (di eZ bMul (cI 16 rfl bU) (cI 5 rfl bW)) (di op_pow bPow cO cO) (nomark _)))) (λ_ _ _ _ _=>(di eZ bMul (cI 16 rfl bU) (cI 5 rfl bW))) (λ_=>rfl))
  (cZ (fD (own:=false) (tH (d8 (opNe hu) bNe (cI 7 rfl bU) (dW cJ) (nomark _)) (dO (cH dB (cH (dO (cH (eU (fj hu1) bGet (cI 7 rfl bU) cO (λ_ _=>rfl)) cJ rfl)) cJ rfl) rfl)) (dO (cH dB (cH (qG (own:=[("_law_price",16)]) rfl eO.nd (jN rfl (cI 4 rfl bU)) (show BlkOk ["_law_script","_law_bag","_law_turn","_law_symbols_z","_law_prices_here","_law_times","_law_made","_law_great","_law_due","_law_found","_law_bad","_law_twice","_law_one","_law_two","_law_odd","_law_asks","_law_price","<tab>"] (defScope dN) _ _ from blkOk_by (by decide +kernel)) (gU 16) (by decide) (λ_ _ _ _ _=>(pg_name (i:=16) eO.nd rfl bU bV)) (λ_ _ _ _ _=>lu) (λ_ _ _ _ _=>(di eZ bMul (cI 16 rfl bU) (cI 5 rfl bW))) (λ_=>rfl)) cJ rfl) rfl))) (by decide) eO.nd rfl bU bU rfl rfl)
  (cZ (fD (own:=false) (Kg (J:=[("_law_made",2,6),("_law_times",1,5)]) G_z14 (hr.mono (by decide)) rfl T.g__law_tries F_z14.kp (K9 T F_z14) rfl (λ_=>rfl) (show ∀t∈([("_law_made",2,6),("_law_times",1,5)]:CelL),(defScope dN).names.lookup t.1=some .cell∧(["_law_script","_law_bag","_law_turn","_law_symbols_z","_law_prices_here","_law_times","_law_made","_law_great","_law_due","_law_found","_law_bad","_law_twice","_law_one","_law_two","_law_odd","_law_asks","_law_price","<tab>"]:List Str)[t.2.2]? = some t.1 from by decide +kernel) (by decide) (cH (dW (cH (jR (k:=0) rfl rfl rfl rfl TB (LamX.lamS_by (show LamX.lamSB (defScope dN) Ky.scope=true from by decide +kernel)) rfl) (cH (jR (k:=1) rfl rfl rfl rfl TB (LamX.lamS_by (show LamX.lamSB (defScope dN) Kz.scope=true from by decide +kernel)) rfl) cJ rfl) rfl)) cJ rfl) (by decide) rfl rfl) (by decide) eO.nd rfl bU bU rfl rfl)
  (cZ (dR (PW.pt (qb (gJ (fX rfl (dH [] rfl G_z19 (hr.mono (by decide)) rfl T.g__law_same F_z19.kp (pH T F_z19) tk (cH (cI 9 rfl bU) (cH (dW (cH (cI 8 rfl bU) (cH (cI 8 rfl bU) cJ rfl) rfl)) cJ rfl) rfl) dh rfl rfl (by decide) rfl rfl) (λ_=>rfl))) (pZ (d8 (opNe hu) bNe (jL (c:=0) [] rfl (cI 6 rfl bW) T.cls_Costs T.m_z11 G_z11 (hr.mono (by decide)) (j9 T F_z11) tk dh rfl rfl rfl rfl) (cI 4 rfl bU) (nomark _))))) (cW (dF iz)) dU)
  (cZ (fD (own:=false) (dH [] rfl G_z24 (hr.mono (by decide)) rfl T.g__law_of F_z24.kp (K7 T F_z24) tk (cH (cI 1 rfl bU) (cH (dW (cH cO (cH (Ov cO) (cH cO (cH iz (cH nW (cH dB (cH (dO (cH cO cJ rfl)) cJ rfl) rfl) rfl) rfl) rfl) rfl) rfl)) cJ rfl) rfl) dh rfl rfl (by decide) rfl rfl) (by decide) eO.nd rfl bV bU rfl rfl)
  (cZ (dR (gJ (fX rfl (dH [] rfl G_z19 (hr.mono (by decide)) rfl T.g__law_same F_z19.kp (pH T F_z19) tk (cH (Kg (J:=[("_law_bad",3,10),("_law_made",2,6)]) G_z14 (hr.mono (by decide)) rfl T.g__law_tries F_z14.kp (K9 T F_z14) rfl (λ_=>rfl) (show ∀t∈([("_law_bad",3,10),("_law_made",2,6)]:CelL),(defScope dN).names.lookup t.1=some .cell∧(["_law_script","_law_bag","_law_turn","_law_symbols_z","_law_prices_here","_law_times","_law_made","_law_great","_law_due","_law_found","_law_bad","_law_twice","_law_one","_law_two","_law_odd","_law_asks","_law_price","<tab>"]:List Str)[t.2.2]? = some t.1 from by decide +kernel) (by decide) (cH (dW (cH (jR (k:=2) rfl rfl rfl rfl TB (LamX.lamS_by (show LamX.lamSB (defScope dN) KC.scope=true from by decide +kernel)) rfl) (cH (jR (k:=3) rfl rfl rfl rfl TB (LamX.lamS_by (show LamX.lamSB (defScope dN) KD.scope=true from by decide +kernel)) rfl) cJ rfl) rfl)) cJ rfl) (by decide) rfl rfl) (cH (di eZ bMul (dW (cH (dO (cH dB (cH (dO (cH (cI 10 rfl bW) cJ rfl)) cJ rfl) rfl)) cJ rfl)) cO) cJ rfl) rfl) dh rfl rfl (by decide) rfl rfl) (λ_=>rfl))) (cW (dF iz)) dU)
  (cZ (fD (own:=false) (oR eZ bMul (vf (c:=0) rfl rfl T.sf_Costs T.m_z8.at_ T.m_z8.fn T.mr_Costs T.ml_Costs G_z8 (hr.mono (by decide)) (vC F_z8) tk) (cI 6 rfl bW) cO) (by decide) eO.nd rfl bU bU rfl rfl)
  (cZ (zqW (zuo (c:=0) rfl rfl T.ns_Costs T.m_z4.at_ T.m_z4.fn G_z4 (hr.mono (by decide)) (zyG F_z4) tk) (di op_sub bSub (di op_pow bPow cO cO) cO) (cI 11 rfl bU) (eU (fj hu1) bGet (cI 3 rfl bU) cO (λ_ _=>rfl)) (λ_=>rfl) rfl rfl)
  (cW (dR (gJ (fX rfl (dH [] rfl G_z19 (hr.mono (by decide)) rfl T.g__law_same F_z19.kp (pH T F_z19) tk (cH (dW (cH (jL (c:=0) [] rfl (cI 6 rfl bW) T.cls_Costs T.m_z11 G_z11 (hr.mono (by decide)) (j9 T F_z11) tk dh rfl rfl rfl rfl) (cH (jL (c:=0) [] rfl (cI 11 rfl bU) T.cls_Costs T.m_z11 G_z11 (hr.mono (by decide)) (j9 T F_z11) tk dh rfl rfl rfl rfl) cJ rfl) rfl)) (cH (dW (cH (cI 4 rfl bU) (cH (di gq bAdd (dW (cH (di op_sub bSub (di op_pow bPow cO cO) cO) cJ rfl)) (wD xH bCut (cI 4 rfl bU) (wz cO) wy)) cJ rfl) rfl)) cJ rfl) rfl) dh rfl rfl (by decide) rfl rfl) (λ_=>rfl))) (cW (dF iz)) dU))))))))))))) (λ_=>rfl))
  (cZ (Oa (dO (cH (dH [] rfl G_z16 (hr.mono (by decide)) rfl T.g__law_cost F_z16.kp (La T F_z16) tk (cH (cI 1 rfl bU) cJ rfl) dh rfl rfl (by decide) rfl rfl) (cH (dH [] rfl G_z16 (hr.mono (by decide)) rfl T.g__law_cost F_z16.kp (La T F_z16) tk (cH (cI 1 rfl bU) cJ rfl) dh rfl rfl (by decide) rfl rfl) cJ rfl) rfl)) (pg_tup rfl (pgs_cons (pg_name (i:=12) eO.nd rfl bV bU) (pgs_cons (pg_name (i:=13) eO.nd rfl bU bU) pgs_nil rfl) rfl) rfl rfl) (wH (is:=[12,13]) (n:=2) rfl) (by decide) rfl rfl rfl)
  (cZ (fD (own:=false) (dW (cH (jL (c:=0) [] rfl (lM (n:=1) (j:=0) (ks:=[]) T.sm_Costs_priced G_z10 (hr.mono (by decide)) rfl T.g_Costs F_z10.kp (zqk F_z10) tk (cH dB cJ rfl) dh rfl rfl (by decide) rfl rfl rfl) T.cls_Costs T.m_z11 G_z11 (hr.mono (by decide)) (j9 T F_z11) tk dh rfl rfl rfl rfl) (cH (jL (c:=0) [] rfl (lM (n:=1) (j:=0) (ks:=["b"]) T.sm_Costs_priced G_z10 (hr.mono (by decide)) rfl T.g_Costs F_z10.kp (zmb F_z10) tk (cH dB cJ rfl) (fJ (cI 12 rfl bW) dh) rfl rfl (by decide) rfl rfl rfl) T.cls_Costs T.m_z11 G_z11 (hr.mono (by decide)) (j9 T F_z11) tk dh rfl rfl rfl rfl) (cH (jL (c:=0) [] rfl (lM (n:=1) (j:=0) (ks:=["y","x"]) T.sm_Costs_priced G_z10 (hr.mono (by decide)) rfl T.g_Costs F_z10.kp (zij F_z10) tk (cH dB cJ rfl) (fJ (cI 13 rfl bU) (fJ (cI 12 rfl bW) dh)) rfl rfl (by decide) rfl rfl rfl) T.cls_Costs T.m_z11 G_z11 (hr.mono (by decide)) (j9 T F_z11) tk dh rfl rfl rfl rfl) (cH (zuL (c:=0) (zjE (j:=1) (ks:=["symbols","x","y"]) T.sm_Costs_priced G_z10 (hr.mono (by decide)) rfl T.g_Costs F_z10.kp (zcG F_z10) tk (fJ dB (fJ (cI 13 rfl bU) (fJ (cI 12 rfl bW) dh))) rfl rfl (by decide) rfl rfl) T.cls_Costs T.p_Costs_symbols G_z7 (hr.mono (by decide)) (zzj F_z7) rfl) cJ rfl) rfl) rfl) rfl)) (by decide) eO.nd rfl bU bU rfl rfl)
  (cZ (dR (gJ (fX rfl (dH [] rfl G_z19 (hr.mono (by decide)) rfl T.g__law_same F_z19.kp (pH T F_z19) tk (cH (cI 9 rfl bU) (cH (dW (cH (dW (cH cO (cH cO (cH cO cJ rfl) rfl) rfl)) (cH (dW (cH cO (cH (cI 12 rfl bW) (cH cO cJ rfl) rfl) rfl)) (cH (dW (cH (cI 12 rfl bW) (cH cO (cH (cI 13 rfl bU) cJ rfl) rfl) rfl)) (cH dB cJ rfl) rfl) rfl) rfl)) cJ rfl) rfl) dh rfl rfl (by decide) rfl rfl) (λ_=>rfl))) (cW (dF iz)) dU)
  (cZ (fD (own:=false) (dH [] rfl G_z24 (hr.mono (by decide)) rfl T.g__law_of F_z24.kp (K7 T F_z24) tk (cH (cI 1 rfl bU) (cH (dW (cH nW (cH iz (cH (Ov cO) (cH (di gq bAdd (di op_pow bPow cO cO) cO) (cH dB cJ rfl) rfl) rfl) rfl) rfl)) cJ rfl) rfl) dh rfl rfl (by decide) rfl rfl) (by decide) eO.nd rfl bV bU rfl rfl)
  (cZ (fD (own:=false) (dW (cH (jR (k:=4) rfl rfl rfl rfl TB (LamX.lamS_by (show LamX.lamSB (defScope dN) KH.scope=true from by decide +kernel)) rfl) (cH (jR (k:=5) rfl rfl rfl rfl TB (LamX.lamS_by (show LamX.lamSB (defScope dN) KJ.scope=true from by decide +kernel)) rfl) (cH (jR (k:=6) rfl rfl rfl rfl TB (LamX.lamS_by (show LamX.lamSB (defScope dN) KN.scope=true from by decide +kernel)) rfl) (cH (jR (k:=7) rfl rfl rfl rfl TB (LamX.lamS_by (show LamX.lamSB (defScope dN) KQ.scope=true from by decide +kernel)) rfl) cJ rfl) rfl) rfl) rfl)) (by decide) eO.nd rfl bU bU rfl rfl)
  (cZ (fD (own:=false) (dW (cH (dO (cH dB (cH (dO (cH dB cJ rfl)) cJ rfl) rfl)) (cH (dO (cH dB (cH (dO (cH dB cJ rfl)) cJ rfl) rfl)) (cH (dO (cH dB (cH (dO (cH (cI 14 rfl bW) cJ rfl)) cJ rfl) rfl)) (cH (dO (cH dB (cH (dO (cH dB cJ rfl)) cJ rfl) rfl)) cJ rfl) rfl) rfl) rfl)) (by decide) eO.nd rfl bU bU rfl rfl)
  (cW (dF (dH [] rfl G_z19 (hr.mono (by decide)) rfl T.g__law_same F_z19.kp (pH T F_z19) tk (cH (Kg (J:=[("_law_made",2,6),("_law_times",1,5),("_law_bad",3,10),("_law_odd",5,14),("_law_one",4,12)]) G_z14 (hr.mono (by decide)) rfl T.g__law_tries F_z14.kp (K9 T F_z14) rfl (λ_=>rfl) (show ∀t∈([("_law_made",2,6),("_law_times",1,5),("_law_bad",3,10),("_law_odd",5,14),("_law_one",4,12)]:CelL),(defScope dN).names.lookup t.1=some .cell∧(["_law_script","_law_bag","_law_turn","_law_symbols_z","_law_prices_here","_law_times","_law_made","_law_great","_law_due","_law_found","_law_bad","_law_twice","_law_one","_law_two","_law_odd","_law_asks","_law_price","<tab>"]:List Str)[t.2.2]? = some t.1 from by decide +kernel) (by decide) (cH (cI 15 rfl bU) cJ rfl) (by decide) rfl rfl) (cH (cI 8 rfl bU) cJ rfl) rfl) dh rfl rfl (by decide) rfl rfl))))))))))))
theorem zw5{P:Program}{wd:World}{K:yF}{h:Heap}{mg:Str->Option Value}(X:K.In h)(G:h.Ns mainGlobals mg)(c:jm chk fnl K)(base:Heap)(TB:LamX.TabB base mg (lawT K).1 (lawT K).2)(pl:Plain):VN P wd K mg base:=by iterate
 have T:=Ud X G c.chk;have K_z17:∀ce,vG P wd K mg base ce:=λce=>zv1 T (c.fn 0 (d:=lW) rfl);have K_z23:∀ce,Lj P wd K mg base ce:=λce=>zwW T (c.fn 1 (d:=lX) rfl);have K_z13:∀ce,vI P wd K mg base ce:=λce=>zwx T (K_z23 ce) (c.fn 2 (d:=lY) rfl);have K_z18:∀ce,vJ P wd K mg base ce:=λce=>zvo T (c.fn 3 (d:=lZ) rfl);have K_z26:∀ce,Ln P wd K mg base ce:=λce=>zvp T (c.fn 4 (d:=mj) rfl);have K_z25:∀ce,vL P wd K mg base ce:=λce=>zwS T (K_z17 ce) (c.fn 5 (d:=mD) rfl);have K_z0:∀ce,vM P wd K mg base ce:=λce=>zyD T (c.fn 6 (d:=mH) rfl);have K_z3:∀ce,vN P wd K mg base ce:=λce=>zya T (c.fn 7 (d:=mJ) rfl);have K_z6:∀ce,qX P wd K mg base ce:=λce=>zyw T (K_z13 ce) (K_z0 ce) (K_z26 ce) (K_z3 ce) (K_z25 ce) (c.fn 8 (d:=mK) rfl);have K_z7:∀ce,Lq P wd K mg base ce:=λce=>zyB T (c.fn 9 (d:=mO) rfl);have K_z11:∀ce,pJ P wd K mg base ce:=λce=>zxe T (c.fn 10 (d:=mQ) rfl);have K_z1:∀ce,vO P wd K mg base ce:=λce=>zzb T (c.fn 11 (d:=mU) rfl);have K_z10:∀ce,km P wd K mg base ce:=λce=>zvE T (K_z13 ce) (K_z0 ce) (K_z18 ce) (K_z1 ce) (K_z6 ce) (c.fn 12 (d:=gG) rfl);have K_z4:∀ce,Lw P wd K mg base ce:=λce=>zyE T (K_z18 ce) (K_z1 ce) (K_z25 ce) (K_z3 ce) (c.fn 13 (d:=mV) rfl);have K_z2:∀ce,Ly P wd K mg base ce:=λce=>zyr T (c.fn 14 (d:=mW) rfl);have K_z8:∀ce,lQ P wd K mg base ce:=λce=>zzh T (K_z17 ce) (K_z2 ce) (K_z6 ce) (c.fn 15 (d:=mX) rfl);have K_z5:∀ce,qZ P wd K mg base ce:=λce=>zyi T (K_z8 ce) (c.fn 16 (d:=mY) rfl);have K_z20:∀ce,LC P wd K mg base ce:=λce=>zwD T (c.fn 17 (d:=mZ) rfl);have K_z21:∀ce,pK P wd K mg base ce:=λce=>zxA T (c.fn 18 (d:=m7) rfl);have K_z24:∀ce,LK P wd K mg base ce:=λce=>zxz T (K_z21 ce) (c.fn 19 (d:=m9) rfl);have K_z19:∀ce,∀n,LQ n P wd K mg base ce:=λce=>zwG T (c.fn 20 (d:=ni) rfl);have K_z15:∀ce,LR P wd K mg base ce:=λce=>zv3 T (c.fn 21 (d:=nq) rfl);have K_z22:∀ce,Ma P wd K mg base ce:=λce=>zwM T (K_z11 ce) (K_z8 ce) (K_z5 ce) (K_z10 ce) (K_z15 ce) (c.fn 22 (d:=nu) rfl);have K_z14:∀ce,Mf P wd K mg base ce:=λce=>zwE T (K_z22 ce) (c.fn 23 (d:=nJ) rfl);have K_z9:∀ce,Mg P wd K mg base ce:=λce=>zyh T (K_z21 ce) (c.fn 24 (d:=nM) rfl);have K_z16:∀ce,vP P wd K mg base ce:=λce=>zx6 T (K_z21 ce) (c.fn 25 (d:=nO) rfl);have K_z12:∀ce,Mi P wd K mg base ce:=λce=>zvT T (K_z16 ce) (c.fn 26 (d:=nQ) rfl);exact zwQ T K_z20 K_z9 K_z12 K_z24 K_z21 K_z6 K_z14 (λce=>K_z19 ce 6) K_z11 K_z8 K_z4 K_z16 K_z10 K_z7 (c.fn 27 (d:=eQ) rfl) TB pl
end
section
theorem facts{P:Program}{wd:World}{K:yF}{h:Heap}{mg:Str->Option Value}(X:K.In h)(G:h.Ns mainGlobals mg)(c:jm chk fnl K)(pl:Plain) :
  ∃(fa:Addr) (fd:FuncData),mg "law" = some (.ref fa)∧(∀(s:Shared) (u:Value),BindsTo s fd ⟨[u],[]⟩ [("_law_script",u)])∧∀base:Heap,LamX.TabB base mg (lawT K).1 (lawT K).2->FnOk P wd K mg base (L2.CX P wd) 10 fa fd ["_law_script"] (pD K 63 (lawT K).2):=by
 have T:=Ud X G c.chk;obtain⟨fd,F⟩:=c.fn 27 (d:=eQ) rfl;refine⟨He.ga K "law",fd,T.g_law,λs u=>(FunD.bindsA (ps:=["_law_script"]) F λ_ _ _ _ _ _ us hl=>match us,hl with|[_],_=>rfl) s [u] rfl,λbase TB=>?_⟩
 obtain⟨fd2,F2,G2⟩:=zw5 (P:=P) (wd:=wd) X G c base TB pl;obtain rfl:=zp7 F F2;exact G2
end
end Lk09
section
theorem Lk09.holds_of(pl:Lk09.Plain):PySem.Challenge.rw_rightfrom_k09_costs_multiplied_and_price.Holds:=Lk09.holds_of0 λX G c=>Lk09.facts X G c pl
end
section
open DV
local macro_rules
  | `(tactic| symm) => `(tactic| repeat (first
  | ((with_reducible refine Jk ?_); first
   | (((with_reducible (refine Sh.out ?_; apply zpM))); (focus ((with_reducible (repeat (first | apply nt_s | apply nt_z | apply dw | apply dD)); done))))
   | (with_reducible first | refine wp_C ?_ | refine qM ?_ | refine uD ?_ | refine Dj ?_ | refine Di ?_ | refine qK ?_ | refine Ed ?_ | refine Ek ?_ | refine Eh ?_ | refine qL ?_ | refine Dk ?_ | refine wp_call ?_ | refine qN ?_ | refine Ec ?_ | refine CT ?_ | refine CV ?_ | refine CQ ?_ | refine CP ?_ | refine Df ?_ | refine CW ?_ | refine CZ ?_ | refine De ?_ | refine Es ?_ | refine Et ?_ | refine uF ?_ | refine zvq ?_ | refine uE ?_ | refine CN ?_ | refine Dz ?_ | refine Gz ?_ | refine GD ?_ | refine FQ ?_ | refine FW ?_ | refine FZ ?_ | refine Ge ?_ | refine Gi ?_ | refine Gj ?_ | refine Gn ?_ | refine G4 ?_ | refine G6 ?_ | refine Dh ?_ | refine Dm ?_ | refine Dr ?_ | refine Do ?_ | refine Dq ?_ | refine Dg ?_ | refine Ef ?_ | refine Ei ?_ | refine El ?_ | refine Eo ?_ | refine zuj ?_ | refine Eu ?_ | refine Ey ?_ | refine Fd ?_ | refine Ds ?_ | refine Dt ?_ | refine Du ?_ | refine Dy ?_ | refine DG ?_ | refine DK ?_ | refine DQ ?_ | refine DN ?_ | refine DP ?_ | refine uH ?_ | refine Ea ?_ | refine Rz ?_ | refine zuM ?_ | refine ztU ?_ | refine wp_items ?_ | refine zto ?_ | refine zz0 ?_ | refine ztD ?_ | refine zrl ?_ | refine zt7 ?_ | refine zrp ?_ | refine Rx ?_ | refine wp_raise ?_ | refine zqh ?_)
   | (((with_reducible (refine Sh.out ?_; apply zqJ))); (focus ((with_reducible (repeat (first | apply nt_s | apply nt_z | apply dw | apply dD)); done))))
   | (((with_reducible (refine Sh.out ?_; apply zmr))); (focus ((with_reducible (repeat (first | apply nt_s | apply nt_z | apply dw | apply dD)); done))); exact rfl)
   | (((with_reducible (refine Sh.out ?_; apply zm0))); (focus ((with_reducible (repeat (first | apply nt_s | apply nt_z | apply dw | apply dD)); done)))))
  | ((with_reducible refine zzB ?_); first
   | (with_reducible first | refine wF_d ?_ | refine Ca ?_ | refine zvL ?_ | refine JT ?_)
   | (((with_reducible (refine Sh.out ?_; apply znW))); (focus ((with_reducible (repeat (first | apply nt_s | apply nt_z | apply dw | apply dD)); done))))
   | (((with_reducible (refine Sh.out ?_; apply znt))); (focus ((with_reducible (repeat (first | apply nt_s | apply nt_z | apply dw | apply dD)); done)))))
  | ((with_reducible refine zzk ?_); first
   | (with_reducible (refine Sh.out ?_; apply zxq))
   | (with_reducible (refine Sh.out ?_; apply znU))
   | (with_reducible (refine Sh.out ?_; apply zrv))
   | (((with_reducible (refine Sh.out ?_; apply zpn))); (focus ((with_reducible (repeat (first | apply nt_s | apply nt_z | apply dw | apply dD)); done))))
   | (((with_reducible (refine Sh.out ?_; apply znr))); (focus ((with_reducible (repeat (first | apply nt_s | apply nt_z | apply dw | apply dD)); done))))
   | (with_reducible (refine Sh.out ?_; apply zqg))
   | (with_reducible (refine Sh.out ?_; apply zrz)))
  | ((with_reducible (refine Sh.out ?_; apply h_st)); first
   | (with_reducible first | apply st_z | apply st_s | apply uv | apply Bm))
  | ((with_reducible refine Jl ?_); first
   | (with_reducible first | refine G7 ?_ | refine G8 ?_)
   | ((with_reducible refine iZ (Or.inr (Or.inl ?_)) ?_); decide)
   | ((with_reducible refine iZ (Or.inl ?_) ?_); decide)
   | ((with_reducible refine G9 ?_ ?_); decide)
   | ((with_reducible refine Hf ?_ ?_ ?_); decide; decide)
   | (with_reducible first | refine Hg ?_ | refine Hh ?_ | refine Hi ?_ | refine Hj ?_ | refine Hk ?_ | refine Hl ?_ | refine Hm ?_ | refine Hn ?_ | refine Ho ?_ | refine Hq ?_ | refine Hr ?_)
   | with_reducible refine fV oW ?_
   | with_reducible refine fV oX ?_
   | with_reducible refine fV oY ?_
   | with_reducible refine fV oZ ?_
   | with_reducible refine fV Jg ?_
   | with_reducible refine il oW ?_
   | with_reducible refine il oX ?_
   | with_reducible refine il oY ?_
   | with_reducible refine il oZ ?_
   | (with_reducible first | refine Ht ?_ | refine Io ?_ | refine Ir ?_ | refine Ip ?_ | refine zpb ?_ | refine zpN ?_ | refine Iu ?_ | refine Iw ?_ | refine Iz ?_ | refine IK ?_ | refine IV ?_ | refine IW ?_ | refine Jc ?_ | refine zlZ ?_ | refine zwj ?_ | refine zmG ?_ | refine zxD ?_ | refine zxT ?_)
   | ((with_reducible refine Jd ?_ ?_); focus first | assumption | exact dG (by decide +kernel))
   | ((with_reducible refine Iv ?_ ?_); focus first | assumption | exact dG (by decide +kernel))
   | ((with_reducible refine Hu ?_ ?_); focus first | assumption | exact dG (by decide +kernel))
   | ((with_reducible refine Jj ?_ ?_); focus first | assumption | exact dG (by decide +kernel))
   | (with_reducible first | refine Je ?_ | refine Jf ?_)
   | ((with_reducible refine Ju ?_ ?_); exact rfl)
   | ((with_reducible refine Jv ?_ ?_); exact rfl)
   | ((with_reducible refine JB ?_ ?_); exact rfl)
   | ((with_reducible refine JC ?_ ?_); exact rfl)
   | ((with_reducible refine uJ ?_ ?_); decide)
   | ((with_reducible refine Gh ?_ ?_); decide)
   | (with_reducible first | refine Ij ?_ | refine Ik ?_ | refine Il ?_ | refine Im ?_ | refine Hw ?_ | refine Hz ?_ | refine HD ?_ | refine HF ?_ | refine HJ ?_ | refine HQ ?_ | refine HR ?_ | refine HS ?_ | refine HW ?_ | refine HX ?_)
   | ((with_reducible apply uK); (focus ((with_reducible (repeat (first | apply nt_s | apply nt_z | apply dw | apply dD)); done))))
   | (with_reducible first | refine HY ?_ | refine Ib ?_ | refine Ie ?_ | refine Ig ?_ | refine Ih ?_)
   | ((with_reducible apply Ii); (focus ((with_reducible (repeat (first | apply nt_s | apply nt_z | apply dw | apply dD)); done))))
   | (with_reducible first | refine Hv ?_ | refine Jh ?_ | refine Ji ?_ | refine zmB ?_ | refine zq4 ?_ | refine Cz ?_ | refine Ry ?_)
   | ((with_reducible apply JQ); focus decide +kernel))
  | ((with_reducible refine Jo ?_); first
   | (with_reducible first | refine Bs ?_ | refine qH ?_ | refine Bx ?_ | refine BK ?_)
   | ((with_reducible apply qI); (focus ((with_reducible (repeat (first | apply nt_s | apply nt_z | apply dw | apply dD)); done))))
   | ((with_reducible apply BV); (focus ((with_reducible (repeat (first | apply nt_s | apply nt_z | apply dw | apply dD)); done))))
   | ((with_reducible apply zuk); (focus ((with_reducible (repeat (first | apply nt_s | apply nt_z | apply dw | apply dD)); done))))
   | ((with_reducible apply ztb); (focus ((with_reducible (repeat (first | apply nt_s | apply nt_z | apply dw | apply dD)); done))))
   | ((with_reducible apply zv5); (focus ((with_reducible (repeat (first | apply nt_s | apply nt_z | apply dw | apply dD)); done))))
   | (with_reducible first | refine BR ?_ | refine Bt ?_ | refine Bu ?_ | refine BJ ?_ | refine BL ?_ | refine Bv ?_ | refine Bw ?_ | refine BP ?_ | refine zz6 ?_ | refine zwd ?_))
  | ((with_reducible (refine Sh.out ?_; apply h_nt)); first
   | (with_reducible first | apply nt_z | apply nt_s | apply dw | apply dD))
  | ((with_reducible refine zyp ?_); first
   | (with_reducible first | refine Ck ?_ | refine Cm ?_ | refine Cp ?_ | refine Cq ?_))
  | ((with_reducible refine zsV ?_); (with_reducible (refine Sh.out ?_; apply zpT)))
  | ((with_reducible (refine Sh.out ?_; apply h_aq)); first
   | (with_reducible first | apply Fy | apply Fv | apply Ft | apply Fq | apply Fp | apply Fo))
  | ((with_reducible (refine Sh.out ?_; apply h_pn)); first
   | (with_reducible first | apply Fx | apply Fw))
  | ((with_reducible (refine Sh.out ?_; apply h_nd)); first
   | (with_reducible first | apply nd_z | apply nd_s))
  | ((with_reducible refine zws ?_); first
   | (with_reducible first | refine BX ?_ | refine BW ?_))
  | ((with_reducible refine zy9 ?_); with_reducible refine BZ ?_)
  | ((with_reducible refine zyy ?_); first
   | (with_reducible first | refine wI_t ?_ | refine wI_f ?_ | refine JD ?_ | refine JF ?_ | refine JG ?_ | refine JH ?_ | refine JK ?_)
   | ((with_reducible refine qQ ?_ ?_); (focus first | assumption | omega | exact aR rfl))
   | ((with_reducible refine JL ?_ ?_); (focus first | assumption | omega | exact of_decide_eq_false rfl)))
  | ((with_reducible refine zzu ?_); first
   | (with_reducible first | refine zwY ?_ ?_ ?_ | refine ztX ?_ ?_)
   | ((with_reducible refine Jp ?_ ?_ ?_); exact rfl; exact rfl)
   | ((with_reducible refine Jq ?_ ?_); focus first | with_reducible exact Jw | with_reducible exact Jx | with_reducible exact Jz | with_reducible exact Jy | with_reducible exact zza | with_reducible exact zyZ)
   | ((with_reducible refine Jr ?_ ?_); focus first | exact Jt rfl | exact Nat.le_of_ble_eq_true rfl)
   | (with_reducible first | refine zyJ ?_ | refine JR ?_ ?_))
  | ((with_reducible (refine Sh.out ?_; apply zz3)); first
   | (with_reducible first | apply zqe | apply zuG))
  | ((with_reducible refine zzv ?_); first
   | (with_reducible first | refine wV_d ?_ | refine Cd ?_)
   | (((with_reducible (refine Sh.out ?_; apply zqF))); (focus ((with_reducible (repeat (first | apply nt_s | apply nt_z | apply dw | apply dD)); done))); (focus exact rfl)))
  | ((with_reducible refine zte ?_); first
   | (with_reducible first | refine Cy ?_ | refine Cv ?_))
  | ((with_reducible refine zyI ?_); first
   | (with_reducible first | refine Gp ?_ | refine Gv ?_ | refine Gu ?_ | refine Gq ?_))
  | ((with_reducible refine zyn ?_); first
   | ((with_reducible apply uA); (focus ((with_reducible (repeat (first | apply nt_s | apply nt_z | apply dw | apply dD)); done))); exact rfl)
   | ((with_reducible apply Cr); (focus ((with_reducible (repeat (first | apply nt_s | apply nt_z | apply dw | apply dD)); done))); exact rfl))
  | ((with_reducible refine zy6 ?_); first
   | (with_reducible (refine Sh.out ?_; apply zum))
   | (with_reducible (refine Sh.out ?_; apply zrb)))
  | ((with_reducible refine zvZ ?_); with_reducible refine GJ ?_)
  | ((with_reducible refine zxX ?_); with_reducible refine G5 ?_)
  | ((with_reducible refine zye ?_); with_reducible apply gK)
  | ((with_reducible (refine Sh.out ?_; apply h_wq)); first
   | (with_reducible first | apply GZ | apply G3))
  | ((with_reducible (refine Sh.out ?_; apply h_tq)); first
   | (with_reducible first | apply uI | apply EY | apply Fb))
  | ((with_reducible refine zuH ?_); (with_reducible (refine Sh.out ?_; apply zmq)))
  | ((with_reducible refine zqq ?_); (with_reducible (refine Sh.out ?_; apply zk6)))
  | ((with_reducible (refine Sh.out ?_; apply h_pu)); first
   | (with_reducible first | apply Bo | apply Bp | apply Bq | apply Br))
  | ((with_reducible refine zt9 ?_); with_reducible apply Ew)
  | ((with_reducible refine zrF ?_); with_reducible apply Ez)
  | ((with_reducible (refine Sh.out ?_; apply h_lk)); first
   | with_reducible apply lk_z
   | ((with_reducible apply lk_s); focus decide +kernel))
  | ((with_reducible refine zvr ?_); first
   | with_reducible apply JN
   | ((with_reducible refine JP ?_ ?_); focus decide +kernel))
  | ((with_reducible refine zy3 ?_); first
   | (with_reducible first | refine wZ_d ?_ | refine DR ?_ | refine JV ?_ | refine DW ?_))
  | ((with_reducible refine zyb ?_); first
   | ((with_reducible refine uL ?_ ?_); exact rfl)
   | ((with_reducible refine zuB ?_ ?_); exact rfl)
   | with_reducible refine DY ?_)
  | ((with_reducible refine zyx ?_); first
   | ((with_reducible refine JM ?_ ?_); exact rfl)
   | with_reducible refine Eb ?_)
  | ((with_reducible (refine Sh.out ?_; apply h_ev)); first
   | (with_reducible first | apply Ff | apply Fe))
  | ((with_reducible (refine Sh.out ?_; apply h_rp)); first
   | (with_reducible first | apply rp_s | apply rp_z))
  | ((with_reducible (refine Sh.out ?_; apply zyU)); with_reducible apply Fg)
  | ((with_reducible (refine Sh.out ?_; apply zzc)); first
   | (with_reducible first | apply zty | apply zqf))
  | ((with_reducible (refine Sh.out ?_; apply zyA)); first
   | (with_reducible first | apply zsW | apply zqj))
  | ((with_reducible (refine Sh.out ?_; apply zzn)); first
   | (with_reducible first | apply zue | apply zqC))
  | ((with_reducible (refine Sh.out ?_; apply zzp)); first
   | (with_reducible first | apply zuv | apply zq6))
  | ((with_reducible refine zwz ?_); first
   | (with_reducible first | refine zyj ?_ | refine zy2 ?_))
  | ((with_reducible refine zxk ?_); with_reducible refine u5 ?_)
  | ((with_reducible refine zx5 ?_); first
   | (with_reducible first | refine zzm ?_ | refine zud ?_ | refine zrA ?_))
  ))
local macro_rules
  | `(tactic| exists $e:term) => `(tactic| with_reducible refine $e)
namespace DV
open PySem PySem.Spec PyProof.Rows L2
section
variable{S T:List Sl}{Q:Rv->List Sl->Prop}{E:Exn->List Sl->Prop}{b:Sl}
theorem lt_size{a:Nat}(h:a<1000):a<sizeLine:=bj h (dG (aO _))
/-- rows of a table -/
structure Rows(rs:List (List Int))(k:Nat):Prop where
  w:∀r∈rs,r.length=k
  v:∀r∈rs,∀i∈r,0≤i∧i<rs.length
end
section
variable{S T:List Sl}{Q:Rv->List Sl->Prop}{E:Exn->List Sl->Prop}{b:Sl}
theorem VP{α:Type}(x:α):∀n:Nat,(List.replicate n [x]).flatten=List.replicate n x
 |0=>rfl
 |n+1=>by rw[List.replicate_succ,List.flatten_cons,VP x n,List.replicate_succ];rfl
theorem zmy{xs:List D}{k:Int}{P:Rv->Prop}(h1:-(2 ^ 63)≤k)(h2:k<2 ^ 63)(h3:xs.length*k.toNat≤sizeLine)(h:P (.fr (.lst (List.replicate k.toNat xs).flatten))):wO (oMul (.lst xs) (.int k)) P:=⟨_,by
 show(kZ (.lst xs) (.int k)).or ((ou (.lst xs) (.int k)).or (tG (.lst xs) (.int k)))=some (.fr (.lst (List.replicate k.toNat xs).flatten));have e:ou (.lst xs) (.int k)=some (.fr (.lst (List.replicate k.toNat xs).flatten)):=by
  simp only[ou];rw[if_pos ⟨h1,h2,h3⟩]
 rw[e];rfl,h⟩
theorem zuC{d:D}{k:Int}{P:Rv->Prop}(h1:-1000≤k)(h2:k≤1000)(h:P (.fr (.lst (List.replicate k.toNat d)))):wO (oMul (.lst [d]) (.int k)) P:=
 zmy (by omega) (by omega) (by show 1*k.toNat≤_;exact dG (by omega)) (by rw[VP];exact h)
theorem zqa(xs:List D):cutD xs (some 1) none=xs.drop 1:=zop xs 1
end
theorem zxt:∀c∈sgnS.cps.toList,c<0x110000:=by decide +kernel
theorem str_ok{x:Str}(h:∀c∈x.cps.toList,c∈sgnS.cps.toList):PyData.strOk x=true:=by
 show x.cps.all (·<0x110000)=true;rw[<-Array.all_toList,bJ];exact λc hc=>aP (zxt c (h c hc))
abbrev GREAT:Int:=1000000000000
abbrev ils(xs:List Int):Sl:=.lst (xs.map .int)
def VR:M Fl:=(cSeq (cSet false 1 (cY fO 2 0 pk2 (bZ (bY 0) (bZ (cC (.int 8)) cG)) cG))
  (cSeq (cIfS (cTst (cBin oLt (bY 1) (cC (.int 6)))) (cRet (cBin oGet (cLst (bZ (cC (.int 0)) (bZ (cC (.int 1)) (bZ (cC (.int 2)) (bZ (cC (.int 3)) (bZ (cC (.int 5)) (bZ (cC (.int 1)) cG))))))) (bY 1))) cNx)
  (cRet (cIf (cTst (cBin (oEq false) (bY 1) (cC (.int 6)))) (cY fO 2 0 pk2 (bZ (bY 0) (bZ (cC (.int 100)) cG)) cG) (cBin oSub (cBin oPow (cC (.int 10)) (cC (.int 12))) (cY fO 2 0 pk2 (bZ (bY 0) (bZ (cC (.int 3)) cG)) cG))))))
def vQ:=defM 2 VR
def V1:M Fl:=(cRet (cLcO idF (gA (bY 1)) [2] (.nm 2) cYes (cY vQ 1 0 pk1 (bZ (bY 0) cG) cG)))
def Mq:=defM 3 V1
theorem vR:oPow (.int 10) (.int 12)=some (.d (.int 1000000000000)):=by rw[Ag (by decide) (by decide) (by decide)];rfl
section
variable{S S' T:List Sl}{Q:Rv->List Sl->Prop}{E:Exn->List Sl->Prop}{b:Sl}{cs:List Nat}{xs ys:List Int}{k m:Nat}
theorem Mr(hb:Bag b)(h:∀v b',Bag b'->0≤v->v≤GREAT->Q (.d (.int v)) (b'::T)):wm vQ [.ob 0] (b::T) Q E:=by iterate
 unfold vQ VR;refine dM (by symm) ?_;symm;refine ph hb (by omega) (by omega) λv b1 hb1 v0 v1=>?_;symm;refine uz (λh1=>?_) λh1=>?_
 ·symm;have hv:v=0∨v=1∨v=2∨v=3∨v=4∨v=5:=by omega
  rcases hv with rfl|rfl|rfl|rfl|rfl|rfl
  ·symm;exact h _ b1 hb1 (by decide) (by decide)
  ·symm;exact h _ b1 hb1 (by decide) (by decide)
  ·symm;exact h _ b1 hb1 (by decide) (by decide)
  ·symm;exact h _ b1 hb1 (by decide) (by decide)
  ·symm;exact h _ b1 hb1 (by decide) (by decide)
  ·refine fV (D1:=.int 1) rfl ?_;symm;exact h _ b1 hb1 (by decide) (by decide)
 ·symm;refine uz (λh2=>?_) λh2=>?_
  ·symm;refine ph hb1 (by omega) (by omega) λw b2 hb2 w0 w1=>?_;symm;exact h _ b2 hb2 (by omega) (by show _≤(1000000000000:Int);omega)
  ·symm;refine ig (show oPow (.int 10) (.int 12)=some (.d (.int 1000000000000)) from by rw[Ag (by decide) (by decide) (by decide)];rfl) ?_
   symm;refine ph hb1 (by omega) (by omega) λw b2 hb2 w0 w1=>?_;symm;exact h _ b2 hb2 (by omega) (by show _≤(1000000000000:Int);omega)
theorem zrd(hb:Bag b)(l2:cs.length≤5)(h:∀xs b',Bag b'->xs.length=cs.length->(∀x∈xs,0≤x∧x≤GREAT)->Q (.fr (ils xs)) (b'::T)):wm Mq [.ob 0,.str (catS cs)] (b::T) Q E:=by iterate
 unfold Mq V1;refine dM (by symm) ?_;symm;rw[Ka];refine zvd (λS=>∃b,Bag b∧S=b::T) (λ_ d'=>∃v,(0≤v∧v≤GREAT)∧d'=D.int v) (by rw[aj];exact dG (by omega)) ⟨b,hb,rfl⟩ ?_ ?_
 ·rintro d _ S ⟨b3,hb3,rfl⟩;symm;refine Mr hb3 λv b4 hb4 v0 v1=>?_;symm;refine⟨⟨v,⟨v0,v1⟩,rfl⟩,?_,b4,hb4,rfl⟩;symm
 ·rintro acc S ⟨b3,hb3,rfl⟩ pr;obtain⟨xs,rfl,xl,xc⟩:=ints_of pr;rw[aj] at xl;symm;exact h xs b3 hb3 xl xc
end
structure GC(cs:List Nat)(xs:List Int):Prop where
  sg:∀c∈cs,c∈sgnS.cps.toList
  nd:cs.Nodup
  l1:1≤cs.length
  l2:cs.length≤5
  len:xs.length=cs.length
  ok:∀x∈xs,0≤x∧x≤GREAT
def apL(js:List Int)(i:Int):Int:=js.getD i.toNat 0
def iter(js:List Int):Nat->Int->Int
 |0,i=>i
 |k+1,i=>iter js k (apL js i)
/-- a map of n states -/
structure Jm(n:Nat)(js:List Int):Prop where
  l:js.length=n
  v:∀i∈js,0≤i∧i<n
section
variable{n:Nat}{js:List Int}{i:Int}{rs:List (List Int)}{cs:List Nat}
theorem zwl{js:List Int}{i:Int}(h0:0≤i)(h1:i<js.length):js[i.toNat]? = some (apL js i):=by
 unfold apL;rw[List.getD_eq_getElem?_getD,aJ (by omega)];rfl
theorem zwq{js:List Int}{i:Int}(h0:0≤i)(h1:i<js.length):apL js i∈js:=aY (zwl h0 h1)
theorem Jm.ap(h:Jm n js)(h0:0≤i)(h1:i<n):0≤apL js i∧apL js i<n:=h.v _ (zwq h0 (by rw[h.l];exact h1))
theorem Jm.it(h:Jm n js):∀(k:Nat) {i:Int},0≤i->i<n->0≤iter js k i∧iter js k i<n
 |0,_,h0,h1=>⟨h0,h1⟩
 |k+1,_,h0,h1=>h.it k (h.ap h0 h1).1 (h.ap h0 h1).2
end
inductive Sqn(S:List Sl)(xs:List D):D->Prop
  |lst:Sqn S xs (.lst xs)
  |tup:Sqn S xs (.tup xs)
  |ob (j:Nat) (e:nt S j (.lst xs)):Sqn S xs (.ob j)
section
variable{S:List Sl}{Q:Rv->List Sl->Prop}{E:Exn->List Sl->Prop}{QF:Fl->List Sl->List Sl->Prop}{EX:XQ}{xs:List D}{d:D}{ρ:List Sl}{t:Tgt}{B:M Fl}
theorem Sqn.row{n:Nat}{sub:Nat->Nat->Bool}(g:Sqn S xs d)(h:Q (.d (.bl true)) S):wm (rowM n sub) [d] S Q E:=by
 cases g with
 |lst=>exact uN h
 |tup=>exact zt6 h
 |ob j e=>exact zvs e h
theorem Sqn.len{P:Rv->Prop}(g:Sqn S xs d)(h:P (.d (.int xs.length))):wC (.d d) ρ S λd1=>wCs [] ρ S λds=>wO (gLen (d1::ds)) P:=by
 cases g with
 |lst=>symm;exact h
 |tup=>symm;exact h
 |ob j e=>
  refine qI e ?_;symm;exact h
end
def leS(a b:Str):Bool:=decide (a.cps.toList≤b.cps.toList)
def srtS(xs:List Str):List Str:=xs.mergeSort leS
theorem V2(xs:List Str):(srtS xs).Perm xs:=List.mergeSort_perm xs leS
theorem zu1(xs:List Str):(srtS xs).Pairwise λa b=>leS a b=true:=by
 refine List.pairwise_mergeSort (λa b c h1 h2=>?_) (λa b=>?_) xs
 ·unfold leS at *;rw[decide_eq_true_eq] at *;exact Std.le_trans h1 h2
 ·unfold leS;rw[Bool.or_eq_true,decide_eq_true_eq,decide_eq_true_eq];exact Std.le_total
theorem V3:∀xs:List Str,datL (xs.map .str)=some (xs.map .str)
 |[]=>by rw[List.map_nil,datL];rfl
 |x::xs=>by rw[ak,datL,V3 xs,dat];rfl
theorem zmR{xs:List Str}(l:xs.length≤1000):j5 (xs.map .str)=true:=by
 unfold j5;rw[bD,bD,bD,Bool.or_eq_true];refine⟨⟨⟨bJ.mpr λd hd=>bJ.mpr λd' hd'=>?_,.inr (bJ.mpr λd hd=>?_)⟩,bJ.mpr λd hd=>?_⟩,aP (by rw[aj];exact dG l)⟩
 ·obtain⟨x,_,rfl⟩:=ao.mp hd;obtain⟨y,_,rfl⟩:=ao.mp hd';rw[PySem.W.alike]
 ·obtain⟨x,_,rfl⟩:=ao.mp hd;rfl
 ·obtain⟨x,_,rfl⟩:=ao.mp hd;rw[PyData.depth];decide
theorem zr6(xs:List Str):srtD (xs.map .str)=(srtS xs).map .str:=by iterate
 unfold srtD srtS;refine(PySem.W.sort_maps (f:=D.str) (l:=xs) λa _ b _=>?_).symm;have e:=congrFun (congrFun (PySem.W.dataLe_str (β:=Str) λx=>x) a) b;unfold leS;rw[<-e];have ha:datE (.str a)=.str a:=by unfold datE;rw[dat];rfl
 have hb:datE (.str b)=.str b:=by unfold datE;rw[dat];rfl
 rw[PySem.W.dataLe_eq,PySem.W.dataLe_eq];show cond false _ _=cond false _ _;rw[ha,hb]
theorem V4{xs:List Str}{P:Rv->Prop}(l:xs.length≤1000)(h:P (.fr (.lst ((srtS xs).map .str)))):wO (lL [.lst (xs.map .str)]) P:=znf (V3 xs) (zmR l) (by rw[zr6];exact h)
end DV
namespace Lk09
open PySem PySem.Spec PyProof.Rows L2 DV
theorem zxa:jx=fO:=rfl
theorem zxc:Lz=ug:=rfl
theorem m_of:rA=ofM:=rfl
theorem zyR:m_z9=symM:=rfl
theorem Ms{m:List D->List Sl->Res Rv}{ds:List D}{b:Bool}{S:List Sl}{Q:Rv->List Sl->Prop}{E:Exn->List Sl->Prop}(e:m ds S=.ok (.d (.bl b)) [] S false)(h:Q (.d (.bl b)) S):wm m ds S Q E:=uw e h
theorem ztu:je 6=iI ncl sub 6:=rfl
theorem rO{x y:D}{S:List Sl}{Q:Rv->List Sl->Prop}{E:Exn->List Sl->Prop}(e:x=y)(h:Pl 6 y)(q:Q (.d (.bl true)) S):wm (je 6) [x,y] S Q E:=by
 rw[ztu];exact zvb e h q
theorem kJ:iy=tryB 2 (tryC lamM) (λc=>catl.contains c) (uY xfs):=rfl
theorem Mu:rK=defM 2 (S8 iy):=rfl
theorem zvB:rM=vQ:=rfl
theorem zql:Mh=Mq:=rfl
theorem Mv:CodeI "InvalidCost" false false false false false:=⟨rfl,rfl,rfl,rfl,rfl⟩
theorem V5:CodeI "InvalidSymbol" false false false false false:=⟨rfl,rfl,rfl,rfl,rfl⟩
theorem zdR:CodeI "InvalidSymbols" false false false false false:=⟨rfl,rfl,rfl,rfl,rfl⟩
abbrev cst(cs:List Nat)(k:Nat):D:=.ins KR [("own_symbols",.str (catS cs)),("own_values",.ob k)]
abbrev ncst(cs:List Nat)(k:Nat):Rv:=.fr (.ins KR (objF [("own_symbols",.str (catS cs)),("own_values",.ob k)]))
abbrev cX(d:D):Exn:=.own zgC (excF "InvalidCost" ["given"] [d])
abbrev syX(d:D):Exn:=.own zeC (excF "InvalidSymbol" ["given"] [d])
abbrev Mw(d:D):Prop:=∀S,kh [d] S=.ok (.d (.bl false)) [] S false
section
variable{S S' T:List Sl}{Q:Rv->List Sl->Prop}{E:Exn->List Sl->Prop}{QF:Fl->List Sl->List Sl->Prop}{EX:XQ}{b:Sl}{cs:List Nat}{xs ys:List Int}{k m i c:Nat}{v w:Int}{d:D}
theorem V6{v:Int}(h0:0≤v)(h1:v≤GREAT)(h:Q (.d (.bl true)) S):wm kh [.int v] S Q E:=by
 unfold kh vK;refine dM (by symm) ?_;symm;refine RW h0 h1 ?_;symm;exact h
/-- the walk of the constructor over good values,then others -/
theorem vU{rest:List D}{u v w:Sl}:∀(xs:List Int) (x:Sl),(∀x∈xs,0≤x∧x≤GREAT)->(∀x,wL (.nm 3) Lp rest [u,v,w,x] S QF EX)->wL (.nm 3) Lp (xs.map .int++rest) [u,v,w,x] S QF EX
 |[],x,_,h=>h x
 |a::xs,x,g,h=>by
  rw[ak,bQ];refine oV (ρ1:=[u,v,w,.val (.int a)]) (by symm) ?_;symm;refine V6 (g a (bK ..)).1 (g a (bK ..)).2 ?_;symm;exact vU xs _ (λp hp=>g p (bL _ hp)) h
theorem pM(g:GC cs xs)(e:pu S (ils xs) k S')(h:Q (ncst cs k) S'):wm m_z6 [.str (catS cs),.lst (xs.map .int)] S Q E:=by iterate
 obtain⟨rfl,rfl⟩:=e;unfold m_z6 c_z6;have hl:(catS cs).length≤sizeLine:=by rw[iJ];exact dG (bh g.l2 (by decide))
 have hx:((xs.map D.int).length:Int)=((catS cs).length:Int):=by rw[iJ,aj,g.len]
 refine FJ (by symm) ?_;symm;refine qT g.sg g.nd g.l1 g.l2 ?_;symm;refine uN ?_;symm;rw[<-aN (xs.map D.int)];refine vU xs _ g.ok λx=>Gx ?_;rw[aN];symm;refine Rp nt_z rfl (by decide +kernel) (by decide) rfl ?_;symm;refine Rp nt_z rfl (by decide +kernel) (show(1:Nat)<1000 by decide) rfl ?_;symm;exact zqK nt_z rfl h
theorem zr1(g:GC cs xs){pre:List Int}{rest:List D}(gp:∀x∈pre,0≤x∧x≤GREAT)(l:pre.length+1+rest.length=cs.length)(n:Mw d)(h:E (cX d) S):wm m_z6 [.str (catS cs),.lst (pre.map .int++d::rest)] S Q E:=by
 unfold m_z6 c_z6;have hl:(catS cs).length≤sizeLine:=by rw[iJ];exact dG (bh g.l2 (by decide))
 have hx:((pre.map D.int++d::rest).length:Int)=((catS cs).length:Int):=by rw[iJ,aA,aj,aG];omega
 refine FJ (by symm) ?_;symm;refine qT g.sg g.nd g.l1 g.l2 ?_;symm;refine uN ?_;symm;refine vU pre _ gp λx=>oV (by symm) ?_;symm;refine Ms (n S) ?_;symm;exact h
theorem zv2(ec:cs[i]? = some c):decide (c∈cs)=true:=aP (aY ec)
end
section
variable{S S' T:List Sl}{Q:Rv->List Sl->Prop}{E:Exn->List Sl->Prop}{b:Sl}{cs:List Nat}{xs ys:List Int}{k m i c:Nat}{v w:Int}{d e:D}
theorem zyK(g:GC cs xs)(o:nt S k (ils xs))(ec:cs[i]? = some c)(h0:0≤v)(h1:v≤GREAT)(e:st S k (ils (xs.set i v)) S')(h:Q (.d .non) S'):wm (pA KR m_z4) [cst cs k,.str ⟨#[c]⟩,.int v] S Q E:=by iterate
 obtain⟨rest,eo⟩:=ztH (x:=catS cs) (i:=i) (c:=c) (by rw[pB];exact g.nd) (by rw[pB];exact ec);have hi:i<(xs.map D.int).length:=by rw[aj,g.len];exact(bx.mp ec).1
 refine zu4 rfl ?_;unfold m_z4 c_z4;refine dM (by symm) ?_;symm;refine Kd ?_;rw[zv2 ec];symm;refine V6 h0 h1 ?_;symm;refine zrg eo ?_;symm;refine uA o rfl ?_;symm;refine zmt (j:=i) (by unfold ixN;rw[if_pos (Int.natCast_nonneg _),if_pos (by omega)];rfl) ?_;rw[<-List.map_set];refine uB e ?_;symm;exact h
end
section
variable{S S' T:List Sl}{Q:Rv->List Sl->Prop}{E:Exn->List Sl->Prop}{cs:List Nat}{xs ys:List Int}{k:Nat}
theorem kW(o:nt S k (ils xs))(h:Q (.fr (ils xs)) S):wm m_z11 [cst cs k] S Q E:=by
 unfold m_z11 Lr;refine dM (by symm) ?_;symm;refine qI o ?_;symm;exact h
theorem eqI(xs ys:List Int)(neg:Bool):oEq neg (.lst (xs.map .int)) (.lst (ys.map .int))=some (.d (.bl (neg != decide (xs=ys)))):=EqD.int.lst.oEq (by decide) rfl (λ_ _=>trivial) (λ_ _=>trivial) neg
end
abbrev nX(d:D):Exn:=.own zfB (excF "InvalidNumber" ["given"] [d])
abbrev prd(xs:List Int)(t:Int):List Int:=xs.map (·*t)
abbrev zyW(d:D):Prop:=∀S,vD [d,.int 1,.int 1000] S=.ok (.d (.bl false)) [] S false
def mulF(t:Int):D->D
 |.int v=>.int (v*t)
 |_=>.non
theorem V7(xs:List Int)(t:Int):(xs.map D.int).map (mulF t)=(prd xs t).map D.int:=by
 rw[aH,aH];rfl
theorem vW{t:Int}(t1:1≤t)(t2:t≤1000):t.natAbs<2 ^ 64:=bj (show t.natAbs<1001 by omega) (by decide)
abbrev gv(kvs:List (Key×D))(c:Nat):D:=(luk kvs (.inr ⟨#[c]⟩)).getD (.int 0)
section
variable{S S' T:List Sl}{Q:Rv->List Sl->Prop}{E:Exn->List Sl->Prop}{QF:Fl->List Sl->List Sl->Prop}{EX:XQ}{cs:List Nat}{xs:List Int}{k m:Nat}{t z:Int}{d:D}
theorem zzl(hz:GREAT<z)(h:Q (.d (.bl false)) S):wm kh [.int z] S Q E:=by
 have hz:¬z≤1000000000000:=Int.not_le.mpr hz;unfold kh vK;refine dM (by symm) ?_;symm;refine RQ ?_;rw[aQ hz,Bool.and_false];symm;exact h
theorem zra(g:GC cs xs){pre:List Int}{rest:List D}(gp:∀x∈pre,0≤x∧x≤GREAT)(l:pre.length+1+rest.length=cs.length)(hz:GREAT<z)(h:E (cX (.int z)) S):wm m_z6 [.str (catS cs),.lst (pre.map .int++.int z::rest)] S Q E:=by
 unfold m_z6 c_z6;have hl:(catS cs).length≤sizeLine:=by rw[iJ];exact dG (bh g.l2 (by decide))
 have hx:((pre.map D.int++.int z::rest).length:Int)=((catS cs).length:Int):=by rw[iJ,aA,aj,aG];omega
 refine FJ (by symm) ?_;symm;refine qT g.sg g.nd g.l1 g.l2 ?_;symm;refine uN ?_;symm;refine vU pre _ gp λx=>oV (by symm) ?_;symm;refine zzl hz ?_;symm;exact h
theorem V8(g:GC cs xs)(o:nt S k (ils xs))(t1:1≤t)(t2:t≤1000)(h:∀(Q':Rv->List Sl->Prop) (E':Exn->List Sl->Prop),(∀s S,Q (.fr s) S->Q' (.fr s) S)->(∀x S,E x S->E' x S)->wm m_z6 [.str (catS cs),.lst ((prd xs t).map .int)] S Q' E'):wm m_z8 [cst cs k,.int t] S Q E:=by iterate
 have lx:xs.length≤5:=by rw[g.len];exact g.l2
 unfold m_z8 c_z8;refine dM (by symm) ?_;symm;refine RW t1 t2 ?_;symm;refine uK o ?_;symm;refine zq7 o (λ_=>true) (mulF t) (by rw[aj];exact dG (by omega)) ?_ ?_
 ·intro d hd;rw[GX] at hd;obtain⟨v,hv,rfl⟩:=ao.mp hd;symm;refine iZ (.inr (.inl (vW t1 t2))) ?_;symm;refine⟨rfl,rfl,?_,rfl⟩;symm
 ·rw[GX,List.filter_eq_self.mpr (λ_ _=>rfl),V7];symm;refine h _ _ (λs S hq=>?_) λx S hq=>?_
  ·symm;exact hq
  ·exact hq
theorem V9(hx:∀x∈xs,0≤x∧x≤GREAT)(t1:1≤t):∀y∈prd xs t,0≤y:=λy hy=>by
 obtain⟨v,hv,rfl⟩:=ao.mp hy;exact Int.mul_nonneg (hx v hv).1 (by omega)
theorem zoo(g:GC cs xs)(o:nt S k (ils xs))(t1:1≤t)(t2:t≤1000)(hy:∀y∈prd xs t,y≤GREAT)(e:pu S (ils (prd xs t)) m S')(h:Q (ncst cs m) S'):wm m_z8 [cst cs k,.int t] S Q E:=by
 have g2:GC cs (prd xs t):=⟨g.sg,g.nd,g.l1,g.l2,by rw[aj];exact g.len,λy hm=>⟨V9 g.ok t1 y hm,hy y hm⟩⟩;exact V8 g o t1 t2 λQ' E' hq _=>pM g2 e (hq _ _ h)
theorem Wb(g:GC cs xs)(o:nt S k (ils xs))(t1:1≤t)(t2:t≤1000){pre rest:List Int}(ep:prd xs t=pre++z::rest)(hp:∀x∈pre,x≤GREAT)(hz:GREAT<z)(h:E (cX (.int z)) S):wm m_z8 [cst cs k,.int t] S Q E:=by
 refine V8 g o t1 t2 λQ' E' _ he=>?_;have nn:=V9 g.ok t1;rw[ep] at nn ⊢;rw[aX,ak];refine zra g (λx hx=>⟨nn x (List.mem_append_left _ hx),hp x hx⟩) ?_ hz (he _ _ h);have l:=congrArg List.length ep;rw[aj,g.len,aA,aG] at l;rw[aj];omega
theorem Wc(n:zyW d)(h:E (nX d) S):wm m_z8 [cst cs k,d] S Q E:=by
 unfold m_z8 c_z8;refine dM (by symm) ?_;symm;refine Ms (n S) ?_;symm;exact h
theorem We(n:∀ρ S,two2 oMul (some (cst cs k)) (cont ρ S (.d d))=none)(e2:(kdT d).isSome=true)(h:∀(Q':Rv->List Sl->Prop) (E':Exn->List Sl->Prop),(∀s S,Q (.fr s) S->Q' (.fr s) S)->(∀x S,E x S->E' x S)->wm m_z8 [cst cs k,d] S Q' E'):wm m_z5 [cst cs k,d] S Q E:=by
 unfold m_z5 c_z5;refine dM (by symm) ?_;refine qN (uH ?_);generalize hK:wQ oMul (ju 0 m_z8)=K;symm;rw[<-hK];refine uL (n _ _) ?_;refine g8 (vg rfl e2 ?_);refine h _ _ (λs S hq=>?_) λx S hq=>?_
 ·symm;exact hq
 ·exact hq
/-- the words are looked at in order -/
theorem Wf{rest:List D}{u v:Sl}:∀(ws:List Str) (x:Sl),(∀w∈ws,∃c,c∈cs∧w=⟨#[c]⟩)->(∀x,wL (.nm 2) Ls rest [.val (.str (catS cs)),u,x,v] S QF EX)->wL (.nm 2) Ls (ws.map .str++rest) [.val (.str (catS cs)),u,x,v] S QF EX
 |[],x,_,h=>h x
 |a::ws,x,g,h=>by
  obtain⟨c,hc,rfl⟩:=g a (.head _);rw[ak,bQ];refine oV (ρ1:=[.val (.str (catS cs)),u,.val (chrD c),v]) (by symm) ?_;symm;refine Kd ?_;rw[aP hc];symm;exact Wf ws _ (λp hp=>g p (.tail _ hp)) h
theorem rP{kvs:List (Key×D)}{ks:List Str}{ds:List D}(hc:∀c∈cs,c∈sgnS.cps.toList)(hn:cs.Nodup)(l1:1≤cs.length)(l2:cs.length≤5)(hs:(kvs.map λkv=>keyV kv.1)=ks.map .str)(lk:ks.length≤1000)(hw:∀w∈ks,∃c,c∈cs∧w=⟨#[c]⟩)(hg:cs.map (gv kvs)=ds)
  (h:∀(Q':Rv->List Sl->Prop) (E':Exn->List Sl->Prop),(∀s S,Q (.fr s) S->Q' (.fr s) S)->(∀x S,E x S->E' x S)->wm m_z6 [.str (catS cs),.lst ds] S Q' E'):wm fW [.str (catS cs),.dK kvs] S Q E:=by iterate
 unfold fW qY;refine dM (by symm) ?_;symm;refine qT hc hn l1 l2 ?_;symm;rw[hs];refine V4 lk ?_;symm;rw[<-aN ((srtS ks).map D.str)];refine Wf (srtS ks) _ (λw hm=>hw w ((V2 ks).mem_iff.mp hm)) λx=>Gx ?_;symm;rw[Ka];refine qP (λ_=>true) (λd=>match d with|.str c=>(luk kvs (.inr c)).getD (.int 0)|_=>.non) (by rw[aj];exact dG (by omega)) ?_ ?_
 ·intro d hd;obtain⟨c,hcm,rfl⟩:=ao.mp hd;symm;refine⟨rfl,rfl,?_,rfl⟩;symm
 ·rw[List.filter_eq_self.mpr (λ_ _=>rfl),aH];rw[show(λd:D=>match d with|.str c=>(luk kvs (.inr c)).getD (.int 0)|_=>.non)∘chrD=gv kvs from rfl,hg]
  symm;refine h _ _ (λs S hq=>?_) λx S hq=>?_
  ·symm;exact hq
  ·exact hq
theorem zjS{ws:List Str}{w:Str}(h:w∈ws)(hw:∀x∈ws,w.cps.toList≤x.cps.toList):∃rest,srtS ws=w::rest:=by iterate
 have pm:=V2 ws;have pw:=zu1 ws;cases e:srtS ws with
 |nil=>
  rw[e] at pm;have:=pm.mem_iff.mpr h;cases this
 |cons v rest=>
  rw[e] at pm pw;have h1:w.cps.toList≤v.cps.toList:=hw v (pm.mem_iff.mp (.head _));have h2:v.cps.toList≤w.cps.toList:=by
   rcases au.mp (pm.mem_iff.mpr h) with z|z
   ·rw[z];exact List.le_refl _
   ·have z2:=(List.pairwise_cons.mp pw).1 w z;unfold leS at z2;rwa[decide_eq_true_eq] at z2
  have e2:w=v:=ztg (Std.le_antisymm h1 h2);exact⟨rest,by rw[e2]⟩
theorem Wh{kvs:List (Key×D)}{w:Nat}{ks:List Str}(hc:∀c∈cs,c∈sgnS.cps.toList)(hn:cs.Nodup)(l1:1≤cs.length)(l2:cs.length≤5)(hs:(kvs.map λkv=>keyV kv.1)=ks.map .str)(lk:ks.length≤1000)(hm:(⟨#[w]⟩:Str)∈ks)(hw:∀x∈ks,(⟨#[w]⟩:Str).cps.toList≤x.cps.toList)(n:w∉cs)(h:E (syX (chrD w)) S):wm fW [.str (catS cs),.dK kvs] S Q E:=by
 unfold fW qY;refine dM (by symm) ?_;symm;refine qT hc hn l1 l2 ?_;symm;rw[hs];refine V4 lk ?_;obtain⟨rest,er⟩:=zjS hm hw;rw[er,ak];symm;refine oV (by symm) ?_;symm;refine Kd ?_;rw[aQ n];symm;exact h
theorem zrh{kvs:List (Key×D)}(n:∀S,vH [d] S=.ok (.d (.bl false)) [] S false)(h:E (.own ze4 (excF "InvalidSymbols" ["given"] [d])) S):wm fW [d,.dK kvs] S Q E:=by
 unfold fW qY;refine dM (by symm) ?_;symm;refine Ms (n S) ?_;symm;exact h
end
theorem Wi:CodeI "InvalidNumber" false false false false false:=⟨rfl,rfl,rfl,rfl,rfl⟩
theorem lm0:lamM 0=eG J_0 rB:=rfl
theorem lm1:lamM 1=eG J_1 rC:=rfl
theorem lm2:lamM 2=eG J_2 rD:=rfl
theorem lm3:lamM 3=eG J_3 rE:=rfl
theorem lm4:lamM 4=eG J_4 rF:=rfl
theorem lm5:lamM 5=eG J_5 rG:=rfl
theorem lm6:lamM 6=eG J_6 rH:=rfl
theorem lm7:lamM 7=eG J_7 rJ:=rfl
theorem lU{xs ys:List Sl}{i:Nat}{s:Sl}(h:nt xs i s):nt (xs++ys) i s:=by
 have h:xs[i]? = some s:=h;show(xs++ys)[i]? = some s;rw[bu (bx.mp h).1];exact h
abbrev big(xs:List Int)(t:Int):List Int:=(prd xs t).filter λp=>decide (GREAT<p)
def dueD(xs:List Int)(t:Int):D:=match big xs t with
 |[]=>.tup [.str "",.lst ((prd xs t).map .int)]
 |z::_=>.tup [.str "InvalidCost",.tup [.int z]]
theorem Wj:∀{ps:List Int},(ps.filter λp=>decide (GREAT<p))=[]->∀y∈ps,y≤GREAT:=λ{ps} h y hy=>by
 have z:=List.filter_eq_nil_iff.mp h y hy;have z:¬GREAT<y:=λq=>z (aP q);exact Int.not_lt.mp z
theorem Mx{z:Int}{zs:List Int}:∀{ps:List Int},(ps.filter λp=>decide (GREAT<p))=z::zs->∃pre rest,ps=pre++z::rest∧(∀x∈pre,x≤GREAT)∧GREAT<z
 |[],h=>by cases h
 |p::ps,h=>by
  by_cases k:GREAT<p
  ·rw[bH,if_pos (aP k)] at h;injection h with h1 h2
   subst h1;exact⟨[],ps,rfl,λ_ h=>(nomatch h),k⟩
  ·rw[bH,if_neg (by rw[aQ k];exact Bool.false_ne_true)] at h;obtain⟨pre,rest,e,h1,h2⟩:=Mx h;exact⟨p::pre,rest,by rw[e];rfl,λx hx=>by
    rcases au.mp hx with rfl|hx
    ·exact Int.not_lt.mp k
    ·exact h1 x hx,h2⟩
abbrev bads:List D:=[.int 0,.int (-1),.int 1001,.bl true,.non,.str "2",.tup [.int 2]]
abbrev odds:List D:=[.non,.bl true,.int (-1),.int (1000000000000+1),.str "1"]
theorem zvn{d:D}(h:d∈odds):Mw d∧Pl 3 d:=by
 simp only[List.mem_cons,List.not_mem_nil,or_false] at h;rcases h with rfl|rfl|rfl|rfl|rfl
 all_goals refine⟨λS=>by kernel_rfl,?_⟩
 ·exact Rw
 ·exact Ru
 ·exact jO
 ·exact jO
 ·exact jP
theorem zx4{d:D}(h:d∈bads):Pl 3 d:=by
 simp only[List.mem_cons,List.not_mem_nil,or_false] at h;rcases h with rfl|rfl|rfl|rfl|rfl|rfl|rfl
 ·exact jO
 ·exact jO
 ·exact jO
 ·exact Ru
 ·exact Rw
 ·exact jP
 ·exact uM (show 1≤1000 by decide) (fu jO jt)
theorem rQ{cs:List Nat}{ks:List Str}(h:(ks.all λw=>cs.any λc=>decide (w=⟨#[c]⟩))=true):∀w∈ks,∃c,c∈cs∧w=⟨#[c]⟩:=λw hw=>by
 obtain⟨c,hc,e⟩:=bO.mp (bJ.mp h w hw);exact⟨c,hc,aR e⟩
abbrev xyC:List Nat:=[120,121]
theorem Mz:Str.ofString "xy" = catS xyC:=by decide +kernel
theorem zys:∀w∈(["x","y"]:List Str),∃c,c∈xyC∧w=⟨#[c]⟩:=rQ (by decide +kernel)
theorem xy_c:∀c∈xyC,c∈sgnS.cps.toList:=by decide +kernel
section
variable{b s1 s2 s3 s4 s5:Sl}{bd od:D}{S T U:List Sl}{Q:Rv->List Sl->Prop}{E:Exn->List Sl->Prop}{cs:List Nat}{xs:List Int}{j:Nat}{t v:Int}
theorem zxV{k:Nat}(h:Q (.d (.str (catS cs))) S):wm m_z7 [cst cs k] S Q E:=by
 unfold m_z7 c_z7;refine dM (by symm) ?_;symm;exact h
theorem zy8(g:GC cs xs)(o:nt U j (ils xs))(t1:1≤t)(t2:t≤1000)(h:∀U',nt U' j (ils xs)->Q (.d (dueD xs t)) (b::.cel "_law_times" (.int t)::.cel "_law_made" (cst cs (j+6))::s3::s4::s5::U')) :
  wm iy [.fn 0] (b::.cel "_law_times" (.int t)::.cel "_law_made" (cst cs (j+6))::s3::s4::s5::U) Q E:=by iterate
 rw[kJ];refine jW ?_;rw[lm0];refine jY ?_;unfold rB;symm;refine vg rfl rfl ?_;unfold dueD at h;cases e:big xs t with
 |nil=>
  rw[e] at h;refine zoo g (by symm;exact o) t1 t2 (Wj e) (by symm) ?_;symm;refine kW (xs:=prd xs t) (by symm) ?_;symm;exact h _ (lU o)
 |cons z zs=>
  rw[e] at h;obtain⟨pre,rest,ep,hp,hz⟩:=Mx e;refine Wb g (by symm;exact o) t1 t2 ep hp hz ?_;symm;exact jX Mv rfl rfl rfl (h _ (lU o))
theorem zyk(g:GC cs xs)(o:nt U j (ils xs))(t1:1≤t)(t2:t≤1000)(h:∀U',nt U' j (ils xs)->Q (.d (dueD xs t)) (b::.cel "_law_times" (.int t)::.cel "_law_made" (cst cs (j+6))::s3::s4::s5::U')) :
  wm iy [.fn 1] (b::.cel "_law_times" (.int t)::.cel "_law_made" (cst cs (j+6))::s3::s4::s5::U) Q E:=by iterate
 rw[kJ];refine jW ?_;rw[lm1];refine jY ?_;unfold rC;symm;refine TJ ?_ ?_ ?_
 ·exact rfl
 ·exact rfl
 refine We (λ_ _=>rfl) rfl λQ' E' hq he=>?_;unfold dueD at h;cases e:big xs t with
 |nil=>
  rw[e] at h;refine zoo g (by symm;exact o) t1 t2 (Wj e) (by symm) (hq _ _ ?_);symm;refine kW (xs:=prd xs t) (by symm) ?_;symm;exact h _ (lU o)
 |cons z zs=>
  rw[e] at h;obtain⟨pre,rest,ep,hp,hz⟩:=Mx e;refine Wb g (by symm;exact o) t1 t2 ep hp hz (he _ _ ?_);symm;exact jX Mv rfl rfl rfl (h _ (lU o))
theorem zze{k:Nat}(hd:bd∈bads)(h:Q (.d (.tup [.str "InvalidNumber",.tup [bd]])) (b::s1::.cel "_law_made" (cst cs k)::.cel "_law_bad" bd::s4::s5::(U++[.emp]))) :
  wm iy [.fn 2] (b::s1::.cel "_law_made" (cst cs k)::.cel "_law_bad" bd::s4::s5::U) Q E:=by
 rw[kJ];refine jW ?_;rw[lm2];refine jY ?_;unfold rD;simp only[List.mem_cons,List.not_mem_nil,or_false] at hd;rcases hd with rfl|rfl|rfl|rfl|rfl|rfl|rfl
 all_goals
  symm;refine vg rfl rfl ?_;refine Wc (λS=>by kernel_rfl) ?_;symm;exact jX Wi rfl rfl rfl h
theorem zyY{k:Nat}(hd:bd∈bads)(h:Q (.d (.tup [.str "InvalidNumber",.tup [bd]])) (b::s1::.cel "_law_made" (cst cs k)::.cel "_law_bad" bd::s4::s5::(U++[.emp]))) :
  wm iy [.fn 3] (b::s1::.cel "_law_made" (cst cs k)::.cel "_law_bad" bd::s4::s5::U) Q E:=by
 rw[kJ];refine jW ?_;rw[lm3];refine jY ?_;unfold rE;simp only[List.mem_cons,List.not_mem_nil,or_false] at hd;rcases hd with rfl|rfl|rfl|rfl|rfl|rfl|rfl
 all_goals
  symm;refine TJ ?_ ?_ ?_
  ·exact rfl
  ·exact rfl
  refine We (λ_ _=>rfl) rfl λQ' E' hq he=>?_;refine Wc (λS=>by kernel_rfl) (he _ _ ?_);symm;exact jX Wi rfl rfl rfl h
theorem zyH(h:Q (.d (.tup [.str "InvalidSymbols",.tup [.str "aa"]])) (b::s1::s2::s3::s4::.cel "_law_odd" od::(U++[.emp]))) :
  wm iy [.fn 4] (b::s1::s2::s3::s4::.cel "_law_odd" od::U) Q E:=by
 rw[kJ];refine jW ?_;rw[lm4];refine jY ?_;unfold rF;symm;refine j6 ?_;symm
 ·exact rfl
 refine zrh (d:=.str "aa") (λS=>by kernel_rfl) ?_;symm;exact jX zdR rfl rfl rfl h
theorem zzq(h:Q (.d (.tup [.str "InvalidSymbol",.tup [.str "a"]])) (b::s1::s2::s3::s4::.cel "_law_odd" od::(U++[.emp]))) :
  wm iy [.fn 5] (b::s1::s2::s3::s4::.cel "_law_odd" od::U) Q E:=by
 rw[kJ];refine jW ?_;rw[lm5];refine jY ?_;unfold rG;symm;refine j6 ?_;symm
 ·exact rfl
 rw[Mz];refine Wh (cs:=xyC) (w:=97) (ks:=["z","w","a"]) xy_c (by decide) (by decide) (by decide) (by kernel_rfl) (by decide) (by decide +kernel) (by decide +kernel) (by decide) ?_;symm;exact jX V5 rfl rfl rfl h
theorem zy7(v0:0≤v)(v1:v≤GREAT)(n:Mw od)(h:Q (.d (.tup [.str "InvalidCost",.tup [od]])) (b::s1::s2::s3::.cel "_law_one" (.int v)::.cel "_law_odd" od::(U++[.emp]))) :
  wm iy [.fn 6] (b::s1::s2::s3::.cel "_law_one" (.int v)::.cel "_law_odd" od::U) Q E:=by iterate
 rw[kJ];refine jW ?_;rw[lm6];refine jY ?_;unfold rH;symm;refine j6 ?_;symm
 ·exact rfl
 rw[Mz];refine rP (cs:=xyC) (ks:=["x","y"]) (ds:=[v].map .int++od::[]) xy_c (by decide) (by decide) (by decide) (by kernel_rfl) (by decide) zys (by kernel_rfl) λQ' E' hq he=>?_;refine zr1 (cs:=xyC) (xs:=[0,0]) ⟨xy_c,by decide,by decide,by decide,rfl,by decide⟩ (λx hx=>by rw[aU.mp hx];exact⟨v0,v1⟩) rfl n (he _ _ ?_);symm;exact jX Mv rfl rfl rfl h
theorem zz4(h:Q (.d (.tup [.str "InvalidSymbol",.tup [.str "w"]])) (b::s1::s2::s3::s4::.cel "_law_odd" od::(U++[.emp]))) :
  wm iy [.fn 7] (b::s1::s2::s3::s4::.cel "_law_odd" od::U) Q E:=by
 rw[kJ];refine jW ?_;rw[lm7];refine jY ?_;unfold rJ;symm;refine j6 ?_;symm
 ·exact rfl
 rw[Mz];refine Wh (cs:=xyC) (w:=119) (ks:=["w","x"]) xy_c (by decide) (by decide) (by decide) (by kernel_rfl) (by decide) (by decide +kernel) (by decide +kernel) (by decide) ?_;symm;exact jX V5 rfl rfl rfl h
end
abbrev TQ:Sl:=.tab "law.<locals>.<lambda>"
abbrev STR(b:Sl)(T:List Sl):List Sl:=b::.rsv "_law_times"::.rsv "_law_made"::.rsv "_law_bad"::.rsv "_law_one"::.rsv "_law_odd"::T
def bigP(t:Int):D->Bool
 |.int v=>decide (GREAT<v*t)
 |_=>false
theorem zuu(xs:List Int)(t:Int):((xs.map D.int).filter (bigP t)).map (mulF t)=(big xs t).map D.int:=by iterate
 induction xs with
 |nil=>rfl
 |cons x xs ih=>
  unfold big prd at ih ⊢;rw[ak,ak]
  by_cases k:GREAT<x*t
  ·rw[bH,if_pos (show bigP t (.int x)=true from aP k),bH,if_pos (aP k),ak,ak,ih]
   rfl
  ·rw[bH,if_neg (show ¬bigP t (.int x)=true from by rw[show bigP t (.int x)=decide (GREAT<x*t) from rfl,aQ k];exact Bool.false_ne_true),bH,if_neg (by rw[aQ k];exact Bool.false_ne_true),ih]
theorem Wk(xs:List Int):prd xs 1=xs:=by
 unfold prd;rw[show(λx:Int=>x*1)=id from funext λx=>Int.mul_one x,List.map_id]
theorem Wl{xs:List Int}(h:1≤xs.length)(w:Int):(xs.set 0 w).map D.int=[.int w]++(xs.map D.int).drop 1:=by
 cases xs with
 |nil=>exact absurd h (by decide)
 |cons x r=>rfl
theorem pN{k:Nat}{ws:List Int}(l:ws.length≤1000):Pl (k+2) (.lst (ws.map .int)):=pq (by rw[aj];exact l) λx hx=>by
 obtain⟨w,_,rfl⟩:=ao.mp hx;exact jO
theorem lV{k:Nat}{x:Str}{d:D}(h:Pl k d):Pl (k+2) (.tup [.str x,.tup [d]]):=uM (show 2≤1000 by decide) (fu jP (fu (uM (show 1≤1000 by decide) (fu h jt)) jt))
theorem zvy{xs:List Int}{t:Int}(l:xs.length≤5):Pl 5 (dueD xs t):=by
 unfold dueD;cases e:big xs t with
 |nil=>exact uM (show 2≤1000 by decide) (fu jP (fu (pN (by rw[aj];omega)) jt))
 |cons z zs=>exact lV (k:=3) jO
section
variable{b s0 s2 s3 s4 s5 s6 s7 s8 s9 s10 s11 s12 s13 s14 s15:Sl}{S T U:List Sl}{QF:Fl->List Sl->List Sl->Prop}{E:XQ}{cs:List Nat}{xs:List Int}{j:Nat}{t:Int}{bd:D}
/-- a copy is another one -/
theorem q3_w(g:GC cs xs)(o:nt U j (ils xs))(h:∀o11 U',QF .nx [s0,.val (.ob 0),s2,.val (.str (catS cs)),.val (.lst (xs.map .int)),.val (.int t),.val (cst cs (j+6)),s7,s8,s9,.val bd,o11,s12,s13,s14,s15,.emp,TQ] (STR b U')) :
  wp Mj [s0,.val (.ob 0),s2,.val (.str (catS cs)),.val (.lst (xs.map .int)),.val (.int t),.val (cst cs (j+6)),s7,s8,s9,.val bd,s11,s12,s13,s14,s15,.emp,TQ] (STR b U) QF E:=by iterate
 have lx:xs.length≤5:=by rw[g.len];exact g.l2
 have lx1:1≤xs.length:=by rw[g.len];exact g.l1
 have hl:(catS cs).length≤sizeLine:=by rw[iJ];exact dG (bh g.l2 (by decide))
 have ec:cs[0]? = some (cs[0]'(g.l1)):=aJ _;unfold Mj;symm;refine vg rfl rfl ?_;refine zoo g (by symm;exact o) (by decide) (by decide) (by rw[Wk];exact λy hy=>(g.ok y hy).2) (by symm) ?_;rw[Wk];symm;unfold VB;symm;refine ig vR ?_;symm;refine zmx (c:=cs[0]'(g.l1)) hl (by rw[pB];exact DV.atI_nat ec) ?_;symm;refine zyK (i:=0) (v:=1000000000000 - 5) g (by symm) ec (by decide) (by decide) (by symm) ?_;symm;unfold Vz;symm;have o2:=λx:Sl=>lU (ys:=[x]) o;refine kW (xs:=xs) (by symm;exact o2 _) ?_;symm;refine kW (xs:=xs.set 0 (1000000000000 - 5)) (by symm) ?_;symm;refine ig vR ?_;symm;rw[zqa];refine zmP (by rw[List.length_drop,aj];exact dG (by show 1+_≤1000;omega)) ?_;symm;rw[Wl lx1];refine g8 (rO rfl ?_ ?_)
 ·refine pq (show 2≤1000 by decide) (fu (pN (by omega)) (fu ?_ jt));rw[<-Wl lx1];exact pN (by rw[bM];omega)
 symm;exact h _ _
theorem q7_w(hb:Bag b)(g:GC cs xs)(o:nt U j (ils xs))(t1:1≤t)(t2:t≤1000)(h:∀o9 bd o11 b' U',Bag b'->QF .nx [s0,.val (.ob 0),s2,.val (.str (catS cs)),.val (.lst (xs.map .int)),.val (.int t),.val (cst cs (j+6)),s7,.val (dueD xs t),o9,.val bd,o11,s12,s13,s14,s15,.emp,TQ] (STR b' U')) :
  wp Ml [s0,.val (.ob 0),s2,.val (.str (catS cs)),.val (.lst (xs.map .int)),.val (.int t),.val (cst cs (j+6)),s7,.val (dueD xs t),s9,s10,s11,s12,s13,s14,s15,.emp,TQ] (STR b U) QF E:=by iterate
 have lx:xs.length≤5:=by rw[g.len];exact g.l2
 unfold Ml;symm;rw[Mu];refine Ko (by decide) ?_;refine jZ (zy8 g o t1 t2 λU1 o1=>⟨_,rfl,?_⟩);refine jZ (zyk g o1 t1 t2 λU2 o2=>⟨_,rfl,?_⟩);refine u5 ?_;simp only[List.nil_append,List.cons_append];symm;unfold VG;symm;have pd:=zvy (t:=t) lx;refine g8 (rO rfl (pq (show 2≤1000 by decide) (fu pd (fu pd jt))) ?_);symm;refine kW (xs:=xs) (by symm;exact o2) ?_;symm;refine ig (eqI xs xs true) ?_;rw[aP rfl,show(true != true)=false from rfl]
 symm;unfold VF;symm;rw[m_of];refine JX hb (Nat.succ_pos _) (show 7<1000 by decide) λbd b1 hb1 hd=>?_;symm;unfold VD;have pb:=zx4 hd;symm;rw[Mu];refine Ko (by decide) ?_;refine jZ (zze hd ⟨_,rfl,?_⟩);refine jZ (zyY hd ⟨_,rfl,?_⟩);refine u5 ?_;simp only[List.nil_append,List.cons_append];symm;refine zuC (by decide) (by decide) ?_;rw[show List.replicate (2:Int).toNat (D.tup [.str "InvalidNumber",.tup [bd]])=[.tup [.str "InvalidNumber",.tup [bd]],.tup [.str "InvalidNumber",.tup [bd]]] from rfl]
 symm;refine g8 (rO rfl (pq (show 2≤1000 by decide) (fu (lV (k:=3) pb) (fu (lV (k:=3) pb) jt))) ?_);symm;exact q3_w g (lU (lU o2)) λo11 U'=>h _ _ _ _ _ hb1
/-- a turn -/
theorem zxZ(hb:Bag b)(h:∀o3 o4 o5 o6 o7 o8 o9 o10 o11 b' T',Bag b'->QF .nx [s0,.val (.ob 0),s2,o3,o4,.val o5,.val o6,o7,o8,o9,.val o10,o11,s12,s13,s14,s15,.emp,TQ] (STR b' T')) :
  wp Mp [s0,.val (.ob 0),s2,s3,s4,s5,s6,s7,s8,s9,s10,s11,s12,s13,s14,s15,.emp,TQ] (STR b T) QF E:=by iterate
 unfold Mp;symm;rw[zyR];refine zp4 hb (by decide) (by decide) λcs b1 hb1 c0 c1 hc hn=>?_;symm;unfold VM;symm;rw[zql];refine zrd hb1 (by omega) λxs b2 hb2 xl xc=>?_;have g:GC cs xs:=⟨hc,hn,c0,by omega,xl,xc⟩;symm;rw[zxa];refine ph hb2 (by omega) (by omega) λa b3 hb3 a0 a1=>?_;symm;rw[m_of];refine JX hb3 (Nat.succ_pos _) (show 4<1000 by decide) λtd b4 hb4 hd=>?_;obtain⟨t,rfl,t1,t2⟩:∃t,td=D.int t∧1≤t∧t≤1000:=by iterate
  simp only[List.mem_cons,List.not_mem_nil,or_false] at hd;rcases hd with rfl|rfl|rfl|rfl
  ·exact⟨_,rfl,by decide,by decide⟩
  ·exact⟨_,rfl,by decide,by decide⟩
  ·exact⟨_,rfl,by decide,by decide⟩
  ·exact⟨_,rfl,by omega,by omega⟩
 clear hd;symm;unfold VL;symm;refine pM g (by symm) ?_;symm;unfold VJ;symm;refine qP (bigP t) (mulF t) (by rw[aj];exact dG (by omega)) ?_ ?_
 ·intro d hd;obtain⟨v,hv,rfl⟩:=ao.mp hd;symm;refine iZ (.inr (.inl (vW t1 t2))) ?_;symm;refine ig vR ?_;symm;refine uz (λh1=>?_) λh1=>?_
  ·symm;refine iZ (.inr (.inl (vW t1 t2))) ?_;symm;refine⟨rfl,aP h1,?_,rfl⟩;symm
  ·refine⟨aQ h1,?_,rfl⟩;symm
 rw[zuu];symm;unfold VH;have o:nt (T++[ils xs]) T.length (ils xs):=by show(T++[ils xs])[T.length]? = _;simp
 symm;refine ig (show oEq true (.lst ((big xs t).map .int)) (.lst [])=_ from eqI (big xs t) [] true) ?_
 have du:dueD xs t=match big xs t with|[]=>.tup [.str "",.lst ((prd xs t).map .int)]|z::_=>.tup [.str "InvalidCost",.tup [.int z]]:=rfl
 cases e:big xs t with
 |nil=>
  rw[e] at du
  dsimp only at du
  rw[show(true != decide (([]:List Int)=[]))=false from rfl]
  symm;refine qP (λ_=>true) (mulF t) (by rw[aj];exact dG (by omega)) ?_ ?_
  ·intro d hd;obtain⟨v,hv,rfl⟩:=ao.mp hd;symm;refine iZ (.inr (.inl (vW t1 t2))) ?_;symm;refine⟨rfl,rfl,?_,rfl⟩;symm
  rw[List.filter_eq_self.mpr (λ_ _=>rfl),V7];symm;rw[<-du];exact q7_w hb4 g o t1 t2 λo9 bd o11 b' U' hb'=>h _ _ _ _ _ _ _ _ _ _ _ hb'
 |cons z zs=>
  rw[e] at du
  dsimp only at du
  rw[show(true != decide (z::zs=[]))=true from rfl,ak]
  symm;rw[<-du];exact q7_w hb4 g o t1 t2 λo9 bd o11 b' U' hb'=>h _ _ _ _ _ _ _ _ _ _ _ hb'
end
abbrev xbyC:List Nat:=[120,98,121]
theorem zth:Str.ofString "xby" = catS xbyC:=by decide +kernel
theorem vX:∀c∈xbyC,c∈sgnS.cps.toList:=by decide +kernel
abbrev yxC:List Nat:=[121,120]
theorem zxv:Str.ofString "yx" = catS yxC:=by decide +kernel
theorem yx_c:∀c∈yxC,c∈sgnS.cps.toList:=by decide +kernel
theorem MF{x y z:Int}(hx:0≤x∧x≤GREAT)(hy:0≤y∧y≤GREAT)(hz:0≤z∧z≤GREAT):GC xbyC [x,y,z]:=⟨vX,by decide,by decide,by decide,rfl,λv hv=>by
 simp only[List.mem_cons,List.not_mem_nil,or_false] at hv;rcases hv with rfl|rfl|rfl<;>assumption⟩
theorem zyu{x y:Int}(hx:0≤x∧x≤GREAT)(hy:0≤y∧y≤GREAT):GC yxC [x,y]:=⟨yx_c,by decide,by decide,by decide,rfl,λv hv=>by
 simp only[List.mem_cons,List.not_mem_nil,or_false] at hv;rcases hv with rfl|rfl<;>assumption⟩
theorem zyf(ns:List Int):wp rN ([.val (.kl (ns.map .int)),.emp,.emp,.emp,.emp,.emp,.emp,.emp,.emp,.emp,.emp,.emp,.emp,.emp,.emp,.emp,.emp,TQ]) [] (λf _ _=>f=.rt (.d (.bl true))) (λ_ _ _=>False):=by iterate
 unfold rN;symm;rw[zxc];refine zxE λb hb=>?_;symm;refine zx9 rfl ?_;symm;refine Gy (λrest ρ S=>∃b T',Bag b∧(∃s2 o3 o4 o5 o6 o7 o8 o9 o10 o11,ρ=[.val (.kl (ns.map .int)),.val (.ob 0),s2,o3,o4,o5,o6,o7,o8,o9,o10,o11,.emp,.emp,.emp,.emp,.emp,TQ]∧(rest.length<5->(∃d,o5=.val d)∧(∃d,o6=.val d)∧∃d,o10=.val d))∧S=STR b T'∧rest.length≤5) ?_ ?_ _ _ _ ⟨_,[],hb,⟨_,_,_,_,_,_,_,_,_,_,rfl,λz=>absurd z (by decide)⟩,rfl,by decide⟩
 ·rintro d ds _ _ ⟨b,T',hb,⟨s2,o3,o4,o5,o6,o7,o8,o9,o10,o11,rfl,_⟩,rfl,l6⟩;rw[aG] at l6;symm;refine zxZ hb λo3 o4 o5 o6 o7 o8 o9 o10 o11 b' T' hb'=>?_;symm;exact⟨b',T',hb',⟨_,_,_,_,_,_,_,_,_,_,rfl,λ_=>⟨⟨_,rfl⟩,⟨_,rfl⟩,⟨_,rfl⟩⟩⟩,rfl,by omega⟩
 ·rintro _ _ ⟨b,T',hb,⟨s2,o3,o4,o5,o6,o7,o8,o9,o10,o11,rfl,hv⟩,rfl,_⟩;obtain⟨⟨d5,rfl⟩,⟨d6,rfl⟩,⟨d10,rfl⟩⟩:=hv (by decide);symm;rw[zvB];refine Mr hb λv b1 hb1 v0 v1=>?_;symm;refine Mr hb1 λw b2 hb2 w0 w1=>?_;symm;have z0:(0:Int)≤0∧(0:Int)≤GREAT:=by decide
  refine j6 ?_;symm
  ·exact rfl
  rw[zth,zxv];refine g8 (rP (cs:=xbyC) (ks:=[]) (ds:=([0,0,0]:List Int).map .int) vX (by decide) (by decide) (by decide) (by kernel_rfl) (by decide) (rQ (by decide +kernel)) (by kernel_rfl) λQ' E' hq he=>?_);refine pM (xs:=[0,0,0]) (MF z0 z0 z0) (by symm) (hq _ _ ?_);symm;refine kW (xs:=[0,0,0]) (by symm) ?_;symm;refine j6 ?_;symm
  ·exact rfl
  refine g8 (rP (cs:=xbyC) (ks:=["b"]) (ds:=([0,v,0]:List Int).map .int) vX (by decide) (by decide) (by decide) (by kernel_rfl) (by decide) (rQ (by decide +kernel)) (by kernel_rfl) λQ' E' hq he=>?_);refine pM (xs:=[0,v,0]) (MF z0 ⟨v0,v1⟩ z0) (by symm) (hq _ _ ?_);symm;refine kW (xs:=[0,v,0]) (by symm) ?_;symm;refine j6 ?_;symm
  ·exact rfl
  refine g8 (rP (cs:=xbyC) (ks:=["y","x"]) (ds:=([v,0,w]:List Int).map .int) vX (by decide) (by decide) (by decide) (by kernel_rfl) (by decide) (rQ (by decide +kernel)) (by kernel_rfl) λQ' E' hq he=>?_);refine pM (xs:=[v,0,w]) (MF ⟨v0,v1⟩ z0 ⟨w0,w1⟩) (by symm) (hq _ _ ?_);symm;refine kW (xs:=[v,0,w]) (by symm) ?_;symm;refine j6 ?_;symm
  ·exact rfl
  refine g8 (rP (cs:=yxC) (ks:=["x","y"]) (ds:=([v,w]:List Int).map .int) yx_c (by decide) (by decide) (by decide) (by kernel_rfl) (by decide) (rQ (by decide +kernel)) (by kernel_rfl) λQ' E' hq he=>?_);refine pM (xs:=[v,w]) (zyu ⟨v0,v1⟩ ⟨w0,w1⟩) (by symm) (hq _ _ ?_);symm;refine zxV ?_;generalize hA0:D.lst (List.map D.int [0,0,0])=A0;generalize hA1:D.lst (List.map D.int [0,v,0])=A1;generalize hA2:D.lst (List.map D.int [v,0,w])=A2;generalize hy:catS yxC=yx;symm;refine g8 (rO (by rw[<-hA0,<-hA1,<-hA2];rfl) ?_ ?_)
  ·exact pq (show 4≤1000 by decide) (fu (pN (ws:=[0,0,0]) (by decide)) (fu (pN (ws:=[0,v,0]) (show 3≤1000 by decide)) (fu (pN (ws:=[v,0,w]) (show 3≤1000 by decide)) (fu jP jt))))
  symm;refine ig vR ?_;symm;rw[m_of];refine JX hb2 (Nat.succ_pos _) (show 5<1000 by decide) λod b3 hb3 hd=>?_;obtain⟨no,po⟩:=zvn hd;clear hd;symm;rw[Mu];refine Ko (by decide) ?_;refine jZ (zyH ⟨_,rfl,?_⟩);refine jZ (zzq ⟨_,rfl,?_⟩);refine jZ (zy7 v0 v1 no ⟨_,rfl,?_⟩);refine jZ (zz4 ⟨_,rfl,?_⟩);refine u5 ?_;simp only[List.nil_append,List.cons_append];symm;refine g8 (rO rfl ?_ ?_)
  ·exact pq (show 4≤1000 by decide) (fu (lV (k:=3) jP) (fu (lV (k:=3) jP) (fu (lV po) (fu (lV (k:=3) jP) jt))))
  symm;rfl
theorem plain:Plain:=λns _=>by iterate
 have h:=zyf ns;unfold wp at h;have e:(env0 18 [D.kl (ns.map .int)]).set 17 (.tab "law.<locals>.<lambda>")=[.val (.kl (ns.map .int)),.emp,.emp,.emp,.emp,.emp,.emp,.emp,.emp,.emp,.emp,.emp,.emp,.emp,.emp,.emp,.emp,TQ]:=rfl;rw[e];cases q:rN [.val (.kl (ns.map .int)),.emp,.emp,.emp,.emp,.emp,.emp,.emp,.emp,.emp,.emp,.emp,.emp,.emp,.emp,.emp,.emp,TQ] [] with
 |bad=>rw[q] at h;exact h.elim
 |ex x ρ S=>rw[q] at h;exact h.elim
 |ok f ρ S t=>rw[q] at h;have h:f=_:=h;subst h;exact⟨ρ,S,t,rfl⟩
end Lk09
end
theorem PySem.Challenge.cw_rightfrom_k09_costs_multiplied_and_price_holds : PySem.Challenge.rw_rightfrom_k09_costs_multiplied_and_price.Holds :=
 Lk09.holds_of Lk09.plain
