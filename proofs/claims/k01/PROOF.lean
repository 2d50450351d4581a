import PyProof.Rows.All
import Wide.All
import OpenK.AllK
import Wide.FinOn
import HandS.IsInst
import PyProof.InstNe
import HandS.ForMost
import HandS.FStr
import HandS.DictComp
import HandS.ListItems
import HandS.Star
import HandS.HeadHook2
import PyProof.ReprRoads
import HandS.Exc
import HandS.ExcInit
import HandS.ExcField
import HandS.Flow
import PyProof.EqAt
import PyProof.EqKinds
import PyProof.NeKinds
import PyProof.MeetsIn
import HandS.DeepEq
import HandS.OwnEq
import HandS.Deep
import HandS.Wide
import HandS.SortInts
import PyProof.Rows.SortStr
import PyProof.Rows.StrMeet
import KE.KDictPairs
import KE.KeyNested
import KE.GoesMore
import HandS.RaiseMore
import HandS.More
import HandS.Text
import HandS.ExcIs
import HandS.Strs
import HandS.Zip
import HandS.SetKeys
import KE.KDictItemsList
import HandS.TupAny
import KE.KDictList
import HandS.TryOnly
import HandS.Conv
import HandS.Style
import HandS.SetBool
import HandS.DictTup
import KE.KDictWalk
import KE.KDictCopyH
import HandS.Finally
import HandS.Defaults
import HandS.ExcValue
import HandS.Small
import HandS.TryMany
import HandS.ExcOwn
import HandS.HeadEnd
import HandS.Ends
import KE.KStateDown
import Lean
import HandS.Words
import HandS.Head0
import HandS.Head1
import HandS.Head2
import HandS.HeadHook1
import HandS.HeadHook3
import HandS.HeadHook4
import PyProof.EqLayable
import PyProof.ReprLen
import PyProof.StrBlockL
import PyProof.StrLaws
import PyProof.StrLawsChain
import PyProof.P3Eq
import PySem.Challenge.RW_longstrike_k01_errors_made
set_option Elab.async false
set_option linter.all false
namespace LS
open PySem L2
def oexB (K:PySem.W.Frag) (C:Addr):Bool:=match K.lookup C with
 | some ⟨.type "type",_,.cls cd,sl⟩=>(match cd.mro,sl.toList with
  | .ref C'::bm,[_,_,_,_,some (.builtin n),_]=>C' == C && (n == "ValueError.__new__" && (!cd.hasDel && (cd.hasDict && PySem.HandSPX.refsVE bm)))
  | _,_=>false)
 | _=>false
def qmm (K:PySem.W.Frag) (c:Str) (f:Addr):Bool:=decide (PySem.W.findIn K (.ref (He.ga K c)) "__init__"=some (some (.ref f))) && decide (PySem.W.typeIn K (.ref f)=some (.type "function"))
def qan (K:PySem.W.Frag) (c:Str) (fl:List Str):Bool:=(fl.all fun f=>decide (PySem.W.findIn K (.ref (He.ga K c)) f=some none)) && (decide fl.Nodup && (decide (fl.length≤5) &&
 ((decide (PySem.W.subIn K (.ref (He.ga K c)) (.type "BaseException")=some true) && decide (PySem.W.subIn K (.ref (He.ga K c)) (.type "ValueError")=some true)) && (decide (PySem.W.typeIn K (.ref (He.ga K c))=some (.type "type")) && (PySem.W.keepIn K (.ref (He.ga K c)) &&
 (if fl=[] then PySem.W.excIn K (He.ga K c) [.type "ValueError",.type "Exception",.type "BaseException",.type "object"] "ValueError.__new__" else
  oexB K (He.ga K c) && (decide (PySem.W.findIn K (.ref (He.ga K c)) "__setattr__"=some (some (.builtin "object.__setattr__"))) && (qmm K c (He.fAd K (c,some "__init__")) && xfB K (He.ga K c)))))))))
def errB (K:PySem.W.Frag) (C:Addr):Bool:=xfB K C && (decide (PySem.W.findIn K (.ref C) "__class__"=some (some (.builtin "object.__class__"))) && (decide (PySem.W.specialIn K (.builtin "object.__class__") "__get__"=some (some (.builtin "getset_descriptor.__get__"))) &&
 (decide (PySem.W.takesIn K (.builtin "object.__class__")=some true) && decide (PySem.W.mroIn K C (.type "object")=some true))))
def isxB (K:PySem.W.Frag) (c:Str) (xs:List (Str × Bool)):Bool:=errB K (He.ga K c) && xs.all fun q=>decide (PySem.W.kitOne K (.ref (He.ga K c)) (.ref (He.ga K q.1))=some q.2)
section
variable {α:Type}
def frL:List Addr→(List Addr→α)→α
 | [],k=>k []
 | a::r,k=>HandSHeadRun.frNat a fun a=>frL r fun r=>k (a::r)
theorem qkl:∀ (l:List Addr) (k:List Addr→α),frL l k=k l
 | [],_=>rfl
 | a::r,k=>by
  unfold frL
  rw [HandSHeadRun.frNat_eq,qkl r]
end
def isDO (o:Obj):Bool:=match o.data with
 | .dict _ _=>true
 | _=>false
def isFO (o:Obj):Bool:=match o.data with
 | .func _=>true
 | _=>false
def isSO (o:Obj):Bool:=match o.data with
 | .seq _ _=>true
 | _=>false
def qir (g:Addr→Option Obj) (sel:Obj→Bool) (as:List Addr):List Addr:=as.flatMap fun a=>match g a with
 | some o=>(match sel o with
  | true=>He.refsD o
  | false=>[])
 | none=>[]
def asY (g:Addr→Option Obj):List Addr:=frL (qir g (fun _=>true) [mainGlobals]) fun a1=>frL (qir g (fun _=>true) a1) fun a2=>frL (qir g isDO a2) fun a3=>frL (qir g isFO a3) fun a4=>
 mainGlobals::(a1++(a2++(a3++(a4++qir g isSO (a2++a4)))))
def obsY (fa:List He.Fa) (fn:List He.DefD) (ts:List He.Tab) (ex:PySem.W.Frag→Bool) (g:Addr→Option Obj):He.AlX:=frL (asY g) fun as=>(He.obsT fa fn ts (He.frT g as),ex (He.frT g as))
def qnJ (fa:List He.Fa) (fn:List He.DefD) (ts:List He.Tab) (ex:PySem.W.Frag→Bool):PySem.W.Hook where
 α:=He.AlX
 obs:=fun s=>obsY fa fn ts ex s.heap.get?
 val:=fun w=>He.valX fn ts w
 says:=fun w h=>∃ K:PySem.W.Frag,K.In h∧He.SaysX fa fn ts [] ex w h K
 of:=fun w s e=>by
  have e:obsY fa fn ts ex s.heap.get?=He.valX fn ts w:=e
  unfold obsY at e
  rw [qkl] at e
  refine ⟨He.frT s.heap.get? (asY s.heap.get?),He.frT_in,?_⟩
  exact { t:=congrArg (fun z:He.AlX=>z.1) e,more:=congrArg (fun z:He.AlX=>z.2) e,hd:=fun _ hp=>(nomatch hp),out:=fun _ hp=>(nomatch hp),empty:=fun _ hp=>(nomatch hp) }
 keeps:=fun w h h' y k=>by
  obtain ⟨K,hK,c⟩:=y
  exact ⟨K,PySem.W.Frag.In.keeps hK k,{ t:=c.t,more:=c.more,hd:=c.hd,out:=c.out,empty:=fun _ hp=>(nomatch hp) }⟩
theorem ql7 {fa:List He.Fa} {fn:List He.DefD} {ts:List He.Tab} {ex:PySem.W.Frag→Bool} {g:Addr→Option Obj} {s:Shared} (h:∀ a,g a=s.heap.get? a):obsY fa fn ts ex g=(qnJ fa fn ts ex).obs s:=by
 have e:g=s.heap.get?:=funext h
 subst e
 rfl
end LS
set_option maxRecDepth 100000
set_option maxHeartbeats 0
namespace LS
open PySem PySem.Spec PyProof.Rows L2
def top (i : Nat) : Stmt := PySem.Challenge.pw_longstrike_k01_errors_made.main.body.getD i (.Pass ⟨0, 0, 0, 0⟩)
def mth (i j:Nat):Stmt:=match top i with
 | .ClassDef _ _ _ b _ _ _ _ _ _ _=>b.getD j (.Pass ⟨0,0,0,0⟩)
 | s=>s
abbrev qhC:Stmt:=top 36
def qmx:He.DefD:=⟨("law",none),"law","law",defArgs qhC,defBody qhC,defScope qhC,[],[]⟩
abbrev qa1:Stmt:=top 35
def qcd:He.DefD:=⟨("_law_thing",none),"_law_thing","_law_thing",defArgs qa1,defBody qa1,defScope qa1,[],[]⟩
abbrev qat:Stmt:=top 32
def qa9:He.DefD:=⟨("_law_first_half",none),"_law_first_half","_law_first_half",defArgs qat,defBody qat,defScope qat,[],[]⟩
abbrev qaw:Stmt:=top 33
def qbe:He.DefD:=⟨("_law_other_half",none),"_law_other_half","_law_other_half",defArgs qaw,defBody qaw,defScope qaw,[],[]⟩
abbrev qbd:Stmt:=top 30
def qcC:He.DefD:=⟨("_law_same",none),"_law_same","_law_same",defArgs qbd,defBody qbd,defScope qbd,[],[]⟩
abbrev qaI:Stmt:=top 34
def qbQ:He.DefD:=⟨("_law_classes",none),"_law_classes","_law_classes",defArgs qaI,defBody qaI,defScope qaI,[],[]⟩
abbrev qaO:Stmt:=top 31
def qbW:He.DefD:=⟨("_law_fields",none),"_law_fields","_law_fields",defArgs qaO,defBody qaO,defScope qaO,[],[]⟩
abbrev qbb:Stmt:=top 28
def qcF:He.DefD:=⟨("_law_draw",none),"_law_draw","_law_draw",defArgs qbb,defBody qbb,defScope qbb,[],[]⟩
abbrev qbf:Stmt:=top 29
def qcG:He.DefD:=⟨("_law_pick",none),"_law_pick","_law_pick",defArgs qbf,defBody qbf,defScope qbf,[],[]⟩
abbrev qaJ:Stmt:=mth 4 0
def qbH:He.DefD:=⟨("UnknownKind",some "__init__"),"__init__","UnknownKind.__init__",defArgs qaJ,defBody qaJ,defScope qaJ,[],[]⟩
abbrev qbK:Stmt:=mth 12 0
def qdh:He.DefD:=⟨("NoRow",some "__init__"),"__init__","NoRow.__init__",defArgs qbK,defBody qbK,defScope qbK,[],[]⟩
abbrev qaA:Stmt:=mth 5 0
def qbu:He.DefD:=⟨("UnknownColumn",some "__init__"),"__init__","UnknownColumn.__init__",defArgs qaA,defBody qaA,defScope qaA,[],[]⟩
abbrev qaY:Stmt:=mth 9 0
def qb8:He.DefD:=⟨("BadNumber",some "__init__"),"__init__","BadNumber.__init__",defArgs qaY,defBody qaY,defScope qaY,[],[]⟩
abbrev qbM:Stmt:=mth 10 0
def qde:He.DefD:=⟨("Taken",some "__init__"),"__init__","Taken.__init__",defArgs qbM,defBody qbM,defScope qbM,[],[]⟩
abbrev qb2:Stmt:=mth 11 0
def qdH:He.DefD:=⟨("Used",some "__init__"),"__init__","Used.__init__",defArgs qb2,defBody qb2,defScope qb2,[],[]⟩
abbrev qa3:Stmt:=mth 13 0
def qci:He.DefD:=⟨("OwnOwner",some "__init__"),"__init__","OwnOwner.__init__",defArgs qa3,defBody qa3,defScope qa3,[],[]⟩
abbrev qbl:Stmt:=mth 15 0
def qcu:He.DefD:=⟨("NotOpen",some "__init__"),"__init__","NotOpen.__init__",defArgs qbl,defBody qbl,defScope qbl,[],[]⟩
abbrev qa4:Stmt:=mth 18 0
def qce:He.DefD:=⟨("BadPiece",some "__init__"),"__init__","BadPiece.__init__",defArgs qa4,defBody qa4,defScope qa4,[],[]⟩
abbrev qb1:Stmt:=mth 16 0
def qd1:He.DefD:=⟨("Busy",some "__init__"),"__init__","Busy.__init__",defArgs qb1,defBody qb1,defScope qb1,[],[]⟩
abbrev qbh:Stmt:=mth 19 0
def qcx:He.DefD:=⟨("BadList",some "__init__"),"__init__","BadList.__init__",defArgs qbh,defBody qbh,defScope qbh,[],[]⟩
abbrev qbJ:Stmt:=mth 20 0
def qdd:He.DefD:=⟨("NoFit",some "__init__"),"__init__","NoFit.__init__",defArgs qbJ,defBody qbJ,defScope qbJ,[],[]⟩
abbrev qbZ:Stmt:=mth 17 0
def qd3:He.DefD:=⟨("Idle",some "__init__"),"__init__","Idle.__init__",defArgs qbZ,defBody qbZ,defScope qbZ,[],[]⟩
abbrev qbm:Stmt:=mth 14 0
def qcy:He.DefD:=⟨("Refused",some "__init__"),"__init__","Refused.__init__",defArgs qbm,defBody qbm,defScope qbm,[],[]⟩
abbrev qbi:Stmt:=mth 2 0
def qcz:He.DefD:=⟨("BadName",some "__init__"),"__init__","BadName.__init__",defArgs qbi,defBody qbi,defScope qbi,[],[]⟩
abbrev qaZ:Stmt:=mth 3 0
def qb9:He.DefD:=⟨("NameInUse",some "__init__"),"__init__","NameInUse.__init__",defArgs qaZ,defBody qaZ,defScope qaZ,[],[]⟩
abbrev qbn:Stmt:=mth 6 0
def qcw:He.DefD:=⟨("BadRule",some "__init__"),"__init__","BadRule.__init__",defArgs qbn,defBody qbn,defScope qbn,[],[]⟩
abbrev qaD:Stmt:=mth 7 0
def qbF:He.DefD:=⟨("UnknownCheck",some "__init__"),"__init__","UnknownCheck.__init__",defArgs qaD,defBody qaD,defScope qaD,[],[]⟩
abbrev qaK:Stmt:=mth 21 0
def qbL:He.DefD:=⟨("BadQuestion",some "__init__"),"__init__","BadQuestion.__init__",defArgs qaK,defBody qaK,defScope qaK,[],[]⟩
abbrev qaR:Stmt:=mth 23 0
def qbU:He.DefD:=⟨("BadWeaving",some "__init__"),"__init__","BadWeaving.__init__",defArgs qaR,defBody qaR,defScope qaR,[],[]⟩
abbrev qbj:Stmt:=mth 26 0
def qcv:He.DefD:=⟨("BadLine",some "__init__"),"__init__","BadLine.__init__",defArgs qbj,defBody qbj,defScope qbj,[],[]⟩
def fnL:List He.DefD:=[qmx,qcd,qa9,qbe,qcC,qbQ,qbW,qcF,qcG,qbH,qdh,qbu,qb8,qde,qdH,qci,qcu,qce,qd1,qcx,qdd,qd3,qcy,qcz,qb9,qcw,qbF,qbL,qbU,qcv]
def fa0:List He.Fa:=[.free "len",.free "int",.free "str",.free "list",.free "tuple",.free "dict",.free "repr",.free "any",.free "all",.free "sorted",.free "max",.free "isinstance",.free "range",.free "bool",.free "set",.free "enumerate",.free "ValueError",.glo "_law_thing",.glo "_law_first_half",.glo "_law_other_half",.glo "_law_same",.glo "_law_classes",.glo "_law_fields",.glo "_law_draw",.glo "_law_pick",.glo "BadDeed",.glo "BadLine",.glo "BadList",.glo "BadName",.glo "BadNumber",.glo "BadPiece",.glo "BadQuestion",.glo "BadRule",.glo "BadWeaving",.glo "Busy",.glo "Idle",.glo "NameInUse",.glo "NoFit",.glo "NoRow",.glo "NotOpen"]
def fa1:List He.Fa:=[.glo "NothingToRedo",.glo "NothingToUndo",.glo "OwnOwner",.glo "Refused",.glo "StrikeError",.glo "Taken",.glo "UnknownCheck",.glo "UnknownColumn",.glo "UnknownKind",.glo "UnlikeBooks",.glo "Used",.glo "law"]
def faL:List He.Fa:=fa0++fa1
def qlo:List He.Tab:=[]
def exL (K:PySem.W.Frag):List Bool:=[qan K "UnknownKind" ["kind"],qan K "NoRow" ["kind","number"],qan K "UnknownColumn" ["column"],qan K "BadNumber" ["number"],qan K "Taken" ["kind","number"],qan K "Used" ["kind","number"],qan K "OwnOwner" ["column"],qan K "NotOpen" ["kind"],qan K "BadPiece" ["piece"],qan K "Busy" ["hand"],qan K "BadList" ["numbers"],qan K "NoFit" ["number"],qan K "Idle" ["hand"],qan K "Refused" ["check"],qan K "BadName" ["name"],qan K "NameInUse" ["name"],qan K "BadRule" ["rule"],qan K "UnknownCheck" ["check"],qan K "UnlikeBooks" [],qan K "BadQuestion" ["question"],qan K "BadDeed" [],qan K "BadWeaving" ["index"],qan K "NothingToUndo" [],qan K "NothingToRedo" [],qan K "BadLine" ["index"],isxB K "UnknownKind" [("BadDeed",false),("BadLine",false),("BadList",false),("BadName",false),("BadNumber",false),("BadPiece",false),("BadQuestion",false),("BadRule",false),("BadWeaving",false),("Busy",false),("Idle",false),("NameInUse",false),("NoFit",false),("NoRow",false),("NotOpen",false),("NothingToRedo",false),("NothingToUndo",false),("OwnOwner",false),("Refused",false),("StrikeError",true),("Taken",false),("UnknownCheck",false),("UnknownColumn",false),("UnknownKind",true),("UnlikeBooks",false),("Used",false)],isxB K "NoRow" [("BadDeed",false),("BadLine",false),("BadList",false),("BadName",false),("BadNumber",false),("BadPiece",false),("BadQuestion",false),("BadRule",false),("BadWeaving",false),("Busy",false),("Idle",false),("NameInUse",false),("NoFit",false),("NoRow",true),("NotOpen",false),("NothingToRedo",false),("NothingToUndo",false),("OwnOwner",false),("Refused",false),("StrikeError",true),("Taken",false),("UnknownCheck",false),("UnknownColumn",false),("UnknownKind",false),("UnlikeBooks",false),("Used",false)],isxB K "UnknownColumn" [("BadDeed",false),("BadLine",false),("BadList",false),("BadName",false),("BadNumber",false),("BadPiece",false),("BadQuestion",false),("BadRule",false),("BadWeaving",false),("Busy",false),("Idle",false),("NameInUse",false),("NoFit",false),("NoRow",false),("NotOpen",false),("NothingToRedo",false),("NothingToUndo",false),("OwnOwner",false),("Refused",false),("StrikeError",true),("Taken",false),("UnknownCheck",false),("UnknownColumn",true),("UnknownKind",false),("UnlikeBooks",false),("Used",false)],isxB K "BadNumber" [("BadDeed",false),("BadLine",false),("BadList",false),("BadName",false),("BadNumber",true),("BadPiece",false),("BadQuestion",false),("BadRule",false),("BadWeaving",false),("Busy",false),("Idle",false),("NameInUse",false),("NoFit",false),("NoRow",false),("NotOpen",false),("NothingToRedo",false),("NothingToUndo",false),("OwnOwner",false),("Refused",false),("StrikeError",true),("Taken",false),("UnknownCheck",false),("UnknownColumn",false),("UnknownKind",false),("UnlikeBooks",false),("Used",false)],isxB K "Taken" [("BadDeed",false),("BadLine",false),("BadList",false),("BadName",false),("BadNumber",false),("BadPiece",false),("BadQuestion",false),("BadRule",false),("BadWeaving",false),("Busy",false),("Idle",false),("NameInUse",false),("NoFit",false),("NoRow",false),("NotOpen",false),("NothingToRedo",false),("NothingToUndo",false),("OwnOwner",false),("Refused",false),("StrikeError",true),("Taken",true),("UnknownCheck",false),("UnknownColumn",false),("UnknownKind",false),("UnlikeBooks",false),("Used",false)],isxB K "Used" [("BadDeed",false),("BadLine",false),("BadList",false),("BadName",false),("BadNumber",false),("BadPiece",false),("BadQuestion",false),("BadRule",false),("BadWeaving",false),("Busy",false),("Idle",false),("NameInUse",false),("NoFit",false),("NoRow",false),("NotOpen",false),("NothingToRedo",false),("NothingToUndo",false),("OwnOwner",false),("Refused",false),("StrikeError",true),("Taken",false),("UnknownCheck",false),("UnknownColumn",false),("UnknownKind",false),("UnlikeBooks",false),("Used",true)],isxB K "OwnOwner" [("BadDeed",false),("BadLine",false),("BadList",false),("BadName",false),("BadNumber",false),("BadPiece",false),("BadQuestion",false),("BadRule",false),("BadWeaving",false),("Busy",false),("Idle",false),("NameInUse",false),("NoFit",false),("NoRow",false),("NotOpen",false),("NothingToRedo",false),("NothingToUndo",false),("OwnOwner",true),("Refused",false),("StrikeError",true),("Taken",false),("UnknownCheck",false),("UnknownColumn",false),("UnknownKind",false),("UnlikeBooks",false),("Used",false)],isxB K "NotOpen" [("BadDeed",false),("BadLine",false),("BadList",false),("BadName",false),("BadNumber",false),("BadPiece",false),("BadQuestion",false),("BadRule",false),("BadWeaving",false),("Busy",false),("Idle",false),("NameInUse",false),("NoFit",false),("NoRow",false),("NotOpen",true),("NothingToRedo",false),("NothingToUndo",false),("OwnOwner",false),("Refused",false),("StrikeError",true),("Taken",false),("UnknownCheck",false),("UnknownColumn",false),("UnknownKind",false),("UnlikeBooks",false),("Used",false)],isxB K "BadPiece" [("BadDeed",false),("BadLine",false),("BadList",false),("BadName",false),("BadNumber",false),("BadPiece",true),("BadQuestion",false),("BadRule",false),("BadWeaving",false),("Busy",false),("Idle",false),("NameInUse",false),("NoFit",false),("NoRow",false),("NotOpen",false),("NothingToRedo",false),("NothingToUndo",false),("OwnOwner",false),("Refused",false),("StrikeError",true),("Taken",false),("UnknownCheck",false),("UnknownColumn",false),("UnknownKind",false),("UnlikeBooks",false),("Used",false)],isxB K "Busy" [("BadDeed",false),("BadLine",false),("BadList",false),("BadName",false),("BadNumber",false),("BadPiece",false),("BadQuestion",false),("BadRule",false),("BadWeaving",false),("Busy",true),("Idle",false),("NameInUse",false),("NoFit",false),("NoRow",false),("NotOpen",false),("NothingToRedo",false),("NothingToUndo",false),("OwnOwner",false),("Refused",false),("StrikeError",true),("Taken",false),("UnknownCheck",false),("UnknownColumn",false),("UnknownKind",false),("UnlikeBooks",false),("Used",false)],isxB K "BadList" [("BadDeed",false),("BadLine",false),("BadList",true),("BadName",false),("BadNumber",false),("BadPiece",false),("BadQuestion",false),("BadRule",false),("BadWeaving",false),("Busy",false),("Idle",false),("NameInUse",false),("NoFit",false),("NoRow",false),("NotOpen",false),("NothingToRedo",false),("NothingToUndo",false),("OwnOwner",false),("Refused",false),("StrikeError",true),("Taken",false),("UnknownCheck",false),("UnknownColumn",false),("UnknownKind",false),("UnlikeBooks",false),("Used",false)],isxB K "NoFit" [("BadDeed",false),("BadLine",false),("BadList",false),("BadName",false),("BadNumber",false),("BadPiece",false),("BadQuestion",false),("BadRule",false),("BadWeaving",false),("Busy",false),("Idle",false),("NameInUse",false),("NoFit",true),("NoRow",false),("NotOpen",false),("NothingToRedo",false),("NothingToUndo",false),("OwnOwner",false),("Refused",false),("StrikeError",true),("Taken",false),("UnknownCheck",false),("UnknownColumn",false),("UnknownKind",false),("UnlikeBooks",false),("Used",false)],isxB K "Idle" [("BadDeed",false),("BadLine",false),("BadList",false),("BadName",false),("BadNumber",false),("BadPiece",false),("BadQuestion",false),("BadRule",false),("BadWeaving",false),("Busy",false),("Idle",true),("NameInUse",false),("NoFit",false),("NoRow",false),("NotOpen",false),("NothingToRedo",false),("NothingToUndo",false),("OwnOwner",false),("Refused",false),("StrikeError",true),("Taken",false),("UnknownCheck",false),("UnknownColumn",false),("UnknownKind",false),("UnlikeBooks",false),("Used",false)],isxB K "Refused" [("BadDeed",false),("BadLine",false),("BadList",false),("BadName",false),("BadNumber",false),("BadPiece",false),("BadQuestion",false),("BadRule",false),("BadWeaving",false),("Busy",false),("Idle",false),("NameInUse",false),("NoFit",false),("NoRow",false),("NotOpen",false),("NothingToRedo",false),("NothingToUndo",false),("OwnOwner",false),("Refused",true),("StrikeError",true),("Taken",false),("UnknownCheck",false),("UnknownColumn",false),("UnknownKind",false),("UnlikeBooks",false),("Used",false)],isxB K "BadName" [("BadDeed",false),("BadLine",false),("BadList",false),("BadName",true),("BadNumber",false),("BadPiece",false),("BadQuestion",false),("BadRule",false),("BadWeaving",false),("Busy",false),("Idle",false),("NameInUse",false),("NoFit",false),("NoRow",false),("NotOpen",false),("NothingToRedo",false),("NothingToUndo",false),("OwnOwner",false),("Refused",false),("StrikeError",true),("Taken",false),("UnknownCheck",false),("UnknownColumn",false),("UnknownKind",false),("UnlikeBooks",false),("Used",false)],isxB K "NameInUse" [("BadDeed",false),("BadLine",false),("BadList",false),("BadName",false),("BadNumber",false),("BadPiece",false),("BadQuestion",false),("BadRule",false),("BadWeaving",false),("Busy",false),("Idle",false),("NameInUse",true),("NoFit",false),("NoRow",false),("NotOpen",false),("NothingToRedo",false),("NothingToUndo",false),("OwnOwner",false),("Refused",false),("StrikeError",true),("Taken",false),("UnknownCheck",false),("UnknownColumn",false),("UnknownKind",false),("UnlikeBooks",false),("Used",false)],isxB K "BadRule" [("BadDeed",false),("BadLine",false),("BadList",false),("BadName",false),("BadNumber",false),("BadPiece",false),("BadQuestion",false),("BadRule",true),("BadWeaving",false),("Busy",false),("Idle",false),("NameInUse",false),("NoFit",false),("NoRow",false),("NotOpen",false),("NothingToRedo",false),("NothingToUndo",false),("OwnOwner",false),("Refused",false),("StrikeError",true),("Taken",false),("UnknownCheck",false),("UnknownColumn",false),("UnknownKind",false),("UnlikeBooks",false),("Used",false)],isxB K "UnknownCheck" [("BadDeed",false),("BadLine",false),("BadList",false),("BadName",false),("BadNumber",false),("BadPiece",false),("BadQuestion",false),("BadRule",false),("BadWeaving",false),("Busy",false),("Idle",false),("NameInUse",false),("NoFit",false),("NoRow",false),("NotOpen",false),("NothingToRedo",false),("NothingToUndo",false),("OwnOwner",false),("Refused",false),("StrikeError",true),("Taken",false),("UnknownCheck",true),("UnknownColumn",false),("UnknownKind",false),("UnlikeBooks",false),("Used",false)],isxB K "UnlikeBooks" [("BadDeed",false),("BadLine",false),("BadList",false),("BadName",false),("BadNumber",false),("BadPiece",false),("BadQuestion",false),("BadRule",false),("BadWeaving",false),("Busy",false),("Idle",false),("NameInUse",false),("NoFit",false),("NoRow",false),("NotOpen",false),("NothingToRedo",false),("NothingToUndo",false),("OwnOwner",false),("Refused",false),("StrikeError",true),("Taken",false),("UnknownCheck",false),("UnknownColumn",false),("UnknownKind",false),("UnlikeBooks",true),("Used",false)],isxB K "BadQuestion" [("BadDeed",false),("BadLine",false),("BadList",false),("BadName",false),("BadNumber",false),("BadPiece",false),("BadQuestion",true),("BadRule",false),("BadWeaving",false),("Busy",false),("Idle",false),("NameInUse",false),("NoFit",false),("NoRow",false),("NotOpen",false),("NothingToRedo",false),("NothingToUndo",false),("OwnOwner",false),("Refused",false),("StrikeError",true),("Taken",false),("UnknownCheck",false),("UnknownColumn",false),("UnknownKind",false),("UnlikeBooks",false),("Used",false)],isxB K "BadDeed" [("BadDeed",true),("BadLine",false),("BadList",false),("BadName",false),("BadNumber",false),("BadPiece",false),("BadQuestion",false),("BadRule",false),("BadWeaving",false),("Busy",false),("Idle",false),("NameInUse",false),("NoFit",false),("NoRow",false),("NotOpen",false),("NothingToRedo",false),("NothingToUndo",false),("OwnOwner",false),("Refused",false),("StrikeError",true),("Taken",false),("UnknownCheck",false),("UnknownColumn",false),("UnknownKind",false),("UnlikeBooks",false),("Used",false)],isxB K "BadWeaving" [("BadDeed",false),("BadLine",false),("BadList",false),("BadName",false),("BadNumber",false),("BadPiece",false),("BadQuestion",false),("BadRule",false),("BadWeaving",true),("Busy",false),("Idle",false),("NameInUse",false),("NoFit",false),("NoRow",false),("NotOpen",false),("NothingToRedo",false),("NothingToUndo",false),("OwnOwner",false),("Refused",false),("StrikeError",true),("Taken",false),("UnknownCheck",false),("UnknownColumn",false),("UnknownKind",false),("UnlikeBooks",false),("Used",false)],isxB K "NothingToUndo" [("BadDeed",false),("BadLine",false),("BadList",false),("BadName",false),("BadNumber",false),("BadPiece",false),("BadQuestion",false),("BadRule",false),("BadWeaving",false),("Busy",false),("Idle",false),("NameInUse",false),("NoFit",false),("NoRow",false),("NotOpen",false),("NothingToRedo",false),("NothingToUndo",true),("OwnOwner",false),("Refused",false),("StrikeError",true),("Taken",false),("UnknownCheck",false),("UnknownColumn",false),("UnknownKind",false),("UnlikeBooks",false),("Used",false)],isxB K "NothingToRedo" [("BadDeed",false),("BadLine",false),("BadList",false),("BadName",false),("BadNumber",false),("BadPiece",false),("BadQuestion",false),("BadRule",false),("BadWeaving",false),("Busy",false),("Idle",false),("NameInUse",false),("NoFit",false),("NoRow",false),("NotOpen",false),("NothingToRedo",true),("NothingToUndo",false),("OwnOwner",false),("Refused",false),("StrikeError",true),("Taken",false),("UnknownCheck",false),("UnknownColumn",false),("UnknownKind",false),("UnlikeBooks",false),("Used",false)],isxB K "BadLine" [("BadDeed",false),("BadLine",true),("BadList",false),("BadName",false),("BadNumber",false),("BadPiece",false),("BadQuestion",false),("BadRule",false),("BadWeaving",false),("Busy",false),("Idle",false),("NameInUse",false),("NoFit",false),("NoRow",false),("NotOpen",false),("NothingToRedo",false),("NothingToUndo",false),("OwnOwner",false),("Refused",false),("StrikeError",true),("Taken",false),("UnknownCheck",false),("UnknownColumn",false),("UnknownKind",false),("UnlikeBooks",false),("Used",false)]]
def exB (K:PySem.W.Frag):Bool:=(exL K).all id
theorem ex_0 {K:PySem.W.Frag} (he:exB K=true):qan K "UnknownKind" ["kind"]=true:=List.all_eq_true.mp he _ (List.mem_of_getElem? (i:=0) rfl)
theorem ex_1 {K:PySem.W.Frag} (he:exB K=true):qan K "NoRow" ["kind","number"]=true:=List.all_eq_true.mp he _ (List.mem_of_getElem? (i:=1) rfl)
theorem ex_2 {K:PySem.W.Frag} (he:exB K=true):qan K "UnknownColumn" ["column"]=true:=List.all_eq_true.mp he _ (List.mem_of_getElem? (i:=2) rfl)
theorem ex_3 {K:PySem.W.Frag} (he:exB K=true):qan K "BadNumber" ["number"]=true:=List.all_eq_true.mp he _ (List.mem_of_getElem? (i:=3) rfl)
theorem ex_4 {K:PySem.W.Frag} (he:exB K=true):qan K "Taken" ["kind","number"]=true:=List.all_eq_true.mp he _ (List.mem_of_getElem? (i:=4) rfl)
theorem ex_5 {K:PySem.W.Frag} (he:exB K=true):qan K "Used" ["kind","number"]=true:=List.all_eq_true.mp he _ (List.mem_of_getElem? (i:=5) rfl)
theorem ex_6 {K:PySem.W.Frag} (he:exB K=true):qan K "OwnOwner" ["column"]=true:=List.all_eq_true.mp he _ (List.mem_of_getElem? (i:=6) rfl)
theorem ex_7 {K:PySem.W.Frag} (he:exB K=true):qan K "NotOpen" ["kind"]=true:=List.all_eq_true.mp he _ (List.mem_of_getElem? (i:=7) rfl)
theorem ex_8 {K:PySem.W.Frag} (he:exB K=true):qan K "BadPiece" ["piece"]=true:=List.all_eq_true.mp he _ (List.mem_of_getElem? (i:=8) rfl)
theorem ex_9 {K:PySem.W.Frag} (he:exB K=true):qan K "Busy" ["hand"]=true:=List.all_eq_true.mp he _ (List.mem_of_getElem? (i:=9) rfl)
theorem qmb {K:PySem.W.Frag} (he:exB K=true):qan K "BadList" ["numbers"]=true:=List.all_eq_true.mp he _ (List.mem_of_getElem? (i:=10) rfl)
theorem qme {K:PySem.W.Frag} (he:exB K=true):qan K "NoFit" ["number"]=true:=List.all_eq_true.mp he _ (List.mem_of_getElem? (i:=11) rfl)
theorem ql4 {K:PySem.W.Frag} (he:exB K=true):qan K "Idle" ["hand"]=true:=List.all_eq_true.mp he _ (List.mem_of_getElem? (i:=12) rfl)
theorem qlI {K:PySem.W.Frag} (he:exB K=true):qan K "Refused" ["check"]=true:=List.all_eq_true.mp he _ (List.mem_of_getElem? (i:=13) rfl)
theorem qma {K:PySem.W.Frag} (he:exB K=true):qan K "BadName" ["name"]=true:=List.all_eq_true.mp he _ (List.mem_of_getElem? (i:=14) rfl)
theorem ql2 {K:PySem.W.Frag} (he:exB K=true):qan K "NameInUse" ["name"]=true:=List.all_eq_true.mp he _ (List.mem_of_getElem? (i:=15) rfl)
theorem qkJ {K:PySem.W.Frag} (he:exB K=true):qan K "BadRule" ["rule"]=true:=List.all_eq_true.mp he _ (List.mem_of_getElem? (i:=16) rfl)
theorem ql0 {K:PySem.W.Frag} (he:exB K=true):qan K "UnknownCheck" ["check"]=true:=List.all_eq_true.mp he _ (List.mem_of_getElem? (i:=17) rfl)
theorem qoI {K:PySem.W.Frag} (he:exB K=true):qan K "UnlikeBooks" []=true:=List.all_eq_true.mp he _ (List.mem_of_getElem? (i:=18) rfl)
theorem qlw {K:PySem.W.Frag} (he:exB K=true):qan K "BadQuestion" ["question"]=true:=List.all_eq_true.mp he _ (List.mem_of_getElem? (i:=19) rfl)
theorem qpM {K:PySem.W.Frag} (he:exB K=true):qan K "BadDeed" []=true:=List.all_eq_true.mp he _ (List.mem_of_getElem? (i:=20) rfl)
theorem qlW {K:PySem.W.Frag} (he:exB K=true):qan K "BadWeaving" ["index"]=true:=List.all_eq_true.mp he _ (List.mem_of_getElem? (i:=21) rfl)
theorem qp2 {K:PySem.W.Frag} (he:exB K=true):qan K "NothingToUndo" []=true:=List.all_eq_true.mp he _ (List.mem_of_getElem? (i:=22) rfl)
theorem qpb {K:PySem.W.Frag} (he:exB K=true):qan K "NothingToRedo" []=true:=List.all_eq_true.mp he _ (List.mem_of_getElem? (i:=23) rfl)
theorem qku {K:PySem.W.Frag} (he:exB K=true):qan K "BadLine" ["index"]=true:=List.all_eq_true.mp he _ (List.mem_of_getElem? (i:=24) rfl)
theorem qoS {K:PySem.W.Frag} (he:exB K=true):isxB K "UnknownKind" [("BadDeed",false),("BadLine",false),("BadList",false),("BadName",false),("BadNumber",false),("BadPiece",false),("BadQuestion",false),("BadRule",false),("BadWeaving",false),("Busy",false),("Idle",false),("NameInUse",false),("NoFit",false),("NoRow",false),("NotOpen",false),("NothingToRedo",false),("NothingToUndo",false),("OwnOwner",false),("Refused",false),("StrikeError",true),("Taken",false),("UnknownCheck",false),("UnknownColumn",false),("UnknownKind",true),("UnlikeBooks",false),("Used",false)]=true:=List.all_eq_true.mp he _ (List.mem_of_getElem? (i:=25) rfl)
theorem qpS {K:PySem.W.Frag} (he:exB K=true):isxB K "NoRow" [("BadDeed",false),("BadLine",false),("BadList",false),("BadName",false),("BadNumber",false),("BadPiece",false),("BadQuestion",false),("BadRule",false),("BadWeaving",false),("Busy",false),("Idle",false),("NameInUse",false),("NoFit",false),("NoRow",true),("NotOpen",false),("NothingToRedo",false),("NothingToUndo",false),("OwnOwner",false),("Refused",false),("StrikeError",true),("Taken",false),("UnknownCheck",false),("UnknownColumn",false),("UnknownKind",false),("UnlikeBooks",false),("Used",false)]=true:=List.all_eq_true.mp he _ (List.mem_of_getElem? (i:=26) rfl)
theorem qp8 {K:PySem.W.Frag} (he:exB K=true):isxB K "UnknownColumn" [("BadDeed",false),("BadLine",false),("BadList",false),("BadName",false),("BadNumber",false),("BadPiece",false),("BadQuestion",false),("BadRule",false),("BadWeaving",false),("Busy",false),("Idle",false),("NameInUse",false),("NoFit",false),("NoRow",false),("NotOpen",false),("NothingToRedo",false),("NothingToUndo",false),("OwnOwner",false),("Refused",false),("StrikeError",true),("Taken",false),("UnknownCheck",false),("UnknownColumn",true),("UnknownKind",false),("UnlikeBooks",false),("Used",false)]=true:=List.all_eq_true.mp he _ (List.mem_of_getElem? (i:=27) rfl)
theorem qqc {K:PySem.W.Frag} (he:exB K=true):isxB K "BadNumber" [("BadDeed",false),("BadLine",false),("BadList",false),("BadName",false),("BadNumber",true),("BadPiece",false),("BadQuestion",false),("BadRule",false),("BadWeaving",false),("Busy",false),("Idle",false),("NameInUse",false),("NoFit",false),("NoRow",false),("NotOpen",false),("NothingToRedo",false),("NothingToUndo",false),("OwnOwner",false),("Refused",false),("StrikeError",true),("Taken",false),("UnknownCheck",false),("UnknownColumn",false),("UnknownKind",false),("UnlikeBooks",false),("Used",false)]=true:=List.all_eq_true.mp he _ (List.mem_of_getElem? (i:=28) rfl)
theorem qo1 {K:PySem.W.Frag} (he:exB K=true):isxB K "Taken" [("BadDeed",false),("BadLine",false),("BadList",false),("BadName",false),("BadNumber",false),("BadPiece",false),("BadQuestion",false),("BadRule",false),("BadWeaving",false),("Busy",false),("Idle",false),("NameInUse",false),("NoFit",false),("NoRow",false),("NotOpen",false),("NothingToRedo",false),("NothingToUndo",false),("OwnOwner",false),("Refused",false),("StrikeError",true),("Taken",true),("UnknownCheck",false),("UnknownColumn",false),("UnknownKind",false),("UnlikeBooks",false),("Used",false)]=true:=List.all_eq_true.mp he _ (List.mem_of_getElem? (i:=29) rfl)
theorem qqM {K:PySem.W.Frag} (he:exB K=true):isxB K "Used" [("BadDeed",false),("BadLine",false),("BadList",false),("BadName",false),("BadNumber",false),("BadPiece",false),("BadQuestion",false),("BadRule",false),("BadWeaving",false),("Busy",false),("Idle",false),("NameInUse",false),("NoFit",false),("NoRow",false),("NotOpen",false),("NothingToRedo",false),("NothingToUndo",false),("OwnOwner",false),("Refused",false),("StrikeError",true),("Taken",false),("UnknownCheck",false),("UnknownColumn",false),("UnknownKind",false),("UnlikeBooks",false),("Used",true)]=true:=List.all_eq_true.mp he _ (List.mem_of_getElem? (i:=30) rfl)
theorem qom {K:PySem.W.Frag} (he:exB K=true):isxB K "OwnOwner" [("BadDeed",false),("BadLine",false),("BadList",false),("BadName",false),("BadNumber",false),("BadPiece",false),("BadQuestion",false),("BadRule",false),("BadWeaving",false),("Busy",false),("Idle",false),("NameInUse",false),("NoFit",false),("NoRow",false),("NotOpen",false),("NothingToRedo",false),("NothingToUndo",false),("OwnOwner",true),("Refused",false),("StrikeError",true),("Taken",false),("UnknownCheck",false),("UnknownColumn",false),("UnknownKind",false),("UnlikeBooks",false),("Used",false)]=true:=List.all_eq_true.mp he _ (List.mem_of_getElem? (i:=31) rfl)
theorem qqu {K:PySem.W.Frag} (he:exB K=true):isxB K "NotOpen" [("BadDeed",false),("BadLine",false),("BadList",false),("BadName",false),("BadNumber",false),("BadPiece",false),("BadQuestion",false),("BadRule",false),("BadWeaving",false),("Busy",false),("Idle",false),("NameInUse",false),("NoFit",false),("NoRow",false),("NotOpen",true),("NothingToRedo",false),("NothingToUndo",false),("OwnOwner",false),("Refused",false),("StrikeError",true),("Taken",false),("UnknownCheck",false),("UnknownColumn",false),("UnknownKind",false),("UnlikeBooks",false),("Used",false)]=true:=List.all_eq_true.mp he _ (List.mem_of_getElem? (i:=32) rfl)
theorem qor {K:PySem.W.Frag} (he:exB K=true):isxB K "BadPiece" [("BadDeed",false),("BadLine",false),("BadList",false),("BadName",false),("BadNumber",false),("BadPiece",true),("BadQuestion",false),("BadRule",false),("BadWeaving",false),("Busy",false),("Idle",false),("NameInUse",false),("NoFit",false),("NoRow",false),("NotOpen",false),("NothingToRedo",false),("NothingToUndo",false),("OwnOwner",false),("Refused",false),("StrikeError",true),("Taken",false),("UnknownCheck",false),("UnknownColumn",false),("UnknownKind",false),("UnlikeBooks",false),("Used",false)]=true:=List.all_eq_true.mp he _ (List.mem_of_getElem? (i:=33) rfl)
theorem qp4 {K:PySem.W.Frag} (he:exB K=true):isxB K "Busy" [("BadDeed",false),("BadLine",false),("BadList",false),("BadName",false),("BadNumber",false),("BadPiece",false),("BadQuestion",false),("BadRule",false),("BadWeaving",false),("Busy",true),("Idle",false),("NameInUse",false),("NoFit",false),("NoRow",false),("NotOpen",false),("NothingToRedo",false),("NothingToUndo",false),("OwnOwner",false),("Refused",false),("StrikeError",true),("Taken",false),("UnknownCheck",false),("UnknownColumn",false),("UnknownKind",false),("UnlikeBooks",false),("Used",false)]=true:=List.all_eq_true.mp he _ (List.mem_of_getElem? (i:=34) rfl)
theorem qoG {K:PySem.W.Frag} (he:exB K=true):isxB K "BadList" [("BadDeed",false),("BadLine",false),("BadList",true),("BadName",false),("BadNumber",false),("BadPiece",false),("BadQuestion",false),("BadRule",false),("BadWeaving",false),("Busy",false),("Idle",false),("NameInUse",false),("NoFit",false),("NoRow",false),("NotOpen",false),("NothingToRedo",false),("NothingToUndo",false),("OwnOwner",false),("Refused",false),("StrikeError",true),("Taken",false),("UnknownCheck",false),("UnknownColumn",false),("UnknownKind",false),("UnlikeBooks",false),("Used",false)]=true:=List.all_eq_true.mp he _ (List.mem_of_getElem? (i:=35) rfl)
theorem qp6 {K:PySem.W.Frag} (he:exB K=true):isxB K "NoFit" [("BadDeed",false),("BadLine",false),("BadList",false),("BadName",false),("BadNumber",false),("BadPiece",false),("BadQuestion",false),("BadRule",false),("BadWeaving",false),("Busy",false),("Idle",false),("NameInUse",false),("NoFit",true),("NoRow",false),("NotOpen",false),("NothingToRedo",false),("NothingToUndo",false),("OwnOwner",false),("Refused",false),("StrikeError",true),("Taken",false),("UnknownCheck",false),("UnknownColumn",false),("UnknownKind",false),("UnlikeBooks",false),("Used",false)]=true:=List.all_eq_true.mp he _ (List.mem_of_getElem? (i:=36) rfl)
theorem qpj {K:PySem.W.Frag} (he:exB K=true):isxB K "Idle" [("BadDeed",false),("BadLine",false),("BadList",false),("BadName",false),("BadNumber",false),("BadPiece",false),("BadQuestion",false),("BadRule",false),("BadWeaving",false),("Busy",false),("Idle",true),("NameInUse",false),("NoFit",false),("NoRow",false),("NotOpen",false),("NothingToRedo",false),("NothingToUndo",false),("OwnOwner",false),("Refused",false),("StrikeError",true),("Taken",false),("UnknownCheck",false),("UnknownColumn",false),("UnknownKind",false),("UnlikeBooks",false),("Used",false)]=true:=List.all_eq_true.mp he _ (List.mem_of_getElem? (i:=37) rfl)
theorem qpE {K:PySem.W.Frag} (he:exB K=true):isxB K "Refused" [("BadDeed",false),("BadLine",false),("BadList",false),("BadName",false),("BadNumber",false),("BadPiece",false),("BadQuestion",false),("BadRule",false),("BadWeaving",false),("Busy",false),("Idle",false),("NameInUse",false),("NoFit",false),("NoRow",false),("NotOpen",false),("NothingToRedo",false),("NothingToUndo",false),("OwnOwner",false),("Refused",true),("StrikeError",true),("Taken",false),("UnknownCheck",false),("UnknownColumn",false),("UnknownKind",false),("UnlikeBooks",false),("Used",false)]=true:=List.all_eq_true.mp he _ (List.mem_of_getElem? (i:=38) rfl)
theorem qqG {K:PySem.W.Frag} (he:exB K=true):isxB K "BadName" [("BadDeed",false),("BadLine",false),("BadList",false),("BadName",true),("BadNumber",false),("BadPiece",false),("BadQuestion",false),("BadRule",false),("BadWeaving",false),("Busy",false),("Idle",false),("NameInUse",false),("NoFit",false),("NoRow",false),("NotOpen",false),("NothingToRedo",false),("NothingToUndo",false),("OwnOwner",false),("Refused",false),("StrikeError",true),("Taken",false),("UnknownCheck",false),("UnknownColumn",false),("UnknownKind",false),("UnlikeBooks",false),("Used",false)]=true:=List.all_eq_true.mp he _ (List.mem_of_getElem? (i:=39) rfl)
theorem qpG {K:PySem.W.Frag} (he:exB K=true):isxB K "NameInUse" [("BadDeed",false),("BadLine",false),("BadList",false),("BadName",false),("BadNumber",false),("BadPiece",false),("BadQuestion",false),("BadRule",false),("BadWeaving",false),("Busy",false),("Idle",false),("NameInUse",true),("NoFit",false),("NoRow",false),("NotOpen",false),("NothingToRedo",false),("NothingToUndo",false),("OwnOwner",false),("Refused",false),("StrikeError",true),("Taken",false),("UnknownCheck",false),("UnknownColumn",false),("UnknownKind",false),("UnlikeBooks",false),("Used",false)]=true:=List.all_eq_true.mp he _ (List.mem_of_getElem? (i:=40) rfl)
theorem qpo {K:PySem.W.Frag} (he:exB K=true):isxB K "BadRule" [("BadDeed",false),("BadLine",false),("BadList",false),("BadName",false),("BadNumber",false),("BadPiece",false),("BadQuestion",false),("BadRule",true),("BadWeaving",false),("Busy",false),("Idle",false),("NameInUse",false),("NoFit",false),("NoRow",false),("NotOpen",false),("NothingToRedo",false),("NothingToUndo",false),("OwnOwner",false),("Refused",false),("StrikeError",true),("Taken",false),("UnknownCheck",false),("UnknownColumn",false),("UnknownKind",false),("UnlikeBooks",false),("Used",false)]=true:=List.all_eq_true.mp he _ (List.mem_of_getElem? (i:=41) rfl)
theorem qot {K:PySem.W.Frag} (he:exB K=true):isxB K "UnknownCheck" [("BadDeed",false),("BadLine",false),("BadList",false),("BadName",false),("BadNumber",false),("BadPiece",false),("BadQuestion",false),("BadRule",false),("BadWeaving",false),("Busy",false),("Idle",false),("NameInUse",false),("NoFit",false),("NoRow",false),("NotOpen",false),("NothingToRedo",false),("NothingToUndo",false),("OwnOwner",false),("Refused",false),("StrikeError",true),("Taken",false),("UnknownCheck",true),("UnknownColumn",false),("UnknownKind",false),("UnlikeBooks",false),("Used",false)]=true:=List.all_eq_true.mp he _ (List.mem_of_getElem? (i:=42) rfl)
theorem qoY {K:PySem.W.Frag} (he:exB K=true):isxB K "UnlikeBooks" [("BadDeed",false),("BadLine",false),("BadList",false),("BadName",false),("BadNumber",false),("BadPiece",false),("BadQuestion",false),("BadRule",false),("BadWeaving",false),("Busy",false),("Idle",false),("NameInUse",false),("NoFit",false),("NoRow",false),("NotOpen",false),("NothingToRedo",false),("NothingToUndo",false),("OwnOwner",false),("Refused",false),("StrikeError",true),("Taken",false),("UnknownCheck",false),("UnknownColumn",false),("UnknownKind",false),("UnlikeBooks",true),("Used",false)]=true:=List.all_eq_true.mp he _ (List.mem_of_getElem? (i:=43) rfl)
theorem qqj {K:PySem.W.Frag} (he:exB K=true):isxB K "BadQuestion" [("BadDeed",false),("BadLine",false),("BadList",false),("BadName",false),("BadNumber",false),("BadPiece",false),("BadQuestion",true),("BadRule",false),("BadWeaving",false),("Busy",false),("Idle",false),("NameInUse",false),("NoFit",false),("NoRow",false),("NotOpen",false),("NothingToRedo",false),("NothingToUndo",false),("OwnOwner",false),("Refused",false),("StrikeError",true),("Taken",false),("UnknownCheck",false),("UnknownColumn",false),("UnknownKind",false),("UnlikeBooks",false),("Used",false)]=true:=List.all_eq_true.mp he _ (List.mem_of_getElem? (i:=44) rfl)
theorem qpw {K:PySem.W.Frag} (he:exB K=true):isxB K "BadDeed" [("BadDeed",true),("BadLine",false),("BadList",false),("BadName",false),("BadNumber",false),("BadPiece",false),("BadQuestion",false),("BadRule",false),("BadWeaving",false),("Busy",false),("Idle",false),("NameInUse",false),("NoFit",false),("NoRow",false),("NotOpen",false),("NothingToRedo",false),("NothingToUndo",false),("OwnOwner",false),("Refused",false),("StrikeError",true),("Taken",false),("UnknownCheck",false),("UnknownColumn",false),("UnknownKind",false),("UnlikeBooks",false),("Used",false)]=true:=List.all_eq_true.mp he _ (List.mem_of_getElem? (i:=45) rfl)
theorem qpm {K:PySem.W.Frag} (he:exB K=true):isxB K "BadWeaving" [("BadDeed",false),("BadLine",false),("BadList",false),("BadName",false),("BadNumber",false),("BadPiece",false),("BadQuestion",false),("BadRule",false),("BadWeaving",true),("Busy",false),("Idle",false),("NameInUse",false),("NoFit",false),("NoRow",false),("NotOpen",false),("NothingToRedo",false),("NothingToUndo",false),("OwnOwner",false),("Refused",false),("StrikeError",true),("Taken",false),("UnknownCheck",false),("UnknownColumn",false),("UnknownKind",false),("UnlikeBooks",false),("Used",false)]=true:=List.all_eq_true.mp he _ (List.mem_of_getElem? (i:=46) rfl)
theorem qoK {K:PySem.W.Frag} (he:exB K=true):isxB K "NothingToUndo" [("BadDeed",false),("BadLine",false),("BadList",false),("BadName",false),("BadNumber",false),("BadPiece",false),("BadQuestion",false),("BadRule",false),("BadWeaving",false),("Busy",false),("Idle",false),("NameInUse",false),("NoFit",false),("NoRow",false),("NotOpen",false),("NothingToRedo",false),("NothingToUndo",true),("OwnOwner",false),("Refused",false),("StrikeError",true),("Taken",false),("UnknownCheck",false),("UnknownColumn",false),("UnknownKind",false),("UnlikeBooks",false),("Used",false)]=true:=List.all_eq_true.mp he _ (List.mem_of_getElem? (i:=47) rfl)
theorem qon {K:PySem.W.Frag} (he:exB K=true):isxB K "NothingToRedo" [("BadDeed",false),("BadLine",false),("BadList",false),("BadName",false),("BadNumber",false),("BadPiece",false),("BadQuestion",false),("BadRule",false),("BadWeaving",false),("Busy",false),("Idle",false),("NameInUse",false),("NoFit",false),("NoRow",false),("NotOpen",false),("NothingToRedo",true),("NothingToUndo",false),("OwnOwner",false),("Refused",false),("StrikeError",true),("Taken",false),("UnknownCheck",false),("UnknownColumn",false),("UnknownKind",false),("UnlikeBooks",false),("Used",false)]=true:=List.all_eq_true.mp he _ (List.mem_of_getElem? (i:=48) rfl)
theorem qoD {K:PySem.W.Frag} (he:exB K=true):isxB K "BadLine" [("BadDeed",false),("BadLine",true),("BadList",false),("BadName",false),("BadNumber",false),("BadPiece",false),("BadQuestion",false),("BadRule",false),("BadWeaving",false),("Busy",false),("Idle",false),("NameInUse",false),("NoFit",false),("NoRow",false),("NotOpen",false),("NothingToRedo",false),("NothingToUndo",false),("OwnOwner",false),("Refused",false),("StrikeError",true),("Taken",false),("UnknownCheck",false),("UnknownColumn",false),("UnknownKind",false),("UnlikeBooks",false),("Used",false)]=true:=List.all_eq_true.mp he _ (List.mem_of_getElem? (i:=49) rfl)
abbrev R0 : PySem.W.OpenRow := PySem.W.OpenLaw.row PySem.Challenge.rw_longstrike_k01_errors_made
abbrev hk:PySem.W.Hook:=qnJ faL fnL qlo exB
def ob (s:PySem.W.SharedT):He.AlX:=obsY faL fnL qlo exB (HandSHeadRun.getT s)
theorem ob_eq (s:PySem.W.SharedT):ob s=hk.obs s.abs:=ql7 (HandSHeadRun.getT_eq s)
def qmk:List PySem.Str:=["StrikeError","BadName","NameInUse","UnknownKind","UnknownColumn","BadRule","UnknownCheck","UnlikeBooks","BadNumber","Taken","Used","NoRow","OwnOwner","Refused","NotOpen","Busy","Idle","BadPiece","BadList","NoFit","BadQuestion","BadDeed","BadWeaving","NothingToUndo","NothingToRedo","BadLine","_law_draw","_law_pick","_law_same","_law_fields"]
def qmI:List PySem.Str:=["_law_first_half","_law_other_half","_law_classes","_law_thing"]
def names:List PySem.Str:=qmk++qmI
theorem run (w:World):HandSHeadRun.RunEq R0 (PySem.W.view R0.prog [36]) hk ob 12000 names w:=by
 intro os
 kernel_rfl
end LS
set_option maxHeartbeats 1000000
namespace LS
open PySem PySem.Calls PyProof.Rows PySem.W
section
variable {prog:Program} {w:World} {A:Around} {E:Value→Shared→Prop} {s:Shared} {K:Frag} {x C L f:Addr} {h₀:Heap} {m:Str→Option Value} {ox:Obj} {od:Option Obj} {name:Str} {b tb:Value}
end
end LS
namespace LS
open PySem L2
inductive P where
 | non | bl (b:Bool) | int (i:Int) | str (s:Str)
 | lst (xs:List P) | tup (xs:List P)
 | dct (kvs:List (Key × P))
 | obj (c:Str) (fs:List (Str × P))
 | scr (ns:List Int)
 | exc (c:Str) (fs:List (Str × P))
 | tpp (xs:List P)
 | tpk (ks:List Key)
inductive W where
 | v (p:P) | c (n:Nat)
inductive Cell where
 | lst (xs:List W) | dct (kvs:List (Key × W)) | ins (c:Str) (fs:List (Str × W)) | tup (xs:List W) | dead
 | lkd (kvs:List (Key × W)) | dtt (kvs:List (List Key × W)) | lkt (kvs:List (List Key × W))
abbrev qaa:=List Cell
abbrev Env:=List (Option W)
inductive R (α:Type) where
 | ok (a:α) | ex (c:Str) (fs:List (Str × P)) (S:qaa) | no
def R.bind {α β:Type} (m:R α) (f:α→R β):R β:=match m with
 | .ok a=>f a
 | .ex c fs S=>.ex c fs S
 | .no=>.no
instance:Monad R where
 pure:=R.ok
 bind:=R.bind
def R.noEx {α:Type} (m:R α):R α:=match m with
 | .ok a=>.ok a
 | .ex _ _ _=>.no
 | .no=>.no
def R.of {α:Type}:Option α→R α
 | some a=>.ok a
 | none=>.no
inductive BO where | add | sub | mul | fdiv | mod | pow
inductive CO where | eq | ne | lt | le | gt | ge | isN | notN | in_ | nin
inductive Tg where | name (i:Nat) | tup (is:List Nat)
inductive QO where | or_ | and_ | add | sub
inductive BF where | len | int | str | list | tuple | dict | repr | any | all | isStr | isInt | isBool | isRow | isLT | max2 | sorted
inductive BM where | append | extend | pop0 | popAt | insert | split | join | get | get2 | items | splitC | popK
inductive PF where | isInt | isBool | isRow | intB | tuple | lenSet | tupZ | lenSetK
inductive E where
 | var (i:Nat)
 | lit (p:P)
 | glo (x:Str)
 | bin (o:BO) (a b:E)
 | cmp (o:CO) (a b:E)
 | chn (o o':CO) (a b c:E)
 | and (a b:E) | or (a b:E) | not (a:E) | ite (t a b:E)
 | nil | cons (a l:E) | star (a l:E) | kv (k v l:E)
 | tup (l:E) | lst (cell:Bool) (l:E) | dic (cell:Bool) (l:E)
 | lc (cell:Bool) (own:List (Str × Nat)) (tg:Tg) (it ifs elt:E)
 | lc2 (cell:Bool) (own own1:List (Str × Nat)) (tg:Tg) (a ifs:E) (tg1:Tg) (a1 ifs1 elt:E)
 | dc (cell:Bool) (own:List (Str × Nat)) (tg:Tg) (it ifs k v:E)
 | sub (a i:E) | slc (a lo hi:E)
 | att (a:E) (f:Str)
 | call (f:Str) (l:E) | make (c:Str) (l:E) | meth (a:E) (m:Str) (l:E)
 | bm (m:BM) (a:E) (l:E)
 | bf (f:BF) (l:E) | listC (a:E) | listItems (cell:Bool) (a:E)
 | has (neg:Bool) (a b:E) | mx (l:E)
 | it (a:E) | rng (l:E) | vals (a:E) | items (a:E) | enum (a:E)
 | fstr (l:E)
 | pf (f:PF) (a:E) | get (a k:E) | get2 (a k d:E)
 | xatt (a:E) (f:Str) | stuck
 | dicC (a:E) | eqO (a b:E) | isC (c:Str) (a:E) | lenO (a:E)
 | isX (cs:List Str) (a:E) | inG (neg:Bool) (x:Str) (a:E) | subG (x:Str) (a:E)
 | binO (o:QO) (a b:E) | cmpO (o:CO) (a b:E) | eqP (a b:E) | rev (a:E)
 | lenS (own:List (Str × Nat)) (is:List Nat) (j:Nat) (a:E)
 | callK (f:Str) (l:E) | makeK (f:Str) (l:E) | methK (a:E) (m:Str) (l:E)
 | methO (a:E) (m:Str) (l:E) | isL (a:E) | clr (a:E)
 | mkE (c:Str) (l:E) | mkW (c:Str) (ks:List Str) (l:E) | isVE (a:E)
 | keysD (a:E) | valsD (a:E) | itemsD (a:E) | keysT (a:E) | itemsT (a:E) | valsT (a:E)
 | dicW (l:E) | dnT | inT (neg:Bool) (l a:E) | subT (a l:E) | getT (a l d:E) | popT (a l:E)
 | callH (f:Str) (l:E) | listV (a:E) | catT (a b:E) | tupd (l:E) | tupC (l:E)
 | itemsK (a:E) | dicTP (a:E)
 | norm (a:E)
inductive S where
 | nil | cons (a r:S)
 | expr (e:E) | ret (e:E) | pass
 | set (i:Nat) (e:E) | setT (is:List Nat) (e:E) | par (is:List Nat) (l:E)
 | sub (o i e:E) | fld (o:E) (f:Str) (e:E)
 | aug (i:Nat) (o:BO) (e:E)
 | ite (t:E) (a b:S) | whl (t:E) (b:S) | for_ (tg:Tg) (it:E) (b:S)
 | brk | cnt
 | raise (c:Str) (l:E)
 | try_ (b h:S) | hd (x:Str) (i:Option Nat) (b r:S)
 | del (o i:E) | subT (o l e:E) | subZ (n:Nat) (i e:E) | parT (o i o' i' l:E)
 | stuck
def allP:List W→Option (List P)
 | []=>some []
 | .v p::l=>(allP l).map (p::·)
 | .c _::_=>none
def qbO:List (Key × W)→Option (List (Key × P))
 | []=>some []
 | (k,.v p)::l=>(qbO l).map ((k,p)::·)
 | (_,.c _)::_=>none
def qb4:List (Str × W)→Option (List (Str × P))
 | []=>some []
 | (k,.v p)::l=>(qb4 l).map ((k,p)::·)
 | (_,.c _)::_=>none
def Cell.view:Cell→Option P
 | .lst ws=>(allP ws).map .lst
 | .dct kvs=>(qbO kvs).map .dct
 | .ins c fs=>(qb4 fs).map (.obj c)
 | .tup _=>none
 | .dead=>none
 | .lkd _=>none
 | .dtt _=>none
 | .lkt _=>none
def W.view (S:qaa):W→Option P
 | .v q=>some q
 | .c n=>match S[n]? with
  | some z=>z.view
  | none=>none
def qc1 (S:qaa):W→R (P × qaa)
 | .v p=>.ok (p,S)
 | .c n=>match S[n]? with
  | some c=>match c.view with
   | some p=>.ok (p,S.set n .dead)
   | none=>.no
  | none=>.no
def frzT (S:qaa) (w:W):R (W × qaa):=match qc1 S w with
 | .ok z=>.ok (.v z.1,z.2)
 | _=>match w with
  | .c n=>match S[n]? with
   | some (.lst _)=>.ok (.c n,S)
   | _=>.no
  | .v _=>.no
def qax:List W→qaa→R (List P × qaa)
 | [],S=>.ok ([],S)
 | w::ws,S=>do
  let (p,S) ← qc1 S w
  let (ps,S) ← qax ws S
  .ok (p::ps,S)
def qad (n:Nat):W→Bool
 | .v _=>true
 | .c m=>decide (m < n)
def Cell.lows (n:Nat):Cell→Bool
 | .lst ws=>ws.all (qad n)
 | .dct kvs=>kvs.all fun q=>qad n q.2
 | .ins _ fs=>fs.all fun q=>qad n q.2
 | .tup ws=>ws.all (qad n)
 | .dead=>true
 | .lkd kvs=>kvs.all fun q=>qad n q.2
 | .dtt kvs=>kvs.all fun q=>qad n q.2
 | .lkt kvs=>kvs.all fun q=>qad n q.2
def Cell.isT:Cell→Bool
 | .tup _=>true
 | .dead=>true
 | _=>false
def Cell.kvs (c:Cell):Option (List (Key × W)):=match c with
 | .dct kvs=>some kvs
 | .lkd kvs=>some kvs
 | _=>none
def Cell.kvt (c:Cell):Option (List (List Key × W)):=match c with
 | .dtt kvs=>some kvs
 | .lkt kvs=>some kvs
 | _=>none
def qaL (c:Cell) (S:qaa):R (W × qaa):=if c.lows S.length=true then .ok (.c S.length,S++[c]) else .no
def write (kp:Bool) (n:Nat) (c:Cell) (S:qaa):R qaa:=if c.lows n=true∨(kp=true∧c.lows S.length=true) then .ok (S.set n c) else .no
def lim:Nat:=1000000
def qaU:P→Option Key
 | .int i=>some (.inl i)
 | .str s=>some (.inr s)
 | _=>none
def kP:Key→P
 | .inl i=>.int i
 | .inr s=>.str s
def qiI (S:qaa) (n:Nat):Option (List (Key × W)):=(S[n]?).bind Cell.kvs
def qed (S:qaa) (n:Nat):Option (List (List Key × W)):=(S[n]?).bind Cell.kvt
def qeq:List W→Option (List Key)
 | []=>some []
 | .v p::l=>match qaU p,qeq l with
  | some k,some ks=>some (k::ks)
  | _,_=>none
 | .c _::_=>none
def qlj:List W→Option (List (Option Key))
 | []=>some []
 | .v .non::l=>(qlj l).map (none::·)
 | .v p::l=>match qaU p,qlj l with
  | some k,some ks=>some (some k::ks)
  | _,_=>none
 | .c _::_=>none
def qdo {α:Type} (kvs:List (List Key × α)) (k:List Key):Option α:=(kvs.find? fun q=>decide (q.1=k)).map (·.2)
def qqf {α:Type} (kvs:List (List Key × α)) (k:List Key) (v:α):List (List Key × α):=
 if (kvs.any fun q=>decide (q.1=k))=true then kvs.map (fun q=>if q.1=k then (q.1,v) else q) else kvs++[(k,v)]
def qqw {α:Type} (kvs:List (List Key × α)) (k:List Key):List (List Key × α):=kvs.filter fun q=>decide (q.1≠k)
def getK {α:Type} (kvs:List (Key × α)) (k:Key):Option α:=(kvs.find? fun q=>decide (q.1=k)).map (·.2)
def setK {α:Type} (kvs:List (Key × α)) (k:Key) (v:α):List (Key × α):=
 if (kvs.any fun q=>decide (q.1=k))=true then kvs.map (fun q=>if q.1=k then (q.1,v) else q) else kvs++[(k,v)]
def delK {α:Type} (kvs:List (Key × α)) (k:Key):List (Key × α):=kvs.filter fun q=>decide (q.1≠k)
def setF {α:Type} (f:Str) (v:α):List (Str × α)→List (Str × α)
 | []=>[(f,v)]
 | q::r=>if q.1=f then (q.1,v)::r else q::setF f v r
mutual
def P.py:P→Option PyData
 | .non=>some .none
 | .bl b=>some (.bool b)
 | .int i=>some (.int i)
 | .str s=>some (.str s)
 | .lst xs=>(qcU xs).map .list
 | .tup xs=>(qcU xs).map .tuple
 | .dct _=>none
 | .obj _ _=>none
 | .scr _=>none
 | .exc _ _=>none
 | .tpp _=>none
 | .tpk _=>none
def qcU:List P→Option (List PyData)
 | []=>some []
 | x::xs=>match x.py,qcU xs with
  | some d,some ds=>some (d::ds)
  | _,_=>none
end
mutual
/-- tuples of flat things and empty dicts -/
def P.pyT:P→Option PyData
 | .non=>some .none
 | .bl b=>some (.bool b)
 | .int i=>some (.int i)
 | .str s=>some (.str s)
 | .lst _=>none
 | .tup xs=>(qc3 xs).map .tuple
 | .dct []=>some (.dict [])
 | .dct _=>none
 | .obj _ _=>none
 | .scr _=>none
 | .exc _ _=>none
 | .tpp _=>none
 | .tpk _=>none
def qc3:List P→Option (List PyData)
 | []=>some []
 | x::xs=>match x.pyT,qc3 xs with
  | some d,some ds=>some (d::ds)
  | _,_=>none
end
def qaV:P→Bool
 | .non=>true | .bl _=>true | .int _=>true | .str _=>true
 | _=>false
def eqF:P→P→Bool
 | .non,.non=>true
 | .bl a,.bl b=>a == b
 | .bl a,.int b=>(if a then 1 else 0) == b
 | .int a,.bl b=>a == (if b then 1 else 0)
 | .int a,.int b=>a == b
 | .str a,.str b=>a == b
 | _,_=>false
def eqP (x y:P):Option Bool:=match x.py,y.py with
 | some d,some e=>if (SeqAt.shaped d && SeqAt.shaped e)=true then some (PyData.eqv d e) else none
 | _,_=>none
def eqD (a b:List (Key × P)):Option Bool:=if (a.all fun q=>qaV q.2) && (b.all fun q=>qaV q.2) then
  some (decide (a.length=b.length) && a.all fun q=>match getK b q.1 with
   | some u=>eqF q.2 u
   | none=>false)
 else if a.length=b.length then none else some false
def eqS (x y:P):Option Bool:=match x,y with
 | .str a,.str b=>some (decide (a=b))
 | .int a,.int b=>some (decide (a=b))
 | .bl a,.bl b=>some (decide (a=b))
 | .non,.non=>some true
 | .str _,.non=>some false
 | .non,.str _=>some false
 | .int _,.non=>some false
 | .non,.int _=>some false
 | .bl _,.non=>some false
 | .non,.bl _=>some false
 | .str _,.int _=>some false
 | .int _,.str _=>some false
 | .str _,.bl _=>some false
 | .bl _,.str _=>some false
 | .dct a,.dct b=>eqD a b
 | x,y=>eqP x y
def P.pyL:P→Option (List PyData)
 | .lst xs=>qc3 xs
 | _=>none
def qiS (x:P):Option Str:=match x.py with
 | some d=>if (SeqAt.shaped d && d.showable && decide (d.shown.length≤lim))=true then some d.shown else none
 | none=>match x.pyT with
  | some d=>if (d.showable && decide (d.shown.length≤lim) && decide (d.depth≤60))=true then some d.shown else none
  | none=>match x.pyL with
   | some ds=>if ((PyData.list ds).showable && decide ((PyData.list ds).shown.length≤lim) && decide ((PyData.list ds).depth≤60))=true then some (PyData.list ds).shown else none
   | none=>none
def qcZ:P→Option Bool
 | .non=>some false
 | .bl b=>some b
 | .int i=>some (i != 0)
 | .str s=>if s.length≤lim then some ((s.length:Int) != 0) else none
 | .lst xs=>some (!xs.isEmpty)
 | .tup xs=>some (!xs.isEmpty)
 | .dct _=>none
 | .obj _ _=>none
 | .scr _=>none
 | .exc _ _=>none
 | .tpp _=>none
 | .tpk _=>none
def ok1 (S:qaa) (p:P):R (W × qaa):=.ok (.v p,S)
def qaP (o:BO) (x y:W) (S:qaa):R (W × qaa):=match o,x.view S,y.view S with
 | .add,some (.int i),some (.int j)=>ok1 S (.int (i + j))
 | .add,some (.str a),some (.str b)=>if a.length + b.length≤lim then ok1 S (.str (a++b)) else .no
 | .add,some (.lst a),some (.lst b)=>if a.length + b.length≤lim then ok1 S (.lst (a++b)) else .no
 | .sub,some (.int i),some (.int j)=>ok1 S (.int (i - j))
 | .mul,some (.int i),some (.int j)=>if i.natAbs < 18446744073709551616∨j.natAbs < 18446744073709551616 then ok1 S (.int (i * j)) else .no
 | .fdiv,some (.int i),some (.int j)=>if 0 < j∧j < 1267650600228229401496703205376 then ok1 S (.int (i / j)) else .no
 | .mod,some (.int i),some (.int j)=>if 0 < j then ok1 S (.int (i % j)) else .no
 | .pow,some (.int i),some (.int j)=>if 0≤j∧j≤1000000∧i.natAbs < 18446744073709551616 then ok1 S (.int (i ^ j.toNat)) else .no
 | .mul,some (.lst a),some (.int j)=>if 0≤j∧j < 1000000∧a.length * j.toNat≤lim then ok1 S (.lst (List.replicate j.toNat a).flatten) else .no
 | _,_,_=>.no
def inP (x y:P):Option Bool:=match y with
 | .dct kvs=>(qaU x).map fun k=>(getK kvs k).isSome
 | .str s=>match x with
  | .str c=>if c.length=1 then some (decide (c.cps.toList.headD 0∈s.cps.toList)) else none
  | _=>none
 | .lst ys=>if qaV x && ys.all qaV then some (ys.any fun y=>eqF y x) else match x.py,(P.lst ys).py with
  | some d,some (.list ds)=>if SeqAt.shaped d=true∧SeqAt.shaped (.list ds)=true then some (ds.any fun z=>PyData.eqv z d) else none
  | _,_=>none
 | .tup ys=>if qaV x && ys.all qaV then some (ys.any fun y=>eqF y x) else none
 | _=>none
mutual
/-- no instances,scripts or errors within -/
def P.pln:P→Bool
 | .non=>true
 | .bl _=>true
 | .int _=>true
 | .str _=>true
 | .lst xs=>plnL xs
 | .tup xs=>plnL xs
 | .dct kvs=>plnK kvs
 | .obj _ _=>false
 | .scr _=>false
 | .exc _ _=>false
 | .tpp _=>false
 | .tpk _=>false
def plnL:List P→Bool
 | []=>true
 | x::xs=>x.pln && plnL xs
def plnK:List (Key × P)→Bool
 | []=>true
 | (_,x)::xs=>x.pln && plnK xs
end
mutual
def P.dep:P→Nat
 | .non=>0
 | .bl _=>0
 | .int _=>0
 | .str _=>0
 | .lst xs=>depL xs + 1
 | .tup xs=>depL xs + 1
 | .dct kvs=>depK kvs + 1
 | .obj _ _=>0
 | .scr _=>0
 | .exc _ _=>0
 | .tpp _=>0
 | .tpk _=>0
def depL:List P→Nat
 | []=>0
 | x::xs=>max x.dep (depL xs)
def depK:List (Key × P)→Nat
 | []=>0
 | (_,x)::xs=>max x.dep (depK xs)
end
mutual
/-- one and the same datum -/
def P.same:P→P→Bool
 | .non,y=>match y with
  | .non=>true
  | _=>false
 | .bl a,y=>match y with
  | .bl b=>decide (a=b)
  | _=>false
 | .int a,y=>match y with
  | .int b=>decide (a=b)
  | _=>false
 | .str a,y=>match y with
  | .str b=>decide (a=b)
  | _=>false
 | .lst a,y=>match y with
  | .lst b=>qhK a b
  | _=>false
 | .tup a,y=>match y with
  | .tup b=>qhK a b
  | _=>false
 | .dct a,y=>match y with
  | .dct b=>qi2 a b
  | _=>false
 | .obj _ _,_=>false
 | .scr _,_=>false
 | .exc _ _,_=>false
 | .tpp _,_=>false
 | .tpk _,_=>false
def qhK:List P→List P→Bool
 | [],ys=>ys.isEmpty
 | x::xs,ys=>match ys with
  | y::ys=>x.same y && qhK xs ys
  | []=>false
def qi2:List (Key × P)→List (Key × P)→Bool
 | [],ys=>ys.isEmpty
 | (k,x)::xs,ys=>match ys with
  | (l,y)::ys=>decide (k=l) && (x.same y && qi2 xs ys)
  | []=>false
end
def qfU:P→Bool
 | .lst _=>true
 | _=>false
def eqW (x y:P):Option Bool:=if x.pln=true∧x.same y=true∧x.dep≤30 then some true else none
mutual
/-- == of data that shows through lists,tuples and dicts;or nothing is said -/
def P.eqQ:P→P→Option Bool
 | .non,y=>if qaV y=true then some (eqF .non y) else none
 | .bl a,y=>if qaV y=true then some (eqF (.bl a) y) else none
 | .int a,y=>if qaV y=true then some (eqF (.int a) y) else none
 | .str a,y=>if qaV y=true then some (eqF (.str a) y) else none
 | .lst a,y=>match y with
  | .lst b=>if a.length=b.length then eqQL a b else some false
  | _=>none
 | .tup a,y=>match y with
  | .tup b=>(eqQL a b).map fun r=>r && a.length == b.length
  | _=>none
 | .dct a,y=>match y with
  | .dct b=>if a.length=b.length then eqQK a b else some false
  | _=>none
 | .obj _ _,_=>none
 | .scr _,_=>none
 | .exc _ _,_=>none
 | .tpp _,_=>none
 | .tpk _,_=>none
def eqQL:List P→List P→Option Bool
 | [],_=>some true
 | x::xs,ys=>match ys with
  | []=>some true
  | y::ys=>match x.eqQ y,eqQL xs ys with
   | some a,some b=>some (a && b)
   | _,_=>none
def eqQK:List (Key × P)→List (Key × P)→Option Bool
 | [],_=>some true
 | (k,x)::xs,b=>match getK b k with
  | none=>some false
  | some y=>match x.eqQ y,eqQK xs b with
   | some a,some c=>some (a && c)
   | _,_=>none
end
def eqQT:List (List Key × P)→List (List Key × P)→Option Bool
 | [],_=>some true
 | (k,x)::xs,b=>match qdo b k with
  | none=>some false
  | some y=>match x.eqQ y,eqQT xs b with
   | some a,some c=>some (a && c)
   | _,_=>none
def conP:P→Bool
 | .lst _=>true
 | .tup _=>true
 | .dct _=>true
 | _=>false
def qft:P→Bool
 | .dct _=>true
 | _=>false
def eqV2 (x y:P):Option Bool:=if conP x=true∧x.pln=true∧y.pln=true∧x.dep≤30 then x.eqQ y else none
def orO {α:Type} (a b:Option α):Option α:=match a with
 | some x=>some x
 | none=>b
@[simp] theorem qdq {α:Type} {x:α} {b:Option α}:orO (some x) b=some x:=rfl
@[simp] theorem qgR {α:Type} {b:Option α}:orO none b=b:=rfl
def qhJ:P→Bool
 | .non=>true
 | _=>false
def cmpP (o:CO) (x y:P):Option Bool:=match o with
 | .eq=>orO (eqS x y) (orO (eqW x y) (eqV2 x y))
 | .ne=>orO ((eqS x y).map not) (if qfU x=true then (eqW x y).map not else if qft x=true then (orO (eqW x y) (eqV2 x y)).map not else none)
 | .lt=>match x,y with
  | .int i,.int j=>some (decide (i < j))
  | _,_=>none
 | .le=>match x,y with
  | .int i,.int j=>some (decide (i≤j))
  | _,_=>none
 | .gt=>match x,y with
  | .int i,.int j=>some (decide (j < i))
  | _,_=>none
 | .ge=>match x,y with
  | .int i,.int j=>some (decide (j≤i))
  | _,_=>none
 | .isN=>match y with
  | .non=>some (qhJ x)
  | _=>none
 | .notN=>match y with
  | .non=>some (!qhJ x)
  | _=>none
 | .in_=>inP x y
 | .nin=>(inP x y).map not
def Cell.lstq (c:Cell):Option (List W):=Cell.casesOn c (fun ws=>some ws) (fun _=>none) (fun _ _=>none) (fun _=>none) none (fun _=>none) (fun _=>none) (fun _=>none)
def dWl (f:W→Option PyData):List W→Option (List PyData)
 | []=>some []
 | w::ws=>match f w,dWl f ws with
  | some d,some ds=>some (d::ds)
  | _,_=>none
def dW (S:qaa):Nat→W→Option PyData
 | _,.v p=>p.py
 | 0,.c _=>none
 | n + 1,.c i=>(S[i]?).bind fun c=>c.lstq.bind fun ws=>(dWl (dW S n) ws).map .list
def llen (S:qaa):W→Option Nat
 | .v (.lst ps)=>some ps.length
 | .c n=>match S[n]? with
  | some (.lst ws)=>some ws.length
  | _=>none
 | _=>none
def qq4 (o:CO) (S:qaa):R (W × qaa):=match o with
 | .eq=>ok1 S (.bl false)
 | .ne=>ok1 S (.bl true)
 | _=>.no
def qnt (S:qaa) (x y:W):Bool:=((llen S x).bind fun a=>(llen S y).map fun b=>decide (a≠b)).getD false
def mapO (f:W→Option P):List W→Option (List P)
 | []=>some []
 | w::ws=>match f w,mapO f ws with
  | some p,some ps=>some (p::ps)
  | _,_=>none
def qiO (f:W→Option P):List (Key × W)→Option (List (Key × P))
 | []=>some []
 | (k,w)::ws=>match f w,qiO f ws with
  | some p,some ps=>some ((k,p)::ps)
  | _,_=>none
def dV (S:qaa):Nat→W→Option P
 | _,.v p=>if p.pln=true then some p else none
 | 0,.c _=>none
 | n + 1,.c i=>match S[i]? with
  | some (.lst ws)=>(mapO (dV S n) ws).map .lst
  | some (.tup ws)=>(mapO (dV S n) ws).map .tup
  | some (.dct kvs)=>(qiO (dV S n) kvs).map .dct
  | _=>none
def tupW (S:qaa):W→Option (List W)
 | .v (.tup ps)=>some (ps.map .v)
 | .c n=>match S[n]? with
  | some (.tup ws)=>some ws
  | _=>none
 | _=>none
def qpJ (x y:W) (S:qaa):R (W × qaa):=match tupW S x,tupW S y with
 | some xs,some ys=>if xs≠[]∧ys≠[]∧xs.length + ys.length≤lim then match allP (xs++ys) with
   | some ps=>ok1 S (.tup ps)
   | none=>qaL (.tup (xs++ys)) S
  else .no
 | _,_=>.no
def qik (f:W→Option P):List (List Key × W)→Option (List (List Key × P))
 | []=>some []
 | (k,w)::ws=>match f w,qik f ws with
  | some p,some ps=>some ((k,p)::ps)
  | _,_=>none
def qkY (a b:List (List Key × W)) (S:qaa):R (W × qaa):=if a.length≠b.length then ok1 S (.bl false) else match qik (dV S 5) a,qik (dV S 5) b with
 | some p,some q=>if (p.all fun z=>decide (z.2.dep≤29))=true then match eqQT p q with
   | some r=>ok1 S (.bl r)
   | none=>.no
  else .no
 | _,_=>.no
def cmpT (o:CO) (x y:W) (S:qaa):R (W × qaa):=match o,x,y with
 | .eq,.c n,.c m=>match qed S n,qed S m with
  | some a,some b=>qkY a b S
  | _,_=>.no
 | .eq,.c n,.v (.dct [])=>match qed S n with
  | some a=>ok1 S (.bl a.isEmpty)
  | none=>.no
 | _,_,_=>.no
def cmpQ (o:CO) (p q:P) (S:qaa):R (W × qaa):=if conP p=true∧p.dep≤30 then match p.eqQ q with
  | some b=>match o with
   | .eq=>ok1 S (.bl b)
   | .ne=>if qft p=true then ok1 S (.bl (!b)) else .no
   | _=>.no
  | none=>.no
 else .no
def cmpW (o:CO) (x y:W) (S:qaa):R (W × qaa):=match dV S 6 x,dV S 6 y with
 | some p,some q=>if p.same q=true∧p.dep≤30 then match o with
   | .eq=>.ok (.v (.bl true),S)
   | .ne=>if qfU p=true then .ok (.v (.bl false),S) else .no
   | _=>.no
  else cmpQ o p q S
 | _,_=>cmpT o x y S
def cmpD (o:CO) (x y:W) (S:qaa):R (W × qaa):=if qnt S x y=true then qq4 o S else match dW S 3 x,dW S 3 y with
 | some a,some b=>if (SeqAt.shaped a && SeqAt.shaped b)=true then match o with
   | .eq=>ok1 S (.bl (PyData.eqv a b))
   | .ne=>ok1 S (.bl (!PyData.eqv a b))
   | _=>.no
  else .no
 | _,_=>cmpW o x y S
def inC (x y:W) (S:qaa):Option Bool:=match x,y with
 | .v p,.c n=>match qaU p,qiI S n with
  | some k,some kvs=>some (getK kvs k).isSome
  | _,_=>none
 | _,_=>none
def nonC (x y:W) (S:qaa):Option Bool:=match x,y with
 | .c n,.v .non=>match S[n]? with
  | some .dead=>none
  | some _=>some false
  | none=>none
 | _,_=>none
def blO (o:Option Bool) (neg:Bool) (S:qaa):R (W × qaa):=match o with
 | some b=>.ok (.v (.bl (if neg=true then !b else b)),S)
 | none=>.no
def cmpX (o:CO) (x y:W) (S:qaa):R (W × qaa):=match o with
 | .in_=>blO (inC x y S) false S
 | .nin=>blO (inC x y S) true S
 | .isN=>blO (nonC x y S) false S
 | .notN=>blO (nonC x y S) true S
 | o=>cmpD o x y S
def qaH (o:CO) (x y:W) (S:qaa):R (W × qaa):=match x.view S,y.view S with
 | some a,some b=>match cmpP o a b with
  | some b=>ok1 S (.bl b)
  | none=>.no
 | _,_=>cmpX o x y S
def ixP (x i:P):Option P:=match x,i with
 | .lst xs,.int i=>atI xs i
 | .tup xs,.int i=>atI xs i
 | .str s,.int i=>if s.length≤lim then (atI s.cps.toList i).map fun c=>.str ⟨#[c]⟩ else none
 | .dct kvs,k=>(qaU k).bind fun k=>getK kvs k
 | _,_=>none
def qb0 (x i:W) (S:qaa):R (W × qaa):=match x,i with
 | .v a,.v b=>match ixP a b with
  | some p=>ok1 S p
  | none=>.no
 | .c n,.v b=>match S[n]?,b with
  | some (.lst xs),.int i=>match atI xs i with
   | some w=>.ok (w,S)
   | none=>.no
  | some (.tup xs),.int i=>match atI xs i with
   | some w=>.ok (w,S)
   | none=>.no
  | some (.dct kvs),k=>match qaU k with
   | some k=>match getK kvs k with
    | some w=>.ok (w,S)
    | none=>.no
   | none=>.no
  | some (.lkd kvs),k=>match qaU k with
   | some k=>match getK kvs k with
    | some w=>.ok (w,S)
    | none=>.no
   | none=>.no
  | _,_=>.no
 | _,_=>.no
def cutL {α:Type} (xs:List α) (lo hi:Option Int):List α:=(xs.drop (HT.sIx xs.length 0 lo)).take (HT.sIx xs.length xs.length hi - HT.sIx xs.length 0 lo)
def slcC (x:W) (lo hi:Option Int) (S:qaa):R (W × qaa):=match x with
 | .c n=>match S[n]? with
  | some (.lst ws)=>qaL (.lst (cutL ws lo hi)) S
  | _=>.no
 | .v _=>.no
def qgJ (x:W) (lo hi:Option Int) (S:qaa):R (W × qaa):=match x.view S with
 | some (.lst xs)=>ok1 S (.lst (cutL xs lo hi))
 | some (.str s)=>if s.length≤lim then ok1 S (.str (cutS s lo hi)) else .no
 | some (.tup xs)=>if HT.sIx xs.length 0 lo=0∧HT.sIx xs.length xs.length hi=xs.length then .no else ok1 S (.tup (cutL xs lo hi))
 | some _=>.no
 | none=>slcC x lo hi S
def qel (fl:Str→Str→Bool) (x:W) (f:Str) (S:qaa):R (W × qaa):=match x with
 | .v (.obj c fs)=>match fl c f,fs.lookup f with
  | true,some p=>ok1 S p
  | _,_=>.no
 | .c n=>match S[n]? with
  | some (.ins c fs)=>match fl c f,fs.lookup f with
   | true,some w=>.ok (w,S)
   | _,_=>.no
  | _=>.no
 | _=>.no
def qbv (m:Str) (x:W) (S:qaa):Option Str:=match x with
 | .v (.obj c fs)=>if (fs.lookup m).isNone=true then some c else none
 | .c n=>match S[n]? with
  | some (.ins c fs)=>if (fs.lookup m).isNone=true then some c else none
  | _=>none
 | _=>none
def qcc:List P→Option (List Str)
 | []=>some []
 | .str s::l=>(qcc l).map (s::·)
 | _::_=>none
def qdj:List P→Option (List Bool)
 | []=>some []
 | .bl s::l=>(qdj l).map (s::·)
 | _::_=>none
def qbS:List P→Option (List (Key × P))
 | []=>some []
 | .tup [k,v]::l=>match qaU k,qbS l with
  | some k,some r=>some ((k,v)::r)
  | _,_=>none
 | _::_=>none
def qeC (kvs more:List (Key × P)):List (Key × P):=more.foldl (fun acc q=>setK acc q.1 q.2) kvs
def qgT:P→Bool
 | .str _=>true
 | _=>false
def qcB:P→Bool
 | .obj _ _=>false
 | .tpp _=>false
 | .tpk _=>false
 | .exc _ _=>false
 | .scr _=>false
 | _=>true
def QO.dn:QO→Str
 | .or_=>"__or__" | .and_=>"__and__" | .add=>"__add__" | .sub=>"__sub__"
def CO.dn:CO→Str
 | .ne=>"__eq__" | .lt=>"__lt__" | .le=>"__le__" | .gt=>"__lt__" | .ge=>"__le__"
 | _=>""
def CO.turned:CO→Bool
 | .gt=>true | .ge=>true
 | _=>false
def CO.neg:CO→Bool
 | .ne=>true
 | _=>false
def isPl:W→Bool
 | .v p=>qcB p
 | .c _=>false
def qpx (c m:Str) (w:W) (S:qaa):Bool:=match qbv m w S with
 | some c'=>decide (c'=c)
 | none=>isPl w
def objR (z:W × qaa):R (W × qaa):=match z.1 with
 | .v (.obj _ _)=>.ok z
 | _=>.no
def blR (neg:Bool) (z:W × qaa):R (W × qaa):=match z.1 with
 | .v (.bl k)=>.ok (.v (.bl (if neg=true then !k else k)),z.2)
 | _=>.no
def qcf (f:Str→Option Bool):List Str→Option Bool
 | []=>some false
 | x::r=>match f x with
  | some true=>some true
  | some false=>qcf f r
  | none=>none
def notC (w:W) (S:qaa):R (W × qaa):=if isPl w=true then .ok (.v (.bl false),S) else .no
def qdF:List P→Option (List Int)
 | []=>some []
 | .int i::l=>(qdF l).map (i::·)
 | _::_=>none
def insO {α:Type} (le:α→α→Bool) (x:α):List α→List α
 | []=>[x]
 | y::l=>if le x y=true then x::y::l else y::insO le x l
def qei {α:Type} (le:α→α→Bool):List α→List α
 | []=>[]
 | x::l=>insO le x (qei le l)
def leI (a b:Int):Bool:=decide (a≤b)
def leS (a b:Str):Bool:=!decide (b.cps.toList < a.cps.toList)
def qhV (l:List P):Option P:=match qdF l with
 | some ns=>some (.lst ((qei leI ns).map .int))
 | none=>match qcc l with
  | some ss=>if ss.length < 64 then some (.lst ((qei leS ss).map .str)) else none
  | none=>none
def bfOp (f:BF) (xs:List P):Option P:=match f,xs with
 | .len,[.str s]=>if s.length≤lim then some (.int s.length) else none
 | .len,[.lst l]=>some (.int l.length)
 | .len,[.tup l]=>some (.int l.length)
 | .len,[.dct l]=>some (.int l.length)
 | .int,[.int i]=>some (.int i)
 | .str,[.str s]=>some (.str s)
 | .list,[.lst l]=>some (.lst l)
 | .list,[.tup l]=>some (.lst l)
 | .dict,[.lst l]=>(qbS l).map fun kvs=>.dct (qeC [] kvs)
 | .repr,[p]=>(qiS p).map .str
 | .any,[.lst l]=>(qdj l).map fun bs=>.bl (bs.any id)
 | .all,[.lst l]=>(qdj l).map fun bs=>.bl (bs.all id)
 | .isStr,[p]=>if qcB p=true then some (.bl (qgT p)) else none
 | .max2,[.int i,.int j]=>some (.int (if j > i then j else i))
 | .dict,[.dct kvs]=>some (.dct kvs)
 | .list,[.dct kvs]=>some (.lst (kvs.map fun z=>kP z.1))
 | .str,[.int i]=>if i.natAbs.log2 < 1920 then some (.str (Str.ofString (toString i))) else none
 | .int,[.str s]=>if s.length≤600 then (PySem.intText? s).map .int else none
 | .sorted,[.lst l]=>qhV l
 | .dict,[.tpp l]=>(qbS l).map fun kvs=>.dct (qeC [] kvs)
 | _,_=>none
def qmj:P→Bool
 | .int _=>true
 | .bl _=>true
 | _=>false
def qkX:P→Bool
 | .bl _=>true
 | _=>false
def qnx:P→Bool
 | .lst _=>true
 | .tup _=>true
 | _=>false
def qlz:List P→Option (List Key)
 | []=>some []
 | p::l=>match qaU p,qlz l with
  | some k,some ks=>some (k::ks)
  | _,_=>none
def qnK (xs:List Key):List Key:=xs.foldl (fun acc x=>if (acc.any fun y=>decide (y=x))=true then acc else acc++[x]) []
mutual
def P.norm:P→P
 | .tpp xs=>.tup (qgA xs)
 | .tpk ks=>.tup (ks.map kP)
 | .tup xs=>.tup (qgA xs)
 | .lst xs=>.lst (qgA xs)
 | .dct kvs=>.dct (qig kvs)
 | .obj c fs=>.obj c fs
 | .exc c fs=>.exc c fs
 | .scr ns=>.scr ns
 | .str s=>.str s
 | .int i=>.int i
 | .bl b=>.bl b
 | .non=>.non
def qgA:List P→List P
 | []=>[]
 | x::l=>x.norm::qgA l
def qig:List (Key × P)→List (Key × P)
 | []=>[]
 | (k,x)::l=>(k,x.norm)::qig l
end
def W.norm:W→W
 | .v p=>.v p.norm
 | .c n=>.c n
def qjF (xs:List Str):List Str:=xs.foldl (fun acc x=>if x∈acc then acc else acc++[x]) []
def pfOp (f:PF) (x:P):Option P:=match f,x with
 | .isInt,p=>if qcB p=true then some (.bl (qmj p)) else none
 | .isBool,p=>if qcB p=true then some (.bl (qkX p)) else none
 | .isRow,p=>if qcB p=true then some (.bl (qnx p)) else none
 | .intB,.bl b=>some (.int (if b then 1 else 0))
 | .tuple,.lst l=>some (.tup l)
 | .tuple,.tup l=>some (.tup l)
 | .tupZ,.lst l=>some (.tpp l)
 | .lenSet,.lst l=>match qcc l with
  | some ss=>if ss.length≤4000 then some (.int (qjF ss).length) else none
  | none=>none
 | .lenSetK,.lst l=>match qlz l with
  | some ss=>if ss.length≤4000 then some (.int (qnK ss).length) else none
  | none=>none
 | .lenSetK,.tup l=>match qlz l with
  | some ss=>if ss.length≤4000 then some (.int (qnK ss).length) else none
  | none=>none
 | _,_=>none
def tupC (f:PF) (x:W) (S:qaa):R (W × qaa):=match f,x with
 | .tuple,.c n=>match S[n]? with
  | some (.lst ws)=>qaL (.tup ws) S
  | _=>.no
 | _,_=>.no
def qmW (S:qaa) (w:W):Option (List Key × W):=match tupW S w with
 | some [.v (.tpk ks),x]=>some (ks,x)
 | _=>none
def qiT (S:qaa):List W→Option (List (List Key × W))
 | []=>some []
 | w::ws=>match qmW S w,qiT S ws with
  | some q,some r=>some (q::r)
  | _,_=>none
def dicTP (x:W) (S:qaa):R (W × qaa):=match x with
 | .c n=>match S[n]? with
  | some (.lst ws)=>match qiT S ws with
   | some kvs=>if (kvs.map (·.1)).Nodup then qaL (.dtt kvs) S else .no
   | none=>.no
  | _=>.no
 | _=>.no
def getX (x y z:W) (S:qaa):R (W × qaa):=match x,y with
 | .c n,.v p=>match qaU p,qiI S n with
  | some k,some kvs=>.ok ((getK kvs k).getD z,S)
  | _,_=>.no
 | _,_=>.no
def qqC (x:W) (S:qaa):Bool:=match x with
 | .c n=>(qiI S n).isSome
 | .v _=>false
def qmN (x y z:W) (S:qaa):R (W × qaa):=match x.view S,y with
 | some (.dct kvs),.v p=>match qaU p with
  | some k=>.ok (((getK kvs k).map W.v).getD z,S)
  | none=>.no
 | _,_=>getX x y z S
def qnc (x:W) (S:qaa):Bool:=match x.view S with
 | some (.dct _)=>true
 | _=>qqC x S
def qoz (neg:Bool) (ws:List W) (x:W) (S:qaa):R (W × qaa):=match qeq ws,x with
 | some ks,.c n=>match qed S n with
  | some kvs=>.ok (.v (.bl (if neg=true then !(qdo kvs ks).isSome else (qdo kvs ks).isSome)),S)
  | none=>.no
 | _,_=>.no
def qml (x:W) (ws:List W) (S:qaa):R (W × qaa):=match qeq ws,x with
 | some ks,.c n=>match qed S n with
  | some kvs=>match qdo kvs ks with
   | some w=>.ok (w,S)
   | none=>.no
  | none=>.no
 | _,_=>.no
def qmF (x:W) (ws:List W) (d:W) (S:qaa):R (W × qaa):=match qeq ws,x with
 | some ks,.c n=>match qed S n with
  | some kvs=>.ok ((qdo kvs ks).getD d,S)
  | none=>.no
 | none,.c n=>match qlj ws,qed S n with
  | some _,some _=>.ok (d,S)
  | _,_=>.no
 | _,_=>.no
def qnb (kp:Bool) (x:W) (ws:List W) (S:qaa):R (W × qaa):=match qeq ws,x with
 | some ks,.c n=>match S[n]? with
  | some (.dtt kvs)=>match qdo kvs ks with
   | some w=>(write kp n (.dtt (qqw kvs ks)) S).bind fun S=>.ok (w,S)
   | none=>.no
  | _=>.no
 | _,_=>.no
def qoU (x:W) (S:qaa):Bool:=match x with
 | .c n=>match S[n]? with
  | some (.dtt _)=>true
  | _=>false
 | .v _=>false
def qpO (x:W) (S:qaa):Bool:=match x with
 | .c n=>(qed S n).isSome
 | .v _=>false
def E.len:E→Nat
 | .cons _ l=>l.len + 1
 | _=>0
structure Gm where
 fu:Nat
 glo:Str→Option P
 fld:Str→Str→Bool
 fn:Str→Bool
 met:Str→Str→Bool
 exc:Str→Option (List Str):=fun _=>none
 sub:Str→Str→Option Bool:=fun _ _=>none
 xfl:Str→Str→Bool:=fun _ _=>false
 hdl:Str→Bool:=fun _=>false
 fnK:Str→Bool:=fun _=>false
 cls:Str→Bool:=fun _=>false
 metK:Str→Str→Bool:=fun _ _=>false
 isn:Str→Bool:=fun _=>false
 tab:Str→Option (List (Str × P)):=fun _=>none
 isx:Str→Str→Option Bool:=fun _ _=>none
 isd:Str→Str→Bool:=fun _ _=>false
 metO:Str→Str→Bool:=fun _ _=>false
 fnH:Str→Bool:=fun _=>false
def othB (g:Gm) (c:Str) (y:W) (S:qaa):Bool:=match qbv "__eq__" y S with
 | some c'=>g.cls c' && g.isd c' c
 | none=>isPl y
structure Cn where
 call:Str→List W→qaa→R (W × qaa)
 g:Gm
 keep:Bool
def Cn.in_ (C:Cn) (cell:Bool):Cn:=⟨C.call,C.g,C.keep && cell⟩
inductive Itm where
 | one (w:W) | two (k:P) (w:W)
inductive Iter where
 | st (xs:List W) | cl (n:Nat) | lk (n:Nat) (xs:List Itm)
def qaT (env:Env):List Nat→List W→Option Env
 | [],[]=>some env
 | i::is,w::ws=>qaT (env.set i (some w)) is ws
 | _,_=>none
def qeh (tg:Tg) (w:W) (env:Env):Option Env:=match tg with
 | .name i=>some (env.set i (some w))
 | .tup is=>match w with
  | .v (.tup ps)=>qaT env is (ps.map .v)
  | .v (.lst ps)=>qaT env is (ps.map .v)
  | _=>none
def qbp (tg:Tg) (w:W) (S:qaa) (env:Env):Option Env:=match tg,w with
 | .tup is,.c n=>match S[n]? with
  | some (.lst ws)=>qaT env is ws
  | some (.tup ws)=>qaT env is ws
  | _=>none
 | tg,w=>qeh tg w env
theorem qfw {tg:Tg} {w:W} {S:qaa} {env e:Env} (h:qeh tg w env=some e):qbp tg w S env=some e:=by
 cases tg with
 | name i=>cases w <;> exact h
 | tup is=>
  cases w with
  | v p=>exact h
  | c n=>cases h
def qbV (env:Env):List Nat→Env
 | []=>env
 | i::is=>(qbV env is).set i none
def qba (w:W) (S:qaa):R Iter:=match w with
 | .v (.lst xs)=>.ok (.st (xs.map .v))
 | .v (.tup xs)=>.ok (.st (xs.map .v))
 | .v (.str s)=>.ok (.st (s.cps.toList.map fun c=>.v (.str ⟨#[c]⟩)))
 | .v (.dct kvs)=>.ok (.st (kvs.map fun q=>.v (kP q.1)))
 | .c n=>match S[n]? with
  | some (.lst _)=>.ok (.cl n)
  | some (.tup ws)=>.ok (.st ws)
  | _=>.no
 | _=>.no
def qdk (kp:Bool) (D:Nat) (w:W) (S:qaa):R qaa:=match S[D]? with
 | some (.lst acc)=>if acc.length < lim then write kp D (.lst (acc++[w])) S else .no
 | _=>.no
def putC (kp:Bool) (D:Nat) (k:Key) (w:W) (S:qaa):R qaa:=match S[D]? with
 | some (.dct kvs)=>if kvs.length < lim then write kp D (.dct (setK kvs k w)) S else .no
 | _=>.no
def qee (turn:W→qaa→R qaa):List W→qaa→R qaa
 | [],S=>.ok S
 | x::xs,S=>(turn x S).bind fun S=>qee turn xs S
def qhL (turn:W→qaa→R qaa) (n:Nat):Nat→Nat→qaa→R qaa
 | 0,_,_=>.no
 | fu + 1,i,S=>match S[n]? with
  | some (.lst xs)=>match xs[i]? with
   | some x=>(turn x S).bind fun S=>qhL turn n fu (i + 1) S
   | none=>.ok S
  | _=>.no
def finC (kp cell:Bool) (D:Nat) (S:qaa):R (W × qaa):=match cell with
 | true=>if kp=true∨S.length=D + 1 then .ok (.c D,S) else if D < S.length then .ok (.c D,S.take (D + 1)) else .no
 | false=>match S[D]? with
  | some c=>match c.view with
   | some p=>.ok (.v p,S.take D)
   | none=>.no
  | none=>.no
def qgG (x:Itm) (S:qaa):R (W × qaa):=match x with
 | .one w=>.ok (w,S)
 | .two k (.v p)=>.ok (.v (.tup [k,p]),S)
 | .two k (.c m)=>qaL (.tup [.v k,.c m]) S
def unlC (n:Nat) (S:qaa):R qaa:=match S[n]? with
 | some (.lkd kvs)=>.ok (S.set n (.dct kvs))
 | some (.lkt kvs)=>.ok (S.set n (.dtt kvs))
 | _=>.no
def qd6 (turn:W→qaa→R qaa):List Itm→qaa→R qaa
 | [],S=>.ok S
 | x::xs,S=>(qgG x S).bind fun q=>(turn q.1 q.2).bind fun S=>qd6 turn xs S
def qh2 (f:Key × W→Itm) (q:W × qaa):R (Iter × qaa):=match q.1 with
 | .c n=>match q.2[n]? with
  | some (.dct kvs)=>.ok (.lk n (kvs.map f),q.2)
  | _=>.no
 | .v _=>.no
def qjs (f:List Key × W→Itm) (q:W × qaa):R (Iter × qaa):=match q.1 with
 | .c n=>match q.2[n]? with
  | some (.dtt kvs)=>.ok (.lk n (kvs.map f),q.2)
  | _=>.no
 | .v _=>.no
def lckC (n:Nat) (S:qaa):R qaa:=match S[n]? with
 | some (.dct kvs)=>.ok (S.set n (.lkd kvs))
 | some (.dtt kvs)=>.ok (S.set n (.lkt kvs))
 | _=>.no
def tP (k:List Key):P:=.tup (k.map kP)
def qjW (turn:W→qaa→R (qaa × List Nat)):List Itm→qaa→List Nat→R (qaa × List Nat)
 | [],S,ns=>.ok (S,ns)
 | x::xs,S,ns=>(qgG x S).bind fun q=>(turn q.1 q.2).bind fun z=>qjW turn xs z.1 (z.2++ns)
def unlN:List Nat→qaa→R qaa
 | [],S=>.ok S
 | n::ns,S=>(unlC n S).bind (unlN ns)
def vlW (z:Key × W):Itm:=.one z.2
def qqn (S1:qaa) (turn:W→qaa→R qaa) (z:Iter × qaa):R (qaa × List Nat):=match z.1 with
 | .lk n xs=>match S1[n]? with
  | some (.dct _)=>(lckC n z.2).bind fun S=>(qd6 turn xs S).bind fun S=>.ok (S,[n])
  | _=>.no
 | _=>.no
def qqd (turn:W→qaa→R (qaa × List Nat)) (z:Iter × qaa):R qaa:=match z.1 with
 | .lk n xs=>(lckC n (z.2++[.lst []])).bind fun S0=>(qjW turn xs S0 [n]).bind fun y=>unlN y.2 y.1
 | _=>.no
def qhA (fu:Nat) (turn:W→qaa→R qaa) (it:Iter) (S:qaa):R qaa:=match it with
 | .st xs=>qee turn xs S
 | .cl n=>qhL turn n fu 0 S
 | .lk n xs=>(lckC n S).bind fun S=>(qd6 turn xs S).bind (unlC n)
def qcA (ws:List W) (S:qaa):Option (List P):=match ws with
 | []=>some []
 | w::ws=>match w.view S,qcA ws S with
  | some p,some ps=>some (p::ps)
  | _,_=>none
def qe0 (kp:Bool) (x:W) (xs:List W) (S:qaa):R (W × qaa):=match x,xs with
 | .c n,[w]=>(qdk kp n w S).bind fun S=>.ok (.v .non,S)
 | _,_=>.no
def qdp (kp:Bool) (x:W) (xs:List W) (S:qaa):R (W × qaa):=match x,xs with
 | .c n,[w]=>match S[n]?,w.view S with
  | some (.lst acc),some (.lst ps)=>if acc.length + ps.length≤lim then (write kp n (.lst (acc++ps.map .v)) S).bind fun S=>.ok (.v .non,S) else .no
  | some (.lst acc),none=>match w with
   | .c m=>match S[m]? with
    | some (.lst ws)=>if acc.length + ws.length≤lim then (write kp n (.lst (acc++ws)) S).bind fun S=>.ok (.v .non,S) else .no
    | _=>.no
   | .v _=>.no
  | _,_=>.no
 | _,_=>.no
def qh5 (kp:Bool) (x:W) (xs:List W) (S:qaa):R (W × qaa):=match x,xs with
 | .c n,[.v p]=>match S[n]?,qaU p with
  | some (.dct kvs),some k=>match getK kvs k with
   | some w=>(write kp n (.dct (delK kvs k)) S).bind fun S=>.ok (w,S)
   | none=>.no
  | _,_=>.no
 | _,_=>.no
def qju (kp:Bool) (x:W) (xs:List W) (S:qaa):R (W × qaa):=match x,xs with
 | .c n,[.v (.int i)]=>match S[n]? with
  | some (.lst acc)=>match ixN acc.length i with
   | some j=>match acc[j]? with
    | some w=>(write kp n (.lst (acc.eraseIdx j)) S).bind fun S=>.ok (w,S)
    | none=>.no
   | none=>.no
  | _=>.no
 | _,_=>.no
def qlF (kp:Bool) (x:W) (xs:List W) (S:qaa):R (W × qaa):=match x,xs with
 | .c n,[.v (.int i),w]=>match S[n]? with
  | some (.lst acc)=>if acc.length < lim∧0≤i∧i < 1000000000 then (write kp n (.lst (acc.take i.toNat++[w]++acc.drop i.toNat)) S).bind fun S=>.ok (.v .non,S) else .no
  | _=>.no
 | _,_=>.no
def qhb (x:W) (xs:List W) (S:qaa):R (W × qaa):=match x,xs with
 | .v (.str a),[w]=>match w.view S with
  | some (.lst l)=>match qcc l with
   | some ys=>if (ys.map (·.length)).sum + ys.length * a.length≤lim then ok1 S (.str (Txt.join a ys)) else .no
   | none=>.no
  | _=>.no
 | _,_=>.no
def qgx (x:W) (xs:List W) (S:qaa):R (W × qaa):=match x,xs with
 | .v (.str a),[.v (.str b)]=>if (b.length == 0)=false∧a.length + 2≤lim then ok1 S (.lst ((Txt.split a b).map .str)) else .no
 | _,_=>.no
def qeV (x:W) (xs:List W) (S:qaa):R (W × qaa):=match x,xs with
 | .v (.str a),[.v (.str b)]=>if (b.length == 0)=false∧a.length + 2≤lim then qaL (.lst ((Txt.split a b).map fun s=>.v (.str s))) S else .no
 | _,_=>.no
def bmOp (kp:Bool) (m:BM) (x:W) (xs:List W) (S:qaa):R (W × qaa):=match m with
 | .append=>qe0 kp x xs S
 | .extend=>qdp kp x xs S
 | .pop0=>qju kp x xs S
 | .join=>qhb x xs S
 | .split=>qgx x xs S
 | .insert=>qlF kp x xs S
 | .splitC=>qeV x xs S
 | .popK=>qh5 kp x xs S
 | _=>.no
def bmTy (m:BM) (x:W) (S:qaa):Bool:=match m,x with
 | .append,.c n=>isLst S[n]?
 | .extend,.c n=>isLst S[n]?
 | .pop0,.c n=>isLst S[n]?
 | .insert,.c n=>isLst S[n]?
 | .popK,.c n=>isDk S[n]?
 | .join,.v (.str _)=>true
 | .split,.v (.str _)=>true
 | .splitC,.v (.str _)=>true
 | _,_=>false
where
 isLst:Option Cell→Bool
  | some (.lst _)=>true
  | _=>false
 isDk:Option Cell→Bool
  | some (.dct _)=>true
  | _=>false
def qc6 (q:W × qaa) (k:qaa→R (W × qaa)) (o:Bool):R (W × qaa):=match q.1.view q.2 with
 | some p=>match qcZ p with
  | some b=>if b=o then k q.2 else .ok q
  | none=>.no
 | none=>.no
def qaC (m:R (W × qaa)):R (Bool × qaa):=m.bind fun q=>match q.1.view q.2 with
 | some p=>match qcZ p with
  | some b=>.ok (b,q.2)
  | none=>.no
 | none=>.no
def qeR:List W→R Iter
 | [.v (.int j)]=>if -4611686018427387904≤j∧j < 4611686018427387904 then .ok (.st ((List.range j.toNat).map fun (i:Nat)=>W.v (.int (0 + (i:Int))))) else .no
 | [.v (.int a),.v (.int j)]=>if -4611686018427387904≤a∧a < 4611686018427387904∧-4611686018427387904≤j∧j < 4611686018427387904 then .ok (.st ((List.range (j - a).toNat).map fun (i:Nat)=>W.v (.int (a + (i:Int))))) else .no
 | _=>.no
def qh8 (xs:List P):List W:=(List.range xs.length).map fun (i:Nat)=>.v (.tup [.int (i:Int),(xs[i]?).getD .non])
def qeN (f:BF) (ws:List W) (S:qaa):R (W × qaa):=match f,ws with
 | .len,[.c n]=>match S[n]? with
  | some (.lst xs)=>.ok (.v (.int xs.length),S)
  | some (.dct kvs)=>.ok (.v (.int kvs.length),S)
  | some (.lkd kvs)=>.ok (.v (.int kvs.length),S)
  | _=>.no
 | .repr,[.c n]=>match dW S 4 (.c n) with
  | some d=>if (SeqAt.shaped d && (d.showable && decide (d.shown.length≤lim)))=true then .ok (.v (.str d.shown),S) else .no
  | none=>.no
 | _,_=>.no
def qng (env:Env) (is:List Nat) (j:Nat):List P→Option (List Str)
 | []=>some []
 | x::xs=>match qeh (.tup is) (.v x) env with
  | some e=>match e[j]? with
   | some (some (.v (.str s)))=>(qng env is j xs).map (s::·)
   | _=>none
  | none=>none
def rowP:W→Option (List P)
 | .v (.lst xs)=>some xs
 | .v (.tup xs)=>some xs
 | _=>none
mutual
def evE (C:Cn):E→Env→qaa→R (W × qaa)
 | .var i,env,S=>match env[i]? with
  | some (some w)=>.ok (w,S)
  | _=>.no
 | .lit p,_,S=>.ok (.v p,S)
 | .glo x,_,S=>match C.g.glo x with
  | some p=>.ok (.v p,S)
  | none=>.no
 | .bin o a b,env,S=>(evE C a env S).bind fun q=>(evE C b env q.2).bind fun q2=>qaP o q.1 q2.1 q2.2
 | .cmp o a b,env,S=>(evE C a env S).bind fun q=>(evE C b env q.2).bind fun q2=>qaH o q.1 q2.1 q2.2
 | .chn o o' a b c,env,S=>(evE C a env S).bind fun q=>(evE C b env q.2).bind fun q2=>(qaH o q.1 q2.1 q2.2).bind fun z=>match z.1 with
  | .v (.bl true)=>(evE C c env z.2).bind fun q3=>qaH o' q2.1 q3.1 q3.2
  | .v (.bl false)=>.ok (.v (.bl false),z.2)
  | _=>.no
 | .and a b,env,S=>(evE C a env S).bind fun q=>qc6 q (fun S=>evE C b env S) true
 | .or a b,env,S=>(evE C a env S).bind fun q=>qc6 q (fun S=>evE C b env S) false
 | .not a,env,S=>(qaC (evE C a env S)).bind fun q=>.ok (.v (.bl (!q.1)),q.2)
 | .ite t a b,env,S=>(qaC (evE C t env S)).bind fun q=>if q.1=true then evE C a env q.2 else evE C b env q.2
 | .tup l,env,S=>(evL C l env S).bind fun q=>if q.1.length≤lim then (qax q.1 q.2).bind fun q=>.ok (.v (.tup q.1),q.2) else .no
 | .lst true l,env,S=>(evL C l env S).bind fun q=>if q.1.length≤lim then qaL (.lst q.1) q.2 else .no
 | .lst false l,env,S=>(evL C l env S).bind fun q=>if q.1.length≤lim then (qax q.1 q.2).bind fun q=>.ok (.v (.lst q.1),q.2) else .no
 | .dic cell l,env,S=>(evK (C.in_ cell) l env (S++[.dct []])).noEx.bind fun q=>match q.2[S.length]? with
  | some (.dct [])=>if 15 < q.1.length then .no else (write (C.keep && cell) S.length (.dct (q.1.foldl (fun acc z=>setK acc z.1 z.2) [])) q.2).bind fun S2=>finC C.keep cell S.length S2
  | _=>.no
 | .lc cell own tg it ifs elt,env,S=>(evI C it env S).bind fun q=>(qhA C.g.fu (fun x S=>match qbp tg x S (qbV env (own.map (·.2))) with
   | some env=>(evIf (C.in_ cell) ifs env S).noEx.bind fun b=>if b.1=true then (evE (C.in_ cell) elt env b.2).noEx.bind fun z=>qdk (C.keep && cell) q.2.length z.1 z.2 else .ok b.2
   | none=>.no) q.1 (q.2++[.lst []])).bind fun S2=>finC C.keep cell q.2.length S2
 | .lc2 cell own own1 tg a ifs tg1 a1 ifs1 elt,env,S=>(evE C a env S).bind fun q=>(qh2 vlW q).bind fun z=>(qqd (fun x S=>match qbp tg x S (qbV env (own.map (·.2))) with
   | some env=>(evIf (C.in_ cell) ifs env S).noEx.bind fun b=>if b.1=true then (evE (C.in_ cell) a1 env b.2).noEx.bind fun q1=>(qh2 vlW q1).bind (qqn q.2 fun x S=>match qbp tg1 x S (qbV env (own1.map (·.2))) with
     | some env=>(evIf (C.in_ cell) ifs1 env S).noEx.bind fun b=>if b.1=true then (evE (C.in_ cell) elt env b.2).noEx.bind fun z=>qdk (C.keep && cell) q.2.length z.1 z.2 else .ok b.2
     | none=>.no)
    else .ok (b.2,[])
   | none=>.no) z).bind fun S2=>finC C.keep cell q.2.length S2
 | .dc cell own tg it ifs k v,env,S=>(evI C it env S).bind fun q=>(qhA C.g.fu (fun x S=>match qbp tg x S (qbV env (own.map (·.2))) with
   | some env=>(evIf (C.in_ cell) ifs env S).noEx.bind fun b=>if b.1=true then (evE (C.in_ cell) k env b.2).noEx.bind fun y=>(evE (C.in_ cell) v env y.2).noEx.bind fun z=>match y.1 with
     | .v p=>match qaU p with
      | some k=>putC (C.keep && cell) q.2.length k z.1 z.2
      | none=>.no
     | _=>.no
    else .ok b.2
   | none=>.no) q.1 (q.2++[.dct []])).bind fun S2=>finC C.keep cell q.2.length S2
 | .sub a i,env,S=>(evE C a env S).bind fun q=>(evE C i env q.2).bind fun q2=>qb0 q.1 q2.1 q2.2
 | .slc a lo hi,env,S=>(evE C a env S).bind fun q=>(evO C lo env q.2).bind fun q2=>(evO C hi env q2.2).bind fun q3=>qgJ q.1 q2.1 q3.1 q3.2
 | .att a f,env,S=>(evE C a env S).bind fun q=>qel C.g.fld q.1 f q.2
 | .call f l,env,S=>if C.g.fn f=true then (evL C l env S).bind fun q=>C.call f q.1 q.2 else .no
 | .make f l,env,S=>if C.g.fn f=true then (evL C l env S).bind fun q=>C.call f q.1 q.2 else .no
 | .meth a m l,env,S=>(evE C a env S).bind fun q=>match qbv m q.1 q.2 with
  | some c=>if C.g.met c m=true then (evL C l env q.2).bind fun q2=>C.call (c++"."++m) (q.1::q2.1) q2.2 else .no
  | none=>.no
 | .bm m a l,env,S=>(evE C a env S).bind fun q=>if bmTy m q.1 q.2=true then (evL C l env q.2).bind fun q2=>bmOp C.keep m q.1 q2.1 q2.2 else .no
 | .bf f l,env,S=>(evL C l env S).bind fun q=>match qcA q.1 q.2 with
  | some ps=>match bfOp f ps with
   | some p=>.ok (.v p,q.2)
   | none=>.no
  | none=>qeN f q.1 q.2
 | .listC a,env,S=>(evE C a env S).bind fun q=>match q.1.view q.2 with
  | some (.lst xs)=>qaL (.lst (xs.map .v)) q.2
  | some (.tup xs)=>qaL (.lst (xs.map .v)) q.2
  | some (.scr ns)=>qaL (.lst (ns.map fun i=>.v (.int i))) q.2
  | _=>.no
 | .listItems cell a,env,S=>(evE C a env S).bind fun q=>match q.1.view q.2 with
  | some (.dct kvs)=>if cell=true then qaL (.lst ((kvs.map fun z=>.tup [kP z.1,z.2]).map .v)) q.2 else .ok (.v (.lst (kvs.map fun z=>.tup [kP z.1,z.2])),q.2)
  | _=>.no
 | .mx l,env,S=>(evL C l env S).bind fun q=>match qcA q.1 q.2 with
  | some ps=>match bfOp .max2 ps with
   | some p=>.ok (.v p,q.2)
   | none=>.no
  | none=>.no
 | .has neg a b,env,S=>(evE C a env S).bind fun q=>(evE C b env q.2).bind fun q2=>match qbv "__contains__" q2.1 q2.2 with
  | some c=>if C.g.met c "__contains__"=true then (C.call (c++"."++"__contains__") [q2.1,q.1] q2.2).bind fun r=>match r.1 with
    | .v (.bl k)=>.ok (.v (.bl (if neg=true then !k else k)),r.2)
    | _=>.no
   else .no
  | none=>.no
 | .fstr l,env,S=>(evJ C l env S Str.empty).bind fun q=>.ok (.v (.str q.1),q.2)
 | .pf f a,env,S=>(evE C a env S).bind fun q=>match q.1.view q.2 with
  | some x=>match pfOp f x with
   | some p=>.ok (.v p,q.2)
   | none=>.no
  | none=>tupC f q.1 q.2
 | .xatt a f,env,S=>(evE C a env S).bind fun q=>match q.1 with
  | .v (.exc c fs)=>match C.g.xfl c f,fs.lookup f with
   | true,some p=>.ok (.v p,q.2)
   | _,_=>.no
  | _=>.no
 | .dicC a,env,S=>(evE C a env S).bind fun q=>match q.1.view q.2 with
  | some (.dct kvs)=>qaL (.dct (kvs.map fun z=>(z.1,.v z.2))) q.2
  | some (.lst l)=>match qbS l with
   | some kvs=>qaL (.dct ((qeC [] kvs).map fun z=>(z.1,.v z.2))) q.2
   | none=>.no
  | _=>.no
 | .norm a,env,S=>(evE C a env S).bind fun q=>.ok (q.1.norm,q.2)
 | .eqO a b,env,S=>(evE C a env S).bind fun q=>(evE C b env q.2).bind fun q2=>match qbv "__eq__" q.1 q2.2,qbv "__eq__" q2.1 q2.2 with
  | some c,some c'=>if C.g.met c "__eq__"=true∧c=c' then (C.call (c++"."++"__eq__") [q.1,q2.1] q2.2).bind fun r=>match r.1 with
    | .v (.bl k)=>.ok (.v (.bl k),r.2)
    | _=>.no
   else .no
  | _,_=>.no
 | .lenO a,env,S=>(evE C a env S).bind fun q=>match qbv "__len__" q.1 q.2 with
  | some c=>if C.g.met c "__len__"=true then (C.call (c++"."++"__len__") [q.1] q.2).bind fun r=>match r.1 with
    | .v (.int i)=>if 0≤i∧i < 1000000000 then .ok (.v (.int i),r.2) else .no
    | _=>.no
   else .no
  | none=>.no
 | .isC c a,env,S=>if C.g.cls c=true then (evE C a env S).bind fun q=>match qbv "__class__" q.1 q.2 with
   | some c'=>if c'=c then .ok (.v (.bl true),q.2) else if C.g.cls c'=true∧C.g.isd c' c=true then .ok (.v (.bl false),q.2) else .no
   | none=>notC q.1 q.2
  else .no
 | .binO o a b,env,S=>(evE C a env S).bind fun q=>(evE C b env q.2).bind fun q2=>match qbv o.dn q.1 q2.2 with
  | some c=>if C.g.met c o.dn=true∧C.g.cls c=true∧qpx c o.dn q2.1 q2.2=true then (C.call (c++"."++o.dn) [q.1,q2.1] q2.2).bind objR else .no
  | none=>.no
 | .cmpO o a b,env,S=>(evE C a env S).bind fun q=>(evE C b env q.2).bind fun q2=>match qbv o.dn q.1 q2.2,qbv o.dn q2.1 q2.2 with
  | some c,some c'=>if C.g.met c o.dn=true∧C.g.cls c=true∧c=c' then (C.call (c++"."++o.dn) (if o.turned=true then [q2.1,q.1] else [q.1,q2.1]) q2.2).bind (blR o.neg) else .no
  | _,_=>.no
 | .eqP a b,env,S=>(evE C a env S).bind fun q=>(evE C b env q.2).bind fun q2=>match qbv "__eq__" q.1 q2.2 with
  | some c=>if C.g.met c "__eq__"=true∧C.g.cls c=true∧othB C.g c q2.1 q2.2=true then (C.call (c++"."++"__eq__") [q.1,q2.1] q2.2).bind (blR false) else .no
  | none=>.no
 | .inG neg x a,env,S=>match C.g.tab x with
  | some kvs=>(evE C a env S).bind fun q=>match q.1 with
   | .v (.str z)=>.ok (.v (.bl (if neg=true then !(kvs.lookup z).isSome else (kvs.lookup z).isSome)),q.2)
   | _=>.no
  | none=>.no
 | .subG x a,env,S=>match C.g.tab x with
  | some kvs=>(evE C a env S).bind fun q=>match q.1 with
   | .v (.str z)=>match kvs.lookup z with
    | some p=>.ok (.v p,q.2)
    | none=>.no
   | _=>.no
  | none=>.no
 | .isX cs a,env,S=>if cs.all C.g.isn=true then (evE C a env S).bind fun q=>match q.1 with
   | .v (.exc c _)=>match qcf (C.g.isx c) cs with
    | some b=>.ok (.v (.bl b),q.2)
    | none=>.no
   | _=>.no
  else .no
 | .lenS own is j a,env,S=>(evE C a env S).bind fun q=>match rowP q.1 with
  | some xs=>match qng (qbV env (own.map (·.2))) is j xs with
   | some ss=>if ss.length≤4000 then .ok (.v (.int (qjF ss).length),q.2) else .no
   | none=>.no
  | none=>.no
 | .rev a,env,S=>(evE C a env S).bind fun q=>match q.1.view q.2 with
  | some (.lst xs)=>.ok (.v (.lst xs.reverse),q.2)
  | _=>.no
 | .dicW l,env,S=>(evK0 C l env (S++[.dct []])).noEx.bind fun q=>match q.2[S.length]? with
  | some (.dct [])=>if 15 < q.1.length then .no else (write C.keep S.length (.dct (q.1.foldl (fun acc z=>setK acc z.1 z.2) [])) q.2).bind fun S2=>finC C.keep true S.length S2
  | _=>.no
 | .dnT,_,S=>qaL (.dtt []) S
 | .inT neg l a,env,S=>(evL C l env S).bind fun q=>if q.1.length≤100 then (evE C a env q.2).bind fun q2=>qoz neg q.1 q2.1 q2.2 else .no
 | .subT a l,env,S=>(evE C a env S).bind fun q=>(evL C l env q.2).bind fun q2=>if q2.1.length≤100 then qml q.1 q2.1 q2.2 else .no
 | .getT a l d,env,S=>(evE C a env S).bind fun q=>if qpO q.1 q.2=true then (evL C l env q.2).bind fun q2=>if q2.1.length≤100 then (evE C d env q2.2).bind fun q3=>qmF q.1 q2.1 q3.1 q3.2 else .no else .no
 | .popT a l,env,S=>(evE C a env S).bind fun q=>if qoU q.1 q.2=true then (evL C l env q.2).bind fun q2=>if q2.1.length≤100 then qnb C.keep q.1 q2.1 q2.2 else .no else .no
 | .callH f l,env,S=>if C.g.fnH f=true then (evL C l env S).bind fun q=>(C.call f q.1 q.2).noEx else .no
 | .catT a b,env,S=>(evE C a env S).bind fun q=>(evE C b env q.2).bind fun q2=>qpJ q.1 q2.1 q2.2
 | .tupd l,env,S=>(evL C l env S).bind fun q=>if q.1.length≤lim then (qax q.1 q.2).bind fun q=>.ok (.v (.tpp q.1),q.2) else .no
 | .tupC l,env,S=>(evL C l env S).bind fun q=>if q.1.length≤lim then qaL (.tup q.1) q.2 else .no
 | .dicTP a,env,S=>(evE C a env S).bind fun q=>dicTP q.1 q.2
 | .listV a,env,S=>(evE C a env S).bind fun q=>match q.1 with
  | .v (.dct kvs)=>.ok (.v (.lst (kvs.map (·.2))),q.2)
  | _=>.no
 | .callK f l,env,S=>if C.keep=true∧C.g.fnK f=true then (evL C l env S).bind fun q=>C.call f q.1 q.2 else .no
 | .makeK f l,env,S=>if C.keep=true∧C.g.fnK f=true then (evL C l env S).bind fun q=>C.call f q.1 q.2 else .no
 | .methK a m l,env,S=>(evE C a env S).bind fun q=>match qbv m q.1 q.2 with
  | some c=>if C.keep=true∧C.g.metK c m=true then (evL C l env q.2).bind fun q2=>C.call (c++"."++m) (q.1::q2.1) q2.2 else .no
  | none=>.no
 | .methO a m l,env,S=>(evE C a env S).bind fun q=>match qbv m q.1 q.2 with
  | some c=>if C.keep=true∧C.g.metO c m=true then (evL C l env q.2).bind fun q2=>C.call (c++"."++m++"!") (q.1::q2.1) q2.2 else .no
  | none=>.no
 | .isL a,env,S=>(evE C a env S).bind fun q=>match q.1 with
  | .v p=>if qcB p=true then .ok (.v (.bl (qfU p)),q.2) else .no
  | .c n=>match q.2[n]? with
   | some (.lst _)=>.ok (.v (.bl true),q.2)
   | some (.tup _)=>.ok (.v (.bl false),q.2)
   | _=>.no
 | .mkE c l,env,S=>match C.g.exc c with
  | some fl=>if fl.length=l.len then (evL C l env S).bind fun q=>if q.1.length=fl.length then (qax q.1 q.2).bind fun z=>.ok (.v (.exc c (fl.zip z.1).reverse),z.2) else .no else .no
  | none=>.no
 | .mkW c ks l,env,S=>match C.g.exc c with
  | some fl=>if ks=fl.reverse∧ks≠[] then (evL C l env S).bind fun q=>if q.1.length=fl.length then (qax q.1 q.2).bind fun z=>.ok (.v (.exc c (fl.zip z.1.reverse).reverse),z.2) else .no else .no
  | none=>.no
 | .isVE a,env,S=>(evE C a env S).bind fun q=>match q.1 with
  | .v (.exc c _)=>match C.g.exc c,C.g.isx c c with
   | some _,some _=>.ok (.v (.bl true),q.2)
   | _,_=>.no
  | _=>.no
 | .clr a,env,S=>(evE C a env S).bind fun q=>match q.1 with
  | .c n=>match q.2[n]? with
   | some (.dct _)=>.ok (.v .non,q.2.set n (.dct []))
   | _=>.no
  | .v _=>.no
 | .get a k,env,S=>(evE C a env S).bind fun q=>if qnc q.1 q.2=true then (evE C k env q.2).bind fun q2=>qmN q.1 q2.1 (.v .non) q2.2 else .no
 | .get2 a k d,env,S=>(evE C a env S).bind fun q=>if qnc q.1 q.2=true then (evE C k env q.2).bind fun q2=>(evE C d env q2.2).bind fun q3=>qmN q.1 q2.1 q3.1 q3.2 else .no
 | _,_,_=>.no
def evL (C:Cn):E→Env→qaa→R (List W × qaa)
 | .nil,_,S=>.ok ([],S)
 | .cons a l,env,S=>(evE C a env S).bind fun q=>(evL C l env q.2).bind fun q2=>.ok (q.1::q2.1,q2.2)
 | .star a l,env,S=>(evE C a env S).bind fun q=>match q.1.view q.2 with
  | some (.lst xs)=>(evL C l env q.2).bind fun q2=>.ok (xs.map .v++q2.1,q2.2)
  | some (.tup xs)=>(evL C l env q.2).bind fun q2=>.ok (xs.map .v++q2.1,q2.2)
  | some (.dct kvs)=>(evL C l env q.2).bind fun q2=>.ok ((kvs.map fun z=>.v (kP z.1))++q2.1,q2.2)
  | _=>.no
 | _,_,_=>.no
def evK (C:Cn):E→Env→qaa→R (List (Key × W) × qaa)
 | .nil,_,S=>.ok ([],S)
 | .kv k v l,env,S=>(evE C k env S).bind fun q=>(evE C v env q.2).bind fun q2=>(evK C l env q2.2).bind fun q3=>match q.1 with
  | .v p=>match qaU p with
   | some k=>(frzT q3.2 q2.1).bind fun z=>.ok ((k,z.1)::q3.1,z.2)
   | none=>.no
  | _=>.no
 | _,_,_=>.no
/-- .. whose values stay what they are -/
def evK0 (C:Cn):E→Env→qaa→R (List (Key × W) × qaa)
 | .nil,_,S=>.ok ([],S)
 | .kv k v l,env,S=>(evE C k env S).bind fun q=>(evE C v env q.2).bind fun q2=>(evK0 C l env q2.2).bind fun q3=>match q.1 with
  | .v p=>match qaU p with
   | some k=>.ok ((k,q2.1)::q3.1,q3.2)
   | none=>.no
  | _=>.no
 | _,_,_=>.no
def evI (C:Cn):E→Env→qaa→R (Iter × qaa)
 | .it a,env,S=>(evE C a env S).bind fun q=>(qba q.1 q.2).bind fun z=>.ok (z,q.2)
 | .rng l,env,S=>(evL C l env S).bind fun q=>(qeR q.1).bind fun z=>.ok (z,q.2)
 | .vals a,env,S=>(evE C a env S).bind fun q=>match q.1 with
  | .v (.dct kvs)=>.ok (.st (kvs.map fun z=>.v z.2),q.2)
  | _=>.no
 | .items a,env,S=>(evE C a env S).bind fun q=>match q.1 with
  | .v (.dct kvs)=>.ok (.st (kvs.map fun z=>.v (.tup [kP z.1,z.2])),q.2)
  | _=>.no
 | .enum a,env,S=>(evE C a env S).bind fun q=>match q.1 with
  | .v (.lst xs)=>.ok (.st (qh8 xs),q.2)
  | .v (.tup xs)=>.ok (.st (qh8 xs),q.2)
  | _=>.no
 | .keysD a,env,S=>(evE C a env S).bind (qh2 fun z=>.one (.v (kP z.1)))
 | .valsD a,env,S=>(evE C a env S).bind (qh2 fun z=>.one z.2)
 | .itemsD a,env,S=>(evE C a env S).bind (qh2 fun z=>.two (kP z.1) z.2)
 | .keysT a,env,S=>(evE C a env S).bind (qjs fun z=>.one (.v (tP z.1)))
 | .itemsT a,env,S=>(evE C a env S).bind (qjs fun z=>.two (tP z.1) z.2)
 | .itemsK a,env,S=>(evE C a env S).bind (qjs fun z=>.two (.tpk z.1) z.2)
 | .valsT a,env,S=>(evE C a env S).bind (qjs fun z=>.one z.2)
 | _,_,_=>.no
def evJ (C:Cn):E→Env→qaa→Str→R (Str × qaa)
 | .nil,_,S,acc=>.ok (acc,S)
 | .star a l,env,S,acc=>(evE C a env S).bind fun q=>match q.1 with
  | .v (.str s)=>if acc.length + s.length≤lim then evJ C l env q.2 (acc++s) else .no
  | _=>.no
 | .cons a l,env,S,acc=>(evE C a env S).bind fun q=>match q.1 with
  | .v (.str s)=>if acc.length + s.length≤lim then evJ C l env q.2 (acc++s) else .no
  | .v (.int i)=>if i.natAbs.log2 < 1920∧acc.length + (Str.ofString (toString i)).length≤lim then evJ C l env q.2 (acc++Str.ofString (toString i)) else .no
  | _=>.no
 | _,_,_,_=>.no
def evO (C:Cn):E→Env→qaa→R (Option Int × qaa)
 | .nil,_,S=>.ok (none,S)
 | .cons a _,env,S=>(evE C a env S).bind fun q=>match q.1 with
  | .v (.int i)=>.ok (some i,q.2)
  | _=>.no
 | _,_,_=>.no
def evIf (C:Cn):E→Env→qaa→R (Bool × qaa)
 | .nil,_,S=>.ok (true,S)
 | .cons a _,env,S=>qaC (evE C a env S)
 | _,_,_=>.no
end
def evT (C:Cn) (t:E) (env:Env) (S:qaa):R (Bool × qaa):=qaC (evE C t env S)
inductive RS where
 | nx (env:Env) (S:qaa) | ret (w:W) (S:qaa) | bk (env:Env) (S:qaa) | ct (env:Env) (S:qaa)
 | ex (c:Str) (fs:List (Str × P)) (env:Env) (S:qaa) | no
def lift {α:Type} (env:Env) (m:R α) (k:α→RS):RS:=match m with
 | .ok a=>k a
 | .ex c fs S=>.ex c fs env S
 | .no=>.no
def forL (body:Env→qaa→RS) (tg:Tg):List W→Env→qaa→RS
 | [],env,S=>.nx env S
 | x::xs,env,S=>match qbp tg x S env with
  | some env=>match body env S with
   | .nx e s=>forL body tg xs e s
   | .ct e s=>forL body tg xs e s
   | .bk e s=>.nx e s
   | r=>r
  | none=>.no
def forC (body:Env→qaa→RS) (tg:Tg) (n:Nat):Nat→Nat→Env→qaa→RS
 | 0,_,_,_=>.no
 | fu + 1,i,env,S=>match S[n]? with
  | some (.lst xs)=>match xs[i]? with
   | some x=>match qbp tg x S env with
    | some env=>match body env S with
     | .nx e s=>forC body tg n fu (i + 1) e s
     | .ct e s=>forC body tg n fu (i + 1) e s
     | .bk e s=>.nx e s
     | r=>r
    | none=>.no
   | none=>.nx env S
  | _=>.no
def qeK (body:Env→qaa→RS) (tg:Tg):List Itm→Env→qaa→RS
 | [],env,S=>.nx env S
 | x::xs,env,S=>lift env (qgG x S) fun q=>match qbp tg q.1 q.2 env with
  | some env=>match body env q.2 with
   | .nx e s=>qeK body tg xs e s
   | .ct e s=>qeK body tg xs e s
   | .bk e s=>.nx e s
   | r=>r
  | none=>.no
def unlS (n:Nat) (r:RS):RS:=match r with
 | .nx env S=>match unlC n S with
  | .ok S=>.nx env S
  | _=>.no
 | .ret w S=>match unlC n S with
  | .ok S=>.ret w S
  | _=>.no
 | _=>.no
def qhc (test:Env→qaa→R (Bool × qaa)) (body:Env→qaa→RS):Nat→Env→qaa→RS
 | 0,_,_=>.no
 | fu + 1,env,S=>lift env (test env S) fun q=>if q.1=true then match body env q.2 with
   | .nx e s=>qhc test body fu e s
   | .ct e s=>qhc test body fu e s
   | .bk e s=>.nx e s
   | r=>r
  else .nx env q.2
def qb6 (kp:Bool) (o i w:W) (S:qaa):R qaa:=match o,i with
 | .c n,.v p=>match S[n]?,p with
  | some (.lst xs),.int i=>match ixN xs.length i with
   | some j=>write kp n (.lst (xs.set j w)) S
   | none=>.no
  | some (.dct kvs),p=>match qaU p with
   | some k=>if kvs.length < lim then write kp n (.dct (setK kvs k w)) S else .no
   | none=>.no
  | _,_=>.no
 | _,_=>.no
def qkt (kp:Bool) (o:W) (ks:Option (List Key)) (w:W) (S:qaa):R qaa:=match o,ks with
 | .c n,some k=>match S[n]? with
  | some (.dtt kvs)=>if kvs.length < lim∧k.length≤100 then write kp n (.dtt (qqf kvs k w)) S else .no
  | _=>.no
 | _,_=>.no
def qnh (kp:Bool) (o i:W) (S:qaa):R qaa:=match o,i with
 | .c n,.v p=>match S[n]?,qaU p with
  | some (.dct kvs),some k=>if (getK kvs k).isSome=true then write kp n (.dct (delK kvs k)) S else .no
  | _,_=>.no
 | _,_=>.no
def qg3 (kp:Bool) (fl:Str→Str→Bool) (o:W) (f:Str) (w:W) (S:qaa):R qaa:=match o with
 | .c n=>match S[n]? with
  | some (.ins c fs)=>if fs.length < 100∧fl c f=true then write kp n (.ins c (setF f w fs)) S else .no
  | _=>.no
 | _=>.no
def setH (i:Option Nat) (c:Str) (fs:List (Str × P)) (env:Env):Env:=match i with
 | some i=>env.set i (some (.v (.exc c fs)))
 | none=>env
def clrH (i:Option Nat) (env:Env):Env:=match i with
 | some i=>env.set i none
 | none=>env
def qfq (f:Str→Bool):S→Bool
 | .hd x _ _ r=>f x && qfq f r
 | _=>true
def sufH (i:Option Nat) (r:RS):RS:=match r with
 | .nx env S=>.nx (clrH i env) S
 | .bk env S=>.bk (clrH i env) S
 | .ct env S=>.ct (clrH i env) S
 | .ret w S=>.ret w S
 | .ex _ _ _ _=>.no
 | .no=>.no
mutual
def exS (C:Cn):S→Env→qaa→RS
 | .nil,env,S=>.nx env S
 | .cons a r,env,S=>match exS C a env S with
  | .nx e s=>exS C r e s
  | q=>q
 | .expr e,env,S=>lift env (evE C e env S) fun q=>.nx env q.2
 | .ret e,env,S=>lift env (evE C e env S) fun q=>.ret q.1 q.2
 | .pass,env,S=>.nx env S
 | .set i e,env,S=>lift env (evE C e env S) fun q=>.nx (env.set i (some q.1)) q.2
 | .setT is e,env,S=>lift env (evE C e env S) fun q=>match qbp (.tup is) q.1 q.2 env with
  | some env=>.nx env q.2
  | none=>.no
 | .par is l,env,S=>lift env (evL C l env S) fun q=>match qaT env is q.1 with
  | some env=>.nx env q.2
  | none=>.no
 | .sub o i e,env,S=>lift env (evE C e env S) fun q=>lift env (evE C o env q.2) fun q1=>lift env (evE C i env q1.2) fun q2=>lift env (qb6 C.keep q1.1 q2.1 q.1 q2.2) fun S=>.nx env S
 | .subT o l e,env,S=>lift env (evE C e env S) fun q=>lift env (evE C o env q.2) fun q1=>lift env (evL C l env q1.2) fun q2=>if q2.1.length≤100 then lift env (qkt C.keep q1.1 (qeq q2.1) q.1 q2.2) fun S=>.nx env S else .no
 | .subZ n i e,env,S=>lift env (evE C e env S) fun q=>lift env (evE C (.var n) env q.2) fun q1=>lift env (evE C i env q1.2) fun q2=>lift env (qb6 C.keep q1.1 q2.1 q.1 q2.2) fun S=>match env[n]? with
  | some (some x)=>lift env (qc1 S x) fun z=>.nx (env.set n (some (.v z.1))) z.2
  | _=>.no
 | .parT o i o' i' l,env,S=>lift env (evL C l env S) fun q=>match q.1 with
  | [x,y]=>lift env (evE C o env q.2) fun q1=>lift env (evE C i env q1.2) fun q2=>lift env (qb6 C.keep q1.1 q2.1 x q2.2) fun S=>lift env (evE C o' env S) fun q3=>lift env (evE C i' env q3.2) fun q4=>lift env (qb6 C.keep q3.1 q4.1 y q4.2) fun S=>.nx env S
  | _=>.no
 | .del o i,env,S=>lift env (evE C o env S) fun q1=>lift env (evE C i env q1.2) fun q2=>lift env (qnh C.keep q1.1 q2.1 q2.2) fun S=>.nx env S
 | .fld o f e,env,S=>lift env (evE C e env S) fun q=>lift env (evE C o env q.2) fun q1=>lift env (qg3 C.keep C.g.fld q1.1 f q.1 q1.2) fun S=>.nx env S
 | .aug i o e,env,S=>match env[i]? with
  | some (some w)=>lift env (evE C e env S) fun q=>lift env (qaP o w q.1 q.2) fun z=>.nx (env.set i (some z.1)) z.2
  | _=>.no
 | .ite t a b,env,S=>lift env (evT C t env S) fun q=>if q.1=true then exS C a env q.2 else exS C b env q.2
 | .whl t b,env,S=>qhc (evT C t) (exS C b) C.g.fu env S
 | .for_ tg it b,env,S=>lift env (evI C it env S) fun q=>match q.1 with
  | .st xs=>forL (exS C b) tg xs env q.2
  | .cl n=>forC (exS C b) tg n C.g.fu 0 env q.2
  | .lk n xs=>lift env (lckC n q.2) fun S=>unlS n (qeK (exS C b) tg xs env S)
 | .brk,env,S=>.bk env S
 | .cnt,env,S=>.ct env S
 | .raise c l,env,S=>match C.g.exc c with
  | some fl=>if fl.length=l.len then lift env (evL C l env S) fun q=>lift env (qax q.1 q.2) fun z=>.ex c (fl.zip z.1).reverse env z.2 else .no
  | none=>.no
 | .try_ b h,env,S=>if qfq C.g.hdl h=true then match exS C b env S with
   | .ex c fs env S=>exH C h c fs env S
   | r=>r
  else .no
 | _,_,_=>.no
def exH (C:Cn):S→Str→List (Str × P)→Env→qaa→RS
 | .hd x i b r,c,fs,env,S=>match C.g.sub c x with
  | some true=>sufH i (exS C b (setH i c fs env) S)
  | some false=>exH C r c fs env S
  | none=>.no
 | .nil,c,fs,env,S=>.ex c fs env S
 | _,_,_,_,_=>.no
end
inductive Fn where
 | fn (n np:Nat) (dfl:List P) (body:S) (own:Bool)
 | cls (init:Str)
 | fnK (n np:Nat) (dfl:List P) (body:S)
 | clsK (init:Str)
def qea (np:Nat) (dfl:List P) (args:List W):Option (List W):=
 if args.length≤np∧np≤args.length + dfl.length then some (args++(dfl.drop (args.length + dfl.length - np)).map .v) else none
def qaM (n:Nat) (args:List W):Env:=args.map some++List.replicate (n - args.length) none
def qbG (own:Bool) (k:Nat) (w:W) (S:qaa):R (W × qaa):=match w with
 | .v p=>.ok (.v p,S.take k)
 | .c n=>if n < k then .ok (.c n,S.take k) else match S[n]? with
  | some c=>match c.view with
   | some p=>if own=true then .ok (.c k,S.take k++[c]) else .ok (.v p,S.take k)
   | none=>if own=true∧c.lows k=true∧c.isT=false then .ok (.c k,S.take k++[c]) else .no
  | none=>.no
def callF (T:Str→Option Fn) (g:Gm):Nat→Str→List W→qaa→R (W × qaa)
 | 0,_,_,_=>.no
 | d + 1,f,args,S=>match T f with
  | some (.fn n np dfl body own)=>match qea np dfl args with
   | some args=>match exS ⟨callF T g d,g,false⟩ body (qaM n args) S with
    | .ret w S1=>qbG own S.length w S1
    | .nx _ S1=>qbG own S.length (.v .non) S1
    | .ex c fs _ S1=>.ex c fs (S1.take S.length)
    | _=>.no
   | none=>.no
  | some (.cls init)=>match callF T g d init (.c S.length::args) (S++[.ins f []]) with
   | .ok (.v .non,S1)=>finC false false S.length S1
   | .ok _=>.no
   | .ex c fs S1=>.ex c fs (S1.take S.length)
   | .no=>.no
  | some (.fnK n np dfl body)=>match qea np dfl args with
   | some args=>match exS ⟨callF T g d,g,true⟩ body (qaM n args) S with
    | .ret w S1=>.ok (w,S1)
    | .nx _ S1=>.ok (.v .non,S1)
    | .ex c fs _ S1=>.ex c fs S1
    | _=>.no
   | none=>.no
  | some (.clsK init)=>match callF T g d init (.c S.length::args) (S++[.ins f []]) with
   | .ok (.v .non,S1)=>.ok (.c S.length,S1)
   | .ok _=>.no
   | .ex c fs S1=>.ex c fs S1
   | .no=>.no
  | none=>.no
end LS
namespace PySem
open Sem (wp)
section
variable {prog:Program} {w:World} {g:Heap} {p:Addr} {ds:List PyData} {bs:List Addr}
theorem qeb {ob:Obj} {its:Array Value} {k:Nat} (e1:g.get? p=some ob) (e2:ob.cls=.type "list") (e3:ob.data=.seq its k) (e4:ReadsAll g its.toList ds bs)
  (hs:(PyData.list ds).showable=true) (hno:sysModules∉bs) (hz:(PyData.list ds).shown.length≤sizeLine):∃ T i,ShowsBy prog w g p (.list ds) T i:=by
 have hz1:(listText (PyData.shownAll ds)).length≤sizeLine:=by
  simpa only [PyData.shown] using hz
 have hs1:PyData.showableAll ds=true:=by simpa [PyData.showable] using hs
 obtain ⟨cs,hc,hall⟩:=ReprAllK.of_readsAll (prog:=prog) (w:=w) e4 hs1 (fun _=>hno) fun t ht=>Nat.le_trans (listText_mem_le ht) hz1
 have hp:p∉cs:=not_mem_of_deeper (.list e1 e2 e3 e4) (by simp only [PyData.depth];omega) hc
 refine ⟨"list","list.__repr__",F.slot_list_repr.toG,F.slot_list_str,F.slot_list_format,?_,?_⟩
 ·intro s hk
  exact ⟨ob,hk _ _ e1,e2⟩
 ·intro A E s Q hg hu hk hQ
  simp only [PyData.depth] at hu
  simp only [PyData.shown] at hQ
  obtain ⟨l⟩:=its
  cases l with
  | nil=>
   have e5:ReadsAll g [] ds bs:=e4
   cases e5
   simp only [PyData.shownAll,listText_nil] at hQ
   have q:=hQ s.heap
   exact call_list_repr_empty ⟨ob,hk _ _ e1,e2⟩ (hk _ _ e1) e3 (q _ _ fun _ _ e=>e)
  | cons x l=>
   have hlen:=hall.length_eq
   refine call_list_reprK e1 e2 e3 hp (by simpa using hlen) (fun i y e=>?_) hg (fun b _=>Clear.nil b) hu hk hQ hz1
   exact hall.item i y (by simpa using e)
theorem qe6 {A:Around} {E:Value→Shared→Prop} {s:Shared} {Q:Value→Shared→Prop} {ob:Obj} {its:Array Value} {k:Nat} (e1:s.heap.get? p=some ob) (e2:ob.cls=.type "list") (e3:ob.data=.seq its k) (e4:ReadsAll s.heap its.toList ds bs)
  (hs:(PyData.list ds).showable=true) (hno:sysModules∉bs) (hz:(PyData.list ds).shown.length≤sizeLine) (hg:A.guards=some []) (hu:A.units + ((PyData.list ds).depth + 1) < cLine)
  (hQ:∀ h' u tk,(∀ b o,s.heap.get? b=some o→h'.get? b=some o)→Q (.str (PyData.list ds).shown u) { s with heap:=h',toks:=tk }):wpAny (model prog w) A (call (.builtin "repr") [.ref p]) Q E s:=by
 obtain ⟨T,i,S⟩:=qeb (prog:=prog) (w:=w) e1 e2 e3 e4 hs hno hz
 refine call_repr_slot (by omega) (S.typeIs s fun _ _ e=>e) S.slotRepr (S.call A.in1 E s _ hg (by show A.units + 1 + (PyData.list ds).depth < cLine;omega) (fun _ _ e=>e) fun h' u tk hk=>?_)
 exact ⟨_,_,rfl,hQ h' u tk hk⟩
end
end PySem
namespace LS
open PySem PySem.Spec PyProof.Rows L2
def qbA:HO→HO
 | .frz o (.dK k)=>.dK k
 | o=>o
theorem qhr {o:HO} {xs:List V} (h:qbA o=.lst xs):o=.lst xs:=by
 unfold qbA at h
 split at h
 ·cases h
 ·exact h
theorem qg0 {o:HO} {xs:List V} (h:qbA o=.tup xs):o=.tup xs:=by
 unfold qbA at h
 split at h
 ·cases h
 ·exact h
theorem qjc {o:HO} {C dx:Addr} {fs:List (Str × V)} (h:qbA o=.ins C dx fs):o=.ins C dx fs:=by
 unfold qbA at h
 split at h
 ·cases h
 ·exact h
theorem qeP {o u:HO} {ob:Obj} (h:qbA o=.frz ob u):o=.frz ob u:=by
 unfold qbA at h
 split at h
 ·cases h
 ·exact h
theorem qjN {o:HO} {φ:Heap→Prop} (h:qbA o=.ext φ):o=.ext φ:=by
 unfold qbA at h
 split at h
 ·cases h
 ·exact h
theorem qlq {o:HO} {fs:List (Str × V)} (h:qbA o=.xd fs):o=.xd fs:=by
 unfold qbA at h
 split at h
 ·cases h
 ·exact h
def excO (cls:Value) (d:Option Addr) (a:Addr):HO:=.ext fun h=>∃ (oe:Obj) (vs:Array Value),h.get? a=some oe∧Zc cls d oe∧oe.data=.fields vs
def LeC (F F':Hp):Prop:=∀ a o,F a=some o→∃ o',F' a=some o'∧qbA o'=qbA o
theorem LeC.refl (F:Hp):LeC F F:=fun _ o e=>⟨o,e,rfl⟩
theorem LeC.trans {F G H:Hp} (a:LeC F G) (b:LeC G H):LeC F H:=fun x o e=>by
 obtain ⟨o1,e1,c1⟩:=a x o e
 obtain ⟨o2,e2,c2⟩:=b x o1 e1
 exact ⟨o2,e2,c2.trans c1⟩
theorem LeC.noneOf {F G:Hp} (a:LeC F G) {x:Addr} (h:G x=none):F x=none:=by
 cases e:F x with
 | none=>rfl
 | some o=>
  obtain ⟨o1,e1,_⟩:=a x o e
  rw [h] at e1
  cases e1
theorem LeC.upd {F:Hp} {p:Addr} {o:HO} (h:F p=none):LeC F (upd F p o):=fun x u e=>⟨u,by rw [upd_ne (ne_of_none e h)];exact e,rfl⟩
theorem LeC.upd2 {F G:Hp} (a:LeC F G) {p:Addr} {o:HO}:LeC (L2.upd F p o) (L2.upd G p o):=fun x u e=>by
 by_cases h:x=p
 ·subst h
  rw [upd_same] at e
  cases e
  exact ⟨o,upd_same,rfl⟩
 ·rw [upd_ne h] at e
  rw [upd_ne h]
  exact a x u e
theorem LeC.right {F G:Hp} (a:LeC F G) {p:Addr} {o:HO} (h:F p=Option.none):LeC F (L2.upd G p o):=fun x u e=>by
 rw [upd_ne (ne_of_none e h)]
 exact a x u e
theorem LeC.sqL {K:PySem.W.Frag} {F G:Hp} (a:LeC F G) {p:Addr} {xs:List V} (h:SqL K F p xs):SqL K G p xs:=by
 rcases h with h | h
 ·left
  rcases h with h | ⟨o,h⟩
  ·obtain ⟨o1,e1,c1⟩:=a p _ h
   left
   rw [e1,qhr (xs:=xs) c1]
  ·obtain ⟨o1,e1,c1⟩:=a p _ h
   right
   exact ⟨o,by rw [e1,qeP (u:=.lst xs) (ob:=o) c1]⟩
 ·exact .inr h
theorem LeC.sqT {K:PySem.W.Frag} {F G:Hp} (a:LeC F G) {p:Addr} {xs:List V} (h:SqT K F p xs):SqT K G p xs:=by
 rcases h with h | h
 ·left
  rcases h with h | ⟨o,h⟩
  ·obtain ⟨o1,e1,c1⟩:=a p _ h
   left
   rw [e1,qg0 (xs:=xs) c1]
  ·obtain ⟨o1,e1,c1⟩:=a p _ h
   right
   exact ⟨o,by rw [e1,qeP (u:=.tup xs) (ob:=o) c1]⟩
 ·exact .inr h
mutual
def RepP (K:PySem.W.Frag) (F:Hp):P→V→Prop
 | .non,v=>v=.non
 | .bl b,v=>v=.bl b
 | .int i,v=>v=.int i
 | .str s,v=>v=.str s
 | .scr ns,v=>∃ a,v=.ref a∧SqL K F a (ns.map V.int)∧ns.length≤sizeLine
 | .lst xs,v=>∃ a vs,v=.ref a∧F a=some (.lst vs)∧qab K F xs vs∧vs.length≤sizeLine
 | .tup xs,v=>∃ a vs,v=.ref a∧SqT K F a vs∧qab K F xs vs∧vs.length≤sizeLine
 | .dct kvs,v=>∃ a kvs' o,v=.ref a∧F a=some o∧qbA o=.dK kvs'∧qac K F kvs kvs'∧kvs'.length≤sizeLine
 | .obj c fs,v=>∃ a dx fs',v=.ref a∧F a=some (.ins (He.ga K c) dx fs')∧qaq K F fs fs'
 | .tpp xs,v=>∃ a vs ob,v=.ref a∧F a=some (.frz ob (.tup vs))∧ob.dict=none∧qab K F xs vs∧vs.length≤sizeLine
 | .tpk ks,v=>∃ a,v=.ref a∧F a=some (.tup (ks.map kV))∧ks.length≤100
 | .exc c fs,v=>∃ a d,v=.ref a∧F a=some (excO (.ref (He.ga K c)) d a)∧(d=none∧fs=[]∨∃ dd fs',d=some dd∧F dd=some (.xd fs')∧qaq K F fs fs')
def qab (K:PySem.W.Frag) (F:Hp):List P→List V→Prop
 | [],vs=>vs=[]
 | x::xs,vs=>∃ v r,vs=v::r∧RepP K F x v∧qab K F xs r
def qac (K:PySem.W.Frag) (F:Hp):List (Key × P)→List (Key × V)→Prop
 | [],vs=>vs=[]
 | (k,x)::xs,vs=>∃ v r,vs=(k,v)::r∧RepP K F x v∧qac K F xs r
def qaq (K:PySem.W.Frag) (F:Hp):List (Str × P)→List (Str × V)→Prop
 | [],vs=>vs=[]
 | (k,x)::xs,vs=>∃ v r,vs=(k,v)::r∧RepP K F x v∧qaq K F xs r
end
mutual
theorem RepP.monoC {K:PySem.W.Frag} {F G:Hp} (h:LeC F G):∀ (p:P) {v:V},RepP K F p v→RepP K G p v
 | .non,v,q=>by unfold RepP at *;exact q
 | .bl b,v,q=>by unfold RepP at *;exact q
 | .int i,v,q=>by unfold RepP at *;exact q
 | .str s,v,q=>by unfold RepP at *;exact q
 | .scr ns,v,q=>by
  unfold RepP at *
  obtain ⟨a,e,s,z⟩:=q
  exact ⟨a,e,h.sqL s,z⟩
 | .lst xs,v,q=>by
  unfold RepP at *
  obtain ⟨a,vs,e,s,r,z⟩:=q
  obtain ⟨o',f',c'⟩:=h a _ s
  exact ⟨a,vs,e,by rw [f',qhr (xs:=vs) c'],qab.monoC h xs r,z⟩
 | .tup xs,v,q=>by
  unfold RepP at *
  obtain ⟨a,vs,e,s,r,z⟩:=q
  exact ⟨a,vs,e,h.sqT s,qab.monoC h xs r,z⟩
 | .dct kvs,v,q=>by
  unfold RepP at *
  obtain ⟨a,kvs',o,e,f,c,r,z⟩:=q
  obtain ⟨o',f',c'⟩:=h a o f
  exact ⟨a,kvs',o',e,f',c'.trans c,qac.monoC h kvs r,z⟩
 | .obj c fs,v,q=>by
  unfold RepP at *
  obtain ⟨a,dx,fs',e,f,r⟩:=q
  obtain ⟨o',f',c'⟩:=h a _ f
  exact ⟨a,dx,fs',e,by rw [f',qjc (C:=He.ga K c) (dx:=dx) (fs:=fs') c'],qaq.monoC h fs r⟩
 | .exc c fs,v,q=>by
  unfold RepP at *
  obtain ⟨a,d,e,f,r⟩:=q
  obtain ⟨o',f',c'⟩:=h a _ f
  refine ⟨a,d,e,by rw [f',qjN (show qbA o'=.ext _ from c')];rfl,?_⟩
  rcases r with r | ⟨dd,fs',e1,e2,r⟩
  ·exact .inl r
  ·obtain ⟨o2,f2,c2⟩:=h dd _ e2
   exact .inr ⟨dd,fs',e1,by rw [f2,qlq (show qbA o2=.xd fs' from c2)],qaq.monoC h fs r⟩
 | .tpp xs,v,q=>by
  unfold RepP at *
  obtain ⟨a,vs,ob,e,f,hd,r,z⟩:=q
  obtain ⟨o',f',c'⟩:=h a _ f
  exact ⟨a,vs,ob,e,by rw [f',qeP (show qbA o'=.frz ob (.tup vs) from c')],hd,qab.monoC h xs r,z⟩
 | .tpk ks,v,q=>by
  unfold RepP at *
  obtain ⟨a,e,f,z⟩:=q
  obtain ⟨o',f',c'⟩:=h a _ f
  exact ⟨a,e,by rw [f',qg0 (show qbA o'=.tup (ks.map kV) from c')],z⟩
theorem qab.monoC {K:PySem.W.Frag} {F G:Hp} (h:LeC F G):∀ (p:List P) {v:List V},qab K F p v→qab K G p v
 | [],v,q=>by unfold qab at *;exact q
 | x::xs,v,q=>by
  unfold qab at *
  obtain ⟨a,r,e,h1,h2⟩:=q
  exact ⟨a,r,e,RepP.monoC h x h1,qab.monoC h xs h2⟩
theorem qac.monoC {K:PySem.W.Frag} {F G:Hp} (h:LeC F G):∀ (p:List (Key × P)) {v:List (Key × V)},qac K F p v→qac K G p v
 | [],v,q=>by unfold qac at *;exact q
 | (k,x)::xs,v,q=>by
  unfold qac at *
  obtain ⟨a,r,e,h1,h2⟩:=q
  exact ⟨a,r,e,RepP.monoC h x h1,qac.monoC h xs h2⟩
theorem qaq.monoC {K:PySem.W.Frag} {F G:Hp} (h:LeC F G):∀ (p:List (Str × P)) {v:List (Str × V)},qaq K F p v→qaq K G p v
 | [],v,q=>by unfold qaq at *;exact q
 | (k,x)::xs,v,q=>by
  unfold qaq at *
  obtain ⟨a,r,e,h1,h2⟩:=q
  exact ⟨a,r,e,RepP.monoC h x h1,qaq.monoC h xs h2⟩
end
def LeF (F F':Hp):Prop:=∀ a o,F a=some o→F' a=some o
theorem LeF.c {F G:Hp} (h:LeF F G):LeC F G:=fun a o e=>⟨o,h a o e,rfl⟩
theorem LeF.refl (F:Hp):LeF F F:=fun _ _ e=>e
theorem LeF.trans {F G H:Hp} (a:LeF F G) (b:LeF G H):LeF F H:=fun x o e=>b x o (a x o e)
theorem LeF.noneOf {F G:Hp} (a:LeF F G) {x:Addr} (h:G x=none):F x=none:=a.c.noneOf h
theorem LeF.upd {F:Hp} {p:Addr} {o:HO} (h:F p=none):LeF F (upd F p o):=fun x u e=>by rw [upd_ne (ne_of_none e h)];exact e
theorem LeF.upd2 {F G:Hp} (a:LeF F G) {p:Addr} {o:HO}:LeF (L2.upd F p o) (L2.upd G p o):=fun x u e=>by
 by_cases h:x=p
 ·subst h
  rw [upd_same] at e ⊢
  exact e
 ·rw [upd_ne h] at e ⊢
  exact a x u e
theorem LeF.right {F G:Hp} (a:LeF F G) {p:Addr} {o:HO} (h:F p=Option.none):LeF F (L2.upd G p o):=fun x u e=>by
 rw [upd_ne (ne_of_none e h)]
 exact a x u e
theorem LeF.sqL {K:PySem.W.Frag} {F G:Hp} (a:LeF F G) {p:Addr} {xs:List V} (h:SqL K F p xs):SqL K G p xs:=a.c.sqL h
theorem LeF.sqT {K:PySem.W.Frag} {F G:Hp} (a:LeF F G) {p:Addr} {xs:List V} (h:SqT K F p xs):SqT K G p xs:=a.c.sqT h
def LeL (F F':Hp):Prop:=∀ a o,F a=some o→F' a=some o∨∃ k ob,o=.dK k∧F' a=some (.frz ob (.dK k))
theorem LeF.l {F G:Hp} (h:LeF F G):LeL F G:=fun a o e=>.inl (h a o e)
theorem LeL.refl (F:Hp):LeL F F:=fun _ _ e=>.inl e
theorem LeL.c {F G:Hp} (h:LeL F G):LeC F G:=fun a o e=>by
 rcases h a o e with h | ⟨k,ob,rfl,h⟩
 ·exact ⟨o,h,rfl⟩
 ·exact ⟨_,h,rfl⟩
theorem LeL.trans {F G H:Hp} (a:LeL F G) (b:LeL G H):LeL F H:=fun x o e=>by
 rcases a x o e with h | ⟨k,ob,rfl,h⟩
 ·exact b x o h
 ·rcases b x _ h with h' | ⟨k',ob',e',h'⟩
  ·exact .inr ⟨k,ob,rfl,h'⟩
  ·cases e'
theorem RepP.mono {K:PySem.W.Frag} {F G:Hp} (h:LeL F G) (p:P) {v:V} (q:RepP K F p v):RepP K G p v:=RepP.monoC h.c p q
theorem qab.mono {K:PySem.W.Frag} {F G:Hp} (h:LeL F G) (p:List P) {v:List V} (q:qab K F p v):qab K G p v:=qab.monoC h.c p q
theorem qac.mono {K:PySem.W.Frag} {F G:Hp} (h:LeL F G) (p:List (Key × P)) {v:List (Key × V)} (q:qac K F p v):qac K G p v:=qac.monoC h.c p q
theorem qaq.mono {K:PySem.W.Frag} {F G:Hp} (h:LeL F G) (p:List (Str × P)) {v:List (Str × V)} (q:qaq K F p v):qaq K G p v:=qaq.monoC h.c p q
structure Bk where
 o:Option Nat
 lk:List (Addr × HO)
structure Wd where
 ρ:List Addr
 F:Hp
 b:Bk
def RepW (K:PySem.W.Frag) (w:Wd):W→V→Prop
 | .v p,v=>RepP K w.F p v
 | .c n,v=>∃ a,w.ρ[n]?=some a∧v=.ref a
abbrev qaf (K:PySem.W.Frag) (w:Wd):List W→List V→Prop:=Paired (RepW K w)
abbrev qak {κ:Type} (K:PySem.W.Frag) (w:Wd):List (κ × W)→List (κ × V)→Prop:=Paired fun p q=>p.1=q.1∧RepW K w p.2 q.2
def qa6 (K:PySem.W.Frag) (w:Wd) (H:Hp) (a:Addr):Cell→Prop
 | .lst ws=>∃ vs,H a=some (.lst vs)∧qaf K w ws vs∧vs.length≤sizeLine
 | .dct kvs=>∃ kvs',H a=some (.dK kvs')∧qak K w kvs kvs'∧kvs'.length≤sizeLine
 | .ins c fs=>∃ dx fs',H a=some (.ins (He.ga K c) dx fs')∧qak K w fs fs'
 | .tup _=>True
 | .dead=>True
 | .lkd kvs=>∃ kvs' od,(a,HO.frz od (.dK kvs'))∈w.b.lk∧qak K w kvs kvs'∧kvs'.length≤sizeLine
 | .dtt kvs=>∃ kvs',H a=some (.dT kvs')∧qak K w kvs kvs'∧(kvs'.length≤sizeLine∧∀ q∈kvs',q.1.length≤100)
 | .lkt kvs=>∃ kvs' od,(a,HO.frz od (.dT kvs'))∈w.b.lk∧qak K w kvs kvs'∧(kvs'.length≤sizeLine∧∀ q∈kvs',q.1.length≤100)
def qjJ (K:PySem.W.Frag) (w:Wd) (a:Addr) (ws:List W):Prop:=∃ vs,w.F a=some (.tup vs)∧qaf K w ws vs∧vs.length≤sizeLine
structure LeW (w w':Wd):Prop where
 pre:w.ρ <+: w'.ρ
 le:LeL w.F w'.F
 eb:w'.b=w.b
structure LeV (w w':Wd):Prop where
 pre:w.ρ <+: w'.ρ
 le:LeL w.F w'.F
 lk:∀ q∈w.b.lk,q∈w'.b.lk
theorem LeW.v {w w':Wd} (h:LeW w w'):LeV w w':=⟨h.1,h.2,fun q hq=>by rw [h.3];exact hq⟩
theorem LeV.trans {a b c:Wd} (h:LeV a b) (k:LeV b c):LeV a c:=⟨h.1.trans k.1,h.2.trans k.2,fun q hq=>k.3 q (h.3 q hq)⟩
theorem LeV.same {w w':Wd} (e1:w.ρ=w'.ρ) (e2:w.F=w'.F) (e3:w.b.lk=w'.b.lk):LeV w w':=⟨by rw [e1];exact List.prefix_refl _,by rw [e2];exact LeL.refl _,fun q hq=>by rw [← e3];exact hq⟩
theorem LeW.refl (w:Wd):LeW w w:=⟨List.prefix_refl _,LeL.refl _,rfl⟩
theorem LeW.trans {a b c:Wd} (h:LeW a b) (k:LeW b c):LeW a c:=⟨h.1.trans k.1,h.2.trans k.2,k.3.trans h.3⟩
theorem RepW.monoV {K:PySem.W.Frag} {w w':Wd} (h:LeV w w'):∀ {x:W} {v:V},RepW K w x v→RepW K w' x v
 | .v p,v,q=>RepP.mono h.2 p q
 | .c n,v,⟨a,e,z⟩=>⟨a,by
   obtain ⟨t,ht⟩:=h.1
   rw [← ht,List.getElem?_append_left (List.getElem?_eq_some_iff.mp e).1]
   exact e,z⟩
theorem qaf.monoV {K:PySem.W.Frag} {w w':Wd} (h:LeV w w') {x:List W} {v:List V} (q:qaf K w x v):qaf K w' x v:=Paired.mapP q fun _ _ z=>z.monoV h
theorem qak.monoV {κ:Type} {K:PySem.W.Frag} {w w':Wd} (h:LeV w w') {x:List (κ × W)} {v:List (κ × V)} (q:qak K w x v):qak K w' x v:=Paired.mapP q fun _ _ z=>⟨z.1,z.2.monoV h⟩
theorem RepW.mono {K:PySem.W.Frag} {w w':Wd} (h:LeW w w') {x:W} {v:V} (q:RepW K w x v):RepW K w' x v:=q.monoV h.v
theorem qaf.mono {K:PySem.W.Frag} {w w':Wd} (h:LeW w w') {x:List W} {v:List V} (q:qaf K w x v):qaf K w' x v:=qaf.monoV h.v q
theorem qak.mono {κ:Type} {K:PySem.W.Frag} {w w':Wd} (h:LeW w w') {x:List (κ × W)} {v:List (κ × V)} (q:qak K w x v):qak K w' x v:=qak.monoV h.v q
def loOf (b:Bk) (l n:Nat):Nat:=match b.o with
 | none=>l
 | some b=>max b n
structure HRel (K:PySem.W.Frag) (S:qaa) (w:Wd) (H:Hp):Prop where
 le:LeF w.F H
 len:w.ρ.length=S.length
 inj:w.ρ.Nodup
 wf:∀ (n:Nat) (c:Cell),S[n]?=some c→Cell.lows (loOf w.b S.length n) c=true
 cell:∀ (n:Nat) (c:Cell) (a:Addr),S[n]?=some c→w.ρ[n]?=some a→c.isT=true∨(w.F a=none∧qa6 K w H a c)
 trk:∀ (n:Nat) (a:Addr),w.ρ[n]?=some a→∃ o,H a=some o
 bl:∀ b,w.b.o=some b→b≤S.length
 tup:∀ (n:Nat) (ws:List W) (a:Addr),S[n]?=some (.tup ws)→w.ρ[n]?=some a→qjJ K w a ws
 lks:∀ (a:Addr) (o:HO),(a,o)∈w.b.lk→H a=some o∧∃ ob u,o=.frz ob u
theorem HRel.lkNe {K:PySem.W.Frag} {S:qaa} {w:Wd} {H:Hp} (hr:HRel K S w H) {p:Addr} (hp:∀ ob u,H p≠some (.frz ob u)) {a:Addr} {o:HO} (h:(a,o)∈w.b.lk):a≠p:=fun z=>by
 obtain ⟨h1,ob,u,rfl⟩:=hr.lks a o h
 rw [z] at h1
 exact hp ob u h1
theorem HRel.lkU {K:PySem.W.Frag} {S:qaa} {w:Wd} {H:Hp} (hr:HRel K S w H) {p:Addr} {o:HO} (hp:∀ ob u,H p≠some (.frz ob u)):∀ (a:Addr) (x:HO),(a,x)∈w.b.lk→upd H p o a=some x∧∃ ob u,x=.frz ob u:=fun a x h=>by
 rw [upd_ne (hr.lkNe hp h)]
 exact hr.lks a x h
theorem nofz {H:Hp} {p:Addr} {o:HO} (h:H p=some o) (d:∀ ob u,o≠.frz ob u:=by intro _ _ z;nomatch z):∀ ob u,H p≠some (.frz ob u):=fun ob u e=>by
 rw [h] at e
 exact d ob u (Option.some.inj e)
theorem qiw {H:Hp} {p:Addr} (h:H p=none):∀ ob u,H p≠some (.frz ob u):=fun ob u e=>by
 rw [h] at e
 cases e
theorem qjJ.monoV {K:PySem.W.Frag} {w w':Wd} {a:Addr} {ws:List W} (hw:LeV w w') (h:qjJ K w a ws):qjJ K w' a ws:=by
 obtain ⟨vs,h1,h2,h3⟩:=h
 refine ⟨vs,?_,h2.monoV hw,h3⟩
 rcases hw.2 a _ h1 with h | ⟨_,_,e,_⟩
 ·exact h
 ·cases e
structure EnvRel (K:PySem.W.Frag) (kp:Bool) (w:Wd) (env:Env) (σ:L2.St):Prop where
 len:env.length≤σ.length
 at_:∀ (i:Nat) (x:W),env[i]?=some (some x)→∃ v,σ[i]?=some (some v)∧RepW K w x v
 kb:w.b.o.isSome=!kp
theorem EnvRel.mono {K:PySem.W.Frag} {kp:Bool} {w w':Wd} (h:LeW w w') {env:Env} {σ:L2.St} (q:EnvRel K kp w env σ):EnvRel K kp w' env σ:=⟨q.1,fun i x e=>by
 obtain ⟨v,h1,h2⟩:=q.2 i x e
 exact ⟨v,h1,h2.mono h⟩,by rw [h.3];exact q.kb⟩
theorem EnvRel.set {K:PySem.W.Frag} {kp:Bool} {w:Wd} {env:Env} {σ:L2.St} (q:EnvRel K kp w env σ) {i:Nat} {x:W} {v:V} (r:RepW K w x v):EnvRel K kp w (env.set i (some x)) (σ.set i (some v)):=by
 refine ⟨by simpa using q.1,fun j y e=>?_,q.kb⟩
 by_cases h:j=i
 ·subst h
  have hl:j < env.length:=by
   have:=(List.getElem?_eq_some_iff.mp e).1
   simpa using this
  rw [List.getElem?_set_self hl] at e
  cases e
  exact ⟨v,by rw [List.getElem?_set_self (Nat.lt_of_lt_of_le hl q.1)],r⟩
 ·rw [List.getElem?_set_ne (Ne.symm h)] at e
  rw [List.getElem?_set_ne (Ne.symm h)]
  exact q.2 j y e
theorem EnvRel.wipe {K:PySem.W.Frag} {kp:Bool} {w:Wd} {env:Env} {σ:L2.St} (q:EnvRel K kp w env σ):∀ is:List Nat,EnvRel K kp w (qbV env is) (L2.wipe σ is)
 | []=>q
 | i::is=>by
  have ih:=EnvRel.wipe q is
  refine ⟨by simpa [qbV,L2.wipe] using ih.1,fun j y e=>?_,q.kb⟩
  unfold qbV at e
  unfold L2.wipe
  by_cases h:j=i
  ·subst h
   have hl:j < (qbV env is).length:=by
    have:=(List.getElem?_eq_some_iff.mp e).1
    simpa using this
   rw [List.getElem?_set_self hl] at e
   cases e
  ·rw [List.getElem?_set_ne (Ne.symm h)] at e
   rw [List.getElem?_set_ne (Ne.symm h)]
   exact ih.2 j y e
def ExAt (K:PySem.W.Frag) (w:Wd) (fs:List (Str × P)) (d:Option Addr):Prop:=d=none∧fs=[]∨∃ dd fs',d=some dd∧w.F dd=some (.xd fs')∧qaq K w.F fs fs'
def RepT (K:PySem.W.Frag) (F H:Hp):P→V→Prop
 | .scr ns,v=>∃ a,v=.ref a∧SqL K H a (ns.map V.int)∧ns.length≤sizeLine
 | .lst xs,v=>∃ a vs,v=.ref a∧H a=some (.lst vs)∧qab K F xs vs∧vs.length≤sizeLine
 | .tup xs,v=>∃ a vs,v=.ref a∧SqT K H a vs∧qab K F xs vs∧vs.length≤sizeLine
 | .dct kvs,v=>∃ a kvs' o,v=.ref a∧H a=some o∧qbA o=.dK kvs'∧qac K F kvs kvs'∧kvs'.length≤sizeLine
 | .obj c fs,v=>∃ a dx fs',v=.ref a∧H a=some (.ins (He.ga K c) dx fs')∧qaq K F fs fs'
 | p,v=>RepP K F p v
theorem RepP.top {K:PySem.W.Frag} {F H:Hp} (h:LeF F H):∀ {p:P} {v:V},RepP K F p v→RepT K F H p v
 | .exc _ _,_,q=>q
 | .tpp _,_,q=>q
 | .tpk _,_,q=>q
 | .non,_,q=>q
 | .bl _,_,q=>q
 | .int _,_,q=>q
 | .str _,_,q=>q
 | .scr ns,v,q=>by
  unfold RepP at q
  obtain ⟨a,e,s,z⟩:=q
  exact ⟨a,e,h.sqL s,z⟩
 | .lst xs,v,q=>by
  unfold RepP at q
  obtain ⟨a,vs,e,s,r,z⟩:=q
  exact ⟨a,vs,e,h a _ s,r,z⟩
 | .tup xs,v,q=>by
  unfold RepP at q
  obtain ⟨a,vs,e,s,r,z⟩:=q
  exact ⟨a,vs,e,h.sqT s,r,z⟩
 | .dct kvs,v,q=>by
  unfold RepP at q
  obtain ⟨a,kvs',o,e,f,c,r,z⟩:=q
  exact ⟨a,kvs',o,e,h a o f,c,r,z⟩
 | .obj c fs,v,q=>by
  unfold RepP at q
  obtain ⟨a,dx,fs',e,f,r⟩:=q
  exact ⟨a,dx,fs',e,h a _ f,r⟩
theorem RepT.all {K:PySem.W.Frag} {F H:Hp} (h:LeF F H):∀ {p:P} {v:V},RepT K F H p v→RepP K H p v
 | .exc _ _,_,q=>RepP.mono h.l _ q
 | .tpp _,_,q=>RepP.mono h.l _ q
 | .tpk _,_,q=>RepP.mono h.l _ q
 | .non,_,q=>RepP.mono h.l _ q
 | .bl _,_,q=>RepP.mono h.l _ q
 | .int _,_,q=>RepP.mono h.l _ q
 | .str _,_,q=>RepP.mono h.l _ q
 | .scr ns,v,⟨a,e,s,z⟩=>by
  unfold RepP
  exact ⟨a,e,s,z⟩
 | .lst xs,v,⟨a,vs,e,s,r,z⟩=>by
  unfold RepP
  exact ⟨a,vs,e,s,qab.mono h.l xs r,z⟩
 | .tup xs,v,⟨a,vs,e,s,r,z⟩=>by
  unfold RepP
  exact ⟨a,vs,e,s,qab.mono h.l xs r,z⟩
 | .dct kvs,v,⟨a,kvs',o,e,f,c,r,z⟩=>by
  unfold RepP
  exact ⟨a,kvs',o,e,f,c,qac.mono h.l kvs r,z⟩
 | .obj c fs,v,⟨a,dx,fs',e,f,r⟩=>by
  unfold RepP
  exact ⟨a,dx,fs',e,f,qaq.mono h.l fs r⟩
theorem qab.len {K:PySem.W.Frag} {F:Hp}:∀ {xs:List P} {vs:List V},qab K F xs vs→xs.length=vs.length
 | [],vs,q=>by unfold qab at q;subst q;rfl
 | x::xs,vs,q=>by
  unfold qab at q
  obtain ⟨v,r,rfl,_,h2⟩:=q
  rw [List.length_cons,List.length_cons,qab.len h2]
theorem qac.len {K:PySem.W.Frag} {F:Hp}:∀ {xs:List (Key × P)} {vs:List (Key × V)},qac K F xs vs→xs.length=vs.length
 | [],vs,q=>by unfold qac at q;subst q;rfl
 | (k,x)::xs,vs,q=>by
  unfold qac at q
  obtain ⟨v,r,rfl,_,h2⟩:=q
  rw [List.length_cons,List.length_cons,qac.len h2]
theorem qab.app {K:PySem.W.Frag} {F:Hp}:∀ {xs ys:List P} {vs us:List V},qab K F xs vs→qab K F ys us→qab K F (xs++ys) (vs++us)
 | [],ys,vs,us,q,r=>by unfold qab at q;subst q;exact r
 | x::xs,ys,vs,us,q,r=>by
  unfold qab at q
  obtain ⟨v,t,rfl,h1,h2⟩:=q
  show qab K F (x::(xs++ys)) (v::(t++us))
  unfold qab
  exact ⟨v,_,rfl,h1,qab.app h2 r⟩
theorem qab.get {K:PySem.W.Frag} {F:Hp}:∀ {xs:List P} {vs:List V} {i:Nat} {p:P},qab K F xs vs→xs[i]?=some p→∃ v,vs[i]?=some v∧RepP K F p v
 | [],vs,i,p,q,e=>by simp at e
 | x::xs,vs,0,p,q,e=>by
  unfold qab at q
  obtain ⟨v,t,rfl,h1,h2⟩:=q
  simp at e
  subst e
  exact ⟨v,rfl,h1⟩
 | x::xs,vs,i + 1,p,q,e=>by
  unfold qab at q
  obtain ⟨v,t,rfl,h1,h2⟩:=q
  obtain ⟨u,e1,e2⟩:=qab.get (i:=i) h2 (by simpa using e)
  exact ⟨u,by simpa using e1,e2⟩
theorem qab.drop {K:PySem.W.Frag} {F:Hp}:∀ {xs:List P} {vs:List V} (n:Nat),qab K F xs vs→qab K F (xs.drop n) (vs.drop n)
 | xs,vs,0,q=>q
 | [],vs,n + 1,q=>by unfold qab at q;subst q;unfold qab;rfl
 | x::xs,vs,n + 1,q=>by
  unfold qab at q
  obtain ⟨v,t,rfl,h1,h2⟩:=q
  exact qab.drop n h2
theorem qab.take {K:PySem.W.Frag} {F:Hp}:∀ {xs:List P} {vs:List V} (n:Nat),qab K F xs vs→qab K F (xs.take n) (vs.take n)
 | xs,vs,0,q=>by simp [qab]
 | [],vs,n + 1,q=>by unfold qab at q;subst q;unfold qab;rfl
 | x::xs,vs,n + 1,q=>by
  unfold qab at q
  obtain ⟨v,t,rfl,h1,h2⟩:=q
  show qab K F (x::xs.take n) (v::t.take n)
  unfold qab
  exact ⟨v,_,rfl,h1,qab.take n h2⟩
theorem qac.get {K:PySem.W.Frag} {F:Hp} {k:Key}:∀ {xs:List (Key × P)} {vs:List (Key × V)},qac K F xs vs→(∀ p,getK xs k=some p→∃ v,valV vs k=some v∧RepP K F p v)∧(getK xs k=none→valV vs k=none)
 | [],vs,q=>by
  unfold qac at q
  subst q
  exact ⟨fun p e=>by simp [getK] at e,fun _=>rfl⟩
 | (k0,x)::xs,vs,q=>by
  unfold qac at q
  obtain ⟨v,t,rfl,h1,h2⟩:=q
  obtain ⟨g1,g2⟩:=qac.get (k:=k) h2
  by_cases h:k0=k
  ·have e1:getK ((k0,x)::xs) k=some x:=by simp [getK,List.find?_cons,h]
   rw [e1,valV_pos h]
   exact ⟨fun p e=>by cases e;exact ⟨v,rfl,h1⟩,fun e=>by cases e⟩
  ·have e1:getK ((k0,x)::xs) k=getK xs k:=by simp [getK,List.find?_cons,h]
   rw [e1,valV_neg h]
   exact ⟨g1,g2⟩
theorem qaq.get {K:PySem.W.Frag} {F:Hp} {k:Str}:∀ {xs:List (Str × P)} {vs:List (Str × V)} {p:P},qaq K F xs vs→xs.lookup k=some p→∃ v,vs.lookup k=some v∧RepP K F p v
 | [],vs,p,q,e=>by simp at e
 | (k0,x)::xs,vs,p,q,e=>by
  unfold qaq at q
  obtain ⟨v,t,rfl,h1,h2⟩:=q
  rw [List.lookup_cons] at e ⊢
  cases h:(k == k0) with
  | true=>
   rw [h] at e
   cases e
   exact ⟨v,rfl,h1⟩
  | false=>
   rw [h] at e
   exact qaq.get h2 e
section
variable {K:PySem.W.Frag} {w:Wd} {H:Hp} {S:qaa}
theorem qaf.plain:∀ {ws:List W} {vs:List V} {ps:List P},qaf K w ws vs→allP ws=some ps→qab K w.F ps vs
 | [],_,ps,.nil,e=>by
  cases e
  unfold qab
  rfl
 | .v p::ws,_,ps,.cons r t,e=>by
  cases h:allP ws with
  | none=>simp [allP,h] at e
  | some qs=>
   simp [allP,h] at e
   subst e
   unfold qab
   exact ⟨_,_,rfl,r,qaf.plain t h⟩
 | .c n::ws,_,ps,.cons r t,e=>by simp [allP] at e
theorem qak.plainK:∀ {ws:List (Key × W)} {vs:List (Key × V)} {ps:List (Key × P)},qak K w ws vs→qbO ws=some ps→qac K w.F ps vs
 | [],_,ps,.nil,e=>by
  cases e
  unfold qac
  rfl
 | (k,.v p)::ws,_,ps,.cons r t,e=>by
  cases h:qbO ws with
  | none=>simp [qbO,h] at e
  | some qs=>
   simp [qbO,h] at e
   subst e
   unfold qac
   rename_i v vs'
   obtain ⟨k',v'⟩:=v
   obtain ⟨rfl,r2⟩:=r
   exact ⟨_,_,rfl,r2,qak.plainK t h⟩
 | (k,.c n)::ws,_,ps,.cons r t,e=>by simp [qbO] at e
theorem qak.plainF:∀ {ws:List (Str × W)} {vs:List (Str × V)} {ps:List (Str × P)},qak K w ws vs→qb4 ws=some ps→qaq K w.F ps vs
 | [],_,ps,.nil,e=>by
  cases e
  unfold qaq
  rfl
 | (k,.v p)::ws,_,ps,.cons r t,e=>by
  cases h:qb4 ws with
  | none=>simp [qb4,h] at e
  | some qs=>
   simp [qb4,h] at e
   subst e
   unfold qaq
   rename_i v vs'
   obtain ⟨k',v'⟩:=v
   obtain ⟨rfl,r2⟩:=r
   exact ⟨_,_,rfl,r2,qak.plainF t h⟩
 | (k,.c n)::ws,_,ps,.cons r t,e=>by simp [qb4] at e
theorem qa6.top {a:Addr}:∀ {c:Cell} {p:P},qa6 K w H a c→c.view=some p→RepT K w.F H p (.ref a)
 | .lst ws,p,⟨vs,h,r,z⟩,e=>by
  cases q:allP ws with
  | none=>simp [Cell.view,q] at e
  | some ps=>
   simp [Cell.view,q] at e
   subst e
   exact ⟨a,vs,rfl,h,r.plain q,z⟩
 | .dct ws,p,⟨vs,h,r,z⟩,e=>by
  cases q:qbO ws with
  | none=>simp [Cell.view,q] at e
  | some ps=>
   simp [Cell.view,q] at e
   subst e
   exact ⟨a,vs,_,rfl,h,rfl,r.plainK q,z⟩
 | .ins c ws,p,⟨dx,vs,h,r⟩,e=>by
  cases q:qb4 ws with
  | none=>simp [Cell.view,q] at e
  | some ps=>
   simp [Cell.view,q] at e
   subst e
   exact ⟨a,dx,vs,rfl,h,r.plainF q⟩
 | .dead,p,_,e=>by simp [Cell.view] at e
 | .tup ws,p,_,e=>by simp [Cell.view] at e
 | .lkd ws,p,_,e=>by simp [Cell.view] at e
 | .dtt ws,p,_,e=>by simp [Cell.view] at e
 | .lkt ws,p,_,e=>by simp [Cell.view] at e
theorem HRel.at (hr:HRel K S w H) {n:Nat} {c:Cell} (e:S[n]?=some c):∃ a,w.ρ[n]?=some a:=by
 have h1:=(List.getElem?_eq_some_iff.mp e).1
 rw [← hr.len] at h1
 exact ⟨w.ρ[n],List.getElem?_eq_getElem h1⟩
theorem HRel.view (hr:HRel K S w H) {x:W} {p:P} {v:V} (e:x.view S=some p) (r:RepW K w x v):RepT K w.F H p v:=by
 cases x with
 | v q=>
  cases e
  exact RepP.top hr.le r
 | c n=>
  obtain ⟨a,ha,rfl⟩:=r
  cases h:S[n]? with
  | none=>simp [W.view,h] at e
  | some c=>
   simp [W.view,h] at e
   rcases hr.cell n c a h ha with z | ⟨_,q⟩
   ·cases c <;> first | (cases z;done) | simp [Cell.view] at e
   ·exact q.top e
theorem HRel.views (hr:HRel K S w H):∀ {xs:List W} {ps:List P} {vs:List V},qcA xs S=some ps→qaf K w xs vs→Paired (RepT K w.F H) ps vs
 | [],ps,_,e,.nil=>by
  cases e
  exact .nil
 | x::xs,ps,_,e,.cons r t=>by
  cases h1:x.view S with
  | none=>simp [qcA,h1] at e
  | some p=>
   cases h2:qcA xs S with
   | none=>simp [qcA,h1,h2] at e
   | some qs=>
    simp [qcA,h1,h2] at e
    subst e
    exact .cons (hr.view h1 r) (hr.views h2 t)
theorem qc0 {l:List Addr} (h:l.Nodup) {i j:Nat} {a:Addr} (e:l[i]?=some a) (f:l[j]?=some a):i=j:=by
 obtain ⟨h1,e1⟩:=List.getElem?_eq_some_iff.mp e
 obtain ⟨h2,e2⟩:=List.getElem?_eq_some_iff.mp f
 exact (List.getElem_inj h).mp (e1.trans e2.symm)
theorem qa6.keepV {a:Addr} {w':Wd} {H':Hp} (hw:LeV w w') (hH:H' a=H a):∀ {c:Cell},qa6 K w H a c→qa6 K w' H' a c
 | .lst ws,⟨vs,h,r,z⟩=>⟨vs,by rw [hH];exact h,r.monoV hw,z⟩
 | .dct ws,⟨vs,h,r,z⟩=>⟨vs,by rw [hH];exact h,r.monoV hw,z⟩
 | .ins c ws,⟨dx,vs,h,r⟩=>⟨dx,vs,by rw [hH];exact h,r.monoV hw⟩
 | .dead,_=>trivial
 | .tup _,_=>trivial
 | .lkd ws,⟨vs,od,h,r,z⟩=>⟨vs,od,hw.3 _ h,r.monoV hw,z⟩
 | .dtt ws,⟨vs,h,r,z⟩=>⟨vs,by rw [hH];exact h,r.monoV hw,z⟩
 | .lkt ws,⟨vs,od,h,r,z⟩=>⟨vs,od,hw.3 _ h,r.monoV hw,z⟩
theorem qa6.keep {a:Addr} {w':Wd} {H':Hp} (hw:LeW w w') (hH:H' a=H a) {c:Cell} (q:qa6 K w H a c):qa6 K w' H' a c:=q.keepV hw.v hH
theorem qbX {n k:Nat} (hnk:n≤k):∀ {c:Cell},c.lows n=true→c.lows k=true:=by
 have one:∀ x,qad n x=true→qad k x=true:=fun x=>by
  cases x with
  | v _=>exact fun _=>rfl
  | c m=>
   intro h
   have h':m < n:=of_decide_eq_true h
   exact decide_eq_true (by omega)
 intro c h
 cases c with
 | dead=>rfl
 | lst ws=>
  have h':∀ x∈ws,qad n x=true:=by simpa [Cell.lows] using h
  show ws.all (qad k)=true
  rw [List.all_eq_true]
  exact fun x hx=>one x (h' x hx)
 | tup ws=>
  have h':∀ x∈ws,qad n x=true:=by simpa [Cell.lows] using h
  show ws.all (qad k)=true
  rw [List.all_eq_true]
  exact fun x hx=>one x (h' x hx)
 | dct ws=>
  have h':=List.all_eq_true.mp (show (ws.all fun q=>qad n q.2)=true from h)
  show (ws.all fun q=>qad k q.2)=true
  rw [List.all_eq_true]
  exact fun x hx=>one x.2 (h' x hx)
 | ins cc ws=>
  have h':=List.all_eq_true.mp (show (ws.all fun q=>qad n q.2)=true from h)
  show (ws.all fun q=>qad k q.2)=true
  rw [List.all_eq_true]
  exact fun x hx=>one x.2 (h' x hx)
 | lkd ws=>
  have h':=List.all_eq_true.mp (show (ws.all fun q=>qad n q.2)=true from h)
  show (ws.all fun q=>qad k q.2)=true
  rw [List.all_eq_true]
  exact fun x hx=>one x.2 (h' x hx)
 | dtt ws=>
  have h':=List.all_eq_true.mp (show (ws.all fun q=>qad n q.2)=true from h)
  show (ws.all fun q=>qad k q.2)=true
  rw [List.all_eq_true]
  exact fun x hx=>one x.2 (h' x hx)
 | lkt ws=>
  have h':=List.all_eq_true.mp (show (ws.all fun q=>qad n q.2)=true from h)
  show (ws.all fun q=>qad k q.2)=true
  rw [List.all_eq_true]
  exact fun x hx=>one x.2 (h' x hx)
theorem HRel.newF (hr:HRel K S w H) {p:Addr} {o:HO} (hp:H p=none):HRel K S ⟨w.ρ,upd w.F p o,w.b⟩ (upd H p o)∧LeW w ⟨w.ρ,upd w.F p o,w.b⟩:=by
 have hF:w.F p=none:=hr.le.noneOf hp
 have lw:LeW w ⟨w.ρ,upd w.F p o,w.b⟩:=⟨List.prefix_refl _,(LeF.upd hF).l,rfl⟩
 refine ⟨⟨hr.le.upd2,hr.len,hr.inj,hr.wf,fun n c a e f=>?_,fun n a e=>?_,hr.bl,fun n ws a e f=>(hr.tup n ws a e f).monoV lw.v,hr.lkU (qiw hp)⟩,lw⟩
 ·obtain ⟨o',ho⟩:=hr.trk n a f
  have ne:a≠p:=ne_of_none ho hp
  rcases hr.cell n c a e f with h | ⟨h1,h2⟩
  ·exact .inl h
  ·exact .inr ⟨by show upd w.F p o a=none;rw [upd_ne ne];exact h1,h2.keep lw (upd_ne ne)⟩
 ·obtain ⟨o',ho⟩:=hr.trk n a e
  exact ⟨o',by rw [upd_ne (ne_of_none ho hp)];exact ho⟩
theorem HRel.newC (hr:HRel K S w H) {p:Addr} {o:HO} {c:Cell} (hp:H p=none) (hb:c.lows S.length=true) (hc:qa6 K ⟨w.ρ++[p],w.F,w.b⟩ (upd H p o) p c) (ht:c.isT=false:=by rfl) :
  HRel K (S++[c]) ⟨w.ρ++[p],w.F,w.b⟩ (upd H p o)∧LeW w ⟨w.ρ++[p],w.F,w.b⟩:=by
 have hF:w.F p=none:=hr.le.noneOf hp
 have lw:LeW w ⟨w.ρ++[p],w.F,w.b⟩:=⟨List.prefix_append _ _,LeL.refl _,rfl⟩
 have np:p∉w.ρ:=fun hm=>by
  obtain ⟨n,hn⟩:=List.mem_iff_getElem?.mp hm
  obtain ⟨o',ho⟩:=hr.trk n p hn
  rw [hp] at ho
  cases ho
 have split:∀ (n:Nat) (d:Cell),(S++[c])[n]?=some d→(n < S.length∧S[n]?=some d)∨(n=S.length∧d=c):=fun n d e=>by
  by_cases h:n < S.length
  ·rw [List.getElem?_append_left h] at e
   exact .inl ⟨h,e⟩
  ·rw [List.getElem?_append_right (by omega)] at e
   by_cases h2:n=S.length
   ·subst h2
    simp at e
    exact .inr ⟨rfl,e.symm⟩
   ·have:n - S.length≥1:=by omega
    rw [List.getElem?_eq_none (by simpa using this)] at e
    cases e
 refine ⟨⟨hr.le.right hF,by simp [hr.len],?_,fun n d e=>?_,fun n d a e f=>?_,fun n a e=>?_,fun b hb'=>by rw [List.length_append];exact Nat.le_trans (hr.bl b hb') (Nat.le_add_right _ _),fun n ws a e f=>?_,hr.lkU (qiw hp)⟩,lw⟩
 ·show (w.ρ++[p]).Nodup
  rw [List.nodup_append]
  exact ⟨hr.inj,by simp,fun x hx y hy=>by
   simp at hy
   subst hy
   exact fun z=>np (z ▸ hx)⟩
 ·rcases split n d e with ⟨_,h⟩ | ⟨rfl,rfl⟩
  ·refine qbX ?_ (hr.wf n d h)
   show loOf w.b S.length n≤loOf w.b (S++[c]).length n
   rw [List.length_append]
   unfold loOf
   cases w.b.o with
   | none=>exact Nat.le_add_right _ _
   | some b=>exact Nat.le_refl _
  ·refine qbX ?_ hb
   show S.length≤loOf w.b (S++[d]).length S.length
   rw [List.length_append]
   unfold loOf
   cases w.b.o with
   | none=>exact Nat.le_add_right _ _
   | some b=>exact Nat.le_max_right _ _
 ·rcases split n d e with ⟨hn,h⟩ | ⟨rfl,rfl⟩
  ·have f':w.ρ[n]?=some a:=by
    have:(w.ρ++[p])[n]?=some a:=f
    rw [List.getElem?_append_left (by rw [hr.len];exact hn)] at this
    exact this
   obtain ⟨o',ho⟩:=hr.trk n a f'
   have ne:a≠p:=ne_of_none ho hp
   rcases hr.cell n d a h f' with h' | ⟨h1,h2⟩
   ·exact .inl h'
   ·exact .inr ⟨h1,h2.keep lw (upd_ne ne)⟩
  ·have f':(w.ρ++[p])[S.length]?=some a:=f
   rw [← hr.len] at f'
   simp at f'
   subst f'
   exact .inr ⟨hF,hc⟩
 ·have e':(w.ρ++[p])[n]?=some a:=e
  by_cases h:a=p
  ·subst h
   exact ⟨o,upd_same⟩
  ·have hn:n < w.ρ.length:=by
    apply Classical.byContradiction
    intro hn
    rw [List.getElem?_append_right (by omega)] at e'
    have hm:=List.mem_of_getElem? e'
    simp at hm
    exact h hm
   rw [List.getElem?_append_left hn] at e'
   obtain ⟨o',ho⟩:=hr.trk n a e'
   exact ⟨o',by rw [upd_ne h];exact ho⟩
 ·rcases split n _ e with ⟨hn,h⟩ | ⟨rfl,z⟩
  ·have f':w.ρ[n]?=some a:=by
    have:(w.ρ++[p])[n]?=some a:=f
    rw [List.getElem?_append_left (by rw [hr.len];exact hn)] at this
    exact this
   exact (hr.tup n ws a h f').monoV lw.v
  ·rw [← z] at ht
   cases ht
theorem HRel.write (hr:HRel K S w H) {n:Nat} {a:Addr} {o:HO} {c:Cell} (ha:w.ρ[n]?=some a) (hF:w.F a=none) (hb:c.lows n=true∨(w.b.o=none∧c.lows S.length=true)) (hc:qa6 K w (upd H a o) a c) (hz:∀ ob u,H a≠some (.frz ob u)) (ht:c.isT=false:=by rfl):HRel K (S.set n c) w (upd H a o):=by
 refine ⟨hr.le.right hF,by simp [hr.len],hr.inj,fun m d e=>?_,fun m d b e f=>?_,fun m b e=>?_,fun b hb'=>by rw [List.length_set];exact hr.bl b hb',fun m ws b e f=>?_,hr.lkU hz⟩
 ·by_cases h:m=n
  ·subst h
   have hl:m < S.length:=by
    have:=(List.getElem?_eq_some_iff.mp e).1
    simpa using this
   rw [List.getElem?_set_self hl] at e
   cases e
   rw [List.length_set]
   rcases hb with hb | ⟨hb,hb2⟩
   ·refine qbX ?_ hb
    unfold loOf
    split <;> omega
   ·unfold loOf
    rw [hb]
    exact hb2
  ·rw [List.getElem?_set_ne (Ne.symm h)] at e
   rw [List.length_set]
   exact hr.wf m d e
 ·by_cases h:m=n
  ·subst h
   have hl:m < S.length:=by
    have:=(List.getElem?_eq_some_iff.mp e).1
    simpa using this
   rw [List.getElem?_set_self hl] at e
   cases e
   rw [ha] at f
   cases f
   exact .inr ⟨hF,hc⟩
  ·rw [List.getElem?_set_ne (Ne.symm h)] at e
   have ne:b≠a:=fun z=>by
    subst z
    exact h (qc0 hr.inj f ha)
   rcases hr.cell m d b e f with h' | ⟨h1,h2⟩
   ·exact .inl h'
   ·exact .inr ⟨h1,h2.keep (LeW.refl _) (upd_ne ne)⟩
 ·by_cases h:b=a
  ·subst h
   exact ⟨o,upd_same⟩
  ·rw [upd_ne h]
   exact hr.trk m b e
 ·by_cases h:m=n
  ·subst h
   have hl:m < S.length:=by
    have:=(List.getElem?_eq_some_iff.mp e).1
    simpa using this
   rw [List.getElem?_set_self hl] at e
   cases e
   cases ht
  ·rw [List.getElem?_set_ne (Ne.symm h)] at e
   exact hr.tup m ws b e f
theorem HRel.frozen (hr:HRel K S w H) {n:Nat} {a:Addr} {c:Cell} {p:P} (hc:S[n]?=some c) (hp:c.view=some p) (ha:w.ρ[n]?=some a) :
  ∃ w',HRel K (S.set n .dead) w' H∧LeW w w'∧w'.ρ=w.ρ∧RepP K w'.F p (.ref a):=by
 rcases hr.cell n c a hc ha with z | ⟨hF,q⟩
 ·cases c <;> first | (cases z;done) | simp [Cell.view] at hp
 ·obtain ⟨o,ho⟩:=hr.trk n a ha
  have lw:LeW w ⟨w.ρ,upd w.F a o,w.b⟩:=⟨List.prefix_refl _,(LeF.upd hF).l,rfl⟩
  have rep:RepP K (upd w.F a o) p (.ref a):=by
   cases c with
   | dead=>simp [Cell.view] at hp
   | tup ws=>simp [Cell.view] at hp
   | lkd ws=>simp [Cell.view] at hp
   | dtt ws=>simp [Cell.view] at hp
   | lkt ws=>simp [Cell.view] at hp
   | lst ws=>
    cases z:allP ws with
    | none=>simp [Cell.view,z] at hp
    | some ps=>
     simp [Cell.view,z] at hp
     subst hp
     obtain ⟨vs,h',r,l⟩:=q
     rw [h'] at ho
     cases ho
     unfold RepP
     exact ⟨a,vs,rfl,upd_same,qab.mono (LeF.upd hF).l _ (qaf.plain r z),l⟩
   | dct ws=>
    cases z:qbO ws with
    | none=>simp [Cell.view,z] at hp
    | some ps=>
     simp [Cell.view,z] at hp
     subst hp
     obtain ⟨vs,h',r,l⟩:=q
     rw [h'] at ho
     cases ho
     unfold RepP
     exact ⟨a,vs,_,rfl,upd_same,rfl,qac.mono (LeF.upd hF).l _ (qak.plainK r z),l⟩
   | ins cc ws=>
    cases z:qb4 ws with
    | none=>simp [Cell.view,z] at hp
    | some ps=>
     simp [Cell.view,z] at hp
     subst hp
     obtain ⟨dx,vs,h',r⟩:=q
     rw [h'] at ho
     cases ho
     unfold RepP
     exact ⟨a,dx,vs,rfl,upd_same,qaq.mono (LeF.upd hF).l _ (qak.plainF r z)⟩
  refine ⟨⟨w.ρ,upd w.F a o,w.b⟩,⟨?_,by simpa using hr.len,hr.inj,fun m d e=>?_,fun m d b e f=>?_,hr.trk,fun b hb'=>by rw [List.length_set];exact hr.bl b hb',fun m ws b e f=>?_,hr.lks⟩,lw,rfl,rep⟩
  ·intro x u e
   by_cases h:x=a
   ·subst h
    have e':upd w.F x o x=some u:=e
    rw [upd_same] at e'
    cases e'
    exact ho
   ·have e':upd w.F a o x=some u:=e
    rw [upd_ne h] at e'
    exact hr.le x u e'
  ·by_cases h:m=n
   ·subst h
    have hl:m < S.length:=by
     have:=(List.getElem?_eq_some_iff.mp e).1
     simpa using this
    rw [List.getElem?_set_self hl] at e
    cases e
    rfl
   ·rw [List.getElem?_set_ne (Ne.symm h)] at e
    rw [List.length_set]
    exact hr.wf m d e
  ·by_cases h:m=n
   ·subst h
    have hl:m < S.length:=by
     have:=(List.getElem?_eq_some_iff.mp e).1
     simpa using this
    rw [List.getElem?_set_self hl] at e
    cases e
    exact .inl rfl
   ·rw [List.getElem?_set_ne (Ne.symm h)] at e
    have ne:b≠a:=fun z=>by
     subst z
     exact h (qc0 hr.inj f ha)
    rcases hr.cell m d b e f with h' | ⟨h1,h2⟩
    ·exact .inl h'
    ·exact .inr ⟨by show upd w.F a o b=none;rw [upd_ne ne];exact h1,h2.keep lw rfl⟩
  ·by_cases h:m=n
   ·subst h
    have hl:m < S.length:=by
     have:=(List.getElem?_eq_some_iff.mp e).1
     simpa using this
    rw [List.getElem?_set_self hl] at e
    cases e
   ·rw [List.getElem?_set_ne (Ne.symm h)] at e
    exact (hr.tup m ws b e f).monoV lw.v
theorem RepW.cut {k:Nat} {b':Bk}:∀ {x:W} {v:V},RepW K w x v→qad k x=true→RepW K ⟨w.ρ.take k,w.F,b'⟩ x v
 | .v p,v,q,_=>q
 | .c n,v,⟨a,e,z⟩,h=>⟨a,by
   have h':n < k:=of_decide_eq_true h
   show (w.ρ.take k)[n]?=some a
   rw [List.getElem?_take_of_lt h']
   exact e,z⟩
theorem qaf.cut {k:Nat} {b':Bk}:∀ {xs:List W} {vs:List V},qaf K w xs vs→xs.all (qad k)=true→qaf K ⟨w.ρ.take k,w.F,b'⟩ xs vs
 | [],_,.nil,_=>.nil
 | x::xs,_,.cons r t,h=>by
  simp at h
  exact .cons (r.cut h.1) (qaf.cut t (by simpa using h.2))
theorem qak.cut {κ:Type} {k:Nat} {b':Bk}:∀ {xs:List (κ × W)} {vs:List (κ × V)},qak K w xs vs→(xs.all fun q=>qad k q.2)=true→qak K ⟨w.ρ.take k,w.F,b'⟩ xs vs
 | [],_,.nil,_=>.nil
 | x::xs,_,.cons r t,h=>by
  simp at h
  refine .cons ⟨r.1,RepW.cut r.2 h.1⟩ (qak.cut t ?_)
  simp
  exact h.2
theorem qa6.cut {a:Addr} {k:Nat} {b':Bk} (hl:b'.lk=w.b.lk):∀ {c:Cell},qa6 K w H a c→c.lows k=true→qa6 K ⟨w.ρ.take k,w.F,b'⟩ H a c
 | .lst ws,⟨vs,h,r,z⟩,b=>⟨vs,h,r.cut b,z⟩
 | .dct ws,⟨vs,h,r,z⟩,b=>⟨vs,h,r.cut b,z⟩
 | .ins c ws,⟨dx,vs,h,r⟩,b=>⟨dx,vs,h,r.cut b⟩
 | .dead,_,_=>trivial
 | .tup _,_,_=>trivial
 | .lkd ws,⟨vs,od,h,r,z⟩,b=>⟨vs,od,by rw [hl];exact h,r.cut b,z⟩
 | .dtt ws,⟨vs,h,r,z⟩,b=>⟨vs,h,r.cut b,z⟩
 | .lkt ws,⟨vs,od,h,r,z⟩,b=>⟨vs,od,by rw [hl];exact h,r.cut b,z⟩
theorem HRel.take (hr:HRel K S w H) (k:Nat) {b':Bk} (hs:∃ n,w.b.o=some n∧n≤k) (hb':b'.o=w.b.o∨(b'.o=none∧k≤S.length)) (hl:b'.lk=w.b.lk):HRel K (S.take k) ⟨w.ρ.take k,w.F,b'⟩ H:=by
 obtain ⟨m,hm,hmk⟩:=hs
 have old:∀ {α:Type} {l:List α} {n:Nat} {x:α},(l.take k)[n]?=some x→n < k∧l[n]?=some x:=fun {α l n x} e=>by
  have h1:=(List.getElem?_eq_some_iff.mp e).1
  have h2:n < k:=by
   rw [List.length_take] at h1
   omega
  rw [List.getElem?_take_of_lt h2] at e
  exact ⟨h2,e⟩
 have lo:∀ l n,loOf w.b l n=max m n:=fun l n=>by
  unfold loOf
  rw [hm]
 refine ⟨hr.le,by simp [hr.len],hr.inj.sublist (List.take_sublist _ _),fun n c e=>?_,fun n c a e f=>?_,fun n a e=>hr.trk n a (old e).2,fun b1 e1=>?_,fun n ws a e f=>?_,fun a o h=>hr.lks a o (by rw [← hl];exact h)⟩
 ·have hlt:n < (S.take k).length:=(List.getElem?_eq_some_iff.mp e).1
  have h1:=hr.wf n c (old e).2
  rw [lo] at h1
  refine qbX ?_ h1
  rw [List.length_take] at hlt
  show max m n≤loOf b' (S.take k).length n
  unfold loOf
  rcases hb' with e2 | ⟨e2,hkl⟩
  ·rw [e2,hm]
   exact Nat.le_refl _
  ·rw [e2]
   show max m n≤(S.take k).length
   rw [List.length_take]
   omega
 ·rcases hr.cell n c a (old e).2 (old f).2 with h | ⟨h1,h2⟩
  ·exact .inl h
  ·refine .inr ⟨h1,h2.cut hl (qbX ?_ (hr.wf n c (old e).2))⟩
   rw [lo]
   have:=(old e).1
   omega
 ·have e1:b'.o=some b1:=e1
  rcases hb' with e2 | ⟨e2,_⟩
  ·rw [e2,hm] at e1
   cases e1
   have:=hr.bl m hm
   rw [List.length_take]
   omega
  ·rw [e2] at e1
   cases e1
 ·obtain ⟨vs,h1,h2,h3⟩:=hr.tup n ws a (old e).2 (old f).2
  refine ⟨vs,h1,h2.cut (?_:ws.all (qad k)=true),h3⟩
  refine qbX (c:=.tup ws) ?_ (hr.wf n _ (old e).2)
  rw [lo]
  have:=(old e).1
  omega
theorem HRel.lock (hr:HRel K S w H) {d:Addr} {kv:List (Key × V)} {ob:Obj} (hd:w.F d=some (.dK kv)) :
  HRel K S ⟨w.ρ,upd w.F d (.frz ob (.dK kv)),w.b⟩ (upd H d (.frz ob (.dK kv)))∧LeW w ⟨w.ρ,upd w.F d (.frz ob (.dK kv)),w.b⟩:=by
 have lw:LeW w ⟨w.ρ,upd w.F d (.frz ob (.dK kv)),w.b⟩:=⟨List.prefix_refl _,fun a o e=>by
  by_cases h:a=d
  ·subst h
   rw [hd] at e
   cases e
   exact .inr ⟨kv,ob,rfl,upd_same⟩
  ·left
   show upd w.F d _ a=_
   rw [upd_ne h]
   exact e,rfl⟩
 refine ⟨⟨hr.le.upd2,hr.len,hr.inj,hr.wf,fun n c a e f=>?_,fun n a e=>?_,hr.bl,fun n ws a e f=>(hr.tup n ws a e f).monoV lw.v,hr.lkU fun ob u z=>by
  rw [hr.le d _ hd] at z
  cases z⟩,lw⟩
 ·rcases hr.cell n c a e f with h | ⟨h1,h2⟩
  ·exact .inl h
  ·have ne:a≠d:=fun z=>by
    rw [z,hd] at h1
    cases h1
   exact .inr ⟨by show upd w.F d _ a=none;rw [upd_ne ne];exact h1,h2.keep lw (upd_ne ne)⟩
 ·obtain ⟨o',ho⟩:=hr.trk n a e
  by_cases h:a=d
  ·subst h
   exact ⟨_,upd_same⟩
  ·exact ⟨o',by rw [upd_ne h];exact ho⟩
theorem LeW.take {w0 w1:Wd} {k:Nat} (h:LeW w1 w) (e1:w1.ρ=w0.ρ) (e2:w1.F=w0.F) (hk:w0.ρ.length≤k):LeW w0 ⟨w.ρ.take k,w.F,w0.b⟩:=by
 refine ⟨?_,by rw [← e2];exact h.2,rfl⟩
 show w0.ρ <+: w.ρ.take k
 rw [List.prefix_take_iff]
 exact ⟨by rw [← e1];exact h.1,hk⟩
def Wd.in_ (w:Wd) (cell:Bool) (n:Nat):Wd:=⟨w.ρ,w.F,if cell=true then w.b else ⟨some (w.b.o.getD n),w.b.lk⟩⟩
theorem Wd.in_lk {cell:Bool} {n:Nat}:(w.in_ cell n).b.lk=w.b.lk:=by
 cases cell <;> rfl
theorem Wd.in_v {cell:Bool} {n:Nat}:LeV w (w.in_ cell n):=LeV.same rfl rfl Wd.in_lk.symm
theorem HRel.in_ (hr:HRel K S w H) (cell:Bool):HRel K S (w.in_ cell S.length) H:=by
 refine ⟨hr.le,hr.len,hr.inj,fun n c e=>?_,fun n c a e f=>?_,hr.trk,fun b e=>?_,fun n ws a e f=>(hr.tup n ws a e f).monoV Wd.in_v,fun a o h=>hr.lks a o (by rw [Wd.in_lk] at h;exact h)⟩
 ·have h:=hr.wf n c e
  cases cell with
  | true=>exact h
  | false=>
   refine qbX ?_ h
   show loOf w.b S.length n≤max (w.b.o.getD S.length) n
   unfold loOf
   cases w.b.o with
   | none=>exact Nat.le_max_left _ _
   | some b=>exact Nat.le_refl _
 ·rcases hr.cell n c a e f with h | ⟨h1,h2⟩
  ·exact .inl h
  ·exact .inr ⟨h1,h2.keepV Wd.in_v rfl⟩
 ·cases cell with
  | true=>exact hr.bl b e
  | false=>
   have e:some (w.b.o.getD S.length)=some b:=e
   cases e
   cases hb:w.b.o with
   | none=>exact Nat.le_refl _
   | some b=>exact hr.bl b hb
theorem EnvRel.in_ {kp:Bool} {env:Env} {σ:L2.St} (q:EnvRel K kp w env σ) (cell:Bool) (n:Nat):EnvRel K (kp && cell) (w.in_ cell n) env σ:=by
 refine ⟨q.len,fun i x e=>?_,?_⟩
 ·obtain ⟨v,h1,h2⟩:=q.at_ i x e
  exact ⟨v,h1,h2.monoV Wd.in_v⟩
 ·cases cell with
  | true=>
   rw [Bool.and_true]
   exact q.kb
  | false=>
   rw [Bool.and_false]
   rfl
theorem HRel.out (hr:HRel K S w H) {w0:Wd} {n:Nat} (hb:w.b=(w0.in_ false n).b) (hbl:∀ b,w0.b.o=some b→b≤n) (hn:n≤S.length):HRel K (S.take n) ⟨w.ρ.take n,w.F,w0.b⟩ H:=by
 have ho:w.b.o=some (w0.b.o.getD n):=by rw [hb];rfl
 have hl:w0.b.lk=w.b.lk:=by rw [hb];rfl
 refine hr.take n ⟨_,ho,?_⟩ ?_ hl
 ·cases h:w0.b.o with
  | none=>exact Nat.le_refl _
  | some b=>exact hbl b h
 ·rw [ho]
  cases h:w0.b.o with
  | none=>exact .inr ⟨rfl,hn⟩
  | some b=>exact .inl rfl
theorem LeW.out {w0 w1:Wd} {n:Nat} (h:LeV w0 w1) (hk:w0.ρ.length≤n):LeW w0 ⟨w1.ρ.take n,w1.F,w0.b⟩:=by
 refine ⟨?_,h.2,rfl⟩
 show w0.ρ <+: w1.ρ.take n
 rw [List.prefix_take_iff]
 exact ⟨h.1,hk⟩
end
end LS
namespace LS
open PySem PySem.Spec PyProof.Rows L2
def Tk (X:Cx) (σ:L2.St) (η:XK):Prop:=Takes X (fun c d σ' H=>σ'=σ∧η c d H)
def ExW (X:Cx) (σ:L2.St) (w:Wd) (c:Str) (fs:List (Str × P)) (S:qaa):Prop:=
 ∃ η,Tk X σ η∧∀ w' H' d,LeW w w'→HRel X.K S w' H'→ExAt X.K w' fs d→η (.ref (He.ga X.K c)) d H'
theorem ExW.up {X:Cx} {σ:L2.St} {w w1:Wd} {c:Str} {fs:List (Str × P)} {S:qaa} (h:ExW X σ w c fs S) (l:LeW w w1):ExW X σ w1 c fs S:=by
 obtain ⟨η,t,q⟩:=h
 exact ⟨η,t,fun w' H' d a b c=>q w' H' d (l.trans a) b c⟩
def RdG (X:Cx) (σ:L2.St) {α β:Type} (rel:Wd→α→β→Prop) (w:Wd) (m:R (α × qaa)) (Q:β→Hp→Prop):Prop:=match m with
 | .ok q=>∀ w' v H',LeW w w'→HRel X.K q.2 w' H'→rel w' q.1 v→Q v H'
 | .ex c fs S=>ExW X σ w c fs S
 | .no=>False
section
variable {X:Cx} {σ:L2.St} {α β γ δ:Type} {rel:Wd→α→β→Prop} {rel2:Wd→γ→δ→Prop} {w:Wd} {Q:β→Hp→Prop}
theorem RdG.ok {x:α} {S:qaa}:RdG X σ rel w (.ok (x,S)) Q→∀ {w' v H'},LeW w w'→HRel X.K S w' H'→rel w' x v→Q v H':=fun h {w' v H'} a b c=>h w' v H' a b c
theorem RdG.up {m:R (α × qaa)} {w1:Wd} (h:RdG X σ rel w m Q) (l:LeW w w1):RdG X σ rel w1 m Q:=by
 cases m with
 | ok q=>exact fun w' v H' a b c=>h w' v H' (l.trans a) b c
 | ex _ _ _=>exact ExW.up h l
 | no=>exact h
theorem RdG.imp {m:R (α × qaa)} {Q':β→Hp→Prop} (h:RdG X σ rel w m Q) (k:∀ v H,Q v H→Q' v H):RdG X σ rel w m Q':=by
 cases m with
 | ok q=>exact fun w' v H' a b c=>k _ _ (h w' v H' a b c)
 | ex _ _ _=>exact h
 | no=>exact h
def Mid (X:Cx) (σ:L2.St) (rel:Wd→α→β→Prop) (rel2:Wd→γ→δ→Prop) (w:Wd) (k:α × qaa→R (γ × qaa)) (Q:δ→Hp→Prop):β→Hp→Prop:=fun v H1=>
 ∃ w1 x S1,LeW w w1∧HRel X.K S1 w1 H1∧rel w1 x v∧RdG X σ rel2 w1 (k (x,S1)) Q
theorem RdG.step {m:R (α × qaa)} {k:α × qaa→R (γ × qaa)} {Q:δ→Hp→Prop} (h:RdG X σ rel2 w (m.bind k) Q):RdG X σ rel w m (Mid X σ rel rel2 w k Q):=by
 cases m with
 | ok q=>exact fun w' v H' a b c=>⟨w',q.1,q.2,a,b,c,RdG.up (show RdG X σ rel2 w (k q) Q from h) a⟩
 | ex _ _ _=>exact h
 | no=>exact h
end
section
variable {X:Cx} {σ:L2.St} {α β γ δ:Type} {rel:Wd→α→β→Prop} {rel2:Wd→γ→δ→Prop} {w:Wd} {Q:β→Hp→Prop}
end
def relB (_:Wd) (a b:Bool):Prop:=a=b
def tE (X:Cx) (C:Cn) (e:E):TE:=fun σ H Q=>∃ w env S,HRel X.K S w H∧EnvRel X.K C.keep w env σ∧RdG X σ (RepW X.K) w (evE C e env S) Q
def tTm (X:Cx) (C:Cn) (e:E):TT:=fun σ H Q=>∃ w env S,HRel X.K S w H∧EnvRel X.K C.keep w env σ∧RdG X σ relB w (qaC (evE C e env S)) Q
def tAm (X:Cx) (C:Cn) (e:E):TA:=fun σ H Q=>∃ w env S,HRel X.K S w H∧EnvRel X.K C.keep w env σ∧RdG X σ (qaf X.K) w (evL C e env S) Q
theorem PE.weak {X:Cx} {e:Expr} {t t':TE} (h:PE X e t) (k:∀ σ H Q,t' σ H Q→t σ H Q):PE X e t':=⟨fun pins s σ H Q I q=>h.run pins s σ H Q I (k σ H Q q)⟩
theorem PT.weak {X:Cx} {e:Expr} {t t':TT} (h:PT X e t) (k:∀ σ H Q,t' σ H Q→t σ H Q):PT X e t':=⟨fun pins s σ H Q I q=>h.run pins s σ H Q I (k σ H Q q)⟩
theorem PA.weak {X:Cx} {e:List Expr} {t t':TA} (h:PA X e t) (k:∀ σ H Q,t' σ H Q→t σ H Q):PA X e t':=⟨fun pos pins s σ H Q I q=>h.run pos pins s σ H Q I (k σ H Q q)⟩
theorem PS.weak {X:Cx} {e:Stmt} {t t':TS} (h:PS X e t) (k:∀ D σ H,t' D σ H→t D σ H):PS X e t':=⟨fun pins s σ H D I q=>h.run pins s σ H D I (k D σ H q)⟩
theorem PE.pick {X:Cx} {e:Expr} {t:TE} (h:∀ σ H Q,t σ H Q→∃ t',PE X e t'∧t' σ H Q):PE X e t:=⟨fun pins s σ H Q I q=>by
 obtain ⟨t',p,q'⟩:=h σ H Q q
 exact p.run pins s σ H Q I q'⟩
theorem PA.pick {X:Cx} {e:List Expr} {t:TA} (h:∀ σ H Q,t σ H Q→∃ t',PA X e t'∧t' σ H Q):PA X e t:=⟨fun pos pins s σ H Q I q=>by
 obtain ⟨t',p,q'⟩:=h σ H Q q
 exact p.run pos pins s σ H Q I q'⟩
theorem PS.pick {X:Cx} {e:Stmt} {t:TS} (h:∀ D σ H,t D σ H→∃ t',PS X e t'∧t' D σ H):PS X e t:=⟨fun pins s σ H D I q=>by
 obtain ⟨t',p,q'⟩:=h D σ H q
 exact p.run pins s σ H D I q'⟩
def qbI (X:Cx) (f:Value→Value→Sem Value):R2:=fun x y H Q=>∃ r,OpR X f r∧r x y H Q
theorem qiW {X:Cx} (f:Value→Value→Sem Value):OpR X f (qbI X f):=fun pins s σ H x y v u Q I rx ry ⟨r,o,q⟩=>o pins s σ H x y v u Q I rx ry q
def qcW (X:Cx) (f:Value):List V→Hp→VK→Prop:=fun xs H Q=>∃ r,CallR X f r∧r xs H Q
theorem qgZ {X:Cx} (f:Value):CallR X f (qcW X f):=fun pins s σ H vs us Q I r ⟨q,c,h⟩=>c pins s σ H vs us Q I r h
def qae:Expr→Bool
 | .Starred _ _=>false
 | _=>true
theorem qai {e:Expr} {es:List Expr} {env:PySem.Env} (h:qae e=true):starEach (e::es) env=(false,eval e env)::starEach es env:=by
 cases e <;> first
  | rfl
  | cases h
theorem qch {pos:Pos} {env:PySem.Env}:∀ {es:List Expr},es.all qae=true→(backTo pos (starEach es env)).any (·.1)=false
 | [],_=>rfl
 | e::es,h=>by
  simp only [List.all_cons,Bool.and_eq_true] at h
  rw [qai h.1]
  show (false || (backTo pos (starEach es env)).any (·.1))=false
  rw [qch h.2]
  rfl
def qby:Expr→Bool
 | .Call (.Name _ _) [] [] _=>false
 | _=>true
theorem qdw {e:Expr} {f:Str} {env:PySem.Env} {m:Sem Value} (h:qby e=true):attributeBase e f env m=m:=by
 unfold attributeBase
 split
 ·cases h
 ·rfl
def qgg:Expr→Bool
 | .ListComp _ _ _ _=>false
 | .SetComp _ _ _ _=>false
 | .DictComp _ _ _ _ _=>false
 | _=>true
theorem qjp {e:Expr} {t:Option Expr} {l:Nat} {env:PySem.Env} (h:qgg e=true):swapsWith e t l env=pure false:=by
 cases e <;> first
  | rfl
  | cases h
def qdG:Expr→Bool
 | .BoolOp _ _ _=>false
 | .UnaryOp _ _ _=>false
 | .Compare _ _ _ _=>false
 | .IfExp _ _ _ _=>false
 | .NamedExpr _ _ _=>false
 | _=>true
theorem qis {e:Expr} {env:PySem.Env} (h:qdG e=true):∀ whole,isTrue e env whole=(do let v ← whole;standAt e.pos;holding [v] (truthy v)):=by
 intro whole
 cases e <;> first
  | rfl
  | cases h
def qa7:Expr→Bool
 | .Set _ _ _=>false
 | _=>true
theorem qdD {e:Expr} {env:PySem.Env} (h:qa7 e=true):∀ x,foldedSetIterable e env x=pure x:=by
 intro x
 cases e <;> first
  | rfl
  | cases h
def qcq:Expr→Bool
 | .Slice _ _ _ _=>false
 | _=>true
end LS
namespace PySem.SeqAt
open AutoSeq1 (wpAny_loadPart')
open MeetsSeq MeetsSeq2 MeetsSeq3 SeqRoads2
section
variable {prog:Program} {w:World}
theorem qgl (x y:Addr) (xs ys:Array Value) (nx ny:Nat) (dx dy:Option Addr) (lx ly:Array (Option Value)) (hq:xs.size=ys.size) (k:Nat) :
  ∀ i:Nat,xs.size - i=k→MeetsIn prog w (Builtin.«list.__eq__.loop» ⟨[.ref x,.ref y,rawInt i,rawInt 3],[]⟩)
   (fun A R s=>s.heap.get? x=some { cls:=.type "list",dict:=dx,data:=.seq xs nx,slots:=lx }∧s.heap.get? y=some { cls:=.type "list",dict:=dy,data:=.seq ys ny,slots:=ly }∧
    (∀ j (h1:j < xs.size) (h2:j < ys.size),EqP prog w A.in1 s xs[j] ys[j] true)∧R (.ok (.ret (.bool false))) s):=by
 induction k with
 | zero=>
  intro i hi A R s h
  obtain ⟨hp,g,d,tk,os⟩:=s
  obtain ⟨gx,gy,ge,gr⟩:=h
  wp_walk using wpAny_loadPart' gx,wpAny_loadPart' gy
  have e1:xs[((i:Nat):Int).toNat]?=none:=by simp;omega
  have e2:ys[((i:Nat):Int).toNat]?=none:=by simp;omega
  rw [e1,e2]
  wp_walk using wpAny_loadPart' gx,wpAny_loadPart' gy
  show R (.ok (.ret (.bool (xs.size != ys.size)))) _
  rw [hq]
  simpa using gr
 | succ k ih=>
  intro i hi A R s h
  obtain ⟨hp,g,d,tk,os⟩:=s
  obtain ⟨gx,gy,ge,gr⟩:=h
  wp_walk using wpAny_loadPart' gx,wpAny_loadPart' gy
  have l1:i < xs.size:=by omega
  have l2:i < ys.size:=by omega
  have e1:xs[((i:Nat):Int).toNat]?=some xs[i]:=by simp [l1]
  have e2:ys[((i:Nat):Int).toNat]?=some ys[i]:=by simp [l2]
  have up:((i:Int) + 1)=((i + 1:Nat):Int):=by omega
  rw [e1,e2]
  refine wpAny_bind (ge i l1 l2 _ _ ?_)
  wp_walk
  rw [up]
  refine ⟨plainId_quiet plain_eq_loop _,codeAny_builtin entry_eq_loop ?_⟩
  rw [Around.under_plainId plain_eq_loop _]
  exact ih (i + 1) (by omega) A R _ ⟨gx,gy,ge,gr⟩
theorem qgC (x y:Addr) (xs ys:Array Value) (nx ny:Nat) (dx dy:Option Addr) (lx ly:Array (Option Value)) (hq:xs.size=ys.size) :
  MeetsIn prog w (Builtin.«list.__ne__» ⟨[.ref x,.ref y],[]⟩)
   (fun A R s=>s.heap.get? x=some { cls:=.type "list",dict:=dx,data:=.seq xs nx,slots:=lx }∧s.heap.get? y=some { cls:=.type "list",dict:=dy,data:=.seq ys ny,slots:=ly }∧
    (∀ j (h1:j < xs.size) (h2:j < ys.size),EqP prog w A.in1 s xs[j] ys[j] true)∧R (.ok (.ret (.bool false))) s):=by
 intro A R s h
 obtain ⟨hp,g,d,tk,os⟩:=s
 obtain ⟨gx,gy,ge,gr⟩:=h
 have sub:=AutoSeq1.sub_list_list
 have nq:¬ (xs.size != ys.size)=true:=by simp [hq]
 wp_walk using wpAny_loadPart' gx,wpAny_loadPart' gy
 refine ⟨plainId_quiet plain_eq_loop _,codeAny_builtin entry_eq_loop ?_⟩
 rw [Around.under_plainId plain_eq_loop _]
 exact qgl x y xs ys nx ny dx dy lx ly hq _ 0 rfl A R _ ⟨gx,gy,ge,gr⟩
theorem qfK (l b:Addr) (us vs:Array Value) (n1 n2:Nat) (d1 d2:Option Addr) (z1 z2:Array (Option Value)) (e:Nat→Bool) :
  MeetsIn prog w (Builtin.«tuple.__eq__» ⟨[.ref l,.ref b],[]⟩)
   (fun A R s=>s.heap.get? l=some { cls:=.type "tuple",dict:=d1,data:=.seq us n1,slots:=z1 }∧s.heap.get? b=some { cls:=.type "tuple",dict:=d2,data:=.seq vs n2,slots:=z2 }∧
    (∀ j (h1:j < us.size) (h2:j < vs.size),EqP prog w A.in1 s us[j] vs[j] (e j))∧R (.ok (.ret (.bool ((List.range (min us.size vs.size)).all e && us.size == vs.size)))) s):=by
 intro A R s h
 obtain ⟨hp,g,d,tk,os⟩:=s
 obtain ⟨gl,gb,ge,gr⟩:=h
 have sub:=AutoSeq1.sub_tuple_tuple
 have zl:(us.toList.zip vs.toList).length=min us.size vs.size:=by simp
 wp_walk using wpAny_loadPart' gl,wpAny_loadPart' gb,wpAny_forIn_list _ (fun rest c s'=>c.1=none∧s'=⟨hp,g,d,tk,os⟩∧∃ i,rest=(us.toList.zip vs.toList).drop i∧
  R (.ok (.ret (.bool (((List.range (min us.size vs.size)).drop i).all e && us.size == vs.size)))) ⟨hp,g,d,tk,os⟩) _
 case turn=>
  rintro ⟨y,x⟩ rest c s' ⟨hc,rfl,i,hz,hR⟩
  have il:i < (us.toList.zip vs.toList).length:=by
   by_cases h':i < (us.toList.zip vs.toList).length
   ·exact h'
   ·rw [List.drop_of_length_le (Nat.le_of_not_lt h')] at hz;cases hz
  have im:i < min us.size vs.size:=zl ▸ il
  have i1:i < us.size:=Nat.lt_of_lt_of_le im (Nat.min_le_left _ _)
  have i2:i < vs.size:=Nat.lt_of_lt_of_le im (Nat.min_le_right _ _)
  rw [List.drop_eq_getElem_cons il] at hz
  injection hz with hyx hrest
  have ey:y=us[i]:=by have:=congrArg Prod.fst hyx;simpa using this
  have ex:x=vs[i]:=by have:=congrArg Prod.snd hyx;simpa using this
  subst ey ex
  rw [show (List.range (min us.size vs.size)).drop i=i::(List.range (min us.size vs.size)).drop (i + 1) from by simp [List.drop_eq_getElem_cons,im],List.all_cons] at hR
  refine wpAny_bind (ge i i1 i2 _ _ ?_)
  cases ev:e i with
  | true=>
   rw [ev] at hR
   wp_walk
   exact ⟨rfl,rfl,i + 1,hrest,by simpa using hR⟩
  | false=>
   rw [ev] at hR
   wp_walk
   simpa using hR
 case fin=>
  rintro ⟨c1,c2⟩ s' ⟨hc,rfl,i,hz,hR⟩
  simp only at hc
  subst hc
  have ge':min us.size vs.size≤i:=by
   by_cases h':i < (us.toList.zip vs.toList).length
   ·rw [List.drop_eq_getElem_cons h'] at hz;cases hz
   ·exact zl ▸ Nat.le_of_not_lt h'
  rw [List.drop_of_length_le (by simpa using ge')] at hR
  wp_walk
  simpa [Builtin.Tuple.tupleCompareSizes] using hR
 case h=>
  exact ⟨rfl,rfl,0,rfl,by simpa using gr⟩
theorem rcP_tuples {A:Around} {s:Shared} {l b:Addr} {us vs:Array Value} {e:Nat→Bool} (hl:s.heap.IsTuple l us) (hb:s.heap.IsTuple b vs) (hu:A.units < cLine)
  (he:∀ j (h1:j < us.size) (h2:j < vs.size),EqP prog w A.in1 s us[j] vs[j] (e j)) (E Q:Value→Shared→Prop) (h:Q (.bool ((List.range (min us.size vs.size)).all e && us.size == vs.size)) s):wpAny (model prog w) A (richCompare .Eq (.ref l) (.ref b)) Q E s:=by
 obtain ⟨⟨c1,d1,o1,z1⟩,g1,hc1,n1,hd1⟩:=id hl
 obtain ⟨⟨c2,d2,o2,z2⟩,g2,hc2,n2,hd2⟩:=id hb
 simp only at hc1 hd1 hc2 hd2
 subst hc1 hd1 hc2 hd2
 have tx:s.TypeIs (.ref l) "tuple":=⟨_,g1,rfl⟩
 have ty:s.TypeIs (.ref b) "tuple":=⟨_,g2,rfl⟩
 refine wpAny_richCompare_same_room (op:=.Eq) tx ty F.slot_tuple_eq ?_ hu
 exact call_meetsIn F.slot_tuple_eq tx F.entry_tuple_eq (F.args_tuple_eq_2 _ _) (qfK l b us vs n1 n2 d1 d2 z1 z2 e) ⟨g1,g2,he,show Value.bool _≠Value.notImplemented∧Q _ s from ⟨(fun x=>nomatch x),h⟩⟩
theorem lsp_lists_ne {A:Around} {s:Shared} {x y:Addr} {xs ys:Array Value} (hl:s.heap.IsList x xs) (hb:s.heap.IsList y ys) (hq:xs.size=ys.size) (hu:A.units < cLine)
  (ge:∀ j (h1:j < xs.size) (h2:j < ys.size),EqP prog w A.in1 s xs[j] ys[j] true) (E Q:Value→Shared→Prop) (h:Q (.bool false) s):wpAny (model prog w) A (richCompare .NotEq (.ref x) (.ref y)) Q E s:=by
 obtain ⟨⟨c1,d1,o1,z1⟩,g1,hc1,n1,hd1⟩:=id hl
 obtain ⟨⟨c2,d2,o2,z2⟩,g2,hc2,n2,hd2⟩:=id hb
 simp only at hc1 hd1 hc2 hd2
 subst hc1 hd1 hc2 hd2
 have tx:s.TypeIs (.ref x) "list":=⟨_,g1,rfl⟩
 have ty:s.TypeIs (.ref y) "list":=⟨_,g2,rfl⟩
 have hq':=h
 refine wpAny_richCompare_same_room (op:=.NotEq) tx ty F.slot_list_ne ?_ hu
 exact call_meetsIn F.slot_list_ne tx F.entry_list_ne (F.args_list_ne_2 _ _) (qgC x y xs ys n1 n2 d1 d2 z1 z2 hq) ⟨g1,g2,ge,show Value.bool false≠Value.notImplemented∧Q (.bool false) s from ⟨(fun x=>nomatch x),h⟩⟩
end
end PySem.SeqAt
namespace PySem.W
open Lean Elab Tactic Meta PySem PySem.Calls PyProof.Rows PyProof.V PySem.Spec
section
variable {prog:Program} {w:World} {K:Type} [DecidableEq K] {knd:KeyKind prog w K} {A:Around} {s:Shared}
theorem lsq_dicts_ne {a b:Addr} {ka kb:List (K × Value)} {r:Bool} (ya:(a == sysModules)=false) (yb:(b == sysModules)=false)
  (da:s.heap.DictOf knd a ka) (db:s.heap.DictOf knd b kb) (hu:A.units < cLine) (hits:ka.length=kb.length→KeqHitsP prog w A.in1 s kb ka r) (E Q:Value→Shared→Prop) (h:Q (.bool (!(ka.length == kb.length && r))) s):wpAny (model prog w) A (richCompare .NotEq (.ref a) (.ref b)) Q E s:=by
 have hq:=h
 refine wpAny_richCompare_same_room (op:=.NotEq) da.typeIs db.typeIs PySem.F.slot_dict_ne ?_ hu
 refine wpAny_call_entry PySem.F.slot_dict_ne da.typeIs PySem.F.entry_dict_ne ?_ (PySem.F.args_dict_ne_2 _ _)
 show wpAny _ _ (Builtin.Dict.dictSlotArgs "__ne__" ⟨[.ref a,.ref b],[]⟩ >>= _) _ _ s
 refine wpAny_bind ?_
 unfold Builtin.Dict.dictSlotArgs
 refine wpAny_bind (wpAny_notOrdered_dict da.typeIs (show wpAny _ _ (pure (Value.ref a,Value.ref b)) _ _ s from ?_))
 refine wpAny_pure (wpAny_bind (wpAny_isInstance (T:="dict") db.typeIs PySem.F.sub_dict_dict ?_))
 simp only [Bool.not_true,Bool.false_eq_true,if_false]
 refine wpAny_bind (wpAny_pure (wpAny_bind (wpAny_pure (wpAny_bind (samePairsP ya yb da db hits ?_)))))
 exact wpAny_pure ⟨_,rfl,(fun x=>nomatch x),by simpa using h⟩
end
section
variable {prog:Program} {w:World} {K:Type} [DecidableEq K] {knd:HeapKind prog w K} {A:Around} {s:Shared}
inductive KeqHitsH {K:Type} [DecidableEq K] (prog:Program) (w:World) (A:Around) (s:Shared) (kb:List (K × Addr × Value)):List (K × Addr × Value)→Bool→Prop
 | nil:KeqHitsH prog w A s kb [] true
 | miss {k:K} {v:Addr × Value} {r:List (K × Addr × Value)}:atKey kb k=none→KeqHitsH prog w A s kb ((k,v)::r) false
 | hit {k:K} {v y:Addr × Value} {r:List (K × Addr × Value)} {e b:Bool}:atKey kb k=some y→SeqAt.EqP prog w A s v.2 y.2 e→KeqHitsH prog w A s kb r b→KeqHitsH prog w A s kb ((k,v)::r) (e && b)
theorem KeqHitsH.inv {kb:List (K × Addr × Value)} {k:K} {v:Addr × Value} {r:List (K × Addr × Value)} {b:Bool} (h:KeqHitsH prog w A s kb ((k,v)::r) b) :
  (atKey kb k=none∧b=false)∨∃ y e c,atKey kb k=some y∧SeqAt.EqP prog w A s v.2 y.2 e∧KeqHitsH prog w A s kb r c∧b=(e && c):=by
 cases h with
 | miss hn=>exact .inl ⟨hn,rfl⟩
 | hit hy he hr=>exact .inr ⟨_,_,_,hy,he,hr,rfl⟩
theorem qfc {nm:String} {a b:Addr} {ka kb:List (K × Addr × Value)} {r:Bool} {E:Value→Shared→Prop} {Q:Bool→Shared→Prop} (ha:(a == sysModules)=false) (hb:(b == sysModules)=false)
  (da:s.heap.DictOfH knd a ka) (db:s.heap.DictOfH knd b kb) (hu:knd.room A) (hits:ka.length=kb.length→KeqHitsH prog w A s kb ka r) (h:Q (ka.length == kb.length && r) s) :
  wpAny (model prog w) A (Builtin.Dict.samePairs nm a b) Q E s:=by
 obtain ⟨oa,es,ep,hoa,_,hda,hea,hka,hna⟩:=da
 obtain ⟨ob,es',ep',hob,_,hdb,heb,hkb,hnb⟩:=db
 have hla:ka.length=es.size:=(size_of_entries hea).symm
 have hlb:kb.length=es'.size:=(size_of_entries heb).symm
 rw [hla,hlb] at h
 unfold Builtin.Dict.samePairs Builtin.Dict.showsAll
 rw [if_neg (show ¬ (a == sysModules)=true by rw [ha];exact Bool.false_ne_true),if_neg (show ¬ (b == sysModules)=true by rw [hb];exact Bool.false_ne_true)]
 refine wpAny_bind (wpAny_pure (wpAny_bind (wpAny_pure (wpAny_bind (wpAny_dictEntries hoa hda ?_)))))
 refine wpAny_bind (wpAny_dictEntries hob hdb ?_)
 by_cases hsz:es.size=es'.size
 case neg=>
  dsimp only
  rw [if_pos (by simpa using hsz)]
  rw [show (es.size == es'.size)=false by simpa using hsz,Bool.false_and] at h
  exact wpAny_bind (wpAny_rule (wpAny_pure h))
 case pos=>
  have h':Q r s:=by simpa [hsz] using h
  have hits':=hits (by rw [hla,hlb,hsz])
  dsimp only
  rw [if_neg (by rw [hsz];simp)]
  refine wpAny_bind (wpAny_dictEpoch hoa hda (wpAny_bind ?_))
  rw [Std.Legacy.Range.forIn_eq_forIn_range']
  simp only [Std.Legacy.Range.size,Nat.sub_zero,Nat.add_sub_cancel,Nat.div_one]
  refine wpAny_forIn_list _
   (fun rest q s'=>s'=s∧q=(none,())∧∃ i,rest=List.range' i (es.size - i)∧i≤es.size∧KeqHitsH prog w A s kb (ka.drop i) r)
   _ ?_ ?_ _ _ ⟨rfl,rfl,0,by simp,Nat.zero_le _,hits'⟩
  ·rintro x rest q s' ⟨rfl,rfl,i,hr,hi,hpre⟩
   have il:i < es.size:=by
    by_cases h:i < es.size
    ·exact h
    ·rw [Nat.sub_eq_zero_of_le (Nat.le_of_not_lt h)] at hr;simp at hr
   obtain ⟨rfl,hrest⟩:x=i∧rest=List.range' (i + 1) (es.size - (i + 1)):=by
    rw [show es.size - i=(es.size - (i + 1)) + 1 by omega,List.range'_succ] at hr
    injection hr with h1 h2
    exact ⟨h1,h2⟩
   refine wpAny_bind (wpAny_dictEntries hoa hda ?_)
   have il':x < ka.length:=by rw [hla];exact il
   obtain ⟨k,v,hkv⟩:∃ k v,ka[x]=(k,v):=⟨_,_,rfl⟩
   have hdrop:ka.drop x=(k,v)::ka.drop (x + 1):=by rw [← hkv];exact List.drop_eq_getElem_cons il'
   have ent:es[x]?=some (entryOfKey knd (k,v)):=by rw [entry_at hea x,List.getElem?_eq_getElem il',hkv];rfl
   have kin:=hka (k,v) (hkv ▸ List.getElem_mem il')
   rw [ent]
   rw [hdrop] at hpre
   show wpAny _ _ (holding [Value.ref v.1,v.2] (dictFind b (.ref v.1) (knd.hash k) >>= _) >>= _) _ _ _
   refine wpAny_bind (wpAny_holding (wpAny_bind (wpAny_dictFind_heap hu kin hob hdb heb hkb hnb (fun hno=>?_) fun j p hj=>?_)))
   ·have hn:=atKey_none_of_get hno
    rcases hpre.inv with ⟨_,er⟩ | ⟨y,_,_,hy,_⟩
    ·rw [er] at h'
     refine wpAny_pure ?_
     show wpAny _ _ (if (!false)=true then _ else _) _ _ _
     rw [if_pos (by decide)]
     exact wpAny_pure (wpAny_pure h')
    ·rw [hn] at hy;exact nomatch hy
   ·have hv:=atKey_of_get hnb hj
    refine wpAny_bind (wpAny_dictEntries hob hdb ?_)
    rw [show es'[j]?=some (entryOfKey knd (k,p)) by rw [entry_at heb j,hj];rfl]
    rcases hpre.inv with ⟨hn,_⟩ | ⟨y,e,c,hy,he,hrr,er⟩
    ·rw [hv] at hn;exact nomatch hn
    ·have ey:p=y:=Option.some.inj (hv.symm.trans hy)
     subst ey
     refine wpAny_holding (he _ _ ?_)
     cases e with
     | false=>
      rw [er,Bool.false_and] at h'
      show wpAny _ _ (if (!false)=true then _ else _) _ _ _
      rw [if_pos (by decide)]
      exact wpAny_pure (wpAny_pure h')
     | true=>
      rw [Bool.true_and] at er
      rw [← er] at hrr
      show wpAny _ _ (if (!true)=true then _ else _) _ _ _
      rw [if_neg (by decide)]
      refine wpAny_bind (wpAny_dictEpoch hoa hda ?_)
      rw [if_neg (by simp)]
      exact wpAny_pure ⟨rfl,rfl,x + 1,hrest,il,hrr⟩
  ·rintro q s' ⟨rfl,rfl,i,hr,hi,hpre⟩
   have hin:i=es.size:=by
    by_cases h:i < es.size
    ·rw [show es.size - i=(es.size - (i + 1)) + 1 by omega,List.range'_succ] at hr;exact nomatch hr
    ·exact Nat.le_antisymm hi (Nat.le_of_not_lt h)
   refine wpAny_pure ?_
   rw [hin,← hla,List.drop_length] at hpre
   cases hpre
   exact h'
theorem lsq_dictsH {a b:Addr} {ka kb:List (K × Addr × Value)} {r:Bool} (ya:(a == sysModules)=false) (yb:(b == sysModules)=false)
  (da:s.heap.DictOfH knd a ka) (db:s.heap.DictOfH knd b kb) (hk:knd.room A.in1) (hu:A.units < cLine) (hits:ka.length=kb.length→KeqHitsH prog w A.in1 s kb ka r) (E Q:Value→Shared→Prop) (h:Q (.bool (ka.length == kb.length && r)) s):wpAny (model prog w) A (richCompare .Eq (.ref a) (.ref b)) Q E s:=by
 have hq:=h
 refine wpAny_richCompare_same_room (op:=.Eq) da.typeIs db.typeIs PySem.F.slot_dict_eq ?_ hu
 refine wpAny_call_entry PySem.F.slot_dict_eq da.typeIs PySem.F.entry_dict_eq ?_ (PySem.F.args_dict_eq_2 _ _)
 show wpAny _ _ (Builtin.Dict.dictSlotArgs "__eq__" ⟨[.ref a,.ref b],[]⟩ >>= _) _ _ s
 refine wpAny_bind ?_
 unfold Builtin.Dict.dictSlotArgs
 refine wpAny_bind (wpAny_notOrdered_dict da.typeIs (show wpAny _ _ (pure (Value.ref a,Value.ref b)) _ _ s from ?_))
 refine wpAny_pure (wpAny_bind (wpAny_isInstance (T:="dict") db.typeIs PySem.F.sub_dict_dict ?_))
 simp only [Bool.not_true,Bool.false_eq_true,if_false]
 refine wpAny_bind (wpAny_pure (wpAny_bind (wpAny_pure (wpAny_bind (qfc ya yb da db hk hits ?_)))))
 exact wpAny_pure ⟨_,rfl,(fun x=>nomatch x),by simpa using h⟩
end
end PySem.W
namespace LS
open PySem PySem.Spec PyProof.Rows L2
def boOp:BO→Operator
 | .add=>.Add | .sub=>.Sub | .mul=>.Mult | .fdiv=>.FloorDiv | .mod=>.Mod | .pow=>.Pow
def coOp:CO→CmpOp
 | .eq=>.Eq | .ne=>.NotEq | .lt=>.Lt | .le=>.LtE | .gt=>.Gt | .ge=>.GtE | .isN=>.Is | .notN=>.IsNot | .in_=>.In | .nin=>.NotIn
theorem qao:lim≤sizeLine:=by rw [sizeLine_eq];decide
section
variable {X:Cx} {w:Wd} {H:Hp} {S:qaa} {x y:W} {v u:V} {Q:VK}
theorem RdG.val {σ:L2.St} (h:RdG X σ (RepW X.K) w (ok1 S p) Q) (hr:HRel X.K S w H) (r:RepP X.K w.F p v):Q v H:=h w v H (LeW.refl _) hr r
theorem qaz {K:PySem.W.Frag} {F:Hp} {i:Int} (h:RepT K F H (.int i) v):v=.int i:=by
 have h':RepP K F (.int i) v:=h
 unfold RepP at h'
 exact h'
theorem qbz {K:PySem.W.Frag} {F:Hp} {i:Str} (h:RepT K F H (.str i) v):v=.str i:=by
 have h':RepP K F (.str i) v:=h
 unfold RepP at h'
 exact h'
theorem T_bl {K:PySem.W.Frag} {F:Hp} {i:Bool} (h:RepT K F H (.bl i) v):v=.bl i:=by
 have h':RepP K F (.bl i) v:=h
 unfold RepP at h'
 exact h'
theorem qct {K:PySem.W.Frag} {F:Hp} (h:RepT K F H .non v):v=.non:=by
 have h':RepP K F .non v:=h
 unfold RepP at h'
 exact h'
theorem qbx {K:PySem.W.Frag} {F:Hp} {i:Int}:RepP K F (.int i) (.int i):=by unfold RepP;rfl
theorem qcb {K:PySem.W.Frag} {F:Hp} {i:Str}:RepP K F (.str i) (.str i):=by unfold RepP;rfl
theorem P_bl {K:PySem.W.Frag} {F:Hp} {i:Bool}:RepP K F (.bl i) (.bl i):=by unfold RepP;rfl
theorem qe8 {K:PySem.W.Frag} {F:Hp}:RepP K F .non .non:=by unfold RepP;rfl
theorem qbP {K:PySem.W.Frag} (hr:HRel K S w H) {xs:List P} {vs:List V} {p:Addr} (hp:H p=none) (r:qab K w.F xs vs) (hz:vs.length≤sizeLine) :
  ∃ w',LeW w w'∧HRel K S w' (upd H p (.lst vs))∧RepP K w'.F (.lst xs) (.ref p):=by
 obtain ⟨h1,h2⟩:=hr.newF (o:=.lst vs) hp
 refine ⟨_,h2,h1,?_⟩
 unfold RepP
 exact ⟨p,vs,rfl,upd_same,qab.mono h2.2 _ r,hz⟩
theorem qh7 {K:PySem.W.Frag} (hr:HRel K S w H) {xs:List P} {vs:List V} {p:Addr} (hp:H p=none) (r:qab K w.F xs vs) (hz:vs.length≤sizeLine) :
  ∃ w',LeW w w'∧HRel K S w' (upd H p (.tup vs))∧RepP K w'.F (.tup xs) (.ref p):=by
 obtain ⟨h1,h2⟩:=hr.newF (o:=.tup vs) hp
 refine ⟨_,h2,h1,?_⟩
 unfold RepP
 exact ⟨p,vs,rfl,SqT.of upd_same,qab.mono h2.2 _ r,hz⟩
theorem qgz {K:PySem.W.Frag} (hr:HRel K S w H) {xs:List (Key × P)} {vs:List (Key × V)} {p:Addr} (hp:H p=none) (r:qac K w.F xs vs) (hz:vs.length≤sizeLine) :
  ∃ w',LeW w w'∧HRel K S w' (upd H p (.dK vs))∧RepP K w'.F (.dct xs) (.ref p):=by
 obtain ⟨h1,h2⟩:=hr.newF (o:=.dK vs) hp
 refine ⟨_,h2,h1,?_⟩
 unfold RepP
 exact ⟨p,vs,_,rfl,upd_same,rfl,qac.mono h2.2 _ r,hz⟩
theorem qk6 (o:BO) (hr:HRel X.K S w H) (rx:RepW X.K w x v) (ry:RepW X.K w y u) (h:RdG X σ (RepW X.K) w (qaP o x y S) Q):qbI X (binaryOp (boOp o)) v u H Q:=by
 unfold qaP at h
 split at h
 case h_1 i j hx hy=>
  cases qaz (hr.view hx rx);cases qaz (hr.view hy ry)
  exact ⟨_,op_add,_,_,rfl,rfl,RdG.val h hr qbx⟩
 case h_2 a b hx hy=>
  cases qbz (hr.view hx rx);cases qbz (hr.view hy ry)
  split at h
  ·rename_i hl
   exact ⟨_,op_add_str,_,_,rfl,rfl,Nat.le_trans hl qao,RdG.val h hr qcb⟩
  ·exact h.elim
 case h_3 a b hx hy=>
  obtain ⟨p1,vs,rfl,s1,r1,z1⟩:=hr.view hx rx
  obtain ⟨p2,us,rfl,s2,r2,z2⟩:=hr.view hy ry
  split at h
  ·rename_i hl
   have l1:=r1.len
   have l2:=r2.len
   have hz:(vs++us).length≤sizeLine:=by
    rw [List.length_append]
    have:=qao
    omega
   refine ⟨_,op_cat,p1,p2,vs,us,rfl,rfl,s1,s2,by rw [← List.length_append];exact hz,fun p hp=>?_⟩
   obtain ⟨w',lw,hr',rp⟩:=qbP hr hp (qab.app r1 r2) hz
   exact h w' _ _ lw hr' rp
  ·exact h.elim
 case h_4 i j hx hy=>
  cases qaz (hr.view hx rx);cases qaz (hr.view hy ry)
  exact ⟨_,op_sub,_,_,rfl,rfl,RdG.val h hr qbx⟩
 case h_5 i j hx hy=>
  cases qaz (hr.view hx rx);cases qaz (hr.view hy ry)
  split at h
  ·rename_i hl
   refine ⟨_,op_mul,_,_,rfl,rfl,?_,RdG.val h hr qbx⟩
   unfold CMul
   rcases hl with hl | hl
   ·left
    omega
   ·right
    omega
  ·exact h.elim
 case h_6 i j hx hy=>
  cases qaz (hr.view hx rx);cases qaz (hr.view hy ry)
  split at h
  ·rename_i hl
   exact ⟨_,op_fdivW,_,_,rfl,rfl,wide_div (b:=100) hl.1 (by have:=hl.2;omega) (by decide) (by decide),RdG.val h hr qbx⟩
  ·exact h.elim
 case h_7 i j hx hy=>
  cases qaz (hr.view hx rx);cases qaz (hr.view hy ry)
  split at h
  ·rename_i hl
   exact ⟨_,op_mod,_,_,rfl,rfl,hl,RdG.val h hr qbx⟩
  ·exact h.elim
 case h_8 i j hx hy=>
  cases qaz (hr.view hx rx);cases qaz (hr.view hy ry)
  split at h
  ·rename_i hl
   refine ⟨_,op_pow,_,_,rfl,rfl,⟨hl.1,hl.2.1,?_⟩,RdG.val h hr qbx⟩
   exact hl.2.2
  ·exact h.elim
 case h_9 a j hx hy=>
  obtain ⟨p1,vs,rfl,s1,r1,z1⟩:=hr.view hx rx
  cases qaz (hr.view hy ry)
  split at h
  ·rename_i hl
   have l1:=r1.len
   have hrep:∀ n,∃ us,us=(List.replicate n vs).flatten∧qab X.K w.F (List.replicate n a).flatten us:=fun n=>by
    induction n with
    | zero=>exact ⟨[],rfl,by unfold qab;rfl⟩
    | succ n ih=>
     obtain ⟨us,e,r⟩:=ih
     refine ⟨vs++us,by rw [e,List.replicate_succ,List.flatten_cons],?_⟩
     rw [List.replicate_succ,List.flatten_cons]
     exact qab.app r1 r
   obtain ⟨us,e,r⟩:=hrep j.toNat
   have hlen:(List.replicate j.toNat vs).flatten.length≤sizeLine:=by
    have e2:(List.replicate j.toNat vs).flatten.length=j.toNat * vs.length:=by simp
    rw [e2,← l1,Nat.mul_comm]
    have:=qao
    omega
   refine ⟨_,op_rep,p1,j,vs,rfl,rfl,s1,by omega,by omega,by rw [← l1];have:=qao;omega,fun p hp=>?_⟩
   rw [← e] at hlen ⊢
   obtain ⟨w',lw,hr',rp⟩:=qbP hr hp r hlen
   exact h w' _ _ lw hr' rp
  ·exact h.elim
 case h_10=>exact h.elim
mutual
theorem qgi {K:PySem.W.Frag} {H:Hp}:∀ (p:P) {v:V} {d:PyData},RepP K H p v→p.py=some d→Dp K H v d
 | .non,v,d,r,e=>by
  unfold RepP at r
  unfold P.py at e
  cases e
  subst r
  exact .non
 | .bl b,v,d,r,e=>by
  unfold RepP at r
  unfold P.py at e
  cases e
  subst r
  exact .bl b
 | .int b,v,d,r,e=>by
  unfold RepP at r
  unfold P.py at e
  cases e
  subst r
  exact .int b
 | .str b,v,d,r,e=>by
  unfold RepP at r
  unfold P.py at e
  cases e
  subst r
  exact .str b
 | .lst xs,v,d,r,e=>by
  unfold RepP at r
  unfold P.py at e
  obtain ⟨a,vs,rfl,s,rs,z⟩:=r
  cases q:qcU xs with
  | none=>rw [q] at e;cases e
  | some ds=>
   rw [q] at e
   cases e
   exact .lst (SqL.of s) (qeZ xs rs q)
 | .tup xs,v,d,r,e=>by
  unfold RepP at r
  unfold P.py at e
  obtain ⟨a,vs,rfl,s,rs,z⟩:=r
  cases q:qcU xs with
  | none=>rw [q] at e;cases e
  | some ds=>
   rw [q] at e
   cases e
   exact .tup s (qeZ xs rs q)
 | .dct _,v,d,r,e=>by unfold P.py at e;cases e
 | .obj _ _,v,d,r,e=>by unfold P.py at e;cases e
 | .scr _,v,d,r,e=>by unfold P.py at e;cases e
 | .exc _ _,v,d,r,e=>by unfold P.py at e;cases e
 | .tpp _,v,d,r,e=>by unfold P.py at e;cases e
 | .tpk _,v,d,r,e=>by unfold P.py at e;cases e
theorem qeZ {K:PySem.W.Frag} {H:Hp}:∀ (ps:List P) {vs:List V} {ds:List PyData},qab K H ps vs→qcU ps=some ds→DpAll K H vs ds
 | [],vs,ds,r,e=>by
  unfold qab at r
  unfold qcU at e
  cases e
  subst r
  exact .nil
 | p::ps,vs,ds,r,e=>by
  unfold qab at r
  unfold qcU at e
  obtain ⟨v,t,rfl,h1,h2⟩:=r
  cases q1:p.py with
  | none=>rw [q1] at e;cases e
  | some d=>
   cases q2:qcU ps with
   | none=>rw [q1,q2] at e;cases e
   | some dd=>
    rw [q1,q2] at e
    cases e
    exact .cons (qgi p h1 q1) (qeZ ps h2 q2)
end
def toV:P→V
 | .bl b=>.bl b
 | .int i=>.int i
 | .str s=>.str s
 | _=>.non
theorem qko {K:PySem.W.Frag} {F:Hp} {p:P} (f:qaV p=true) (r:RepP K F p v):v=toV p:=by
 cases p with
 | non=>unfold RepP at r;exact r
 | bl b=>unfold RepP at r;exact r
 | int b=>unfold RepP at r;exact r
 | str b=>unfold RepP at r;exact r
 | _=>cases f
theorem qkh {K:PySem.W.Frag} {F:Hp} {p:P} (f:qaV p=true) (r:RepT K F H p v):v=toV p:=by
 cases p with
 | non=>exact qct r
 | bl b=>exact T_bl r
 | int b=>exact qaz r
 | str b=>exact qbz r
 | _=>cases f
theorem qgn {K:PySem.W.Frag} {F:Hp}:∀ {ps:List P} {vs:List V},ps.all qaV=true→qab K F ps vs→vs=ps.map toV
 | [],vs,_,r=>by unfold qab at r;exact r
 | p::ps,vs,f,r=>by
  unfold qab at r
  obtain ⟨v,t,rfl,h1,h2⟩:=r
  simp only [List.all_cons,Bool.and_eq_true] at f
  rw [qko f.1 h1,qgn f.2 h2]
  rfl
theorem qaQ {p:P} (f:qaV p=true):flatV (toV p)=true:=by
 cases p <;> first
  | rfl
  | cases f
theorem qlb {a b:P} (f:qaV a=true) (g:qaV b=true):eqV (toV a) (toV b)=eqF a b:=by
  cases a <;> cases b <;> first
    | rfl
    | (cases f;done)
    | (cases g;done)
theorem qkA {x:P} (f:qaV x=true):∀ {ys:List P},ys.all qaV=true→inV (toV x) (ys.map toV)=ys.any fun y=>eqF y x
 | [],_=>rfl
 | y::ys,g=>by
  simp only [List.all_cons,Bool.and_eq_true] at g
  have ih:=qkA f g.2
  unfold inV at ih ⊢
  rw [List.map_cons,List.any_cons,List.any_cons,qlb g.1 f,ih]
theorem qc4 {ys:List P} (g:ys.all qaV=true):(ys.map toV).all flatV=true:=by
 rw [List.all_map,List.all_eq_true]
 exact fun y hy=>qaQ (List.all_eq_true.mp g y hy)
theorem qo4 {K:PySem.W.Frag} {F:Hp} {p:P} {k:Key} (e:qaU p=some k) (r:RepP K F p v):v=kV k:=by
 cases p with
 | int i=>cases e;unfold RepP at r;exact r
 | str i=>cases e;unfold RepP at r;exact r
 | _=>cases e
theorem qjk {K:PySem.W.Frag} {F:Hp} {p:P} {k:Key} (e:qaU p=some k) (r:RepT K F H p v):v=kV k:=by
 cases p with
 | int i=>cases e;exact qaz r
 | str i=>cases e;exact qbz r
 | _=>cases e
theorem qa2 {a:Addr} {o:HO} {kvs:List (Key × V)} (h:H a=some o) (c:qbA o=.dK kvs):Rd H a (.dK kvs):=by
 unfold qbA at c
 split at c
 ·cases c
  exact .inr ⟨_,h⟩
 ·subst c
  exact .inl h
def rDIn (neg:Bool):R2:=fun y x H Q=>∃ a ov,x=.ref a∧DGet H a y ov∧Q (.bl (if neg then !ov.isSome else ov.isSome)) H
theorem qj1 (hu:X.A.units + 1 < cLine):OpR X (compareOp .In) (rDIn false):=by
 intro pins s σ H x y v u Q I rx ry h
 obtain ⟨a,ov,rfl,g,q⟩:=h
 cases ry
 exact d_in hu I g rx fun s3 I3=>⟨.bl ov.isSome,H,I3,rfl,q⟩
theorem qib (hu:X.A.units + 1 < cLine):OpR X (compareOp .NotIn) (rDIn true):=by
 intro pins s σ H x y v u Q I rx ry h
 obtain ⟨a,ov,rfl,g,q⟩:=h
 cases ry
 exact d_notIn hu I g rx fun s3 I3=>⟨.bl (!ov.isSome),H,I3,rfl,q⟩
theorem qki (neg:Bool) {a b:P} {k:Bool} (hu:X.A.units + 66 < cLine) (hr:HRel X.K S w H) (rx:RepT X.K w.F H a v) (ry:RepT X.K w.F H b u) (e:inP a b=some k)
  (q:Q (.bl (if neg then !k else k)) H):qbI X (compareOp (if neg then .NotIn else .In)) v u H Q:=by
 unfold inP at e
 cases b with
 | dct kvs=>
  obtain ⟨ad,kvs',o,rfl,ho,c,r,z⟩:=ry
  cases h:qaU a with
  | none=>rw [h] at e;cases e
  | some key=>
   rw [h] at e
   cases e
   cases qjk h rx
   have rd:=qa2 ho c
   have g:DGet H ad (kV key) (valV kvs' key):=.inl ⟨kvs',key,rd,rfl,rfl⟩
   have es:(valV kvs' key).isSome=(getK kvs key).isSome:=by
    obtain ⟨g1,g2⟩:=qac.get (k:=key) r
    cases h2:getK kvs key with
    | none=>rw [g2 h2];rfl
    | some p=>
     obtain ⟨v',e',_⟩:=g1 p h2
     rw [e']
     rfl
   cases neg with
   | false=>exact ⟨_,qj1 (by omega),ad,_,rfl,g,by rw [es];exact q⟩
   | true=>exact ⟨_,qib (by omega),ad,_,rfl,g,by rw [es];exact q⟩
 | str s=>
  cases qbz ry
  cases a with
  | str c=>
   cases qbz rx
   simp only at e
   split at e
   ·rename_i hl
    cases e
    obtain ⟨⟨arr⟩⟩:=c
    match arr,hl with
    | [c0],_=>
     cases neg with
     | false=>exact ⟨_,op_in_sign,c0,s,rfl,rfl,q⟩
     | true=>exact ⟨_,op_notIn_sign,c0,s,rfl,rfl,q⟩
   ·cases e
  | _=>cases e
 | lst ys=>
  have ry0:=ry
  obtain ⟨ad,vs,rfl,ho,r,z⟩:=ry
  simp only at e
  split at e
  ·rename_i hf
   simp only [Bool.and_eq_true] at hf
   cases e
   cases qkh hf.1 rx
   cases qgn hf.2 r
   have q':Q (.bl (if neg then !inV (toV a) (ys.map toV) else inV (toV a) (ys.map toV))) H:=by
    rw [qkA hf.1 hf.2]
    exact q
   cases neg with
   | false=>exact ⟨_,op_in_seq,ad,_,rfl,.inl (SqL.of ho),qaQ hf.1,qc4 hf.2,q'⟩
   | true=>exact ⟨_,op_notIn_seq,ad,_,rfl,.inl (SqL.of ho),qaQ hf.1,qc4 hf.2,q'⟩
  ·split at e
   ·rename_i d ds hd hds
    split at e
    ·rename_i hs
     cases e
     have h1:=qgi a (rx.all hr.le) hd
     have h2:=qgi (.lst ys) (ry0.all hr.le) hds
     cases neg with
     | false=>exact ⟨_,op_inD (by omega),d,ds,h1,h2,hs.1,hs.2,q⟩
     | true=>exact ⟨_,op_notInD (by omega),d,ds,h1,h2,hs.1,hs.2,q⟩
    ·cases e
   ·cases e
 | tup ys=>
  obtain ⟨ad,vs,rfl,ho,r,z⟩:=ry
  simp only at e
  split at e
  ·rename_i hf
   simp only [Bool.and_eq_true] at hf
   cases e
   cases qkh hf.1 rx
   cases qgn hf.2 r
   have q':Q (.bl (if neg then !inV (toV a) (ys.map toV) else inV (toV a) (ys.map toV))) H:=by
    rw [qkA hf.1 hf.2]
    exact q
   cases neg with
   | false=>exact ⟨_,op_in_seq,ad,_,rfl,.inr ho,qaQ hf.1,qc4 hf.2,q'⟩
   | true=>exact ⟨_,op_notIn_seq,ad,_,rfl,.inr ho,qaQ hf.1,qc4 hf.2,q'⟩
  ·cases e
 | _=>cases e
def qb7 (ls ks:List (Key × V)):Bool:=ks.all fun p=>match valV ls p.1 with
 | some u=>eqV p.2 u
 | none=>false
theorem qgV {k:Key} {u:V}:∀ {ls:List (Key × V)},valV ls k=some u→(k,u)∈ls
 | [],h=>by cases h
 | q::r,h=>by
  by_cases e:q.1=k
  ·rw [valV_pos e] at h
   cases h
   subst e
   exact List.mem_cons_self
  ·rw [valV_neg e] at h
   exact List.mem_cons_of_mem _ (qgV h)
theorem qf1 {A:Around} {s:Shared} {ls:List (Key × V)} {vb:List (Key × Value)} (rb:KV ls vb) (fl:∀ p∈ls,flatV p.2=true) {ks:List (Key × V)} {va:List (Key × Value)} (ra:KV ks va):(∀ p∈ks,flatV p.2=true)→PySem.W.KeqHits A s vb va (qb7 ls ks):=by
 unfold KV at ra
 induction ra with
 | nil=>exact fun _=>.nil
 | @cons p q ps qs h t ih=>
  intro fp
  have ih:=ih fun z hz=>fp z (List.mem_cons_of_mem _ hz)
  obtain ⟨k,v⟩:=q
  obtain ⟨h1,h2⟩:=h
  have h1:p.1=k:=h1
  have rv:=rb.val p.1
  cases hv:valV ls p.1 with
  | none=>
   rw [hv] at rv
   have hn:valueAt vb k=none:=by
    rw [← h1]
    cases hx:valueAt vb p.1 with
    | none=>rfl
    | some z=>rw [hx] at rv;exact rv.elim
   have e:qb7 ls (p::ps)=false:=by simp [qb7,hv]
   rw [e]
   exact .miss hn
  | some u=>
   rw [hv] at rv
   obtain ⟨y,hy,ry⟩:=rv.some_of
   rw [h1] at hy
   have e:qb7 ls (p::ps)=(eqV p.2 u && qb7 ls ps):=by simp [qb7,hv]
   rw [e]
   exact .hit hy (eqAt_V h2 ry (fp p List.mem_cons_self) (fl _ (qgV hv))) ih
def qmt (neg:Bool):R2:=fun x y H Q=>∃ a b ks ls,x=.ref a∧y=.ref b∧Rd H a (.dK ks)∧Rd H b (.dK ls)∧((∀ p∈ks,flatV p.2=true)∧(∀ p∈ls,flatV p.2=true)∨ks.length≠ls.length)∧Q (.bl (if neg=true then !(ks.length == ls.length && qb7 ls ks) else (ks.length == ls.length && qb7 ls ks))) H
theorem qlM (hu:X.A.units < cLine):OpR X (compareOp .Eq) (qmt false):=by
 intro pins s σ H x y v u Q I rx ry ⟨a,b,ks,ls,e1,e2,ha,hb,fl,q⟩
 subst e1 e2
 cases rx
 cases ry
 obtain ⟨_,ya,va,ra,da⟩:=dk_rd I.hok ha
 obtain ⟨_,yb,vb,rb,db⟩:=dk_rd I.hok hb
 have hh:va.length=vb.length→PySem.W.KeqHits X.A.in1 s vb va (qb7 ls ks):=fun e=>by
  rcases fl with ⟨fa,fb⟩ | ne
  ·exact qf1 rb fb ra fa
  ·exact absurd (by rw [ra.length,rb.length];exact e) ne
 exact PySem.W.keq_eq (knd:=mixKind X.prog X.w) ya yb da db hu hh (fin_bl I q (by rw [← ra.length,← rb.length];rfl))
theorem qkz (hu:X.A.units < cLine):OpR X (compareOp .NotEq) (qmt true):=by
 intro pins s σ H x y v u Q I rx ry ⟨a,b,ks,ls,e1,e2,ha,hb,fl,q⟩
 subst e1 e2
 cases rx
 cases ry
 obtain ⟨_,ya,va,ra,da⟩:=dk_rd I.hok ha
 obtain ⟨_,yb,vb,rb,db⟩:=dk_rd I.hok hb
 have hh:va.length=vb.length→PySem.W.KeqHits X.A.in1 s vb va (qb7 ls ks):=fun e=>by
  rcases fl with ⟨fa,fb⟩ | ne
  ·exact qf1 rb fb ra fa
  ·exact absurd (by rw [ra.length,rb.length];exact e) ne
 exact PySem.W.keq_ne (knd:=mixKind X.prog X.w) ya yb da db hu hh (fin_bl I q (by rw [← ra.length,← rb.length];rfl))
theorem qge {K:PySem.W.Frag} {F:Hp}:∀ {xs:List (Key × P)} {vs:List (Key × V)},qac K F xs vs→(xs.all fun q=>qaV q.2)=true→vs=xs.map fun q=>(q.1,toV q.2)
 | [],vs,q,_=>by unfold qac at q;exact q
 | (k,x)::xs,vs,q,h=>by
  unfold qac at q
  obtain ⟨v,t,rfl,h1,h2⟩:=q
  simp only [List.all_cons,Bool.and_eq_true] at h
  rw [qko h.1 h1,qge h2 h.2]
  rfl
theorem qin {k:Key}:∀ {xs:List (Key × P)},valV (xs.map fun q=>(q.1,toV q.2)) k=(getK xs k).map toV
 | []=>rfl
 | (k0,x)::xs=>by
  by_cases h:k0=k
  ·have e1:getK ((k0,x)::xs) k=some x:=by simp [getK,List.find?_cons,h]
   rw [e1,List.map_cons,valV_pos h]
   rfl
  ·have e1:getK ((k0,x)::xs) k=getK xs k:=by simp [getK,List.find?_cons,h]
   rw [e1,List.map_cons,valV_neg h]
   exact qin
theorem qi8 {k:Key} {p:P} {xs:List (Key × P)} (h:getK xs k=some p):∃ q∈xs,q.2=p:=by
 unfold getK at h
 cases hf:xs.find? fun q=>decide (q.1=k) with
 | none=>rw [hf] at h;cases h
 | some q=>
  rw [hf] at h
  cases h
  exact ⟨q,List.mem_of_find?_eq_some hf,rfl⟩
theorem qkU {K:PySem.W.Frag} {F:Hp} {x y:List (Key × P)} {ks ls:List (Key × V)} {d:Bool} (r1:qac K F x ks) (r2:qac K F y ls) (e:eqD x y=some d) :
  ((∀ p∈ks,flatV p.2=true)∧(∀ p∈ls,flatV p.2=true)∨ks.length≠ls.length)∧(ks.length == ls.length && qb7 ls ks)=d:=by
 unfold eqD at e
 split at e
 ·rename_i hf
  simp only [Bool.and_eq_true] at hf
  have e1:=qge r1 hf.1
  have e2:=qge r2 hf.2
  subst e1 e2
  refine ⟨.inl ⟨fun p hp=>?_,fun p hp=>?_⟩,?_⟩
  ·obtain ⟨q,hq,rfl⟩:=List.mem_map.mp hp
   exact qaQ (List.all_eq_true.mp hf.1 q hq)
  ·obtain ⟨q,hq,rfl⟩:=List.mem_map.mp hp
   exact qaQ (List.all_eq_true.mp hf.2 q hq)
  ·rw [← Option.some.inj e]
   rw [List.length_map,List.length_map]
   congr 1
   unfold qb7
   rw [List.all_map]
   rw [Bool.eq_iff_iff,List.all_eq_true,List.all_eq_true]
   refine forall_congr' fun q=>forall_congr' fun hq=>?_
   simp only [Function.comp]
   rw [qin]
   cases hg:getK y q.1 with
   | none=>simp
   | some u=>
    obtain ⟨z,hz,rfl⟩:=qi8 hg
    simp only [Option.map_some]
    rw [qlb (List.all_eq_true.mp hf.1 q hq) (List.all_eq_true.mp hf.2 z hz)]
 ·split at e
  ·cases e
  ·rename_i hl
   cases e
   have hne:ks.length≠ls.length:=by
    rw [← r1.len,← r2.len]
    exact hl
   exact ⟨.inr hne,by rw [beq_eq_false_iff_ne.mpr hne];rfl⟩
theorem qjY {K:PySem.W.Frag} {f:W→Option PyData} (hf:∀ {x:W} {v:V} {d:PyData},RepW K w x v→f x=some d→Dp K H v d):∀ {ws:List W} {vs:List V} {ds:List PyData},qaf K w ws vs→dWl f ws=some ds→DpAll K H vs ds
 | [],_,ds,.nil,q=>by cases q;exact .nil
 | x::ws,_,ds,.cons r1 r2,q=>by
  unfold dWl at q
  split at q
  ·rename_i d' ds' q1 q2
   cases q
   exact .cons (hf r1 q1) (qjY hf r2 q2)
  ·cases q
theorem qjQ {K:PySem.W.Frag} (hr:HRel K S w H):∀ (n:Nat) {x:W} {v:V} {d:PyData},RepW K w x v→dW S n x=some d→Dp K H v d
 | n,.v p,v,d,r,e=>by
  have e:p.py=some d:=by cases n <;> exact e
  exact qgi p ((RepP.top hr.le r).all hr.le) e
 | 0,.c i,v,d,r,e=>by cases e
 | n + 1,.c i,v,d,r,e=>by
  obtain ⟨a,ha,rfl⟩:=r
  unfold dW at e
  cases h:S[i]? with
  | none=>rw [h] at e;cases e
  | some c=>
   rw [h] at e
   cases c with
   | lst ws=>
    have e:(dWl (dW S n) ws).map .list=some d:=e
    rcases hr.cell i _ a h ha with h1 | ⟨_,vs,h1,h2,h3⟩
    ·cases h1
    ·cases q:dWl (dW S n) ws with
     | none=>rw [q] at e;cases e
     | some ds=>
      rw [q] at e
      cases e
      refine .lst (SqL.of h1) ?_
      exact qjY (qjQ hr n) h2 q
   | dct _=>cases e
   | ins _ _=>cases e
   | tup _=>cases e
   | dead=>cases e
   | lkd _=>cases e
   | dtt _=>cases e
   | lkt _=>cases e
theorem qk7 {X:Cx} (hu:X.A.units < cLine):OpR X (compareOp .Eq) (fun x y H Q=>∃ a b xs ys,x=.ref a∧y=.ref b∧SqL X.K H a xs∧SqL X.K H b ys∧xs.length≠ys.length∧Q (.bl false) H):=by
 intro pins s σ H x y v u Q I rx ry h
 obtain ⟨a,b,xs,ys,rfl,rfl,ha,hb,hn,q⟩:=h
 cases (show v=Value.ref a from rx)
 cases (show u=Value.ref b from ry)
 obtain ⟨us,r1,p1,_⟩:=I.list ha
 obtain ⟨ws,r2,p2,_⟩:=I.list hb
 have hsz:(us.toArray.size != ws.toArray.size)=true:=by
  rw [List.size_toArray,List.size_toArray,← r1.length,← r2.length]
  simpa using hn
 exact SeqAt.RcAt.lists_lengths p1.isList p2.isList hsz hu _ _ _ _ ⟨.bl _,H,I,rfl,q⟩
theorem qkZ {X:Cx} (hu:X.A.units < cLine):OpR X (compareOp .NotEq) (fun x y H Q=>∃ a b xs ys,x=.ref a∧y=.ref b∧SqL X.K H a xs∧SqL X.K H b ys∧xs.length≠ys.length∧Q (.bl true) H):=by
 intro pins s σ H x y v u Q I rx ry h
 obtain ⟨a,b,xs,ys,rfl,rfl,ha,hb,hn,q⟩:=h
 cases (show v=Value.ref a from rx)
 cases (show u=Value.ref b from ry)
 obtain ⟨us,r1,p1,_⟩:=I.list ha
 obtain ⟨ws,r2,p2,_⟩:=I.list hb
 have hsz:(us.toArray.size != ws.toArray.size)=true:=by
  rw [List.size_toArray,List.size_toArray,← r1.length,← r2.length]
  simpa using hn
 exact SeqAt.RcNeAt.lists_lengths p1.isList p2.isList hsz hu _ _ _ _ ⟨.bl _,H,I,rfl,q⟩
theorem qg1 {K:PySem.W.Frag} (hr:HRel K S w H) {n:Nat} {x:W} {v:V} (r:RepW K w x v) (e:llen S x=some n):∃ a vs,v=.ref a∧SqL K H a vs∧vs.length=n:=by
 cases x with
 | v p=>
  cases p with
  | lst ps=>
   cases e
   obtain ⟨a,vs,rfl,s,rs,z⟩:=RepP.top hr.le r
   exact ⟨a,vs,rfl,SqL.of s,(qab.len rs).symm⟩
  | _=>cases e
 | c i=>
  obtain ⟨a,ha,rfl⟩:=r
  have e:(match S[i]? with | some (.lst ws)=>some ws.length | _=>none)=some n:=e
  cases h:S[i]? with
  | none=>rw [h] at e;cases e
  | some c=>
   rw [h] at e
   cases c with
   | lst ws=>
    cases e
    rcases hr.cell i _ a h ha with h1 | ⟨_,vs,h1,h2,h3⟩
    ·cases h1
    ·exact ⟨a,vs,rfl,SqL.of h1,(Paired.length h2).symm⟩
   | dct _=>cases e
   | ins _ _=>cases e
   | tup _=>cases e
   | dead=>cases e
   | lkd _=>cases e
   | dtt _=>cases e
   | lkt _=>cases e
mutual
/-- what is shown at a value,by the heap alone -/
def Sh (K:PySem.W.Frag) (H:Hp):P→V→Prop
 | .non,v=>v=.non
 | .bl b,v=>v=.bl b
 | .int i,v=>v=.int i
 | .str s,v=>v=.str s
 | .lst xs,v=>∃ a vs,v=.ref a∧SqL K H a vs∧Shs K H xs vs
 | .tup xs,v=>∃ a vs,v=.ref a∧SqT K H a vs∧Shs K H xs vs
 | .dct kvs,v=>∃ a ks,v=.ref a∧Rd H a (.dK ks)∧Shk K H kvs ks
 | .obj _ _,_=>False
 | .scr _,_=>False
 | .exc _ _,_=>False
 | .tpp _,_=>False
 | .tpk _,_=>False
def Shs (K:PySem.W.Frag) (H:Hp):List P→List V→Prop
 | [],vs=>vs=[]
 | x::xs,vs=>∃ v r,vs=v::r∧Sh K H x v∧Shs K H xs r
def Shk (K:PySem.W.Frag) (H:Hp):List (Key × P)→List (Key × V)→Prop
 | [],vs=>vs=[]
 | (k,x)::xs,vs=>∃ v r,vs=(k,v)::r∧Sh K H x v∧Shk K H xs r
end
mutual
theorem qdg {K:PySem.W.Frag} {H:Hp}:∀ (p:P) {v:V},p.pln=true→RepP K H p v→Sh K H p v
 | .non,v,_,r=>by unfold RepP at r;unfold Sh;exact r
 | .bl b,v,_,r=>by unfold RepP at r;unfold Sh;exact r
 | .int i,v,_,r=>by unfold RepP at r;unfold Sh;exact r
 | .str s,v,_,r=>by unfold RepP at r;unfold Sh;exact r
 | .lst xs,v,h,r=>by
  unfold RepP at r
  unfold P.pln at h
  unfold Sh
  obtain ⟨a,vs,e,s,r,_⟩:=r
  exact ⟨a,vs,e,SqL.of s,qgh xs h r⟩
 | .tup xs,v,h,r=>by
  unfold RepP at r
  unfold P.pln at h
  unfold Sh
  obtain ⟨a,vs,e,s,r,_⟩:=r
  exact ⟨a,vs,e,s,qgh xs h r⟩
 | .dct kvs,v,h,r=>by
  unfold RepP at r
  unfold P.pln at h
  unfold Sh
  obtain ⟨a,ks,o,e,f,c,r,_⟩:=r
  exact ⟨a,ks,e,qa2 f c,qiK kvs h r⟩
 | .obj _ _,_,h,_=>by simp [P.pln] at h
 | .scr _,_,h,_=>by simp [P.pln] at h
 | .exc _ _,_,h,_=>by simp [P.pln] at h
 | .tpp _,_,h,_=>by simp [P.pln] at h
 | .tpk _,_,h,_=>by simp [P.pln] at h
theorem qgh {K:PySem.W.Frag} {H:Hp}:∀ (p:List P) {v:List V},plnL p=true→qab K H p v→Shs K H p v
 | [],v,_,r=>by unfold qab at r;unfold Shs;exact r
 | x::xs,v,h,r=>by
  unfold qab at r
  unfold plnL at h
  simp only [Bool.and_eq_true] at h
  unfold Shs
  obtain ⟨a,t,e,r1,r2⟩:=r
  exact ⟨a,t,e,qdg x h.1 r1,qgh xs h.2 r2⟩
theorem qiK {K:PySem.W.Frag} {H:Hp}:∀ (p:List (Key × P)) {v:List (Key × V)},plnK p=true→qac K H p v→Shk K H p v
 | [],v,_,r=>by unfold qac at r;unfold Shk;exact r
 | (k,x)::xs,v,h,r=>by
  unfold qac at r
  unfold plnK at h
  simp only [Bool.and_eq_true] at h
  unfold Shk
  obtain ⟨a,t,e,r1,r2⟩:=r
  exact ⟨a,t,e,qdg x h.1 r1,qiK xs h.2 r2⟩
end
theorem qeO {K:PySem.W.Frag} {f:W→Option P} (hf:∀ {x v p},RepW K w x v→f x=some p→Sh K H p v):∀ {ws:List W} {vs:List V} {ps:List P},qaf K w ws vs→mapO f ws=some ps→Shs K H ps vs
 | _,_,_,.nil,e=>by cases e;unfold Shs;rfl
 | x::xs,y::ys,_,.cons r t,e=>by
  unfold mapO at e
  split at e
  ·rename_i p ps e1 e2
   cases e
   unfold Shs
   exact ⟨_,_,rfl,hf r e1,qeO hf t e2⟩
  ·cases e
theorem qfi {K:PySem.W.Frag} {f:W→Option P} (hf:∀ {x v p},RepW K w x v→f x=some p→Sh K H p v):∀ {ws:List (Key × W)} {vs:List (Key × V)} {ps:List (Key × P)},qak K w ws vs→qiO f ws=some ps→Shk K H ps vs
 | _,_,_,.nil,e=>by cases e;unfold Shk;rfl
 | (k,x)::xs,(k',y)::ys,_,.cons r t,e=>by
  unfold qiO at e
  obtain ⟨r1,r2⟩:=r
  cases r1
  split at e
  ·rename_i p ps e1 e2
   cases e
   unfold Shk
   exact ⟨_,_,rfl,hf r2 e1,qfi hf t e2⟩
  ·cases e
theorem qgD {K:PySem.W.Frag} (hr:HRel K S w H):∀ (n:Nat) {x:W} {v:V} {p:P},RepW K w x v→dV S n x=some p→Sh K H p v
 | 0,.v q,v,p,r,e=>by
  unfold dV at e
  split at e
  ·rename_i hp
   cases e
   exact qdg _ hp (RepP.mono hr.le.l _ r)
  ·cases e
 | 0,.c i,v,p,r,e=>by unfold dV at e;cases e
 | n + 1,.v q,v,p,r,e=>by
  unfold dV at e
  split at e
  ·rename_i hp
   cases e
   exact qdg _ hp (RepP.mono hr.le.l _ r)
  ·cases e
 | n + 1,.c i,v,p,r,e=>by
  obtain ⟨a,ha,rfl⟩:=r
  unfold dV at e
  split at e
  ·rename_i ws h
   cases e1:mapO (dV S n) ws with
   | none=>rw [e1] at e;cases e
   | some ps=>
    rw [e1] at e
    cases e
    rcases hr.cell i _ a h ha with z | ⟨_,vs,h1,h2,h3⟩
    ·cases z
    ·unfold Sh
     exact ⟨a,vs,rfl,SqL.of h1,qeO (fun r e=>qgD hr n r e) h2 e1⟩
  ·rename_i ws h
   cases e1:mapO (dV S n) ws with
   | none=>rw [e1] at e;cases e
   | some ps=>
    rw [e1] at e
    cases e
    obtain ⟨vs,h1,h2,h3⟩:=hr.tup i ws a h ha
    unfold Sh
    exact ⟨a,vs,rfl,.inl (.inl (hr.le _ _ h1)),qeO (fun r e=>qgD hr n r e) h2 e1⟩
  ·rename_i ws h
   cases e1:qiO (dV S n) ws with
   | none=>rw [e1] at e;cases e
   | some ps=>
    rw [e1] at e
    cases e
    rcases hr.cell i _ a h ha with z | ⟨_,vs,h1,h2,h3⟩
    ·cases z
    ·unfold Sh
     exact ⟨a,vs,rfl,.inl h1,qfi (fun r e=>qgD hr n r e) h2 e1⟩
  ·cases e
mutual
theorem qeS:∀ (p q:P),p.same q=true→p=q
 | .non,q,h=>by cases q <;> simp_all [P.same]
 | .bl a,q,h=>by cases q <;> simp_all [P.same]
 | .int a,q,h=>by cases q <;> simp_all [P.same]
 | .str a,q,h=>by cases q <;> simp_all [P.same]
 | .lst a,q,h=>by
  unfold P.same at h
  split at h
  ·rw [qeX _ _ h]
  ·cases h
 | .tup a,q,h=>by
  unfold P.same at h
  split at h
  ·rw [qeX _ _ h]
  ·cases h
 | .dct a,q,h=>by
  unfold P.same at h
  split at h
  ·rw [qg9 _ _ h]
  ·cases h
 | .obj _ _,q,h=>by simp [P.same] at h
 | .scr _,q,h=>by simp [P.same] at h
 | .exc _ _,q,h=>by simp [P.same] at h
 | .tpp _,q,h=>by simp [P.same] at h
 | .tpk _,q,h=>by simp [P.same] at h
theorem qeX:∀ (p q:List P),qhK p q=true→p=q
 | [],q,h=>by cases q <;> simp_all [qhK]
 | x::xs,q,h=>by
  unfold qhK at h
  split at h
  ·simp only [Bool.and_eq_true] at h
   rw [qeS _ _ h.1,qeX _ _ h.2]
  ·cases h
theorem qg9:∀ (p q:List (Key × P)),qi2 p q=true→p=q
 | [],q,h=>by cases q <;> simp_all [qi2]
 | (k,x)::xs,q,h=>by
  unfold qi2 at h
  split at h
  ·simp only [Bool.and_eq_true,decide_eq_true_eq] at h
   rw [h.1,qeS _ _ h.2.1,qg9 _ _ h.2.2]
  ·cases h
end
theorem qbY {κ:Type} [DecidableEq κ]:∀ {kvs:List (κ × Value)} {q:κ × Value},(kvs.map (·.1)).Nodup→q∈kvs→valueAt kvs q.1=some q.2
 | x::xs,q,nd,hq=>by
  rw [List.map_cons,List.nodup_cons] at nd
  unfold valueAt
  rw [List.find?_cons]
  rcases List.mem_cons.mp hq with e | hq
  ·subst e
   simp
  ·have hn:¬ x.1=q.1:=fun e=>nd.1 (by rw [e];exact List.mem_map.mpr ⟨q,hq,rfl⟩)
   simp only [hn,decide_false]
   exact qbY nd.2 hq
section
variable {pins:List (Addr × Obj)} {σ0:L2.St} {s:Shared}
mutual
/-- two values that show the same are equal -/
theorem qns (I:Inv X pins σ0 H s):∀ (p:P) (A:Around) (x y:V) (v u:Value),A.units + p.dep < cLine→Sh X.K H p x→Sh X.K H p y→RelV x v→RelV y u→SeqAt.EqP X.prog X.w A s v u true
 | .non,A,x,y,v,u,_,h1,h2,r1,r2=>by
  unfold Sh at h1 h2
  subst h1 h2
  exact (eqAt_same r1 r2 rfl).eqP
 | .bl b,A,x,y,v,u,_,h1,h2,r1,r2=>by
  unfold Sh at h1 h2
  subst h1 h2
  exact (eqAt_same r1 r2 rfl).eqP
 | .int b,A,x,y,v,u,_,h1,h2,r1,r2=>by
  unfold Sh at h1 h2
  subst h1 h2
  exact (eqAt_same r1 r2 rfl).eqP
 | .str b,A,x,y,v,u,_,h1,h2,r1,r2=>by
  unfold Sh at h1 h2
  subst h1 h2
  exact (eqAt_same r1 r2 rfl).eqP
 | .lst xs,A,x,y,v,u,hu,h1,h2,r1,r2=>by
  unfold P.dep at hu
  unfold Sh at h1 h2
  obtain ⟨a,vs,rfl,s1,q1⟩:=h1
  obtain ⟨b,ws,rfl,s2,q2⟩:=h2
  cases (show v=Value.ref a from r1)
  cases (show u=Value.ref b from r2)
  by_cases e:a=b
  ·subst e
   exact (SeqAt.EqAt.same _).eqP
  ·refine SeqAt.eqP_refs e fun E Q q=>?_
   obtain ⟨is,k1,p1,_⟩:=I.list s1
   obtain ⟨js,k2,p2,_⟩:=I.list s2
   obtain ⟨hl,hj⟩:=qew I xs A.in1 vs ws is js (by show A.units + 1 + depL xs < cLine;omega) q1 q2 k1 k2
   refine SeqAt.rcP_lists (e:=fun _=>true) p1.isList p2.isList (by rw [List.size_toArray,List.size_toArray];exact hl) (by omega) (fun j z1 z2=>?_) E Q ?_
   ·have k:=hj j (by simpa using z1) (by simpa using z2)
    simpa using k
   ·rw [show ((List.range is.toArray.size).all fun _=>true)=true from List.all_eq_true.mpr fun _ _=>rfl]
    exact q
 | .tup xs,A,x,y,v,u,hu,h1,h2,r1,r2=>by
  unfold P.dep at hu
  unfold Sh at h1 h2
  obtain ⟨a,vs,rfl,s1,q1⟩:=h1
  obtain ⟨b,ws,rfl,s2,q2⟩:=h2
  cases (show v=Value.ref a from r1)
  cases (show u=Value.ref b from r2)
  by_cases e:a=b
  ·subst e
   exact (SeqAt.EqAt.same _).eqP
  ·refine SeqAt.eqP_refs e fun E Q q=>?_
   obtain ⟨is,k1,p1,_⟩:=I.tuple s1
   obtain ⟨js,k2,p2,_⟩:=I.tuple s2
   obtain ⟨hl,hj⟩:=qew I xs A.in1 vs ws is js (by show A.units + 1 + depL xs < cLine;omega) q1 q2 k1 k2
   refine GQ.rc_tupG (by rw [List.size_toArray,List.size_toArray];exact hl) (by omega) (fun _ s'=>s'=s) p1 p2 (fun j z1 z2 s' e'=>?_) (fun s' e'=>e' ▸ q) rfl
   subst e'
   have k:=hj j (by simpa using z1) (by simpa using z2)
   exact k _ _ ⟨rfl,rfl⟩
 | .dct kvs,A,x,y,v,u,hu,h1,h2,r1,r2=>by
  unfold P.dep at hu
  unfold Sh at h1 h2
  obtain ⟨a,ks,rfl,s1,q1⟩:=h1
  obtain ⟨b,ls,rfl,s2,q2⟩:=h2
  cases (show v=Value.ref a from r1)
  cases (show u=Value.ref b from r2)
  by_cases e:a=b
  ·subst e
   exact (SeqAt.EqAt.same _).eqP
  ·refine SeqAt.eqP_refs e fun E Q q=>?_
   obtain ⟨_,ya,va,ra,da⟩:=dk_rd I.hok s1
   obtain ⟨_,yb,vb,rb,db⟩:=dk_rd I.hok s2
   obtain ⟨_,_,_,_,_,_,_,nd⟩:=id db
   obtain ⟨hl,hj⟩:=qho I kvs A.in1 ks ls va vb (by show A.units + 1 + depK kvs < cLine;omega) q1 q2 ra rb
   refine PySem.W.rcP_dicts (knd:=mixKind X.prog X.w) (r:=true) ya yb da db (by omega) (fun _=>hj vb fun p hp=>qbY nd.2 hp) E Q ?_
   rw [show (va.length == vb.length && true)=true from by rw [hl];simp]
   exact q
 | .obj _ _,_,_,_,_,_,_,h,_,_,_=>by unfold Sh at h;exact h.elim
 | .scr _,_,_,_,_,_,_,h,_,_,_=>by unfold Sh at h;exact h.elim
 | .exc _ _,_,_,_,_,_,_,h,_,_,_=>by unfold Sh at h;exact h.elim
 | .tpp _,_,_,_,_,_,_,h,_,_,_=>by unfold Sh at h;exact h.elim
 | .tpk _,_,_,_,_,_,_,h,_,_,_=>by unfold Sh at h;exact h.elim
theorem qew (I:Inv X pins σ0 H s):∀ (p:List P) (A:Around) (xs ys:List V) (vs us:List Value),A.units + depL p < cLine→Shs X.K H p xs→Shs X.K H p ys→Vals xs vs→Vals ys us→
  vs.length=us.length∧∀ j (z1:j < vs.length) (z2:j < us.length),SeqAt.EqP X.prog X.w A s vs[j] us[j] true
 | [],A,xs,ys,vs,us,_,h1,h2,r1,r2=>by
  unfold Shs at h1 h2
  subst h1 h2
  cases r1
  cases r2
  exact ⟨rfl,fun j z=>absurd z (Nat.not_lt_zero j)⟩
 | p::ps,A,xs,ys,vs,us,hu,h1,h2,r1,r2=>by
  unfold depL at hu
  unfold Shs at h1 h2
  obtain ⟨v,t,rfl,a1,a2⟩:=h1
  obtain ⟨v',t',rfl,b1,b2⟩:=h2
  cases r1 with
  | cons k1 k2=>
   cases r2 with
   | cons l1 l2=>
    obtain ⟨hl,hj⟩:=qew I ps A _ _ _ _ (by omega) a2 b2 k2 l2
    refine ⟨congrArg (· + 1) hl,fun j z1 z2=>?_⟩
    cases j with
    | zero=>exact qns I p A _ _ _ _ (by omega) a1 b1 k1 l1
    | succ j=>exact hj j (Nat.lt_of_succ_lt_succ z1) (Nat.lt_of_succ_lt_succ z2)
theorem qho (I:Inv X pins σ0 H s):∀ (p:List (Key × P)) (A:Around) (xs ys:List (Key × V)) (vs us:List (Key × Value)),A.units + depK p < cLine→Shk X.K H p xs→Shk X.K H p ys→KV xs vs→KV ys us→
  vs.length=us.length∧∀ ub:List (Key × Value),(∀ q∈us,valueAt ub q.1=some q.2)→PySem.W.KeqHitsP X.prog X.w A s ub vs true
 | [],A,xs,ys,vs,us,_,h1,h2,r1,r2=>by
  unfold Shk at h1 h2
  subst h1 h2
  cases r1
  cases r2
  exact ⟨rfl,fun _ _=>.nil⟩
 | (k,p)::ps,A,xs,ys,vs,us,hu,h1,h2,r1,r2=>by
  unfold depK at hu
  unfold Shk at h1 h2
  obtain ⟨v,t,rfl,a1,a2⟩:=h1
  obtain ⟨v',t',rfl,b1,b2⟩:=h2
  unfold KV at r1 r2
  cases r1 with
  | @cons _ c _ cs k1 k2=>
   cases r2 with
   | @cons _ d _ ds l1 l2=>
    obtain ⟨k',c⟩:=c
    obtain ⟨l',d⟩:=d
    obtain ⟨e1,k1⟩:=k1
    obtain ⟨e2,l1⟩:=l1
    cases (show k=k' from e1)
    cases (show k=l' from e2)
    obtain ⟨hl,hj⟩:=qho I ps A _ _ _ _ (by omega) a2 b2 k2 l2
    refine ⟨congrArg (· + 1) hl,fun ub hb=>?_⟩
    show PySem.W.KeqHitsP X.prog X.w A s ub ((k,c)::cs) (true && true)
    exact .hit (hb (k,d) List.mem_cons_self) (qns I p A _ _ _ _ (by omega) a1 b1 k1 l1) (hj ub fun q hq=>hb q (List.mem_cons_of_mem _ hq))
end
end
def rSh (K:PySem.W.Frag) (neg:Bool):R2:=fun x y H Q=>∃ p,p.dep≤30∧Sh K H p x∧Sh K H p y∧(neg=true→qfU p=true∨qft p=true)∧Q (.bl (!neg)) H
theorem qi1 (hu:X.A.units + 64 < cLine):OpR X (compareOp .Eq) (rSh X.K false):=by
 intro pins s σ0 H x y v u Q I rx ry h
 obtain ⟨p,hd,h1,h2,_,q⟩:=h
 have hu1:X.A.in1.units=X.A.units + 1:=rfl
 have flat:∀ {x y:V},x=y→scal x y=true→RelV x v→RelV y u→wpAny (model X.prog X.w) X.A (compareOp .Eq v u) (EP X pins σ0 Q) X.xe s:=fun {x y} e z a b=>op_eq pins s σ0 H x y v u Q I a b ⟨z,by rw [decide_eq_true e];exact q⟩
 cases p with
 | non=>
  unfold Sh at h1 h2
  subst h1 h2
  exact flat rfl rfl rx ry
 | bl b=>
  unfold Sh at h1 h2
  subst h1 h2
  exact flat rfl rfl rx ry
 | int b=>
  unfold Sh at h1 h2
  subst h1 h2
  exact flat rfl rfl rx ry
 | str b=>
  unfold Sh at h1 h2
  subst h1 h2
  exact flat rfl rfl rx ry
 | lst xs=>
  unfold P.dep at hd
  unfold Sh at h1 h2
  obtain ⟨a,vs,rfl,s1,q1⟩:=h1
  obtain ⟨b,ws,rfl,s2,q2⟩:=h2
  cases (show v=Value.ref a from rx)
  cases (show u=Value.ref b from ry)
  obtain ⟨is,k1,p1,_⟩:=I.list s1
  obtain ⟨js,k2,p2,_⟩:=I.list s2
  obtain ⟨hl,hj⟩:=qew I xs X.A.in1 vs ws is js (by omega) q1 q2 k1 k2
  refine SeqAt.rcP_lists (e:=fun _=>true) p1.isList p2.isList (by rw [List.size_toArray,List.size_toArray];exact hl) (by omega) (fun j z1 z2=>?_) _ _ ⟨.bl true,H,I,?_,q⟩
  ·have k:=hj j (by simpa using z1) (by simpa using z2)
   simpa using k
  ·rw [show ((List.range is.toArray.size).all fun _=>true)=true from List.all_eq_true.mpr fun _ _=>rfl]
   rfl
 | tup xs=>
  unfold P.dep at hd
  unfold Sh at h1 h2
  obtain ⟨a,vs,rfl,s1,q1⟩:=h1
  obtain ⟨b,ws,rfl,s2,q2⟩:=h2
  cases (show v=Value.ref a from rx)
  cases (show u=Value.ref b from ry)
  obtain ⟨is,k1,p1,_⟩:=I.tuple s1
  obtain ⟨js,k2,p2,_⟩:=I.tuple s2
  obtain ⟨hl,hj⟩:=qew I xs X.A.in1 vs ws is js (by omega) q1 q2 k1 k2
  refine GQ.rc_tupG (by rw [List.size_toArray,List.size_toArray];exact hl) (by omega) (fun _ s'=>s'=s) p1 p2 (fun j z1 z2 s' e'=>?_) (fun s' e'=>e' ▸ ⟨.bl true,H,I,rfl,q⟩) rfl
  subst e'
  have k:=hj j (by simpa using z1) (by simpa using z2)
  exact k _ _ ⟨rfl,rfl⟩
 | dct kvs=>
  unfold P.dep at hd
  unfold Sh at h1 h2
  obtain ⟨a,ks,rfl,s1,q1⟩:=h1
  obtain ⟨b,ls,rfl,s2,q2⟩:=h2
  cases (show v=Value.ref a from rx)
  cases (show u=Value.ref b from ry)
  obtain ⟨_,ya,va,ra,da⟩:=dk_rd I.hok s1
  obtain ⟨_,yb,vb,rb,db⟩:=dk_rd I.hok s2
  obtain ⟨_,_,_,_,_,_,_,nd⟩:=id db
  obtain ⟨hl,hj⟩:=qho I kvs X.A.in1 ks ls va vb (by omega) q1 q2 ra rb
  refine PySem.W.rcP_dicts (knd:=mixKind X.prog X.w) (r:=true) ya yb da db (by omega) (fun _=>hj vb fun p hp=>qbY nd.2 hp) _ _ ⟨.bl true,H,I,?_,q⟩
  rw [show (va.length == vb.length && true)=true from by rw [hl];simp]
  rfl
 | _=>unfold Sh at h1;exact h1.elim
theorem qgm (hu:X.A.units + 64 < cLine):OpR X (compareOp .NotEq) (rSh X.K true):=by
 intro pins s σ0 H x y v u Q I rx ry h
 obtain ⟨p,hd,h1,h2,hl,q⟩:=h
 cases p with
 | lst xs=>
  have hu1:X.A.in1.units=X.A.units + 1:=rfl
  unfold P.dep at hd
  unfold Sh at h1 h2
  obtain ⟨a,vs,rfl,s1,q1⟩:=h1
  obtain ⟨b,ws,rfl,s2,q2⟩:=h2
  cases (show v=Value.ref a from rx)
  cases (show u=Value.ref b from ry)
  obtain ⟨is,k1,p1,_⟩:=I.list s1
  obtain ⟨js,k2,p2,_⟩:=I.list s2
  obtain ⟨hl,hj⟩:=qew I xs X.A.in1 vs ws is js (by omega) q1 q2 k1 k2
  refine SeqAt.lsp_lists_ne p1.isList p2.isList (by rw [List.size_toArray,List.size_toArray];exact hl) (by omega) (fun j z1 z2=>?_) _ _ ⟨.bl false,H,I,rfl,q⟩
  have k:=hj j (by simpa using z1) (by simpa using z2)
  simpa using k
 | dct kvs=>
  have hu1:X.A.in1.units=X.A.units + 1:=rfl
  unfold P.dep at hd
  unfold Sh at h1 h2
  obtain ⟨a,ks,rfl,s1,q1⟩:=h1
  obtain ⟨b,ls,rfl,s2,q2⟩:=h2
  cases (show v=Value.ref a from rx)
  cases (show u=Value.ref b from ry)
  obtain ⟨_,ya,va,ra,da⟩:=dk_rd I.hok s1
  obtain ⟨_,yb,vb,rb,db⟩:=dk_rd I.hok s2
  obtain ⟨_,_,_,_,_,_,_,nd⟩:=id db
  obtain ⟨hlen,hj⟩:=qho I kvs X.A.in1 ks ls va vb (by omega) q1 q2 ra rb
  refine PySem.W.lsq_dicts_ne (knd:=mixKind X.prog X.w) (r:=true) ya yb da db (by omega) (fun _=>hj vb fun p hp=>qbY nd.2 hp) _ _ ⟨.bl false,H,I,?_,q⟩
  rw [show (!(va.length == vb.length && true))=false from by rw [hlen];simp]
  rfl
 | _=>rcases hl rfl with z | z <;> cases z
theorem qks {K:PySem.W.Frag} (hr:HRel K S w H) {n:Nat} {a:Addr} {kvs:List (Key × W)} (ha:w.ρ[n]?=some a) (e:qiI S n=some kvs):∃ kvs',Rd H a (.dK kvs')∧qak K w kvs kvs'∧kvs'.length≤sizeLine:=by
 unfold qiI at e
 cases h:S[n]? with
 | none=>rw [h] at e;cases e
 | some c=>
  rw [h] at e
  have e:c.kvs=some kvs:=e
  cases c with
  | dct ws=>
   cases e
   rcases hr.cell n _ a h ha with z | ⟨_,vs,h1,h2,h3⟩
   ·cases z
   ·exact ⟨vs,.inl h1,h2,h3⟩
  | lkd ws=>
   cases e
   rcases hr.cell n _ a h ha with z | ⟨_,vs,od,h1,h2,h3⟩
   ·cases z
   ·exact ⟨vs,.inr ⟨od,(hr.lks a _ h1).1⟩,h2,h3⟩
  | _=>cases e
theorem qgf {K:PySem.W.Frag} (hr:HRel K S w H) {n:Nat} {a:Addr} {kvs:List (List Key × W)} (ha:w.ρ[n]?=some a) (e:qed S n=some kvs):∃ kvs',Rd H a (.dT kvs')∧qak K w kvs kvs'∧(kvs'.length≤sizeLine∧∀ q∈kvs',q.1.length≤100):=by
 unfold qed at e
 cases h:S[n]? with
 | none=>rw [h] at e;cases e
 | some c=>
  rw [h] at e
  have e:c.kvt=some kvs:=e
  cases c with
  | dtt ws=>
   cases e
   rcases hr.cell n _ a h ha with z | ⟨_,vs,h1,h2,h3⟩
   ·cases z
   ·exact ⟨vs,.inl h1,h2,h3⟩
  | lkt ws=>
   cases e
   rcases hr.cell n _ a h ha with z | ⟨_,vs,od,h1,h2,h3⟩
   ·cases z
   ·exact ⟨vs,.inr ⟨od,(hr.lks a _ h1).1⟩,h2,h3⟩
  | _=>cases e
theorem qpC {H:Hp} {a:Addr} {u v:List (Key × V)} (h:Rd H a (.dK u)) (g:Rd H a (.dK v)):u=v:=by
 rcases h with h | ⟨o,h⟩ <;> rcases g with g | ⟨o',g⟩ <;> (rw [h] at g;cases g) <;> rfl
theorem qiJ {K:PySem.W.Frag} {H:Hp} {k:Key}:∀ {ps:List (Key × P)} {ks:List (Key × V)},Shk K H ps ks→match getK ps k with
  | some p=>∃ v,valV ks k=some v∧Sh K H p v
  | none=>valV ks k=none
 | [],ks,h=>by
  unfold Shk at h
  subst h
  rfl
 | (k',p)::ps,ks,h=>by
  unfold Shk at h
  obtain ⟨v,r,rfl,h1,h2⟩:=h
  have ih:=qiJ (k:=k) h2
  by_cases e:k'=k
  ·subst e
   rw [show getK ((k',p)::ps) k'=some p by simp [getK]]
   exact ⟨v,valV_pos rfl,h1⟩
  ·rw [show getK ((k',p)::ps) k=getK ps k by simp [getK,e]]
   rw [valV_neg (p:=(k',v)) e]
   exact ih
theorem qb3 {K:PySem.W.Frag} {H:Hp}:∀ {ps:List (Key × P)} {ks:List (Key × V)},Shk K H ps ks→ps.length=ks.length
 | [],ks,h=>by unfold Shk at h;subst h;rfl
 | (k',p)::ps,ks,h=>by
  unfold Shk at h
  obtain ⟨v,r,rfl,h1,h2⟩:=h
  exact congrArg (· + 1) (qb3 h2)
theorem qa8 {K:PySem.W.Frag} {H:Hp}:∀ {ps:List P} {ks:List V},Shs K H ps ks→ps.length=ks.length
 | [],ks,h=>by unfold Shs at h;subst h;rfl
 | p::ps,ks,h=>by
  unfold Shs at h
  obtain ⟨v,r,rfl,h1,h2⟩:=h
  exact congrArg (· + 1) (qa8 h2)
theorem qe5 {K:PySem.W.Frag} {H:Hp} {p:P} {v:V} (f:qaV p=true) (r:Sh K H p v):v=toV p:=by
 cases p with
 | non=>unfold Sh at r;exact r
 | bl=>unfold Sh at r;exact r
 | int=>unfold Sh at r;exact r
 | str=>unfold Sh at r;exact r
 | _=>cases f
theorem qjE:∀ {p:P},qaV p=true→eqF p p=true:=by
 intro p f
 cases p with
 | non=>rfl
 | bl=>simp [eqF]
 | int=>simp [eqF]
 | str=>simp [eqF]
 | _=>cases f
theorem qhp {p q:P} (f:qaV p=true):p.eqQ q=if qaV q=true then some (eqF p q) else none:=by
 cases p with
 | non=>rw [P.eqQ]
 | bl=>rw [P.eqQ]
 | int=>rw [P.eqQ]
 | str=>rw [P.eqQ]
 | _=>cases f
theorem ql5 {p q:P} (f:qaV p=true) (g:qaV q=true) (e:toV p=toV q):p=q:=by
 cases p <;> cases q <;> simp [qaV,toV] at f g e ⊢ <;> assumption
section
variable {pins:List (Addr × Obj)} {σ0:L2.St} {s:Shared}
theorem qcr {K:PySem.W.Frag} {H:Hp} {p q:P} {x:V} {b:Bool} (f:qaV p=true) (h1:Sh K H p x) (h2:Sh K H q x) (e:p.eqQ q=some b):b=true:=by
 rw [qhp f] at e
 split at e
 ·rename_i g
  cases e
  have:=ql5 f g ((qe5 f h1).symm.trans (qe5 g h2))
  subst this
  exact qjE f
 ·cases e
theorem ql9 {ks:List (Key × V)} {va:List (Key × Value)} (r:KV ks va):ks.map (·.1)=va.map (·.1):=by
 unfold KV at r
 induction r with
 | nil=>rfl
 | @cons z u zs us h t ih=>rw [List.map_cons,List.map_cons,ih,h.1]
theorem qiQ {κ:Type} [DecidableEq κ]:∀ {vs:List (κ × V)} {z:κ × V},(vs.map (·.1)).Nodup→z∈vs→valV vs z.1=some z.2
 | [],z,_,hz=>by cases hz
 | z'::vs,z,nd,hz=>by
  rw [List.map_cons,List.nodup_cons] at nd
  rcases List.mem_cons.mp hz with e | hz
  ·subst e
   exact valV_pos rfl
  ·rw [valV_neg (fun e=>nd.1 (by rw [e];exact List.mem_map.mpr ⟨z,hz,rfl⟩))]
   exact qiQ nd.2 hz
mutual
/-- one object shows one datum -/
theorem qiU (I:Inv X pins σ0 H s):∀ (p q:P) (x:V) (b:Bool),Sh X.K H p x→Sh X.K H q x→p.eqQ q=some b→b=true
 | .non,q,x,b,h1,h2,e=>qcr rfl h1 h2 e
 | .bl _,q,x,b,h1,h2,e=>qcr rfl h1 h2 e
 | .int _,q,x,b,h1,h2,e=>qcr rfl h1 h2 e
 | .str _,q,x,b,h1,h2,e=>qcr rfl h1 h2 e
 | .lst xs,q,x,b,h1,h2,e=>by
  unfold P.eqQ at e
  split at e
  ·rename_i ys
   unfold Sh at h1 h2
   obtain ⟨a,vs,rfl,s1,q1⟩:=h1
   obtain ⟨a',ws,e1,s2,q2⟩:=h2
   cases e1
   cases I.list_inj s1 s2
   rw [if_pos (by rw [qa8 q1,qa8 q2])] at e
   exact qit I xs ys vs b q1 q2 e
  ·cases e
 | .tup xs,q,x,b,h1,h2,e=>by
  unfold P.eqQ at e
  split at e
  ·rename_i ys
   unfold Sh at h1 h2
   obtain ⟨a,vs,rfl,s1,q1⟩:=h1
   obtain ⟨a',ws,e1,s2,q2⟩:=h2
   cases e1
   cases I.tuple_inj s1 s2
   obtain ⟨r,e1,e2⟩:=Option.map_eq_some_iff.mp e
   have:=qit I xs ys vs r q1 q2 e1
   rw [← e2,this,qa8 q1,qa8 q2]
   simp
  ·cases e
 | .dct xs,q,x,b,h1,h2,e=>by
  unfold P.eqQ at e
  split at e
  ·rename_i ys
   unfold Sh at h1 h2
   obtain ⟨a,vs,rfl,s1,q1⟩:=h1
   obtain ⟨a',ws,e1,s2,q2⟩:=h2
   cases e1
   cases qpC s1 s2
   rw [if_pos (by rw [qb3 q1,qb3 q2])] at e
   obtain ⟨_,ya,va,ra,da⟩:=dk_rd I.hok s1
   obtain ⟨_,_,_,_,_,_,_,nd⟩:=id da
   refine qkk I xs ys vs vs b q1 q2 (fun z hz=>?_) e
   exact qiQ (by rw [ql9 ra];exact nd.2) hz
  ·cases e
 | .obj _ _,_,_,_,h,_,_=>by unfold Sh at h;exact h.elim
 | .scr _,_,_,_,h,_,_=>by unfold Sh at h;exact h.elim
 | .exc _ _,_,_,_,h,_,_=>by unfold Sh at h;exact h.elim
 | .tpp _,_,_,_,h,_,_=>by unfold Sh at h;exact h.elim
 | .tpk _,_,_,_,h,_,_=>by unfold Sh at h;exact h.elim
theorem qit (I:Inv X pins σ0 H s):∀ (p q:List P) (x:List V) (b:Bool),Shs X.K H p x→Shs X.K H q x→eqQL p q=some b→b=true
 | [],q,x,b,h1,h2,e=>by
  unfold eqQL at e
  cases e
  rfl
 | p::ps,q,x,b,h1,h2,e=>by
  unfold eqQL at e
  unfold Shs at h1
  obtain ⟨v,t,rfl,a1,a2⟩:=h1
  cases q with
  | nil=>cases e;rfl
  | cons q qs=>
   unfold Shs at h2
   obtain ⟨v',t',e1,b1,b2⟩:=h2
   cases e1
   simp only at e
   split at e
   ·rename_i c d hc hd
    cases e
    rw [qiU I p q v c a1 b1 hc,qit I ps qs t d a2 b2 hd]
    rfl
   ·cases e
theorem qkk (I:Inv X pins σ0 H s):∀ (p q:List (Key × P)) (x y:List (Key × V)) (b:Bool),Shk X.K H p x→Shk X.K H q y→(∀ z∈x,valV y z.1=some z.2)→eqQK p q=some b→b=true
 | [],q,x,y,b,h1,h2,hv,e=>by
  unfold eqQK at e
  cases e
  rfl
 | (k,p)::ps,q,x,y,b,h1,h2,hv,e=>by
  unfold eqQK at e
  unfold Shk at h1
  obtain ⟨v,t,rfl,a1,a2⟩:=h1
  have g:=qiJ (k:=k) h2
  have hk:valV y k=some v:=hv (k,v) List.mem_cons_self
  split at e
  ·rename_i hn
   rw [hn] at g
   rw [hk] at g
   cases g
  ·rename_i p' hp
   rw [hp] at g
   obtain ⟨v',h3,h4⟩:=g
   rw [hk] at h3
   cases h3
   split at e
   ·rename_i c d hc hd
    cases e
    rw [qiU I p p' v c a1 h4 hc,qkk I ps q t y d a2 h2 (fun z hz=>hv z (List.mem_cons_of_mem _ hz)) hd]
    rfl
   ·cases e
end
theorem qcM {A:Around} {K:PySem.W.Frag} {prog:Program} {wd:World} {p q:P} {x y:V} {v u:Value} {b:Bool} (f:qaV p=true) (h1:Sh K H p x) (h2:Sh K H q y) (e:p.eqQ q=some b) (r1:RelV x v) (r2:RelV y u):SeqAt.EqP prog wd A s v u b:=by
 rw [qhp f] at e
 split at e
 ·rename_i g
  cases e
  cases qe5 f h1
  cases qe5 g h2
  rw [← qlb f g]
  exact (eqAt_V r1 r2 (qaQ f) (qaQ g)).eqP
 ·cases e
mutual
/-- == of two values,by what they show -/
theorem sh_q (I:Inv X pins σ0 H s):∀ (p q:P) (A:Around) (x y:V) (v u:Value) (b:Bool),A.units + p.dep < cLine→Sh X.K H p x→Sh X.K H q y→p.eqQ q=some b→RelV x v→RelV y u→SeqAt.EqP X.prog X.w A s v u b
 | .non,q,A,x,y,v,u,b,_,h1,h2,e,r1,r2=>qcM rfl h1 h2 e r1 r2
 | .bl _,q,A,x,y,v,u,b,_,h1,h2,e,r1,r2=>qcM rfl h1 h2 e r1 r2
 | .int _,q,A,x,y,v,u,b,_,h1,h2,e,r1,r2=>qcM rfl h1 h2 e r1 r2
 | .str _,q,A,x,y,v,u,b,_,h1,h2,e,r1,r2=>qcM rfl h1 h2 e r1 r2
 | .lst xs,q,A,x,y,v,u,b,hu,h1,h2,e,r1,r2=>by
  have idn:=fun (z:x=y)=>qiU I (.lst xs) q x b h1 (z ▸ h2) e
  unfold P.dep at hu
  unfold P.eqQ at e
  split at e
  ·rename_i ys
   unfold Sh at h1 h2
   obtain ⟨a,vs,rfl,s1,q1⟩:=h1
   obtain ⟨a',ws,rfl,s2,q2⟩:=h2
   cases (show v=Value.ref a from r1)
   cases (show u=Value.ref a' from r2)
   by_cases e1:a=a'
   ·subst e1
    rw [idn rfl]
    exact (SeqAt.EqAt.same _).eqP
   ·refine SeqAt.eqP_refs e1 fun E Q q'=>?_
    obtain ⟨is,k1,p1,_⟩:=I.list s1
    obtain ⟨js,k2,p2,_⟩:=I.list s2
    have l1:xs.length=is.length:=(qa8 q1).trans k1.length
    have l2:ys.length=js.length:=(qa8 q2).trans k2.length
    split at e
    ·rename_i hl
     obtain ⟨ev,hj,ha⟩:=qi4 I xs ys A.in1 vs ws is js b (by show A.units + 1 + depL xs < cLine;omega) q1 q2 e k1 k2
     refine SeqAt.rcP_lists (e:=ev) p1.isList p2.isList (by rw [List.size_toArray,List.size_toArray,← l1,← l2];exact hl) (by omega) (fun j z1 z2=>?_) E Q ?_
     ·have k:=hj j (by simpa using z1) (by simpa using z2)
      simpa using k
     ·rw [show (List.range is.toArray.size).all ev=b from by rw [← ha,List.size_toArray,← l1,← l2,hl,Nat.min_self]]
      exact q'
    ·rename_i hl
     cases e
     exact SeqAt.RcAt.lists_lengths p1.isList p2.isList (by rw [List.size_toArray,List.size_toArray,← l1,← l2];simpa using hl) (by omega) X.prog X.w E Q q'
  ·cases e
 | .tup xs,q,A,x,y,v,u,b,hu,h1,h2,e,r1,r2=>by
  have idn:=fun (z:x=y)=>qiU I (.tup xs) q x b h1 (z ▸ h2) e
  unfold P.dep at hu
  unfold P.eqQ at e
  split at e
  ·rename_i ys
   unfold Sh at h1 h2
   obtain ⟨a,vs,rfl,s1,q1⟩:=h1
   obtain ⟨a',ws,rfl,s2,q2⟩:=h2
   cases (show v=Value.ref a from r1)
   cases (show u=Value.ref a' from r2)
   by_cases e1:a=a'
   ·subst e1
    rw [idn rfl]
    exact (SeqAt.EqAt.same _).eqP
   ·refine SeqAt.eqP_refs e1 fun E Q q'=>?_
    obtain ⟨is,k1,p1,_⟩:=I.tuple s1
    obtain ⟨js,k2,p2,_⟩:=I.tuple s2
    have l1:xs.length=is.length:=(qa8 q1).trans k1.length
    have l2:ys.length=js.length:=(qa8 q2).trans k2.length
    obtain ⟨r,e2,e3⟩:=Option.map_eq_some_iff.mp e
    obtain ⟨ev,hj,ha⟩:=qi4 I xs ys A.in1 vs ws is js r (by show A.units + 1 + depL xs < cLine;omega) q1 q2 e2 k1 k2
    refine SeqAt.rcP_tuples (e:=ev) p1 p2 (by omega) (fun j z1 z2=>?_) E Q ?_
    ·have k:=hj j (by simpa using z1) (by simpa using z2)
     simpa using k
    ·rw [List.size_toArray,List.size_toArray,ha,← l1,← l2,e3]
     exact q'
  ·cases e
 | .dct xs,q,A,x,y,v,u,b,hu,h1,h2,e,r1,r2=>by
  have idn:=fun (z:x=y)=>qiU I (.dct xs) q x b h1 (z ▸ h2) e
  unfold P.dep at hu
  unfold P.eqQ at e
  split at e
  ·rename_i ys
   unfold Sh at h1 h2
   obtain ⟨a,vs,rfl,s1,q1⟩:=h1
   obtain ⟨a',ws,rfl,s2,q2⟩:=h2
   cases (show v=Value.ref a from r1)
   cases (show u=Value.ref a' from r2)
   by_cases e1:a=a'
   ·subst e1
    rw [idn rfl]
    exact (SeqAt.EqAt.same _).eqP
   ·refine SeqAt.eqP_refs e1 fun E Q q'=>?_
    obtain ⟨_,ya,va,ra,da⟩:=dk_rd I.hok s1
    obtain ⟨_,yb,vb,rb,db⟩:=dk_rd I.hok s2
    have l1:xs.length=va.length:=(qb3 q1).trans ra.length
    have l2:ys.length=vb.length:=(qb3 q2).trans rb.length
    split at e
    ·rename_i hl
     have hits:=qjw I xs ys A.in1 vs ws va vb b (by show A.units + 1 + depK xs < cLine;omega) q1 q2 e ra rb
     refine PySem.W.rcP_dicts (knd:=mixKind X.prog X.w) (r:=b) ya yb da db (by omega) (fun _=>hits) E Q ?_
     rw [show (va.length == vb.length && b)=b from by rw [← l1,← l2,hl];simp]
     exact q'
    ·rename_i hl
     cases e
     refine PySem.W.rcP_dicts (knd:=mixKind X.prog X.w) (r:=false) ya yb da db (by omega) (fun h=>absurd (by rw [l1,l2];exact h) hl) E Q ?_
     rw [Bool.and_false]
     exact q'
  ·cases e
 | .obj _ _,_,_,_,_,_,_,_,_,h,_,_,_,_=>by unfold Sh at h;exact h.elim
 | .scr _,_,_,_,_,_,_,_,_,h,_,_,_,_=>by unfold Sh at h;exact h.elim
 | .exc _ _,_,_,_,_,_,_,_,_,h,_,_,_,_=>by unfold Sh at h;exact h.elim
 | .tpp _,_,_,_,_,_,_,_,_,h,_,_,_,_=>by unfold Sh at h;exact h.elim
 | .tpk _,_,_,_,_,_,_,_,_,h,_,_,_,_=>by unfold Sh at h;exact h.elim
theorem qi4 (I:Inv X pins σ0 H s):∀ (p q:List P) (A:Around) (xs ys:List V) (vs us:List Value) (b:Bool),A.units + depL p < cLine→Shs X.K H p xs→Shs X.K H q ys→eqQL p q=some b→Vals xs vs→Vals ys us→
  ∃ e:Nat→Bool,(∀ j (z1:j < vs.length) (z2:j < us.length),SeqAt.EqP X.prog X.w A s vs[j] us[j] (e j))∧(List.range (min vs.length us.length)).all e=b
 | [],q,A,xs,ys,vs,us,b,_,h1,h2,e,r1,r2=>by
  unfold Shs at h1
  subst h1
  cases r1
  unfold eqQL at e
  cases e
  exact ⟨fun _=>true,fun j z=>absurd z (Nat.not_lt_zero j),by simp⟩
 | p::ps,q,A,xs,ys,vs,us,b,hu,h1,h2,e,r1,r2=>by
  unfold depL at hu
  unfold eqQL at e
  unfold Shs at h1
  obtain ⟨v,t,rfl,a1,a2⟩:=h1
  cases r1 with
  | cons k1 k2=>
   cases q with
   | nil=>
    unfold Shs at h2
    subst h2
    cases r2
    cases e
    exact ⟨fun _=>true,fun j _ z=>absurd z (Nat.not_lt_zero j),by simp⟩
   | cons q qs=>
    unfold Shs at h2
    obtain ⟨v',t',rfl,b1,b2⟩:=h2
    simp only at e
    split at e
    ·rename_i c d hc hd
     cases e
     cases r2 with
     | cons l1 l2=>
      obtain ⟨ev,hj,ha⟩:=qi4 I ps qs A _ _ _ _ d (by omega) a2 b2 hd k2 l2
      refine ⟨fun j=>match j with | 0=>c | j + 1=>ev j,fun j z1 z2=>?_,?_⟩
      ·cases j with
       | zero=>exact sh_q I p q A _ _ _ _ c (by omega) a1 b1 hc k1 l1
       | succ j=>exact hj j (Nat.lt_of_succ_lt_succ z1) (Nat.lt_of_succ_lt_succ z2)
      ·rw [List.length_cons,List.length_cons,Nat.succ_min_succ,List.range_succ_eq_map,List.all_cons,List.all_map,← ha]
       rfl
    ·cases e
theorem qjw (I:Inv X pins σ0 H s):∀ (p q:List (Key × P)) (A:Around) (xs ys:List (Key × V)) (vs us:List (Key × Value)) (b:Bool),A.units + depK p < cLine→Shk X.K H p xs→Shk X.K H q ys→eqQK p q=some b→KV xs vs→KV ys us→
  PySem.W.KeqHitsP X.prog X.w A s us vs b
 | [],q,A,xs,ys,vs,us,b,_,h1,h2,e,r1,r2=>by
  unfold Shk at h1
  subst h1
  cases r1
  unfold eqQK at e
  cases e
  exact .nil
 | (k,p)::ps,q,A,xs,ys,vs,us,b,hu,h1,h2,e,r1,r2=>by
  unfold depK at hu
  unfold eqQK at e
  unfold Shk at h1
  obtain ⟨v,t,rfl,a1,a2⟩:=h1
  have g:=qiJ (k:=k) h2
  have rv:=r2.val k
  unfold KV at r1
  cases r1 with
  | @cons _ c _ cs k1 k2=>
   obtain ⟨k',c⟩:=c
   obtain ⟨e1,k1⟩:=k1
   cases (show k=k' from e1)
   split at e
   ·rename_i hn
    cases e
    rw [hn] at g
    rw [g] at rv
    refine .miss ?_
    cases hx:valueAt us k with
    | none=>rfl
    | some z=>rw [hx] at rv;exact rv.elim
   ·rename_i p' hp
    rw [hp] at g
    obtain ⟨v',h3,h4⟩:=g
    rw [h3] at rv
    obtain ⟨z,hz,rz⟩:=rv.some_of
    split at e
    ·rename_i c' d hc hd
     cases e
     exact .hit hz (sh_q I p p' A _ _ _ _ c' (by omega) a1 h4 hc k1 rz) (qjw I ps q A _ _ _ _ d (by omega) a2 h2 hd k2 r2)
    ·cases e
end
end
def rShQ (K:PySem.W.Frag) (neg:Bool):R2:=fun x y H Q=>∃ p q b,conP p=true∧p.dep≤30∧Sh K H p x∧Sh K H q y∧p.eqQ q=some b∧(neg=true→qft p=true)∧Q (.bl (if neg=true then !b else b)) H
theorem qj3 (hu:X.A.units + 64 < cLine):OpR X (compareOp .Eq) (rShQ X.K false):=by
 intro pins s σ H x y v u Q I r1 r2 h
 obtain ⟨p,q,b,hc,hd,h1,h2,e,_,hq⟩:=h
 have hu1:X.A.in1.units=X.A.units + 1:=rfl
 cases p with
 | lst xs=>
  unfold P.dep at hd
  unfold P.eqQ at e
  split at e
  ·rename_i ys
   unfold Sh at h1 h2
   obtain ⟨a,vs,rfl,s1,q1⟩:=h1
   obtain ⟨a',ws,rfl,s2,q2⟩:=h2
   cases (show v=Value.ref a from r1)
   cases (show u=Value.ref a' from r2)
   obtain ⟨is,k1,p1,_⟩:=I.list s1
   obtain ⟨js,k2,p2,_⟩:=I.list s2
   have l1:xs.length=is.length:=(qa8 q1).trans k1.length
   have l2:ys.length=js.length:=(qa8 q2).trans k2.length
   split at e
   ·rename_i hl
    obtain ⟨ev,hj,ha⟩:=qi4 I xs ys X.A.in1 vs ws is js b (by omega) q1 q2 e k1 k2
    refine SeqAt.rcP_lists (e:=ev) p1.isList p2.isList (by rw [List.size_toArray,List.size_toArray,← l1,← l2];exact hl) (by omega) (fun j z1 z2=>?_) _ _ ⟨.bl b,H,I,?_,hq⟩
    ·have k:=hj j (by simpa using z1) (by simpa using z2)
     simpa using k
    ·rw [show (List.range is.toArray.size).all ev=b from by rw [← ha,List.size_toArray,← l1,← l2,hl,Nat.min_self]]
     rfl
   ·rename_i hl
    cases e
    exact SeqAt.RcAt.lists_lengths p1.isList p2.isList (by rw [List.size_toArray,List.size_toArray,← l1,← l2];simpa using hl) (by omega) X.prog X.w _ _ ⟨.bl false,H,I,rfl,hq⟩
  ·cases e
 | tup xs=>
  unfold P.dep at hd
  unfold P.eqQ at e
  split at e
  ·rename_i ys
   unfold Sh at h1 h2
   obtain ⟨a,vs,rfl,s1,q1⟩:=h1
   obtain ⟨a',ws,rfl,s2,q2⟩:=h2
   cases (show v=Value.ref a from r1)
   cases (show u=Value.ref a' from r2)
   obtain ⟨is,k1,p1,_⟩:=I.tuple s1
   obtain ⟨js,k2,p2,_⟩:=I.tuple s2
   have l1:xs.length=is.length:=(qa8 q1).trans k1.length
   have l2:ys.length=js.length:=(qa8 q2).trans k2.length
   obtain ⟨r,e2,e3⟩:=Option.map_eq_some_iff.mp e
   obtain ⟨ev,hj,ha⟩:=qi4 I xs ys X.A.in1 vs ws is js r (by omega) q1 q2 e2 k1 k2
   refine SeqAt.rcP_tuples (e:=ev) p1 p2 (by omega) (fun j z1 z2=>?_) _ _ ⟨.bl b,H,I,?_,hq⟩
   ·have k:=hj j (by simpa using z1) (by simpa using z2)
    simpa using k
   ·rw [List.size_toArray,List.size_toArray,ha,← l1,← l2,e3]
    rfl
  ·cases e
 | dct xs=>
  unfold P.dep at hd
  unfold P.eqQ at e
  split at e
  ·rename_i ys
   unfold Sh at h1 h2
   obtain ⟨a,vs,rfl,s1,q1⟩:=h1
   obtain ⟨a',ws,rfl,s2,q2⟩:=h2
   cases (show v=Value.ref a from r1)
   cases (show u=Value.ref a' from r2)
   obtain ⟨_,ya,va,ra,da⟩:=dk_rd I.hok s1
   obtain ⟨_,yb,vb,rb,db⟩:=dk_rd I.hok s2
   have l1:xs.length=va.length:=(qb3 q1).trans ra.length
   have l2:ys.length=vb.length:=(qb3 q2).trans rb.length
   split at e
   ·rename_i hl
    have hits:=qjw I xs ys X.A.in1 vs ws va vb b (by omega) q1 q2 e ra rb
    refine PySem.W.rcP_dicts (knd:=mixKind X.prog X.w) (r:=b) ya yb da db (by omega) (fun _=>hits) _ _ ⟨.bl b,H,I,?_,hq⟩
    rw [show (va.length == vb.length && b)=b from by rw [← l1,← l2,hl];simp]
    rfl
   ·rename_i hl
    cases e
    refine PySem.W.rcP_dicts (knd:=mixKind X.prog X.w) (r:=false) ya yb da db (by omega) (fun h=>absurd (by rw [l1,l2];exact h) hl) _ _ ⟨.bl false,H,I,?_,hq⟩
    rw [Bool.and_false]
    rfl
  ·cases e
 | _=>cases hc
theorem qkb (hu:X.A.units + 64 < cLine):OpR X (compareOp .NotEq) (rShQ X.K true):=by
 intro pins s σ H x y v u Q I r1 r2 h
 obtain ⟨p,q,b,hc,hd,h1,h2,e,hn,hq⟩:=h
 have hu1:X.A.in1.units=X.A.units + 1:=rfl
 cases p with
 | dct xs=>
  unfold P.dep at hd
  unfold P.eqQ at e
  split at e
  ·rename_i ys
   unfold Sh at h1 h2
   obtain ⟨a,vs,rfl,s1,q1⟩:=h1
   obtain ⟨a',ws,rfl,s2,q2⟩:=h2
   cases (show v=Value.ref a from r1)
   cases (show u=Value.ref a' from r2)
   obtain ⟨_,ya,va,ra,da⟩:=dk_rd I.hok s1
   obtain ⟨_,yb,vb,rb,db⟩:=dk_rd I.hok s2
   have l1:xs.length=va.length:=(qb3 q1).trans ra.length
   have l2:ys.length=vb.length:=(qb3 q2).trans rb.length
   split at e
   ·rename_i hl
    have hits:=qjw I xs ys X.A.in1 vs ws va vb b (by omega) q1 q2 e ra rb
    refine PySem.W.lsq_dicts_ne (knd:=mixKind X.prog X.w) (r:=b) ya yb da db (by omega) (fun _=>hits) _ _ ⟨.bl (!b),H,I,?_,hq⟩
    rw [show (va.length == vb.length && b)=b from by rw [← l1,← l2,hl];simp]
    rfl
   ·rename_i hl
    cases e
    refine PySem.W.lsq_dicts_ne (knd:=mixKind X.prog X.w) (r:=false) ya yb da db (by omega) (fun h=>absurd (by rw [l1,l2];exact h) hl) _ _ ⟨.bl (!false),H,I,?_,hq⟩
    rw [Bool.and_false]
    rfl
  ·cases e
 | _=>cases hn rfl
def Sht (K:PySem.W.Frag) (H:Hp):List (List Key × P)→List (List Key × V)→Prop
 | [],vs=>vs=[]
 | (k,x)::xs,vs=>∃ v r,vs=(k,v)::r∧Sh K H x v∧Sht K H xs r
theorem qdC {K:PySem.W.Frag} {f:W→Option P} (hf:∀ {x v p},RepW K w x v→f x=some p→Sh K H p v):∀ {ws:List (List Key × W)} {vs:List (List Key × V)} {ps:List (List Key × P)},qak K w ws vs→qik f ws=some ps→Sht K H ps vs
 | [],_,ps,.nil,e=>by cases e;unfold Sht;rfl
 | (k,x)::ws,(k',v)::vs,ps,.cons ⟨e1,h⟩ t,e=>by
  cases (show k=k' from e1)
  unfold qik at e
  split at e
  ·rename_i p qs hp hq
   cases e
   unfold Sht
   exact ⟨v,vs,rfl,hf h hp,qdC hf t hq⟩
  ·cases e
theorem qka {K:PySem.W.Frag} {H:Hp} {k:List Key}:∀ {ps:List (List Key × P)} {ks:List (List Key × V)},Sht K H ps ks→match qdo ps k with
  | some p=>∃ v,valV ks k=some v∧Sh K H p v
  | none=>valV ks k=none
 | [],ks,h=>by
  unfold Sht at h
  subst h
  rfl
 | (k',p)::ps,ks,h=>by
  unfold Sht at h
  obtain ⟨v,r,rfl,h1,h2⟩:=h
  have ih:=qka (k:=k) h2
  by_cases e:k'=k
  ·subst e
   rw [show qdo ((k',p)::ps) k'=some p by simp [qdo]]
   exact ⟨v,valV_pos rfl,h1⟩
  ·rw [show qdo ((k',p)::ps) k=qdo ps k by simp [qdo,e]]
   rw [valV_neg (p:=(k',v)) e]
   exact ih
theorem qmM {pins:List (Addr × Obj)} {σ0:L2.St} {s:Shared} (I:Inv X pins σ0 H s):∀ (p q:List (List Key × P)) (A:Around) (xs ys:List (List Key × V)) (vs us:List (List Key × Addr × Value)) (b:Bool),(∀ z∈p,A.units + z.2.dep < cLine)→Sht X.K H p xs→Sht X.K H q ys→eqQT p q=some b→KT H xs vs→KT H ys us→
  PySem.W.KeqHitsH X.prog X.w A s us vs b
 | [],q,A,xs,ys,vs,us,b,_,h1,h2,e,r1,r2=>by
  unfold Sht at h1
  subst h1
  cases r1
  unfold eqQT at e
  cases e
  exact .nil
 | (k,p)::ps,q,A,xs,ys,vs,us,b,hu,h1,h2,e,r1,r2=>by
  unfold eqQT at e
  unfold Sht at h1
  obtain ⟨v,t,rfl,a1,a2⟩:=h1
  have g:=qka (k:=k) h2
  have rv:=r2.val k
  cases r1 with
  | @cons _ c _ cs k1 k2=>
   obtain ⟨k',c⟩:=c
   obtain ⟨e1,_,k1⟩:=k1
   cases (show k=k' from e1)
   split at e
   ·rename_i hn
    cases e
    rw [hn] at g
    rw [g] at rv
    refine .miss ?_
    cases hx:atKey us k with
    | none=>rfl
    | some z=>rw [hx] at rv;exact rv.elim
   ·rename_i p' hp
    rw [hp] at g
    obtain ⟨v',h3,h4⟩:=g
    rw [h3] at rv
    obtain ⟨z,hz,rz⟩:=rv.some_of
    obtain ⟨z',hz',rfl⟩:=Option.map_eq_some_iff.mp hz
    split at e
    ·rename_i c' d hc hd
     cases e
     exact .hit hz' (sh_q I p p' A _ _ _ _ c' (hu (k,p) List.mem_cons_self) a1 h4 hc k1 rz) (qmM I ps q A _ _ _ _ d (fun z hz=>hu z (List.mem_cons_of_mem _ hz)) a2 h2 hd k2 r2)
    ·cases e
def rTT (K:PySem.W.Frag):R2:=fun x y H Q=>∃ a b ks ls r,x=.ref a∧y=.ref b∧Rd H a (.dT ks)∧Rd H b (.dT ls)∧(ks.length≠ls.length∧r=false∨ks.length=ls.length∧∃ ps qs,(∀ z∈ps,z.2.dep≤29)∧Sht K H ps ks∧Sht K H qs ls∧eqQT ps qs=some r)∧Q (.bl r) H
theorem qhY (hu:X.A.units + 64 < cLine):OpR X (compareOp .Eq) (rTT X.K):=by
 intro pins s σ H x y v u Q I r1 r2 ⟨a,b,ks,ls,r,e1,e2,ha,hb,hh,q⟩
 subst e1 e2
 cases (show v=Value.ref a from r1)
 cases (show u=Value.ref b from r2)
 have hu1:X.A.in1.units=X.A.units + 1:=rfl
 obtain ⟨_,ya,xa,ra,da⟩:=dt_rd I.hok ha
 obtain ⟨_,yb,xb,rb,db⟩:=dt_rd I.hok hb
 have l1:ks.length=xa.length:=ra.length
 have l2:ls.length=xb.length:=rb.length
 refine PySem.W.lsq_dictsH (r:=r) ya yb da db (tupleKind_room_in1 (by omega)) (by omega) (fun e=>?_) _ _ ⟨.bl r,H,I,?_,q⟩
 ·rcases hh with ⟨hl,_⟩ | ⟨hl,ps,qs,hd,h1,h2,e⟩
  ·exact absurd (by omega) hl
  ·exact qmM I ps qs X.A.in1 ks ls xa xb r (fun z hz=>by have:=hd z hz;omega) h1 h2 e ra rb
 ·rcases hh with ⟨hl,e⟩ | ⟨hl,_⟩
  ·rw [e,Bool.and_false]
   rfl
  ·rw [show (xa.length == xb.length && r)=r from by rw [← l1,← l2,hl];simp]
   rfl
def rTE:R2:=fun x y H Q=>∃ a b ks,x=.ref a∧y=.ref b∧Rd H a (.dT ks)∧Rd H b (.dK [])∧Q (.bl ks.isEmpty) H
theorem qk8 (hu:X.A.units + 64 < cLine):OpR X (compareOp .Eq) rTE:=by
 intro pins s σ H x y v u Q I r1 r2 ⟨a,b,ks,e1,e2,ha,hb,q⟩
 subst e1 e2
 cases (show v=Value.ref a from r1)
 cases (show u=Value.ref b from r2)
 have hu1:X.A.in1.units=X.A.units + 1:=rfl
 obtain ⟨_,ya,xa,ra,da⟩:=dt_rd I.hok ha
 obtain ⟨_,yb,vb,rb,db⟩:=dk_rd I.hok hb
 have l1:ks.length=xa.length:=ra.length
 cases rb
 obtain ⟨o,es,ep,ho,hx,hd,_,hp,_⟩:=db
 have hes:es.toList=[]:=by
  have:=hp.length
  exact List.eq_nil_of_length_eq_zero (by simpa using this)
 have db':s.heap.DictOfH (tupleKind (mixKind X.prog X.w)) b []:=⟨o,es,ep,ho,hx,hd,hes,(fun x hx=>nomatch hx),List.nodup_nil⟩
 refine PySem.W.lsq_dictsH (r:=true) ya yb da db' (tupleKind_room_in1 (by omega)) (by omega) (fun e=>?_) _ _ ⟨.bl ks.isEmpty,H,I,?_,q⟩
 ·rw [List.eq_nil_of_length_eq_zero (l:=xa) e]
  exact .nil
 ·rw [show (xa.length == ([]:List (List Key × Addr × Value)).length && true)=ks.isEmpty from by
   cases ks with
   | nil=>rw [← l1];rfl
   | cons k ks=>rw [← l1];rfl]
  rfl
theorem qjx (o:CO) (hu:X.A.units + 66 < cLine) (hr:HRel X.K S w H) (rx:RepW X.K w x v) (ry:RepW X.K w y u) (h:RdG X σ (RepW X.K) w (cmpT o x y S) Q):qbI X (compareOp (coOp o)) v u H Q:=by
 unfold cmpT at h
 split at h
 case h_1 n m=>
  obtain ⟨a,ha,rfl⟩:=rx
  obtain ⟨b,hb,rfl⟩:=ry
  split at h
  ·rename_i ka kb hka hkb
   obtain ⟨ks,r1,e1,z1⟩:=qgf hr ha hka
   obtain ⟨ls,r2,e2,z2⟩:=qgf hr hb hkb
   have l1:ka.length=ks.length:=e1.length
   have l2:kb.length=ls.length:=e2.length
   unfold qkY at h
   split at h
   ·rename_i hl
    exact ⟨_,qhY (by omega),a,b,ks,ls,false,rfl,rfl,r1,r2,.inl ⟨by omega,rfl⟩,RdG.val h hr P_bl⟩
   ·rename_i hl
    split at h
    ·rename_i p q hp hq
     split at h
     ·rename_i hd
      split at h
      ·rename_i r hr'
       refine ⟨_,qhY (by omega),a,b,ks,ls,r,rfl,rfl,r1,r2,.inr ⟨by omega,p,q,fun z hz=>of_decide_eq_true (List.all_eq_true.mp hd z hz),qdC (qgD hr 5) e1 hp,qdC (qgD hr 5) e2 hq,hr'⟩,RdG.val h hr P_bl⟩
      ·exact h.elim
     ·exact h.elim
    ·exact h.elim
  ·exact h.elim
 case h_2 n=>
  obtain ⟨a,ha,rfl⟩:=rx
  split at h
  ·rename_i ka hka
   obtain ⟨ks,r1,e1,z1⟩:=qgf hr ha hka
   have ry':RepP X.K w.F (.dct []) u:=ry
   unfold RepP at ry'
   obtain ⟨b,ls,o,rfl,f,c,r2,_⟩:=ry'
   cases r2
   have eq:ka.isEmpty=ks.isEmpty:=by
    have l1:ka.length=ks.length:=e1.length
    cases ka <;> cases ks <;> simp_all
   exact ⟨_,qk8 (by omega),a,b,ks,rfl,rfl,r1,qa2 (hr.le _ _ f) c,by rw [← eq];exact RdG.val h hr P_bl⟩
  ·exact h.elim
 case h_3=>exact h.elim
theorem qjh (o:CO) (hu:X.A.units + 66 < cLine) (hr:HRel X.K S w H) {p q:P} (h1:Sh X.K H p v) (h2:Sh X.K H q u) (h:RdG X σ (RepW X.K) w (cmpQ o p q S) Q):qbI X (compareOp (coOp o)) v u H Q:=by
 unfold cmpQ at h
 split at h
 ·rename_i hd
  split at h
  ·rename_i b hb
   cases o with
   | eq=>exact ⟨_,qj3 (by omega),p,q,b,hd.1,hd.2,h1,h2,hb,fun z=>(by cases z),RdG.val h hr P_bl⟩
   | ne=>
    simp only at h
    split at h
    ·rename_i hl
     exact ⟨_,qkb (by omega),p,q,b,hd.1,hd.2,h1,h2,hb,fun _=>hl,RdG.val h hr P_bl⟩
    ·exact h.elim
   | _=>exact h.elim
  ·exact h.elim
 ·exact h.elim
theorem qjo (o:CO) (hu:X.A.units + 66 < cLine) (hr:HRel X.K S w H) (rx:RepW X.K w x v) (ry:RepW X.K w y u) (h:RdG X σ (RepW X.K) w (cmpW o x y S) Q):qbI X (compareOp (coOp o)) v u H Q:=by
 unfold cmpW at h
 split at h
 case h_2=>exact qjx o hu hr rx ry h
 case h_1 p q e1 e2=>
  have h1:=qgD hr 6 rx e1
  have h2:=qgD hr 6 ry e2
  split at h
  case isFalse=>exact qjh o hu hr h1 h2 h
  case isTrue hs=>
   cases qeS _ _ hs.1
   cases o with
   | eq=>exact ⟨_,qi1 (by omega),p,hs.2,h1,h2,fun z=>(by cases z),RdG.val h hr P_bl⟩
   | ne=>
    simp only at h
    split at h
    ·rename_i hl
     exact ⟨_,qgm (by omega),p,hs.2,h1,h2,fun _=>.inl hl,RdG.val h hr P_bl⟩
    ·exact h.elim
   | _=>exact h.elim
theorem qjR (o:CO) (hu:X.A.units + 66 < cLine) (hr:HRel X.K S w H) (rx:RepW X.K w x v) (ry:RepW X.K w y u) (h:RdG X σ (RepW X.K) w (cmpD o x y S) Q):qbI X (compareOp (coOp o)) v u H Q:=by
 unfold cmpD at h
 split at h
 case isTrue hl=>
  unfold qnt at hl
  cases h1:llen S x with
  | none=>rw [h1] at hl;cases hl
  | some a=>
   cases h2:llen S y with
   | none=>rw [h1,h2] at hl;cases hl
   | some b=>
    rw [h1,h2] at hl
    have hab:a≠b:=of_decide_eq_true hl
    obtain ⟨a1,xs,rfl,s1,l1⟩:=qg1 hr rx h1
    obtain ⟨a2,ys,rfl,s2,l2⟩:=qg1 hr ry h2
    have hn:xs.length≠ys.length:=by rw [l1,l2];exact hab
    cases o with
    | eq=>exact ⟨_,qk7 (by omega),a1,a2,xs,ys,rfl,rfl,s1,s2,hn,RdG.val h hr P_bl⟩
    | ne=>exact ⟨_,qkZ (by omega),a1,a2,xs,ys,rfl,rfl,s1,s2,hn,RdG.val h hr P_bl⟩
    | _=>exact h.elim
 case isFalse=>
  split at h
  case h_2=>exact qjo o hu hr rx ry h
  case h_1 a b ha hb=>
   split at h
   case isFalse=>exact h.elim
   case isTrue hs=>
    simp only [Bool.and_eq_true] at hs
    have h1:Dp X.K H v a:=qjQ hr 3 rx ha
    have h2:Dp X.K H u b:=qjQ hr 3 ry hb
    cases o with
    | eq=>exact ⟨_,op_eqD (by omega),a,b,h1,h2,hs.1,hs.2,RdG.val h hr P_bl⟩
    | ne=>exact ⟨_,op_neD (by omega),a,b,h1,h2,hs.1,hs.2,RdG.val h hr P_bl⟩
    | _=>exact h.elim
theorem qgN {κ:Type} [DecidableEq κ] {K:PySem.W.Frag} {k:κ}:∀ {xs:List (κ × W)} {vs:List (κ × V)},qak K w xs vs→(valV vs k).isSome=((xs.find? fun q=>decide (q.1=k)).map (·.2)).isSome
 | _,_,.nil=>rfl
 | x::xs,y::ys,.cons ⟨e,_⟩ t=>by
  obtain ⟨k0,x⟩:=x
  obtain ⟨k1,y⟩:=y
  cases e
  by_cases h:k0=k
  ·rw [valV_pos h]
   simp [List.find?_cons,h]
  ·rw [valV_neg h,qgN t]
   simp [List.find?_cons,h]
theorem qmp {K:PySem.W.Frag} {F:Hp} {p:P} {key:Key} (h:qaU p=some key) (r:RepP K F p v):v=kV key:=by
 cases p with
 | int i=>cases h;unfold RepP at r;exact r
 | str i=>cases h;unfold RepP at r;exact r
 | _=>cases h
theorem qil (neg:Bool) {k:Bool} (hu:X.A.units + 66 < cLine) (hr:HRel X.K S w H) (rx:RepW X.K w x v) (ry:RepW X.K w y u) (e:inC x y S=some k) (q:Q (.bl (if neg then !k else k)) H):qbI X (compareOp (if neg then .NotIn else .In)) v u H Q:=by
 unfold inC at e
 split at e
 ·rename_i p n
  split at e
  ·rename_i key kvs h1 h2
   cases e
   obtain ⟨a,ha,rfl⟩:=ry
   obtain ⟨kvs',rd,rk,_⟩:=qks hr ha h2
   cases qmp h1 rx
   have g:DGet H a (kV key) (valV kvs' key):=.inl ⟨kvs',key,rd,rfl,rfl⟩
   have es:(valV kvs' key).isSome=(getK kvs key).isSome:=qgN rk
   cases neg with
   | false=>exact ⟨_,qj1 (by omega),a,_,rfl,g,by rw [es];exact q⟩
   | true=>exact ⟨_,qib (by omega),a,_,rfl,g,by rw [es];exact q⟩
  ·cases e
 ·cases e
theorem qhd {k:Bool} (hr:HRel X.K S w H) (rx:RepW X.K w x v) (ry:RepW X.K w y u) (e:nonC x y S=some k):u=.non∧k=false∧decide (v=.non)=false:=by
 unfold nonC at e
 split at e
 ·rename_i n
  have e2:k=false:=by
   split at e
   ·cases e
   ·cases e;rfl
   ·cases e
  obtain ⟨a,ha,rfl⟩:=rx
  have ry:RepP X.K w.F .non u:=ry
  unfold RepP at ry
  exact ⟨ry,e2,rfl⟩
 ·cases e
theorem qjB (o:CO) (hu:X.A.units + 66 < cLine) (hr:HRel X.K S w H) (rx:RepW X.K w x v) (ry:RepW X.K w y u) (h:RdG X σ (RepW X.K) w (cmpX o x y S) Q):qbI X (compareOp (coOp o)) v u H Q:=by
 have bl:∀ {o:Option Bool} {neg:Bool},RdG X σ (RepW X.K) w (blO o neg S) Q→∃ k,o=some k∧Q (.bl (if neg=true then !k else k)) H:=fun {o neg} h=>by
  cases o with
  | none=>exact h.elim
  | some k=>exact ⟨k,rfl,RdG.val h hr P_bl⟩
 cases o with
 | in_=>
  obtain ⟨k,e,q⟩:=bl h
  exact qil false hu hr rx ry e q
 | nin=>
  obtain ⟨k,e,q⟩:=bl h
  exact qil true hu hr rx ry e q
 | isN=>
  obtain ⟨k,e,q⟩:=bl h
  obtain ⟨rfl,rfl,hd⟩:=qhd hr rx ry e
  exact ⟨_,op_isN,rfl,by rw [hd];exact q⟩
 | notN=>
  obtain ⟨k,e,q⟩:=bl h
  obtain ⟨rfl,rfl,hd⟩:=qhd hr rx ry e
  exact ⟨_,op_notN,rfl,by rw [hd];exact q⟩
 | _=>exact qjR _ hu hr rx ry h
theorem qiH (o:CO) (hu:X.A.units + 66 < cLine) (hr:HRel X.K S w H) (rx:RepW X.K w x v) (ry:RepW X.K w y u) (h:RdG X σ (RepW X.K) w (qaH o x y S) Q):qbI X (compareOp (coOp o)) v u H Q:=by
  unfold qaH at h
  split at h
  case h_2=>exact qjB o hu hr rx ry h
  case h_1 a b hx hy=>
    have tx:=hr.view hx rx
    have ty:=hr.view hy ry
    split at h
    case h_2=>exact h.elim
    case h_1 k hk=>
      have q:Q (.bl k) H:=RdG.val h hr P_bl
      have shw:∀ {d},eqW a b=some d→d=true∧a.dep≤30∧Sh X.K H a v∧Sh X.K H a u:=fun {d} e=>by
        unfold eqW at e
        split at e
        · rename_i hs
          cases e
          have eb:=qeS _ _ hs.2.1
          exact ⟨rfl,hs.2.2,qdg _ hs.1 (tx.all hr.le),by rw [eb];exact qdg _ (by rw [← eb];exact hs.1) (ty.all hr.le)⟩
        · cases e
      have sh2:∀ {d},eqV2 a b=some d→conP a=true∧a.dep≤30∧Sh X.K H a v∧Sh X.K H b u∧a.eqQ b=some d:=fun {d} e=>by
        unfold eqV2 at e
        split at e
        · rename_i hs
          exact ⟨hs.1,hs.2.2.2,qdg _ hs.2.1 (tx.all hr.le),qdg _ hs.2.2.1 (ty.all hr.le),e⟩
        · cases e
      have deq:∀ {d},eqP a b=some d→∃ da db,Dp X.K H v da∧Dp X.K H u db∧SeqAt.shaped da=true∧SeqAt.shaped db=true∧PyData.eqv da db=d:=fun {d} e=>by
        unfold eqP at e
        split at e
        · rename_i da db ha hb
          split at e
          · rename_i hs
            simp only [Bool.and_eq_true] at hs
            cases e
            exact ⟨da,db,qgi a (tx.all hr.le) ha,qgi b (ty.all hr.le) hb,hs.1,hs.2,rfl⟩
          · cases e
        · cases e
      have sca:∀ {d},eqS a b=some d→(∀ Q':VK,Q' (.bl d) H→qbI X (compareOp .Eq) v u H Q')∧(∀ Q':VK,Q' (.bl (!d)) H→qbI X (compareOp .NotEq) v u H Q'):=fun {d} e=>by
        have scl:scal v u=true∧decide (v=u)=d→(∀ Q':VK,Q' (.bl d) H→qbI X (compareOp .Eq) v u H Q')∧(∀ Q':VK,Q' (.bl (!d)) H→qbI X (compareOp .NotEq) v u H Q'):=fun ⟨s1,s2⟩=>
          ⟨fun Q' q=>⟨_,op_eq,s1,by rw [s2];exact q⟩,fun Q' q=>⟨_,op_ne,s1,by rw [s2];exact q⟩⟩
        unfold eqS at e
        split at e
        case h_16=>
          obtain ⟨da,db,h1,h2,h3,h4,h5⟩:=deq e
          exact ⟨fun Q' q=>⟨_,op_eqD (by omega),da,db,h1,h2,h3,h4,by rw [h5];exact q⟩,fun Q' q=>⟨_,op_neD (by omega),da,db,h1,h2,h3,h4,by rw [h5];exact q⟩⟩
        case h_15 x y=>
          obtain ⟨a1,k1,o1,rfl,f1,c1,r1,_⟩:=tx
          obtain ⟨a2,k2,o2,rfl,f2,c2,r2,_⟩:=ty
          have rq:=qkU r1 r2 e
          exact ⟨fun Q' q=>⟨_,qlM (by omega),a1,a2,k1,k2,rfl,rfl,qa2 f1 c1,qa2 f2 c2,rq.1,by rw [rq.2];exact q⟩,fun Q' q=>⟨_,qkz (by omega),a1,a2,k1,k2,rfl,rfl,qa2 f1 c1,qa2 f2 c2,rq.1,by rw [rq.2];exact q⟩⟩
        all_goals
          apply scl
          first
            | (cases qbz tx;cases qbz ty;cases e;refine ⟨rfl,?_⟩;simp)
            | (cases qaz tx;cases qaz ty;cases e;refine ⟨rfl,?_⟩;simp)
            | (cases T_bl tx;cases T_bl ty;cases e;refine ⟨rfl,?_⟩;simp)
            | (cases qct tx;cases qct ty;cases e;refine ⟨rfl,?_⟩;simp)
            | (cases qbz tx;cases qct ty;cases e;refine ⟨rfl,?_⟩;simp)
            | (cases qct tx;cases qbz ty;cases e;refine ⟨rfl,?_⟩;simp)
            | (cases qaz tx;cases qct ty;cases e;refine ⟨rfl,?_⟩;simp)
            | (cases qct tx;cases qaz ty;cases e;refine ⟨rfl,?_⟩;simp)
            | (cases T_bl tx;cases qct ty;cases e;refine ⟨rfl,?_⟩;simp)
            | (cases qct tx;cases T_bl ty;cases e;refine ⟨rfl,?_⟩;simp)
            | (cases qbz tx;cases qaz ty;cases e;refine ⟨rfl,?_⟩;simp)
            | (cases qaz tx;cases qbz ty;cases e;refine ⟨rfl,?_⟩;simp)
            | (cases qbz tx;cases T_bl ty;cases e;refine ⟨rfl,?_⟩;simp)
            | (cases T_bl tx;cases qbz ty;cases e;refine ⟨rfl,?_⟩;simp)
      cases o with
      | eq=>
        cases e:eqS a b with
        | none=>
          cases e2:eqW a b with
          | some d=>
            simp only [cmpP,e,e2,orO] at hk
            obtain ⟨rfl,hd,h1,h2⟩:=shw (e2.trans hk)
            exact ⟨_,qi1 (by omega),a,hd,h1,h2,fun z=>(by cases z),q⟩
          | none=>
            simp only [cmpP,e,e2,orO] at hk
            obtain ⟨hc,hd,h1,h2,h3⟩:=sh2 hk
            exact ⟨_,qj3 (by omega),a,b,k,hc,hd,h1,h2,h3,fun z=>(by cases z),q⟩
        | some d=>
          simp only [cmpP,e,orO,Option.some.injEq] at hk
          subst hk
          exact (sca e).1 Q q
      | ne=>
        cases e:eqS a b with
        | none=>
          have hk1:(if qfU a=true then (eqW a b).map not else if qft a=true then (orO (eqW a b) (eqV2 a b)).map not else none)=some k:=by simpa only [cmpP,e,qgR,Option.map_none] using hk
          split at hk1
          · rename_i hl
            cases e2:eqW a b with
            | none=>rw [e2] at hk1;cases hk1
            | some d=>
              rw [e2] at hk1
              obtain ⟨rfl,hd,h1,h2⟩:=shw e2
              cases hk1
              exact ⟨_,qgm (by omega),a,hd,h1,h2,fun _=>.inl hl,q⟩
          · split at hk1
            · rename_i hl
              cases e2:eqW a b with
              | none=>
                rw [e2,qgR] at hk1
                cases e3:eqV2 a b with
                | none=>rw [e3] at hk1;cases hk1
                | some d=>
                  rw [e3] at hk1
                  obtain ⟨hc,hd,h1,h2,h3⟩:=sh2 e3
                  cases hk1
                  exact ⟨_,qkb (by omega),a,b,d,hc,hd,h1,h2,h3,fun _=>hl,q⟩
              | some d=>
                rw [e2,qdq] at hk1
                obtain ⟨rfl,hd,h1,h2⟩:=shw e2
                cases hk1
                exact ⟨_,qgm (by omega),a,hd,h1,h2,fun _=>.inr hl,q⟩
            · cases hk1
        | some d=>
          simp [cmpP,e,orO] at hk
          exact (sca e).2 Q (by rw [show (!d)=k by rw [hk,Bool.not_not]];exact q)
      | lt=>
        simp only [cmpP] at hk
        split at hk
        · cases qaz tx;cases qaz ty;cases hk
          exact ⟨_,op_lt,_,_,rfl,rfl,q⟩
        · cases hk
      | le=>
        simp only [cmpP] at hk
        split at hk
        · cases qaz tx;cases qaz ty;cases hk
          exact ⟨_,op_le,_,_,rfl,rfl,q⟩
        · cases hk
      | gt=>
        simp only [cmpP] at hk
        split at hk
        · cases qaz tx;cases qaz ty;cases hk
          exact ⟨_,op_gt,_,_,rfl,rfl,q⟩
        · cases hk
      | ge=>
        simp only [cmpP] at hk
        split at hk
        · cases qaz tx;cases qaz ty;cases hk
          exact ⟨_,op_ge,_,_,rfl,rfl,q⟩
        · cases hk
      | isN=>
        simp only [cmpP] at hk
        split at hk
        · cases qct ty
          cases hk
          refine ⟨_,op_isN,rfl,?_⟩
          have e:decide (v=.non)=qhJ a:=by
            cases a with
            | non=>cases qct tx;rfl
            | bl _=>cases T_bl tx;rfl
            | int _=>cases qaz tx;rfl
            | str _=>cases qbz tx;rfl
            | lst _=>obtain ⟨_,_,rfl,_⟩:=tx;rfl
            | tup _=>obtain ⟨_,_,rfl,_⟩:=tx;rfl
            | dct _=>obtain ⟨_,_,_,rfl,_⟩:=tx;rfl
            | obj _ _=>obtain ⟨_,_,_,rfl,_⟩:=tx;rfl
            | scr _=>obtain ⟨_,rfl,_⟩:=tx;rfl
            | exc _ _=>
              have h':RepP X.K w.F (.exc _ _) v:=tx
              unfold RepP at h'
              obtain ⟨_,_,rfl,_⟩:=h'
              rfl
            | tpp _=>
              have h':RepP X.K w.F (.tpp _) v:=tx
              unfold RepP at h'
              obtain ⟨_,_,_,rfl,_⟩:=h'
              rfl
            | tpk _=>
              have h':RepP X.K w.F (.tpk _) v:=tx
              unfold RepP at h'
              obtain ⟨_,rfl,_⟩:=h'
              rfl
          rw [e]
          exact q
        · cases hk
      | notN=>
        simp only [cmpP] at hk
        split at hk
        · cases qct ty
          cases hk
          refine ⟨_,op_notN,rfl,?_⟩
          have e:(!decide (v=.non))=!qhJ a:=by
            cases a with
            | non=>cases qct tx;rfl
            | bl _=>cases T_bl tx;rfl
            | int _=>cases qaz tx;rfl
            | str _=>cases qbz tx;rfl
            | lst _=>obtain ⟨_,_,rfl,_⟩:=tx;rfl
            | tup _=>obtain ⟨_,_,rfl,_⟩:=tx;rfl
            | dct _=>obtain ⟨_,_,_,rfl,_⟩:=tx;rfl
            | obj _ _=>obtain ⟨_,_,_,rfl,_⟩:=tx;rfl
            | scr _=>obtain ⟨_,rfl,_⟩:=tx;rfl
            | exc _ _=>
              have h':RepP X.K w.F (.exc _ _) v:=tx
              unfold RepP at h'
              obtain ⟨_,_,rfl,_⟩:=h'
              rfl
            | tpp _=>
              have h':RepP X.K w.F (.tpp _) v:=tx
              unfold RepP at h'
              obtain ⟨_,_,_,rfl,_⟩:=h'
              rfl
            | tpk _=>
              have h':RepP X.K w.F (.tpk _) v:=tx
              unfold RepP at h'
              obtain ⟨_,rfl,_⟩:=h'
              rfl
          rw [e]
          exact q
        · cases hk
      | in_=>exact qki false hu hr tx ty hk q
      | nin=>
        cases e:inP a b with
        | none=>simp [cmpP,e] at hk
        | some d=>
          simp [cmpP,e] at hk
          exact qki true hu hr tx ty e (by rw [if_pos rfl,show (!d)=k by rw [hk,Bool.not_not]];exact q)
end
end LS
namespace LS
open PySem PySem.Spec PyProof.Rows L2
section
variable {α:Type} {le:α→α→Bool}
theorem qdO (x:α):∀ l:List α,(insO le x l).Perm (x::l)
 | []=>.refl _
 | y::l=>by
  unfold insO
  split
  ·exact .refl _
  ·exact ((qdO x l).cons y).trans (.swap x y l)
theorem qco:∀ l:List α,(qei le l).Perm l
 | []=>.refl _
 | x::l=>(qdO x _).trans ((qco l).cons x)
theorem qg4 (tot:∀ a b,le a b=true∨le b a=true) (tr:∀ a b c,le a b=true→le b c=true→le a c=true) (x:α):∀ l:List α,l.Pairwise (fun a b=>le a b=true)→(insO le x l).Pairwise (fun a b=>le a b=true)
 | [],_=>by simp [insO]
 | y::l,h=>by
  obtain ⟨h1,h2⟩:=List.pairwise_cons.mp h
  unfold insO
  split
  ·rename_i hx
   refine List.pairwise_cons.mpr ⟨fun z hz=>?_,h⟩
   rcases List.mem_cons.mp hz with rfl | hz
   ·exact hx
   ·exact tr _ _ _ hx (h1 z hz)
  ·rename_i hx
   have hy:le y x=true:=(tot x y).resolve_left hx
   refine List.pairwise_cons.mpr ⟨fun z hz=>?_,qg4 tot tr x l h2⟩
   rcases List.mem_cons.mp ((qdO x l).mem_iff.mp hz) with rfl | hz
   ·exact hy
   ·exact h1 z hz
theorem qfY (tot:∀ a b,le a b=true∨le b a=true) (tr:∀ a b c,le a b=true→le b c=true→le a c=true):∀ l:List α,(qei le l).Pairwise (fun a b=>le a b=true)
 | []=>.nil
 | x::l=>qg4 tot tr x _ (qfY tot tr l)
theorem qhT (anti:∀ a b,le a b=true→le b a=true→a=b) (tot:∀ a b,le a b=true∨le b a=true) (tr:∀ a b c,le a b=true→le b c=true→le a c=true) {xs ys:List α} (hp:ys.Perm xs) (hs:ys.Pairwise (fun a b=>le a b=true)):ys=qei le xs:=
 List.Perm.eq_of_pairwise (fun a b _ _ h1 h2=>anti a b h1 h2) hs (qfY tot tr xs) (hp.trans (qco xs).symm)
end
theorem qim {ns ns':List Int} (hp:ns'.Perm ns) (hs:ns'.Pairwise (·≤·)):ns'=qei leI ns:=by
 refine qhT (fun a b h1 h2=>?_) (fun a b=>?_) (fun a b c h1 h2=>?_) hp (hs.imp fun h=>decide_eq_true h)
 ·have h1:=of_decide_eq_true h1
  have h2:=of_decide_eq_true h2
  omega
 ·unfold leI
  rcases Int.le_total a b with h | h
  ·exact .inl (decide_eq_true h)
  ·exact .inr (decide_eq_true h)
 ·have h1:=of_decide_eq_true h1
  have h2:=of_decide_eq_true h2
  exact decide_eq_true (by omega)
theorem qbR {a b:Str}:leS a b=true↔a.cps.toList≤b.cps.toList:=by
 unfold leS
 simp only [Bool.not_eq_true',decide_eq_false_iff_not]
 exact Iff.rfl
theorem qfr:∀ (l:List Str) (p:Str),risingS p l=true→(p::l).Pairwise (fun a b=>leS a b=true)
 | [],p,_=>by simp
 | x::r,p,h=>by
  simp only [risingS,Bool.and_eq_true,Bool.not_eq_true'] at h
  have ih:=qfr r x h.2
  have hx:leS p x=true:=by
   unfold leS
   rw [lt_meets,h.1]
   rfl
  refine List.pairwise_cons.mpr ⟨fun z hz=>?_,ih⟩
  rcases List.mem_cons.mp hz with rfl | hz
  ·exact hx
  ·have h2:=(List.pairwise_cons.mp ih).1 z hz
   exact qbR.mpr (List.le_trans (qbR.mp hx) (qbR.mp h2))
theorem qi5 {xs ys:List Str} (hp:ys.Perm xs) (hs:sortedS ys=true):ys=qei leS xs:=by
 refine qhT (fun a b h1 h2=>?_) (fun a b=>?_) (fun a b c h1 h2=>?_) hp ?_
 ·have e:=List.le_antisymm (qbR.mp h1) (qbR.mp h2)
  obtain ⟨⟨a⟩⟩:=a
  obtain ⟨⟨b⟩⟩:=b
  have e:a=b:=e
  rw [e]
 ·rcases List.le_total a.cps.toList b.cps.toList with h | h
  ·exact .inl (qbR.mpr h)
  ·exact .inr (qbR.mpr h)
 ·exact qbR.mpr (List.le_trans (qbR.mp h1) (qbR.mp h2))
 ·cases ys with
  | nil=>exact .nil
  | cons y ys=>exact qfr ys y hs
section
variable {X:Cx}
theorem qhu (hcalm:X.calm=true):CallR X (.type "dict") (fun xs H Q=>∃ (a:Addr) (ps:List Addr) (kvs:List (Key × V)) (ob:Obj),xs=[.ref a]∧H a=some (.frz ob (.tup (ps.map V.ref)))∧ob.dict=none∧ps.length≤sizeLine∧Paired (fun p kv=>SqT X.K H p [kV kv.1,kv.2]) ps kvs∧
  ∀ p,H p=none→Q (.ref p) (upd H p (.dK (mergeK [] kvs)))):=by
 intro pins s σ H xs us Q I r q
 obtain ⟨a,ps,kvs,ob,ex,hq,hob,hz,hp,q⟩:=q
 subst ex
 obtain ⟨u,eu,rx⟩:=vals1 r
 subst eu
 cases rx
 obtain ⟨hga,_,its,rv,o2,ho2,hc2,n2,hd2⟩:=I.hok a _ hq
 rw [hga] at ho2
 cases ho2
 have ei:=refs_at rv
 subst ei
 obtain ⟨prs,rel,hl,hpr⟩:=pairs_of I hp
 have hlen:(mergeK [] kvs).length≤sizeLine:=by
  refine Nat.le_trans (length_mergeK kvs []) ?_
  rw [List.length_nil,Nat.zero_add,rel.length,hl]
  exact hz
 have hm:(s.heap.objs.size == sysModules)=false:=beq_eq_false_iff_ne.mpr (Nat.ne_of_gt I.big)
 have ht:∀ j,j < ps.length→∃ b,ps[j]?=some b:=fun j hj=>⟨_,List.getElem?_eq_getElem hj⟩
 obtain ⟨us,hus⟩:∃ us:List (Value × Value),us.length=prs.length∧∀ (j:Nat) (q:Key × Value),prs[j]?=some q→∃ (b:Addr) (u:Value),us[j]?=some (u,q.2)∧ps[j]?=some b∧IsTup s.heap b #[u,q.2]∧keyIs q.1 u=true:=by
  have:∀ (n:Nat),n≤prs.length→∃ us:List (Value × Value),us.length=n∧∀ (j:Nat) (q:Key × Value),j < n→prs[j]?=some q→∃ (b:Addr) (u:Value),us[j]?=some (u,q.2)∧ps[j]?=some b∧IsTup s.heap b #[u,q.2]∧keyIs q.1 u=true:=fun n=>by
   induction n with
   | zero=>exact fun _=>⟨[],rfl,fun j q hj=>absurd hj (Nat.not_lt_zero _)⟩
   | succ n ih=>
    intro hn
    obtain ⟨us,hl1,hu⟩:=ih (by omega)
    obtain ⟨q0,hq0⟩:∃ q,prs[n]?=some q:=⟨_,List.getElem?_eq_getElem (by omega)⟩
    obtain ⟨b,u,e1,e2,e3⟩:=hpr n q0 hq0
    refine ⟨us++[(u,q0.2)],by simp [hl1],fun j q hj hq=>?_⟩
    by_cases hjn:j < n
    ·obtain ⟨b',u',f1,f2,f3,f4⟩:=hu j q hjn hq
     exact ⟨b',u',by rw [List.getElem?_append_left (by omega)];exact f1,f2,f3,f4⟩
    ·have:j=n:=by omega
     subst this
     rw [hq0] at hq
     cases hq
     exact ⟨b,u,by rw [List.getElem?_append_right (by omega)];simp [hl1],e1,e2,e3⟩
  obtain ⟨us,h1,h2⟩:=this prs.length (Nat.le_refl _)
  exact ⟨us,h1,fun j q hq=>h2 j q (List.getElem?_eq_some_iff.mp hq).1 hq⟩
 have hP:=PairArg.tuple (prog:=X.prog) (w:=X.w) a (ps.map Value.ref).toArray (fun j=>ps[j]?.getD 0) us
 refine PySem.call_dict_pairs (knd:=mixKind X.prog X.w) (kvs:=prs) hP (I.ok.hd hcalm) ⟨⟨ob,n2,hga,hc2,hob,hd2⟩,?_⟩ ?_ (by rw [hus.1,hl];exact hz) fun h' tk hd' k=>?_
 ·refine ⟨by simp [hus.1,hl],fun j k v hj=>?_⟩
  obtain ⟨q,hq⟩:∃ q,prs[j]?=some q:=⟨_,List.getElem?_eq_getElem (by rw [← hus.1];exact (List.getElem?_eq_some_iff.mp hj).1)⟩
  obtain ⟨b,u,f1,f2,f3,f4⟩:=hus.2 j q hq
  rw [hj] at f1
  cases f1
  exact ⟨by simp [f2],.inl (by show s.heap.IsTuple (ps[j]?.getD 0) _;rw [f2];exact f3)⟩
 ·refine ⟨hus.1.symm,fun i key v hrel=>?_⟩
  have hrel:us[i]?=some (key,v):=hrel
  obtain ⟨q,hq⟩:∃ q,prs[i]?=some q:=⟨_,List.getElem?_eq_getElem (by rw [← hus.1];exact (List.getElem?_eq_some_iff.mp hrel).1)⟩
  obtain ⟨b,u,f1,f2,f3,f4⟩:=hus.2 i q hq
  rw [hrel] at f1
  cases f1
  exact ⟨q.1,hq,f4⟩
 ·exact ⟨.ref s.heap.objs.size,upd H s.heap.objs.size (.dK (mergeK [] kvs)),I.laid (t':=tk) (fun b o e=>k b o (fun h=>nomatch h) e) (Nat.le_refl _) (show ObjOk X.prog X.w _ _ _ (.dK (mergeK [] kvs)) from ⟨hlen,hm,merged [] prs,KV.merge rel .nil,hd'⟩),rfl,q _ (I.hok.fresh (Nat.le_refl _))⟩
end
end LS
namespace LS
open PySem PySem.Spec PyProof.Rows L2
section
variable {X:Cx} {pins:List (Addr × Obj)} {σ:L2.St} {H:Hp} {s:Shared} {a:Addr} {y v d:V} {u r:Value} {o:Option V} {A:Around} {E:Value→Shared→Prop}
end
end LS
namespace LS
open PySem PySem.Spec PyProof.Rows L2
open AutoSeq1 (wpAny_loadPart')
section
variable {prog:Program} {w:World} {A:Around} {E:Value→Shared→Prop} {s:Shared}
end
end LS
namespace LS
open PySem PySem.Spec PyProof.Rows L2
section
variable {X:Cx} {w:Wd} {H:Hp} {S:qaa} {x y:W} {v u:V} {Q:VK}
def rIxD:R2:=fun x y H Q=>∃ a v,x=.ref a∧DGet H a y (some v)∧Q v H
theorem qgo (hu:X.A.units + 1 < cLine):IxR X rIxD:=by
 intro value slice pins s σ H x y v u Q I rx ry h hs
 obtain ⟨a,z,rfl,g,q⟩:=h
 cases rx
 have hT:=dict_typeIs I g
 have h2:wpAny (model X.prog X.w) X.A (getItem (.ref a) u) (EP X pins σ Q) X.xe s:=d_getItem hu I g ry fun w' s3 I3 rw'=>⟨z,H,I3,rw',q⟩
 unfold subscriptTail
 refine wpAny_bind ?_
 rw [getitemInPython_of_ne hT.not_modules]
 refine wpAny_bind (wpAny_specialOf hT PySem.F.slot_dict_getitem.lookup ?_)
 have fin:wpAny (model X.prog X.w) X.A (subscripted slice false (.ref a) u) (fun r s₃=>wpAny (model X.prog X.w) X.A (letTemporaryGo value (.ref a) r >>= fun _=>pure r) (EP X pins σ Q) X.xe s₃) X.xe s:=by
  rw [hs]
  exact wpAny_operating (wpAny_mono h2 (fun r s₃ h₃=>wpAny_bind (wpAny_letTemporaryGo (wpAny_pure h₃))) fun _ _ x=>x)
 first
  | exact wpAny_pure (wpAny_bind fin)
  | exact wpAny_bind (wpAny_pure (wpAny_bind fin))
  | exact wpAny_bind fin
def qi0 (X:Cx):R2:=fun x y H Q=>∃ r,IxR X r∧r x y H Q
theorem qnv:IxR X (qi0 X):=fun value slice pins s σ H x y v u Q I rx ry ⟨r,o,q⟩ hs=>o value slice pins s σ H x y v u Q I rx ry q hs
theorem qiM {K:PySem.W.Frag} {F:Hp} {xs:List P} {vs:List V} {i:Int} {p:P} (r:qab K F xs vs) (e:atI xs i=some p):∃ z,atI vs i=some z∧RepP K F p z:=by
 unfold atI at e ⊢
 rw [← r.len]
 cases h:ixN xs.length i with
 | none=>rw [h] at e;cases e
 | some j=>
  rw [h] at e
  exact qab.get r e
theorem qgP {K:PySem.W.Frag} {xs:List W} {vs:List V} {i:Int} {p:W} (r:qaf K w xs vs) (e:atI xs i=some p):∃ z,atI vs i=some z∧RepW K w p z:=by
 unfold atI at e ⊢
 rw [← Paired.length r]
 cases h:ixN xs.length i with
 | none=>rw [h] at e;cases e
 | some j=>
  rw [h] at e
  have get:∀ {xs:List W} {vs:List V} {j:Nat},qaf K w xs vs→xs[j]?=some p→∃ z,vs[j]?=some z∧RepW K w p z:=by
   intro xs vs j r
   induction r generalizing j with
   | nil=>intro e;simp at e
   | cons a b ih=>
    intro e
    cases j with
    | zero=>
     simp at e
     subst e
     exact ⟨_,rfl,a⟩
    | succ j=>exact ih (by simpa using e)
  exact get r e
theorem qak.get {K:PySem.W.Frag} {k:Key} {xs:List (Key × W)} {vs:List (Key × V)} (r:qak K w xs vs):(∀ p,getK xs k=some p→∃ v,valV vs k=some v∧RepW K w p v)∧(getK xs k=none→valV vs k=none):=by
 induction r with
 | nil=>exact ⟨fun p e=>by simp [getK] at e,fun _=>rfl⟩
 | @cons p q ps qs h t ih=>
  obtain ⟨k0,x⟩:=p
  obtain ⟨k1,v⟩:=q
  obtain ⟨rfl,h2⟩:=h
  by_cases e:k0=k
  ·have e1:getK ((k0,x)::ps) k=some x:=by simp [getK,List.find?_cons,e]
   rw [e1,valV_pos e]
   exact ⟨fun p e=>by cases e;exact ⟨v,rfl,h2⟩,fun e=>by cases e⟩
  ·have e1:getK ((k0,x)::ps) k=getK ps k:=by simp [getK,List.find?_cons,e]
   rw [e1,valV_neg e]
   exact ih
theorem ql1 (hu:X.A.units + 64 < cLine) (hr:HRel X.K S w H) (rx:RepW X.K w x v) (ry:RepW X.K w y u) (h:RdG X σ (RepW X.K) w (qb0 x y S) Q):qi0 X v u H Q:=by
 cases x with
 | v a=>
  cases y with
  | c _=>exact h.elim
  | v b=>
   simp only [qb0] at h
   cases e:ixP a b with
   | none=>rw [e] at h;exact h.elim
   | some p=>
    rw [e] at h
    have tx:RepT X.K w.F H a v:=RepP.top hr.le rx
    have ty:RepT X.K w.F H b u:=RepP.top hr.le ry
    unfold ixP at e
    split at e
    ·obtain ⟨ad,vs,rfl,ho,r,z⟩:=tx
     cases qaz ty
     obtain ⟨z',e1,e2⟩:=qiM r e
     exact ⟨_,ix_list,ad,vs,_,z',rfl,rfl,SqL.of ho,e1,RdG.val h hr e2⟩
    ·obtain ⟨ad,vs,rfl,ho,r,z⟩:=tx
     cases qaz ty
     obtain ⟨z',e1,e2⟩:=qiM r e
     exact ⟨_,ix_tup,ad,vs,_,z',rfl,rfl,ho,e1,RdG.val h hr e2⟩
    ·cases qbz tx
     cases qaz ty
     split at e
     ·rename_i s i hl
      cases e1:atI s.cps.toList i with
      | none=>rw [e1] at e;cases e
      | some c=>
       rw [e1] at e
       cases e
       exact ⟨_,ix_str,s,i,c,rfl,rfl,Nat.le_trans hl qao,e1,RdG.val h hr qcb⟩
     ·cases e
    ·obtain ⟨ad,kvs',o,rfl,ho,c,r,z⟩:=tx
     cases hk:qaU b with
     | none=>simp [hk] at e
     | some k=>
      simp [hk] at e
      cases qjk hk ty
      obtain ⟨z',e1,e2⟩:=(qac.get (k:=k) r).1 p e
      exact ⟨_,qgo (by omega),ad,z',rfl,.inl ⟨kvs',k,qa2 ho c,rfl,e1.symm⟩,RdG.val h hr e2⟩
    ·cases e
 | c n=>
  cases y with
  | c _=>exact h.elim
  | v b=>
   simp only [qb0] at h
   have ty:RepT X.K w.F H b u:=RepP.top hr.le ry
   obtain ⟨ad,hn,rfl⟩:=rx
   cases hS:S[n]? with
   | none=>rw [hS] at h;exact h.elim
   | some c=>
    rw [hS] at h
    have tupc:∀ ws,c=.tup ws→qi0 X (.ref ad) u H Q:=fun ws ec=>by
     subst ec
     obtain ⟨vs,ho,r,z⟩:=hr.tup n ws ad hS hn
     cases b with
     | int i=>
      cases qaz ty
      simp only at h
      cases e:atI ws i with
      | none=>rw [e] at h;exact h.elim
      | some p=>
       rw [e] at h
       obtain ⟨z',e1,e2⟩:=qgP r e
       exact ⟨_,ix_tup,ad,vs,i,z',rfl,rfl,SqT.of (hr.le _ _ ho),e1,h w _ _ (LeW.refl _) hr e2⟩
     | _=>exact h.elim
    rcases hr.cell n c ad hS hn with zz | ⟨_,q⟩
    ·cases c <;> first | exact tupc _ rfl | (cases zz;done) | (cases b <;> exact h.elim)
    ·split at h
     ·rename_i xs i hcc
      cases hcc
      obtain ⟨vs,ho,r,z⟩:=q
      cases qaz ty
      cases e:atI xs i with
      | none=>rw [e] at h;exact h.elim
      | some p=>
       rw [e] at h
       obtain ⟨z',e1,e2⟩:=qgP r e
       exact ⟨_,ix_list,ad,vs,i,z',rfl,rfl,SqL.of ho,e1,h w _ _ (LeW.refl _) hr e2⟩
     ·rename_i xs i hcc
      cases hcc
      exact tupc _ rfl
     ·rename_i kvs hcc
      cases hcc
      obtain ⟨vs,ho,r,z⟩:=q
      split at h
      ·rename_i k hk
       cases qjk hk ty
       split at h
       ·rename_i p e
        obtain ⟨z',e1,e2⟩:=(qak.get (k:=k) r).1 p e
        exact ⟨_,qgo (by omega),ad,z',rfl,.inl ⟨vs,k,.inl ho,rfl,e1.symm⟩,h w _ _ (LeW.refl _) hr e2⟩
       ·exact h.elim
      ·exact h.elim
     ·rename_i kvs hcc
      cases hcc
      obtain ⟨vs,od,ho,r,z⟩:=q
      split at h
      ·rename_i k hk
       cases qjk hk ty
       split at h
       ·rename_i p e
        obtain ⟨z',e1,e2⟩:=(qak.get (k:=k) r).1 p e
        exact ⟨_,qgo (by omega),ad,z',rfl,.inl ⟨vs,k,.inr ⟨od,(hr.lks ad _ ho).1⟩,rfl,e1.symm⟩,h w _ _ (LeW.refl _) hr e2⟩
       ·exact h.elim
      ·exact h.elim
     ·exact h.elim
def qj5 (X:Cx):V→Option Int→Option Int→Hp→VK→Prop:=fun x lo hi H Q=>∃ r,SlR X r∧r x lo hi H Q
theorem qnO:SlR X (qj5 X):=fun pins s σ H x v vl vu lo hi sl Q I rx hs pl pu ⟨r,o,q⟩=>o pins s σ H x v vl vu lo hi sl Q I rx hs pl pu q
theorem qiB {K:PySem.W.Frag} {F:Hp} {xs:List P} {vs:List V} (lo hi:Option Int) (r:qab K F xs vs):qab K F (cutL xs lo hi) (cutV vs lo hi):=by
 unfold cutL cutV
 rw [← r.len]
 exact qab.take _ (qab.drop _ r)
theorem qfX {K:PySem.W.Frag} {w:Wd}:∀ {xs:List W} {vs:List V} (n:Nat),qaf K w xs vs→qaf K w (xs.take n) (vs.take n)
 | _,_,0,_=>.nil
 | _,_,_ + 1,.nil=>.nil
 | _,_,n + 1,.cons r t=>.cons r (qfX n t)
theorem qfg {K:PySem.W.Frag} {w:Wd}:∀ {xs:List W} {vs:List V} (n:Nat),qaf K w xs vs→qaf K w (xs.drop n) (vs.drop n)
 | _,_,0,q=>q
 | _,_,_ + 1,.nil=>.nil
 | _,_,n + 1,.cons r t=>qfg n t
theorem qjf {K:PySem.W.Frag} {w:Wd} {xs:List W} {vs:List V} (lo hi:Option Int) (r:qaf K w xs vs):qaf K w (cutL xs lo hi) (cutV vs lo hi):=by
 unfold cutL cutV
 rw [← Paired.length r]
 exact qfX _ (qfg _ r)
theorem ql6 {lo hi:Option Int} (hr:HRel X.K S w H) (rx:RepW X.K w x v) (h:RdG X σ (RepW X.K) w (qgJ x lo hi S) Q):qj5 X v lo hi H Q:=by
 unfold qgJ at h
 split at h
 ·rename_i xs hx
  obtain ⟨a,vs,rfl,ho,r,z⟩:=hr.view hx rx
  refine ⟨_,sl_list,a,vs,rfl,SqL.of ho,fun p hp=>?_⟩
  obtain ⟨w',lw,hr',rp⟩:=qbP hr hp (qiB lo hi r) (Nat.le_trans (cutV_length vs lo hi) z)
  exact h w' _ _ lw hr' rp
 ·rename_i s hx
  cases qbz (hr.view hx rx)
  split at h
  ·rename_i hl
   exact ⟨_,sl_str,s,rfl,Nat.le_trans hl qao,RdG.val h hr qcb⟩
  ·exact h.elim
 ·rename_i xs hx
  obtain ⟨a,vs,rfl,ho,r,z⟩:=hr.view hx rx
  split at h
  ·exact h.elim
  ·rename_i hne
   refine ⟨_,sl_tup,a,vs,rfl,ho,by rw [← r.len];exact hne,fun p hp=>?_⟩
   obtain ⟨w',lw,hr',rp⟩:=qh7 hr hp (qiB lo hi r) (Nat.le_trans (cutV_length vs lo hi) z)
   exact h w' _ _ lw hr' rp
 ·exact h.elim
 ·unfold slcC at h
  split at h
  ·rename_i n _
   split at h
   ·rename_i ws hS
    obtain ⟨a,hn,rfl⟩:=rx
    rcases hr.cell n _ a hS hn with zz | ⟨_,vs,ho,rr,z⟩
    ·cases zz
    ·refine ⟨_,sl_list,a,vs,rfl,SqL.of ho,fun p hp=>?_⟩
     unfold qaL at h
     split at h
     ·rename_i hb
      have lw:LeW w ⟨w.ρ++[p],w.F,w.b⟩:=⟨List.prefix_append _ _,LeL.refl _,rfl⟩
      obtain ⟨hr2,_⟩:=hr.newC (o:=.lst (cutV vs lo hi)) (c:=.lst (cutL ws lo hi)) hp hb ⟨cutV vs lo hi,upd_same,(qjf lo hi rr).mono lw,Nat.le_trans (cutV_length vs lo hi) z⟩
      exact h _ _ _ lw hr2 ⟨p,by rw [← hr.len];simp,rfl⟩
     ·exact h.elim
   ·exact h.elim
  ·exact h.elim
def bfV:BF→Value
 | .len=>.builtin "len" | .int=>.type "int" | .str=>.type "str" | .list=>.type "list" | .tuple=>.type "tuple" | .dict=>.type "dict"
 | .repr=>.builtin "repr" | .any=>.builtin "any" | .all=>.builtin "all" | .sorted=>.builtin "sorted" | .max2=>.builtin "max"
 | _=>.builtin "isinstance"
theorem qdN {K:PySem.W.Frag} {F:Hp}:∀ {ps:List P} {vs:List V} {bs:List Bool},qab K F ps vs→qdj ps=some bs→vs=bs.map V.bl
 | [],vs,bs,r,e=>by
  unfold qab at r
  cases e
  exact r
 | p::ps,vs,bs,r,e=>by
  unfold qab at r
  obtain ⟨v,t,rfl,h1,h2⟩:=r
  cases p with
  | bl b=>
   cases h:qdj ps with
   | none=>simp [qdj,h] at e
   | some cs=>
    simp [qdj,h] at e
    subst e
    unfold RepP at h1
    rw [h1,qdN h2 h]
    rfl
  | _=>simp [qdj] at e
theorem qeQ {K:PySem.W.Frag} {F:Hp}:∀ {ps:List P} {vs:List V} {bs:List Str},qab K F ps vs→qcc ps=some bs→vs=bs.map V.str
 | [],vs,bs,r,e=>by
  unfold qab at r
  cases e
  exact r
 | p::ps,vs,bs,r,e=>by
  unfold qab at r
  obtain ⟨v,t,rfl,h1,h2⟩:=r
  cases p with
  | str b=>
   cases h:qcc ps with
   | none=>simp [qcc,h] at e
   | some cs=>
    simp [qcc,h] at e
    subst e
    unfold RepP at h1
    rw [h1,qeQ h2 h]
    rfl
  | _=>simp [qcc] at e
theorem qdy {K:PySem.W.Frag} {F:Hp}:∀ {ps:List P} {vs:List V} {kvs:List (Key × P)},qab K F ps vs→qbS ps=some kvs→
  ∃ (as:List Addr) (kv:List (Key × V)),vs=as.map V.ref∧Paired (fun p z=>SqT K F p [kV z.1,z.2]) as kv∧qac K F kvs kv
 | [],vs,kvs,r,e=>by
  unfold qab at r
  cases e
  refine ⟨[],[],r,.nil,?_⟩
  unfold qac
  rfl
 | p::ps,vs,kvs,r,e=>by
  unfold qab at r
  obtain ⟨v,t,rfl,h1,h2⟩:=r
  unfold qbS at e
  split at e
  ·rename_i heq
   cases heq
  ·rename_i k x l heq
   cases heq
   cases hk:qaU k with
   | none=>rw [hk] at e;cases e
   | some key=>
    cases hp:qbS ps with
    | none=>rw [hk,hp] at e;cases e
    | some rest=>
     rw [hk,hp] at e
     cases e
     obtain ⟨as,kv,e1,e2,e3⟩:=qdy h2 hp
     unfold RepP at h1
     obtain ⟨a,zs,rfl,s,rs,_⟩:=h1
     unfold qab at rs
     obtain ⟨v1,t1,rfl,q1,rs⟩:=rs
     unfold qab at rs
     obtain ⟨v2,t2,rfl,q2,rs⟩:=rs
     unfold qab at rs
     subst rs
     refine ⟨a::as,(key,v2)::kv,by rw [e1];rfl,.cons (by rw [qo4 hk q1] at s;exact s) e2,?_⟩
     unfold qac
     exact ⟨v2,kv,rfl,q2,e3⟩
  ·cases e
theorem qac.app {K:PySem.W.Frag} {F:Hp}:∀ {xs ys:List (Key × P)} {vs us:List (Key × V)},qac K F xs vs→qac K F ys us→qac K F (xs++ys) (vs++us)
 | [],ys,vs,us,q,r=>by unfold qac at q;subst q;exact r
 | (k,x)::xs,ys,vs,us,q,r=>by
  unfold qac at q
  obtain ⟨v,t,rfl,h1,h2⟩:=q
  show qac K F ((k,x)::(xs++ys)) ((k,v)::(t++us))
  unfold qac
  exact ⟨v,_,rfl,h1,qac.app h2 r⟩
theorem qac.any {K:PySem.W.Frag} {F:Hp} (k:Key):∀ {xs:List (Key × P)} {vs:List (Key × V)},qac K F xs vs→(xs.any fun q=>decide (q.1=k))=(vs.any fun q=>decide (q.1=k))
 | [],vs,q=>by unfold qac at q;subst q;rfl
 | (k0,x)::xs,vs,q=>by
  unfold qac at q
  obtain ⟨v,t,rfl,h1,h2⟩:=q
  rw [List.any_cons,List.any_cons,qac.any k h2]
theorem qac.put {K:PySem.W.Frag} {F:Hp} {k:Key} {p:P} {z:V} (hp:RepP K F p z) {xs:List (Key × P)} {vs:List (Key × V)} (r:qac K F xs vs):qac K F (setK xs k p) (putK vs k z):=by
 unfold setK putK
 rw [qac.any k r]
 split
 ·have m:∀ {xs:List (Key × P)} {vs:List (Key × V)},qac K F xs vs→qac K F (xs.map fun q=>if q.1=k then (q.1,p) else q) (vs.map fun q=>if q.1=k then (q.1,z) else q):=by
   intro xs
   induction xs with
   | nil=>
    intro vs r
    unfold qac at r
    subst r
    unfold qac
    rfl
   | cons a l ih=>
    intro vs r
    obtain ⟨k0,x⟩:=a
    unfold qac at r
    obtain ⟨v,t,rfl,h1,h2⟩:=r
    rw [List.map_cons,List.map_cons]
    by_cases e:k0=k
    ·rw [if_pos e,if_pos e]
     unfold qac
     exact ⟨z,_,rfl,hp,ih h2⟩
    ·rw [if_neg e,if_neg e]
     unfold qac
     exact ⟨v,_,rfl,h1,ih h2⟩
  exact m r
 ·refine qac.app r ?_
  unfold qac
  refine ⟨z,[],rfl,hp,?_⟩
  unfold qac
  rfl
theorem qe1 {kvs:List (Key × V)} {k:Key} {v:V}:(putK kvs k v).length≤kvs.length + 1:=by
 unfold putK
 split
 ·rw [List.length_map];omega
 ·rw [List.length_append];exact Nat.le_refl _
theorem qac.merge {K:PySem.W.Frag} {F:Hp}:∀ {ys:List (Key × P)} {us:List (Key × V)} {xs:List (Key × P)} {vs:List (Key × V)},qac K F ys us→qac K F xs vs→qac K F (qeC xs ys) (mergeK vs us)
 | [],us,xs,vs,q,r=>by unfold qac at q;subst q;exact r
 | (k,y)::ys,us,xs,vs,q,r=>by
  unfold qac at q
  obtain ⟨v,t,rfl,h1,h2⟩:=q
  show qac K F (qeC (setK xs k y) ys) (mergeK (putK vs k v) t)
  exact qac.merge h2 (qac.put h1 r)
theorem qdU:∀ (us:List (Key × V)) {vs:List (Key × V)},(mergeK vs us).length≤vs.length + us.length
 | [],vs=>Nat.le_refl _
 | (k,v)::us,vs=>by
  have h:=qdU us (vs:=putK vs k v)
  have h2:=qe1 (kvs:=vs) (k:=k) (v:=v)
  show (mergeK (putK vs k v) us).length≤vs.length + (us.length + 1)
  omega
theorem qdL (hg:X.A.guards=some []) (hu:X.A.units + 66 < cLine):CallR X (.builtin "repr") (fun xs H Q=>∃ a d,xs=[.ref a]∧Dp X.K H (.ref a) d∧SeqAt.shaped d=true∧d.showable=true∧d.shown.length≤sizeLine∧Q (.str d.shown) H):=by
 intro pins s σ H xs us Q I r h
 obtain ⟨a,d,rfl,hd,hsh,hs,hz,q⟩:=h
 obtain ⟨u,rfl,ru⟩:=vals1 r
 cases ru
 obtain ⟨as,rd⟩:=Dp.reads I d (.ref a) (.ref a) hd rfl
 have hdep:=SeqAt.depth_of_shaped hsh
 exact repr_of_reads' (h₀:=s.heap) rd hs (PyData.noDict_hsm (PyData.hasDict_of_canLay d (SeqAt.canLay_of_shaped hsh))) hg (by omega) (fun _ _ e=>e) (fun h' t tk hk=>⟨.str d.shown,H,I.kept hk,⟨t,rfl⟩,q⟩) hz
mutual
theorem qfx {K:PySem.W.Frag} {pins:List (Addr × Obj)} {σ:L2.St} {H:Hp} {s:Shared} (I:Inv X pins σ H s):∀ (p:P) {v:V} {d:PyData} {u:Value},RepP X.K H p v→p.pyT=some d→RelV v u→∃ as,Reads s.heap u d as∧sysModules∉as
 | .non,v,d,u,r,e,ru=>by
  unfold RepP at r
  unfold P.pyT at e
  cases e
  subst r
  cases ru
  exact ⟨_,.none,by simp⟩
 | .bl b,v,d,u,r,e,ru=>by
  unfold RepP at r
  unfold P.pyT at e
  cases e
  subst r
  cases ru
  exact ⟨_,.bool b,by simp⟩
 | .int b,v,d,u,r,e,ru=>by
  unfold RepP at r
  unfold P.pyT at e
  cases e
  subst r
  obtain ⟨t,rfl⟩:=ru
  exact ⟨_,.int b t,by simp⟩
 | .str b,v,d,u,r,e,ru=>by
  unfold RepP at r
  unfold P.pyT at e
  cases e
  subst r
  obtain ⟨t,rfl⟩:=ru
  exact ⟨_,.str b t,by simp⟩
 | .lst xs,v,d,u,r,e,ru=>by
  unfold P.pyT at e
  cases e
 | .tup xs,v,d,u,r,e,ru=>by
  unfold RepP at r
  obtain ⟨a,vs,rfl,hs,rs,z⟩:=r
  unfold P.pyT at e
  cases hx:qc3 xs with
  | none=>rw [hx] at e;cases e
  | some ds=>
   rw [hx] at e
   cases e
   obtain rfl:u=Value.ref a:=ru
   obtain ⟨its,rv,⟨o,h1,h2,n,h3⟩,_⟩:=I.tuple hs
   obtain ⟨as,ra,na⟩:=qcj (K:=K) I xs rs hx rv
   exact ⟨as,.tuple h1 h2 h3 (by simpa using ra),na⟩
 | .dct [],v,d,u,r,e,ru=>by
  unfold RepP at r
  obtain ⟨a,kvs',o,rfl,ho,c,rs,z⟩:=r
  unfold qac at rs
  subst rs
  unfold P.pyT at e
  cases e
  obtain rfl:u=Value.ref a:=ru
  obtain ⟨_,hm,vs,kv,oo,es,ep,h1,h2,h3,_,h5,_⟩:=dk_rd I.hok (qa2 ho c)
  cases kv
  have he:es.toList=[]:=by
   cases hes:es.toList with
   | nil=>rfl
   | cons x xs=>
    rw [hes] at h5
    exact (nomatch h5)
  refine ⟨_,.dict h1 h2.1 h3 (by rw [he];exact .nil) (by rw [he];exact .nil),?_⟩
  simp
  exact fun z=>(beq_eq_false_iff_ne.mp hm) z.symm
 | .dct (_::_),v,d,u,r,e,ru=>by
  unfold P.pyT at e
  cases e
 | .obj _ _,v,d,u,r,e,ru=>by
  unfold P.pyT at e
  cases e
 | .scr _,v,d,u,r,e,ru=>by
  unfold P.pyT at e
  cases e
 | .exc _ _,v,d,u,r,e,ru=>by
  unfold P.pyT at e
  cases e
 | .tpp _,v,d,u,r,e,ru=>by
  unfold P.pyT at e
  cases e
 | .tpk _,v,d,u,r,e,ru=>by
  unfold P.pyT at e
  cases e
theorem qcj {K:PySem.W.Frag} {pins:List (Addr × Obj)} {σ:L2.St} {H:Hp} {s:Shared} (I:Inv X pins σ H s):∀ (p:List P) {v:List V} {d:List PyData} {u:List Value},qab X.K H p v→qc3 p=some d→Vals v u→∃ as,ReadsAll s.heap u d as∧sysModules∉as
 | [],v,d,u,r,e,ru=>by
  unfold qab at r
  subst r
  unfold qc3 at e
  cases e
  cases ru
  exact ⟨_,.nil,by simp⟩
 | x::xs,v,d,u,r,e,ru=>by
  unfold qab at r
  obtain ⟨v0,t,rfl,r1,r2⟩:=r
  unfold qc3 at e
  cases h1:x.pyT with
  | none=>rw [h1] at e;cases e
  | some d1=>
   cases h2:qc3 xs with
   | none=>rw [h1,h2] at e;cases e
   | some d2=>
    rw [h1,h2] at e
    cases e
    cases ru with
    | cons ra rb=>
     obtain ⟨as,q1,n1⟩:=qfx (K:=K) I x r1 h1 ra
     obtain ⟨bs,q2,n2⟩:=qcj (K:=K) I xs r2 h2 rb
     exact ⟨_,.cons q1 q2,by simp [n1,n2]⟩
end
theorem qgE (hg:X.A.guards=some []) (hu:X.A.units + 66 < cLine):CallR X (.builtin "repr") (fun xs H Q=>∃ a p d,xs=[.ref a]∧RepP X.K H p (.ref a)∧p.pyT=some d∧d.showable=true∧d.depth≤60∧d.shown.length≤sizeLine∧Q (.str d.shown) H):=by
 intro pins s σ H xs us Q I r h
 obtain ⟨a,p,d,rfl,hp,hd,hs,hdep,hz,q⟩:=h
 obtain ⟨u,rfl,ru⟩:=vals1 r
 cases ru
 obtain ⟨as,rd,na⟩:=qfx (K:=X.K) I p hp hd rfl
 exact repr_of_reads' (h₀:=s.heap) rd hs (fun _=>na) hg (by omega) (fun _ _ e=>e) (fun h' t tk hk=>⟨.str d.shown,H,I.kept hk,⟨t,rfl⟩,q⟩) hz
theorem qf8 (hg:X.A.guards=some []) (hu:X.A.units + 66 < cLine):CallR X (.builtin "repr") (fun xs H Q=>∃ a ps ds,xs=[.ref a]∧RepP X.K H (.lst ps) (.ref a)∧qc3 ps=some ds∧(PyData.list ds).showable=true∧(PyData.list ds).depth≤60∧(PyData.list ds).shown.length≤sizeLine∧Q (.str (PyData.list ds).shown) H):=by
 intro pins s σ H xs us Q I r h
 obtain ⟨a,ps,ds,rfl,hp,hd,hs,hdep,hz,q⟩:=h
 obtain ⟨u,rfl,ru⟩:=vals1 r
 cases ru
 unfold RepP at hp
 obtain ⟨a',vs,e,ho,rs,_⟩:=hp
 cases e
 obtain ⟨_,its,n,rv,_,e1⟩:=I.lstM ho
 obtain ⟨as,rd,na⟩:=qcj (K:=X.K) I ps rs hd rv
 exact qe6 e1 rfl rfl (by simpa using rd) hs na hz hg (by omega) fun h' t tk hk=>⟨.str (PyData.list ds).shown,H,I.kept hk,⟨t,rfl⟩,q⟩
theorem qbo:CallR X (.builtin "repr") (fun xs H Q=>(xs=[.non]∧Q (.str (PyData.shown .none)) H)∨(∃ b,xs=[.bl b]∧Q (.str (PyData.shown (.bool b))) H)∨(∃ i,xs=[.int i]∧i.natAbs.log2 < 1920∧Q (.str (PyData.shown (.int i))) H)∨∃ x,xs=[.str x]∧(PyData.shown (.str x)).length≤sizeLine∧Q (.str (PyData.shown (.str x))) H):=by
 intro pins s σ H xs us Q I r h
 rcases h with ⟨rfl,q⟩ | ⟨b,rfl,q⟩ | ⟨i,rfl,hz,q⟩ | ⟨x,rfl,hz,q⟩
 ·obtain ⟨u,rfl,ru⟩:=vals1 r
  cases ru
  exact PySem.P.repr_of_none ⟨.str _,H,I.tok _,⟨_,rfl⟩,q⟩
 ·obtain ⟨u,rfl,ru⟩:=vals1 r
  cases ru
  cases b with
  | true=>exact PySem.P.repr_of_bool ⟨.str _,H,I.tok _,⟨_,rfl⟩,q⟩
  | false=>exact PySem.P.repr_of_bool ⟨.str _,H,I.tok _,⟨_,rfl⟩,q⟩
 ·obtain ⟨u,rfl,ru⟩:=vals1 r
  obtain ⟨t,rfl⟩:=ru
  exact PySem.P.repr_of_int hz ⟨.str _,H,I.tok _,⟨_,rfl⟩,q⟩
 ·obtain ⟨u,rfl,ru⟩:=vals1 r
  obtain ⟨t,rfl⟩:=ru
  exact PySem.P.repr_of_str ⟨.str _,H,I.tok _,⟨_,rfl⟩,q⟩ (hsz:=hz)
theorem qay {α β:Type} {T:α→β→Prop} {p:α} {vs:List β} (r:Paired T [p] vs):∃ u,vs=[u]∧T p u:=by
 cases r with
 | cons r1 r2=>
  cases r2
  exact ⟨_,rfl,r1⟩
theorem qmG {α β:Type} {T:α→β→Prop} {p p':α} {vs:List β} (r:Paired T [p,p'] vs):∃ u v,vs=[u,v]∧T p u∧T p' v:=by
 cases r with
 | cons r1 r2=>
  obtain ⟨v,rfl,r3⟩:=qay r2
  exact ⟨_,v,rfl,r1,r3⟩
theorem qfs {K:PySem.W.Frag} {F:Hp}:∀ {ps:List (Key × P)} {vs:List (Key × V)},qac K F ps vs→qab K F (ps.map fun z=>kP z.1) (vs.map fun z=>kV z.1)
 | [],vs,r=>by unfold qac at r;subst r;unfold qab;rfl
 | (k,p)::ps,vs,r=>by
  unfold qac at r
  obtain ⟨v,t,rfl,_,h2⟩:=r
  show qab K F (kP k::_) (kV k::_)
  unfold qab
  refine ⟨_,_,rfl,?_,qfs h2⟩
  cases k
  ·exact qbx
  ·exact qcb
theorem qdc:CallR X (.builtin "len") (fun xs H Q=>∃ a kvs,xs=[V.ref a]∧Rd H a (.dK kvs)∧Q (.int kvs.length) H):=by
 intro pins s σ H xs us Q I r h
 obtain ⟨a,kvs,rfl,ha,q⟩:=h
 obtain ⟨u,rfl,ru⟩:=vals1 r
 cases ru
 exact d_len I ha fun t s' I'=>⟨.int kvs.length,H,I',⟨t,rfl⟩,q⟩
theorem qhq {K:PySem.W.Frag} {F:Hp}:∀ {l:List P} {vs:List V} {ns:List Int},qab K F l vs→qdF l=some ns→vs=ns.map V.int
 | [],vs,ns,r,e=>by
  unfold qab at r
  cases e
  exact r
 | p::l,vs,ns,r,e=>by
  unfold qab at r
  obtain ⟨v,t,rfl,h1,h2⟩:=r
  cases p with
  | int i=>
   cases h:qdF l with
   | none=>simp [qdF,h] at e
   | some ms=>
    simp [qdF,h] at e
    subst e
    unfold RepP at h1
    rw [h1,qhq h2 h]
    rfl
  | _=>simp [qdF] at e
theorem qfH {K:PySem.W.Frag} {F:Hp}:∀ {ns:List Int},qab K F (ns.map P.int) (ns.map V.int)
 | []=>by simp [qab]
 | i::ns=>by
  rw [List.map_cons,List.map_cons]
  unfold qab
  exact ⟨_,_,rfl,qbx,qfH⟩
theorem qfD {K:PySem.W.Frag} {F:Hp}:∀ {ys:List Str},qab K F (ys.map P.str) (ys.map V.str)
 | []=>by simp [qab]
 | i::ns=>by
  rw [List.map_cons,List.map_cons]
  unfold qab
  exact ⟨_,_,rfl,qcb,qfD⟩
theorem qnI (f:BF) (hc:X.calm=true) (hg:X.A.guards=some []) (hu:X.A.units + 66 < cLine) {ps:List P} {vs:List V} {p:P} (hr:HRel X.K S w H) (r:Paired (RepT X.K w.F H) ps vs) (e:bfOp f ps=some p)
  (q:∀ w' v H',LeW w w'→HRel X.K S w' H'→RepP X.K w'.F p v→Q v H'):f=.isStr∨qcW X (bfV f) vs H Q:=by
 unfold bfOp at e
 split at e
 case h_13=>exact .inl rfl
 case h_21=>cases e
 case h_19 l=>
  obtain ⟨u,rfl,r1⟩:=qay r
  right
  obtain ⟨a,us,rfl,ho,rs,z⟩:=r1
  unfold qhV at e
  split at e
  ·rename_i ns hn
   cases e
   cases qhq rs hn
   refine ⟨_,cr_sortedI,a,ns,rfl,SqL.of ho,fun ns' p hp hs hnew=>?_⟩
   rw [qim hp hs]
   obtain ⟨w',lw,hr',rp⟩:=qbP hr hnew (qfH (F:=w.F) (ns:=qei leI ns)) (by rw [List.length_map,(qco ns).length_eq];simpa using z)
   exact q w' _ _ lw hr' rp
  ·split at e
   ·rename_i ss hss
    split at e
    ·rename_i h64
     cases e
     cases qeQ rs hss
     refine ⟨_,cr_sortedS,a,ss,rfl,SqL.of ho,h64,fun ys p hp hs hnew=>?_⟩
     rw [qi5 hp hs]
     obtain ⟨w',lw,hr',rp⟩:=qbP hr hnew (qfD (F:=w.F) (ys:=qei leS ss)) (by rw [List.length_map,(qco ss).length_eq];simpa using z)
     exact q w' _ _ lw hr' rp
    ·cases e
   ·cases e
 case h_20 l=>
  obtain ⟨u,rfl,r1⟩:=qay r
  right
  have r1:RepP X.K w.F (.tpp l) u:=r1
  unfold RepP at r1
  obtain ⟨a,us,ob,rfl,ho,hob,rs,z⟩:=r1
  cases hp:qbS l with
  | none=>rw [hp] at e;cases e
  | some kvs=>
   rw [hp] at e
   cases e
   obtain ⟨as,kv,e1,e2,e3⟩:=qdy rs hp
   subst e1
   rw [List.length_map] at z
   refine ⟨_,qhu hc,a,as,kv,ob,rfl,hr.le a _ ho,hob,z,Paired.mapP e2 fun _ _ s=>hr.le.sqT s,fun p hp'=>?_⟩
   have hz:(mergeK [] kv).length≤sizeLine:=by
    have h1:=qdU kv (vs:=[])
    have h2:=Paired.length e2
    rw [List.length_nil] at h1
    omega
   obtain ⟨w',lw,hr',rp⟩:=qgz hr hp' (qac.merge e3 (xs:=[]) (vs:=[]) (by unfold qac;rfl)) hz
   exact q w' _ _ lw hr' rp
 case h_17 i=>
  obtain ⟨u,rfl,r1⟩:=qay r
  right
  cases qaz r1
  split at e
  ·rename_i hl
   cases e
   exact ⟨_,call_str_int,i,rfl,hl,q w _ _ (LeW.refl _) hr qcb⟩
  ·cases e
 case h_18 s=>
  obtain ⟨u,rfl,r1⟩:=qay r
  right
  cases qbz r1
  split at e
  ·rename_i hl
   cases hn:PySem.intText? s with
   | none=>rw [hn] at e;cases e
   | some n=>
    rw [hn] at e
    cases e
    exact ⟨_,call_int_str,s,n,rfl,hn,by omega,q w _ _ (LeW.refl _) hr qbx⟩
  ·cases e
 ·obtain ⟨u,rfl,r1⟩:=qay r
  right
  cases qbz r1
  split at e
  ·rename_i hl
   cases e
   exact ⟨_,call_len_str,_,rfl,Nat.le_trans hl qao,q w _ _ (LeW.refl _) hr qbx⟩
  ·cases e
 ·obtain ⟨u,rfl,r1⟩:=qay r
  right
  obtain ⟨a,us,rfl,ho,rs,z⟩:=r1
  cases e
  exact ⟨_,call_len_seq,a,us,rfl,.inl (SqL.of ho),q w _ _ (LeW.refl _) hr (by rw [rs.len];exact qbx)⟩
 ·obtain ⟨u,rfl,r1⟩:=qay r
  right
  obtain ⟨a,us,rfl,ho,rs,z⟩:=r1
  cases e
  exact ⟨_,call_len_seq,a,us,rfl,.inr ho,q w _ _ (LeW.refl _) hr (by rw [rs.len];exact qbx)⟩
 ·obtain ⟨u,rfl,r1⟩:=qay r
  right
  obtain ⟨a,us,o,rfl,ho,c,rs,z⟩:=r1
  cases e
  exact ⟨_,qdc,a,us,rfl,qa2 ho c,q w _ _ (LeW.refl _) hr (by rw [rs.len];exact qbx)⟩
 ·obtain ⟨u,rfl,r1⟩:=qay r
  right
  cases qaz r1
  cases e
  exact ⟨_,call_int1,.inl ⟨_,rfl,q w _ _ (LeW.refl _) hr qbx⟩⟩
 ·obtain ⟨u,rfl,r1⟩:=qay r
  right
  cases qbz r1
  cases e
  exact ⟨_,SkE.call_str_str,_,rfl,q w _ _ (LeW.refl _) hr qcb⟩
 ·obtain ⟨u,rfl,r1⟩:=qay r
  right
  obtain ⟨a,us,rfl,ho,rs,z⟩:=r1
  cases e
  refine ⟨_,call_list_of,a,us,rfl,.inl (SqL.of ho),fun l hl=>?_⟩
  obtain ⟨w',lw,hr',rp⟩:=qbP hr hl rs z
  exact q w' _ _ lw hr' rp
 ·obtain ⟨u,rfl,r1⟩:=qay r
  right
  obtain ⟨a,us,rfl,ho,rs,z⟩:=r1
  cases e
  refine ⟨_,call_list_of,a,us,rfl,.inr ho,fun l hl=>?_⟩
  obtain ⟨w',lw,hr',rp⟩:=qbP hr hl rs z
  exact q w' _ _ lw hr' rp
 ·obtain ⟨u,rfl,r1⟩:=qay r
  right
  obtain ⟨a,us,rfl,ho,rs,z⟩:=r1
  rename_i l
  cases hp:qbS l with
  | none=>rw [hp] at e;cases e
  | some kvs=>
   rw [hp] at e
   cases e
   obtain ⟨as,kv,e1,e2,e3⟩:=qdy rs hp
   subst e1
   refine ⟨_,call_dictP hc,a,as,kv,rfl,SqL.of ho,Paired.mapP e2 fun _ _ s=>hr.le.sqT s,fun p hp'=>?_⟩
   have hz:(mergeK [] kv).length≤sizeLine:=by
    have h1:=qdU kv (vs:=[])
    have h2:=Paired.length e2
    rw [List.length_map] at z
    rw [List.length_nil] at h1
    omega
   obtain ⟨w',lw,hr',rp⟩:=qgz hr hp' (qac.merge e3 (xs:=[]) (vs:=[]) (by unfold qac;rfl)) hz
   exact q w' _ _ lw hr' rp
 ·obtain ⟨u,rfl,r1⟩:=qay r
  right
  rename_i p0
  cases hp:qiS p0 with
  | none=>rw [hp] at e;cases e
  | some t=>
   rw [hp] at e
   cases e
   unfold qiS at hp
   cases hpy:p0.py with
   | none=>
    rw [hpy] at hp
    simp only at hp
    split at hp
    ·rename_i d hd
     split at hp
     ·rename_i hs
      simp only [Bool.and_eq_true,decide_eq_true_eq] at hs
      cases hp
      have qq:=q w _ _ (LeW.refl _) hr (qcb (i:=d.shown))
      have seq:(∃ a,u=.ref a)→qcW X (bfV .repr) [u] H Q:=fun ⟨a,ea⟩=>by
       subst ea
       exact ⟨_,qgE hg hu,a,p0,d,rfl,r1.all hr.le,hd,hs.1.1,hs.2,Nat.le_trans hs.1.2 qao,qq⟩
      cases p0 with
      | tup _=>obtain ⟨a,_,rfl,_⟩:=r1;exact seq ⟨a,rfl⟩
      | dct _=>obtain ⟨a,_,_,rfl,_⟩:=r1;exact seq ⟨a,rfl⟩
      | lst _=>cases hd
      | tpp _=>cases hd
      | tpk _=>cases hd
      | non=>cases hpy
      | bl _=>cases hpy
      | int _=>cases hpy
      | str _=>cases hpy
      | exc _ _=>cases hd
      | obj _ _=>cases hd
      | scr _=>cases hd
     ·cases hp
    ·split at hp
     ·rename_i ds hd
      split at hp
      ·rename_i hs
       simp only [Bool.and_eq_true,decide_eq_true_eq] at hs
       cases hp
       have qq:=q w _ _ (LeW.refl _) hr (qcb (i:=(PyData.list ds).shown))
       unfold P.pyL at hd
       split at hd
       ·rename_i xs _
        have r2:=r1.all hr.le
        obtain ⟨a,_,rfl,_⟩:=r1
        exact ⟨_,qf8 hg hu,a,xs,ds,rfl,r2,hd,hs.1.1,hs.2,Nat.le_trans hs.1.2 qao,qq⟩
       ·cases hd
      ·cases hp
     ·cases hp
   | some d=>
    rw [hpy] at hp
    simp only at hp
    split at hp
    ·rename_i hs
     simp only [Bool.and_eq_true,decide_eq_true_eq] at hs
     cases hp
     have hd:=qgi p0 (r1.all hr.le) hpy
     have qq:=q w _ _ (LeW.refl _) hr (qcb (i:=d.shown))
     have seq:(∃ a,u=.ref a)→qcW X (bfV .repr) [u] H Q:=fun ⟨a,ea⟩=>by
      subst ea
      exact ⟨_,qdL hg hu,a,d,rfl,hd,hs.1.1,hs.1.2,Nat.le_trans hs.2 qao,qq⟩
     cases p0 with
     | lst _=>obtain ⟨a,_,rfl,_⟩:=r1;exact seq ⟨a,rfl⟩
     | tup _=>obtain ⟨a,_,rfl,_⟩:=r1;exact seq ⟨a,rfl⟩
     | non=>
      cases qct r1
      cases hpy
      exact ⟨_,qbo,.inl ⟨rfl,qq⟩⟩
     | bl b=>
      cases T_bl r1
      cases hpy
      exact ⟨_,qbo,.inr (.inl ⟨b,rfl,qq⟩)⟩
     | int i=>
      cases qaz r1
      cases hpy
      have h19:i.natAbs.log2 < 1920:=by simpa [PyData.showable] using hs.1.2
      exact ⟨_,qbo,.inr (.inr (.inl ⟨i,rfl,h19,qq⟩))⟩
     | str x=>
      cases qbz r1
      cases hpy
      exact ⟨_,qbo,.inr (.inr (.inr ⟨x,rfl,Nat.le_trans hs.2 qao,qq⟩))⟩
     | dct _=>cases hpy
     | tpp _=>cases hpy
     | tpk _=>cases hpy
     | exc _ _=>cases hpy
     | obj _ _=>cases hpy
     | scr _=>cases hpy
    ·cases hp
 ·obtain ⟨u,rfl,r1⟩:=qay r
  right
  obtain ⟨a,us,rfl,ho,rs,z⟩:=r1
  rename_i l
  cases hp:qdj l with
  | none=>rw [hp] at e;cases e
  | some bs=>
   rw [hp] at e
   cases e
   cases qdN rs hp
   exact ⟨_,cr_any hc,a,bs,rfl,SqL.of ho,q w _ _ (LeW.refl _) hr P_bl⟩
 ·obtain ⟨u,rfl,r1⟩:=qay r
  right
  obtain ⟨a,us,rfl,ho,rs,z⟩:=r1
  rename_i l
  cases hp:qdj l with
  | none=>rw [hp] at e;cases e
  | some bs=>
   rw [hp] at e
   cases e
   cases qdN rs hp
   exact ⟨_,cr_all hc,a,bs,rfl,SqL.of ho,q w _ _ (LeW.refl _) hr P_bl⟩
 ·obtain ⟨u,v,rfl,r1,r2⟩:=qmG r
  right
  cases qaz r1
  cases qaz r2
  cases e
  exact ⟨_,call_max2 hc,_,_,rfl,q w _ _ (LeW.refl _) hr qbx⟩
 ·obtain ⟨u,rfl,r1⟩:=qay r
  right
  obtain ⟨a,us,o,rfl,ho,c,rs,z⟩:=r1
  cases e
  refine ⟨_,call_dictD,a,us,rfl,qa2 ho c,fun p hp=>?_⟩
  obtain ⟨w',lw,hr',rp⟩:=qgz hr hp rs z
  exact q w' _ _ lw hr' rp
 ·obtain ⟨u,rfl,r1⟩:=qay r
  right
  obtain ⟨a,us,o,rfl,ho,c,rs,z⟩:=r1
  cases e
  refine ⟨_,call_listD hc,a,us,rfl,qa2 ho c,fun p hp=>?_⟩
  obtain ⟨w',lw,hr',rp⟩:=qbP hr hp (qfs rs) (by simpa using z)
  exact q w' _ _ lw hr' rp
end
end LS
namespace LS
open PySem PySem.Spec PyProof.Rows L2
structure RmL (k:Nat) (A:Around):Prop where
 hd:A.handled=none
 dp:A.depth + 3 * k + 5 < recursionLimit
 un:A.units + 16 * k + 190 < cLine
theorem _root_.L2.Room.lo {k:Nat} {A:Around} (r:Room k A):RmL k A:=⟨r.hd,r.dp,by have:=r.un;omega⟩
theorem RmL.deeper {k:Nat} {A:Around} (r:RmL (k + 1) A) (env:PySem.Env):Room k (A.deeper env):=
 ⟨r.hd,by have:=r.dp;show A.depth + 1 + 3 * k + 5 < _;omega,by have:=r.un;show A.units + 3 + 16 * k + 200 < _;omega⟩
theorem RmL.depth {k:Nat} {A:Around} (r:RmL k A):A.depth < recursionLimit:=by have:=r.dp;omega
theorem RmL.make {k:Nat} {A:Around} (r:RmL (k + 1) A) (C:Addr) (us:List Value) (kw:List (Str × Value)):Room k (A.under (.builtin "type.__call__" ⟨.ref C::us,kw⟩)):=
 ⟨r.hd,by have:=r.dp;rw [make_depth];omega,by have:=r.un;rw [make_units];omega⟩
def RdF (K:PySem.W.Frag) (η:XK) {α β:Type} (rel:Wd→α→β→Prop) (w:Wd) (m:R (α × qaa)) (Q:β→Hp→Prop):Prop:=match m with
 | .ok q=>∀ w' v H',LeW w w'→HRel K q.2 w' H'→rel w' q.1 v→Q v H'
 | .ex c fs S=>∀ w' H' d,LeW w w'→HRel K S w' H'→ExAt K w' fs d→η (.ref (He.ga K c)) d H'
 | .no=>False
def FnG (P:Program) (w:World) (K:PySem.W.Frag) (mg:Str→Option Value) (base:Heap) (k:Nat) (f:Addr) (sp:List V→Hp→VK→XK→Prop):Prop:=
 ∀ (A:Around) (outer:List PySem.Env) (s:Shared) (H:Hp) (us:List Value) (vs:List V) (Q:VK) (η:XK),RmL k A→A.guards=some []→Env0 P w K mg base A outer s H→Vals vs us→sp vs H Q η→
  codeAny (model P w) A (.call (.ref f) ⟨us,[]⟩) (CR (L2.CX P w) outer P w H s Q η) s
def FnGW (P:Program) (w:World) (K:PySem.W.Frag) (mg:Str→Option Value) (base:Heap) (k:Nat) (f:Addr) (ks:List Str) (sp:List V→Hp→VK→XK→Prop):Prop:=
 ∀ (A:Around) (outer:List PySem.Env) (s:Shared) (H:Hp) (u:Value) (ws:List Value) (v:V) (zs:List V) (Q:VK) (η:XK),RmL k A→A.guards=some []→Env0 P w K mg base A outer s H→RelV v u→Vals zs ws→zs.length=ks.length→sp (v::zs.reverse) H Q η→
  codeAny (model P w) A (.call (.ref f) ⟨[u],ks.zip ws⟩) (CR (L2.CX P w) outer P w H s Q η) s
def rFn (K:PySem.W.Frag) (C:Cn) (f:Str):List V→Hp→VK→XK→Prop:=fun vs H Q η=>∃ w S ws,HRel K S w H∧qaf K w ws vs∧RdF K η (RepW K) w (C.call f ws S) Q
def rFx (X:Cx) (C:Cn) (f:Str):L2.St→List V→Hp→VK→Prop:=fun σ vs H Q=>∃ w S ws,HRel X.K S w H∧qaf X.K w ws vs∧RdG X σ (RepW X.K) w (C.call f ws S) Q
theorem qnN {X:Cx} {σ:L2.St}:Tk X σ (fun _ _ _=>False):=fun u s' ⟨_,_,_,_,_,_,_,_,_,_,_,_,_,_,_,_,_,h⟩=>h.elim
theorem RdG.toF {X:Cx} {σ:L2.St} {α β:Type} {rel:Wd→α→β→Prop} {w:Wd} {m:R (α × qaa)} {Q:β→Hp→Prop} (h:RdG X σ rel w m Q):∃ η,Tk X σ η∧RdF X.K η rel w m Q:=by
 cases m with
 | ok q=>exact ⟨_,qnN,h⟩
 | ex _ _ _=>exact h
 | no=>exact h.elim
theorem rFx.toF {X:Cx} {C:Cn} {f:Str} {σ:L2.St} {vs:List V} {H:Hp} {Q:VK} (h:rFx X C f σ vs H Q):∃ η,Tk X σ η∧rFn X.K C f vs H Q η:=by
 obtain ⟨w,S,ws,hr,r,q⟩:=h
 obtain ⟨η,t,q⟩:=q.toF
 exact ⟨η,t,w,S,ws,hr,r,q⟩
def qfB (X:Cx) (f:Value) (r:L2.St→List V→Hp→VK→Prop):Prop:=
 ∀ (pins:List (Addr × Obj)) (s:Shared) (σ:L2.St) (H:Hp) (vs:List V) (us:List Value) (Q:VK),Inv X pins σ H s→Vals vs us→r σ vs H Q→wpAny (model X.prog X.w) X.A (call f us) (EP X pins σ Q) X.xe s
theorem FnG.call {X:Cx} {k:Nat} {fa:Addr} {C:Cn} {f:Str} (F:FnG X.prog X.w X.K X.mg X.base k fa (rFn X.K C f)) (hr:RmL k X.A) (hg:X.A.guards=some []):qfB X (.ref fa) (rFx X C f):=by
 intro pins s σ H vs us Q I r h
 obtain ⟨η,tk,h⟩:=h.toF
 refine wpAny_call (codeAny_mono (F X.A X.stack s H us vs Q η hr hg I.env0 r h) fun r s' hq=>?_)
 cases r with
 | error e=>exact tk e s' (XE.of_call I (fun _ _ _ h=>⟨rfl,h⟩) hq)
 | ok fl=>
  cases fl with
  | ret u=>exact I.after hq
  | next=>exact False.elim hq
  | brk=>exact False.elim hq
  | cont=>exact False.elim hq
def qej (P:Program) (w:World) (K:PySem.W.Frag) (mg:Str→Option Value) (base:Heap) (k:Nat) (fa:Addr) (C:Cn) (f:Str):Prop:=
 ∀ X:Cx,X.prog=P→X.w=w→X.K=K→X.mg=mg→X.base=base→RmL k X.A→X.A.guards=some []→qfB X (.ref fa) (rFx X C f)
theorem FnG.callG {P:Program} {w:World} {K:PySem.W.Frag} {mg:Str→Option Value} {base:Heap} {k:Nat} {fa:Addr} {C:Cn} {f:Str} (F:FnG P w K mg base k fa (rFn K C f)):qej P w K mg base k fa C f:=by
 intro X h1 h2 h3 h4 h5 hr hg
 subst h1 h2 h3 h4 h5
 exact F.call hr hg
theorem qej.at {X:Cx} {k:Nat} {fa:Addr} {C:Cn} {f:Str} (F:qej X.prog X.w X.K X.mg X.base k fa C f) (hr:Room k X.A) (hg:X.A.guards=some []):qfB X (.ref fa) (rFx X C f):=F X rfl rfl rfl rfl rfl hr.lo hg
def rFnK (K:PySem.W.Frag) (C:Cn) (f:Str):List V→Hp→VK→XK→Prop:=fun vs H Q η=>∃ w S ws,w.b.o=none∧HRel K S w H∧qaf K w ws vs∧RdF K η (RepW K) w (C.call f ws S) Q
def rFxK (X:Cx) (C:Cn) (f:Str):L2.St→List V→Hp→VK→Prop:=fun σ vs H Q=>∃ w S ws,w.b.o=none∧HRel X.K S w H∧qaf X.K w ws vs∧RdG X σ (RepW X.K) w (C.call f ws S) Q
theorem rFxK.toF {X:Cx} {C:Cn} {f:Str} {σ:L2.St} {vs:List V} {H:Hp} {Q:VK} (h:rFxK X C f σ vs H Q):∃ η,Tk X σ η∧rFnK X.K C f vs H Q η:=by
 obtain ⟨w,S,ws,hb,hr,r,q⟩:=h
 obtain ⟨η,t,q⟩:=q.toF
 exact ⟨η,t,w,S,ws,hb,hr,r,q⟩
theorem FnG.callK {X:Cx} {k:Nat} {fa:Addr} {C:Cn} {f:Str} (F:FnG X.prog X.w X.K X.mg X.base k fa (rFnK X.K C f)) (hr:RmL k X.A) (hg:X.A.guards=some []):qfB X (.ref fa) (rFxK X C f):=by
 intro pins s σ H vs us Q I r h
 obtain ⟨η,tk,h⟩:=h.toF
 refine wpAny_call (codeAny_mono (F X.A X.stack s H us vs Q η hr hg I.env0 r h) fun r s' hq=>?_)
 cases r with
 | error e=>exact tk e s' (XE.of_call I (fun _ _ _ h=>⟨rfl,h⟩) hq)
 | ok fl=>
  cases fl with
  | ret u=>exact I.after hq
  | next=>exact False.elim hq
  | brk=>exact False.elim hq
  | cont=>exact False.elim hq
abbrev _root_.L2.Cx.in1 (X:Cx):Cx:={ X with A:=X.A.in1 }
theorem _root_.L2.Cx.Ok.in1 {X:Cx} (ok:X.Ok):X.in1.Ok:=
 ⟨ok.mod,ok.kind,ok.glob,ok.blt,ok.above,ok.inj,ok.has,ok.cab,ok.hd,ok.frames,ok.stk,ok.exf,ok.bs,ok.bsz,ok.noex,ok.exfs,ok.funs,ok.frf⟩
def qcm (P:Program) (w:World) (K:PySem.W.Frag) (mg:Str→Option Value) (base:Heap) (k:Nat) (fa:Addr) (C:Cn) (f:Str):Prop:=
 ∀ X:Cx,X.prog=P→X.w=w→X.K=K→X.mg=mg→X.base=base→RmL k X.A→X.A.guards=some []→qfB X (.ref fa) (rFxK X C f)
theorem FnG.callGK {P:Program} {w:World} {K:PySem.W.Frag} {mg:Str→Option Value} {base:Heap} {k:Nat} {fa:Addr} {C:Cn} {f:Str} (F:FnG P w K mg base k fa (rFnK K C f)):qcm P w K mg base k fa C f:=by
 intro X h1 h2 h3 h4 h5 hr hg
 subst h1 h2 h3 h4 h5
 exact F.callK hr hg
theorem qcm.at {X:Cx} {k:Nat} {fa:Addr} {C:Cn} {f:Str} (F:qcm X.prog X.w X.K X.mg X.base k fa C f) (hr:Room k X.A) (hg:X.A.guards=some []):qfB X (.ref fa) (rFxK X C f):=F X rfl rfl rfl rfl rfl hr.lo hg
structure RmH (k:Nat) (A:Around):Prop where
 dp:A.depth + 3 * k + 5 < recursionLimit
 un:A.units + 16 * k + 190 < cLine
def RdH (K:PySem.W.Frag) {α β:Type} (rel:Wd→α→β→Prop) (w:Wd) (m:R (α × qaa)) (Q:β→Hp→Prop):Prop:=match m with
 | .ok q=>∀ w' v H',LeW w w'→HRel K q.2 w' H'→rel w' q.1 v→Q v H'
 | _=>False
def rFnH (K:PySem.W.Frag) (C:Cn) (f:Str):List V→Hp→VK→Prop:=fun vs H Q=>∃ w S ws,HRel K S w H∧qaf K w ws vs∧RdH K (RepW K) w (C.call f ws S) Q
def FnGH (P:Program) (w:World) (K:PySem.W.Frag) (mg:Str→Option Value) (base:Heap) (k:Nat) (f:Addr) (sp:List V→Hp→VK→Prop):Prop:=
 ∀ (A:Around) (outer:List PySem.Env) (s:Shared) (H:Hp) (us:List Value) (vs:List V) (Q:VK),RmH k A→A.guards=some []→Env0 P w K mg base A outer s H→Vals vs us→sp vs H Q→
  codeAny (model P w) A (.call (.ref f) ⟨us,[]⟩) (CR (L2.CX P w) outer P w H s Q fun _ _ _=>False) s
def qet (P:Program) (w:World) (K:PySem.W.Frag) (mg:Str→Option Value) (base:Heap) (k:Nat) (fa:Addr) (C:Cn) (f:Str):Prop:=
 ∀ X:Cx,X.prog=P→X.w=w→X.K=K→X.mg=mg→X.base=base→RmH k X.A→X.A.guards=some []→qfB X (.ref fa) (fun _=>rFnH X.K C f)
theorem FnGH.callGH {P:Program} {w:World} {K:PySem.W.Frag} {mg:Str→Option Value} {base:Heap} {k:Nat} {fa:Addr} {C:Cn} {f:Str} (F:FnGH P w K mg base k fa (rFnH K C f)):qet P w K mg base k fa C f:=by
 intro X h1 h2 h3 h4 h5 hr hg
 subst h1 h2 h3 h4 h5
 intro pins s σ H vs us Q I r h
 refine wpAny_call (codeAny_mono (F X.A X.stack s H us vs Q hr hg I.env0 r h) fun r s' hq=>?_)
 cases r with
 | error e=>exact (qnN (X:=X) (σ:=σ)) e s' (XE.of_call I (fun _ _ _ h=>⟨rfl,h⟩) hq)
 | ok fl=>
  cases fl with
  | ret u=>exact I.after hq
  | next=>exact False.elim hq
  | brk=>exact False.elim hq
  | cont=>exact False.elim hq
structure ExcF (K:PySem.W.Frag) (c:Str) (fl:List Str):Prop where
 ns:∀ f∈fl,PySem.W.findIn K (.ref (He.ga K c)) f=some none
 nd:fl.Nodup
 few:fl.length≤5
 exC:PySem.W.subIn K (.ref (He.ga K c)) (.type "BaseException")=some true
 tyC:PySem.W.typeIn K (.ref (He.ga K c))=some (.type "type")
 kC:PySem.W.keepIn K (.ref (He.ga K c))=true
 bare:fl=[]→PySem.W.excIn K (He.ga K c) [.type "ValueError",.type "Exception",.type "BaseException",.type "object"] "ValueError.__new__"=true
 init:fl≠[]→OexC K (He.ga K c)
 exV:PySem.W.subIn K (.ref (He.ga K c)) (.type "ValueError")=some true
def qc2 (C:Addr) (fl:List Str):List V→Hp→VK→XK→Prop:=fun vs H Q _=>∃ a args,vs=.ref a::args∧args.length=fl.length∧H a=some (exo a C none)∧
 ∀ dx H',H dx=none→dx≠a→(∀ b,b≠a→b≠dx→H' b=H b)→H' a=some (exo a C (some dx))→H' dx=some (exd dx (fl.zip args).reverse)→Q .non H'
structure Ct where
 N:List Str
 sc:Scope
 fn:Str→Bool
 calm:Bool:=true
def qds:List Str:=["len","int","str","list","tuple","dict","repr","any","all","sorted","max","isinstance","range","bool","set","enumerate","ValueError"]
structure KlsOk (K:PySem.W.Frag) (C:Addr):Prop where
 cl:Cls K C
 ha:PySem.W.findIn K (.ref C) "__class__"=some (some (.builtin "object.__class__"))
 hn:PySem.W.specialIn K (.builtin "object.__class__") "__get__"=some (some (.builtin "getset_descriptor.__get__"))
 htk:PySem.W.takesIn K (.builtin "object.__class__")=some true
 hm:PySem.W.mroIn K C (.type "object")=some true
 first:PySem.W.selfFirst K C=true
 ne:PySem.W.findIn K (.ref C) "__ne__"=some (some (.builtin "object.__ne__"))
 ge:PySem.W.findIn K (.ref C) "__ge__"=some (some (.builtin "object.__ge__"))
 gt:PySem.W.findIn K (.ref C) "__gt__"=some (some (.builtin "object.__gt__"))
 tyC:PySem.W.typeIn K (.ref C)=some (.type "type")
 noR:∀ n∈["or","and","add","sub"],PySem.W.findIn K (.ref C) (dunderR n)=some none
def qjt (K:PySem.W.Frag) (d:Addr) (kvs:List (Str × P)):Prop:=∀ z:Str,match kvs.lookup z with
 | some p=>∃ u v,PySem.W.nsIn K d z=some (some u)∧RelV v u∧∀ F,RepP K F p v
 | none=>PySem.W.nsIn K d z=some none
structure Gd (C:Cn) (ct:Ct) (k:Nat) (X:Cx):Prop where
 calm:ct.calm=true→X.calm=true
 N:X.N=ct.N
 nd:ct.N.Nodup
 sc:X.env.scope=ct.sc
 fn:X.fn=ct.fn
 room:ct.calm=true→Room k X.A
 un:X.A.units + 16 * k + 200 < cLine
 hg:X.A.guards=some []
 glo:∀ x p,C.g.glo x=some p→∃ v u,X.mg x=some u∧RelV v u∧∀ F,RepP X.K F p v
 blt:∀ x∈qds,X.mg x=none
 fld:∀ c f,C.g.fld c f=true→Cls X.K (He.ga X.K c)∧NoAttr X.K (He.ga X.K c) f
 def_:∀ f,C.g.fn f=true→∃ fa,X.mg f=some (.ref fa)∧PySem.W.keepIn X.K (.ref fa)=true∧qej X.prog X.w X.K X.mg X.base k fa C f
 met:∀ c m,C.g.met c m=true→∃ fa,Cls X.K (He.ga X.K c)∧Meth X.K (He.ga X.K c) m fa∧qej X.prog X.w X.K X.mg X.base k fa C (c++"."++m)
 cls:∀ c,C.g.cls c=true→X.mg c=some (.ref (He.ga X.K c))∧KlsOk X.K (He.ga X.K c)
 defK:∀ f,C.g.fnK f=true→∃ fa,X.mg f=some (.ref fa)∧PySem.W.keepIn X.K (.ref fa)=true∧qcm X.prog X.w X.K X.mg X.base k fa C f
 metK:∀ c m,C.g.metK c m=true→∃ fa,Cls X.K (He.ga X.K c)∧Meth X.K (He.ga X.K c) m fa∧qcm X.prog X.w X.K X.mg X.base k fa C (c++"."++m)
 exc:∀ c fl,C.g.exc c=some fl→X.mg c=some (.ref (He.ga X.K c))∧ExcF X.K c fl∧(fl≠[]→∃ fi,PySem.W.findIn X.K (.ref (He.ga X.K c)) "__init__"=some (some (.ref fi))∧PySem.W.typeIn X.K (.ref fi)=some (.type "function")∧∀ k',FnG X.prog X.w X.K X.mg X.base (k' + 1) fi (qc2 (He.ga X.K c) fl)∧FnGW X.prog X.w X.K X.mg X.base (k' + 1) fi fl.reverse (qc2 (He.ga X.K c) fl))
 sub:∀ c x b,C.g.sub c x=some b→∃ cv,(X.mg x=some cv∨(X.mg x=none∧bootBuiltins x=some cv∧x≠"__name__"))∧PySem.W.exmOne X.K (.ref (He.ga X.K c)) cv=some b
 xfl:∀ c f,C.g.xfl c f=true→XfC X.K (He.ga X.K c)∧PySem.W.findIn X.K (.ref (He.ga X.K c)) f=some none
 hdl:∀ x,C.g.hdl x=true→∃ cv,X.mg x=some cv∨(X.mg x=none∧bootBuiltins x=some cv∧x≠"__name__")
 isn:∀ x,C.g.isn x=true→X.mg x=some (.ref (He.ga X.K x))
 isx:∀ c x b,C.g.isx c x=some b→PySem.W.kitOne X.K (.ref (He.ga X.K c)) (.ref (He.ga X.K x))=some b∧L2.ExcC X.K (He.ga X.K c)
 isd:∀ c x,C.g.isd c x=true→PySem.W.kitOne X.K (.ref (He.ga X.K c)) (.ref (He.ga X.K x))=some false
 metO:∀ c m,C.g.metO c m=true→∃ fa,Cls X.K (He.ga X.K c)∧Meth X.K (He.ga X.K c) m fa∧qcm X.prog X.w X.K X.mg X.base k fa C (c++"."++m++"!")
 tab:∀ x kvs,C.g.tab x=some kvs→∃ d es n,X.mg x=some (.ref d)∧KDict X.K X.w d es n∧qjt X.K d kvs
 defH:∀ f,C.g.fnH f=true→∃ fa,X.mg f=some (.ref fa)∧PySem.W.keepIn X.K (.ref fa)=true∧qet X.prog X.w X.K X.mg X.base k fa C f
 dp:X.A.depth + 3 * k + 5 < recursionLimit
 k2:2≤k
def qeM (scope sc:Scope):Scope:=
 { scope with names:=scope.names.map fun (n,k)=>if (k == .free && sc.kind == .function && sc.names.lookup n == some .cell) then (n,.cell) else (n,k) }
def Ct.blk (ct:Ct) (scope:Scope):Ct:=⟨ct.N,qeM scope ct.sc,fun x=>scope.names.lookup x == some .cell,ct.calm⟩
theorem Gd.blk {C:Cn} {ct:Ct} {k:Nat} {X:Cx} (G:Gd C ct k X) (scope:Scope) (s:Shared) (H:Hp) (D:Addr) (cl:List (Str × Addr)) (fp:List Addr) :
  Gd C (ct.blk scope) k (X.blk s H scope (compEnvC scope cl D X.env) fp):=
 ⟨G.calm,G.N,G.nd,by
  show relabel scope X.env=qeM scope ct.sc
  unfold relabel qeM
  rw [← G.sc]
  rfl,rfl,G.room,G.un,G.hg,G.glo,G.blt,G.fld,G.def_,G.met,G.cls,G.defK,G.metK,G.exc,G.sub,G.xfl,G.hdl,G.isn,G.isx,G.isd,G.metO,G.tab,G.defH,G.dp,G.k2⟩
theorem Gd.in_ {C:Cn} {ct:Ct} {k:Nat} {X:Cx} (G:Gd C ct k X) (cell:Bool):Gd (C.in_ cell) ct k X:=
 ⟨G.calm,G.N,G.nd,G.sc,G.fn,G.room,G.un,G.hg,G.glo,G.blt,G.fld,G.def_,G.met,G.cls,G.defK,G.metK,G.exc,G.sub,G.xfl,G.hdl,G.isn,G.isx,G.isd,G.metO,G.tab,G.defH,G.dp,G.k2⟩
def visB (sc:Scope) (x:Str):Bool:=match sc.names.lookup x with
 | some .local=>true
 | some .cell=>true
 | some .free=>true
 | _=>false
theorem qfz {sc:Scope} {x:Str} (h:visB sc x=true):Vis sc x:=by
 unfold visB at h
 unfold Vis
 split at h <;> first
  | exact .inl (by assumption)
  | exact .inr (.inl (by assumption))
  | exact .inr (.inr (by assumption))
  | cases h
def gloB (sc:Scope) (x:Str):Bool:=match sc.names.lookup x with
 | some .globalImplicit=>true
 | _=>false
theorem glo_ok {X:Cx} {sc:Scope} {x:Str} (e:X.env.scope=sc) (h:gloB sc x=true):Gl X x:=by
 unfold gloB at h
 unfold Gl
 show X.env.scope.names.lookup x=_
 rw [e]
 split at h
 ·assumption
 ·cases h
def locB (ct:Ct) (x:Str):Bool:=match ct.sc.names.lookup x with
 | some .local=>true
 | some .cell=>ct.fn x
 | _=>false
theorem qia {C:Cn} {ct:Ct} {k:Nat} {X:Cx} (G:Gd C ct k X) {x:Str} (h:locB ct x=true):L2.Loc X.env.scope x∧(X.fn x=true∨X.env.scope.names.lookup x=some .local):=by
 unfold locB at h
 unfold L2.Loc
 rw [G.sc,G.fn]
 split at h
 ·exact ⟨.inl (by assumption),.inr (by assumption)⟩
 ·exact ⟨.inr (by assumption),.inl h⟩
 ·cases h
end LS
namespace LS
open PySem PySem.Spec PyProof.Rows L2
def litB:P→Const→Bool
 | .non,.none=>true
 | .bl b,.bool c=>b == c
 | .int i,.int j=>decide (i=j)
 | .str s,.str t=>decide (s=t)
 | _,_=>false
def boB (o:BO) (p:Operator):Bool:=decide (boOp o=p)
def coB (o:CO) (p:CmpOp):Bool:=decide (coOp o=p)
def qeD:BF→Str
 | .len=>"len" | .int=>"int" | .str=>"str" | .list=>"list" | .tuple=>"tuple" | .dict=>"dict"
 | .repr=>"repr" | .any=>"any" | .all=>"all" | .sorted=>"sorted" | .max2=>"max" | _=>"isinstance"
def qix:BM→Str
 | .append=>"append" | .extend=>"extend" | .pop0=>"pop" | .popAt=>"pop" | .insert=>"insert" | .split=>"split" | .join=>"join" | .get=>"get" | .get2=>"get" | .items=>"items" | .splitC=>"split" | .popK=>"pop"
def bmOk:BM→Bool
 | .append=>true | .extend=>true | .pop0=>true | .join=>true | .split=>true | .insert=>true | .splitC=>true | .popK=>true
 | _=>false
def hasB (neg:Bool) (p:CmpOp):Bool:=decide ((if neg=true then CmpOp.NotIn else CmpOp.In)=p)
def nmB (N:List Str) (i:Nat) (x:Str):Bool:=decide (N[i]?=some x)
def qa5 (x:Str):Bool:=!(x == ("__debug__":Str)) && !(x == ("__classdict__":Str)) && decide (x≠"__name__")
def tgB (ct:Ct):Tg→Expr→Bool
 | .name i,.Name x _=>nmB ct.N i x && locB ct x
 | .tup is,.Tuple es _ _=>ct.calm && go is es
 | _,_=>false
where go:List Nat→List Expr→Bool
 | [],[]=>true
 | i::is,.Name x _::es=>nmB ct.N i x && locB ct x && go is es
 | _,_=>false
def gB (ct:Ct) (x y:Str):Bool:=decide (x=y) && gloB ct.sc y && qa5 y
def qer (ct:Ct):List Str→List Expr→Bool
 | [],[]=>true
 | c::cs,.Name y _::es=>gB ct c y && qer ct cs es
 | _,_=>false
def kwB (ct:Ct):E→List Str→List Keyword→Bool
 | .nil,[],[]=>true
 | .cons (.var i) l,k::ks,⟨some k',.Name x _,_⟩::r=>decide (k=k') && (nmB ct.N i x && visB ct.sc x && qa5 x) && kwB ct l ks r
 | _,_,_=>false
def qjM (ct:Ct) (cs:List Str):Expr→Bool
 | .Name y _=>match cs with
  | [c]=>gB ct c y
  | _=>false
 | .Tuple es _ _=>decide (2≤cs.length∧cs.length≤20) && qer ct cs es
 | _=>false
def tsE:E→Expr→Bool
 | .and a b,.BoolOp .And (v::w::rest) pos=>tsE a v && (match rest with
  | []=>tsE b w
  | _::_=>tsE b (.BoolOp .And (w::rest) pos))
 | .or a b,.BoolOp .Or (v::w::rest) pos=>tsE a v && (match rest with
  | []=>tsE b w
  | _::_=>tsE b (.BoolOp .Or (w::rest) pos))
 | .not a,.UnaryOp .Not x _=>tsE a x
 | .cmp _ _ _,_=>true
 | _,x=>qdG x
def Tg.slots:Tg→List Nat
 | .name i=>[i]
 | .tup is=>is
def tgIn (own:List (Str × Nat)) (tg:Tg):Bool:=tg.slots.all fun i=>decide (i∈own.map (·.2))
def qkq:Expr→Bool
 | .Tuple _ _ _=>true
 | _=>false
def qgM:BF→Bool
 | .isStr=>false
 | _=>true
mutual
def chE (ct:Ct):E→Expr→Bool
 | .var i,.Name x _=>nmB ct.N i x && visB ct.sc x && qa5 x
 | .lit p,.Constant c _ _=>litB p c
 | .lit (.int i),.UnaryOp .USub (.Constant (.int j) _ _) _=>decide (i=-j)
 | .bin o a b,.BinOp l p r _=>boB o p && chE ct a l && chE ct b r
 | .cmp o a b,.Compare l [p] [r] _=>coB o p && chE ct a l && chE ct b r && !behindInMarks p r
 | .and a b,.BoolOp .And (v::w::rest) pos=>chE ct a v && (match rest with
  | []=>chE ct b w
  | _::_=>chE ct b (.BoolOp .And (w::rest) pos))
 | .or a b,.BoolOp .Or (v::w::rest) pos=>chE ct a v && (match rest with
  | []=>chE ct b w
  | _::_=>chE ct b (.BoolOp .Or (w::rest) pos))
 | .not a,.UnaryOp .Not x _=>chE ct a x
 | .ite t a b,.IfExp c x y _=>chE ct t c && tsE t c && chE ct a x && chE ct b y
 | .tup l,.Tuple es _ _=>chL ct l es
 | .lst _ l,.List es _=>chL ct l es
 | .lc _ own tg it ifs elt,.ListComp x [⟨t,i,cs,ay⟩] scope _=>ct.calm && (decide (ay=0) && (blkC ct.N ct.sc scope own && tgIn own tg && chI ct it i t && qa7 i && tgB (ct.blk scope) tg t && chIf (ct.blk scope) ifs cs && chE (ct.blk scope) elt x))
 | .dc _ own tg it ifs k v,.DictComp x y [⟨t,i,cs,ay⟩] scope _=>ct.calm && (decide (ay=0) && (blkC ct.N ct.sc scope own && tgIn own tg && chI ct it i t && qa7 i && tgB (ct.blk scope) tg t && chIf (ct.blk scope) ifs cs && chE (ct.blk scope) k x && chE (ct.blk scope) v y))
 | .sub a i,.Subscript x y _=>chE ct a x && chE ct i y && qcq y
 | .slc a lo hi,.Subscript x (.Slice l u none _) _=>chE ct a x && chO ct lo l && chO ct hi u
 | .call f l,.Call (.Name g _) es [] _=>ct.calm && (gB ct f g && chL ct l es && es.all qae)
 | .norm a,.Name x p=>chE ct a (.Name x p)
 | .isX cs a,.Call (.Name g _) [e,y] [] _=>gB ct "isinstance" g && (qjM ct cs y && (chE ct a e && qae e)) && qae y
 | .mkE c l,.Call (.Name g _) es [] _=>ct.calm && (gB ct c g && chL ct l es && es.all qae)
 | .mkW c ks l,.Call (.Name g _) [] kws _=>ct.calm && (gB ct c g && kwB ct l ks kws)
 | .isVE a,.Call (.Name g _) [e,.Name c _] [] _=>ct.calm && (gB ct "isinstance" g && gB ct "ValueError" c && chE ct a e && qae e)
 | .bm m a l,.Call (.Attribute x g apos) es [] pos=>bmOk m && !es.isEmpty && chE ct a x && decide (qix m=g) && qby x && chL ct l es && es.all qae && decide (es.length < 29) && (apos.endLine == pos.line)
 | .bf .isStr l,.Call (.Name g _) [e,.Name c _] [] _=>ct.calm && (gB ct "isinstance" g && gB ct "str" c && chL ct l [e] && qae e)
 | .bf f l,.Call (.Name g _) [e] [] _=>ct.calm && (qgM f && gB ct (qeD f) g && chL ct l [e] && qae e)
 | .listC a,.Call (.Name g _) [e] [] _=>gB ct "list" g && chE ct a e && qae e
 | .stuck,_=>true
 | .xatt a f,.Attribute x g _=>chE ct a x && decide (f=g) && qby x
 | _,_=>false
def chL (ct:Ct):E→List Expr→Bool
 | .nil,[]=>true
 | .cons a l,e::es=>qae e && chE ct a e && chL ct l es
 | .star a l,.Starred e _::es=>ct.calm && (chE ct a e && chL ct l es)
 | _,_=>false
def chK (ct:Ct):E→List (Option Expr)→List Expr→Bool
 | .nil,[],[]=>true
 | .kv k v l,some x::ks,y::vs=>chE ct k x && chE ct v y && chK ct l ks vs
 | _,_,_=>false
def chJ (ct:Ct):E→List Expr→Bool
 | .nil,[]=>true
 | .star a l,.Constant c j p::es=>chE ct a (.Constant c j p) && chJ ct l es
 | .cons a l,.FormattedValue e k none _::es=>decide (k=-1) && chE ct a e && chJ ct l es
 | _,_=>false
def chI (ct:Ct):E→Expr→Expr→Bool
 | .it a,e,_=>chE ct a e
 | .rng l,.Call (.Name g _) [e] [] _,_=>gB ct "range" g && chL ct l [e] && qae e
 | .rng l,.Call (.Name g _) [e,e'] [] _,_=>gB ct "range" g && chL ct l [e,e'] && qae e && qae e'
 | _,_,_=>false
def chO (ct:Ct):E→Option Expr→Bool
 | .nil,none=>true
 | .cons a _,some e=>chE ct a e
 | _,_=>false
def chIf (ct:Ct):E→List Expr→Bool
 | .nil,[]=>true
 | .cons a _,[e]=>chE ct a e && tsE a e
 | _,_=>false
end
end LS
namespace LS
open PySem PySem.Spec PyProof.Rows L2
section
variable {X:Cx} {C:Cn} {ct:Ct} {k:Nat} {pos:Pos}
theorem qam {x:Str} (h:qa5 x=true):(x == ("__debug__":Str))=false:=by
 unfold qa5 at h
 simp only [Bool.and_eq_true,Bool.not_eq_true'] at h
 exact h.1.1
theorem qcT {x:Str} (h:qa5 x=true):(x == ("__classdict__":Str))=false:=by
 unfold qa5 at h
 simp only [Bool.and_eq_true,Bool.not_eq_true'] at h
 exact h.1.2
theorem qbw {x:Str} (h:qa5 x=true):x≠"__name__":=by
 unfold qa5 at h
 simp only [Bool.and_eq_true,Bool.not_eq_true',decide_eq_true_eq] at h
 exact h.2
theorem qd8 (G:Gd C ct k X) {i:Nat} {x:Str} (h:nmB ct.N i x=true):X.N[i]?=some x:=by
 rw [G.N]
 exact of_decide_eq_true h
theorem Gd.nd' (G:Gd C ct k X):X.N.Nodup:=by
 rw [G.N]
 exact G.nd
theorem Gd.hu (G:Gd C ct k X):X.A.units + 200 < cLine:=by
 have:=G.un
 omega
theorem qlH (G:Gd C ct k X) {i:Nat} {x:Str} (h:(nmB ct.N i x && visB ct.sc x && qa5 x)=true):PE X (.Name x pos) (tE X C (.var i)):=by
 simp only [Bool.and_eq_true] at h
 refine PE.weak (pe_var (qd8 G h.1.1) (by rw [G.sc];exact qfz h.1.2) (qam h.2) (qcT h.2)) fun σ H Q q=>?_
 obtain ⟨w,env,S,hr,he,q⟩:=q
 simp only [evE] at q
 split at q
 ·rename_i x0 hx
  obtain ⟨v,e1,e2⟩:=he.2 i x0 hx
  exact ⟨v,e1,q w v H (LeW.refl _) hr e2⟩
 ·exact q.elim
theorem qpP {p:P} {c:Const} {j:Nat} (h:litB p c=true):PE X (.Constant c j pos) (tE X C (.lit p)):=by
 have fin:∀ {v:V} {σ:L2.St} {H:Hp} {Q:VK},(∀ F,RepP X.K F p v)→tE X C (.lit p) σ H Q→Q v H:=fun {v σ H Q} r ⟨w,env,S,hr,he,q⟩=>by
  simp only [evE] at q
  exact q w v H (LeW.refl _) hr (r _)
 cases p with
 | non=>
  cases c with
  | none=>exact PE.weak pe_non fun σ H Q q=>fin (fun _=>qe8) q
  | _=>cases h
 | bl b=>
  cases c with
  | bool d=>
   have e:b=d:=by simpa [litB] using h
   subst e
   exact PE.weak pe_bl fun σ H Q q=>fin (fun _=>P_bl) q
  | _=>cases h
 | int b=>
  cases c with
  | int d=>
   have e:b=d:=of_decide_eq_true h
   subst e
   exact PE.weak pe_int fun σ H Q q=>fin (fun _=>qbx) q
  | _=>cases h
 | str b=>
  cases c with
  | str d=>
   have e:b=d:=of_decide_eq_true h
   subst e
   exact PE.weak pe_str fun σ H Q q=>fin (fun _=>qcb) q
  | _=>cases h
 | _=>cases h
theorem qcH (G:Gd C ct k X) {x y:Str} (h:gB ct x y=true):x=y∧Gl X y∧qa5 y=true:=by
 unfold gB at h
 simp only [Bool.and_eq_true,decide_eq_true_eq] at h
 exact ⟨h.1.1,glo_ok G.sc h.1.2,h.2⟩
theorem qqy {o:BO} {p:Operator} {a b:E} {l r:Expr} (h:boB o p=true) (ha:PE X l (tE X C a)) (hb:PE X r (tE X C b)):PE X (.BinOp l p r pos) (tE X C (.bin o a b)):=by
 have e:boOp o=p:=of_decide_eq_true h
 subst e
 refine PE.weak (pe_op (qiW _) ha hb) fun σ H Q q=>?_
 obtain ⟨w,env,S,hr,he,q⟩:=q
 simp only [evE] at q
 refine ⟨w,env,S,hr,he,(q.step (rel:=RepW X.K)).imp fun v H1 h1=>?_⟩
 obtain ⟨w1,x,S1,l1,hr1,r1,q1⟩:=h1
 refine ⟨w1,env,S1,hr1,he.mono l1,(q1.step (rel:=RepW X.K)).imp fun u H2 h2=>?_⟩
 obtain ⟨w2,y,S2,l2,hr2,r2,q2⟩:=h2
 exact qk6 o hr2 (r1.mono l2) r2 q2
theorem qoA (G:Gd C ct k X) {o:CO} {p:CmpOp} {a b:E} {l r:Expr} (h:coB o p=true) (hm:behindInMarks p r=false) (ha:PE X l (tE X C a)) (hb:PE X r (tE X C b)):PE X (.Compare l [p] [r] pos) (tE X C (.cmp o a b)):=by
 have e:coOp o=p:=of_decide_eq_true h
 subst e
 have hu:=G.hu
 refine PE.weak (pe_cmpR (qiW _) ha hb hm) fun σ H Q q=>?_
 obtain ⟨w,env,S,hr,he,q⟩:=q
 simp only [evE] at q
 refine ⟨w,env,S,hr,he,(q.step (rel:=RepW X.K)).imp fun v H1 h1=>?_⟩
 obtain ⟨w1,x,S1,l1,hr1,r1,q1⟩:=h1
 refine ⟨w1,env,S1,hr1,he.mono l1,(q1.step (rel:=RepW X.K)).imp fun u H2 h2=>?_⟩
 obtain ⟨w2,y,S2,l2,hr2,r2,q2⟩:=h2
 exact qiH o (by omega) hr2 (r1.mono l2) r2 q2
theorem qh4 {w:Wd} {H:Hp} {S:qaa} {p:P} {v:V} {b:Bool} (r:RepT X.K w.F H p v) (e:qcZ p=some b):TruV X.K v H b:=by
 cases p with
 | non=>cases qct r;cases e;rfl
 | bl c=>cases T_bl r;cases e;rfl
 | int c=>cases qaz r;cases e;rfl
 | str c=>
  cases qbz r
  unfold qcZ at e
  simp only at e
  split at e
  ·rename_i hl
   cases e
   exact ⟨Nat.le_trans hl qao,rfl⟩
  ·cases e
 | lst xs=>
  obtain ⟨a,vs,rfl,ho,rs,z⟩:=r
  cases e
  refine .inl ⟨vs,SqL.of ho,?_⟩
  have:=rs.len
  cases xs <;> cases vs <;> simp_all
 | tup xs=>
  obtain ⟨a,vs,rfl,ho,rs,z⟩:=r
  cases e
  refine .inr (.inl ⟨vs,ho,?_⟩)
  have:=rs.len
  cases xs <;> cases vs <;> simp_all
 | dct _=>cases e
 | obj _ _=>cases e
 | scr _=>cases e
 | exc _ _=>cases e
 | tpp _=>cases e
 | tpk _=>cases e
theorem qkf {a:E} {σ:L2.St} {H:Hp} {Q:Bool→Hp→Prop} (h:tTm X C a σ H Q):tE X C a σ H fun x H'=>∃ k,TruV X.K x H' k∧Q k H':=by
 obtain ⟨w,env,S,hr,he,q⟩:=h
 unfold qaC at q
 refine ⟨w,env,S,hr,he,(q.step (rel:=RepW X.K)).imp fun v H1 h1=>?_⟩
 obtain ⟨w1,x,S1,l1,hr1,r1,q1⟩:=h1
 simp only at q1
 split at q1
 ·rename_i p hp
  split at q1
  ·rename_i b hb
   exact ⟨b,qh4 (S:=S1) (hr1.view hp r1) hb,q1 w1 b H1 (LeW.refl _) hr1 rfl⟩
  ·exact q1.elim
 ·exact q1.elim
theorem qap {a:E} {x:Expr} (hp:qdG x=true) (ha:PE X x (tE X C a)):PT X x (tTm X C a):=
 PT.weak (pt_truth ha (qis hp)) fun σ H Q q=>qkf q
theorem qfZ {w:Wd} {H:Hp} {S:qaa} {x:W} {v:V} {kk:qaa→R (W × qaa)} {o:Bool} {Q:VK} (hr:HRel X.K S w H) (r:RepW X.K w x v) (q:RdG X σ (RepW X.K) w (qc6 (x,S) kk o) Q) :
  ∃ b,TruV X.K v H b∧(b=o→RdG X σ (RepW X.K) w (kk S) Q)∧(b≠o→Q v H):=by
 unfold qc6 at q
 simp only at q
 split at q
 ·rename_i p hp
  split at q
  ·rename_i b hb
   refine ⟨b,qh4 (S:=S) (hr.view hp r) hb,fun e=>?_,fun e=>?_⟩
   ·rw [if_pos e] at q
    exact q
   ·rw [if_neg e] at q
    exact q w v H (LeW.refl _) hr r
  ·exact q.elim
 ·exact q.elim
theorem qnD {a b:E} {x y:Expr} {rest:List Expr} (ha:PE X x (tE X C a)) (hb:PE X (.BoolOp .And (y::rest) pos) (tE X C b)):PE X (.BoolOp .And (x::y::rest) pos) (tE X C (.and a b)):=by
 refine PE.weak (pe_andT ha hb) fun σ H Q q=>?_
 obtain ⟨w,env,S,hr,he,q⟩:=q
 simp only [evE] at q
 refine ⟨w,env,S,hr,he,(q.step (rel:=RepW X.K)).imp fun v H1 h1=>?_⟩
 obtain ⟨w1,x1,S1,l1,hr1,r1,q1⟩:=h1
 obtain ⟨bb,t,y1,y2⟩:=qfZ hr1 r1 q1
 refine ⟨bb,t,?_⟩
 split
 ·rename_i e
  exact ⟨w1,env,S1,hr1,he.mono l1,y1 e⟩
 ·rename_i e
  exact y2 e
theorem c_or {a b:E} {x y:Expr} {rest:List Expr} (ha:PE X x (tE X C a)) (hb:PE X (.BoolOp .Or (y::rest) pos) (tE X C b)):PE X (.BoolOp .Or (x::y::rest) pos) (tE X C (.or a b)):=by
 refine PE.weak (pe_orT ha hb) fun σ H Q q=>?_
 obtain ⟨w,env,S,hr,he,q⟩:=q
 simp only [evE] at q
 refine ⟨w,env,S,hr,he,(q.step (rel:=RepW X.K)).imp fun v H1 h1=>?_⟩
 obtain ⟨w1,x1,S1,l1,hr1,r1,q1⟩:=h1
 obtain ⟨bb,t,y1,y2⟩:=qfZ hr1 r1 q1
 refine ⟨bb,t,?_⟩
 split
 ·rename_i e
  exact y2 (by rw [e];decide)
 ·rename_i e
  exact ⟨w1,env,S1,hr1,he.mono l1,y1 (by cases bb <;> first | rfl | exact absurd rfl e)⟩
theorem qo0 {a:E} {x:Expr} (ha:PE X x (tE X C a)):PE X (.UnaryOp .Not x pos) (tE X C (.not a)):=by
 refine PE.weak (pe_notT ha) fun σ H Q q=>?_
 obtain ⟨w,env,S,hr,he,q⟩:=q
 simp only [evE] at q
 have h2:tTm X C a σ H fun c H1=>Q (.bl (!c)) H1:=⟨w,env,S,hr,he,(q.step (rel:=relB)).imp fun b H1 h1=>by
  obtain ⟨w1,x1,S1,l1,hr1,r1,q1⟩:=h1
  cases r1
  exact q1 w1 _ _ (LeW.refl _) hr1 (show RepP X.K w1.F (.bl (!b)) _ from P_bl)⟩
 exact qkf h2
theorem qmZ {a b:E} {x y:Expr} {rest:List Expr} (ha:PT X x (tTm X C a)) (hb:PW X (.BoolOp .And (y::rest) pos) (tTm X C b)):PW X (.BoolOp .And (x::y::rest) pos) (tTm X C (.and a b)):=by
 refine ⟨fun wh pins s σ H Q I q=>(pw_and ha hb).run wh pins s σ H Q I ?_⟩
 obtain ⟨w,env,S,hr,he,q⟩:=q
 refine ⟨w,env,S,hr,he,?_⟩
 simp only [evE] at q
 unfold qaC at q ⊢
 cases hE:evE C a env S with
 | no=>rw [hE] at q;exact q.elim
 | ex _ _ _=>rw [hE] at q;exact q
 | ok q0=>
  rw [hE] at q
  obtain ⟨x0,S0⟩:=q0
  have q':RdG X σ relB w ((qc6 (x0,S0) (fun S=>evE C b env S) true).bind fun q=>match q.1.view q.2 with
   | some p=>match qcZ p with
    | some b=>.ok (b,q.2)
    | none=>.no
   | none=>.no) Q:=q
  unfold qc6 at q'
  simp only at q'
  show RdG X σ relB w (match W.view S0 x0 with
   | some p=>match qcZ p with
    | some b=>.ok (b,S0)
    | none=>.no
   | none=>.no) _
  cases hv:W.view S0 x0 with
  | none=>rw [hv] at q';exact q'.elim
  | some p=>
   rw [hv] at q'
   simp only at q' ⊢
   cases ht:qcZ p with
   | none=>rw [ht] at q';exact q'.elim
   | some bb=>
    rw [ht] at q'
    simp only at q' ⊢
    intro w1 c H1 l1 hr1 r1
    have r1':bb=c:=r1
    subst r1'
    cases bb with
    | true=>
     rw [if_pos rfl] at q'
     rw [if_pos rfl]
     exact ⟨w1,env,S0,hr1,he.mono l1,q'.up l1⟩
    | false=>
     rw [if_neg (by decide)] at q'
     rw [if_neg (by decide)]
     have q2:RdG X σ relB w (match W.view S0 x0 with
      | some p=>match qcZ p with
       | some b=>.ok (b,S0)
       | none=>.no
      | none=>.no) Q:=q'
     rw [hv] at q2
     simp only at q2
     rw [ht] at q2
     exact q2 w1 false H1 l1 hr1 rfl
theorem t_or {a b:E} {x y:Expr} {rest:List Expr} (ha:PT X x (tTm X C a)) (hb:PW X (.BoolOp .Or (y::rest) pos) (tTm X C b)):PW X (.BoolOp .Or (x::y::rest) pos) (tTm X C (.or a b)):=by
 refine ⟨fun wh pins s σ H Q I q=>(pw_or ha hb).run wh pins s σ H Q I ?_⟩
 obtain ⟨w,env,S,hr,he,q⟩:=q
 refine ⟨w,env,S,hr,he,?_⟩
 simp only [evE] at q
 unfold qaC at q ⊢
 cases hE:evE C a env S with
 | no=>rw [hE] at q;exact q.elim
 | ex _ _ _=>rw [hE] at q;exact q
 | ok q0=>
  rw [hE] at q
  obtain ⟨x0,S0⟩:=q0
  have q':RdG X σ relB w ((qc6 (x0,S0) (fun S=>evE C b env S) false).bind fun q=>match q.1.view q.2 with
   | some p=>match qcZ p with
    | some b=>.ok (b,q.2)
    | none=>.no
   | none=>.no) Q:=q
  unfold qc6 at q'
  simp only at q'
  show RdG X σ relB w (match W.view S0 x0 with
   | some p=>match qcZ p with
    | some b=>.ok (b,S0)
    | none=>.no
   | none=>.no) _
  cases hv:W.view S0 x0 with
  | none=>rw [hv] at q';exact q'.elim
  | some p=>
   rw [hv] at q'
   simp only at q' ⊢
   cases ht:qcZ p with
   | none=>rw [ht] at q';exact q'.elim
   | some bb=>
    rw [ht] at q'
    simp only at q' ⊢
    intro w1 c H1 l1 hr1 r1
    have r1':bb=c:=r1
    subst r1'
    cases bb with
    | false=>
     rw [if_pos rfl] at q'
     rw [if_neg (by decide)]
     exact ⟨w1,env,S0,hr1,he.mono l1,q'.up l1⟩
    | true=>
     rw [if_neg (by decide)] at q'
     rw [if_pos rfl]
     have q2:RdG X σ relB w (match W.view S0 x0 with
      | some p=>match qcZ p with
       | some b=>.ok (b,S0)
       | none=>.no
      | none=>.no) Q:=q'
     rw [hv] at q2
     simp only at q2
     rw [ht] at q2
     exact q2 w1 true H1 l1 hr1 rfl
theorem qqJ {a:E} {x:Expr} (ha:PT X x (tTm X C a)):PT X (.UnaryOp .Not x pos) (tTm X C (.not a)):=by
 refine PT.weak (pt_not ha) fun σ H Q q=>?_
 obtain ⟨w,env,S,hr,he,q⟩:=q
 refine ⟨w,env,S,hr,he,?_⟩
 simp only [evE] at q
 cases hE:qaC (evE C a env S) with
 | no=>rw [hE] at q;exact q.elim
 | ex _ _ _=>rw [hE] at q;exact q
 | ok q0=>
  rw [hE] at q
  intro w1 c H1 l1 hr1 r1
  have r1':q0.1=c:=r1
  subst r1'
  exact q w1 (!q0.1) H1 l1 hr1 rfl
theorem qps {t:TE} {a:E} {x:Expr} (hp:PT X x (tB t)) (k:∀ σ H Q,tE X C a σ H Q→t σ H Q) (hb:∀ env S q,evE C a env S=.ok q→∃ b,q.1=.v (.bl b)):PT X x (tTm X C a):=by
 refine PT.weak hp fun σ H Q q=>k σ H _ ?_
 obtain ⟨w,env,S,hr,he,q⟩:=q
 refine ⟨w,env,S,hr,he,?_⟩
 unfold qaC at q
 cases hE:evE C a env S with
 | no=>rw [hE] at q;exact q.elim
 | ex _ _ _=>rw [hE] at q;exact q
 | ok q0=>
  rw [hE] at q
  obtain ⟨b,e⟩:=hb env S q0 hE
  obtain ⟨x0,S0⟩:=q0
  cases e
  intro w1 v H1 l1 hr1 r1
  have r1':RepP X.K w1.F (.bl b) v:=r1
  unfold RepP at r1'
  exact ⟨b,r1',q w1 b H1 l1 hr1 rfl⟩
end
end LS
namespace LS
open PySem PySem.Spec PyProof.Rows L2
abbrev hasT (xs:List Str) (k:Str):Bool:=(qjF xs).any (· == k)
section
variable {prog:Program} {w:World} {A:Around} {R:Result→Shared→Prop} {I:Addr} {fp wr:List Addr} {G:Array GenState→Array GenState→Prop} {n:Nat} {P:Nat→Value→Prop} {St:Nat→Shared→Prop}
end
section
variable {prog:Program} {w:World} {A:Around} {E:Value→Shared→Prop} {s:Shared}
end
end LS
namespace LS
open PySem PySem.Spec PyProof.Rows L2
section
variable {prog:Program} {w:World} {A:Around} {R:Result→Shared→Prop} {I:Addr} {fp wr:List Addr} {G:Array GenState→Array GenState→Prop} {n:Nat} {P:Nat→Value→Prop} {St:Nat→Shared→Prop}
end
section
variable {prog:Program} {w:World} {A:Around} {E:Value→Shared→Prop} {s:Shared}
end
section
variable {prog:Program} {w:World} {A:Around} {E:Value→Shared→Prop} {s:Shared}
end
end LS
namespace LS
open PySem PySem.Spec PyProof.Rows L2
theorem qh1 {K:PySem.W.Frag} {F:Hp}:∀ {k:List Key},qab K F (k.map kP) (k.map kV)
 | []=>by simp [qab]
 | x::k=>by
  rw [List.map_cons,List.map_cons]
  unfold qab
  exact ⟨_,_,rfl,by cases x <;> rfl,qh1⟩
mutual
theorem RepP.norm {K:PySem.W.Frag} {F:Hp}:∀ (p:P) {v:V},RepP K F p v→RepP K F p.norm v
 | .tpp xs,v,q=>by
  unfold RepP at q
  unfold P.norm RepP
  obtain ⟨a,vs,ob,e,f,d,r,z⟩:=q
  exact ⟨a,vs,e,.inl (.inr ⟨ob,f⟩),qab.norm xs r,z⟩
 | .tpk ks,v,q=>by
  unfold RepP at q
  unfold P.norm RepP
  obtain ⟨a,e,f,z⟩:=q
  exact ⟨a,ks.map kV,e,.inl (.inl f),qh1,by rw [List.length_map];exact Nat.le_trans z (Nat.le_trans (by decide:100≤lim) qao)⟩
 | .tup xs,v,q=>by
  unfold RepP at q
  unfold P.norm RepP
  obtain ⟨a,vs,e,f,r,z⟩:=q
  exact ⟨a,vs,e,f,qab.norm xs r,z⟩
 | .lst xs,v,q=>by
  unfold RepP at q
  unfold P.norm RepP
  obtain ⟨a,vs,e,f,r,z⟩:=q
  exact ⟨a,vs,e,f,qab.norm xs r,z⟩
 | .dct kvs,v,q=>by
  unfold RepP at q
  unfold P.norm RepP
  obtain ⟨a,kvs',o,e,f,c,r,z⟩:=q
  exact ⟨a,kvs',o,e,f,c,qac.norm kvs r,z⟩
 | .obj c fs,v,q=>by unfold P.norm;exact q
 | .exc c fs,v,q=>by unfold P.norm;exact q
 | .scr ns,v,q=>by unfold P.norm;exact q
 | .str s,v,q=>by unfold P.norm;exact q
 | .int i,v,q=>by unfold P.norm;exact q
 | .bl b,v,q=>by unfold P.norm;exact q
 | .non,v,q=>by unfold P.norm;exact q
theorem qab.norm {K:PySem.W.Frag} {F:Hp}:∀ (xs:List P) {vs:List V},qab K F xs vs→qab K F (qgA xs) vs
 | [],vs,q=>by unfold qgA;exact q
 | x::xs,vs,q=>by
  unfold qab at q
  unfold qgA qab
  obtain ⟨v,r,e,h1,h2⟩:=q
  exact ⟨v,r,e,RepP.norm x h1,qab.norm xs h2⟩
theorem qac.norm {K:PySem.W.Frag} {F:Hp}:∀ (xs:List (Key × P)) {vs:List (Key × V)},qac K F xs vs→qac K F (qig xs) vs
 | [],vs,q=>by unfold qig;exact q
 | (k,x)::xs,vs,q=>by
  unfold qac at q
  unfold qig qac
  obtain ⟨v,r,e,h1,h2⟩:=q
  exact ⟨v,r,e,RepP.norm x h1,qac.norm xs h2⟩
end
theorem RepW.norm {K:PySem.W.Frag} {w:Wd}:∀ {x:W} {v:V},RepW K w x v→RepW K w x.norm v
 | .v p,v,q=>RepP.norm p q
 | .c n,v,q=>q
end LS
namespace PySem.W
open PySem
theorem kdl_collect {prog:Program} {w:World} {A:Around} {E:Value→Shared→Prop} {s:Shared} {T:String} {r d:Addr} {n:Nat} {P:Nat→Value→Prop} {OK:Heap→Prop} {R:List Value→Shared→Prop} (K:KdlSrc prog w T r d n P OK) (hh:A.handled=none) (hok:OK s.heap) (hn:n≤sizeLine)
  (h:∀ (h':Heap) (tk:Nat) (acc:Array Value),(∀ b o,s.heap.get? b=some o→h'.get? b=some o)→ItemsOf P acc n→R acc.toList { s with heap:=h',toks:=tk }) :
  wpAny (model prog w) A (collect (.ref r)) R E s:=by
 obtain ⟨hr,hd⟩:=K.there _ hok
 unfold collect
 refine wpAny_bind (wpAny_runValue (codeAny_builtin PyProof.Rows.entry_proto_collect' ?_))
 rw [Around.under_plainId PySem.F.plain_proto_collect _]
 show wpAny _ A.in1 (newList [] >>= fun l=>again (.builtin "list.__iadd__" ⟨[l,.ref r],[]⟩)) _ _ s
 refine wpAny_bind (wpAny_newObj_type ?_)
 refine wpAny_pure ⟨plainId_quiet PySem.F.plain_list_iadd _,codeAny_builtin PyProof.Rows.entry_list_iadd' ?_⟩
 rw [Around.under_plainId PySem.F.plain_list_iadd _]
 have hS₁:(s.heap.push { cls:=.type "list",data:=.seq ([]:List Value).toArray }).get? s.heap.objs.size=some { cls:=.type "list",data:=.seq #[] }:=Heap.get?_push_size _ rfl
 show wpAny _ A.in1 (Builtin.List.listExtendWith (.ref s.heap.objs.size) (.ref r) (.ref s.heap.objs.size)) _ _ _
 have key:=kdl_extend (s:={ s with heap:=s.heap.push { cls:=.type "list",data:=.seq ([]:List Value).toArray } }) (A:=A)
  (R:=fun (q:Result) (s':Shared)=>∃ (h':Heap) (tk:Nat) (acc':Array Value) (c':Nat),q=.ok (.ret (.ref s.heap.objs.size))∧s'={ s with heap:=h',toks:=tk }∧
   (∀ b o,s.heap.get? b=some o→h'.get? b=some o)∧h'.get? s.heap.objs.size=some { cls:=.type "list",dict:=none,data:=.seq acc' c',slots:=#[] }∧ItemsOf P acc' n)
  K hh (K.keep _ _ hok fun b _ o e=>Heap.get?_push_of_some _ e) s.heap.objs.size (Nat.ne_of_gt hr) (Nat.ne_of_gt hd) (.ref s.heap.objs.size) 0 hS₁
  (fun h' tk acc' c' hk hS' hacc=>⟨h',tk,acc',c',rfl,rfl,fun b o e=>hk b o (Nat.ne_of_lt (Heap.lt_size e)) (Heap.get?_push_of_some _ e),hS',hacc⟩) hn
 refine wpAny_mono key (fun fin s' x=>?_) fun e s' x=>?_
 ·cases fin with
  | done f=>
   obtain ⟨h',tk,acc',c',e,rfl,hk,hS',hacc⟩:=x
   cases e
   show wpAny _ A (load s.heap.objs.size >>= _) _ _ _
   refine wpAny_bind (wpAny_load hS' ?_)
   refine wpAny_pure ?_
   exact h h' tk acc' hk hacc
  | again c₁=>
   refine ⟨x.1,codeAny_mono x.2 fun q s₂ y=>?_⟩
   obtain ⟨h',tk,acc',c',rfl,rfl,hk,hS',hacc⟩:=y
   show wpAny _ A (load s.heap.objs.size >>= _) _ _ _
   refine wpAny_bind (wpAny_load hS' ?_)
   refine wpAny_pure ?_
   exact h h' tk acc' hk hacc
 ·obtain ⟨_,_,_,_,e',_⟩:=x
  cases e'
end PySem.W
namespace LS
open PySem PySem.Spec PyProof.Rows L2
section
variable {X:Cx} {C:Cn} {ct:Ct} {k:Nat} {pos:Pos}
theorem qkB {K:PySem.W.Frag} {S S':qaa} {w:Wd} {H:Hp} {x:W} {v:V} {p:P} (hr:HRel K S w H) (r:RepW K w x v) (e:qc1 S x=.ok (p,S')):∃ w',LeW w w'∧HRel K S' w' H∧RepP K w'.F p v:=by
 cases x with
 | v q=>
  cases e
  exact ⟨w,LeW.refl _,hr,r⟩
 | c n=>
  obtain ⟨a,ha,rfl⟩:=r
  unfold qc1 at e
  simp only at e
  split at e
  ·rename_i c hc
   split at e
   ·rename_i p' hp
    cases e
    obtain ⟨w',h1,h2,h3,h4⟩:=hr.frozen hc hp ha
    exact ⟨w',h2,h1,h4⟩
   ·cases e
  ·cases e
theorem qcY {K:PySem.W.Frag}:∀ {xs:List W} {vs:List V} {ps:List P} {S S':qaa} {w:Wd} {H:Hp},HRel K S w H→qaf K w xs vs→qax xs S=.ok (ps,S')→∃ w',LeW w w'∧HRel K S' w' H∧qab K w'.F ps vs
 | [],_,ps,S,S',w,H,hr,.nil,e=>by
  cases e
  refine ⟨w,LeW.refl _,hr,?_⟩
  unfold qab
  rfl
 | x::xs,_,ps,S,S',w,H,hr,.cons r t,e=>by
  have e':((qc1 S x).bind fun q=>(qax xs q.2).bind fun q2=>.ok (q.1::q2.1,q2.2))=.ok (ps,S'):=e
  cases h1:qc1 S x with
  | no=>rw [h1] at e';cases e'
  | ex _ _ _=>rw [h1] at e';cases e'
  | ok q1=>
   rw [h1] at e'
   obtain ⟨p1,S1⟩:=q1
   have e2:((qax xs S1).bind fun q2=>.ok (p1::q2.1,q2.2))=R.ok (ps,S'):=e'
   obtain ⟨w1,l1,hr1,r1⟩:=qkB hr r h1
   cases h2:qax xs S1 with
   | no=>rw [h2] at e2;cases e2
   | ex _ _ _=>rw [h2] at e2;cases e2
   | ok q2=>
    rw [h2] at e2
    obtain ⟨p2,S2⟩:=q2
    cases e2
    obtain ⟨w2,l2,hr2,r2⟩:=qcY hr1 (qaf.mono l1 t) h2
    refine ⟨w2,l1.trans l2,hr2,?_⟩
    unfold qab
    exact ⟨_,_,rfl,RepP.mono l2.2 _ r1,r2⟩
theorem qaj {α β:Type} {m:R α} {f:α→R β} {b:β} (h:m.bind f=.ok b):∃ a,m=.ok a∧f a=.ok b:=by
 cases m with
 | ok a=>exact ⟨a,rfl,h⟩
 | ex _ _ _=>cases h
 | no=>cases h
def R.pur {α:Type} (m:R α):Prop:=∀ c fs S,m≠.ex c fs S
theorem qaB {α:Type} {a:α}:(R.ok a).pur:=fun _ _ _ h=>nomatch h
theorem qaF {α:Type}:(R.no:R α).pur:=fun _ _ _ h=>nomatch h
theorem qah {α β:Type} {m:R α} {f:α→R β} (h:m.pur) (k:∀ a,(f a).pur):(m.bind f).pur:=by
 cases m with
 | ok a=>exact k a
 | ex c fs S=>exact absurd rfl (h c fs S)
 | no=>exact qaF
theorem qbk {α:Type} {m:R α}:m.noEx.pur:=by
 cases m with
 | ok a=>exact qaB
 | ex _ _ _=>exact qaF
 | no=>exact qaF
theorem qhH {S:qaa} {x:W}:(qc1 S x).pur:=by
 unfold qc1
 repeat (first | exact qaB | exact qaF | split)
theorem qbE:∀ {xs:List W} {S:qaa},(qax xs S).pur
 | [],S=>qaB
 | x::xs,S=>qah qhH fun a=>qah qbE fun b=>qaB
theorem qdE {kp:Bool} {n:Nat} {c:Cell} {S:qaa}:(write kp n c S).pur:=by
 unfold write
 split
 ·exact qaB
 ·exact qaF
theorem qiZ {c:Cell} {S:qaa}:(qaL c S).pur:=by
 unfold qaL
 split
 ·exact qaB
 ·exact qaF
theorem qcV {kp cell:Bool} {D:Nat} {S:qaa}:(finC kp cell D S).pur:=by
 unfold finC
 repeat (first | exact qaB | exact qaF | split)
theorem qfQ {kp:Bool} {D:Nat} {x:W} {S:qaa}:(qdk kp D x S).pur:=by
 unfold qdk
 repeat (first | exact qdE | exact qaF | split)
theorem qhg {kp:Bool} {D:Nat} {k:Key} {x:W} {S:qaa}:(putC kp D k x S).pur:=by
 unfold putC
 repeat (first | exact qdE | exact qaF | split)
theorem qff {t:W→qaa→R qaa} (h:∀ x S,(t x S).pur):∀ {xs:List W} {S:qaa},(qee t xs S).pur
 | [],S=>qaB
 | x::xs,S=>qah (h x S) fun a=>qff h
theorem qfI {t:W→qaa→R qaa} (h:∀ x S,(t x S).pur) {n:Nat}:∀ {fu i:Nat} {S:qaa},(qhL t n fu i S).pur
 | 0,i,S=>qaF
 | fu + 1,i,S=>by
  unfold qhL
  split
  ·split
   ·exact qah (h _ _) fun a=>qfI h
   ·exact qaB
  ·exact qaF
theorem qi7 {n:Nat} {S:qaa}:(unlC n S).pur:=by
 unfold unlC
 repeat (first | exact qaB | exact qaF | split)
theorem qjU {n:Nat} {S:qaa}:(lckC n S).pur:=by
 unfold lckC
 repeat (first | exact qaB | exact qaF | split)
theorem qfm {x:Itm} {S:qaa}:(qgG x S).pur:=by
 unfold qgG
 repeat (first | exact qaB | exact qiZ | split)
theorem qfy {t:W→qaa→R qaa} (h:∀ x S,(t x S).pur):∀ {xs:List Itm} {S:qaa},(qd6 t xs S).pur
 | [],S=>qaB
 | x::xs,S=>qah qfm fun q=>qah (h _ _) fun a=>qfy h
theorem qcK {t:W→qaa→R qaa} (h:∀ x S,(t x S).pur) {fu:Nat} {it:Iter} {S:qaa}:(qhA fu t it S).pur:=by
 unfold qhA
 split
 ·exact qff h
 ·exact qfI h
 ·exact qah qjU fun _=>qah (qfy h) fun _=>qi7
theorem RdG.pure_ok {σ:L2.St} {α β:Type} {rel:Wd→α→β→Prop} {w:Wd} {m:R (α × qaa)} {Q:β→Hp→Prop} (h:RdG X σ rel w m Q) (hp:m.pur):∃ q,m=.ok q:=by
 cases m with
 | ok q=>exact ⟨q,rfl⟩
 | ex c fs S=>exact absurd rfl (hp c fs S)
 | no=>exact h.elim
theorem qoC {l:E} {es:List Expr} {j:Nat} (h:PA X es (tAm X C l)):PE X (.Tuple es j pos) (tE X C (.tup l)):=by
 refine PE.weak (pe_tup h) fun σ H Q q=>?_
 obtain ⟨w,env,S,hr,he,q⟩:=q
 simp only [evE] at q
 refine ⟨w,env,S,hr,he,(q.step (rel:=qaf X.K)).imp fun vs H1 h1=>?_⟩
 obtain ⟨w1,ws,S1,l1,hr1,r1,q1⟩:=h1
 simp only at q1
 split at q1
 ·rename_i hl
  have hz:vs.length≤sizeLine:=by
   rw [← Paired.length r1]
   exact Nat.le_trans hl qao
  refine ⟨hz,fun p hp=>?_⟩
  obtain ⟨q0,e0⟩:=RdG.pure_ok q1 (qah qbE fun _=>qaB)
  obtain ⟨q2,e2,e3⟩:=qaj e0
  obtain ⟨ps,S2⟩:=q2
  rw [e0] at q1
  cases e3
  obtain ⟨w2,l2,hr2,r2⟩:=qcY hr1 r1 e2
  obtain ⟨w3,l3,hr3,r3⟩:=qh7 hr2 hp r2 hz
  exact q1 w3 _ _ (l2.trans l3) hr3 r3
 ·exact q1.elim
theorem qpp {c:Bool} {l:E} {es:List Expr} (h:PA X es (tAm X C l)):PE X (.List es pos) (tE X C (.lst c l)):=by
 refine PE.weak (pe_lst h) fun σ H Q q=>?_
 obtain ⟨w,env,S,hr,he,q⟩:=q
 cases c with
 | false=>
  simp only [evE] at q
  refine ⟨w,env,S,hr,he,(q.step (rel:=qaf X.K)).imp fun vs H1 h1=>?_⟩
  obtain ⟨w1,ws,S1,l1,hr1,r1,q1⟩:=h1
  simp only at q1
  split at q1
  ·rename_i hl
   have hz:vs.length≤sizeLine:=by
    rw [← Paired.length r1]
    exact Nat.le_trans hl qao
   refine ⟨hz,fun p hp=>?_⟩
   obtain ⟨q0,e0⟩:=RdG.pure_ok q1 (qah qbE fun _=>qaB)
   obtain ⟨q2,e2,e3⟩:=qaj e0
   obtain ⟨ps,S2⟩:=q2
   rw [e0] at q1
   cases e3
   obtain ⟨w2,l2,hr2,r2⟩:=qcY hr1 r1 e2
   obtain ⟨w3,l3,hr3,r3⟩:=qbP hr2 hp r2 hz
   exact q1 w3 _ _ (l2.trans l3) hr3 r3
  ·exact q1.elim
 | true=>
  simp only [evE] at q
  refine ⟨w,env,S,hr,he,(q.step (rel:=qaf X.K)).imp fun vs H1 h1=>?_⟩
  obtain ⟨w1,ws,S1,l1,hr1,r1,q1⟩:=h1
  simp only at q1
  split at q1
  ·rename_i hl
   have hz:vs.length≤sizeLine:=by
    rw [← Paired.length r1]
    exact Nat.le_trans hl qao
   refine ⟨hz,fun p hp=>?_⟩
   unfold qaL at q1
   split at q1
   ·rename_i hb
    have lw:LeW w1 ⟨w1.ρ++[p],w1.F,w1.b⟩:=⟨List.prefix_append _ _,LeL.refl _,rfl⟩
    obtain ⟨hr2,_⟩:=hr1.newC (o:=.lst vs) hp hb ⟨vs,upd_same,r1.mono lw,hz⟩
    exact q1 _ _ _ lw hr2 ⟨p,by rw [← hr1.len];simp,rfl⟩
   ·exact q1.elim
  ·exact q1.elim
theorem qp1:PA X [] (tAm X C .nil):=PA.weak pa_nil fun σ H Q q=>by
 obtain ⟨w,env,S,hr,he,q⟩:=q
 simp only [evL] at q
 exact q w [] H (LeW.refl _) hr .nil
theorem qm3 {a l:E} {e:Expr} {es:List Expr} (hs:qae e=true) (ha:PE X e (tE X C a)) (hl:PA X es (tAm X C l)):PA X (e::es) (tAm X C (.cons a l)):=by
 refine PA.weak (pa_cons ha hl (qai hs)) fun σ H Q q=>?_
 obtain ⟨w,env,S,hr,he,q⟩:=q
 simp only [evL] at q
 refine ⟨w,env,S,hr,he,(q.step (rel:=RepW X.K)).imp fun v H1 h1=>?_⟩
 obtain ⟨w1,x1,S1,l1,hr1,r1,q1⟩:=h1
 refine ⟨w1,env,S1,hr1,he.mono l1,(q1.step (rel:=qaf X.K)).imp fun vs H2 h2=>?_⟩
 obtain ⟨w2,x2,S2,l2,hr2,r2,q2⟩:=h2
 exact q2 w2 _ _ (LeW.refl _) hr2 (.cons (r1.mono l2) r2)
theorem qbD {K:PySem.W.Frag} {w:Wd}:∀ {ps:List P} {vs:List V},qab K w.F ps vs→qaf K w (ps.map .v) vs
 | [],vs,r=>by
  unfold qab at r
  subst r
  exact .nil
 | p::ps,vs,r=>by
  unfold qab at r
  obtain ⟨v,t,rfl,h1,h2⟩:=r
  exact .cons h1 (qbD h2)
theorem qbr {K:PySem.W.Frag} {w:Wd}:∀ {xs ys:List W} {vs us:List V},qaf K w xs vs→qaf K w ys us→qaf K w (xs++ys) (vs++us)
 | _,_,_,_,.nil,s=>s
 | _,_,_,_,.cons r t,s=>.cons r (qbr t s)
theorem qi3 {pins:List (Addr × Obj)} {s:Shared} {σ:L2.St} {H:Hp} {a:Addr} {kvs:List (Key × V)} {Q:List Value→Shared→Prop} {E:Value→Shared→Prop} (hc:X.calm=true) (I:Inv X pins σ H s) (hd:Rd H a (.dK kvs))
  (q:∀ us s',Inv X pins σ H s'→Vals (kvs.map fun z=>kV z.1) us→Q us s'):PySem.W.StarOf (model X.prog X.w) X.A E (.ref a) Q s:=by
 obtain ⟨z,lo,vs,rel,dd⟩:=dk_rd I.hok hd
 obtain ⟨ep,hat⟩:=dd.dictAt
 have ek:(kvs.map fun kv=>kV kv.1)=vs.map fun p=>kV p.1:=by
  have e:=congrArg (List.map kV) rel.keys
  rw [List.map_map,List.map_map] at e
  exact e
 have fin:wpAny (model X.prog X.w) X.A (collect (.ref a)) Q E s:=by
  refine PySem.W.kdl_collect (PySem.W.kdl_dict (knd:=mixKind X.prog X.w) (kvs:=vs) (ep:=ep) lo) (I.ok.hd hc) hat (by rw [← rel.length];exact z) fun h' tk acc hk hacc=>?_
  refine q _ _ (I.kept hk) ?_
  rw [ek]
  exact keys_at (by rw [Array.length_toList];exact hacc.1) fun j v e=>hacc.2 j v (by rw [← Array.getElem?_toList];exact e)
 unfold PySem.W.StarOf notIterableAtAll
 exact wpAny_bind (wpAny_specialOf dd.typeIs PySem.F.slot_dict_iter.lookup (wpAny_pure ⟨rfl,fin⟩))
def qny (X:Cx) (te:TE) (t:TA):TA:=fun σ H Q=>te σ H fun x H1=>∃ p xs,x=V.ref p∧((SqT X.K H1 p xs∨SqL X.K H1 p xs)∨∃ kvs,Rd H1 p (.dK kvs)∧xs=kvs.map fun z=>kV z.1)∧t σ H1 fun ys H2=>Q (xs++ys) H2
theorem qgI {e:Expr} {p:Pos} {es:List Expr} {env:PySem.Env}:starEach (.Starred e p::es) env=(true,eval e env)::starEach es env:=rfl
theorem qjj (hc:X.calm=true) {e:Expr} {p:Pos} {es:List Expr} {te:TE} {t:TA} (he:PE X e te) (hr:PA X es t):PA X (.Starred e p::es) (qny X te t):=by
 refine ⟨fun pos pins s σ H Q I h=>?_⟩
 refine PySem.W.items_star (thn (he.run pins s σ H _ I h) fun v s1 ⟨y,H1,I1,ry,a,xs,ey,hx,q⟩=>?_) qgI
 subst ey
 obtain rfl:v=Value.ref a:=ry
 have fin:∀ us s2,Inv X pins σ H1 s2→Vals xs us→wpAny (model X.prog X.w) X.A (spliced (backTo pos (starEach es X.env))) (fun vs s₃=>AP X pins σ Q (us++vs) s₃) X.xe s2:=fun us s2 I2 rv=>
  thn (hr.run pos pins s2 σ H1 _ I2 q) fun ws s3 ⟨vs,H3,I3,r3,q3⟩=>⟨xs++vs,H3,I3,rv.append r3,q3⟩
 rcases hx with hx | ⟨kvs,hx,rfl⟩
 ·exact StX.star_any I1 hx fun us s2 I2 rv=>fin us s2 I2 rv
 ·exact qi3 hc I1 hx fun us s2 I2 rv=>fin us s2 I2 rv
theorem qhl {K:PySem.W.Frag} {w:Wd}:∀ {ps:List (Key × P)} {vs:List (Key × V)},qac K w.F ps vs→qaf K w (ps.map fun z=>.v (kP z.1)) (vs.map fun z=>kV z.1)
 | [],vs,r=>by
  unfold qac at r
  subst r
  exact .nil
 | (key,p)::ps,vs,r=>by
  unfold qac at r
  obtain ⟨v,t,rfl,h1,h2⟩:=r
  refine .cons ?_ (qhl h2)
  cases key with
  | inl i=>exact (show RepP K w.F (.int i) (.int i) from qbx)
  | inr i=>exact (show RepP K w.F (.str i) (.str i) from qcb)
theorem qmC (hc:X.calm=true) {a l:E} {e:Expr} {p:Pos} {es:List Expr} (ha:PE X e (tE X C a)) (hl:PA X es (tAm X C l)):PA X (.Starred e p::es) (tAm X C (.star a l)):=by
 refine PA.weak (qjj hc ha hl) fun σ H Q q=>?_
 obtain ⟨w,env,S,hr,he,q⟩:=q
 simp only [evL] at q
 refine ⟨w,env,S,hr,he,(q.step (rel:=RepW X.K)).imp fun v H1 h1=>?_⟩
 obtain ⟨w1,x1,S1,l1,hr1,r1,q1⟩:=h1
 have tail:∀ {xs:List W} {vs:List V},qaf X.K w1 xs vs→RdG X σ (qaf X.K) w1 ((evL C l env S1).bind fun q2=>.ok (xs++q2.1,q2.2)) Q→tAm X C l σ H1 fun ys H2=>Q (vs++ys) H2:=fun {xs vs} rx q2=>by
  refine ⟨w1,env,S1,hr1,he.mono l1,(q2.step (rel:=qaf X.K)).imp fun us H2 h2=>?_⟩
  obtain ⟨w2,x2,S2,l2,hr2,r2,q3⟩:=h2
  exact q3 w2 _ _ (LeW.refl _) hr2 (qbr (qaf.mono l2 rx) r2)
 simp only at q1
 split at q1
 ·rename_i xs hx
  obtain ⟨ad,vs,rfl,ho,rs,z⟩:=hr1.view hx r1
  exact ⟨ad,vs,rfl,.inl (.inr (SqL.of ho)),tail (qbD rs) q1⟩
 ·rename_i xs hx
  obtain ⟨ad,vs,rfl,ho,rs,z⟩:=hr1.view hx r1
  exact ⟨ad,vs,rfl,.inl (.inl ho),tail (qbD rs) q1⟩
 ·rename_i kvs hx
  obtain ⟨ad,vs,o,rfl,ho,c,rs,z⟩:=hr1.view hx r1
  exact ⟨ad,_,rfl,.inr ⟨vs,qa2 ho c,rfl⟩,tail (qhl rs) q1⟩
 ·exact q1.elim
theorem qhQ {e:Expr} (h:qcq e=true):PlainIx e:=fun o i=>by
 cases e <;> first
  | rfl
  | cases h
theorem qoQ (G:Gd C ct k X) {a i:E} {x y:Expr} (hs:qcq y=true) (ha:PE X x (tE X C a)) (hb:PE X y (tE X C i)):PE X (.Subscript x y pos) (tE X C (.sub a i)):=by
 have hu:=G.hu
 refine PE.weak (pe_ix qnv ha hb (qhQ hs)) fun σ H Q q=>?_
 obtain ⟨w,env,S,hr,he,q⟩:=q
 simp only [evE] at q
 refine ⟨w,env,S,hr,he,(q.step (rel:=RepW X.K)).imp fun v H1 h1=>?_⟩
 obtain ⟨w1,x1,S1,l1,hr1,r1,q1⟩:=h1
 refine ⟨w1,env,S1,hr1,he.mono l1,(q1.step (rel:=RepW X.K)).imp fun u H2 h2=>?_⟩
 obtain ⟨w2,x2,S2,l2,hr2,r2,q2⟩:=h2
 exact ql1 (by omega) hr2 (r1.mono l2) r2 q2
def tOm (X:Cx) (C:Cn) (e:E):TO:=fun σ H Q=>∃ w env S,HRel X.K S w H∧EnvRel X.K C.keep w env σ∧RdG X σ (fun _ a b=>a=b) w (evO C e env S) Q
theorem qmQ:PO X none (tOm X C .nil):=⟨fun pins s σ H Q I q=>po_none.run pins s σ H Q I (by
 obtain ⟨w,env,S,hr,he,q⟩:=q
 simp only [evO] at q
 exact q w none H (LeW.refl _) hr rfl)⟩
theorem qmo {a l:E} {e:Expr} (ha:PE X e (tE X C a)):PO X (some e) (tOm X C (.cons a l)):=⟨fun pins s σ H Q I q=>(po_some ha).run pins s σ H Q I (by
 obtain ⟨w,env,S,hr,he,q⟩:=q
 simp only [evO] at q
 refine ⟨w,env,S,hr,he,(q.step (rel:=RepW X.K)).imp fun v H1 h1=>?_⟩
 obtain ⟨w1,x1,S1,l1,hr1,r1,q1⟩:=h1
 simp only at q1
 split at q1
 ·rename_i i
  have r1':RepP X.K w1.F (.int i) v:=r1
  unfold RepP at r1'
  exact ⟨i,r1',q1 w1 (some i) H1 (LeW.refl _) hr1 rfl⟩
 ·exact q1.elim)⟩
theorem qpV {a lo hi:E} {x:Expr} {l u:Option Expr} {p2:Pos} (ha:PE X x (tE X C a)) (hl:PO X l (tOm X C lo)) (hh:PO X u (tOm X C hi)):PE X (.Subscript x (.Slice l u none p2) pos) (tE X C (.slc a lo hi)):=by
 refine PE.weak (pe_slice qnO ha hl hh) fun σ H Q q=>?_
 obtain ⟨w,env,S,hr,he,q⟩:=q
 simp only [evE] at q
 refine ⟨w,env,S,hr,he,(q.step (rel:=RepW X.K)).imp fun v H1 h1=>?_⟩
 obtain ⟨w1,x1,S1,l1,hr1,r1,q1⟩:=h1
 refine ⟨w1,env,S1,hr1,he.mono l1,(q1.step (rel:=fun _ a b=>a=b)).imp fun o1 H2 h2=>?_⟩
 obtain ⟨w2,x2,S2,l2,hr2,r2,q2⟩:=h2
 subst r2
 refine ⟨w2,env,S2,hr2,he.mono (l1.trans l2),(q2.step (rel:=fun _ a b=>a=b)).imp fun o2 H3 h3=>?_⟩
 obtain ⟨w3,x3,S3,l3,hr3,r3,q3⟩:=h3
 subst r3
 exact ql6 hr3 (r1.mono (l2.trans l3)) q3
theorem qmA (G:Gd C ct k X) (hc:ct.calm=true) {f:Str} {l:E} {x:Str} {es:List Expr} {p:Pos} (hf:gB ct f x=true) (hs:es.all qae=true) (ha:PA X es (tAm X C l)) (hl:es=[]→l=.nil) {e:E} (hev:∀ env S,evE C e env S=if C.g.fn f=true then (evL C l env S).bind fun q=>C.call f q.1 q.2 else .no) :
  PE X (.Call (.Name x p) es [] pos) (tE X C e):=by
 obtain ⟨rfl,hg,ho⟩:=qcH G hf
 by_cases hfn:C.g.fn f=true
 ·obtain ⟨fa,m1,kp,F⟩:=G.def_ f hfn
  have cr:qfB X (.ref fa) (rFx X C f):=F.at (G.room hc) G.hg
  have base:PE X (.Call (.Name f p) es [] pos) (fun σ H Q=>tAm X C l σ H fun vs H1=>rFx X C f σ vs H1 Q):=by
   refine ⟨fun pins s σ H Q I h=>?_⟩
   cases es with
   | nil=>
    refine wpAny_Call_Name_kw (ld_glob I hg m1 ?_ (qam ho))
    have h0:rFx X C f σ [] H Q:=by
     obtain ⟨w,env,S,hr,he,q⟩:=h
     rw [hl rfl] at q
     simp only [evL] at q
     exact q w [] H (LeW.refl _) hr .nil
    exact PySem.W.callWith_K0 I.kIn kp (cr pins s σ H [] [] Q I .nil h0)
   | cons e es=>
    simp only [List.all_cons,Bool.and_eq_true] at hs
    refine wpAny_Call_Name_kw (ld_glob I hg m1 ?_ (qam ho))
    refine PySem.W.callWith_K (h₀:=X.base) I.ok.mod.kin kp (thn (ha.run pos pins s σ H _ I h) fun us s1 ⟨vs,H1,I1,r,q⟩=>⟨I1.kIn,?_⟩) (qai hs.1) (qch hs.2)
    exact cr pins s1 σ H1 vs us Q I1 r q
  refine PE.weak base fun σ H Q q=>?_
  obtain ⟨w,env,S,hr,he,q⟩:=q
  rw [hev,if_pos hfn] at q
  refine ⟨w,env,S,hr,he,(q.step (rel:=qaf X.K)).imp fun vs H1 h1=>?_⟩
  obtain ⟨w1,ws,S1,l1,hr1,r1,q1⟩:=h1
  exact ⟨w1,S1,ws,hr1,r1,q1⟩
 ·refine PE.pick fun σ H Q q=>?_
  obtain ⟨w,env,S,hr,he,q⟩:=q
  rw [hev,if_neg hfn] at q
  exact q.elim
theorem qgU (G:Gd C ct k X) {x:Str} (h:x∈qds):X.mg x=none:=G.blt x h
theorem qgp {K:PySem.W.Frag} {F H:Hp} {p:P} {v:V} (r:RepT K F H p v) (h:qcB p=true):∃ t,TyX K H v t∧PySem.W.kitOne K t (.type "str")=some (qgT p):=by
 cases p with
 | non=>cases qct r;exact ⟨_,.base .non,kit_ty (show kitB "NoneType" "str"=some false by decide +kernel)⟩
 | bl b=>cases T_bl r;exact ⟨_,.base (.bl b),kit_ty (show kitB "bool" "str"=some false by decide +kernel)⟩
 | int b=>cases qaz r;exact ⟨_,.base (.int b),kit_ty (show kitB "int" "str"=some false by decide +kernel)⟩
 | str b=>cases qbz r;exact ⟨_,.base (.str b),kit_ty (show kitB "str" "str"=some true by decide +kernel)⟩
 | lst xs=>
  obtain ⟨a,vs,rfl,ho,rs,z⟩:=r
  exact ⟨_,.base (.lst ho),kit_ty (show kitB "list" "str"=some false by decide +kernel)⟩
 | tup xs=>
  obtain ⟨a,vs,rfl,ho,rs,z⟩:=r
  rcases ho with ho | ⟨o,its,n,hk,hc,_⟩
  ·rcases ho with ho | ⟨ob,ho⟩
   ·exact ⟨_,.base (.tup ho),kit_ty (show kitB "tuple" "str"=some false by decide +kernel)⟩
   ·exact ⟨_,.fTuple ho,kit_ty (show kitB "tuple" "str"=some false by decide +kernel)⟩
  ·exact ⟨_,.kTuple hk hc,kit_ty (show kitB "tuple" "str"=some false by decide +kernel)⟩
 | dct xs=>
  obtain ⟨a,vs,o,rfl,ho,c,rs,z⟩:=r
  rcases qa2 ho c with ho | ⟨ob,ho⟩
  ·exact ⟨_,.base (.dK ho),kit_ty (show kitB "dict" "str"=some false by decide +kernel)⟩
  ·exact ⟨_,.fDict ho,kit_ty (show kitB "dict" "str"=some false by decide +kernel)⟩
 | obj _ _=>cases h
 | tpp _=>cases h
 | tpk _=>cases h
 | scr _=>cases h
 | exc _ _=>cases h
theorem qmE {f:BF} (h:f≠.isStr):qeD f∈qds∧bootBuiltins (qeD f)=some (bfV f):=by
 cases f <;> first
  | exact absurd rfl h
  | exact ⟨by decide +kernel,by decide +kernel⟩
theorem c_bf (G:Gd C ct k X) (hcl:ct.calm=true) {f:BF} {l:E} {x:Str} {e:Expr} {p:Pos} (hf:gB ct (qeD f) x=true) (hs:qae e=true) (h1:f≠.isStr) (hA:PA X [e] (tAm X C l)):PE X (.Call (.Name x p) [e] [] pos) (tE X C (.bf f l)):=by
 obtain ⟨rfl,hg,ho⟩:=qcH G hf
 have hu:=G.hu
 obtain ⟨b1,b2⟩:=qmE h1
 have base:PE X (.Call (.Name (qeD f) p) [e] [] pos) (tCB (qcW X (bfV f)) (tAm X C l)):=by
  have st:=qai (e:=e) (es:=[]) (env:=X.env) hs
  have d:(∃ id,bfV f=.builtin id)∨∃ T,bfV f=.type T:=by cases f <;> first | exact .inl ⟨_,rfl⟩ | exact .inr ⟨_,rfl⟩
  rcases d with ⟨id,d⟩ | ⟨T,d⟩
  ·rw [d] at b2 ⊢
   exact pe_callB (qgZ _) hg (qgU G b1) b2 hA (qbw ho) (qam ho) st rfl
  ·rw [d] at b2 ⊢
   exact pe_callTy (qgZ _) hg (qgU G b1) b2 hA (qbw ho) (qam ho) st rfl
 refine PE.weak base fun σ H Q q=>?_
 obtain ⟨w,env,S,hr,he,q⟩:=q
 simp only [evE] at q
 refine ⟨w,env,S,hr,he,(q.step (rel:=qaf X.K)).imp fun vs H1 h1=>?_⟩
 obtain ⟨w1,ws,S1,l1,hr1,r1,q1⟩:=h1
 simp only at q1
 split at q1
 ·rename_i ps hp
  split at q1
  ·rename_i pp hb
   rcases qnI f (G.calm hcl) G.hg (by omega) hr1 (hr1.views hp r1) hb (fun w' v H' lw hr' rp=>q1 w' v H' lw hr' rp) with z | z
   ·exact absurd z ‹f≠.isStr›
   ·exact z
  ·exact q1.elim
 ·unfold qeN at q1
  split at q1
  ·rename_i n _
   cases r1 with
   | cons r1 r2=>
    cases r2
    obtain ⟨ad,hn,rfl⟩:=r1
    split at q1
    ·rename_i xs hS
     rcases hr1.cell n _ ad hS hn with z | ⟨_,us,ho,rr,_⟩
     ·cases z
     ·exact ⟨_,call_len_seq,ad,us,rfl,.inl (SqL.of ho),q1 w1 _ _ (LeW.refl _) hr1 (show RepP X.K w1.F (.int xs.length) (.int us.length) by rw [← Paired.length rr];exact qbx)⟩
    ·rename_i kvs hS
     rcases hr1.cell n _ ad hS hn with z | ⟨_,us,ho,rr,_⟩
     ·cases z
     ·exact ⟨_,qdc,ad,us,rfl,.inl ho,q1 w1 _ _ (LeW.refl _) hr1 (show RepP X.K w1.F (.int kvs.length) (.int us.length) by rw [← Paired.length rr];exact qbx)⟩
    ·rename_i kvs hS
     rcases hr1.cell n _ ad hS hn with z | ⟨_,us,od,ho,rr,_⟩
     ·cases z
     ·exact ⟨_,qdc,ad,us,rfl,.inr ⟨od,(hr1.lks ad _ ho).1⟩,q1 w1 _ _ (LeW.refl _) hr1 (show RepP X.K w1.F (.int kvs.length) (.int us.length) by rw [← Paired.length rr];exact qbx)⟩
    ·exact q1.elim
  ·rename_i n _
   cases r1 with
   | cons r1 r2=>
    cases r2
    split at q1
    ·rename_i d hd
     split at q1
     ·rename_i hsh
      simp only [Bool.and_eq_true,decide_eq_true_eq] at hsh
      have hD:=qjQ hr1 4 r1 hd
      obtain ⟨ad,hn,rfl⟩:=r1
      exact ⟨_,qdL G.hg (by omega),ad,d,rfl,hD,hsh.1,hsh.2.1,Nat.le_trans hsh.2.2 qao,q1 w1 _ _ (LeW.refl _) hr1 (show RepP X.K w1.F (.str d.shown) (.str d.shown) from qcb)⟩
     ·exact q1.elim
    ·exact q1.elim
  ·exact q1.elim
end
end LS
namespace LS
open PySem PySem.Spec PyProof.Rows L2
section
variable {X:Cx} {C:Cn} {ct:Ct} {k:Nat} {pos:Pos}
theorem qlZ (G:Gd C ct k X) {a:E} {x c:Str} {e:Expr} {p pc:Pos} (hf:gB ct "isinstance" x=true) (hc:gB ct "str" c=true) (hs:qae e=true) (ha:PE X e (tE X C a)) :
  PE X (.Call (.Name x p) [e,.Name c pc] [] pos) (tE X C (.bf .isStr (.cons a .nil))):=by
 obtain ⟨rfl,hg,ho⟩:=qcH G hf
 obtain ⟨rfl,hg2,ho2⟩:=qcH G hc
 have hu:=G.hu
 have st:=qai (e:=e) (es:=[.Name "str" pc]) (env:=X.env) hs
 have hN:PE X (.Name "str" pc) (tC (.ty "str")):=pe_bltn hg2 (G.blt _ (by decide +kernel)) (by decide +kernel:bootBuiltins "str"=some (.type "str")) rfl (qbw ho2) (qam ho2)
 refine PE.weak (pe_callB call_isi hg (G.blt _ (by decide +kernel)) (by decide +kernel) (pa_cons ha (pa_cons hN pa_nil) st) (qbw ho) (qam ho) st rfl) fun σ H Q q=>?_
 obtain ⟨w,env,S,hr,he,q⟩:=q
 simp only [evE,evL] at q
 have q':RdG X σ (RepW X.K) w ((evE C a env S).bind fun q0=>match qcA [q0.1] q0.2 with
  | some ps=>match bfOp .isStr ps with
   | some p=>.ok (.v p,q0.2)
   | none=>.no
  | none=>.no) Q:=by
  cases hE:evE C a env S with
  | ok q0=>rw [hE] at q;exact q
  | ex _ _ _=>rw [hE] at q;exact q
  | no=>rw [hE] at q;exact q.elim
 refine ⟨w,env,S,hr,he,(q'.step (rel:=RepW X.K)).imp fun v H1 h1=>?_⟩
 obtain ⟨w1,x1,S1,l1,hr1,r1,q1⟩:=h1
 simp only at q1
 split at q1
 ·rename_i ps hp
  split at q1
  ·rename_i pp hb
   cases hv:x1.view S1 with
   | none=>simp [qcA,hv] at hp
   | some p0=>
    simp [qcA,hv] at hp
    subst hp
    unfold bfOp at hb
    simp only at hb
    split at hb
    ·rename_i hpl
     cases hb
     obtain ⟨t,ty,kt⟩:=qgp (hr1.view hv r1) hpl
     exact ⟨v,.ty "str",t,.type "str",qgT p0,rfl,.ty "str",ty,kt,q1 w1 _ _ (LeW.refl _) hr1 (show RepP X.K w1.F (.bl (qgT p0)) _ from P_bl)⟩
    ·cases hb
  ·exact q1.elim
 ·exact q1.elim
theorem qgW {K:PySem.W.Frag} {w:Wd}:∀ {ns:List Int},qaf K w (ns.map fun i=>.v (.int i)) (ns.map V.int)
 | []=>.nil
 | n::ns=>.cons (show RepP K w.F (.int n) (.int n) from qbx) qgW
theorem ql8 (G:Gd C ct k X) {a:E} {x:Str} {e:Expr} {p:Pos} (hf:gB ct "list" x=true) (hs:qae e=true) (ha:PE X e (tE X C a)):PE X (.Call (.Name x p) [e] [] pos) (tE X C (.listC a)):=by
 obtain ⟨rfl,hg,ho⟩:=qcH G hf
 have st:=qai (e:=e) (es:=[]) (env:=X.env) hs
 refine PE.weak (pe_callTy call_list_of hg (G.blt _ (by decide +kernel)) (by decide +kernel) (pa_cons ha pa_nil st) (qbw ho) (qam ho) st rfl) fun σ H Q q=>?_
 obtain ⟨w,env,S,hr,he,q⟩:=q
 simp only [evE] at q
 refine ⟨w,env,S,hr,he,(q.step (rel:=RepW X.K)).imp fun v H1 h1=>?_⟩
 obtain ⟨w1,x1,S1,l1,hr1,r1,q1⟩:=h1
 have fin:∀ {ws:List W} {vs:List V} {p:Addr},H1 p=none→qaf X.K w1 ws vs→vs.length≤sizeLine→RdG X σ (RepW X.K) w1 (qaL (.lst ws) S1) Q→Q (.ref p) (upd H1 p (.lst vs)):=fun {ws vs p} hp rw hz q2=>by
  unfold qaL at q2
  split at q2
  ·rename_i hb
   have lw:LeW w1 ⟨w1.ρ++[p],w1.F,w1.b⟩:=⟨List.prefix_append _ _,LeL.refl _,rfl⟩
   obtain ⟨hr2,_⟩:=hr1.newC (o:=.lst vs) hp hb ⟨vs,upd_same,rw.mono lw,hz⟩
   exact q2 _ _ _ lw hr2 ⟨p,by rw [← hr1.len];simp,rfl⟩
  ·exact q2.elim
 simp only at q1
 split at q1
 ·rename_i xs hx
  obtain ⟨ad,vs,rfl,hh,rs,z⟩:=hr1.view hx r1
  exact ⟨ad,vs,rfl,.inl (SqL.of hh),fun l hl=>fin hl (qbD rs) z q1⟩
 ·rename_i xs hx
  obtain ⟨ad,vs,rfl,hh,rs,z⟩:=hr1.view hx r1
  exact ⟨ad,vs,rfl,.inr hh,fun l hl=>fin hl (qbD rs) z q1⟩
 ·rename_i ns hx
  obtain ⟨ad,rfl,hh,z⟩:=hr1.view hx r1
  exact ⟨ad,_,rfl,.inl hh,fun l hl=>fin hl qgW (by rw [List.length_map];exact z) q1⟩
 ·exact q1.elim
section
variable {w:Wd} {H:Hp} {S:qaa} {x y:W} {v u:V} {Q:VK} {σ:L2.St}
end
theorem CallR.or {X:Cx} {f:Value} {r r':List V→Hp→VK→Prop} (h:CallR X f r) (h':CallR X f r'):CallR X f fun xs H Q=>r xs H Q∨r' xs H Q:=by
 intro pins s σ H xs us Q I rv q
 rcases q with q | q
 ·exact h pins s σ H xs us Q I rv q
 ·exact h' pins s σ H xs us Q I rv q
def jTs (X:Cx) (C:Cn):E→List TE
 | .star a l=>tE X C a::jTs X C l
 | .cons a l=>tFmt (tE X C a)::jTs X C l
 | _=>[]
def kTs (X:Cx) (C:Cn):E→List (TE × TE)
 | .kv a b l=>(tE X C a,tE X C b)::kTs X C l
 | _=>[]
theorem qak.any {K:PySem.W.Frag} {w:Wd} (key:Key) {xs:List (Key × W)} {vs:List (Key × V)} (r:qak K w xs vs):(xs.any fun q=>decide (q.1=key))=(vs.any fun q=>decide (q.1=key)):=by
 induction r with
 | nil=>rfl
 | @cons a b as bs h t ih=>
  rw [List.any_cons,List.any_cons,ih,h.1]
theorem qak.app {K:PySem.W.Frag} {w:Wd}:∀ {xs ys:List (Key × W)} {vs us:List (Key × V)},qak K w xs vs→qak K w ys us→qak K w (xs++ys) (vs++us)
 | _,_,_,_,.nil,s=>s
 | _,_,_,_,.cons r t,s=>.cons r (qak.app t s)
theorem qak.put {K:PySem.W.Frag} {w:Wd} {key:Key} {p:W} {z:V} (hp:RepW K w p z) {xs:List (Key × W)} {vs:List (Key × V)} (r:qak K w xs vs):qak K w (setK xs key p) (putK vs key z):=by
 unfold setK putK
 rw [qak.any key r]
 split
 ·rename_i hh
  clear hh
  induction r with
  | nil=>exact .nil
  | @cons a b as bs h t ih=>
   rw [List.map_cons,List.map_cons]
   refine .cons ?_ ih
   by_cases e:a.1=key
   ·rw [if_pos e,if_pos (h.1 ▸ e)]
    exact ⟨h.1,hp⟩
   ·rw [if_neg e,if_neg (fun z=>e (h.1.trans z))]
    exact h
 ·exact qak.app r (.cons ⟨rfl,hp⟩ .nil)
theorem qak.merge {K:PySem.W.Frag} {w:Wd} {ys:List (Key × W)} {us:List (Key × V)} (q:qak K w ys us):∀ {xs:List (Key × W)} {vs:List (Key × V)},qak K w xs vs→qak K w (ys.foldl (fun acc z=>setK acc z.1 z.2) xs) (mergeK vs us):=by
 induction q with
 | nil=>exact fun r=>r
 | @cons a b as bs h t ih=>
  intro xs vs r
  show qak K w (as.foldl _ (setK xs a.1 a.2)) (mergeK (putK vs b.1 b.2) bs)
  refine ih ?_
  rw [← h.1]
  exact qak.put h.2 r
theorem qbt {α:Type} {l:List α} {n:Nat} {x:α} (h:l[n]?=some x):n < l.length:=(List.getElem?_eq_some_iff.mp h).1
theorem qbC {w w':Wd} {n:Nat} {p:Addr} (l:LeW w w') (h:w.ρ[n]?=some p):w'.ρ[n]?=some p:=by
 obtain ⟨t,ht⟩:=l.1
 rw [← ht,List.getElem?_append_left (qbt h)]
 exact h
theorem qlN {w w':Wd} {n:Nat} {p:Addr} (l:LeV w w') (h:w.ρ[n]?=some p):w'.ρ[n]?=some p:=by
 obtain ⟨t,ht⟩:=l.1
 rw [← ht,List.getElem?_append_left (qbt h)]
 exact h
theorem qdW {K:PySem.W.Frag} {kp cell:Bool} {S S3:qaa} {w0 w:Wd} {H:Hp} {x:W} {D:Nat} {p:Addr} (hr:HRel K S w H) (hp:w.ρ[D]?=some p) (h0:LeV w0 w) (hb:w.b=(w0.in_ cell D).b) (hbl:∀ b,w0.b.o=some b→b≤D) (hD:w0.ρ.length≤D) (hkb:cell=true→kp=false→w0.b.o.isSome=true) (e:finC kp cell D S=.ok (x,S3)) :
  ∃ w',LeW w0 w'∧HRel K S3 w' H∧RepW K w' x (.ref p):=by
 unfold finC at e
 cases cell with
 | true=>
  simp only at e
  split at e
  ·cases e
   exact ⟨w,⟨h0.1,h0.2,hb⟩,hr,p,hp,rfl⟩
  ·rename_i hk
   split at e
   ·rename_i hl
    cases e
    have hkp:kp=false:=by
     cases kp with
     | false=>rfl
     | true=>exact absurd (.inl rfl) hk
    obtain ⟨m,hm⟩:=Option.isSome_iff_exists.mp (hkb rfl hkp)
    have hwb:w.b=w0.b:=by
     rw [hb]
     rfl
    have t:=hr.take (D + 1) (b':=w.b) ⟨m,by rw [hwb];exact hm,Nat.le_succ_of_le (hbl m hm)⟩ (.inl rfl) rfl
    refine ⟨⟨w.ρ.take (D + 1),w.F,w.b⟩,⟨List.prefix_take_iff.mpr ⟨h0.1,Nat.le_succ_of_le hD⟩,h0.2,hwb⟩,t,p,?_,rfl⟩
    show (w.ρ.take (D + 1))[D]?=some p
    rw [List.getElem?_take_of_lt (Nat.lt_succ_self D)]
    exact hp
   ·cases e
 | false=>
  simp only at e
  split at e
  ·rename_i c hc
   split at e
   ·rename_i pp hv
    cases e
    obtain ⟨w',h1,h2,h3,h4⟩:=hr.frozen hc hv hp
    have hl:D≤S.length:=Nat.le_of_lt (qbt hc)
    have t:=h1.out (w0:=w0) (n:=D) (by rw [h2.3];exact hb) hbl (by rw [List.length_set];exact hl)
    rw [List.take_set_of_le (Nat.le_refl _)] at t
    exact ⟨_,LeW.out (h0.trans h2.v) hD,t,h4⟩
   ·cases e
  ·cases e
theorem qhD {K:PySem.W.Frag} {kp:Bool} {w:Wd} {env:Env} {σ:L2.St} {n:Nat} {c:Cell} {S:qaa} (he:EnvRel K kp w env σ) (h:c.lows n=true∨(kp=true∧c.lows S.length=true)):c.lows n=true∨(w.b.o=none∧c.lows S.length=true):=by
 rcases h with h | ⟨h1,h2⟩
 ·exact .inl h
 ·refine .inr ⟨?_,h2⟩
  have:=he.kb
  rw [h1] at this
  cases hb:w.b.o with
  | none=>rfl
  | some b=>rw [hb] at this;cases this
theorem qmz {e:Expr} {es:List Expr} {cpos:Pos} {env:PySem.Env} (hs:(e::es).all qae=true) (hn:(e::es).length < 29) :
  ((backTo cpos (starEach (e::es) env)).all (fun x=>!x.1) && (backToKw cpos (keywordEach [] env)).all (fun x=>x.1.isSome) && decide ((e::es).length + ([]:List Keyword).length + (if ([]:List Keyword).isEmpty then 0 else 1) < 30))=true:=by
 have e1:∀ {l:List Expr},l.all qae=true→(backTo cpos (starEach l env)).all (fun x=>!x.1)=true:=fun {l} h=>by
  induction l with
  | nil=>rfl
  | cons a l ih=>
   simp only [List.all_cons,Bool.and_eq_true] at h
   rw [qai h.1]
   show (true && (backTo cpos (starEach l env)).all (fun x=>!x.1))=true
   rw [ih h.2]
   rfl
 rw [e1 hs]
 show (true && true && decide ((e::es).length + 0 + 0 < 30))=true
 exact decide_eq_true (by omega)
theorem qck {T name:Str} {id TT:String} {r:V→List V→Hp→VK→Prop} {a l:E} {x e:Expr} {es:List Expr} {apos:Pos} (pa:PlainAttrs TT) (slot:Slot TT name id) (hty:typeOf (.builtin id)=pure (.type "method_descriptor")) (hm:MtR X id r)
  (hb:qby x=true) (hs:(e::es).all qae=true) (hn:(e::es).length < 29) (qdK:(apos.endLine == pos.line)=true) (ha:PE X x (tE X C a)) (hA:PA X (e::es) (tAm X C l)) {m:BM}
  (snd:∀ {w:Wd} {H:Hp} {S:qaa} {x:W} {v:V},HRel X.K S w H→RepW X.K w x v→bmTy m x S=true→tyV X.K TT v H)
  (op:∀ {σ:L2.St} {w:Wd} {H:Hp} {S:qaa} {x:W} {v:V} {ws:List W} {vs:List V} {Q:VK},HRel X.K S w H→RepW X.K w x v→qaf X.K w ws vs→RdG X σ (RepW X.K) w (bmOp C.keep m x ws S) Q→(∀ (c:Cell) (n:Nat),c.lows n=true∨(C.keep=true∧c.lows S.length=true)→c.lows n=true∨(w.b.o=none∧c.lows S.length=true))→r v vs H Q) :
  PE X (.Call (.Attribute x name apos) (e::es) [] pos) (tE X C (.bm m a l)):=by
 have hs':=hs
 simp only [List.all_cons,Bool.and_eq_true] at hs'
 refine PE.weak (pe_bm pa slot hty hm ha hA (qdw hb) (qmz hs hn) qdK (qai hs'.1) (qch hs'.2)) fun σ H Q q=>?_
 obtain ⟨w,env,S,hr,he,q⟩:=q
 simp only [evE] at q
 refine ⟨w,env,S,hr,he,(q.step (rel:=RepW X.K)).imp fun v H1 h1=>?_⟩
 obtain ⟨w1,x1,S1,l1,hr1,r1,q1⟩:=h1
 simp only at q1
 split at q1
 ·rename_i ht
  refine ⟨snd hr1 r1 ht,w1,env,S1,hr1,he.mono l1,(q1.step (rel:=qaf X.K)).imp fun vs H2 h2=>?_⟩
  obtain ⟨w2,ws,S2,l2,hr2,r2,q2⟩:=h2
  exact op hr2 (r1.mono l2) r2 q2 fun c n=>qhD (he.mono (l1.trans l2))
 ·exact q1.elim
theorem qgO {m:BM} {w:Wd} {H:Hp} {S:qaa} {x:W} {v:V} (hm:m=.append∨m=.extend∨m=.pop0∨m=.insert) (hr:HRel X.K S w H) (r:RepW X.K w x v) (h:bmTy m x S=true):tyV X.K "list" v H:=by
 cases x with
 | v p=>rcases hm with rfl | rfl | rfl | rfl <;> (simp [bmTy] at h)
 | c n=>
  obtain ⟨ad,hn,rfl⟩:=r
  have h':bmTy.isLst S[n]?=true:=by rcases hm with rfl | rfl | rfl | rfl <;> exact h
  unfold bmTy.isLst at h'
  split at h'
  ·rename_i xs hS
   rcases hr.cell n _ ad hS hn with z | ⟨_,vs,ho,_⟩
   ·cases z
   ·exact .inl ⟨rfl,vs,SqL.of ho⟩
  ·cases h'
theorem qkg {m:BM} {w:Wd} {H:Hp} {S:qaa} {x:W} {v:V} (hm:m=.join∨m=.split) (r:RepW X.K w x v) (h:bmTy m x S=true):tyV X.K "str" v H:=by
 cases x with
 | c p=>rcases hm with rfl | rfl <;> (simp [bmTy] at h)
 | v p=>
  cases p with
  | str s=>
   have r':RepP X.K w.F (.str s) v:=r
   unfold RepP at r'
   subst r'
   rfl
  | _=>rcases hm with rfl | rfl <;> (simp [bmTy] at h)
theorem qle {w:Wd} {H:Hp} {S:qaa} {x:W} {v:V} (r:RepW X.K w x v) (h:bmTy .splitC x S=true):tyV X.K "str" v H:=by
 cases x with
 | c p=>simp [bmTy] at h
 | v p=>
  cases p with
  | str s=>
   have r':RepP X.K w.F (.str s) v:=r
   unfold RepP at r'
   subst r'
   rfl
  | _=>simp [bmTy] at h
theorem qiu {kp:Bool} {w:Wd} {H:Hp} {S:qaa} {x:W} {v:V} {ws:List W} {vs:List V} {Q:VK} (hr:HRel X.K S w H) (r:RepW X.K w x v) (rs:qaf X.K w ws vs) (q:RdG X σ (RepW X.K) w (bmOp kp .append x ws S) Q) (hk:∀ (c:Cell) (n:Nat),c.lows n=true∨(kp=true∧c.lows S.length=true)→c.lows n=true∨(w.b.o=none∧c.lows S.length=true)):rAppend v vs H Q:=by
 have q':RdG X σ (RepW X.K) w (qe0 kp x ws S) Q:=q
 unfold qe0 at q'
 split at q'
 ·rename_i n w0
  obtain ⟨u,rfl,ru⟩:=qay rs
  obtain ⟨ad,hn,rfl⟩:=r
  unfold qdk at q'
  split at q'
  ·rename_i acc hS
   split at q'
   ·rename_i hl
    unfold write at q'
    split at q'
    ·rename_i hb
     rcases hr.cell n _ ad hS hn with z | ⟨hF,xs,ho,rr,z⟩
     ·cases z
     ·have hl2:xs.length < lim:=by rw [← Paired.length rr];exact hl
      have hz:(xs++[u]).length≤sizeLine:=by
       rw [List.length_append]
       have:=qao
       show xs.length + 1≤sizeLine
       omega
      refine ⟨ad,xs,u,rfl,rfl,ho,Nat.lt_of_lt_of_le hl2 qao,?_⟩
      have hr2:=hr.write (o:=.lst (xs++[u])) hn hF (hk _ _ hb) ⟨xs++[u],upd_same,qbr rr (.cons ru .nil),hz⟩ (nofz ho)
      exact q' w _ _ (LeW.refl _) hr2 (show RepP X.K w.F .non _ from qe8)
    ·exact q'.elim
   ·exact q'.elim
  ·exact q'.elim
 ·exact q'.elim
theorem qie {kp:Bool} {w:Wd} {H:Hp} {S:qaa} {x:W} {v:V} {ws:List W} {vs:List V} {Q:VK} (hr:HRel X.K S w H) (r:RepW X.K w x v) (rs:qaf X.K w ws vs) (q:RdG X σ (RepW X.K) w (bmOp kp .extend x ws S) Q) (hk:∀ (c:Cell) (n:Nat),c.lows n=true∨(kp=true∧c.lows S.length=true)→c.lows n=true∨(w.b.o=none∧c.lows S.length=true)):rExtend v vs H Q:=by
 have q':RdG X σ (RepW X.K) w (qdp kp x ws S) Q:=q
 unfold qdp at q'
 split at q'
 ·rename_i n w0
  obtain ⟨u,rfl,ru⟩:=qay rs
  obtain ⟨ad,hn,rfl⟩:=r
  split at q'
  ·rename_i acc ps hS hv
   split at q'
   ·rename_i hl
    unfold write at q'
    split at q'
    ·rename_i hb
     rcases hr.cell n _ ad hS hn with z | ⟨hF,xs,ho,rr,z⟩
     ·cases z
     ·obtain ⟨bd,zs,rfl,hz0,r0,z0⟩:=hr.view hv ru
      have e1:=Paired.length rr
      have e2:=r0.len
      have hz:(xs++zs).length≤sizeLine:=by
       rw [List.length_append]
       have:=qao
       omega
      refine ⟨ad,bd,xs,zs,rfl,rfl,ho,hz0,by rw [← List.length_append];exact hz,?_⟩
      have hr2:=hr.write (o:=.lst (xs++zs)) hn hF (hk _ _ hb) ⟨xs++zs,upd_same,qbr rr (qbD r0),hz⟩ (nofz ho)
      exact q' w _ _ (LeW.refl _) hr2 (show RepP X.K w.F .non _ from qe8)
    ·exact q'.elim
   ·exact q'.elim
  ·rename_i acc hS hv
   split at q'
   ·rename_i m
    obtain ⟨bd,hm,rfl⟩:=ru
    split at q'
    ·rename_i ws hSm
     split at q'
     ·rename_i hl
      unfold write at q'
      split at q'
      ·rename_i hb
       rcases hr.cell n _ ad hS hn with z | ⟨hF,xs,ho,rr,z⟩
       ·cases z
       ·rcases hr.cell m _ bd hSm hm with z' | ⟨_,zs,hz0,r0,z0⟩
        ·cases z'
        ·have e1:=Paired.length rr
         have e2:=Paired.length r0
         have hz:(xs++zs).length≤sizeLine:=by
          rw [List.length_append]
          have:=qao
          omega
         refine ⟨ad,bd,xs,zs,rfl,rfl,ho,hz0,by rw [← List.length_append];exact hz,?_⟩
         have hr2:=hr.write (o:=.lst (xs++zs)) hn hF (hk _ _ hb) ⟨xs++zs,upd_same,qbr rr r0,hz⟩ (nofz ho)
         exact q' w _ _ (LeW.refl _) hr2 (show RepP X.K w.F .non _ from qe8)
      ·exact q'.elim
     ·exact q'.elim
    ·exact q'.elim
   ·exact q'.elim
  ·exact q'.elim
 ·exact q'.elim
theorem qfG {K:PySem.W.Frag} {w:Wd}:∀ {xs:List W} {vs:List V} (j:Nat),qaf K w xs vs→qaf K w (xs.eraseIdx j) (vs.eraseIdx j)
 | _,_,_,.nil=>.nil
 | _,_,0,.cons _ t=>t
 | _,_,j + 1,.cons r t=>.cons r (qfG j t)
theorem qdM {K:PySem.W.Frag} {w:Wd}:∀ {xs:List W} {vs:List V} {j:Nat} {p:W},qaf K w xs vs→xs[j]?=some p→∃ z,vs[j]?=some z∧RepW K w p z
 | _,_,_,_,.nil,e=>by simp at e
 | _,_,0,_,.cons r t,e=>by
  simp at e
  subst e
  exact ⟨_,rfl,r⟩
 | _,_,j + 1,p,.cons r t,e=>qdM (j:=j) t (by simpa using e)
theorem qnz {kp:Bool} {w:Wd} {H:Hp} {S:qaa} {x:W} {v:V} {ws:List W} {vs:List V} {Q:VK} (hr:HRel X.K S w H) (r:RepW X.K w x v) (rs:qaf X.K w ws vs) (q:RdG X σ (RepW X.K) w (bmOp kp .pop0 x ws S) Q) (hk:∀ (c:Cell) (n:Nat),c.lows n=true∨(kp=true∧c.lows S.length=true)→c.lows n=true∨(w.b.o=none∧c.lows S.length=true)):rPopAt v vs H Q:=by
 have q':RdG X σ (RepW X.K) w (qju kp x ws S) Q:=q
 unfold qju at q'
 split at q'
 ·rename_i n i
  obtain ⟨u,rfl,ru⟩:=qay rs
  have ru':RepP X.K w.F (.int i) u:=ru
  unfold RepP at ru'
  subst ru'
  obtain ⟨ad,hn,rfl⟩:=r
  split at q'
  ·rename_i acc hS
   split at q'
   ·rename_i j hj
    split at q'
    ·rename_i w0 hw0
     unfold write at q'
     split at q'
     ·rename_i hb
      rcases hr.cell n _ ad hS hn with z | ⟨hF,xs,ho,rr,z⟩
      ·cases z
      ·have e1:=Paired.length rr
       rw [e1] at hj
       obtain ⟨h1,h2,h3,h4⟩:=ixN_seq hj
       obtain ⟨y,hy,ry⟩:=qdM rr hw0
       have hz:(xs.eraseIdx j).length≤sizeLine:=Nat.le_trans (List.length_eraseIdx_le _ _) z
       have big:(xs.length:Int) < 2 ^ 63:=by
        have:=line63
        omega
       refine ⟨ad,xs,i,j,y,rfl,rfl,ho,by omega,by omega,h1,hy,?_⟩
       have hr2:=hr.write (o:=.lst (xs.eraseIdx j)) hn hF (hk _ _ hb) ⟨_,upd_same,qfG j rr,hz⟩ (nofz ho)
       exact q' w _ _ (LeW.refl _) hr2 ry
     ·exact q'.elim
    ·exact q'.elim
   ·exact q'.elim
  ·exact q'.elim
 ·exact q'.elim
theorem qhs {K:PySem.W.Frag} {w:Wd}:∀ {xs:List W} {vs:List V} (j:Nat),qaf K w xs vs→qaf K w (xs.take j) (vs.take j)
 | _,_,0,_=>by simp;exact .nil
 | _,_,j + 1,.nil=>.nil
 | _,_,j + 1,.cons r t=>.cons r (qhs j t)
theorem qg7 {K:PySem.W.Frag} {w:Wd}:∀ {xs:List W} {vs:List V} (j:Nat),qaf K w xs vs→qaf K w (xs.drop j) (vs.drop j)
 | _,_,0,r=>r
 | _,_,j + 1,.nil=>.nil
 | _,_,j + 1,.cons r t=>qg7 j t
def qkK:V→List V→Hp→VK→Prop:=fun x vs H Q=>∃ (l:Addr) (xs:List V) (i:Int) (y:V),x=.ref l∧vs=[.int i,y]∧H l=some (.lst xs)∧xs.length < sizeLine∧0≤i∧i < 2 ^ 63∧Q .non (upd H l (.lst (xs.take i.toNat++[y]++xs.drop i.toNat)))
theorem qmh {kp:Bool} {w:Wd} {H:Hp} {S:qaa} {x:W} {v:V} {ws:List W} {vs:List V} {Q:VK} (hr:HRel X.K S w H) (r:RepW X.K w x v) (rs:qaf X.K w ws vs) (q:RdG X σ (RepW X.K) w (bmOp kp .insert x ws S) Q) (hk:∀ (c:Cell) (n:Nat),c.lows n=true∨(kp=true∧c.lows S.length=true)→c.lows n=true∨(w.b.o=none∧c.lows S.length=true)):qkK v vs H Q:=by
 have q':RdG X σ (RepW X.K) w (qlF kp x ws S) Q:=q
 unfold qlF at q'
 split at q'
 ·rename_i n i w0
  cases rs with
  | cons ri rs=>
   obtain ⟨u,rfl,ru⟩:=qay rs
   rename_i vi
   have ri':RepP X.K w.F (.int i) vi:=ri
   unfold RepP at ri'
   subst ri'
   obtain ⟨ad,hn,rfl⟩:=r
   split at q'
   ·rename_i acc hS
    split at q'
    ·rename_i hl
     unfold write at q'
     split at q'
     ·rename_i hb
      rcases hr.cell n _ ad hS hn with z | ⟨hF,xs,ho,rr,z⟩
      ·cases z
      ·have hl2:xs.length < lim:=by rw [← Paired.length rr];exact hl.1
       have hz:(xs.take i.toNat++[u]++xs.drop i.toNat).length≤sizeLine:=by
        simp only [List.length_append,List.length_take,List.length_drop,List.length_singleton]
        have:=qao
        omega
       have big:i < 2 ^ 63:=by have:=hl.2.2;omega
       refine ⟨ad,xs,i,u,rfl,rfl,ho,Nat.lt_of_lt_of_le hl2 qao,hl.2.1,big,?_⟩
       have hr2:=hr.write (o:=.lst (xs.take i.toNat++[u]++xs.drop i.toNat)) hn hF (hk _ _ hb) ⟨_,upd_same,qbr (qbr (qhs _ rr) (.cons ru .nil)) (qg7 _ rr),hz⟩ (nofz ho)
       exact q' w _ _ (LeW.refl _) hr2 (show RepP X.K w.F .non _ from qe8)
     ·exact q'.elim
    ·exact q'.elim
   ·exact q'.elim
 ·exact q'.elim
def qoB (X:Cx):V→List V→Hp→VK→Prop:=fun x xs H Q=>∃ a p,∃ ys:List Str,x=.str a∧xs=[.ref p]∧(SqL X.K H p (ys.map V.str)∨SqT X.K H p (ys.map V.str))∧(ys.map (·.length)).sum + ys.length * a.length≤16777216∧Q (.str (Txt.join a ys)) H
theorem qla {kp:Bool} {w:Wd} {H:Hp} {S:qaa} {x:W} {v:V} {ws:List W} {vs:List V} {Q:VK} (hr:HRel X.K S w H) (r:RepW X.K w x v) (rs:qaf X.K w ws vs) (q:RdG X σ (RepW X.K) w (bmOp kp .join x ws S) Q) (hk:∀ (c:Cell) (n:Nat),c.lows n=true∨(kp=true∧c.lows S.length=true)→c.lows n=true∨(w.b.o=none∧c.lows S.length=true)):qoB X v vs H Q:=by
 have q':RdG X σ (RepW X.K) w (qhb x ws S) Q:=q
 unfold qhb at q'
 split at q'
 ·rename_i a w0
  obtain ⟨u,rfl,ru⟩:=qay rs
  have r':RepP X.K w.F (.str a) v:=r
  unfold RepP at r'
  subst r'
  split at q'
  ·rename_i l hv
   split at q'
   ·rename_i ys hy
    split at q'
    ·rename_i hl
     obtain ⟨ad,us,rfl,ho,r0,z⟩:=hr.view hv ru
     cases qeQ r0 hy
     exact ⟨a,ad,ys,rfl,rfl,.inl (SqL.of ho),Nat.le_trans hl (by decide),RdG.val q' hr qcb⟩
    ·exact q'.elim
   ·exact q'.elim
  ·exact q'.elim
 ·exact q'.elim
def qj4:V→List V→Hp→VK→Prop:=fun x xs H Q=>∃ a b,x=.str a∧xs=[.str b]∧(b.length == 0)=false∧a.length + 2≤sizeLine∧rNewStrs (Txt.split a b) H Q
theorem qhm {K:PySem.W.Frag} {F:Hp}:∀ {ys:List Str},qab K F (ys.map .str) (ys.map V.str)
 | []=>by simp [qab]
 | y::ys=>by
  show qab K F (.str y::ys.map .str) (V.str y::ys.map V.str)
  unfold qab
  exact ⟨_,_,rfl,qcb,qhm⟩
theorem qjy {kp:Bool} {w:Wd} {H:Hp} {S:qaa} {x:W} {v:V} {ws:List W} {vs:List V} {Q:VK} (hr:HRel X.K S w H) (r:RepW X.K w x v) (rs:qaf X.K w ws vs) (q:RdG X σ (RepW X.K) w (bmOp kp .split x ws S) Q) (hk:∀ (c:Cell) (n:Nat),c.lows n=true∨(kp=true∧c.lows S.length=true)→c.lows n=true∨(w.b.o=none∧c.lows S.length=true)):qj4 v vs H Q:=by
 have q':RdG X σ (RepW X.K) w (qgx x ws S) Q:=q
 unfold qgx at q'
 split at q'
 ·rename_i a b
  obtain ⟨u,rfl,ru⟩:=qay rs
  have r':RepP X.K w.F (.str a) v:=r
  unfold RepP at r'
  subst r'
  have ru':RepP X.K w.F (.str b) u:=ru
  unfold RepP at ru'
  subst ru'
  split at q'
  ·rename_i hl
   refine ⟨a,b,rfl,rfl,hl.1,Nat.le_trans hl.2 qao,fun p hp=>?_⟩
   have hz:((Txt.split a b).map V.str).length≤sizeLine:=by
    rw [List.length_map]
    exact Nat.le_trans (PyProof.Rows.split_le a b) (Nat.le_trans hl.2 qao)
   obtain ⟨w',lw,hr',rp⟩:=qbP hr hp qhm hz
   exact q' w' _ _ lw hr' rp
  ·exact q'.elim
 ·exact q'.elim
theorem qfe {K:PySem.W.Frag} {w:Wd}:∀ {ys:List Str},qaf K w (ys.map fun s=>.v (.str s)) (ys.map V.str)
 | []=>.nil
 | y::ys=>.cons (show RepP K w.F (.str y) (.str y) from qcb) qfe
theorem qid {kp:Bool} {w:Wd} {H:Hp} {S:qaa} {x:W} {v:V} {ws:List W} {vs:List V} {Q:VK} (hr:HRel X.K S w H) (r:RepW X.K w x v) (rs:qaf X.K w ws vs) (q:RdG X σ (RepW X.K) w (bmOp kp .splitC x ws S) Q) (hk:∀ (c:Cell) (n:Nat),c.lows n=true∨(kp=true∧c.lows S.length=true)→c.lows n=true∨(w.b.o=none∧c.lows S.length=true)):qj4 v vs H Q:=by
 have q':RdG X σ (RepW X.K) w (qeV x ws S) Q:=q
 unfold qeV at q'
 split at q'
 ·rename_i a b
  obtain ⟨u,rfl,ru⟩:=qay rs
  have r':RepP X.K w.F (.str a) v:=r
  unfold RepP at r'
  subst r'
  have ru':RepP X.K w.F (.str b) u:=ru
  unfold RepP at ru'
  subst ru'
  split at q'
  ·rename_i hl
   refine ⟨a,b,rfl,rfl,hl.1,Nat.le_trans hl.2 qao,fun p hp=>?_⟩
   have hz:((Txt.split a b).map V.str).length≤sizeLine:=by
    rw [List.length_map]
    exact Nat.le_trans (PyProof.Rows.split_le a b) (Nat.le_trans hl.2 qao)
   unfold qaL at q'
   split at q'
   ·rename_i hb
    have lw:LeW w ⟨w.ρ++[p],w.F,w.b⟩:=⟨List.prefix_append _ _,LeL.refl _,rfl⟩
    obtain ⟨hr2,_⟩:=hr.newC (o:=.lst ((Txt.split a b).map V.str)) hp hb ⟨_,upd_same,qfe,hz⟩
    exact q' _ _ _ lw hr2 ⟨p,by rw [← hr.len];simp,rfl⟩
   ·exact q'.elim
  ·exact q'.elim
 ·exact q'.elim
def qmR:V→List V→Hp→VK→Prop:=fun x xs H Q=>∃ (a:Addr) (kvs:List (Key × V)) (k:Key) (v:V),x=.ref a∧xs=[kV k]∧H a=some (.dK kvs)∧valV kvs k=some v∧Q v (upd H a (.dK (dropK kvs k)))
theorem qlB:MtR X "dict.pop" qmR:=by
 intro pins s σ H x xs v us Q I rx rxs h
 obtain ⟨a,kvs,k,v0,rfl,rfl,ha,l,q⟩:=h
 cases rx
 obtain ⟨u,rfl,ru⟩:=vals1 rxs
 exact d_pop I ha ru l (.inl rfl) fun w' s3 I3 rw'=>⟨v0,_,I3,rw',q⟩
theorem qak.drop {K:PySem.W.Frag} {w:Wd} {key:Key}:∀ {xs:List (Key × W)} {vs:List (Key × V)},qak K w xs vs→qak K w (delK xs key) (dropK vs key)
 | _,_,.nil=>.nil
 | x::xs,y::ys,.cons ⟨e,r⟩ t=>by
  obtain ⟨k0,x⟩:=x
  obtain ⟨k1,y⟩:=y
  cases e
  have ih:=qak.drop (key:=key) t
  unfold delK dropK at ih ⊢
  by_cases h:k0=key
  ·simp only [List.filter_cons]
   rw [if_neg (by simp [h]),if_neg (by simp [h])]
   exact ih
  ·simp only [List.filter_cons]
   rw [if_pos (by simp [h]),if_pos (by simp [h])]
   exact .cons ⟨rfl,r⟩ ih
theorem qlT {w:Wd} {H:Hp} {S:qaa} {x:W} {v:V} (hr:HRel X.K S w H) (r:RepW X.K w x v) (h:bmTy .popK x S=true):tyV X.K "dict" v H:=by
 cases x with
 | v p=>simp [bmTy] at h
 | c n=>
  obtain ⟨a,ha,rfl⟩:=r
  have h:bmTy.isDk S[n]?=true:=h
  cases hS:S[n]? with
  | none=>rw [hS] at h;cases h
  | some c=>
   rw [hS] at h
   cases c with
   | dct kvs=>
    rcases hr.cell n _ a hS ha with z | ⟨_,vs,h1,_⟩
    ·cases z
    ·exact .inr (.inr (.inl ⟨rfl,.inl ⟨vs,h1⟩⟩))
   | _=>cases h
theorem qlE {kp:Bool} {w:Wd} {H:Hp} {S:qaa} {x:W} {v:V} {ws:List W} {vs:List V} {Q:VK} (hr:HRel X.K S w H) (r:RepW X.K w x v) (rs:qaf X.K w ws vs) (q:RdG X σ (RepW X.K) w (bmOp kp .popK x ws S) Q) (hk:∀ (c:Cell) (n:Nat),c.lows n=true∨(kp=true∧c.lows S.length=true)→c.lows n=true∨(w.b.o=none∧c.lows S.length=true)):qmR v vs H Q:=by
 have q':RdG X σ (RepW X.K) w (qh5 kp x ws S) Q:=q
 unfold qh5 at q'
 split at q'
 ·rename_i n p
  obtain ⟨u,rfl,ru⟩:=qay rs
  obtain ⟨ad,hn,rfl⟩:=r
  split at q'
  ·rename_i kvs key hS hkey
   cases qmp hkey ru
   split at q'
   ·rename_i w0 hw0
    unfold write at q'
    split at q'
    ·rename_i hb
     rcases hr.cell n _ ad hS hn with z | ⟨hF,vs',ho,rr,z⟩
     ·cases z
     ·obtain ⟨v0,e0,r0⟩:=(qak.get (k:=key) rr).1 w0 hw0
      have hz:(dropK vs' key).length≤sizeLine:=Nat.le_trans (dropK_le vs' key) z
      have hr2:=hr.write (o:=.dK (dropK vs' key)) hn hF (hk _ _ hb) ⟨_,upd_same,rr.drop,hz⟩ (nofz ho)
      exact ⟨ad,vs',key,v0,rfl,rfl,ho,e0,q' w _ _ (LeW.refl _) hr2 r0⟩
    ·exact q'.elim
   ·exact q'.elim
  ·exact q'.elim
 ·exact q'.elim
theorem c_bm {m:BM} {a l:E} {x e:Expr} {es:List Expr} {apos:Pos} (hm:bmOk m=true) (hb:qby x=true) (hs:(e::es).all qae=true) (hn:(e::es).length < 29) (qdK:(apos.endLine == pos.line)=true) (ha:PE X x (tE X C a)) (hA:PA X (e::es) (tAm X C l)) :
  PE X (.Call (.Attribute x (qix m) apos) (e::es) [] pos) (tE X C (.bm m a l)):=by
 cases m with
 | append=>exact qck (T:="") PySem.F.plainAttrs_list PySem.F.slot_list_append PySem.F.type_list_append mt_append hb hs hn qdK ha hA (fun hr r h=>qgO (.inl rfl) hr r h) (fun hr r rs q hk=>qiu hr r rs q hk)
 | extend=>exact qck (T:="") PySem.F.plainAttrs_list PySem.F.slot_list_extend PySem.F.type_list_extend mt_extend hb hs hn qdK ha hA (fun hr r h=>qgO (.inr (.inl rfl)) hr r h) (fun hr r rs q hk=>qie hr r rs q hk)
 | pop0=>exact qck (T:="") PySem.F.plainAttrs_list PySem.F.slot_list_pop PySem.F.type_list_pop mt_popAt hb hs hn qdK ha hA (fun hr r h=>qgO (.inr (.inr (.inl rfl))) hr r h) (fun hr r rs q hk=>qnz hr r rs q hk)
 | insert=>exact qck (T:="") PySem.F.plainAttrs_list PySem.F.slot_list_insert PySem.F.type_list_insert mt_insert hb hs hn qdK ha hA (fun hr r h=>qgO (.inr (.inr (.inr rfl))) hr r h) (fun hr r rs q hk=>qmh hr r rs q hk)
 | join=>exact qck (T:="") PySem.F.plainAttrs_str PySem.F.slot_str_join PySem.F.type_str_join mt_join hb hs hn qdK ha hA (fun hr r h=>qkg (.inl rfl) r h) (fun hr r rs q hk=>qla hr r rs q hk)
 | split=>exact qck (T:="") PySem.F.plainAttrs_str PySem.F.slot_str_split PySem.F.type_str_split mt_split hb hs hn qdK ha hA (fun hr r h=>qkg (.inr rfl) r h) (fun hr r rs q hk=>qjy hr r rs q hk)
 | splitC=>exact qck (T:="") PySem.F.plainAttrs_str PySem.F.slot_str_split PySem.F.type_str_split mt_split hb hs hn qdK ha hA (fun hr r h=>qle r h) (fun hr r rs q hk=>qid hr r rs q hk)
 | popK=>exact qck (T:="") PySem.F.plainAttrs_dict PySem.F.slot_dict_pop PySem.F.type_dict_pop qlB hb hs hn qdK ha hA (fun hr r h=>qlT hr r h) (fun hr r rs q hk=>qlE hr r rs q hk)
 | _=>cases hm
end
end LS
namespace LS
open PySem PySem.Spec PyProof.Rows L2
def Wd.lkW (w:Wd) (a:Addr) (o:HO):Wd:=⟨w.ρ,w.F,⟨w.b.o,(a,o)::w.b.lk⟩⟩
section
variable {K:PySem.W.Frag} {w:Wd} {H:Hp} {S:qaa}
theorem qlC {a:Addr} {o:HO}:LeV w (w.lkW a o):=⟨List.prefix_refl _,LeL.refl _,fun q hq=>List.mem_cons_of_mem _ hq⟩
theorem HRel.relock (hr:HRel K S w H) {n:Nat} {a:Addr} {c c':Cell} {o:HO} {lk:List (Addr × HO)} (hS:S[n]?=some c) (ha:w.ρ[n]?=some a) (hF:w.F a=none)
  (hl:∀ m,c'.lows m=c.lows m) (ht:c'.isT=false) (hc:qa6 K ⟨w.ρ,w.F,⟨w.b.o,lk⟩⟩ (upd H a o) a c')
  (hk:∀ x u,(x,u)∈w.b.lk→x≠a→(x,u)∈lk) (hlk:∀ (x:Addr) (u:HO),(x,u)∈lk→upd H a o x=some u∧∃ ob z,u=.frz ob z) :
  HRel K (S.set n c') ⟨w.ρ,w.F,⟨w.b.o,lk⟩⟩ (upd H a o):=by
 have keep:∀ {b:Addr} {d:Cell},b≠a→qa6 K w H b d→qa6 K ⟨w.ρ,w.F,⟨w.b.o,lk⟩⟩ (upd H a o) b d:=fun {b d} hb q=>by
  cases d with
  | lst ws=>obtain ⟨vs,h1,h2,h3⟩:=q;exact ⟨vs,by rw [upd_ne hb];exact h1,h2.monoV (w':=⟨w.ρ,w.F,⟨w.b.o,w.b.lk⟩⟩) (LeV.same rfl rfl rfl),h3⟩
  | dct ws=>obtain ⟨vs,h1,h2,h3⟩:=q;exact ⟨vs,by rw [upd_ne hb];exact h1,h2.monoV (w':=⟨w.ρ,w.F,⟨w.b.o,w.b.lk⟩⟩) (LeV.same rfl rfl rfl),h3⟩
  | ins c ws=>obtain ⟨dx,vs,h1,h2⟩:=q;exact ⟨dx,vs,by rw [upd_ne hb];exact h1,h2.monoV (w':=⟨w.ρ,w.F,⟨w.b.o,w.b.lk⟩⟩) (LeV.same rfl rfl rfl)⟩
  | tup ws=>trivial
  | dead=>trivial
  | lkd ws=>obtain ⟨vs,od,h1,h2,h3⟩:=q;exact ⟨vs,od,hk _ _ h1 hb,h2.monoV (w':=⟨w.ρ,w.F,⟨w.b.o,w.b.lk⟩⟩) (LeV.same rfl rfl rfl),h3⟩
  | dtt ws=>obtain ⟨vs,h1,h2,h3⟩:=q;exact ⟨vs,by rw [upd_ne hb];exact h1,h2.monoV (w':=⟨w.ρ,w.F,⟨w.b.o,w.b.lk⟩⟩) (LeV.same rfl rfl rfl),h3⟩
  | lkt ws=>obtain ⟨vs,od,h1,h2,h3⟩:=q;exact ⟨vs,od,hk _ _ h1 hb,h2.monoV (w':=⟨w.ρ,w.F,⟨w.b.o,w.b.lk⟩⟩) (LeV.same rfl rfl rfl),h3⟩
 refine ⟨hr.le.right hF,by simpa using hr.len,hr.inj,fun m d e=>?_,fun m d b e f=>?_,fun m b e=>?_,fun b hb'=>by rw [List.length_set];exact hr.bl b hb',fun m ws b e f=>?_,hlk⟩
 ·rw [List.length_set]
  by_cases h:m=n
  ·subst h
   rw [List.getElem?_set_self (List.getElem?_eq_some_iff.mp hS).1] at e
   cases e
   rw [hl]
   exact hr.wf m c hS
  ·rw [List.getElem?_set_ne (Ne.symm h)] at e
   exact hr.wf m d e
 ·by_cases h:m=n
  ·subst h
   rw [List.getElem?_set_self (List.getElem?_eq_some_iff.mp hS).1] at e
   cases e
   have f:w.ρ[m]?=some b:=f
   rw [ha] at f
   cases f
   exact .inr ⟨hF,hc⟩
  ·rw [List.getElem?_set_ne (Ne.symm h)] at e
   have ne:b≠a:=fun z=>by
    subst z
    exact h (qc0 hr.inj f ha)
   rcases hr.cell m d b e f with h' | ⟨h1,h2⟩
   ·exact .inl h'
   ·exact .inr ⟨h1,keep ne h2⟩
 ·by_cases h:b=a
  ·subst h
   exact ⟨o,upd_same⟩
  ·rw [upd_ne h]
   exact hr.trk m b e
 ·by_cases h:m=n
  ·subst h
   rw [List.getElem?_set_self (List.getElem?_eq_some_iff.mp hS).1] at e
   cases e
   cases ht
  ·rw [List.getElem?_set_ne (Ne.symm h)] at e
   obtain ⟨vs,h1,h2,h3⟩:=hr.tup m ws b e f
   exact ⟨vs,h1,h2.monoV (w':=⟨w.ρ,w.F,⟨w.b.o,w.b.lk⟩⟩) (LeV.same rfl rfl rfl),h3⟩
theorem qm1 {ws:List (Key × W)} {vs:List (Key × V)} {b:Bk} (h:qak K w ws vs):qak K ⟨w.ρ,w.F,b⟩ ws vs:=h
theorem qkF {ws:List (List Key × W)} {vs:List (List Key × V)} {b:Bk} (h:qak K w ws vs):qak K ⟨w.ρ,w.F,b⟩ ws vs:=h
theorem qeW (hr:HRel K S w H) {a:Addr} (hf:∀ ob u,H a≠some (.frz ob u)):∀ o,(a,o)∉w.b.lk:=fun o h=>by
 obtain ⟨h1,ob,u,rfl⟩:=hr.lks a o h
 exact hf ob u h1
theorem HRel.unl (hr:HRel K S w H) {n:Nat} {a:Addr} {S':qaa} {od:Obj} {u:HO} {lk0:List (Addr × HO)} (ha:w.ρ[n]?=some a) (hb:w.b.lk=(a,.frz od u)::lk0) (no:∀ o,(a,o)∉lk0) (e:unlC n S=.ok S') :
  H a=some (.frz od u)∧HRel K S' ⟨w.ρ,w.F,⟨w.b.o,lk0⟩⟩ (upd H a u):=by
 have hH:H a=some (.frz od u):=(hr.lks a (.frz od u) (by rw [hb];exact List.mem_cons_self)).1
 refine ⟨hH,?_⟩
 have same:∀ {o:HO},(a,o)∈w.b.lk→o=.frz od u:=fun {o} h=>by
  rw [hb] at h
  rcases List.mem_cons.mp h with h | h
  ·exact (Prod.mk.inj h).2
  ·exact absurd h (no o)
 have back:∀ (x:Addr) (z:HO),(x,z)∈lk0→upd H a u x=some z∧∃ ob y,z=.frz ob y:=fun x z h=>by
  have hx:x≠a:=fun e=>no z (by rw [← e];exact h)
  rw [upd_ne hx]
  exact hr.lks x z (by rw [hb];exact List.mem_cons_of_mem _ h)
 have kept:∀ x z,(x,z)∈w.b.lk→x≠a→(x,z)∈lk0:=fun x z h hx=>by
  rw [hb] at h
  rcases List.mem_cons.mp h with h | h
  ·exact absurd (Prod.mk.inj h).1 hx
  ·exact h
 unfold unlC at e
 split at e
 ·rename_i kvs hS
  cases e
  rcases hr.cell n _ a hS ha with z | ⟨hF,kvs',od',h1,h2,h3⟩
  ·cases z
  ·have eu:=same h1
   cases eu
   exact hr.relock hS ha hF (fun _=>rfl) rfl ⟨kvs',upd_same,qm1 h2,h3⟩ kept back
 ·rename_i kvs hS
  cases e
  rcases hr.cell n _ a hS ha with z | ⟨hF,kvs',od',h1,h2,h3⟩
  ·cases z
  ·have eu:=same h1
   cases eu
   exact hr.relock hS ha hF (fun _=>rfl) rfl ⟨kvs',upd_same,qkF h2,h3⟩ kept back
 ·cases e
end
def UnZ (X:Cx) (Q:Hp→Prop) (H:Hp):Prop:=Q H∨∃ d od u,H d=some (.frz od u)∧(∀ o' u',X.H_0 d≠some (.frz o' u'))∧Q (upd H d u)
def tUnE (X:Cx) (t:TE):TE:=fun σ H Q=>t σ H fun v H'=>UnZ X (Q v) H'
def tUnS (X:Cx) (t:TS):TS:=fun D σ H=>t ⟨fun σ' H'=>UnZ X (D.nx σ') H',fun v H'=>UnZ X (D.rt v) H',fun σ' H'=>UnZ X (D.bk σ') H',fun σ' H'=>UnZ X (D.ct σ') H'⟩ σ H
theorem UnZ.go {X:Cx} {Q:Hp→Prop} {H:Hp} {pins:List (Addr × Obj)} {σ:L2.St} {s:Shared} (h:UnZ X Q H) (I:L2.Inv X pins σ H s):∃ H',L2.Inv X pins σ H' s∧Q H':=by
 rcases h with h | ⟨d,od,u,h1,h2,h3⟩
 ·exact ⟨H,I,h⟩
 ·exact ⟨_,I.unlock h1 h2,h3⟩
theorem qjZ {X:Cx} {e:Expr} {t:TE} (h:PE X e t):PE X e (tUnE X t):=⟨fun pins s σ H Q I q=>by
 refine thn (h.run pins s σ H _ I q) fun v s1 ⟨x,H1,I1,r,z⟩=>?_
 obtain ⟨H',I2,z⟩:=z.go I1
 exact ⟨x,H',I2,r,z⟩⟩
theorem qhS {X:Cx} {st:Stmt} {t:TS} (h:PS X st t):PS X st (tUnS X t):=⟨fun pins s σ H D I q=>by
 refine thn (h.run pins s σ H _ I q) fun f s1 q=>?_
 cases f with
 | next=>obtain ⟨σ',H1,I1,z⟩:=q;obtain ⟨H',I2,z⟩:=z.go I1;exact ⟨σ',H',I2,z⟩
 | brk=>obtain ⟨σ',H1,I1,z⟩:=q;obtain ⟨H',I2,z⟩:=z.go I1;exact ⟨σ',H',I2,z⟩
 | cont=>obtain ⟨σ',H1,I1,z⟩:=q;obtain ⟨H',I2,z⟩:=z.go I1;exact ⟨σ',H',I2,z⟩
 | ret v=>obtain ⟨x,σ',H1,I1,r,z⟩:=q;obtain ⟨H',I2,z⟩:=z.go I1;exact ⟨x,σ',H',I2,r,z⟩⟩
end LS
namespace LS
open PySem PySem.Spec PyProof.Rows L2
def qkd (K:PySem.W.Frag) (J:It) (w':Wd) (S':qaa) (H':Hp) (i:Nat) (x:W):Prop:=J.go i H'∧∀ v H2,J.yld i H' v H2→∃ w2,LeW w' w2∧HRel K S' w2 H2∧RepW K w2 x v
def ItOk (K:PySem.W.Frag) (w:Wd) (I:Iter) (J:It):Prop:=match I with
 | .st xs=>∀ (w':Wd) (S':qaa) (H':Hp) (i:Nat),LeV w w'→HRel K S' w' H'→(∀ x,xs[i]?=some x→qkd K J w' S' H' i x)∧(xs.length=i→J.stop i H')
 | .cl n=>∀ (w':Wd) (S':qaa) (H':Hp) (i:Nat) (xs:List W),LeV w w'→HRel K S' w' H'→S'[n]?=some (.lst xs)→(∀ x,xs[i]?=some x→qkd K J w' S' H' i x)∧(xs[i]?=none→J.stop i H')
 | .lk _ _=>False
theorem ItOk.mono {K:PySem.W.Frag} {w w1:Wd} {I:Iter} {J:It} (h:ItOk K w I J) (l:LeV w w1):ItOk K w1 I J:=by
 cases I with
 | st xs=>exact fun w' S' H' i a b=>h w' S' H' i (l.trans a) b
 | cl n=>exact fun w' S' H' i xs a b c=>h w' S' H' i xs (l.trans a) b c
 | lk n xs=>exact h
def tIm (X:Cx) (C:Cn) (e:E):TI:=fun σ H R=>∃ w env S,HRel X.K S w H∧EnvRel X.K C.keep w env σ∧RdG X σ (ItOk X.K) w (evI C e env S) R
theorem RdG.cases {X:Cx} {σ:L2.St} {α β γ:Type} {rel:Wd→α→β→Prop} {w:Wd} {m:R (γ × qaa)} {k:γ × qaa→R (α × qaa)} {Q:β→Hp→Prop} (h:RdG X σ rel w (m.bind k) Q) :
  (∃ q,m=.ok q)∨∀ {δ:Type} (rel2:Wd→γ→δ→Prop) (Q2:δ→Hp→Prop),RdG X σ rel2 w m Q2:=by
 cases m with
 | ok q=>exact .inl ⟨q,rfl⟩
 | ex _ _ _=>exact .inr fun _ _=>h
 | no=>exact h.elim
theorem qgc {x:W} {S:qaa}:(qba x S).pur:=by
 unfold qba
 repeat (first | exact qaB | exact qaF | split)
theorem qf2 {xs:List W}:(qeR xs).pur:=by
 unfold qeR
 repeat (first | exact qaB | exact qaF | split)
theorem PI.pick {X:Cx} {tg e:Expr} {t:TI} (h:∀ σ H Q,t σ H Q→∃ t',PI X tg e t'∧t' σ H Q):PI X tg e t:=⟨fun pins s σ H Q I q=>by
 obtain ⟨t',p,q'⟩:=h σ H Q q
 exact p.run pins s σ H Q I q'⟩
def Lk (Q:VK) (v:V) (H:Hp):Prop:=Q v H∨∃ d u,H d=some u∧Mut (some u)∧∀ od,Q v (upd H d (.frz od u))
def tLk (t:TE):TE:=fun σ H Q=>t σ H (Lk Q)
theorem PE.lk {X:Cx} {e:Expr} {t:TE} (h:PE X e t):PE X e (tLk t):=⟨fun pins s σ H Q I hw=>by
 refine thn (h.run pins s σ H _ I hw) fun v s1 ⟨x,H1,I1,r,q⟩=>?_
 rcases q with q | ⟨d,u,hd,mu,q⟩
 ·exact ⟨x,H1,I1,r,q⟩
 ·obtain ⟨od,I2⟩:=I1.lock hd mu
  exact ⟨x,_,I2,r,q od⟩⟩
theorem qll {o:HO} {k:List (Key × V)} (h:qbA o=.dK k):o=.dK k∨∃ ob,o=.frz ob (.dK k):=by
 unfold qbA at h
 split at h
 ·cases h
  exact .inr ⟨_,rfl⟩
 ·exact .inl h
theorem qi9 {w w':Wd} {d:Addr} {ob:Obj} {k:List (Key × V)} (l:LeV w w') (h:w.F d=some (.frz ob (.dK k))):w'.F d=some (.frz ob (.dK k)):=by
 rcases l.2 d _ h with h | ⟨_,_,e,_⟩
 ·exact h
 ·cases e
theorem qmr {K:PySem.W.Frag} {F:Hp} (k:Key):RepP K F (kP k) (kV k):=by
 cases k with
 | inl i=>exact qbx
 | inr s=>exact qcb
theorem qac.at {K:PySem.W.Frag} {F:Hp}:∀ {xs:List (Key × P)} {vs:List (Key × V)} {i:Nat} {k:Key} {v:V},qac K F xs vs→vs[i]?=some (k,v)→∃ p,xs[i]?=some (k,p)∧RepP K F p v
 | [],vs,i,k,v,r,e=>by
  unfold qac at r
  subst r
  simp at e
 | (k0,p0)::xs,vs,i,k,v,r,e=>by
  unfold qac at r
  obtain ⟨v0,t,rfl,h1,h2⟩:=r
  cases i with
  | zero=>
   simp at e
   obtain ⟨rfl,rfl⟩:=e
   exact ⟨p0,rfl,h1⟩
  | succ i=>
   obtain ⟨p,e1,e2⟩:=qac.at (i:=i) h2 (by simpa using e)
   exact ⟨p,by simpa using e1,e2⟩
theorem RepP.dct_inv {K:PySem.W.Frag} {F:Hp} {kvs:List (Key × P)} {v:V} (h:RepP K F (.dct kvs) v):∃ a kvs',v=.ref a∧(F a=some (.dK kvs')∨∃ ob,F a=some (.frz ob (.dK kvs')))∧qac K F kvs kvs':=by
 unfold RepP at h
 obtain ⟨a,kvs',o,rfl,f,c,r,z⟩:=h
 refine ⟨a,kvs',rfl,?_,r⟩
 rcases qll c with rfl | ⟨ob,rfl⟩
 ·exact .inl f
 ·exact .inr ⟨ob,f⟩
theorem qnE {K:PySem.W.Frag} {S:qaa} {w:Wd} {H:Hp} {kvs:List (Key × P)} {v:V} {Q:VK} (hr:HRel K S w H) (r:RepP K w.F (.dct kvs) v)
  (q:∀ w' H' d od kvs',LeW w w'→HRel K S w' H'→v=.ref d→w'.F d=some (.frz od (.dK kvs'))→qac K w'.F kvs kvs'→Q v H'):Lk Q v H:=by
 obtain ⟨a,kvs',rfl,f,rk⟩:=r.dct_inv
 rcases f with f | ⟨ob,f⟩
 ·refine .inr ⟨a,_,hr.le a _ f,True.intro,fun od=>?_⟩
  obtain ⟨hr',lw⟩:=hr.lock (ob:=od) f
  exact q _ _ a od kvs' lw hr' rfl upd_same (qac.mono lw.2 _ rk)
 ·exact .inl (q w H a ob kvs' (LeW.refl _) hr rfl f rk)
section
variable {X:Cx} {C:Cn} {ct:Ct} {k:Nat} {pos:Pos} {tg:Expr}
theorem qld {K:PySem.W.Frag} {w:Wd} {a:Addr} {vs:List V} {xs:List P} (h:w.F a=some (.lst vs)) (r:qab K w.F xs vs):ItOk K w (.st (xs.map .v)) (Itl K a):=by
 intro w' S' H' i lw hr
 have h':w'.F a=some (.lst vs):=by
  rcases lw.2 a _ h with h | ⟨_,_,e,_⟩
  ·exact h
  ·cases e
 have hH:SqL K H' a vs:=SqL.of (hr.le a _ h')
 refine ⟨fun x e=>?_,fun e=>⟨vs,hH,?_⟩⟩
 ·rw [List.getElem?_map] at e
  cases hx:xs[i]? with
  | none=>rw [hx] at e;cases e
  | some p=>
   rw [hx] at e
   cases e
   obtain ⟨v,hv,rv⟩:=qab.get r hx
   refine ⟨⟨vs,v,hH,hv⟩,fun v2 H2 y=>?_⟩
   obtain ⟨rfl,y⟩:=y
   have:=y vs hH
   rw [hv] at this
   cases this
   exact ⟨w',LeW.refl _,hr,RepP.mono lw.2 _ rv⟩
 ·rw [← r.len]
  simpa using Nat.le_of_eq e
theorem qmw {K:PySem.W.Frag} {w:Wd} {a:Addr} {vs:List V} {xs:List P} (h:SqT K w.F a vs) (r:qab K w.F xs vs):ItOk K w (.st (xs.map .v)) (Itt K a):=by
 intro w' S' H' i lw hr
 have hH:SqT K H' a vs:=hr.le.sqT (lw.2.c.sqT h)
 refine ⟨fun x e=>?_,fun e=>⟨vs,hH,?_⟩⟩
 ·rw [List.getElem?_map] at e
  cases hx:xs[i]? with
  | none=>rw [hx] at e;cases e
  | some p=>
   rw [hx] at e
   cases e
   obtain ⟨v,hv,rv⟩:=qab.get r hx
   refine ⟨⟨vs,v,hH,hv⟩,fun v2 H2 y=>?_⟩
   obtain ⟨rfl,y⟩:=y
   have:=y vs hH
   rw [hv] at this
   cases this
   exact ⟨w',LeW.refl _,hr,RepP.mono lw.2 _ rv⟩
 ·rw [← r.len]
  simpa using Nat.le_of_eq e
theorem qkT {K:PySem.W.Frag} {w:Wd} {a:Addr} {n:Nat} (h:w.ρ[n]?=some a):ItOk K w (.cl n) (Itl K a):=by
 intro w' S' H' i xs lw hr hS
 have ha:=qlN lw h
 rcases hr.cell n _ a hS ha with z | ⟨_,vs,ho,rr,_⟩
 ·cases z
 ·have hH:SqL K H' a vs:=SqL.of ho
  refine ⟨fun x e=>?_,fun e=>⟨vs,hH,?_⟩⟩
  ·obtain ⟨v,hv,rv⟩:=qdM rr e
   refine ⟨⟨vs,v,hH,hv⟩,fun v2 H2 y=>?_⟩
   obtain ⟨rfl,y⟩:=y
   have:=y vs hH
   rw [hv] at this
   cases this
   exact ⟨w',LeW.refl _,hr,rv⟩
  ·rw [← Paired.length rr]
   exact List.getElem?_eq_none_iff.mp e
theorem qk0 {K:PySem.W.Frag} {w:Wd} {a:Addr} {vs:List V} {xs:List W} (h:w.F a=some (.tup vs)) (r:qaf K w xs vs):ItOk K w (.st xs) (Itt K a):=by
 intro w' S' H' i lw hr
 have hH:SqT K H' a vs:=hr.le.sqT (lw.2.c.sqT (.inl (.inl h)))
 refine ⟨fun x e=>?_,fun e=>⟨vs,hH,?_⟩⟩
 ·obtain ⟨v,hv,rv⟩:=qdM r e
  refine ⟨⟨vs,v,hH,hv⟩,fun v2 H2 y=>?_⟩
  obtain ⟨rfl,y⟩:=y
  have:=y vs hH
  rw [hv] at this
  cases this
  exact ⟨w',LeW.refl _,hr,rv.monoV lw⟩
 ·rw [← Paired.length r]
  exact Nat.le_of_eq e
theorem qnA {K:PySem.W.Frag} {w:Wd} {s:Str}:ItOk K w (.st (s.cps.toList.map fun c=>.v (.str ⟨#[c]⟩))) (Its s):=by
 intro w' S' H' i lw hr
 refine ⟨fun x e=>?_,fun e=>?_⟩
 ·rw [List.getElem?_map] at e
  cases hx:s.cps.toList[i]? with
  | none=>rw [hx] at e;cases e
  | some c=>
   rw [hx] at e
   cases e
   have hi:i < s.cps.size:=by
    have:=(List.getElem?_eq_some_iff.mp hx).1
    simpa using this
   refine ⟨hi,fun v H2 y=>?_⟩
   obtain ⟨rfl,c',e1,rfl⟩:=y
   have e2:some c'=some c:=by
    rw [← e1,← hx]
    simp
   cases e2
   exact ⟨w',LeW.refl _,hr,(qcb:RepP K w'.F (.str _) _)⟩
 ·show s.cps.size≤i
  simpa using Nat.le_of_eq e
theorem qlp {K:PySem.W.Frag} {w:Wd} {d:Addr} {od:Obj} {kvs:List (Key × P)} {kvs':List (Key × V)} (h:w.F d=some (.frz od (.dK kvs'))) (r:qac K w.F kvs kvs'):ItOk K w (.st (kvs.map fun q=>.v (kP q.1))) (Itk d od kvs'):=by
 intro w' S' H' i lw hr
 have hH:=hr.le d _ (qi9 lw h)
 refine ⟨fun x e=>?_,fun e=>⟨hH,?_⟩⟩
 ·rw [List.getElem?_map] at e
  cases hx:kvs[i]? with
  | none=>rw [hx] at e;cases e
  | some q=>
   rw [hx] at e
   cases e
   have hi:i < kvs'.length:=by rw [← r.len];exact qbt hx
   refine ⟨⟨hH,hi⟩,fun v H2 y=>?_⟩
   obtain ⟨rfl,k,z,e1,rfl⟩:=y
   obtain ⟨p,e2,e3⟩:=r.at e1
   rw [hx] at e2
   cases e2
   exact ⟨w',LeW.refl _,hr,qmr k⟩
 ·rw [← r.len]
  simpa using Nat.le_of_eq e
theorem qkp {K:PySem.W.Frag} {w:Wd} {lo:Int} {n:Nat}:ItOk K w (.st ((List.range n).map fun (i:Nat)=>W.v (.int (lo + (i:Int))))) (Itr lo n):=by
 intro w' S' H' i lw hr
 refine ⟨fun x e=>?_,fun e=>?_⟩
 ·rw [List.getElem?_map] at e
  cases hx:(List.range n)[i]? with
  | none=>rw [hx] at e;cases e
  | some c=>
   rw [hx] at e
   cases e
   have hi:i < n:=by
    have:=qbt hx
    simpa using this
   rw [List.getElem?_range hi] at hx
   cases hx
   refine ⟨hi,fun v H2 y=>?_⟩
   obtain ⟨rfl,rfl⟩:=y
   exact ⟨w',LeW.refl _,hr,(qbx:RepP K w'.F (.int _) _)⟩
 ·show n≤i
  simpa using Nat.le_of_eq e
theorem i_it {a:E} {e:Expr} (ha:PE X e (tE X C a)):PI X tg e (tIm X C (.it a)):=by
 refine PI.pick fun σ H R q=>?_
 obtain ⟨w,env,S,hr,he,q⟩:=q
 simp only [evI] at q
 rcases q.cases.symm with hx | ⟨⟨x1,S1⟩,e1⟩
 ·exact ⟨_,pi_list ha,w,env,S,hr,he,hx _ _⟩
 rw [e1] at q
 have q:RdG X σ (ItOk X.K) w ((qba x1 S1).bind fun z=>.ok (z,S1)) R:=q
 obtain ⟨q0,e2⟩:=q.pure_ok (qah qgc fun _=>qaB)
 rw [e2] at q
 obtain ⟨I,e3,e4⟩:=qaj e2
 cases e4
 unfold qba at e3
 split at e3
 ·cases e3
  refine ⟨_,pi_list ha,w,env,S,hr,he,?_⟩
  rw [e1]
  intro w' v H' l1 hr1 r1
  have r1':RepP X.K w'.F (.lst _) v:=r1
  unfold RepP at r1'
  obtain ⟨ad,vs,rfl,ho,rs,z⟩:=r1'
  exact ⟨ad,rfl,⟨vs,SqL.of (hr1.le _ _ ho)⟩,q w' _ _ l1 hr1 (qld ho rs)⟩
 ·cases e3
  refine ⟨_,pi_tup ha,w,env,S,hr,he,?_⟩
  rw [e1]
  intro w' v H' l1 hr1 r1
  have r1':RepP X.K w'.F (.tup _) v:=r1
  unfold RepP at r1'
  obtain ⟨ad,vs,rfl,ho,rs,z⟩:=r1'
  exact ⟨ad,rfl,⟨vs,hr1.le.sqT ho⟩,q w' _ _ l1 hr1 (qmw ho rs)⟩
 ·cases e3
  refine ⟨_,pi_str ha,w,env,S,hr,he,?_⟩
  rw [e1]
  intro w' v H' l1 hr1 r1
  have r1':RepP X.K w'.F (.str _) v:=r1
  unfold RepP at r1'
  subst r1'
  exact ⟨_,rfl,q w' _ _ l1 hr1 qnA⟩
 ·cases e3
  refine ⟨_,pi_keys (PE.lk ha),w,env,S,hr,he,?_⟩
  rw [e1]
  intro w' v H' l1 hr1 r1
  refine qnE hr1 r1 fun w2 H2 d od kvs' l2 hr2 ev f rk=>⟨d,od,ev,.inl ⟨kvs',hr2.le _ _ f,?_⟩⟩
  exact q w2 _ _ (l1.trans l2) hr2 (qlp f rk)
 ·split at e3
  ·cases e3
   refine ⟨_,pi_list ha,w,env,S,hr,he,?_⟩
   rw [e1]
   intro w' v H' l1 hr1 r1
   obtain ⟨ad,hn,rfl⟩:=r1
   rename_i n xs hS
   rcases hr1.cell _ _ ad hS hn with z | ⟨_,vs,ho,rr,_⟩
   ·cases z
   ·exact ⟨ad,rfl,⟨vs,SqL.of ho⟩,q w' _ _ l1 hr1 (qkT hn)⟩
  ·cases e3
   refine ⟨_,pi_tup ha,w,env,S,hr,he,?_⟩
   rw [e1]
   intro w' v H' l1 hr1 r1
   obtain ⟨ad,hn,rfl⟩:=r1
   rename_i n ws hS
   obtain ⟨vs,ho,rr,_⟩:=hr1.tup _ _ ad hS hn
   exact ⟨ad,rfl,⟨vs,hr1.le.sqT (.inl (.inl ho))⟩,q w' _ _ l1 hr1 (qk0 ho rr)⟩
  ·cases e3
 ·cases e3
theorem qgb:∀ {l:E} {es:List Expr} {env:Env} {S:qaa} {q:List W × qaa},chL ct l es=true→es.all qae=true→evL C l env S=.ok q→q.1.length=es.length
 | .nil,[],env,S,q,h,hs,e=>by
  simp only [evL] at e
  cases e
  rfl
 | .cons a l,x::es,env,S,q,h,hs,e=>by
  simp only [evL] at e
  obtain ⟨q1,e1,e2⟩:=qaj e
  obtain ⟨q2,e3,e4⟩:=qaj e2
  cases e4
  simp only [chL,Bool.and_eq_true] at h
  simp only [List.all_cons,Bool.and_eq_true] at hs
  have:=qgb h.2 hs.2 e3
  simp [this]
 | .star a l,.Starred x p::es,env,S,q,h,hs,e=>by
  simp only [List.all_cons,Bool.and_eq_true] at hs
  cases hs.1
theorem qnq (G:Gd C ct k X) {l:E} {e:Expr} {g:Str} {p:Pos} (hg:gB ct "range" g=true) (hs:qae e=true) (hc:chL ct l [e]=true) (hl:PA X [e] (tAm X C l)):PI X tg (.Call (.Name g p) [e] [] pos) (tIm X C (.rng l)):=by
 obtain ⟨rfl,gl,_⟩:=qcH G hg
 refine PI.pick fun σ H R q=>⟨_,pi_range1 gl (G.blt "range" (by decide)) hl (by rw [qai hs];rfl),?_⟩
 obtain ⟨w,env,S,hr,he,q⟩:=q
 simp only [evI] at q
 rcases q.cases.symm with hx | ⟨⟨x1,S1⟩,e1⟩
 ·exact ⟨w,env,S,hr,he,hx _ _⟩
 rw [e1] at q
 have q:RdG X σ (ItOk X.K) w ((qeR x1).bind fun z=>.ok (z,S1)) R:=q
 obtain ⟨q0,e2⟩:=q.pure_ok (qah qf2 fun _=>qaB)
 rw [e2] at q
 obtain ⟨I,e3,e4⟩:=qaj e2
 cases e4
 have hlen:x1.length=1:=qgb hc (by simp [hs]) e1
 refine ⟨w,env,S,hr,he,?_⟩
 rw [e1]
 intro w1 vs H1 l1 hr1 r1
 unfold qeR at e3
 split at e3
 ·rename_i j
  obtain ⟨u,rfl,ru⟩:=qay r1
  have ru':RepP X.K w1.F (.int j) u:=ru
  unfold RepP at ru'
  subst ru'
  split at e3
  ·rename_i hj
   cases e3
   exact ⟨j,rfl,hj.1,hj.2,q w1 _ _ l1 hr1 qkp⟩
  ·cases e3
 ·simp at hlen
 ·cases e3
theorem qm6 (G:Gd C ct k X) {l:E} {e e':Expr} {g:Str} {p:Pos} (hg:gB ct "range" g=true) (hs:qae e=true) (hs2:qae e'=true) (hc:chL ct l [e,e']=true) (hl:PA X [e,e'] (tAm X C l)):PI X tg (.Call (.Name g p) [e,e'] [] pos) (tIm X C (.rng l)):=by
 obtain ⟨rfl,gl,_⟩:=qcH G hg
 refine PI.pick fun σ H R q=>⟨_,pi_range2 gl (G.blt "range" (by decide)) hl (by rw [qai hs,qai hs2];rfl) (by rw [qai hs2];rfl),?_⟩
 obtain ⟨w,env,S,hr,he,q⟩:=q
 simp only [evI] at q
 rcases q.cases.symm with hx | ⟨⟨x1,S1⟩,e1⟩
 ·exact ⟨w,env,S,hr,he,hx _ _⟩
 rw [e1] at q
 have q:RdG X σ (ItOk X.K) w ((qeR x1).bind fun z=>.ok (z,S1)) R:=q
 obtain ⟨q0,e2⟩:=q.pure_ok (qah qf2 fun _=>qaB)
 rw [e2] at q
 obtain ⟨I,e3,e4⟩:=qaj e2
 cases e4
 have hlen:x1.length=2:=qgb hc (by simp [hs,hs2]) e1
 refine ⟨w,env,S,hr,he,?_⟩
 rw [e1]
 intro w1 vs H1 l1 hr1 r1
 unfold qeR at e3
 split at e3
 ·simp at hlen
 ·rename_i a j
  cases r1 with
  | cons ra rt=>
   obtain ⟨u,rfl,ru⟩:=qay rt
   have ru':RepP X.K w1.F (.int j) u:=ru
   unfold RepP at ru'
   subst ru'
   have ra':RepP X.K w1.F (.int a) _:=ra
   unfold RepP at ra'
   subst ra'
   split at e3
   ·rename_i hj
    cases e3
    exact ⟨a,j,rfl,hj,q w1 _ _ l1 hr1 qkp⟩
   ·cases e3
 ·cases e3
end
end LS
namespace LS
open PySem PySem.Spec PyProof.Rows L2
def qiv (K:PySem.W.Frag) (w:Wd) (xs:List Itm) (J:It):Prop:=∀ (w':Wd) (S':qaa) (H':Hp) (i:Nat),LeV w w'→HRel K S' w' H'→
 (∀ x,xs[i]?=some x→J.go i H'∧∀ v H2,J.yld i H' v H2→∀ q,qgG x S'=.ok q→∃ w2,LeW w' w2∧HRel K q.2 w2 H2∧RepW K w2 q.1 v)∧(xs.length=i→J.stop i H')
section
variable {K:PySem.W.Frag} {w:Wd} {H:Hp} {S:qaa}
theorem qiv.mono {K:PySem.W.Frag} {w w':Wd} {xs:List Itm} {J:It} (h:qiv K w xs J) (l:LeV w w'):qiv K w' xs J:=fun w2 S' H' i l2 hr=>h w2 S' H' i (l.trans l2) hr
theorem qak.at {κ:Type}:∀ {xs:List (κ × W)} {vs:List (κ × V)} {i:Nat} {k:κ} {v:V},qak K w xs vs→vs[i]?=some (k,v)→∃ p,xs[i]?=some (k,p)∧RepW K w p v
 | _,_,i,k,v,.nil,e=>by simp at e
 | x::xs,y::ys,0,k,v,.cons ⟨e1,r⟩ t,e=>by
  simp at e
  subst e
  obtain ⟨k0,x⟩:=x
  exact ⟨x,by simp at e1;subst e1;rfl,r⟩
 | x::xs,y::ys,i + 1,k,v,.cons _ t,e=>by
  obtain ⟨p,h1,h2⟩:=qak.at (i:=i) t (by simpa using e)
  exact ⟨p,by simpa using h1,h2⟩
theorem qf4 {turn:W→qaa→R qaa} {xs:List Itm} {J:It} {w1:Wd} {S1 S2:qaa} {H1:Hp} {Qd:Hp→Prop} {B:V→Hp→(Hp→Prop)→Prop} (hI:qiv K w1 xs J) (hr:HRel K S1 w1 H1) (e:qd6 turn xs S1=.ok S2)
  (hQ:∀ w' H',LeW w1 w'→HRel K S2 w' H'→Qd H')
  (hB:∀ w' S' x v H' S'',LeW w1 w'→HRel K S' w' H'→RepW K w' x v→turn x S'=.ok S''→∀ N:Hp→Prop,(∀ w'' H'',LeW w' w''→HRel K S'' w'' H''→N H'')→B v H' N) :
  ∃ W:Nat→Nat→Hp→Prop,(∃ m,W 0 m H1)∧∀ i m H,W i m H→(J.stop i H∧Qd H)∨(J.go i H∧∃ Nx:Hp→Prop,(∀ H',Nx H'→∃ m',m' < m∧W (i + 1) m' H')∧∀ x H',J.yld i H x H'→B x H' Nx):=by
 refine ⟨fun i m H=>m + i=xs.length∧∃ w' S',LeW w1 w'∧HRel K S' w' H∧qd6 turn (xs.drop i) S'=.ok S2,⟨xs.length,by simp,w1,S1,LeW.refl _,hr,e⟩,?_⟩
 rintro i m H ⟨hm,w',S',lw,hr',el⟩
 obtain ⟨it,st⟩:=hI w' S' H i lw.v hr'
 cases hx:xs[i]? with
 | none=>
  have hi:=List.getElem?_eq_none_iff.mp hx
  rw [List.drop_eq_nil_of_le hi] at el
  cases el
  exact .inl ⟨st (by omega),hQ w' H lw hr'⟩
 | some x=>
  have hi:=qbt hx
  have hd:xs.drop i=x::xs.drop (i + 1):=by
   rw [List.drop_eq_getElem_cons hi]
   congr 1
   rw [List.getElem?_eq_getElem hi] at hx
   cases hx
   rfl
  rw [hd] at el
  obtain ⟨q,e0,el⟩:=qaj (show (qgG x S').bind (fun q=>(turn q.1 q.2).bind fun S=>qd6 turn (xs.drop (i + 1)) S)=.ok S2 from el)
  obtain ⟨S3,e3,e4⟩:=qaj el
  obtain ⟨go,y⟩:=it x hx
  refine .inr ⟨go,fun H'=>∃ w'',LeW w1 w''∧HRel K S3 w'' H',fun H' ⟨w'',l2,h2⟩=>⟨m - 1,by omega,by omega,w'',S3,l2,h2,e4⟩,fun v H' yl=>?_⟩
  obtain ⟨w2,l2,hr2,r2⟩:=y v H' yl q e0
  exact hB w2 q.2 q.1 v H' S3 (lw.trans l2) hr2 r2 e3 _ fun w'' H'' l3 h3=>⟨w'',(lw.trans l2).trans l3,h3⟩
end
end LS
namespace LS
open PySem PySem.Spec PyProof.Rows L2
def tgs:List Nat→TGs
 | []=>gNil
 | i::is=>gCons (gName i) (tgs is)
def tG (K:PySem.W.Frag):Tg→TG
 | .name i=>gName i
 | .tup is=>fun v σ H Q=>gTup K is.length (tgs is) v σ H Q∨gLst K is.length (tgs is) v σ H Q
theorem qdr {σ:L2.St} {i:Nat} {x:Option V}:∀ {vs:List Nat},i∈vs→wipe (σ.set i x) vs=wipe σ vs
 | v::vs,h=>by
  unfold wipe
  by_cases hv:i∈vs
  ·rw [qdr hv]
  ·have e:i=v:=by
    rcases List.mem_cons.mp h with h | h
    ·exact h
    ·exact absurd h hv
   subst e
   have out:∀ {us:List Nat},i∉us→wipe (σ.set i x) us=(wipe σ us).set i x:=fun {us} hu=>by
    induction us with
    | nil=>rfl
    | cons u us ih=>
     unfold wipe
     rw [ih (fun z=>hu (List.mem_cons_of_mem _ z)),List.set_comm _ _ (fun z=>hu (by rw [z];exact List.mem_cons_self))]
   rw [out hv,List.set_set]
theorem qcl {σ:L2.St}:∀ {us vs:List Nat},(∀ i∈us,i∈vs)→wipe (wipe σ us) vs=wipe σ vs
 | [],vs,_=>rfl
 | u::us,vs,h=>by
  show wipe ((wipe σ us).set u none) vs=_
  rw [qdr (h u List.mem_cons_self),qcl fun i hi=>h i (List.mem_cons_of_mem _ hi)]
theorem qcp {K:PySem.W.Frag} {kp:Bool} {w:Wd}:∀ {is:List Nat} {ws:List W} {xs:List V} {env env':Env} {σ:L2.St} {H:Hp} {Q:L2.St→Hp→Prop},qaT env is ws=some env'→qaf K w ws xs→EnvRel K kp w env σ→
  (∀ σ',EnvRel K kp w env' σ'→(∀ vs,(∀ i∈is,i∈vs)→wipe σ' vs=wipe σ vs)→Q σ' H)→tgs is xs σ H Q
 | [],[],_,env,env',σ,H,Q,e,.nil,he,q=>by
  cases e
  exact ⟨rfl,q σ he fun _ _=>rfl⟩
 | i::is,w0::ws,_,env,env',σ,H,Q,e,.cons r t,he,q=>by
  refine ⟨_,_,rfl,?_⟩
  show tgs is _ (σ.set i (some _)) H Q
  refine qcp (env:=env.set i (some w0)) e t (he.set r) fun σ' h1 h2=>q σ' h1 fun vs hv=>?_
  rw [h2 vs fun j hj=>hv j (List.mem_cons_of_mem _ hj),qdr (hv i List.mem_cons_self)]
 | [],_::_,_,env,env',σ,H,Q,e,_,he,q=>by simp [qaT] at e
 | _::_,[],_,env,env',σ,H,Q,e,_,he,q=>by simp [qaT] at e
theorem qbN:∀ {is:List Nat} {ws:List W} {env env':Env},qaT env is ws=some env'→ws.length=is.length
 | [],[],_,_,_=>rfl
 | i::is,w0::ws,env,env',e=>by
  have:=qbN (env:=env.set i (some w0)) (env':=env') (is:=is) (ws:=ws) e
  simp [this]
 | [],_::_,env,env',e=>by simp [qaT] at e
 | _::_,[],env,env',e=>by simp [qaT] at e
theorem qdx {K:PySem.W.Frag} {kp:Bool} {w:Wd} {tg:Tg} {x:W} {v:V} {env env':Env} {σ:L2.St} {S:qaa} {H:Hp} {Q:L2.St→Hp→Prop} (e:qbp tg x S env=some env') (hr:HRel K S w H) (r:RepW K w x v) (he:EnvRel K kp w env σ)
  (q:∀ σ',EnvRel K kp w env' σ'→(∀ vs,(∀ i∈tg.slots,i∈vs)→wipe σ' vs=wipe σ vs)→Q σ' H):tG K tg v σ H Q:=by
 cases tg with
 | name i=>
  have e:some (env.set i (some x))=some env':=by cases x <;> exact e
  cases e
  exact q _ (he.set r) fun vs hv=>qdr (hv i List.mem_cons_self)
 | tup is=>
  cases x with
  | c n=>
   have e:(match S[n]? with
    | some (.lst ws)=>qaT env is ws
    | some (.tup ws)=>qaT env is ws
    | _=>none)=some env':=e
   split at e
   ·rename_i ws hS
    obtain ⟨ad,hn,rfl⟩:=r
    rcases hr.cell n _ ad hS hn with z | ⟨_,vs,ho,rr,_⟩
    ·cases z
    ·refine .inr ⟨ad,vs,rfl,SqL.of ho,?_,qcp e rr he q⟩
     have:=qbN e
     rw [← Paired.length rr,this]
   ·rename_i ws hS
    obtain ⟨ad,hn,rfl⟩:=r
    obtain ⟨vs,ho,rr,_⟩:=hr.tup n ws ad hS hn
    refine .inl ⟨ad,vs,rfl,SqT.of (hr.le _ _ ho),?_,qcp e rr he q⟩
    have:=qbN e
    rw [← Paired.length rr,this]
   ·cases e
  | v pp=>
  have e:qeh (.tup is) (.v pp) env=some env':=e
  unfold qeh at e
  simp only at e
  split at e
  ·rename_i ps hps
   cases hps
   have r':RepP K w.F (.tup ps) v:=r
   unfold RepP at r'
   obtain ⟨a,vs,rfl,ho,rs,z⟩:=r'
   refine .inl ⟨a,vs,rfl,hr.le.sqT ho,?_,qcp e (qbD rs) he q⟩
   have:=qbN e
   rw [List.length_map] at this
   rw [← rs.len,this]
  ·rename_i ps hps
   cases hps
   have r':RepP K w.F (.lst ps) v:=r
   unfold RepP at r'
   obtain ⟨a,vs,rfl,ho,rs,z⟩:=r'
   refine .inr ⟨a,vs,rfl,SqL.of (hr.le _ _ ho),?_,qcp e (qbD rs) he q⟩
   have:=qbN e
   rw [List.length_map] at this
   rw [← rs.len,this]
  ·cases e
section
variable {X:Cx} {C:Cn} {ct:Ct} {k:Nat} {pos:Pos} {tg:Expr}
theorem qio (G:Gd C ct k X):∀ {is:List Nat} {es:List Expr},tgB.go ct is es=true→PGs X es (tgs is)∧(assignEach es X.env).length=is.length∧(assignEach es X.env).findIdx? (·.1)=none
 | [],[],_=>⟨pgs_nil,rfl,rfl⟩
 | i::is,e::es,h=>by
  cases e with
  | Name x p=>
   simp only [tgB.go,Bool.and_eq_true] at h
   obtain ⟨h1,h2,h3⟩:=qio G h.2
   obtain ⟨l1,l2⟩:=qia G h.1.2
   refine ⟨pgs_cons (pg_name G.nd' (qd8 G h.1.1) l1 l2) h1,?_,?_⟩
   ·show (assignEach es X.env).length + 1=_
    rw [h2]
    rfl
   ·show (((false,assign (.Name x p) X.env)::assignEach es X.env).findIdx? (·.1))=none
    rw [List.findIdx?_cons]
    simp only [Bool.false_eq_true,if_false]
    rw [h3]
    rfl
  | _=>simp [tgB.go] at h
 | [],_::_,h=>by simp [tgB.go] at h
 | _::_,[],h=>by simp [tgB.go] at h
theorem qms {es:List Expr} {kk n:Nat} {t:TGs} (hc:X.calm=true) (h:PGs X es t) (hn:(assignEach es X.env).length=n) (hst:(assignEach es X.env).findIdx? (·.1)=none) :
  PG X (.Tuple es kk pos) (fun v σ H Q=>gTup X.K n t v σ H Q∨gLst X.K n t v σ H Q):=⟨fun pins s σ H v u Q I r hw=>by
 rcases hw with hw | hw
 ·exact (pg_tup hc h hn hst).run pins s σ H v u Q I r hw
 ·exact (pg_lst hc h hn hst).run pins s σ H v u Q I r hw⟩
theorem qkS (G:Gd C ct k X) {t:Tg} {e:Expr} (h:tgB ct t e=true):PG X e (tG X.K t):=by
 cases t with
 | name i=>
  cases e with
  | Name x p=>
   simp only [tgB,Bool.and_eq_true] at h
   obtain ⟨l1,l2⟩:=qia G h.2
   exact pg_name G.nd' (qd8 G h.1) l1 l2
  | _=>simp [tgB] at h
 | tup is=>
  cases e with
  | Tuple es j p=>
   have h:(ct.calm && tgB.go ct is es)=true:=h
   obtain ⟨hc,h⟩:=Bool.and_eq_true_iff.mp h
   obtain ⟨h1,h2,h3⟩:=qio G h
   exact qms (G.calm hc) h1 h2 h3
  | _=>simp [tgB] at h
end
theorem qg6 {K:PySem.W.Frag} {fu:Nat} {turn:W→qaa→R qaa} {I:Iter} {J:It} {w1:Wd} {S1 S2:qaa} {H1:Hp} {Qd:Hp→Prop} {B:V→Hp→(Hp→Prop)→Prop} (hI:ItOk K w1 I J) (hr:HRel K S1 w1 H1) (e:qhA fu turn I S1=.ok S2)
  (hQ:∀ w' H',LeW w1 w'→HRel K S2 w' H'→Qd H')
  (hB:∀ w' S' x v H' S'',LeW w1 w'→HRel K S' w' H'→RepW K w' x v→turn x S'=.ok S''→∀ N:Hp→Prop,(∀ w'' H'',LeW w' w''→HRel K S'' w'' H''→N H'')→B v H' N) :
  ∃ W:Nat→Nat→Hp→Prop,(∃ m,W 0 m H1)∧∀ i m H,W i m H→(J.stop i H∧Qd H)∨(J.go i H∧∃ Nx:Hp→Prop,(∀ H',Nx H'→∃ m',m' < m∧W (i + 1) m' H')∧∀ x H',J.yld i H x H'→B x H' Nx):=by
 cases I with
 | st xs=>
  refine ⟨fun i m H=>m + i=xs.length∧∃ w' S',LeW w1 w'∧HRel K S' w' H∧qee turn (xs.drop i) S'=.ok S2,⟨xs.length,by simp,w1,S1,LeW.refl _,hr,e⟩,?_⟩
  rintro i m H ⟨hm,w',S',lw,hr',el⟩
  obtain ⟨it,st⟩:=hI w' S' H i lw.v hr'
  cases hx:xs[i]? with
  | none=>
   have hi:=List.getElem?_eq_none_iff.mp hx
   rw [List.drop_eq_nil_of_le hi] at el
   cases el
   exact .inl ⟨st (by omega),hQ w' H lw hr'⟩
  | some x=>
   have hi:=qbt hx
   have hd:xs.drop i=x::xs.drop (i + 1):=by
    rw [List.drop_eq_getElem_cons hi]
    congr 1
    rw [List.getElem?_eq_getElem hi] at hx
    cases hx
    rfl
   rw [hd] at el
   obtain ⟨S3,e3,e4⟩:=qaj (show (turn x S').bind (fun S=>qee turn (xs.drop (i + 1)) S)=.ok S2 from el)
   obtain ⟨go,y⟩:=it x hx
   refine .inr ⟨go,fun H'=>∃ w'',LeW w1 w''∧HRel K S3 w'' H',fun H' ⟨w'',l2,h2⟩=>⟨m - 1,by omega,by omega,w'',S3,l2,h2,e4⟩,fun v H' yl=>?_⟩
   obtain ⟨w2,l2,hr2,r2⟩:=y v H' yl
   exact hB w2 S' x v H' S3 (lw.trans l2) hr2 r2 e3 _ fun w'' H'' l3 h3=>⟨w'',(lw.trans l2).trans l3,h3⟩
 | cl n=>
  refine ⟨fun i m H=>∃ w' S',LeW w1 w'∧HRel K S' w' H∧qhL turn n m i S'=.ok S2,⟨fu,w1,S1,LeW.refl _,hr,e⟩,?_⟩
  rintro i m H ⟨w',S',lw,hr',el⟩
  cases m with
  | zero=>cases el
  | succ m=>
   unfold qhL at el
   split at el
   ·rename_i xs hS
    obtain ⟨it,st⟩:=hI w' S' H i xs lw.v hr' hS
    split at el
    ·rename_i x hx
     obtain ⟨S3,e3,e4⟩:=qaj el
     obtain ⟨go,y⟩:=it x hx
     refine .inr ⟨go,fun H'=>∃ w'',LeW w1 w''∧HRel K S3 w'' H',fun H' ⟨w'',l2,h2⟩=>⟨m,by omega,w'',S3,l2,h2,e4⟩,fun v H' yl=>?_⟩
     obtain ⟨w2,l2,hr2,r2⟩:=y v H' yl
     exact hB w2 S' x v H' S3 (lw.trans l2) hr2 r2 e3 _ fun w'' H'' l3 h3=>⟨w'',(lw.trans l2).trans l3,h3⟩
    ·rename_i hx
     cases el
     exact .inl ⟨st hx,hQ w' H lw hr'⟩
   ·cases el
 | lk n xs=>exact hI.elim
theorem qgw {K:PySem.W.Frag} {F:Hp} {p:P} {v:V} {k:Key} (r:RepP K F p v) (h:qaU p=some k):v=kV k:=by
 cases p with
 | int i=>
  unfold RepP at r
  subst r
  cases h
  rfl
 | str i=>
  unfold RepP at r
  subst r
  cases h
  rfl
 | _=>cases h
def RdN (K:PySem.W.Frag) {α β:Type} (rel:Wd→α→β→Prop) (w:Wd) (m:R (α × qaa)) (Q:β→Hp→Prop):Prop:=match m with
 | .ok q=>∀ w' v H',LeW w w'→HRel K q.2 w' H'→rel w' q.1 v→Q v H'
 | _=>False
theorem RdN.g {X:Cx} {σ:L2.St} {α β:Type} {rel:Wd→α→β→Prop} {w:Wd} {m:R (α × qaa)} {Q:β→Hp→Prop} (h:RdN X.K rel w m Q):RdG X σ rel w m Q:=by
 cases m with
 | ok q=>exact h
 | ex _ _ _=>exact h.elim
 | no=>exact h.elim
def tIfm (K:PySem.W.Frag) (C:Cn) (e:E):TT:=fun σ H Q=>∃ w env S,HRel K S w H∧EnvRel K C.keep w env σ∧RdN K relB w (evIf C e env S) Q
def tEN (K:PySem.W.Frag) (C:Cn) (e:E):TE:=fun σ H Q=>∃ w env S,HRel K S w H∧EnvRel K C.keep w env σ∧RdN K (RepW K) w (evE C e env S) Q
theorem pe_N {X:Cx} {C:Cn} {a:E} {e:Expr} (h:PE X e (tE X C a)):PE X e (tEN X.K C a):=PE.weak h fun σ H Q ⟨w,env,S,hr,he,q⟩=>⟨w,env,S,hr,he,q.g⟩
theorem qbT {α:Type} {m:R α} {a:α} (h:m.noEx=.ok a):m=.ok a:=by
 cases m with
 | ok b=>exact h
 | ex _ _ _=>cases h
 | no=>cases h
section
variable {X:Cx} {C:Cn} {ct:Ct} {k:Nat} {pos:Pos} {tg:Expr}
theorem qlh:PTs X [] (tIfm X.K C .nil):=⟨fun pins s σ H Q I q=>pts_nil.run pins s σ H Q I (by
 obtain ⟨w,env,S,hr,he,q⟩:=q
 simp only [evIf] at q
 exact q w true H (LeW.refl _) hr rfl)⟩
theorem qkO {a l:E} {e:Expr} (h:PT X e (tTm X C a)):PTs X [e] (tIfm X.K C (.cons a l)):=⟨fun pins s σ H Q I q=>(pts_one h).run pins s σ H Q I (by
 obtain ⟨w,env,S,hr,he,q⟩:=q
 simp only [evIf] at q
 exact ⟨w,env,S,hr,he,q.g⟩)⟩
theorem qiP {cell:Bool} {own:List (Str × Nat)} {tg:Tg} {it ifs elt:E} (hs:∀ i∈tg.slots,i∈own.map (·.2)) {σ:L2.St} {H:Hp} {Q:VK} (q:tE X C (.lc cell own tg it ifs elt) σ H Q) :
  tLc (tIm X C it) (tG X.K tg) (tIfm X.K (C.in_ cell) ifs) (tEN X.K (C.in_ cell) elt) (own.map (·.2)) σ H Q:=by
 obtain ⟨w,env,S,hr,he,q⟩:=q
 simp only [evE] at q
 refine ⟨w,env,S,hr,he,(q.step (rel:=ItOk X.K)).imp fun J H1 h1=>?_⟩
 obtain ⟨w1,I,S1,l1,hr1,hI,q1⟩:=h1
 intro D hD
 obtain ⟨q0,e0⟩:=q1.pure_ok (qah (qcK fun x S=>by
  split
  ·refine qah qbk fun b=>?_
   split
   ·exact qah qbk fun _=>qfQ
   ·exact qaB
  ·exact qaF) fun _=>qcV)
 obtain ⟨S2,e1,e2⟩:=qaj e0
 rw [e0] at q1
 obtain ⟨x0,S0⟩:=q0
 have lv:LeV w1 (w1.in_ cell S1.length):=Wd.in_v
 obtain ⟨hrD,lw⟩:=(hr1.in_ cell).newC (o:=.lst []) (c:=.lst []) hD rfl ⟨[],upd_same,.nil,Nat.zero_le _⟩
 have hpD:(⟨(w1.in_ cell S1.length).ρ++[D],(w1.in_ cell S1.length).F,(w1.in_ cell S1.length).b⟩:Wd).ρ[S1.length]?=some D:=by
  show (w1.ρ++[D])[S1.length]?=some D
  rw [← hr1.len]
  simp
 refine qg6 (B:=fun x H' Nx=>tG X.K tg x (wipe σ (own.map (·.2))) H' fun σ2 H2=>wipe σ2 (own.map (·.2))=wipe σ (own.map (·.2))∧tIfm X.K (C.in_ cell) ifs σ2 H2 fun b H3=>
  if b=true then tEN X.K (C.in_ cell) elt σ2 H3 fun y H4=>∃ acc,H4 D=some (.lst acc)∧acc.length < sizeLine∧Nx (upd H4 D (.lst (acc++[y]))) else Nx H3) (hI.mono (lv.trans lw.v)) hrD e1 (fun w' H' l2 hr2=>?_) fun w' S' x v H' S'' l2 hr2 r2 et N hN=>?_
 ·obtain ⟨w3,l3,hr3,r3⟩:=qdW (w0:=w1) hr2 (qbC l2 hpD) (lv.trans (lw.trans l2).v) (lw.trans l2).3 hr1.bl (Nat.le_of_eq hr1.len) (fun _ hk=>by have:=(he.mono l1).kb;rw [hk] at this;exact this) e2
  exact q1 w3 _ _ l3 hr3 r3
 ·split at et
  ·rename_i env' hset
   refine qdx hset hr2 r2 (((((he.mono l1).in_ cell S1.length).mono lw).mono l2).wipe _) fun σ2 he2 hw2=>⟨?_,?_⟩
   ·rw [hw2 _ hs]
    exact qcl fun i hi=>hi
   ·obtain ⟨b,eb,et2⟩:=qaj et
    refine ⟨w',env',S',hr2,he2,?_⟩
    rw [qbT eb]
    intro w3 b' H3 l3 hr3 rb
    have rb':b.1=b':=rb
    subst rb'
    split at et2
    ·rename_i hb
     rw [if_pos hb]
     obtain ⟨z,ez,et3⟩:=qaj et2
     refine ⟨w3,env',b.2,hr3,he2.mono l3,?_⟩
     rw [qbT ez]
     intro w4 y H4 l4 hr4 r4
     unfold qdk at et3
     split at et3
     ·rename_i acc hS
      split at et3
      ·rename_i hl
       unfold write at et3
       split at et3
       ·rename_i hlow
        cases et3
        have ha:=qbC ((l2.trans l3).trans l4) hpD
        rcases hr4.cell _ _ D hS ha with zz | ⟨hF,us,ho,rr,_⟩
        ·cases zz
        ·have hl2:us.length < lim:=by rw [← Paired.length rr];exact hl
         have hz:(us++[y]).length≤sizeLine:=by
          rw [List.length_append]
          have:=qao
          show us.length + 1≤sizeLine
          omega
         refine ⟨us,ho,Nat.lt_of_lt_of_le hl2 qao,?_⟩
         exact hN w4 _ (l3.trans l4) (hr4.write (o:=.lst (us++[y])) ha hF (qhD (he2.mono (l3.trans l4)) hlow) ⟨us++[y],upd_same,qbr rr (.cons r4 .nil),hz⟩ (nofz ho))
       ·cases et3
      ·cases et3
     ·cases et3
    ·rename_i hb
     rw [if_neg hb]
     cases et2
     exact hN w3 _ l3 hr3
  ·cases et
theorem qiV {cell:Bool} {own:List (Str × Nat)} {tg:Tg} {it ifs ke elt:E} (hs:∀ i∈tg.slots,i∈own.map (·.2)) {σ:L2.St} {H:Hp} {Q:VK} (q:tE X C (.dc cell own tg it ifs ke elt) σ H Q) :
  tDc (tIm X C it) (tG X.K tg) (tIfm X.K (C.in_ cell) ifs) (tEN X.K (C.in_ cell) ke) (tEN X.K (C.in_ cell) elt) (own.map (·.2)) σ H Q:=by
 obtain ⟨w,env,S,hr,he,q⟩:=q
 simp only [evE] at q
 refine ⟨w,env,S,hr,he,(q.step (rel:=ItOk X.K)).imp fun J H1 h1=>?_⟩
 obtain ⟨w1,I,S1,l1,hr1,hI,q1⟩:=h1
 intro D hD
 obtain ⟨q0,e0⟩:=q1.pure_ok (qah (qcK fun x S=>by
  split
  ·refine qah qbk fun b=>?_
   split
   ·refine qah qbk fun y=>qah qbk fun z=>?_
    split
    ·split
     ·exact qhg
     ·exact qaF
    ·exact qaF
   ·exact qaB
  ·exact qaF) fun _=>qcV)
 obtain ⟨S2,e1,e2⟩:=qaj e0
 rw [e0] at q1
 obtain ⟨x0,S0⟩:=q0
 have lv:LeV w1 (w1.in_ cell S1.length):=Wd.in_v
 obtain ⟨hrD,lw⟩:=(hr1.in_ cell).newC (o:=.dK []) (c:=.dct []) hD rfl ⟨[],upd_same,.nil,Nat.zero_le _⟩
 have hpD:(⟨(w1.in_ cell S1.length).ρ++[D],(w1.in_ cell S1.length).F,(w1.in_ cell S1.length).b⟩:Wd).ρ[S1.length]?=some D:=by
  show (w1.ρ++[D])[S1.length]?=some D
  rw [← hr1.len]
  simp
 refine qg6 (B:=fun x H' Nx=>tG X.K tg x (wipe σ (own.map (·.2))) H' fun σ2 H2=>wipe σ2 (own.map (·.2))=wipe σ (own.map (·.2))∧tIfm X.K (C.in_ cell) ifs σ2 H2 fun b H3=>
  if b=true then tEN X.K (C.in_ cell) ke σ2 H3 fun y H4=>tEN X.K (C.in_ cell) elt σ2 H4 fun z H5=>∃ kvs k,y=kV k∧H5 D=some (.dK kvs)∧kvs.length < sizeLine∧Nx (upd H5 D (.dK (putK kvs k z))) else Nx H3) (hI.mono (lv.trans lw.v)) hrD e1 (fun w' H' l2 hr2=>?_) fun w' S' x v H' S'' l2 hr2 r2 et N hN=>?_
 ·obtain ⟨w3,l3,hr3,r3⟩:=qdW (w0:=w1) hr2 (qbC l2 hpD) (lv.trans (lw.trans l2).v) (lw.trans l2).3 hr1.bl (Nat.le_of_eq hr1.len) (fun _ hk=>by have:=(he.mono l1).kb;rw [hk] at this;exact this) e2
  exact q1 w3 _ _ l3 hr3 r3
 ·split at et
  ·rename_i env' hset
   refine qdx hset hr2 r2 (((((he.mono l1).in_ cell S1.length).mono lw).mono l2).wipe _) fun σ2 he2 hw2=>⟨?_,?_⟩
   ·rw [hw2 _ hs]
    exact qcl fun i hi=>hi
   ·obtain ⟨b,eb,et2⟩:=qaj et
    refine ⟨w',env',S',hr2,he2,?_⟩
    rw [qbT eb]
    intro w3 b' H3 l3 hr3 rb
    have rb':b.1=b':=rb
    subst rb'
    split at et2
    ·rename_i hb
     rw [if_pos hb]
     obtain ⟨y0,ey,et3⟩:=qaj et2
     obtain ⟨z0,ez,et4⟩:=qaj et3
     refine ⟨w3,env',b.2,hr3,he2.mono l3,?_⟩
     rw [qbT ey]
     intro w4 y H4 l4 hr4 r4
     refine ⟨w4,env',y0.2,hr4,he2.mono (l3.trans l4),?_⟩
     rw [qbT ez]
     intro w5 z H5 l5 hr5 r5
     split at et4
     ·rename_i p hp
      split at et4
      ·rename_i key hk
       have r4':RepP X.K w4.F p y:=by
        rw [hp] at r4
        exact r4
       unfold putC at et4
       split at et4
       ·rename_i acc hS
        split at et4
        ·rename_i hl
         unfold write at et4
         split at et4
         ·rename_i hlow
          cases et4
          have ha:=qbC (((l2.trans l3).trans l4).trans l5) hpD
          rcases hr5.cell _ _ D hS ha with zz | ⟨hF,us,ho,rr,_⟩
          ·cases zz
          ·have hl2:us.length < lim:=by rw [← Paired.length rr];exact hl
           have hz:(putK us key z).length≤sizeLine:=by
            have:=qao
            have:=qe1 (kvs:=us) (k:=key) (v:=z)
            omega
           refine ⟨us,key,qgw r4' hk,ho,Nat.lt_of_lt_of_le hl2 qao,?_⟩
           exact hN w5 _ ((l3.trans l4).trans l5) (hr5.write (o:=.dK (putK us key z)) ha hF (qhD (he2.mono ((l3.trans l4).trans l5)) hlow) ⟨putK us key z,upd_same,qak.put r5 rr,hz⟩ (nofz ho))
         ·cases et4
        ·cases et4
       ·cases et4
      ·cases et4
     ·cases et4
    ·rename_i hb
     rw [if_neg hb]
     cases et2
     exact hN w3 _ l3 hr3
  ·cases et
end
end LS
namespace LS
open PySem PySem.Spec PyProof.Rows L2
theorem qij {α β γ:Type} {m:R α} {f:α→R β} {g:β→R γ}:(m.bind f).bind g=m.bind fun a=>(f a).bind g:=by
 cases m <;> rfl
def LkOk (K:PySem.W.Frag) (LK:W × qaa→R (Iter × qaa)) (P:HO→Prop) (mk:Addr→Obj→HO→It):Prop:=∀ {w:Wd} {S:qaa} {H:Hp} {x:W} {v:V} {q:Iter × qaa},HRel K S w H→RepW K w x v→LK (x,S)=.ok q→
 ∃ n a xs S' u,v=.ref a∧w.ρ[n]?=some a∧q=(.lk n xs,S)∧lckC n S=.ok S'∧H a=some u∧P u∧Mut (some u)∧(∀ ob z,H a≠some (.frz ob z))∧
  ∀ od,HRel K S' (w.lkW a (.frz od u)) (upd H a (.frz od u))∧qiv K (w.lkW a (.frz od u)) xs (mk a od u)
def iZ (X:Cx) (P:HO→Prop) (mk:Addr→Obj→HO→It) (te:TE):TI:=fun σ H R=>te σ H fun v H1=>∃ d u,v=.ref d∧H1 d=some u∧P u∧Mut (some u)∧((∀ o' u',X.H_0 d≠some (.frz o' u'))→∀ od,R (mk d od u) (upd H1 d (.frz od u)))
section
variable {X:Cx} {tg e:Expr} {te:TE} {apos cpos:Pos}
theorem PI.weak {X:Cx} {tg e:Expr} {t t':TI} (h:PI X tg e t) (k:∀ σ H R,t' σ H R→t σ H R):PI X tg e t':=⟨fun pins s σ H R I q=>h.run pins s σ H R I (k σ H R q)⟩
end
section
variable {X:Cx} {C:Cn}
def qes (C:Cn) (cell:Bool) (own:List (Str × Nat)) (tg:Tg) (ifs elt:E) (env:Env) (n:Nat):W→qaa→R qaa:=fun x S=>match qbp tg x S (qbV env (own.map (·.2))) with
 | some env=>(evIf (C.in_ cell) ifs env S).noEx.bind fun b=>if b.1=true then (evE (C.in_ cell) elt env b.2).noEx.bind fun z=>qdk (C.keep && cell) n z.1 z.2 else .ok b.2
 | none=>.no
theorem qhF {cell:Bool} {own:List (Str × Nat)} {tg:Tg} {ifs elt:E} {env:Env} {n:Nat} (x:W) (S:qaa):(qes C cell own tg ifs elt env n x S).pur:=by
 unfold qes
 split
 ·refine qah qbk fun b=>?_
  split
  ·exact qah qbk fun _=>qfQ
  ·exact qaB
 ·exact qaF
theorem qkI {cell:Bool} {own:List (Str × Nat)} {tg:Tg} {ifs elt:E} (hs:∀ i∈tg.slots,i∈own.map (·.2)) {σ:L2.St} {wD:Wd} {env:Env} {n:Nat} {D:Addr} (heD:EnvRel X.K (C.keep && cell) wD env σ) (hpD:wD.ρ[n]?=some D)
  (w':Wd) (S':qaa) (x:W) (v:V) (H':Hp) (S'':qaa) (l2:LeW wD w') (hr2:HRel X.K S' w' H') (r2:RepW X.K w' x v) (et:qes C cell own tg ifs elt env n x S'=.ok S'') (N:Hp→Prop) (hN:∀ w'' H'',LeW w' w''→HRel X.K S'' w'' H''→N H'') :
  tG X.K tg v (wipe σ (own.map (·.2))) H' fun σ2 H2=>wipe σ2 (own.map (·.2))=wipe σ (own.map (·.2))∧tIfm X.K (C.in_ cell) ifs σ2 H2 fun b H3=>
  if b=true then tEN X.K (C.in_ cell) elt σ2 H3 fun y H4=>∃ acc,H4 D=some (.lst acc)∧acc.length < sizeLine∧N (upd H4 D (.lst (acc++[y]))) else N H3:=by
 unfold qes at et
 split at et
 ·rename_i env' hset
  refine qdx hset hr2 r2 ((heD.mono l2).wipe _) fun σ2 he2 hw2=>⟨?_,?_⟩
  ·rw [hw2 _ hs]
   exact qcl fun i hi=>hi
  ·obtain ⟨b,eb,et2⟩:=qaj et
   refine ⟨w',env',S',hr2,he2,?_⟩
   rw [qbT eb]
   intro w3 b' H3 l3 hr3 rb
   have rb':b.1=b':=rb
   subst rb'
   split at et2
   ·rename_i hb
    rw [if_pos hb]
    obtain ⟨z,ez,et3⟩:=qaj et2
    refine ⟨w3,env',b.2,hr3,he2.mono l3,?_⟩
    rw [qbT ez]
    intro w4 y H4 l4 hr4 r4
    unfold qdk at et3
    split at et3
    ·rename_i acc hS
     split at et3
     ·rename_i hl
      unfold write at et3
      split at et3
      ·rename_i hlow
       cases et3
       have ha:=qbC ((l2.trans l3).trans l4) hpD
       rcases hr4.cell _ _ D hS ha with zz | ⟨hF,us,ho,rr,_⟩
       ·cases zz
       ·have hl2:us.length < lim:=by rw [← Paired.length rr];exact hl
        have hz:(us++[y]).length≤sizeLine:=by
         rw [List.length_append]
         have:=qao
         show us.length + 1≤sizeLine
         omega
        refine ⟨us,ho,Nat.lt_of_lt_of_le hl2 qao,?_⟩
        exact hN w4 _ (l3.trans l4) (hr4.write (o:=.lst (us++[y])) ha hF (qhD (he2.mono (l3.trans l4)) hlow) ⟨us++[y],upd_same,qbr rr (.cons r4 .nil),hz⟩ (nofz ho))
      ·cases et3
     ·cases et3
    ·cases et3
   ·rename_i hb
    rw [if_neg hb]
    cases et2
    exact hN w3 _ l3 hr3
 ·cases et
theorem qiR {n:Nat} {S S' T:qaa} (h:lckC n S=.ok S'):lckC n (S++T)=.ok (S'++T)∧S'.length=S.length:=by
 unfold lckC at h
 split at h
 ·rename_i kvs hS
  cases h
  have hn:=qbt hS
  refine ⟨?_,by simp⟩
  unfold lckC
  rw [List.getElem?_append_left hn,hS]
  simp only
  rw [List.set_append_left _ _ hn]
 ·rename_i kvs hS
  cases h
  have hn:=qbt hS
  refine ⟨?_,by simp⟩
  unfold lckC
  rw [List.getElem?_append_left hn,hS]
  simp only
  rw [List.set_append_left _ _ hn]
 ·cases h
theorem qhi {cell:Bool} {own:List (Str × Nat)} {tg:Tg} {it a ifs elt:E} {LK:W × qaa→R (Iter × qaa)} {P:HO→Prop} {mk:Addr→Obj→HO→It} (hev:∀ env S,evI C it env S=(evE C a env S).bind LK) (hLp:∀ q,(LK q).pur) (hLK:LkOk X.K LK P mk) (hs:∀ i∈tg.slots,i∈own.map (·.2)) {σ:L2.St} {H:Hp} {Q:VK} (q:tE X C (.lc cell own tg it ifs elt) σ H Q) :
  tUnE X (tLc (iZ X P mk (tE X C a)) (tG X.K tg) (tIfm X.K (C.in_ cell) ifs) (tEN X.K (C.in_ cell) elt) (own.map (·.2))) σ H Q:=by
 obtain ⟨w,env,S,hr,he,q⟩:=q
 simp only [evE,hev] at q
 rw [qij] at q
 refine ⟨w,env,S,hr,he,(q.step (rel:=RepW X.K)).imp fun v H1 h1=>?_⟩
 obtain ⟨w1,x1,S1,l1,hr1,r1,q1⟩:=h1
 obtain ⟨q0,e0⟩:=q1.pure_ok (qah (hLp _) fun _=>qah (qcK fun x S=>qhF (C:=C) (cell:=cell) (own:=own) (tg:=tg) (ifs:=ifs) (elt:=elt) (env:=env) x S) fun _=>qcV)
 rw [e0] at q1
 obtain ⟨⟨I,SI⟩,eL,e0⟩:=qaj e0
 obtain ⟨n,a0,xs,SL,u,rfl,ha,eq,elk,hu,hP,mu,nf,hod⟩:=hLK hr1 r1 eL
 cases eq
 obtain ⟨S2,e1,e2⟩:=qaj e0
 obtain ⟨elk2,hlen⟩:=qiR (T:=[.lst []]) elk
 have e1:((lckC n (S1++[.lst []])).bind fun S=>(qd6 (qes C cell own tg ifs elt env S1.length) xs S).bind (unlC n))=.ok S2:=e1
 rw [elk2] at e1
 obtain ⟨S3,e3,e4⟩:=qaj (show ((qd6 (qes C cell own tg ifs elt env S1.length) xs (SL++[.lst []])).bind (unlC n))=.ok S2 from e1)
 obtain ⟨x0,S0⟩:=q0
 refine ⟨a0,u,rfl,hu,hP,mu,fun nz od=>?_⟩
 obtain ⟨hrL,hI⟩:=hod od
 intro D hD
 have no:=qeW hr1 nf
 obtain ⟨wL,hwL⟩:∃ wL,wL=w1.lkW a0 (.frz od u):=⟨_,rfl⟩
 rw [← hwL] at hrL hI
 have lvL:LeV w1 wL:=by rw [hwL];exact qlC
 have lv:LeV wL (wL.in_ cell SL.length):=Wd.in_v
 have hin:=hrL.in_ cell
 obtain ⟨hrD,lw⟩:=hin.newC (o:=.lst []) (c:=.lst []) hD rfl ⟨[],upd_same,.nil,Nat.zero_le _⟩
 have hpD:(⟨(wL.in_ cell SL.length).ρ++[D],(wL.in_ cell SL.length).F,(wL.in_ cell SL.length).b⟩:Wd).ρ[S1.length]?=some D:=by
  show (wL.ρ++[D])[S1.length]?=some D
  rw [← hlen,← hrL.len]
  simp
 have heL:EnvRel X.K C.keep wL env σ:=by
  have h1:=he.mono l1
  refine ⟨h1.len,fun i x e=>?_,?_⟩
  ·obtain ⟨v,e1,e2⟩:=h1.at_ i x e
   exact ⟨v,e1,e2.monoV lvL⟩
  ·rw [hwL]
   exact h1.kb
 refine qf4 (B:=fun x H' Nx=>tG X.K tg x (wipe σ (own.map (·.2))) H' fun σ2 H2=>wipe σ2 (own.map (·.2))=wipe σ (own.map (·.2))∧tIfm X.K (C.in_ cell) ifs σ2 H2 fun b H3=>
  if b=true then tEN X.K (C.in_ cell) elt σ2 H3 fun y H4=>∃ acc,H4 D=some (.lst acc)∧acc.length < sizeLine∧Nx (upd H4 D (.lst (acc++[y]))) else Nx H3) (hI.mono (lv.trans lw.v)) hrD e3 (fun w' H' l2 hr2=>?_) (qkI hs ((heL.in_ cell SL.length).mono lw) hpD)
 have hb2:w'.b.lk=(a0,.frz od u)::w1.b.lk:=by
  rw [l2.3,lw.3,Wd.in_lk,hwL]
  rfl
 have ha2:w'.ρ[n]?=some a0:=qbC l2 (qbC lw (show wL.ρ[n]?=some a0 by rw [hwL];exact ha))
 obtain ⟨hH,hr3⟩:=hr2.unl ha2 hb2 no e4
 refine .inr ⟨a0,od,u,hH,nz,?_⟩
 obtain ⟨w3,l3,hr4,r4⟩:=qdW (w0:=w1) (D:=S1.length) hr3 (show w'.ρ[S1.length]?=some D from qbC l2 hpD) ⟨(lvL.trans (lv.trans (lw.trans l2).v)).1,(lvL.trans (lv.trans (lw.trans l2).v)).2,fun q hq=>hq⟩ (by
  have h1:w'.b=(wL.in_ cell SL.length).b:=(lw.trans l2).3
  show (⟨w'.b.o,w1.b.lk⟩:Bk)=_
  rw [h1,hwL,hlen]
  cases cell <;> rfl) hr1.bl (Nat.le_of_eq hr1.len) (fun _ hk=>by have:=(he.mono l1).kb;rw [hk] at this;exact this) e2
 exact q1 w3 _ _ l3 hr4 r4
def qeA (C:Cn) (cell:Bool) (own:List (Str × Nat)) (tg:Tg) (ifs k v:E) (env:Env) (n:Nat):W→qaa→R qaa:=fun x S=>match qbp tg x S (qbV env (own.map (·.2))) with
 | some env=>(evIf (C.in_ cell) ifs env S).noEx.bind fun b=>if b.1=true then (evE (C.in_ cell) k env b.2).noEx.bind fun y=>(evE (C.in_ cell) v env y.2).noEx.bind fun z=>match y.1 with
   | .v p=>match qaU p with
    | some k=>putC (C.keep && cell) n k z.1 z.2
    | none=>.no
   | _=>.no
  else .ok b.2
 | none=>.no
theorem qhz {cell:Bool} {own:List (Str × Nat)} {tg:Tg} {ifs ke elt:E} {env:Env} {n:Nat} (x:W) (S:qaa):(qeA C cell own tg ifs ke elt env n x S).pur:=by
 unfold qeA
 split
 ·refine qah qbk fun b=>?_
  split
  ·refine qah qbk fun y=>qah qbk fun z=>?_
   split
   ·split
    ·exact qhg
    ·exact qaF
   ·exact qaF
  ·exact qaB
 ·exact qaF
theorem qln {cell:Bool} {own:List (Str × Nat)} {tg:Tg} {ifs ke elt:E} (hs:∀ i∈tg.slots,i∈own.map (·.2)) {σ:L2.St} {wD:Wd} {env:Env} {n:Nat} {D:Addr} (heD:EnvRel X.K (C.keep && cell) wD env σ) (hpD:wD.ρ[n]?=some D)
  (w':Wd) (S':qaa) (x:W) (v:V) (H':Hp) (S'':qaa) (l2:LeW wD w') (hr2:HRel X.K S' w' H') (r2:RepW X.K w' x v) (et:qeA C cell own tg ifs ke elt env n x S'=.ok S'') (N:Hp→Prop) (hN:∀ w'' H'',LeW w' w''→HRel X.K S'' w'' H''→N H'') :
  tG X.K tg v (wipe σ (own.map (·.2))) H' fun σ2 H2=>wipe σ2 (own.map (·.2))=wipe σ (own.map (·.2))∧tIfm X.K (C.in_ cell) ifs σ2 H2 fun b H3=>
  if b=true then tEN X.K (C.in_ cell) ke σ2 H3 fun y H4=>tEN X.K (C.in_ cell) elt σ2 H4 fun z H5=>∃ kvs k,y=kV k∧H5 D=some (.dK kvs)∧kvs.length < sizeLine∧N (upd H5 D (.dK (putK kvs k z))) else N H3:=by
 unfold qeA at et
 split at et
 ·rename_i env' hset
  refine qdx hset hr2 r2 ((heD.mono l2).wipe _) fun σ2 he2 hw2=>⟨?_,?_⟩
  ·rw [hw2 _ hs]
   exact qcl fun i hi=>hi
  ·obtain ⟨b,eb,et2⟩:=qaj et
   refine ⟨w',env',S',hr2,he2,?_⟩
   rw [qbT eb]
   intro w3 b' H3 l3 hr3 rb
   have rb':b.1=b':=rb
   subst rb'
   split at et2
   ·rename_i hb
    rw [if_pos hb]
    obtain ⟨y0,ey,et3⟩:=qaj et2
    obtain ⟨z0,ez,et4⟩:=qaj et3
    refine ⟨w3,env',b.2,hr3,he2.mono l3,?_⟩
    rw [qbT ey]
    intro w4 y H4 l4 hr4 r4
    refine ⟨w4,env',y0.2,hr4,he2.mono (l3.trans l4),?_⟩
    rw [qbT ez]
    intro w5 z H5 l5 hr5 r5
    split at et4
    ·rename_i p hp
     split at et4
     ·rename_i key hk
      have r4':RepP X.K w4.F p y:=by
       rw [hp] at r4
       exact r4
      unfold putC at et4
      split at et4
      ·rename_i acc hS
       split at et4
       ·rename_i hl
        unfold write at et4
        split at et4
        ·rename_i hlow
         cases et4
         have ha:=qbC (((l2.trans l3).trans l4).trans l5) hpD
         rcases hr5.cell _ _ D hS ha with zz | ⟨hF,us,ho,rr,_⟩
         ·cases zz
         ·have hl2:us.length < lim:=by rw [← Paired.length rr];exact hl
          have hz:(putK us key z).length≤sizeLine:=by
           have:=qao
           have:=qe1 (kvs:=us) (k:=key) (v:=z)
           omega
          refine ⟨us,key,qgw r4' hk,ho,Nat.lt_of_lt_of_le hl2 qao,?_⟩
          exact hN w5 _ ((l3.trans l4).trans l5) (hr5.write (o:=.dK (putK us key z)) ha hF (qhD (he2.mono ((l3.trans l4).trans l5)) hlow) ⟨putK us key z,upd_same,qak.put r5 rr,hz⟩ (nofz ho))
        ·cases et4
       ·cases et4
      ·cases et4
     ·cases et4
    ·cases et4
   ·rename_i hb
    rw [if_neg hb]
    cases et2
    exact hN w3 _ l3 hr3
 ·cases et
theorem qhj {cell:Bool} {own:List (Str × Nat)} {tg:Tg} {it a ifs ke elt:E} {LK:W × qaa→R (Iter × qaa)} {P:HO→Prop} {mk:Addr→Obj→HO→It} (hev:∀ env S,evI C it env S=(evE C a env S).bind LK) (hLp:∀ q,(LK q).pur) (hLK:LkOk X.K LK P mk) (hs:∀ i∈tg.slots,i∈own.map (·.2)) {σ:L2.St} {H:Hp} {Q:VK} (q:tE X C (.dc cell own tg it ifs ke elt) σ H Q) :
  tUnE X (tDc (iZ X P mk (tE X C a)) (tG X.K tg) (tIfm X.K (C.in_ cell) ifs) (tEN X.K (C.in_ cell) ke) (tEN X.K (C.in_ cell) elt) (own.map (·.2))) σ H Q:=by
 obtain ⟨w,env,S,hr,he,q⟩:=q
 simp only [evE,hev] at q
 rw [qij] at q
 refine ⟨w,env,S,hr,he,(q.step (rel:=RepW X.K)).imp fun v H1 h1=>?_⟩
 obtain ⟨w1,x1,S1,l1,hr1,r1,q1⟩:=h1
 obtain ⟨q0,e0⟩:=q1.pure_ok (qah (hLp _) fun _=>qah (qcK fun x S=>qhz (C:=C) (cell:=cell) (own:=own) (tg:=tg) (ifs:=ifs) (ke:=ke) (elt:=elt) (env:=env) x S) fun _=>qcV)
 rw [e0] at q1
 obtain ⟨⟨I,SI⟩,eL,e0⟩:=qaj e0
 obtain ⟨n,a0,xs,SL,u,rfl,ha,eq,elk,hu,hP,mu,nf,hod⟩:=hLK hr1 r1 eL
 cases eq
 obtain ⟨S2,e1,e2⟩:=qaj e0
 obtain ⟨elk2,hlen⟩:=qiR (T:=[.dct []]) elk
 have e1:((lckC n (S1++[.dct []])).bind fun S=>(qd6 (qeA C cell own tg ifs ke elt env S1.length) xs S).bind (unlC n))=.ok S2:=e1
 rw [elk2] at e1
 obtain ⟨S3,e3,e4⟩:=qaj (show ((qd6 (qeA C cell own tg ifs ke elt env S1.length) xs (SL++[.dct []])).bind (unlC n))=.ok S2 from e1)
 obtain ⟨x0,S0⟩:=q0
 refine ⟨a0,u,rfl,hu,hP,mu,fun nz od=>?_⟩
 obtain ⟨hrL,hI⟩:=hod od
 intro D hD
 have no:=qeW hr1 nf
 obtain ⟨wL,hwL⟩:∃ wL,wL=w1.lkW a0 (.frz od u):=⟨_,rfl⟩
 rw [← hwL] at hrL hI
 have lvL:LeV w1 wL:=by rw [hwL];exact qlC
 have lv:LeV wL (wL.in_ cell SL.length):=Wd.in_v
 have hin:=hrL.in_ cell
 obtain ⟨hrD,lw⟩:=hin.newC (o:=.dK []) (c:=.dct []) hD rfl ⟨[],upd_same,.nil,Nat.zero_le _⟩
 have hpD:(⟨(wL.in_ cell SL.length).ρ++[D],(wL.in_ cell SL.length).F,(wL.in_ cell SL.length).b⟩:Wd).ρ[S1.length]?=some D:=by
  show (wL.ρ++[D])[S1.length]?=some D
  rw [← hlen,← hrL.len]
  simp
 have heL:EnvRel X.K C.keep wL env σ:=by
  have h1:=he.mono l1
  refine ⟨h1.len,fun i x e=>?_,?_⟩
  ·obtain ⟨v,e1,e2⟩:=h1.at_ i x e
   exact ⟨v,e1,e2.monoV lvL⟩
  ·rw [hwL]
   exact h1.kb
 refine qf4 (B:=fun x H' Nx=>tG X.K tg x (wipe σ (own.map (·.2))) H' fun σ2 H2=>wipe σ2 (own.map (·.2))=wipe σ (own.map (·.2))∧tIfm X.K (C.in_ cell) ifs σ2 H2 fun b H3=>
  if b=true then tEN X.K (C.in_ cell) ke σ2 H3 fun y H4=>tEN X.K (C.in_ cell) elt σ2 H4 fun z H5=>∃ kvs k,y=kV k∧H5 D=some (.dK kvs)∧kvs.length < sizeLine∧Nx (upd H5 D (.dK (putK kvs k z))) else Nx H3) (hI.mono (lv.trans lw.v)) hrD e3 (fun w' H' l2 hr2=>?_) (qln hs ((heL.in_ cell SL.length).mono lw) hpD)
 have hb2:w'.b.lk=(a0,.frz od u)::w1.b.lk:=by
  rw [l2.3,lw.3,Wd.in_lk,hwL]
  rfl
 have ha2:w'.ρ[n]?=some a0:=qbC l2 (qbC lw (show wL.ρ[n]?=some a0 by rw [hwL];exact ha))
 obtain ⟨hH,hr3⟩:=hr2.unl ha2 hb2 no e4
 refine .inr ⟨a0,od,u,hH,nz,?_⟩
 obtain ⟨w3,l3,hr4,r4⟩:=qdW (w0:=w1) (D:=S1.length) hr3 (show w'.ρ[S1.length]?=some D from qbC l2 hpD) ⟨(lvL.trans (lv.trans (lw.trans l2).v)).1,(lvL.trans (lv.trans (lw.trans l2).v)).2,fun q hq=>hq⟩ (by
  have h1:w'.b=(wL.in_ cell SL.length).b:=(lw.trans l2).3
  show (⟨w'.b.o,w1.b.lk⟩:Bk)=_
  rw [h1,hwL,hlen]
  cases cell <;> rfl) hr1.bl (Nat.le_of_eq hr1.len) (fun _ hk=>by have:=(he.mono l1).kb;rw [hk] at this;exact this) e2
 exact q1 w3 _ _ l3 hr4 r4
end
end LS
namespace LS
open PySem PySem.Spec PyProof.Rows L2
inductive UnM (X:Cx) (Q:Hp→Prop):Hp→Prop
 | done {H:Hp}:Q H→UnM X Q H
 | step {H:Hp} {d:Addr} {od:Obj} {u:HO}:H d=some (.frz od u)→(∀ o' u',X.H_0 d≠some (.frz o' u'))→UnM X Q (upd H d u)→UnM X Q H
theorem UnM.go {X:Cx} {Q:Hp→Prop} {H:Hp} {pins:List (Addr × Obj)} {σ:L2.St} {s:Shared} (h:UnM X Q H) (I:L2.Inv X pins σ H s):∃ H',L2.Inv X pins σ H' s∧Q H':=by
 induction h with
 | done h=>exact ⟨_,I,h⟩
 | step h1 h2 h3 ih=>exact ih (I.unlock h1 h2)
section
variable {X:Cx} {tg e:Expr} {apos cpos:Pos}
end
theorem qnM {ρ ρ':List Addr} {n:Nat} {a:Addr} (l:ρ <+: ρ') (h:ρ[n]?=some a):ρ'[n]?=some a:=by
 obtain ⟨t,rfl⟩:=l
 rw [List.getElem?_append_left (qbt h)]
 exact h
inductive Lks (X:Cx) (w:Wd) (lk0:List (Addr × HO)):List Nat→List (Addr × HO)→Prop
 | nil:Lks X w lk0 [] []
 | cons {n:Nat} {a:Addr} {od:Obj} {u:HO} {ns:List Nat} {ls:List (Addr × HO)}:w.ρ[n]?=some a→(∀ o z,X.H_0 a≠some (.frz o z))→(∀ o,(a,o)∉ls++lk0)→Lks X w lk0 ns ls→Lks X w lk0 (n::ns) ((a,.frz od u)::ls)
theorem Lks.mono {X:Cx} {w w':Wd} {lk0:List (Addr × HO)} {ns:List Nat} {ls:List (Addr × HO)} (l:w.ρ <+: w'.ρ) (h:Lks X w lk0 ns ls):Lks X w' lk0 ns ls:=by
 induction h with
 | nil=>exact .nil
 | cons h1 h2 h3 _ ih=>exact .cons (qnM l h1) h2 h3 ih
section
variable {X:Cx} {C:Cn}
end
end LS
namespace LS
open PySem PySem.Spec PyProof.Rows L2
theorem nope {p:Prop} (h:false=true):p:=nomatch h
theorem and1 {a b:Bool} (h:(a && b)=true):a=true:=(Bool.and_eq_true_iff.mp h).1
theorem and2 {a b:Bool} (h:(a && b)=true):b=true:=(Bool.and_eq_true_iff.mp h).2
theorem bnot {a:Bool} (h:(!a)=true):a=false:=by
 cases a
 ·rfl
 ·cases h
end LS
namespace LS
open PySem PySem.Spec PyProof.Rows L2
section
variable {X:Cx} {C:Cn} {ct:Ct} {k:Nat} {pos:Pos}
theorem qab.rev {K:PySem.W.Frag} {F:Hp} {xs:List P} {vs:List V} (r:qab K F xs vs):qab K F xs.reverse vs.reverse:=by
 induction xs generalizing vs with
 | nil=>
  unfold qab at r
  subst r
  unfold qab
  rfl
 | cons x xs ih=>
  unfold qab at r
  obtain ⟨v,r',rfl,h1,h2⟩:=r
  rw [List.reverse_cons,List.reverse_cons]
  exact qab.app (ih h2) (by unfold qab;exact ⟨v,[],rfl,h1,by unfold qab;rfl⟩)
end
end LS
set_option maxHeartbeats 4000000
namespace LS
open PySem PySem.Spec PyProof.Rows PySem.W
section
variable {prog:Program} {w:World} {A:Around} {E:Value→Shared→Prop} {s:Shared} {K:Frag} {x D:Addr} {ox:Obj} {od:Option Obj}
theorem qgy {C:Addr} {name:Str} {a g:Value} (hc:(clsIn K C).isSome=true) (ha:findIn K (.ref C) name=some (some a)) (hg:specialIn K a "__get__"=some (some g)) (ht:takesIn K a=some true):findObj K C od name=some (.bind g a):=by
 cases od with
 | none=>exact findObj_dataN hc ha hg ht
 | some o=>exact findObj_data hc ha hg ht
theorem qip {Q:Option Value→Shared→Prop} (T:L2.ExcC K D) (X:K.In s.heap) (I:W.InstAt s.heap x ox D od) (h:Q (some (.ref D)) { s with toks:=s.toks + 1 }):wpAny (model prog w) A (getAttr? (.ref x) "__class__") Q E s:=by
 have hcl:(clsIn K D).isSome=true:=by
  obtain ⟨cd,hcd,_⟩:=any_some T.hd
  rw [hcd]
  rfl
 have look:=qgy (od:=od) (name:="__class__") hcl T.ha T.hn T.ht
 obtain ⟨hp,gens,dr,tk,os⟩:=s
 have ty:=I.type (M:=model prog w)
 have fga:=looks_findIn (M:=model prog w) X T.hg
 have fgt:=looks_findIn (M:=model prog w) X T.hk
 have fnd:=looks_find (M:=model prog w) X I look
 have isB:Looks (model prog w) hp (isInstance (.ref x) (.type "BaseException")) true:=ty.andThen (looks_subIn X T.hs)
 have n2:(Value.builtin "BaseException.__getattribute__" == Value.builtin "object.__getattribute__")=false:=by decide +kernel
 have n1:(onTheHeap (Value.ref D) && Value.builtin "BaseException.__getattribute__" == Value.builtin "object.__getattribute__")=false:=by
  rw [n2]
  rfl
 unfold getAttr? getAttrBy? getAttrBy
 refine wpAny_bind (wpAny_mkText (wpAny_bind (wpAny_attempt (wpAny_holding (wpAny_bind (ty.at (wpAny_bind (fga.at ?_))))))))
 show wpAny _ _ (if (onTheHeap (Value.ref D) && Value.builtin "BaseException.__getattribute__" == Value.builtin "object.__getattribute__")=true then _ else _) _ _ _
 rw [n1,if_neg Bool.false_ne_true]
 unfold getAttrByItsOwn hookBefore
 refine wpAny_bind ?_
 rw [if_pos (show onTheHeap (Value.ref D)=true from rfl)]
 refine fgt.at ?_
 refine wpAny_bind (wpAny_attempt (wpAny_holding ?_))
 unfold callGetattribute
 rw [show (false && onTheHeap (Value.builtin "BaseException.__getattribute__"))=false from rfl,if_neg Bool.false_ne_true]
 unfold boundAndCalled
 rw [PySem.F.excAttr_ValueError.ga.bind (.ref x)]
 refine wpAny_bind (wpAny_pure ?_)
 show wpAny _ _ (call (.builtin "BaseException.__getattribute__") [.ref x,.str "__class__" tk]) _ _ _
 refine wpAny_call (codeAny_call_builtin PySem.F.excAttr_ValueError.ga.plain PySem.F.entry_bexc_ga ?_)
 refine @PySem.W.check_slot (model prog w) _ _ ⟨hp,gens,dr,tk + 1,os⟩ "BaseException.__getattribute__" "BaseException" "__getattribute__" (.ref x) [.str "__class__" tk] [] _ (by decide +kernel) (by decide +kernel) isB (PySem.F.args_bexc_ga (.ref x) (.str "__class__" tk)) ?_
 unfold Builtin.«object.__getattribute__»
 refine wpAny_bind (wpAny_of_eq (a:=((Value.ref x:Value),[Value.str "__class__" tk])) (by first | rfl | (simp only [slotArgs];rfl)) ?_)
 refine wpAny_bind (wpAny_pure (wpAny_bind (ty.at (wpAny_bind (fnd.at ?_)))))
 show wpAny _ _ (holding [Value.builtin "object.__class__"] (call (.builtin "getset_descriptor.__get__") [.builtin "object.__class__",.ref x,.ref D]) >>= ret) _ _ _
 refine wpAny_bind (wpAny_holding (wpAny_call (class_get (s:=⟨hp,gens,dr,tk + 1,os⟩) (ox:=ox) (od:=od) X I T.hm ?_)))
 refine wpAny_pure ?_
 show wpAny _ _ (handedOut (.ref D)) _ _ _
 rw [handedOut_of (v:=.ref D) rfl]
 first
  | exact wpAny_pure (wpAny_pure h)
  | exact wpAny_pure h
  | exact wpAny_pure (wpAny_bind (wpAny_pure (wpAny_pure h)))
theorem qiq (T:L2.ExcC K D):KitX K (.ref x) (.ref D) (fun h=>∃ ox od,W.InstAt h x ox D od) where
 ty:=fun _ _ _ ⟨_,_,I⟩=>I.type
 it:=fun _ _ X _=>by
  obtain ⟨cd,hcd,_⟩:=any_some T.hd
  unfold clsIn at hcd
  split at hcd
  ·rename_i c1 d1 cd1 sl1 look
   intro A1 Q1 E1 s1 keep q
   unfold isType loadHead
   exact wpAny_bind (wpAny_loadPart (keep _ _ (X _ _ look)) (wpAny_pure q))
  ·cases hcd
 ne:=fun h tp dd its n sl X htp=>by
  obtain ⟨cd,hcd,_⟩:=any_some T.hd
  refine Bool.eq_false_iff.mpr fun q=>?_
  have e:D=tp:=Value.ref.inj (beq_iff_eq.mp q)
  subst e
  unfold clsIn at hcd
  split at hcd
  ·rename_i c1 d1 cd1 sl1 look
   have two:=(X _ _ look).symm.trans htp
   cases two
  ·cases hcd
 ca:=fun X ⟨_,_,I⟩ k=>qip T X I k
end
end LS
namespace LS
open PySem PySem.Spec PyProof.Rows L2
def qiC (H:Hp) (C a:Addr):Prop:=∃ d,H a=some (excO (.ref C) d a)∧∀ dd,d=some dd→∃ fs,H dd=some (.xd fs)
section
variable {X:Cx}
theorem qgQ {pins:List (Addr × Obj)} {σ:L2.St} {H:Hp} {s:Shared} {C a:Addr} (I:Inv X pins σ H s) (h:qiC H C a):∃ ox od,PySem.W.InstAt s.heap a ox C od:=by
 obtain ⟨d,ha,hd⟩:=h
 obtain ⟨⟨oe,vs,e,⟨z1,z2⟩,dt⟩,_⟩:=(show ObjOk X.prog X.w H s.heap a (excO (.ref C) d a) from I.hok a _ ha)
 obtain ⟨oc,od,oda,osl⟩:=oe
 dsimp only at z1 z2 dt
 subst z1 z2 dt
 cases od with
 | none=>exact ⟨_,none,e,rfl,rfl,trivial⟩
 | some dd=>
  obtain ⟨fs,hf⟩:=hd dd rfl
  obtain ⟨mA,⟨ob,es,ep,e2,_⟩,_⟩:=(show ObjOk X.prog X.w H s.heap dd (.xd fs) from I.hok dd _ hf)
  exact ⟨_,some ob,e,rfl,rfl,e2⟩
theorem qha:CallR X (.builtin "isinstance") (fun xs H Q=>∃ (C a:Addr) (c:V) (u:Value) (b:Bool),xs=[.ref a,c]∧qiC H C a∧L2.ExcC X.K C∧ClsV c u∧PySem.W.kitOne X.K (.ref C) u=some b∧Q (.bl b) H):=by
 intro pins s σ H xs us Q I r h
 obtain ⟨C,a,c,u,b,rfl,he,T,k,e,q⟩:=h
 obtain ⟨u1,u2,rfl,r1,r2⟩:=vals2 r
 have e1:u1=Value.ref a:=r1
 subst e1
 have e2:=k.eq r2
 subst e2
 exact PySem.W.kia_one (qiq T) I.kIn (qgQ I he) e (fun z=>nomatch z) fun tk=>⟨.bl b,H,I.tok tk,rfl,q⟩
theorem qiX:CallR X (.builtin "isinstance") (fun xs H Q=>∃ (C a tp:Addr) (cs:List V) (us:List Value) (b:Bool),xs=[.ref a,.ref tp]∧qiC H C a∧L2.ExcC X.K C∧H tp=some (.tup cs)∧Paired ClsV cs us∧PySem.W.kitAny X.K (.ref C) us=some b∧Q (.bl b) H):=by
 intro pins s σ H xs us Q I r h
 obtain ⟨C,a,tp,cs,ws,b,rfl,he,T,ht,pc,e,q⟩:=h
 obtain ⟨u1,u2,rfl,r1,r2⟩:=vals2 r
 have e1:u1=Value.ref a:=r1
 have e2:u2=Value.ref tp:=r2
 subst e1 e2
 obtain ⟨_,its,rv,o,h1,h2,n,h3⟩:=(show ObjOk X.prog X.w H s.heap tp (.tup cs) from I.hok tp _ ht)
 have e3:=ClsV.all pc rv
 subst e3
 obtain ⟨oc,od,odt,osl⟩:=o
 dsimp only at h2 h3
 subst h2 h3
 exact PySem.W.kia_tup (qiq T) I.kIn (qgQ I he) h1 e (fun z=>nomatch z) fun tk=>⟨.bl b,H,I.tok tk,rfl,q⟩
end
section
variable {X:Cx} {C:Cn} {ct:Ct} {k:Nat} {pos:Pos}
def tCs:List V→TA
 | []=>tNil
 | v::vs=>tCons (tC v) (tCs vs)
theorem qic:∀ {vs:List V} {σ:L2.St} {H:Hp} {Q:List V→Hp→Prop},Q vs H→tCs vs σ H Q
 | [],_,_,_,q=>q
 | v::vs,σ,H,Q,q=>qic (vs:=vs) (σ:=σ) (H:=H) (Q:=fun xs H2=>Q (v::xs) H2) q
theorem qhh (G:Gd C ct k X):∀ {cs:List Str} {es:List Expr},qer ct cs es=true→(∀ c∈cs,C.g.isn c=true)→PA X es (tCs (cs.map fun c=>.ref (He.ga X.K c)))
 | [],[],_,_=>pa_nil
 | c::cs,.Name y p::es,h,hn=>by
  have h1:(gB ct c y && qer ct cs es)=true:=h
  obtain ⟨rfl,hg,ho⟩:=qcH G (and1 h1)
  exact pa_cons (pe_glob hg (G.isn c (hn c List.mem_cons_self)) rfl (qam ho)) (qhh G (and2 h1) fun c' hc=>hn c' (List.mem_cons_of_mem _ hc)) (qai rfl)
 | [],_::_,h,_=>by simp [qer] at h
 | _::_,[],h,_=>by simp [qer] at h
theorem qii {K:PySem.W.Frag} {g:Gm} {c:Str} (hx:∀ x b,g.isx c x=some b→PySem.W.kitOne K (.ref (He.ga K c)) (.ref (He.ga K x))=some b):∀ {cs:List Str} {b:Bool},qcf (g.isx c) cs=some b→PySem.W.kitAny K (.ref (He.ga K c)) (cs.map fun x=>.ref (He.ga K x))=some b
 | [],b,e=>e
 | x::r,b,e=>by
  unfold qcf at e
  show (match PySem.W.kitOne K (.ref (He.ga K c)) (.ref (He.ga K x)) with | some true=>some true | some false=>PySem.W.kitAny K (.ref (He.ga K c)) (r.map fun x=>.ref (He.ga K x)) | none=>none)=some b
  split at e
  ·rename_i h
   rw [hx x true h]
   exact e
  ·rename_i h
   rw [hx x false h]
   exact qii hx e
  ·cases e
theorem qeB {K:PySem.W.Frag}:∀ (cs:List Str),Paired ClsV (cs.map fun c=>V.ref (He.ga K c)) (cs.map fun c=>Value.ref (He.ga K c))
 | []=>.nil
 | c::r=>.cons (.own _) (qeB r)
theorem qpX (G:Gd C ct k X) {cs:List Str} {a:E} {x:Str} {e y:Expr} {p:Pos} (hf:gB ct "isinstance" x=true) (hc:qjM ct cs y=true) (hs:qae e=true) (hs2:qae y=true) (ha:PE X e (tE X C a)) :
  PE X (.Call (.Name x p) [e,y] [] pos) (tE X C (.isX cs a)):=by
 obtain ⟨rfl,hg,ho⟩:=qcH G hf
 by_cases hall:cs.all C.g.isn=true
 ·have hn:∀ c∈cs,C.g.isn c=true:=fun c h=>List.all_eq_true.mp hall c h
  have st:=qai (e:=e) (es:=[y]) (env:=X.env) hs
  have read:∀ {σ:L2.St} {H:Hp} {Q:VK},tE X C (.isX cs a) σ H Q→tE X C a σ H fun v H1=>∃ (c:Str) (ad:Addr) (w1:Wd) (S1:qaa) (b:Bool),v=.ref ad∧qiC H1 (He.ga X.K c) ad∧HRel X.K S1 w1 H1∧qcf (C.g.isx c) cs=some b∧(cs≠[]→L2.ExcC X.K (He.ga X.K c))∧
    ∀ w' H',LeW w1 w'→HRel X.K S1 w' H'→Q (.bl b) H':=fun {σ H Q} q=>by
   obtain ⟨w,env,S,hr,he,q⟩:=q
   simp only [evE,if_pos hall] at q
   refine ⟨w,env,S,hr,he,(q.step (rel:=RepW X.K)).imp fun v H1 h1=>?_⟩
   obtain ⟨w1,x1,S1,l1,hr1,r1,q1⟩:=h1
   simp only at q1
   split at q1
   ·rename_i c fs
    split at q1
    ·rename_i b hb
     have r1':RepP X.K w1.F (.exc c fs) v:=r1
     unfold RepP at r1'
     obtain ⟨ad,d,rfl,fa,rd⟩:=r1'
     refine ⟨c,ad,w1,S1,b,rfl,⟨d,hr1.le _ _ fa,fun dd e=>?_⟩,hr1,hb,fun hne=>?_,fun w' H' lw hr'=>q1 w' _ _ lw hr' (show RepP X.K w'.F (.bl b) _ from P_bl)⟩
     ·rcases rd with ⟨rfl,_⟩ | ⟨dd',fs',rfl,fd,_⟩
      ·cases e
      ·cases e
       exact ⟨fs',hr1.le _ _ fd⟩
     ·cases cs with
      | nil=>exact absurd rfl hne
      | cons y r=>
       unfold qcf at hb
       split at hb
       ·rename_i h
        exact (G.isx c y _ h).2
       ·rename_i h
        exact (G.isx c y _ h).2
       ·cases hb
    ·exact q1.elim
   ·exact q1.elim
  unfold qjM at hc
  split at hc
  ·rename_i y0 pc
   split at hc
   ·rename_i _ c
    obtain ⟨rfl,hg2,ho2⟩:=qcH G hc
    have hN:PE X (.Name c pc) (tC (.ref (He.ga X.K c))):=pe_glob hg2 (G.isn c (hn c List.mem_cons_self)) rfl (qam ho2)
    refine PE.weak (pe_callB qha hg (G.blt _ (by decide +kernel)) (by decide +kernel) (pa_cons ha (pa_cons hN pa_nil) st) (qbw ho) (qam ho) st rfl) fun σ H Q q=>?_
    obtain ⟨w,env,S,hr,he,q⟩:=read q
    refine ⟨w,env,S,hr,he,q.imp fun v H1 h1=>?_⟩
    obtain ⟨cx,ad,w1,S1,b,rfl,hE,hr1,hb,T,q1⟩:=h1
    have hone:C.g.isx cx c=some b:=by
     unfold qcf at hb
     split at hb
     ·rename_i h;cases hb;exact h
     ·rename_i h;cases hb;exact h
     ·cases hb
    exact ⟨_,ad,.ref (He.ga X.K c),.ref (He.ga X.K c),b,rfl,hE,T (by simp),.own _,(G.isx cx c b hone).1,q1 _ _ (LeW.refl _) hr1⟩
   ·cases hc
  ·rename_i es kt pt
   have hnm:=and2 hc
   have hlen:=of_decide_eq_true (and1 hc)
   refine PE.weak (pe_callB qiX hg (G.blt _ (by decide +kernel)) (by decide +kernel) (pa_cons ha (pa_cons (pe_tup (qhh G hnm hn)) pa_nil) st) (qbw ho) (qam ho) st (qch (by simp [hs2]))) fun σ H Q q=>?_
   obtain ⟨w,env,S,hr,he,q⟩:=read q
   refine ⟨w,env,S,hr,he,q.imp fun v H1 h1=>?_⟩
   obtain ⟨cx,ad,w1,S1,b,rfl,hE,hr1,hb,T,q1⟩:=h1
   refine qic (Q:=fun xs H2=>xs.length≤sizeLine∧∀ p,H2 p=none→_) ⟨?_,fun tp htp=>?_⟩
   ·rw [List.length_map,sizeLine_eq]
    omega
   ·obtain ⟨hr2,lw⟩:=hr1.newF (o:=.tup (cs.map fun c=>.ref (He.ga X.K c))) htp
    have hE2:qiC (upd H1 tp (.tup (cs.map fun c=>.ref (He.ga X.K c)))) (He.ga X.K cx) ad:=by
     obtain ⟨d,e1,e2⟩:=hE
     refine ⟨d,by rw [upd_ne (ne_of_none e1 htp)];exact e1,fun dd ed=>?_⟩
     obtain ⟨fs,e3⟩:=e2 dd ed
     exact ⟨fs,by rw [upd_ne (ne_of_none e3 htp)];exact e3⟩
    exact ⟨_,ad,tp,_,_,b,rfl,hE2,T (by rintro rfl;simp at hlen),upd_same,qeB cs,qii (fun x b h=>(G.isx cx x b h).1) hb,q1 _ _ lw hr2⟩
  ·cases hc
 ·refine PE.pick fun σ H Q q=>?_
  obtain ⟨w,env,S,hr,he,q⟩:=q
  simp only [evE,if_neg hall] at q
  exact q.elim
end
end LS
set_option maxHeartbeats 1000000
namespace LS
open PySem PySem.Spec PyProof.Rows L2
section
variable {X:Cx} {d:Addr} {es:Array DictEntry} {n:Nat}
end
section
variable {X:Cx} {C:Cn} {ct:Ct} {k:Nat} {pos:Pos}
end
end LS
set_option maxHeartbeats 2000000
namespace LS
open PySem PySem.Spec PyProof.Rows L2 PpSet
def SetT (P:Program) (w:World) (h:Heap) (a:Addr) (xs:List Str):Prop:=h.SetOf (PySem.strKind P w) a (hasT xs) (qjF xs).length
theorem SetT.at {P:Program} {w:World} {h h':Heap} {a:Addr} {xs:List Str} (R:SetT P w h a xs) (k:∀ o,h.get? a=some o→h'.get? a=some o):SetT P w h' a xs:=by
 obtain ⟨o,es,ep,t,ho,rest⟩:=R
 exact ⟨o,es,ep,t,k o ho,rest⟩
section
variable {X:Cx}
end
section
variable {X:Cx}
end
end LS
set_option maxHeartbeats 1000000
namespace LS
open PySem PySem.Spec PyProof.Rows L2
section
variable {X:Cx} {C:Cn} {ct:Ct} {k:Nat} {pos:Pos}
end
end LS
set_option maxHeartbeats 400000
namespace LS
open PySem PySem.Spec PyProof.Rows L2
section
variable {X:Cx} {C:Cn} {ct:Ct} {k:Nat} {pos:Pos}
theorem qpY {i j:Int} {n:Nat} {p:Pos} (h:i=-j):PE X (.UnaryOp .USub (.Constant (.int j) n p) pos) (tE X C (.lit (.int i))):=by
 refine PE.weak (pe_un un_neg pe_int) fun σ H Q q=>?_
 obtain ⟨w,env,S,hr,he,q⟩:=q
 simp only [evE] at q
 subst h
 exact ⟨j,rfl,q w _ _ (LeW.refl _) hr (show RepP X.K w.F (.int (-j)) _ from qbx)⟩
def tXt (X:Cx) (n:Str) (te:TE):TE:=fun σ H Q=>te σ H fun x H1=>∃ a C d fs v,x=.ref a∧H1 a=some (excO (.ref C) (some d) a)∧XfC X.K C∧PySem.W.findIn X.K (.ref C) n=some none∧H1 d=some (.xd fs)∧fs.lookup n=some v∧Q v H1
theorem qoL {e:Expr} {te:TE} {n:Str} (he:PE X e te) (hb:qby e=true):PE X (.Attribute e n pos) (tXt X n te):=by
 refine ⟨fun pins s σ H Q I h=>?_⟩
 refine attr_of (qdw hb) (thn (he.run pins s σ H _ I h) fun u s1 hh=>?_)
 obtain ⟨x,H1,I1,rx,a,C,dd,fs,v,ex,ea,T,hno,ed,l,q⟩:=hh
 subst ex
 obtain rfl:u=Value.ref a:=rx
 obtain ⟨⟨oe,vs,ha,hz,hd⟩,_⟩:=I1.hok a _ ea
 have hx:ObjOk X.prog X.w H1 s1.heap dd (.xd fs):=I1.hok dd _ ed
 obtain ⟨mA,hns,hr⟩:=hx
 obtain ⟨od,ho,hl⟩:=lookIn_ns hns
 obtain ⟨u,hu,ru⟩:=RelO.some_of (v:=v) (o:=mA n) (by rw [← l];exact hr n)
 have J:PySem.W.InstAt s1.heap a oe C (some od):=⟨ha,hz.1,by unfold PySem.W.notCls;rw [hd] <;> rfl,by rw [hz.2];exact ho⟩
 exact HandSPX.exc_get I1.kIn J T.ga T.gg T.exC (PySem.W.findObj_own T.hdC hno rfl (by rw [hl,hu])) (handed_of ru) ⟨v,H1,I1.tok _,ru,q⟩
theorem qaq.at_ {K:PySem.W.Frag} {F:Hp} {n:Str} {p:P}:∀ {fs:List (Str × P)} {fs':List (Str × V)},qaq K F fs fs'→fs.lookup n=some p→∃ v,fs'.lookup n=some v∧RepP K F p v
 | [],_,_,e=>by simp at e
 | (k,x)::r,fs',h,e=>by
  unfold qaq at h
  obtain ⟨v,r',rfl,h1,h2⟩:=h
  rw [List.lookup_cons] at e ⊢
  cases hk:(n == k) with
  | true=>
   rw [hk] at e
   cases e
   exact ⟨v,rfl,h1⟩
  | false=>
   rw [hk] at e
   exact qaq.at_ h2 e
theorem qnQ (G:Gd C ct k X) {a:E} {f:Str} {e:Expr} (hb:qby e=true) (ha:PE X e (tE X C a)):PE X (.Attribute e f pos) (tE X C (.xatt a f)):=by
 refine PE.weak (qoL ha hb) fun σ H Q q=>?_
 obtain ⟨w,env,S,hr,he,q⟩:=q
 simp only [evE] at q
 refine ⟨w,env,S,hr,he,(q.step (rel:=RepW X.K)).imp fun v H1 h1=>?_⟩
 obtain ⟨w1,x1,S1,l1,hr1,r1,q1⟩:=h1
 simp only at q1
 split at q1
 ·rename_i c fs
  split at q1
  ·rename_i p e1 e2
   have r1':RepP X.K w1.F (.exc c fs) v:=r1
   unfold RepP at r1'
   obtain ⟨ad,d,rfl,fa,rd⟩:=r1'
   obtain ⟨T,hno⟩:=G.xfl c f e1
   rcases rd with ⟨_,rfl⟩ | ⟨dd,fs',rfl,fd,rf⟩
   ·simp at e2
   ·obtain ⟨v,l,rv⟩:=qaq.at_ rf e2
    exact ⟨ad,_,dd,fs',v,rfl,hr1.le _ _ fa,T,hno,hr1.le _ _ fd,l,q1 w1 v H1 (LeW.refl _) hr1 rv⟩
  ·exact q1.elim
 ·exact q1.elim
end
end LS
set_option maxHeartbeats 1000000
namespace LS
open PySem PySem.Spec PyProof.Rows L2
section
variable {X:Cx} {C:Cn} {ct:Ct} {k:Nat} {pos:Pos}
end
end LS
namespace LS
open PySem PySem.Spec PyProof.Rows L2
section
variable {X:Cx} {pins:List (Addr × Obj)} {σ:L2.St} {H:Hp} {s:Shared} {d:Addr} {o:Obj}
end
section
variable {P:Program} {w:World} {K:PySem.W.Frag} {d:Addr} {o:Obj} {es:Array DictEntry} {ep:Nat}
end
section
variable {X:Cx} {tg e:Expr} {td:TE} {apos cpos:Pos}
end
section
variable {K:PySem.W.Frag} {w:Wd} {S:qaa} {H:Hp}
end
section
variable {P:Program} {w:World} {K:PySem.W.Frag} {d:Addr} {o:Obj} {es:Array DictEntry} {ep:Nat} {tg:Expr}
end
section
variable {X:Cx} {tg e:Expr} {td:TE} {apos cpos:Pos}
end
end LS
namespace LS
open PySem PySem.Spec PyProof.Rows L2
section
variable {X:L2.Cx}
end
section
variable {X:L2.Cx} {C:Cn} {ct:Ct} {k:Nat} {pos:Pos}
end
section
variable {K:PySem.W.Frag} {w:Wd}
end
end LS
namespace LS
open PySem PySem.Spec PyProof.Rows L2
section
variable {X:Cx} {C:Cn} {ct:Ct} {k:Nat} {pos:Pos}
end
end LS
set_option maxHeartbeats 4000000
namespace PySem
namespace HandSPX
open Builtin Builtin.ObjectAttr
section
variable {M:Model} {A:Around} {E:Value→Shared→Prop} {h:Heap} {g:Array GenState} {d:Drawn} {t:Nat} {os:OsState}
variable {nm q:Str} {C N:Addr} {bs bm bmB:List Value} {hdct:Bool} {sn:List Str} {sub:List Value} {ab:Bool} {col:Option Bool} {dd:Option Addr} {k0 k1 k2 k3 k5:Option Value} {B newId initId:String}
theorem qen (F:ExcBaseFacts B newId initId bmB) (hT:∀ X:String,bm.contains (.type X)=bmB.contains (.type X)) {rest:List Value} {kw:List (Str × Value)} {Q:Unit→Shared→Prop}
  (hC:h.get? C=some (excClassObj nm q C N bs bm hdct sn sub ab col dd k0 k1 k2 k3 k5 newId)) (hq:Q () ⟨h,g,d,t,os⟩):wpAny M A (checkBuiltinCall newId ⟨.ref C::rest,kw⟩) Q E ⟨h,g,d,t,os⟩:=by
 have hcont:(Value.ref C::bm).contains (.type B)=true:=by rw [List.contains_cons,hT,F.hasB,Bool.or_true]
 have hstar:=F.noStar
 simp only [checkBuiltinCall,F.newKind,F.newSplit,F.newRow]
 repeat (first | refine wpAny_loadPart_at hC ?_ | (refine wpAny_isSubtype_exc hC ?_;rw [hcont]) | refine wpAny_staticBase_exc hC ?_ | refine wpAny_madeBy_exc hC ?_ | simp only [bne_self_eq_false,Bool.false_eq_true,if_false] | wp_step)
 exact hq
end
section
variable {prog:Program} {w:World} {A:Around} {E:Value→Shared→Prop} {R:Result→Shared→Prop} {h:Heap} {g:Array GenState} {d:Drawn} {t:Nat} {os:OsState}
variable {nm q:Str} {C N:Addr} {bs bm bmB:List Value} {hdct:Bool} {sn:List Str} {sub:List Value} {ab:Bool} {col:Option Bool} {dd:Option Addr} {k0 k1 k2 k3 k5:Option Value} {B newId initId:String}
theorem qjO (F:ExcBaseFacts B newId initId bmB) (hT:∀ X:String,bm.contains (.type X)=bmB.contains (.type X)) {rest:List Value} {kw:List (Str × Value)}
  (hC:h.get? C=some (excClassObj nm q C N bs bm hdct sn sub ab col dd k0 k1 k2 k3 k5 newId))
  (hq:R (.ok (.ret (.ref (h.objs.size + 1)))) ⟨(h.push { cls:=.type "tuple",data:=.seq rest.toArray }).push
   { cls:=.ref C,data:=.fields #[.ref h.objs.size,.none,.none,.none,.bool false,.none] },g,d,t,os⟩) (hrest:rest.length≤sizeLine) :
  codeAny (model prog w) A (.builtin newId ⟨.ref C::rest,kw⟩) R ⟨h,g,d,t,os⟩:=by
 have hends:=F.ends
 have hcB:(Value.ref C::bm).contains (.type B)=true:=by rw [List.contains_cons,hT,F.hasB,Bool.or_true]
 have hcA:(Value.ref C::bm).contains (.type "AttributeError")=false:=by rw [List.contains_cons,hT,F.noAttr];rfl
 have hcN:(Value.ref C::bm).contains (.type "NameError")=false:=by rw [List.contains_cons,hT,F.noName];rfl
 refine codeAny_builtinAt F.entry ?_
 unfold Builtin.«BaseException.__new__»
 refine wpAt_bind ?_
 show wpAt _ _ _ (stack >>= _) _ _ _
 refine wpAt_bind (wpAt_stack fun p below=>wpAt_of_wpAny ?_)
 wp_walk
 refine wpAt_of_wpAny ?_
 rw [F.owner]
 repeat (first | with_reducible refine wpAny_madeHere_exc F.canon hC ?_ | with_reducible refine wpAny_loadPart_at hC ?_ | (with_reducible refine wpAny_isSubtype_exc hC ?_;first | rw [hcB] | rw [hcA] | rw [hcN]) | wp_step)
 show R _ _
 rw [Heap.size_push]
 exact hq
theorem qeo (F:ExcBaseFacts B newId initId bmB) (hT:∀ X:String,bm.contains (.type X)=bmB.contains (.type X)) {rest:List Value} {kw:List (Str × Value)} {fI:Addr} {Q:Fin→Shared→Prop}
  (hC:h.get? C=some (excClassObj nm q C N bs bm hdct sn sub ab col dd k0 k1 k2 k3 k5 newId))
  (hi:W.Looks (model prog w) h (typeLookup (.ref C) "__init__") (some (.ref fI))) (hb:∀ self,W.Looks (model prog w) h (bindSpecial (.ref fI) self) (.ref fI,[self])) (hrest:rest.length≤sizeLine)
  (hq:codeAny (model prog w) A (.call (.ref fI) ⟨.ref (h.objs.size + 1)::rest,kw⟩)
   (fun r s'=>match r with | .ok (.ret v)=>v=.none∧Q (.done (.ret (.ref (h.objs.size + 1)))) s' | .ok _=>False | .error e=>E e s')
   ⟨(h.push (W.kdv_tup rest)).push (excO C h.objs.size),g,d,t,os⟩) :
  wpAny (model prog w) A (Builtin.«type.__call__» ⟨.ref C::rest,kw⟩) Q E ⟨h,g,d,t,os⟩:=by
 repeat (first | with_reducible refine wpAny_loadPart_at hC ?_ | with_reducible refine wpAny_madeBy_exc hC ?_ | wp_step)
 refine codeAny_call_builtin_code (Code.quiet_builtin _ F.quiet) (qen F hT hC ?_)
 refine qjO F hT hC ?_ hrest
 show wpAny _ _ _ _ _ _
 have k:∀ b o,h.get? b=some o→((h.push (W.kdv_tup rest)).push (excO C h.objs.size)).get? b=some o:=fun b o e=>Heap.get?_push_of_some _ (Heap.get?_push_of_some _ e)
 have hC₁:=k _ _ hC
 have hget:((h.push (W.kdv_tup rest)).push (excO C h.objs.size)).get? (h.objs.size + 1)=some (excO C h.objs.size):=by heap_get
 have hcC:(Value.ref C::bm).contains (.ref C)=true:=by simp
 have i1:=hi.keeps k
 have b1:=(hb (.ref (h.objs.size + 1))).keeps k
 unfold isInstance
 repeat (first | with_reducible refine wpAny_loadPart_at hget ?_ | (with_reducible refine wpAny_isSubtype_exc hC₁ ?_;rw [hcC]) | wp_step)
 show wpAny _ _ (typeLookup (.ref C) _) _ _ _
 refine i1.at ?_
 refine wpAny_holding (wpAny_bind (b1.at ?_))
 refine wpAny_bind (wpAny_call (codeAny_mono hq fun r s' z=>?_))
 rcases r with e | (v | _ | _ | _) <;> first | exact z | exact z.elim | skip
 obtain ⟨rfl,z⟩:=z
 first
  | exact wpAny_pure (wpAny_pure z)
  | (wp_walk;exact z)
theorem call_ownW (F:ExcBaseFacts B newId initId bmB) (hT:∀ X:String,bm.contains (.type X)=bmB.contains (.type X)) {rest:List Value} {kw:List (Str × Value)} {fI:Addr}
  (hC:h.get? C=some (excClassObj nm q C N bs bm hdct sn sub ab col dd k0 k1 k2 k3 k5 newId))
  (hi:W.Looks (model prog w) h (typeLookup (.ref C) "__init__") (some (.ref fI))) (hb:∀ self,W.Looks (model prog w) h (bindSpecial (.ref fI) self) (.ref fI,[self])) (hrest:rest.length≤sizeLine)
  (hq:codeAny (model prog w) (A.under (.builtin "type.__call__" ⟨.ref C::rest,kw⟩)) (.call (.ref fI) ⟨.ref (h.objs.size + 1)::rest,kw⟩) (W.InitBack (h.objs.size + 1) R)
   ⟨(h.push (W.kdv_tup rest)).push (excO C h.objs.size),g,d,t,os⟩) :
  codeAny (model prog w) A (.call (.ref C) ⟨rest,kw⟩) R ⟨h,g,d,t,os⟩:=by
 have f1:=tc_lookup
 have f2:=tc_bind (.ref C)
 have hTy:(⟨h,g,d,t,os⟩:Shared).TypeIs (.ref C) "type":=⟨_,hC,rfl⟩
 refine codeAny_of_tree ?_
 show wpAny _ _ (callAny (.ref C) _) _ _ _
 repeat (any_goals (first | assumption | with_reducible refine wpAny_loadPart_at hC ?_ | wp_step))
 refine ⟨rfl,?_⟩
 refine codeAny_call_builtin_at (Code.quiet_builtin _ (by decide +kernel)) entry_typeCall (wpAny_check_type_call_sub hC (qeo F hT hC hi hb hrest ?_))
 refine codeAny_mono hq fun r s' z=>?_
 rcases r with e | (v | _ | _ | _) <;> exact z
end
end HandSPX
end PySem
set_option maxHeartbeats 2000000
namespace LS
open PySem PySem.Spec PyProof.Rows L2
theorem qcn {A:Around} {Ca:Addr} {us:List Value} {kw:List (Str × Value)} (h:A.guards=some []):(A.under (.builtin "type.__call__" ⟨.ref Ca::us,kw⟩)).guards=some []:=by
 simp [Around.under,Code.guards,Code.isGuard,guardIds,pushGuards,h]
def tMkG (C:Addr) (fl:List Str) (ta:TA):L2.St→Hp→XK→Prop:=fun σ H Q=>ta σ H fun vs H1=>vs.length=fl.length∧fl.length≤5∧∀ d,H1 d=none→Q (.ref C) (some d) (upd H1 d (.xd (fl.zip vs).reverse))
theorem qeY {A:Around} {Ca:Addr} {us:List Value} {kw:List (Str × Value)} (h:A.guards=some []):(A.under (.builtin "type.__call__" ⟨.ref Ca::us,kw⟩)).guards=some []:=by
 simp [Around.under,Code.guards,Code.isGuard,guardIds,pushGuards,h]
section
variable {X:Cx} {e:Expr} {es:List Expr} {ta:TA} {p pos:Pos}
theorem qoH {x:Str} {C fI:Addr} {k:Nat} {fl:List Str} (T:OexC X.K C) (iC:PySem.W.findIn X.K (.ref C) "__init__"=some (some (.ref fI))) (tI:PySem.W.typeIn X.K (.ref fI)=some (.type "function"))
  (F1:FnG X.prog X.w X.K X.mg X.base k fI (qc2 C fl)) (hr:Room (k + 1) X.A) (hgd:X.A.guards=some []) (hg:Gl X x) (hm:X.mg x=some (.ref C)) (ha:PA X (e::es) ta)
  (hdb:(x == ("__debug__":Str))=false) (he:starEach (e::es) X.env=(false,eval e X.env)::starEach es X.env) (hpl:(backTo pos (starEach es X.env)).any (·.1)=false) :
  PMk X (.Call (.Name x p) (e::es) [] pos) (tMkG C fl ta):=by
 intro pins s σ H Q I h
 obtain ⟨nm,q,N,bs,bm,sn,sub,ab,col,dd,k0,k1,k2,k3,k5,hC,hbm⟩:=T.cls
 refine wpAny_Call_Name_kw (ld_glob I hg hm ?_ hdb)
 refine PySem.W.callWith_K (h₀:=X.base) I.ok.mod.kin T.kC (thn (ha.run pos pins s σ H _ I h) fun us s1 ⟨vs,H1,I1,r1,hz,hfew,q1⟩=>⟨I1.kIn,?_⟩) he hpl
 show wpAny _ _ (call (.ref C) us) _ _ _
 obtain ⟨hp,g,dr,tk,os⟩:=s1
 have hsz:hp.objs.size≤hp.objs.size + 1:=Nat.le_succ _
 have hn:H1 (hp.objs.size + 1)=none:=I1.hok.fresh hsz
 have hq:qc2 C fl (.ref (hp.objs.size + 1)::vs) (upd H1 (hp.objs.size + 1) (exo (hp.objs.size + 1) C none)) (fun v H2=>v=.non∧∃ (d:Addr) (fs:List (Str × V)),H2 (hp.objs.size + 1)=some (exo (hp.objs.size + 1) C (some d))∧H2 d=some (exd d fs)∧H1 d=none∧Q (.ref C) (some d) (upd (del H2 (hp.objs.size + 1)) d (.xd fs))) (fun _ _ _=>False):=by
  refine ⟨_,vs,rfl,hz,upd_same,fun dx H' h1 h2 h3 h4 h5=>⟨rfl,dx,_,h4,h5,?_,?_⟩⟩
  ·rw [upd_ne h2] at h1
   exact h1
  ·rw [upd_ne h2] at h1
   have eH:upd (del H' (hp.objs.size + 1)) dx (.xd (fl.zip vs).reverse)=upd H1 dx (.xd (fl.zip vs).reverse):=by
    funext b
    by_cases hb:b=dx
    ·rw [hb,upd_same,upd_same]
    ·rw [upd_ne hb,upd_ne hb]
     by_cases hb2:b=hp.objs.size + 1
     ·rw [hb2,del_same,hn]
     ·rw [del_ne hb2,h3 b hb2 hb,upd_ne hb2]
   rw [eH]
   exact q1 dx h1
 have kk:∀ b o,hp.get? b=some o→((hp.push (PySem.W.kdv_tup us)).push (PySem.HandSPX.excO C hp.objs.size)).get? b=some o:=fun b o e=>Heap.get?_push_of_some _ (Heap.get?_push_of_some _ e)
 have hget:((hp.push (PySem.W.kdv_tup us)).push (PySem.HandSPX.excO C hp.objs.size)).get? (hp.objs.size + 1)=some (PySem.HandSPX.excO C hp.objs.size):=by heap_get
 have I2:Inv X pins σ (upd H1 (hp.objs.size + 1) (exo (hp.objs.size + 1) C none)) ⟨(hp.push (PySem.W.kdv_tup us)).push (PySem.HandSPX.excO C hp.objs.size),g,dr,tk,os⟩:=
  I1.laid (t':=tk) (a:=hp.objs.size + 1) (o:=exo (hp.objs.size + 1) C none) (h':=(hp.push (PySem.W.kdv_tup us)).push (PySem.HandSPX.excO C hp.objs.size)) kk hsz (exo_ok hget)
 have r2:Vals (V.ref (hp.objs.size + 1)::vs) (Value.ref (hp.objs.size + 1)::us):=.cons rfl r1
 have hus:us.length≤sizeLine:=by
  rw [← Paired.length r1,sizeLine_eq]
  omega
 refine wpAny_call (PySem.HandSPX.call_own F.excBase_ValueError (fun Y=>PySem.HandSPX.refsVE_contains Y bm hbm) (I1.kIn _ _ hC) (PySem.W.looks_findIn I1.kIn iC) (fun self=>PySem.W.bind_fn I1.kIn self tI) hus
  (codeAny_mono (F1 _ X.stack _ _ (Value.ref (hp.objs.size + 1)::us) _ _ (fun _ _ _=>False) (hr.make C us []).lo (qcn hgd) (I2.env0.make C us []) r2 hq) fun r s' hq'=>?_))
 cases r with
 | error er=>
  obtain ⟨_,_,_,_,_,_,_,_,_,_,_,_,z⟩:=hq'
  exact z.elim
 | ok fl=>
  cases fl with
  | ret u=>
   obtain ⟨v,H2,os2,bare2,un2,hok2,rv,ev,d,fs,ea,ed,hd1,q2⟩:=hq'
   subst ev
   obtain ⟨h2,g2,d2,t2,os'⟩:=s'
   exact ⟨rv,mk_end (raises_own T.exC T.tyC) I1 hsz kk un2 hok2 os2 bare2 ea ed hd1 q2⟩
  | next=>exact False.elim hq'
  | brk=>exact False.elim hq'
  | cont=>exact False.elim hq'
theorem qo6 {x:Str} {C:Addr} (q:PySem.W.excIn X.K C [.type "ValueError",.type "Exception",.type "BaseException",.type "object"] "ValueError.__new__"=true) (gC:X.mg x=some (.ref C)) (kC:PySem.W.keepIn X.K (.ref C)=true) (r:Raises X (.ref C)) (hg:Gl X x)
  (hdb:(x == ("__debug__":Str))=false):PMk X (.Call (.Name x p) [] [] pos) (fun _ H Q=>Q (.ref C) none H):=by
 intro pins s σ H Q I h
 refine wpAny_Call_Name_kw (ld_glob I hg gC ?_ hdb)
 refine PySem.W.callWith_K0 I.kIn kC ?_
 show wpAny _ _ (call (.ref C) []) _ _ _
 obtain ⟨bm,N,nm,qn,bs,hdct,sn,sub,ab,col,dd,k0,k1,k2,k3,k5,mN,hC,hN,hni,T⟩:=exc_obj I.kIn q
 refine wpAny_call_exc_subT F.excBase_ValueError T hC hN hni (fun h' e hm=>?_) (by show 0≤sizeLine;omega)
 exact mk_of I hm r h (I.hok.gone hm.new)
end
theorem qk5 {P:Program} {w:World} {H:Hp} {h:Heap} {a:Addr} {cls:Value} {d:Option Addr} {oe:Obj} {vs:Array Value} (e:h.get? a=some oe) (z:Zc cls d oe) (dt:oe.data=.fields vs):ObjOk P w H h a (excO cls d a):=
 ⟨⟨oe,vs,e,z,dt⟩,⟨oe,e⟩,fun _ _ ⟨o,v,q,r⟩ k=>⟨o,v,k o q,r⟩⟩
theorem qlc {X:Cx} {e:Expr} {t:L2.St→Hp→XK→Prop} (h:PMk X e t):PE X e (fun σ H Q=>t σ H fun cls d H'=>∀ a,H' a=none→Q (.ref a) (upd H' a (excO cls d a))):=by
 refine ⟨fun pins s σ H Q I q=>wpAny_mono (h pins s σ H _ I q) (fun u s1 hu=>?_) fun _ _ x=>x⟩
 obtain ⟨a,oe,vs,sI,H',cls,d,rfl,J,k,hne,ha,hz,hd,h1,na,os,ag,r,q1⟩:=hu
 have J2:=J.laidN (t':=s1.toks) k hne na (qk5 ha hz hd)
 exact ⟨.ref a,_,⟨J2.ok,os.trans J2.os,ag,J2.base,J2.loc,J2.cell,J2.free,J2.freeC,J2.pin,J2.hok,J2.len⟩,rfl,q1 a na⟩
def tMkW (C:Addr) (fl:List Str) (ta:TA):L2.St→Hp→XK→Prop:=fun σ H Q=>ta σ H fun vs H1=>vs.length=fl.length∧fl.length≤5∧∀ d,H1 d=none→Q (.ref C) (some d) (upd H1 d (.xd (fl.zip vs.reverse).reverse))
section
variable {X:Cx} {kws:List Keyword} {ta:TA} {p pos:Pos}
theorem qq2 {x:Str} {C fI:Addr} {k:Nat} {fl:List Str} (T:OexC X.K C) (iC:PySem.W.findIn X.K (.ref C) "__init__"=some (some (.ref fI))) (tI:PySem.W.typeIn X.K (.ref fI)=some (.type "function"))
  (F1:FnGW X.prog X.w X.K X.mg X.base k fI fl.reverse (qc2 C fl)) (hr:Room (k + 1) X.A) (hgd:X.A.guards=some []) (hg:Gl X x) (hm:X.mg x=some (.ref C)) (ha:PK X kws ta)
  (hdb:(x == ("__debug__":Str))=false) (hall:(backToKw pos (keywordEach kws X.env)).all (·.1.isSome)=true) (hks:(backToKw pos (keywordEach kws X.env)).filterMap (·.1)=fl.reverse)
  (hpl:((backTo pos (starEach [] X.env)).any (·.1) || (backToKw pos (keywordEach kws X.env)).any (·.1.isNone))=false) :
  PMk X (.Call (.Name x p) [] kws pos) (tMkW C fl ta):=by
 intro pins s σ H Q I h
 obtain ⟨nm,q,N,bs,bm,sn,sub,ab,col,dd,k0,k1,k2,k3,k5,hC,hbm⟩:=T.cls
 refine wpAny_Call_Name_kw (ld_glob I hg hm ?_ hdb)
 refine PySem.W.callWith_KW0 (h₀:=X.base) I.ok.mod.kin T.kC hall (thn (ha.run pos pins s σ H _ I h) fun us s1 ⟨vs,H1,I1,r1,hz,hfew,q1⟩=>⟨I1.kIn,?_⟩) hpl
 rw [hks]
 show wpAny _ _ (call (.ref C) [] (fl.reverse.zip us)) _ _ _
 obtain ⟨hp,g,dr,tk,os⟩:=s1
 have hsz:hp.objs.size≤hp.objs.size + 1:=Nat.le_succ _
 have hn:H1 (hp.objs.size + 1)=none:=I1.hok.fresh hsz
 have hq:qc2 C fl (.ref (hp.objs.size + 1)::vs.reverse) (upd H1 (hp.objs.size + 1) (exo (hp.objs.size + 1) C none)) (fun v H2=>v=.non∧∃ (d:Addr) (fs:List (Str × V)),H2 (hp.objs.size + 1)=some (exo (hp.objs.size + 1) C (some d))∧H2 d=some (exd d fs)∧H1 d=none∧Q (.ref C) (some d) (upd (del H2 (hp.objs.size + 1)) d (.xd fs))) (fun _ _ _=>False):=by
  refine ⟨_,vs.reverse,rfl,by rw [List.length_reverse];exact hz,upd_same,fun dx H' h1 h2 h3 h4 h5=>⟨rfl,dx,_,h4,h5,?_,?_⟩⟩
  ·rw [upd_ne h2] at h1
   exact h1
  ·rw [upd_ne h2] at h1
   have eH:upd (del H' (hp.objs.size + 1)) dx (.xd (fl.zip vs.reverse).reverse)=upd H1 dx (.xd (fl.zip vs.reverse).reverse):=by
    funext b
    by_cases hb:b=dx
    ·rw [hb,upd_same,upd_same]
    ·rw [upd_ne hb,upd_ne hb]
     by_cases hb2:b=hp.objs.size + 1
     ·rw [hb2,del_same,hn]
     ·rw [del_ne hb2,h3 b hb2 hb,upd_ne hb2]
   rw [eH]
   exact q1 dx h1
 have kk:∀ b o,hp.get? b=some o→((hp.push (PySem.W.kdv_tup [])).push (PySem.HandSPX.excO C hp.objs.size)).get? b=some o:=fun b o e=>Heap.get?_push_of_some _ (Heap.get?_push_of_some _ e)
 have hget:((hp.push (PySem.W.kdv_tup [])).push (PySem.HandSPX.excO C hp.objs.size)).get? (hp.objs.size + 1)=some (PySem.HandSPX.excO C hp.objs.size):=by heap_get
 have I2:Inv X pins σ (upd H1 (hp.objs.size + 1) (exo (hp.objs.size + 1) C none)) ⟨(hp.push (PySem.W.kdv_tup [])).push (PySem.HandSPX.excO C hp.objs.size),g,dr,tk,os⟩:=
  I1.laid (t':=tk) (a:=hp.objs.size + 1) (o:=exo (hp.objs.size + 1) C none) (h':=(hp.push (PySem.W.kdv_tup [])).push (PySem.HandSPX.excO C hp.objs.size)) kk hsz (exo_ok hget)
 refine wpAny_call (PySem.HandSPX.call_ownW F.excBase_ValueError (fun Y=>PySem.HandSPX.refsVE_contains Y bm hbm) (I1.kIn _ _ hC) (PySem.W.looks_findIn I1.kIn iC) (fun self=>PySem.W.bind_fn I1.kIn self tI) (by show 0≤sizeLine;omega)
  (codeAny_mono (F1 _ X.stack _ _ (Value.ref (hp.objs.size + 1)) us (.ref (hp.objs.size + 1)) vs _ (fun _ _ _=>False) (hr.make C [] (fl.reverse.zip us)).lo (qeY hgd) (I2.env0.make C [] (fl.reverse.zip us)) rfl r1 (by rw [List.length_reverse];exact hz) hq) fun r s' hq'=>?_))
 cases r with
 | error er=>
  obtain ⟨_,_,_,_,_,_,_,_,_,_,_,_,z⟩:=hq'
  exact z.elim
 | ok fl=>
  cases fl with
  | ret u=>
   obtain ⟨v,H2,os2,bare2,un2,hok2,rv,ev,d,fs,ea,ed,hd1,q2⟩:=hq'
   subst ev
   obtain ⟨h2,g2,d2,t2,os'⟩:=s'
   exact ⟨rv,mk_end (raises_own T.exC T.tyC) I1 hsz kk un2 hok2 os2 bare2 ea ed hd1 q2⟩
  | next=>exact False.elim hq'
  | brk=>exact False.elim hq'
  | cont=>exact False.elim hq'
end
theorem qaq.app {K:PySem.W.Frag} {F:Hp}:∀ {xs ys:List (Str × P)} {us vs:List (Str × V)},qaq K F xs us→qaq K F ys vs→qaq K F (xs++ys) (us++vs)
 | [],ys,us,vs,h,k=>by
  unfold qaq at h
  subst h
  exact k
 | (f,x)::xs,ys,us,vs,h,k=>by
  unfold qaq at h
  obtain ⟨v,r,rfl,h1,h2⟩:=h
  show qaq K F ((f,x)::(xs++ys)) ((f,v)::(r++vs))
  unfold qaq
  exact ⟨v,r++vs,rfl,h1,qaq.app h2 k⟩
theorem qaq.one {K:PySem.W.Frag} {F:Hp} {f:Str} {x:P} {v:V} (h:RepP K F x v):qaq K F [(f,x)] [(f,v)]:=by
 unfold qaq
 exact ⟨v,[],rfl,h,by unfold qaq;rfl⟩
theorem qaq.zip {K:PySem.W.Frag} {F:Hp}:∀ {fl:List Str} {ps:List P} {vs:List V},qab K F ps vs→qaq K F (fl.zip ps).reverse (fl.zip vs).reverse
 | [],ps,vs,h=>by
  show qaq K F [] []
  unfold qaq
  rfl
 | f::fl,[],vs,h=>by
  unfold qab at h
  subst h
  show qaq K F [] []
  unfold qaq
  rfl
 | f::fl,p::ps,vs,h=>by
  unfold qab at h
  obtain ⟨v,r,rfl,h1,h2⟩:=h
  simp only [List.zip_cons_cons,List.reverse_cons]
  exact qaq.app (qaq.zip h2) (qaq.one h1)
section
variable {X:Cx} {C:Cn} {ct:Ct} {k:Nat} {pos:Pos}
theorem qgu {K:PySem.W.Frag} {c:Str} {fl:List Str} {ps:List P} {vs:List V} {w:Wd} {H:Hp} {S:qaa} {d:Option Addr} {H':Hp} (hr:HRel K S w H) (hd:d=none∧fl.zip ps=[]∧H'=H∨∃ dd,d=some dd∧H dd=none∧H'=upd H dd (.xd (fl.zip vs).reverse)) (r:qab K w.F ps vs) {a:Addr} (ha:H' a=none) :
  ∃ w',LeW w w'∧HRel K S w' (upd H' a (excO (.ref (He.ga K c)) d a))∧RepP K w'.F (.exc c (fl.zip ps).reverse) (.ref a):=by
 rcases hd with ⟨rfl,e,rfl⟩ | ⟨dd,rfl,hdd,rfl⟩
 ·obtain ⟨hr2,l2⟩:=hr.newF (o:=excO (.ref (He.ga K c)) none a) ha
  refine ⟨_,l2,hr2,?_⟩
  unfold RepP
  exact ⟨a,none,rfl,upd_same,.inl ⟨rfl,by rw [e];rfl⟩⟩
 ·obtain ⟨hr2,l2⟩:=hr.newF (o:=.xd (fl.zip vs).reverse) hdd
  obtain ⟨hr3,l3⟩:=hr2.newF (o:=excO (.ref (He.ga K c)) (some dd) a) ha
  refine ⟨_,l2.trans l3,hr3,?_⟩
  unfold RepP
  refine ⟨a,some dd,rfl,upd_same,.inr ⟨dd,_,rfl,?_,qaq.zip (qab.mono (l2.trans l3).2 _ r)⟩⟩
  show upd (upd w.F dd _) a _ dd=_
  rw [upd_ne (fun z=>by rw [← z,upd_same] at ha;cases ha),upd_same]
theorem qp0 (G:Gd C ct k X) (hc:ct.calm=true) {c x:Str} {l:E} {es:List Expr} {p:Pos} (h:gB ct c x=true) (hpa:PA X es (tAm X C l)) (hst:es.all qae=true) (hnil:es=[]→l=.nil) (hlen:es.length=l.len) :
  PE X (.Call (.Name x p) es [] pos) (tE X C (.mkE c l)):=by
 obtain ⟨rfl,hg,ho⟩:=qcH G h
 refine PE.pick fun σ H Q q=>?_
 obtain ⟨w,env,S,hr,he,q⟩:=q
 simp only [evE] at q
 split at q
 ·rename_i fl hE
  split at q
  ·rename_i hfl
   obtain ⟨gC,T,hi⟩:=G.exc c fl hE
   cases es with
   | nil=>
    have e0:fl=[]:=List.eq_nil_of_length_eq_zero (by rw [hfl,← hlen];rfl)
    have el:l=.nil:=hnil rfl
    subst el e0
    simp only [evL] at q
    refine ⟨_,qlc (qo6 (T.bare rfl) gC T.kC (raises_own T.exC T.tyC) hg (qam ho)),fun a ha=>?_⟩
    obtain ⟨w2,l2,hr2,r2⟩:=qgu (c:=c) (fl:=[]) (ps:=[]) (vs:=[]) (d:=none) (H':=H) hr (.inl ⟨rfl,rfl,rfl⟩) (by unfold qab;rfl) ha
    exact q w2 _ _ l2 hr2 r2
   | cons e es=>
    have ne:fl≠[]:=fun z=>by
     rw [z] at hfl
     rw [← hlen] at hfl
     cases hfl
    obtain ⟨fi,i1,i2,F1⟩:=hi ne
    simp only [List.all_cons,Bool.and_eq_true] at hst
    obtain ⟨j,rfl⟩:∃ j,k=j + 2:=⟨k - 2,by have:=G.k2;omega⟩
    refine ⟨_,qlc (qoH (T.init ne) i1 i2 (F1 j).1 (G.room hc) G.hg hg gC hpa (qam ho) (qai hst.1) (qch hst.2)),w,env,S,hr,he,(q.step (rel:=qaf X.K)).imp fun vs H1 h1=>?_⟩
    obtain ⟨w1,ws,S1,l1,hr1,r1,q1⟩:=h1
    simp only at q1
    split at q1
    ·rename_i hz
     obtain ⟨q0,e0⟩:=RdG.pure_ok q1 (qah qbE fun _=>qaB)
     obtain ⟨q2,e2,e3⟩:=qaj e0
     obtain ⟨ps,S2⟩:=q2
     rw [e0] at q1
     cases e3
     obtain ⟨w2,l2,hr2,r2⟩:=qcY hr1 r1 e2
     refine ⟨by rw [← hz];exact (Paired.length r1).symm,T.few,fun d hd a ha=>?_⟩
     obtain ⟨w3,l3,hr3,r3⟩:=qgu (c:=c) (fl:=fl) (ps:=ps) (vs:=vs) (d:=some d) hr2 (.inr ⟨d,rfl,hd,rfl⟩) r2 ha
     exact q1 w3 _ _ (l2.trans l3) hr3 r3
    ·exact q1.elim
  ·exact q.elim
 ·exact q.elim
theorem qmB (G:Gd C ct k X):∀ {l:E} {ks:List Str} {kws:List Keyword},kwB ct l ks kws=true→PK X kws (tAm X C l)∧(∀ pos,(backToKw pos (keywordEach kws X.env)).filterMap (·.1)=ks∧(backToKw pos (keywordEach kws X.env)).all (·.1.isSome)=true∧(backToKw pos (keywordEach kws X.env)).any (·.1.isNone)=false):=by
 intro l
 induction l with
 | nil=>
  intro ks kws h
  cases ks with
  | nil=>
   cases kws with
   | nil=>
    refine ⟨⟨fun pos pins s σ H Q I q=>pk_nil.run pos pins s σ H Q I ?_⟩,fun pos=>⟨rfl,rfl,rfl⟩⟩
    obtain ⟨w,env,S,hr,he,q⟩:=q
    simp only [evL] at q
    exact q w [] _ (LeW.refl _) hr .nil
   | cons _ _=>exact nope h
  | cons _ _=>cases kws <;> exact nope h
 | cons a l _ ih=>
  intro ks kws h
  cases a with
  | var i=>
   cases ks with
   | nil=>cases kws <;> exact nope h
   | cons k ks=>
    rcases kws with _ | ⟨⟨nm,v,kp⟩,r⟩
    ·exact nope h
    ·cases nm with
     | none=>exact nope h
     | some k'=>
      cases v with
      | Name x p=>
       have h':(decide (k=k') && (nmB ct.N i x && visB ct.sc x && qa5 x) && kwB ct l ks r)=true:=h
       obtain ⟨hl,hp⟩:=ih (and2 h')
       have e:=of_decide_eq_true (and1 (and1 h'))
       subst e
       refine ⟨⟨fun pos pins s σ H Q I q=>(pk_cons (qlH G (and2 (and1 h'))) hl).run pos pins s σ H Q I ?_⟩,fun pos=>?_⟩
       ·obtain ⟨w,env,S,hr,he,q⟩:=q
        simp only [evL] at q
        refine ⟨w,env,S,hr,he,(q.step (rel:=RepW X.K)).imp fun v H1 h1=>?_⟩
        obtain ⟨w1,x1,S1,l1,hr1,r1,q1⟩:=h1
        refine ⟨w1,env,S1,hr1,he.mono l1,(q1.step (rel:=qaf X.K)).imp fun vs H2 h2=>?_⟩
        obtain ⟨w2,x2,S2,l2,hr2,r2,q2⟩:=h2
        exact q2 w2 _ _ (LeW.refl _) hr2 (.cons (r1.mono l2) r2)
       ·obtain ⟨h1,h2,h3⟩:=hp pos
        refine ⟨?_,?_,?_⟩
        ·show k::(backToKw pos (keywordEach r X.env)).filterMap (·.1)=_
         rw [h1]
        ·exact h2
        ·exact h3
      | _=>exact nope h
  | _=>cases ks <;> (rcases kws with _ | ⟨⟨_ | _,_,_⟩,_⟩ <;> exact nope h)
 | _=>exact fun h=>nope h
theorem qoR (G:Gd C ct k X) (hc:ct.calm=true) {c x:Str} {ks:List Str} {l:E} {kws:List Keyword} {p:Pos} (h:gB ct c x=true) (hkw:kwB ct l ks kws=true) :
  PE X (.Call (.Name x p) [] kws pos) (tE X C (.mkW c ks l)):=by
 obtain ⟨rfl,hg,ho⟩:=qcH G h
 obtain ⟨hpk,hpos⟩:=qmB G hkw
 refine PE.pick fun σ H Q q=>?_
 obtain ⟨w,env,S,hr,he,q⟩:=q
 simp only [evE] at q
 split at q
 ·rename_i fl hE
  split at q
  ·rename_i hfl
   obtain ⟨rfl,hne⟩:=hfl
   obtain ⟨gC,T,hi⟩:=G.exc c fl hE
   have ne:fl≠[]:=fun z=>hne (by rw [z];rfl)
   obtain ⟨fi,i1,i2,F1⟩:=hi ne
   obtain ⟨j,rfl⟩:∃ j,k=j + 2:=⟨k - 2,by have:=G.k2;omega⟩
   refine ⟨_,qlc (qq2 (T.init ne) i1 i2 (F1 j).2 (G.room hc) G.hg hg gC hpk (qam ho) (hpos pos).2.1 (hpos pos).1 (by show (false || _)=false;rw [(hpos pos).2.2];rfl)),w,env,S,hr,he,(q.step (rel:=qaf X.K)).imp fun vs H1 h1=>?_⟩
   obtain ⟨w1,ws,S1,l1,hr1,r1,q1⟩:=h1
   simp only at q1
   split at q1
   ·rename_i hz
    obtain ⟨q0,e0⟩:=RdG.pure_ok q1 (qah qbE fun _=>qaB)
    obtain ⟨q2,e2,e3⟩:=qaj e0
    obtain ⟨ps,S2⟩:=q2
    rw [e0] at q1
    cases e3
    obtain ⟨w2,l2,hr2,r2⟩:=qcY hr1 r1 e2
    refine ⟨by rw [← hz];exact (Paired.length r1).symm,T.few,fun d hd a ha=>?_⟩
    obtain ⟨w3,l3,hr3,r3⟩:=qgu (c:=c) (fl:=fl) (ps:=ps.reverse) (vs:=vs.reverse) (d:=some d) hr2 (.inr ⟨d,rfl,hd,rfl⟩) (qab.rev r2) ha
    exact q1 w3 _ _ (l2.trans l3) hr3 r3
   ·exact q1.elim
  ·exact q.elim
 ·exact q.elim
theorem qnC (G:Gd C ct k X) {a:E} {x c:Str} {e:Expr} {p pc:Pos} (hf:gB ct "isinstance" x=true) (hc:gB ct "ValueError" c=true) (hs:qae e=true) (ha:PE X e (tE X C a)) :
  PE X (.Call (.Name x p) [e,.Name c pc] [] pos) (tE X C (.isVE a)):=by
 obtain ⟨rfl,hg,ho⟩:=qcH G hf
 obtain ⟨rfl,hg2,ho2⟩:=qcH G hc
 have st:=qai (e:=e) (es:=[.Name "ValueError" pc]) (env:=X.env) hs
 have hN:PE X (.Name "ValueError" pc) (tC (.ty "ValueError")):=pe_bltn hg2 (G.blt _ (by decide +kernel)) (by decide +kernel:bootBuiltins "ValueError"=some (.type "ValueError")) rfl (qbw ho2) (qam ho2)
 refine PE.weak (pe_callB qha hg (G.blt _ (by decide +kernel)) (by decide +kernel) (pa_cons ha (pa_cons hN pa_nil) st) (qbw ho) (qam ho) st rfl) fun σ H Q q=>?_
 obtain ⟨w,env,S,hr,he,q⟩:=q
 simp only [evE] at q
 refine ⟨w,env,S,hr,he,(q.step (rel:=RepW X.K)).imp fun v H1 h1=>?_⟩
 obtain ⟨w1,x1,S1,l1,hr1,r1,q1⟩:=h1
 simp only at q1
 split at q1
 ·rename_i c fs
  split at q1
  ·rename_i fl b hE hb
   have r1':RepP X.K w1.F (.exc c fs) v:=r1
   unfold RepP at r1'
   obtain ⟨ad,d,rfl,fa,rd⟩:=r1'
   obtain ⟨gC,T,hi⟩:=G.exc c fl hE
   have hk:PySem.W.kitOne X.K (.ref (He.ga X.K c)) (.type "ValueError")=some true:=by
    have h1:PySem.W.kitCls X.K (.ref (He.ga X.K c)) (.type "ValueError")=some true:=by
     unfold PySem.W.kitCls
     simp only
     rw [if_pos (by decide +kernel)]
     exact T.exV
    unfold PySem.W.kitOne
    rw [if_neg (by intro z;cases (beq_iff_eq.mp z))]
    exact h1
   refine ⟨_,ad,.ty "ValueError",.type "ValueError",true,rfl,⟨d,hr1.le _ _ fa,fun dd e=>?_⟩,(G.isx c c _ hb).2,.ty "ValueError",hk,q1 w1 _ _ (LeW.refl _) hr1 (show RepP X.K w1.F (.bl true) _ from P_bl)⟩
   rcases rd with ⟨rfl,_⟩ | ⟨dd',fs',rfl,fd,_⟩
   ·cases e
   ·cases e
    exact ⟨fs',hr1.le _ _ fd⟩
  ·exact q1.elim
 ·exact q1.elim
end
end LS
set_option maxHeartbeats 1000000
namespace LS
open PySem PySem.Spec PyProof.Rows L2
def ZOk (X:Cx) (C:Cn) (z:E) (tg x:Expr):Prop:=∃ (a:E) (LK:W × qaa→R (Iter × qaa)) (P:HO→Prop) (mk:Addr→Obj→HO→It),(∀ env S,evI C z env S=(evE C a env S).bind LK)∧(∀ q,(LK q).pur)∧LkOk X.K LK P mk∧PI X tg x (iZ X P mk (tE X C a))
structure Snd (k:Nat) (z:E):Prop where
 e:∀ {C:Cn} {ct:Ct} {X:Cx} (G:Gd C ct k X) {x:Expr},chE ct z x=true→PE X x (tE X C z):=by exact fun {_ _ _} _ {x} h=>nope h
 t:∀ {C:Cn} {ct:Ct} {X:Cx} (G:Gd C ct k X) {x:Expr},chE ct z x=true→tsE z x=true→PT X x (tTm X C z):=by exact fun {_ _ _} _ {x} h _=>nope h
 wa:∀ {C:Cn} {ct:Ct} {X:Cx} (G:Gd C ct k X) {vs:List Expr} {pos:Pos},chE ct z (.BoolOp .And vs pos)=true→tsE z (.BoolOp .And vs pos)=true→PW X (.BoolOp .And vs pos) (tTm X C z):=by exact fun {_ _ _} _ {_ _} h _=>nope h
 wo:∀ {C:Cn} {ct:Ct} {X:Cx} (G:Gd C ct k X) {vs:List Expr} {pos:Pos},chE ct z (.BoolOp .Or vs pos)=true→tsE z (.BoolOp .Or vs pos)=true→PW X (.BoolOp .Or vs pos) (tTm X C z):=by exact fun {_ _ _} _ {_ _} h _=>nope h
 l:∀ {C:Cn} {ct:Ct} {X:Cx} (G:Gd C ct k X) {es:List Expr},chL ct z es=true→PA X es (tAm X C z):=by exact fun {_ _ _} _ {_} h=>nope h
 d:∀ {C:Cn} {ct:Ct} {X:Cx} (G:Gd C ct k X) {ks:List (Option Expr)} {vs:List Expr} {pos:Pos},chK ct z ks vs=true→PPs X pos ks vs (kTs X C z):=by exact fun {_ _ _} _ {_ _ _} h=>nope h
 j:∀ {C:Cn} {ct:Ct} {X:Cx} (G:Gd C ct k X) {es:List Expr},chJ ct z es=true→PJ X es (jTs X C z):=by exact fun {_ _ _} _ {_} h=>nope h
 i:∀ {C:Cn} {ct:Ct} {X:Cx} (G:Gd C ct k X) {x tg:Expr},chI ct z x tg=true→PI X tg x (tIm X C z)∨ZOk X C z tg x:=by exact fun {_ _ _} _ {_ _} h=>nope h
 o:∀ {C:Cn} {ct:Ct} {X:Cx} (G:Gd C ct k X) {x:Option Expr},chO ct z x=true→PO X x (tOm X C z):=by exact fun {_ _ _} _ {_} h=>nope h
 hd:∀ {C:Cn} {ct:Ct} {X:Cx} (G:Gd C ct k X) {x:Expr},chO ct z (some x)=true→∀ a l,z=.cons a l→PE X x (tE X C a):=by exact fun {_ _ _} _ {_} h _ _ _=>nope h
 f:∀ {C:Cn} {ct:Ct} {X:Cx} (G:Gd C ct k X) {es:List Expr},chIf ct z es=true→PTs X es (tIfm X.K C z):=by exact fun {_ _ _} _ {_} h=>nope h
section
variable {X:Cx} {C:Cn} {ct:Ct} {k:Nat} {pos:Pos}
theorem qgt:∀ {l:E},chL ct l []=true→l=.nil:=by
 intro l h
 cases l with
 | nil=>rfl
 | _=>exact nope h
theorem qh9 {ct:Ct}:∀ {l:E} {es:List Expr},chL ct l es=true→es.all qae=true→es.length=l.len
 | .nil,[],h,hs=>rfl
 | .cons a l,x::es,h,hs=>by
  simp only [chL,Bool.and_eq_true] at h
  simp only [List.all_cons,Bool.and_eq_true] at hs
  show es.length + 1=l.len + 1
  rw [qh9 h.2 hs.2]
 | .star a l,.Starred x p::es,h,hs=>by
  simp only [List.all_cons,Bool.and_eq_true] at hs
  cases hs.1
theorem qoE (G:Gd C ct k X) {t a b:E} {c x y:Expr} (ht:PT X c (tTm X C t)) (ha:PE X x (tE X C a)) (hb:PE X y (tE X C b)):PE X (.IfExp c x y pos) (tE X C (.ite t a b)):=by
 refine PE.weak (pe_ifExp ht ha hb) fun σ H Q q=>?_
 obtain ⟨w,env,S,hr,he,q⟩:=q
 simp only [evE] at q
 refine ⟨w,env,S,hr,he,(q.step (rel:=relB)).imp fun v H1 h1=>?_⟩
 obtain ⟨w1,x1,S1,l1,hr1,r1,q1⟩:=h1
 cases r1
 simp only at q1
 split at q1
 ·rename_i hb
  rw [if_pos hb]
  exact ⟨w1,env,S1,hr1,he.mono l1,q1⟩
 ·rename_i hb
  rw [if_neg hb]
  exact ⟨w1,env,S1,hr1,he.mono l1,q1⟩
theorem qpt {own:List (Str × Nat)} {tg:Tg} (h:tgIn own tg=true):∀ i∈tg.slots,i∈own.map (·.2):=fun i hi=>of_decide_eq_true (List.all_eq_true.mp h i hi)
theorem qmV (G:Gd C ct k X) {scope:Scope} {own:List (Str × Nat)} (h:blkC ct.N ct.sc scope own=true):BlkOk X.N X.env.scope scope own:=by
 rw [G.N,G.sc]
 exact blkOk_by h
theorem qdt (G:Gd C ct k X) (cell:Bool) {own:List (Str × Nat)} {tg:Tg} {it ifs elt:E} {x t i:Expr} {cs:List Expr} {scope:Scope} (si:Snd k it) (sf:Snd k ifs) (se:Snd k elt)
  (h:(blkC ct.N ct.sc scope own && tgIn own tg && chI ct it i t && qa7 i && tgB (ct.blk scope) tg t && chIf (ct.blk scope) ifs cs && chE (ct.blk scope) elt x)=true) :
  (PI X t i (tIm X C it)∨ZOk X C it t i)∧BlkOk X.N X.env.scope scope own∧(∀ (s:Shared) (H:Hp) (D:Addr) (cl:List (Str × Addr)) (fp:List Addr),PG (X.blk s H scope (compEnvC scope cl D X.env) fp) t (tG X.K tg))∧
   (∀ (s:Shared) (H:Hp) (D:Addr) (cl:List (Str × Addr)) (fp:List Addr),PTs (X.blk s H scope (compEnvC scope cl D X.env) fp) cs (tIfm X.K (C.in_ cell) ifs))∧
   (∀ (s:Shared) (H:Hp) (D:Addr) (cl:List (Str × Addr)) (fp:List Addr),PE (X.blk s H scope (compEnvC scope cl D X.env) fp) x (tEN X.K (C.in_ cell) elt))∧(∀ y,foldedSetIterable i X.env y=pure y)∧∀ j∈tg.slots,j∈own.map (·.2):=by
 simp only [Bool.and_eq_true] at h
 obtain ⟨⟨⟨⟨⟨⟨h1,h2⟩,h3⟩,h4⟩,h5⟩,h6⟩,h7⟩:=h
 exact ⟨si.i G h3,qmV G h1,fun s H D cl fp=>qkS (G.blk scope s H D cl fp) h5,fun s H D cl fp=>sf.f ((G.in_ cell).blk scope s H D cl fp) h6,fun s H D cl fp=>pe_N (se.e ((G.in_ cell).blk scope s H D cl fp) h7),qdD h4,qpt h2⟩
end
theorem qlO {o:CO} {x y:P} {S:qaa} {q:W × qaa} (h:cmpQ o x y S=.ok q):∃ b,q.1=.v (.bl b):=by
 unfold cmpQ at h
 split at h
 ·split at h
  ·cases o with
   | eq=>cases h;exact ⟨_,rfl⟩
   | ne=>
    simp only at h
    split at h
    ·cases h;exact ⟨_,rfl⟩
    ·cases h
   | _=>cases h
  ·cases h
 ·cases h
theorem qkw {o:CO} {x y:W} {S:qaa} {q:W × qaa} (h:cmpT o x y S=.ok q):∃ b,q.1=.v (.bl b):=by
 unfold cmpT at h
 split at h
 ·split at h
  ·unfold qkY at h
   split at h
   ·cases h;exact ⟨_,rfl⟩
   ·split at h
    ·split at h
     ·split at h
      ·cases h;exact ⟨_,rfl⟩
      ·cases h
     ·cases h
    ·cases h
  ·cases h
 ·split at h
  ·cases h;exact ⟨_,rfl⟩
  ·cases h
 ·cases h
theorem qk2 {o:CO} {x y:W} {S:qaa} {q:W × qaa} (h:cmpW o x y S=.ok q):∃ b,q.1=.v (.bl b):=by
 unfold cmpW at h
 split at h
 ·split at h
  ·split at h
   ·cases h;exact ⟨_,rfl⟩
   ·split at h
    ·cases h;exact ⟨_,rfl⟩
    ·cases h
   ·cases h
  ·exact qlO h
 ·exact qkw h
theorem qmT {o:CO} {x y:W} {S:qaa} {q:W × qaa} (h:qaH o x y S=.ok q):∃ b,q.1=.v (.bl b):=by
 unfold qaH at h
 split at h
 ·split at h
  ·cases h
   exact ⟨_,rfl⟩
  ·cases h
 ·have bl:∀ {r:Option Bool} {neg:Bool},blO r neg S=.ok q→∃ b,q.1=.v (.bl b):=fun {r neg} h=>by
   cases r with
   | none=>cases h
   | some b=>cases h;exact ⟨_,rfl⟩
  have d:∀ {o:CO},cmpD o x y S=.ok q→∃ b,q.1=.v (.bl b):=fun {o} h=>by
   unfold cmpD at h
   split at h
   ·cases o <;> first | (cases h;exact ⟨_,rfl⟩) | cases h
   split at h
   ·split at h
    ·cases o <;> first | (cases h;exact ⟨_,rfl⟩) | cases h
    ·cases h
   ·exact qk2 h
  cases o with
  | in_=>exact bl h
  | nin=>exact bl h
  | isN=>exact bl h
  | notN=>exact bl h
  | eq=>exact d (o:=.eq) h
  | ne=>exact d (o:=.ne) h
  | lt=>exact d (o:=.lt) h
  | le=>exact d (o:=.le) h
  | gt=>exact d (o:=.gt) h
  | ge=>exact d (o:=.ge) h
theorem qaE (C:Cn) (k:Nat) (e:E):Snd k e:=by
 induction e with
 | var i=>exact {
   e:=fun {C ct X} G {x} h=>by
    cases x with
    | Name y p=>exact qlH G h
    | _=>exact nope h
   t:=fun {C ct X} G {x} h ht=>qap ht (by
    cases x with
    | Name y p=>exact qlH G h
    | _=>exact nope h) }
 | lit p=>
  have he:∀ {C:Cn} {ct:Ct} {X:Cx} (G:Gd C ct k X) {x:Expr},chE ct (.lit p) x=true→PE X x (tE X C (.lit p)):=fun {C ct X} G {x} h=>by
   cases x with
   | Constant c j q=>exact qpP (by cases p <;> exact h)
   | UnaryOp op y pos=>
    cases p with
    | int i=>
     cases op with
     | USub=>
      cases y with
      | Constant c j q=>
       cases c with
       | int n=>exact qpY (of_decide_eq_true h)
       | _=>exact nope h
      | _=>exact nope h
     | _=>exact nope h
    | _=>
     cases op with
     | USub=>
      cases y with
      | Constant c j q=>cases c <;> exact nope h
      | _=>exact nope h
     | _=>exact nope h
   | _=>cases p <;> exact nope h
  exact {
   e:=he
   t:=fun {C ct X} G {x} h ht=>qap ht (he G h)
   wa:=fun {C ct X} G {_ _} h _=>by cases p <;> exact nope h
   wo:=fun {C ct X} G {_ _} h _=>by cases p <;> exact nope h }
 | glo y=>exact {}
 | bin o a b ha hb=>
  have he:∀ {C:Cn} {ct:Ct} {X:Cx} (G:Gd C ct k X) {x:Expr},chE ct (.bin o a b) x=true→PE X x (tE X C (.bin o a b)):=fun {C ct X} G {x} h=>by
   cases x with
   | BinOp l p r pos=>
    have h':(boB o p && chE ct a l && chE ct b r)=true:=h
    exact qqy (and1 (and1 h')) (ha.e G (and2 (and1 h'))) (hb.e G (and2 h'))
   | _=>exact nope h
  exact { e:=he,t:=fun {C ct X} G {x} h ht=>qap ht (he G h) }
 | cmp o a b ha hb=>
  exact {
   e:=fun {C ct X} G {x} h=>by
    cases x with
    | Compare l ps rs pos=>
     rcases ps with _ | ⟨p,_ | ⟨p',ps⟩⟩
     ·exact nope h
     ·rcases rs with _ | ⟨r,_ | ⟨r',rs⟩⟩
      ·exact nope h
      ·have h':(coB o p && chE ct a l && chE ct b r && !behindInMarks p r)=true:=h
       exact qoA G (and1 (and1 (and1 h'))) (bnot (and2 h')) (ha.e G (and2 (and1 (and1 h')))) (hb.e G (and2 (and1 h')))
      ·exact nope h
     ·rcases rs with _ | ⟨r,_ | ⟨r',rs⟩⟩
      ·exact nope h
      ·exact nope h
      ·exact nope h
    | _=>exact nope h
   t:=fun {C ct X} G {x} h ht=>by
    cases x with
    | Compare l ps rs pos=>
     rcases ps with _ | ⟨p,_ | ⟨p',ps⟩⟩
     ·exact nope h
     ·rcases rs with _ | ⟨r,_ | ⟨r',rs⟩⟩
      ·exact nope h
      ·have h':(coB o p && chE ct a l && chE ct b r && !behindInMarks p r)=true:=h
       have e:coOp o=p:=of_decide_eq_true (and1 (and1 (and1 h')))
       subst e
       have hu:=G.hu
       refine qps (pt_cmpR (qiW _) (ha.e G (and2 (and1 (and1 h')))) (hb.e G (and2 (and1 h'))) (bnot (and2 h'))) (fun σ H Q q=>?_) fun env S q hq=>?_
       ·obtain ⟨w,env,S,hr,he,q⟩:=q
        simp only [evE] at q
        refine ⟨w,env,S,hr,he,(q.step (rel:=RepW X.K)).imp fun v H1 h1=>?_⟩
        obtain ⟨w1,x,S1,l1,hr1,r1,q1⟩:=h1
        refine ⟨w1,env,S1,hr1,he.mono l1,(q1.step (rel:=RepW X.K)).imp fun u H2 h2=>?_⟩
        obtain ⟨w2,y,S2,l2,hr2,r2,q2⟩:=h2
        exact qiH o (by omega) hr2 (r1.mono l2) r2 q2
       ·simp only [evE] at hq
        obtain ⟨q1,_,e2⟩:=qaj hq
        obtain ⟨q2,_,e3⟩:=qaj e2
        exact qmT e3
      ·exact nope h
     ·rcases rs with _ | ⟨r,_ | ⟨r',rs⟩⟩
      ·exact nope h
      ·exact nope h
      ·exact nope h
    | _=>exact nope h }
 | chn o o' a b c ha hb hc=>exact {}
 | and a b ha hb=>
  have wa:∀ {C:Cn} {ct:Ct} {X:Cx} (G:Gd C ct k X) {vs:List Expr} {pos:Pos},chE ct (.and a b) (.BoolOp .And vs pos)=true→tsE (.and a b) (.BoolOp .And vs pos)=true→PW X (.BoolOp .And vs pos) (tTm X C (.and a b)):=fun {C ct X} G {vs pos} h ht=>by
   rcases vs with _ | ⟨v,_ | ⟨w,_ | ⟨u,rest⟩⟩⟩
   ·exact nope h
   ·exact nope h
   ·have h':(chE ct a v && chE ct b w)=true:=h
    have ht':(tsE a v && tsE b w)=true:=ht
    exact qmZ (ha.t G (and1 h') (and1 ht')) (pw_and1 (hb.t G (and2 h') (and2 ht')))
   ·have h':(chE ct a v && chE ct b (.BoolOp .And (w::u::rest) pos))=true:=h
    have ht':(tsE a v && tsE b (.BoolOp .And (w::u::rest) pos))=true:=ht
    exact qmZ (ha.t G (and1 h') (and1 ht')) (hb.wa G (and2 h') (and2 ht'))
  exact {
   e:=fun {C ct X} G {x} h=>by
    cases x with
    | BoolOp op vs pos=>
     cases op with
     | And=>
      rcases vs with _ | ⟨v,_ | ⟨w,_ | ⟨u,rest⟩⟩⟩
      ·exact nope h
      ·exact nope h
      ·have h':(chE ct a v && chE ct b w)=true:=h
       exact qnD (ha.e G (and1 h')) (pe_one (hb.e G (and2 h')))
      ·have h':(chE ct a v && chE ct b (.BoolOp .And (w::u::rest) pos))=true:=h
       exact qnD (ha.e G (and1 h')) (hb.e G (and2 h'))
     | Or=>exact nope h
    | _=>exact nope h
   t:=fun {C ct X} G {x} h ht=>by
    cases x with
    | BoolOp op vs pos=>
     cases op with
     | And=>exact (wa G h ht).pt
     | Or=>exact nope h
    | _=>exact nope h
   wa:=wa }
 | or a b ha hb=>
  have wo:∀ {C:Cn} {ct:Ct} {X:Cx} (G:Gd C ct k X) {vs:List Expr} {pos:Pos},chE ct (.or a b) (.BoolOp .Or vs pos)=true→tsE (.or a b) (.BoolOp .Or vs pos)=true→PW X (.BoolOp .Or vs pos) (tTm X C (.or a b)):=fun {C ct X} G {vs pos} h ht=>by
   rcases vs with _ | ⟨v,_ | ⟨w,_ | ⟨u,rest⟩⟩⟩
   ·exact nope h
   ·exact nope h
   ·have h':(chE ct a v && chE ct b w)=true:=h
    have ht':(tsE a v && tsE b w)=true:=ht
    exact t_or (ha.t G (and1 h') (and1 ht')) (pw_or1 (hb.t G (and2 h') (and2 ht')))
   ·have h':(chE ct a v && chE ct b (.BoolOp .Or (w::u::rest) pos))=true:=h
    have ht':(tsE a v && tsE b (.BoolOp .Or (w::u::rest) pos))=true:=ht
    exact t_or (ha.t G (and1 h') (and1 ht')) (hb.wo G (and2 h') (and2 ht'))
  exact {
   e:=fun {C ct X} G {x} h=>by
    cases x with
    | BoolOp op vs pos=>
     cases op with
     | Or=>
      rcases vs with _ | ⟨v,_ | ⟨w,_ | ⟨u,rest⟩⟩⟩
      ·exact nope h
      ·exact nope h
      ·have h':(chE ct a v && chE ct b w)=true:=h
       exact c_or (ha.e G (and1 h')) (pe_one (hb.e G (and2 h')))
      ·have h':(chE ct a v && chE ct b (.BoolOp .Or (w::u::rest) pos))=true:=h
       exact c_or (ha.e G (and1 h')) (hb.e G (and2 h'))
     | And=>exact nope h
    | _=>exact nope h
   t:=fun {C ct X} G {x} h ht=>by
    cases x with
    | BoolOp op vs pos=>
     cases op with
     | Or=>exact (wo G h ht).pt
     | And=>exact nope h
    | _=>exact nope h
   wo:=wo }
 | not a ha=>
  exact {
   e:=fun {C ct X} G {x} h=>by
    cases x with
    | UnaryOp op x pos=>
     cases op with
     | Not=>exact qo0 (ha.e G h)
     | _=>exact nope h
    | _=>exact nope h
   t:=fun {C ct X} G {x} h ht=>by
    cases x with
    | UnaryOp op x pos=>
     cases op with
     | Not=>exact qqJ (ha.t G h ht)
     | _=>exact nope h
    | _=>exact nope h }
 | ite t a b st sa sb=>
  have he:∀ {C:Cn} {ct:Ct} {X:Cx} (G:Gd C ct k X) {x:Expr},chE ct (.ite t a b) x=true→PE X x (tE X C (.ite t a b)):=fun {C ct X} G {x} h=>by
   cases x with
   | IfExp c x y pos=>
    have h':(chE ct t c && tsE t c && chE ct a x && chE ct b y)=true:=h
    exact qoE G (st.t G (and1 (and1 (and1 h'))) (and2 (and1 (and1 h')))) (sa.e G (and2 (and1 h'))) (sb.e G (and2 h'))
   | _=>exact nope h
  exact { e:=he,t:=fun {C ct X} G {x} h ht=>qap ht (he G h) }
 | nil=>
  exact {
   l:=fun {C ct X} G {es} h=>by
    cases es with
    | nil=>exact qp1
    | cons a b=>exact nope h
   d:=fun {C ct X} G {ks vs pos} h=>by
    cases ks with
    | nil=>
     cases vs with
     | nil=>exact pps_nil
     | cons a b=>exact nope h
    | cons a b=>exact nope h
   j:=fun {C ct X} G {es} h=>by
    cases es with
    | nil=>exact .nil
    | cons a b=>exact nope h
   o:=fun {C ct X} G {x} h=>by
    cases x with
    | none=>exact qmQ
    | some a=>exact nope h
   f:=fun {C ct X} G {es} h=>by
    cases es with
    | nil=>exact qlh
    | cons a b=>exact nope h }
 | cons a l ha hl=>
  exact {
   l:=fun {C ct X} G {es} h=>by
    cases es with
    | nil=>exact nope h
    | cons x es=>
     have h':(qae x && chE ct a x && chL ct l es)=true:=h
     exact qm3 (and1 (and1 h')) (ha.e G (and2 (and1 h'))) (hl.l G (and2 h'))
   j:=fun {C ct X} G {es} h=>by
    cases es with
    | nil=>exact nope h
    | cons x es=>
     cases x with
     | FormattedValue x kk sp pos=>
      cases sp with
      | none=>
       have h':(decide (kk=-1) && chE ct a x && chJ ct l es)=true:=h
       have e:=of_decide_eq_true (and1 (and1 h'))
       subst e
       exact .cons (pe_fmt (ha.e G (and2 (and1 h')))) (hl.j G (and2 h'))
      | some _=>exact nope h
     | _=>exact nope h
   o:=fun {C ct X} G {x} h=>by
    cases x with
    | none=>exact nope h
    | some x=>exact qmo (ha.e G h)
   hd:=fun {C ct X} G {x} h a' l' z=>by
    cases z
    exact ha.e G h
   f:=fun {C ct X} G {es} h=>by
    rcases es with _ | ⟨x,_ | ⟨y,es⟩⟩
    ·exact nope h
    ·have h':(chE ct a x && tsE a x)=true:=h
     exact qkO (ha.t G (and1 h') (and2 h'))
    ·exact nope h }
 | star a l ha hl=>
  exact {
   l:=fun {C ct X} G {es} h=>by
    cases es with
    | nil=>exact nope h
    | cons x es=>
     cases x with
     | Starred x p=>
      have h0:(ct.calm && (chE ct a x && chL ct l es))=true:=h
      have hc:=and1 h0
      have h':=and2 h0
      exact qmC (G.calm hc) (ha.e G (and1 h')) (hl.l G (and2 h'))
     | _=>exact nope h
   j:=fun {C ct X} G {es} h=>by
    cases es with
    | nil=>exact nope h
    | cons x es=>
     cases x with
     | Constant c j p=>
      have h':(chE ct a (.Constant c j p) && chJ ct l es)=true:=h
      exact .cons (ha.e G (and1 h')) (hl.j G (and2 h'))
     | _=>exact nope h }
 | kv a b l ha hb hl=>
  exact {
   d:=fun {C ct X} G {ks vs pos} h=>by
    cases ks with
    | nil=>exact nope h
    | cons x ks=>
     cases x with
     | none=>exact nope h
     | some x=>
      cases vs with
      | nil=>exact nope h
      | cons y vs=>
       have h':(chE ct a x && chE ct b y && chK ct l ks vs)=true:=h
       exact pps_cons (ha.e G (and1 (and1 h'))) (hb.e G (and2 (and1 h'))) (hl.d G (and2 h')) }
 | tup l hl=>
  have he:∀ {C:Cn} {ct:Ct} {X:Cx} (G:Gd C ct k X) {x:Expr},chE ct (.tup l) x=true→PE X x (tE X C (.tup l)):=fun {C ct X} G {x} h=>by
   cases x with
   | Tuple es j pos=>exact qoC (hl.l G h)
   | _=>exact nope h
  exact { e:=he,t:=fun {C ct X} G {x} h ht=>qap ht (he G h) }
 | tupd l hl=>exact {}
 | tupC l hl=>exact {}
 | lst c l hl=>
  have he:∀ {C:Cn} {ct:Ct} {X:Cx} (G:Gd C ct k X) {x:Expr},chE ct (.lst c l) x=true→PE X x (tE X C (.lst c l)):=fun {C ct X} G {x} h=>by
   cases x with
   | List es pos=>exact qpp (hl.l G h)
   | _=>exact nope h
  exact { e:=he,t:=fun {C ct X} G {x} h ht=>qap ht (he G h) }
 | dic c l hl=>exact {}
 | lc c own tg it ifs elt si sf se=>
  have he:∀ {C:Cn} {ct:Ct} {X:Cx} (G:Gd C ct k X) {x:Expr},chE ct (.lc c own tg it ifs elt) x=true→PE X x (tE X C (.lc c own tg it ifs elt)):=fun {C ct X} G {x} h=>by
   cases x with
   | ListComp x gs scope pos=>
    rcases gs with _ | ⟨⟨t,i,cs,ay⟩,_ | ⟨g',gs⟩⟩
    ·exact nope h
    ·have h0:(ct.calm && (decide (ay=0) && (blkC ct.N ct.sc scope own && tgIn own tg && chI ct it i t && qa7 i && tgB (ct.blk scope) tg t && chIf (ct.blk scope) ifs cs && chE (ct.blk scope) elt x)))=true:=h
     have hc:=and1 h0
     have h:=and2 h0
     have e:ay=0:=of_decide_eq_true (and1 h)
     subst e
     obtain ⟨h1,h2,h3,h4,h5,h6,h7⟩:=qdt G c si sf se (and2 h)
     rcases h1 with h1 | ⟨a,LK,P,mk,hev,hp,hk,hpi⟩
     ·exact PE.weak (pe_lc (G.calm hc) G.nd' h1 h2 h3 h4 h5 h6) fun σ H Q q=>qiP h7 q
     ·exact PE.weak (qjZ (pe_lc (G.calm hc) G.nd' hpi h2 h3 h4 h5 h6)) fun σ H Q q=>qhi hev hp hk h7 q
    ·exact nope h
   | _=>exact nope h
  exact { e:=he,t:=fun {C ct X} G {x} h ht=>qap ht (he G h) }
 | lc2 c own own1 tg a ifs tg1 a1 ifs1 elt sa sf sa1 sf1 se=>exact {}
 | dc c own tg it ifs ke elt si sf sk se=>
  have he:∀ {C:Cn} {ct:Ct} {X:Cx} (G:Gd C ct k X) {x:Expr},chE ct (.dc c own tg it ifs ke elt) x=true→PE X x (tE X C (.dc c own tg it ifs ke elt)):=fun {C ct X} G {x} h=>by
   cases x with
   | DictComp x y gs scope pos=>
    rcases gs with _ | ⟨⟨t,i,cs,ay⟩,_ | ⟨g',gs⟩⟩
    ·exact nope h
    ·have h0:(ct.calm && (decide (ay=0) && (blkC ct.N ct.sc scope own && tgIn own tg && chI ct it i t && qa7 i && tgB (ct.blk scope) tg t && chIf (ct.blk scope) ifs cs && chE (ct.blk scope) ke x && chE (ct.blk scope) elt y)))=true:=h
     have hc:=and1 h0
     have h:=and2 h0
     have e:ay=0:=of_decide_eq_true (and1 h)
     subst e
     have h':((blkC ct.N ct.sc scope own && tgIn own tg && chI ct it i t && qa7 i && tgB (ct.blk scope) tg t && chIf (ct.blk scope) ifs cs && chE (ct.blk scope) ke x) && chE (ct.blk scope) elt y)=true:=and2 h
     obtain ⟨h1,h2,h3,h4,h5,h6,h7⟩:=qdt G c si sf sk (and1 h')
     rcases h1 with h1 | ⟨a,LK,P,mk,hev,hp,hk,hpi⟩
     ·exact PE.weak (pe_dc (G.calm hc) G.nd' h1 h2 h3 h4 h5 (fun s H D cl fp=>pe_N (se.e ((G.in_ c).blk scope s H D cl fp) (and2 h'))) h6) fun σ H Q q=>qiV h7 q
     ·exact PE.weak (qjZ (pe_dc (G.calm hc) G.nd' hpi h2 h3 h4 h5 (fun s H D cl fp=>pe_N (se.e ((G.in_ c).blk scope s H D cl fp) (and2 h'))) h6)) fun σ H Q q=>qhj hev hp hk h7 q
    ·exact nope h
   | _=>exact nope h
  exact { e:=he,t:=fun {C ct X} G {x} h ht=>qap ht (he G h) }
 | sub a i ha hi=>
  have he:∀ {C:Cn} {ct:Ct} {X:Cx} (G:Gd C ct k X) {x:Expr},chE ct (.sub a i) x=true→PE X x (tE X C (.sub a i)):=fun {C ct X} G {x} h=>by
   cases x with
   | Subscript x y pos=>
    have h':(chE ct a x && chE ct i y && qcq y)=true:=h
    exact qoQ G (and2 h') (ha.e G (and1 (and1 h'))) (hi.e G (and2 (and1 h')))
   | _=>exact nope h
  exact { e:=he,t:=fun {C ct X} G {x} h ht=>qap ht (he G h) }
 | slc a lo hi ha hlo hhi=>
  have he:∀ {C:Cn} {ct:Ct} {X:Cx} (G:Gd C ct k X) {x:Expr},chE ct (.slc a lo hi) x=true→PE X x (tE X C (.slc a lo hi)):=fun {C ct X} G {x} h=>by
   cases x with
   | Subscript x y pos=>
    cases y with
    | Slice l u st p2=>
     cases st with
     | none=>
      have h':(chE ct a x && chO ct lo l && chO ct hi u)=true:=h
      exact qpV (ha.e G (and1 (and1 h'))) (hlo.o G (and2 (and1 h'))) (hhi.o G (and2 h'))
     | some _=>exact nope h
    | _=>exact nope h
   | _=>exact nope h
  exact { e:=he,t:=fun {C ct X} G {x} h ht=>qap ht (he G h) }
 | att a f ha=>exact {}
 | call f l hl=>
  have he:∀ {C:Cn} {ct:Ct} {X:Cx} (G:Gd C ct k X) {x:Expr},chE ct (.call f l) x=true→PE X x (tE X C (.call f l)):=fun {C ct X} G {x} h=>by
   cases x with
   | Call fn es ks pos=>
    cases fn with
    | Name g p=>
     cases ks with
     | nil=>
      have h0:(ct.calm && (gB ct f g && chL ct l es && es.all qae))=true:=h
      have hc:=and1 h0
      have h':=and2 h0
      exact qmA G hc (and1 (and1 h')) (and2 h') (hl.l G (and2 (and1 h'))) (fun z=>qgt (by rw [z] at h';exact and2 (and1 h'))) fun env S=>by simp only [evE]
     | cons _ _=>exact nope h
    | _=>exact nope h
   | _=>exact nope h
  exact { e:=he,t:=fun {C ct X} G {x} h ht=>qap ht (he G h) }
 | make f l hl=>exact {}
 | meth a m l ha hl=>exact {}
 | makeK f l hl=>exact {}
 | callK f l hl=>exact {}
 | methK a m l ha hl=>exact {}
 | methO a m l ha hl=>exact {}
 | isL a ha=>exact {}
 | mkE c l hl=>
  have he:∀ {C:Cn} {ct:Ct} {X:Cx} (G:Gd C ct k X) {x:Expr},chE ct (.mkE c l) x=true→PE X x (tE X C (.mkE c l)):=fun {C ct X} G {x} h=>by
   cases x with
   | Call fn es ks pos=>
    cases fn with
    | Name g p=>
     cases ks with
     | nil=>
      have h0:(ct.calm && (gB ct c g && chL ct l es && es.all qae))=true:=h
      have hc:=and1 h0
      have h':=and2 h0
      exact qp0 G hc (and1 (and1 h')) (hl.l G (and2 (and1 h'))) (and2 h') (fun z=>qgt (by rw [z] at h';exact and2 (and1 h'))) (qh9 (and2 (and1 h')) (and2 h'))
     | cons _ _=>exact nope h
    | _=>exact nope h
   | _=>exact nope h
  exact { e:=he,t:=fun {C ct X} G {x} h ht=>qap ht (he G h) }
 | mkW c ks l hl=>
  have he:∀ {C:Cn} {ct:Ct} {X:Cx} (G:Gd C ct k X) {x:Expr},chE ct (.mkW c ks l) x=true→PE X x (tE X C (.mkW c ks l)):=fun {C ct X} G {x} h=>by
   cases x with
   | Call fn es kws pos=>
    cases fn with
    | Name g p=>
     cases es with
     | nil=>
      have h0:(ct.calm && (gB ct c g && kwB ct l ks kws))=true:=h
      exact qoR G (and1 h0) (and1 (and2 h0)) (and2 (and2 h0))
     | cons _ _=>exact nope h
    | _=>exact nope h
   | _=>exact nope h
  exact { e:=he,t:=fun {C ct X} G {x} h ht=>qap ht (he G h) }
 | isVE a ha=>
  have he:∀ {C:Cn} {ct:Ct} {X:Cx} (G:Gd C ct k X) {x:Expr},chE ct (.isVE a) x=true→PE X x (tE X C (.isVE a)):=fun {C ct X} G {x} h=>by
   cases x with
   | Call fn es ks pos=>
    cases fn with
    | Name g p=>
     rcases es with _ | ⟨e,_ | ⟨e',_ | ⟨e'',es⟩⟩⟩
     ·exact nope h
     ·exact nope h
     ·cases e' with
      | Name c pc=>
       cases ks with
       | nil=>
        have h0:(ct.calm && (gB ct "isinstance" g && gB ct "ValueError" c && chE ct a e && qae e))=true:=h
        have h':=and2 h0
        exact qnC G (and1 (and1 (and1 h'))) (and2 (and1 (and1 h'))) (and2 h') (ha.e G (and2 (and1 h')))
       | cons _ _=>exact nope h
      | _=>exact nope h
     ·cases e' <;> exact nope h
    | _=>exact nope h
   | _=>exact nope h
  exact { e:=he,t:=fun {C ct X} G {x} h ht=>qap ht (he G h) }
 | clr a ha=>exact {}
 | bm m a l ha hl=>
  have he:∀ {C:Cn} {ct:Ct} {X:Cx} (G:Gd C ct k X) {x:Expr},chE ct (.bm m a l) x=true→PE X x (tE X C (.bm m a l)):=fun {C ct X} G {x} h=>by
   cases x with
   | Call fn es ks pos=>
    cases fn with
    | Attribute x g apos=>
     cases ks with
     | nil=>
      have h':(bmOk m && !es.isEmpty && chE ct a x && decide (qix m=g) && qby x && chL ct l es && es.all qae && decide (es.length < 29) && (apos.endLine == pos.line))=true:=h
      have e:=of_decide_eq_true (and2 (and1 (and1 (and1 (and1 (and1 h'))))))
      subst e
      cases es with
      | nil=>exact nope (and2 (and1 (and1 (and1 (and1 (and1 (and1 (and1 h'))))))))
      | cons e es=>
       exact c_bm (and1 (and1 (and1 (and1 (and1 (and1 (and1 (and1 h')))))))) (and2 (and1 (and1 (and1 (and1 h'))))) (and2 (and1 (and1 h'))) (of_decide_eq_true (and2 (and1 h'))) (and2 h') (ha.e G (and2 (and1 (and1 (and1 (and1 (and1 (and1 h')))))))) (hl.l G (and2 (and1 (and1 (and1 h')))))
     | cons _ _=>exact nope h
    | _=>exact nope h
   | _=>exact nope h
  exact { e:=he,t:=fun {C ct X} G {x} h ht=>qap ht (he G h) }
 | bf f l hl=>
  have he:∀ {C:Cn} {ct:Ct} {X:Cx} (G:Gd C ct k X) {x:Expr},chE ct (.bf f l) x=true→PE X x (tE X C (.bf f l)):=fun {C ct X} G {x} h=>by
   cases x with
   | Call fn es ks pos=>
    cases fn with
    | Name g p=>
     rcases es with _ | ⟨e,_ | ⟨e',_ | ⟨e'',es⟩⟩⟩
     ·cases f <;> exact nope h
     ·cases ks with
      | nil=>
       have h0:(ct.calm && (qgM f && gB ct (qeD f) g && chL ct l [e] && qae e))=true:=by cases f <;> exact h
       have hc:=and1 h0
       have h':=and2 h0
       refine c_bf G hc (and2 (and1 (and1 h'))) (and2 h') (fun z=>?_) (hl.l G (and2 (and1 h')))
       rw [z] at h'
       exact nope (and1 (and1 (and1 h')))
      | cons _ _=>cases f <;> exact nope h
     ·cases f with
      | isStr=>
       cases e' with
       | Name c pc=>
        cases ks with
        | nil=>
         have h0:(ct.calm && (gB ct "isinstance" g && gB ct "str" c && chL ct l [e] && qae e))=true:=h
         have hc:=and1 h0
         have h':=and2 h0
         have hl':=and2 (and1 h')
         cases l with
         | cons a l=>
          have h3:(qae e && chE ct a e && chL ct l [])=true:=hl'
          have e3:=qgt (and2 h3)
          subst e3
          refine qlZ G (and1 (and1 (and1 h'))) (and2 (and1 (and1 h'))) (and2 h') ?_
          exact hl.hd G (and2 (and1 h3)) a .nil rfl
         | star a l=>cases e <;> first | exact nope hl' | exact nope (and2 h')
         | _=>exact nope hl'
        | cons _ _=>exact nope h
       | _=>exact nope h
      | _=>exact nope h
     ·cases f with
      | isStr=>cases e' <;> exact nope h
      | _=>exact nope h
    | _=>cases f <;> exact nope h
   | _=>cases f <;> exact nope h
  exact {
   e:=he
   t:=fun {C ct X} G {x} h ht=>qap ht (he G h)
   wa:=fun {C ct X} G {_ _} h _=>by cases f <;> exact nope h
   wo:=fun {C ct X} G {_ _} h _=>by cases f <;> exact nope h }
 | listC a ha=>
  have he:∀ {C:Cn} {ct:Ct} {X:Cx} (G:Gd C ct k X) {x:Expr},chE ct (.listC a) x=true→PE X x (tE X C (.listC a)):=fun {C ct X} G {x} h=>by
   cases x with
   | Call fn es ks pos=>
    cases fn with
    | Name g p=>
     rcases es with _ | ⟨e,_ | ⟨e',es⟩⟩
     ·exact nope h
     ·cases ks with
      | nil=>
       have h':(gB ct "list" g && chE ct a e && qae e)=true:=h
       exact ql8 G (and1 (and1 h')) (and2 h') (ha.e G (and2 (and1 h')))
      | cons _ _=>exact nope h
     ·exact nope h
    | _=>exact nope h
   | _=>exact nope h
  exact { e:=he,t:=fun {C ct X} G {x} h ht=>qap ht (he G h) }
 | listItems cell a ha=>exact {}
 | mx l hl=>exact {}
 | has neg a b ha hb=>exact {}
 | eqO a b ha hb=>exact {}
 | binO o a b ha hb=>exact {}
 | inG neg x a ha=>exact {}
 | subG x a ha=>exact {}
 | isX cs a ha=>
  have he:∀ {C:Cn} {ct:Ct} {X:Cx} (G:Gd C ct k X) {x:Expr},chE ct (.isX cs a) x=true→PE X x (tE X C (.isX cs a)):=fun {C ct X} G {x} h=>by
   cases x with
   | Call fn es ks pos=>
    cases fn with
    | Name g p=>
     rcases es with _ | ⟨e,_ | ⟨e',_ | ⟨e'',es⟩⟩⟩
     ·exact nope h
     ·exact nope h
     ·cases ks with
      | nil=>
       have h':(gB ct "isinstance" g && (qjM ct cs e' && (chE ct a e && qae e)) && qae e')=true:=h
       exact qpX G (and1 (and1 h')) (and1 (and2 (and1 h'))) (and2 (and2 (and2 (and1 h')))) (and2 h') (ha.e G (and1 (and2 (and2 (and1 h')))))
      | cons _ _=>exact nope h
     ·exact nope h
    | _=>exact nope h
   | _=>exact nope h
  exact { e:=he,t:=fun {C ct X} G {x} h ht=>qap ht (he G h) }
 | lenS own is j a ha=>exact {}
 | rev a ha=>exact {}
 | cmpO o a b ha hb=>exact {}
 | eqP a b ha hb=>exact {}
 | dicC a ha=>exact {}
 | dicTP a ha=>exact {}
 | lenO a ha=>exact {}
 | isC c a ha=>exact {}
 | enum a ha=>exact {}
 | it a ha=>
  exact { i:=fun {C ct X} G {x tg} h=>.inl (i_it (ha.e G h)) }
 | rng l hl=>
  exact {
   i:=fun {C ct X} G {x tg} h=>by
    cases x with
    | Call fn es ks pos=>
     cases fn with
     | Name g p=>
      rcases es with _ | ⟨e,_ | ⟨e',_ | ⟨e'',es⟩⟩⟩
      ·exact nope h
      ·cases ks with
       | nil=>
        have h':(gB ct "range" g && chL ct l [e] && qae e)=true:=h
        exact .inl (qnq G (and1 (and1 h')) (and2 h') (and2 (and1 h')) (hl.l G (and2 (and1 h'))))
       | cons _ _=>exact nope h
      ·cases ks with
       | nil=>
        have h':(gB ct "range" g && chL ct l [e,e'] && qae e && qae e')=true:=h
        exact .inl (qm6 G (and1 (and1 (and1 h'))) (and2 (and1 h')) (and2 h') (and2 (and1 (and1 h'))) (hl.l G (and2 (and1 (and1 h')))))
       | cons _ _=>exact nope h
      ·exact nope h
     | _=>exact nope h
    | _=>exact nope h }
 | vals a ha=>exact {}
 | items a ha=>exact {}
 | fstr l hl=>exact {}
 | pf f a ha=>exact {}
 | get a b ha hb=>exact {}
 | get2 a b d ha hb hd=>exact {}
 | xatt a f ha=>
  have he:∀ {C:Cn} {ct:Ct} {X:Cx} (G:Gd C ct k X) {x:Expr},chE ct (.xatt a f) x=true→PE X x (tE X C (.xatt a f)):=fun {C ct X} G {x} h=>by
   cases x with
   | Attribute x g pos=>
    have h':(chE ct a x && decide (f=g) && qby x)=true:=h
    have e:=of_decide_eq_true (and2 (and1 h'))
    subst e
    exact qnQ G (and2 h') (ha.e G (and1 (and1 h')))
   | _=>exact nope h
  exact { e:=he,t:=fun {C ct X} G {x} h ht=>qap ht (he G h) }
 | keysD a ha=>exact {}
 | keysT a ha=>exact {}
 | valsD a ha=>exact {}
 | valsT a ha=>exact {}
 | itemsD a ha=>exact {}
 | itemsT a ha=>exact {}
 | itemsK a ha=>exact {}
 | norm a ha=>
  have he:∀ {C:Cn} {ct:Ct} {X:Cx} (G:Gd C ct k X) {x:Expr},chE ct (.norm a) x=true→PE X x (tE X C (.norm a)):=fun {C ct X} G {x} h=>by
   have h':chE ct a x=true:=by
    cases x <;> first
     | exact nope h
     | exact h
   refine PE.weak (ha.e G h') fun σ H Q q=>?_
   obtain ⟨w,env,S,hr,he,q⟩:=q
   simp only [evE] at q
   refine ⟨w,env,S,hr,he,(q.step (rel:=RepW X.K)).imp fun v H1 h1=>?_⟩
   obtain ⟨w1,x1,S1,l1,hr1,r1,q1⟩:=h1
   exact q1 w1 _ _ (LeW.refl _) hr1 r1.norm
  exact { e:=he,t:=fun {C ct X} G {x} h ht=>qap ht (he G h) }
 | listV a ha=>exact {}
 | catT a b ha hb=>exact {}
 | dnT=>exact {}
 | dicW l hl=>exact {}
 | inT neg l a hl ha=>exact {}
 | subT a l ha hl=>exact {}
 | getT a l d ha hl hd=>exact {}
 | popT a l ha hl=>exact {}
 | callH f l hl=>exact {}
 | stuck=>
  have no:∀ {C:Cn} {X:Cx} {σ:L2.St} {H:Hp} {Q:VK},¬ tE X C .stuck σ H Q:=fun {C X σ H Q} h=>by
   obtain ⟨w,env,S,hr,he,q⟩:=h
   simp only [evE] at q
   exact q
  have he:∀ {C:Cn} {ct:Ct} {X:Cx} (G:Gd C ct k X) {x:Expr},chE ct .stuck x=true→PE X x (tE X C .stuck):=fun {C ct X} G {x} h=>PE.pick fun σ H Q q=>(no q).elim
  exact { e:=he,t:=fun {C ct X} G {x} h ht=>qap ht (he G h),wa:=fun {_ _ _} _ {_ _} _ ht=>nope ht,wo:=fun {_ _ _} _ {_ _} _ ht=>nope ht }
end LS
namespace LS
open PySem PySem.Spec PyProof.Rows L2
def qdI (sc:Scope):ScopeKind:=if sc.kind.isAnnotationScope then .function else sc.kind
def qeI:Expr→Bool
 | .Starred _ _=>true
 | _=>false
def nmOf (sc:Scope) (line:Nat):Expr→Option Str
 | .Name id pos=>if (sc.names.lookup id == some .local && pos.line == line)=true then some id else none
 | _=>none
def swP (sc:Scope) (ts vs:List Expr):Option (Option (List Str)):=
 if (!(ts.length == 2 || ts.length == 3) || vs.length != ts.length || qdI sc != .function)=true then some none
 else if (vs.any qeI)=true then some none
 else if ((ts.filterMap (nmOf sc ((ts.head?.map (·.pos.line)).getD 0))).length != ts.length || (ts.filterMap (nmOf sc ((ts.head?.map (·.pos.line)).getD 0))).eraseDups.length != (ts.filterMap (nmOf sc ((ts.head?.map (·.pos.line)).getD 0))).length)=true then some none
 else if (vs.all (foldedForSure 8))=true then some none
 else if (vs.all (constantsAlone 8))=true then none
 else some (some (ts.filterMap (nmOf sc ((ts.head?.map (·.pos.line)).getD 0))))
theorem qjH (vs:List Expr) (f:Expr→Bool) (h:∀ e,f e=qeI e):vs.any f=vs.any qeI:=by
 rw [show f=qeI from funext h]
theorem qjz (sc:Scope) (l:Nat) (ts:List Expr) (f:Expr→Option Str) (h:∀ e,f e=nmOf sc l e):ts.filterMap f=ts.filterMap (nmOf sc l):=by
 rw [show f=nmOf sc l from funext h]
theorem qiY {sc:Scope} {ts vs:List Expr} {r:Option (List Str)} {env:PySem.Env} {k k':Nat} {p p':Pos} (he:env.scope=sc) (h:swP sc ts vs=some r):swappedStores [.Tuple ts k p] (.Tuple vs k' p') env=pure r:=by
 subst he
 unfold swP at h
 unfold swappedStores
 dsimp only
 have eb:env.blockKind=qdI env.scope:=rfl
 rw [eb,qjH vs _ (fun e=>by cases e <;> rfl),qjz env.scope ((ts.head?.map (·.pos.line)).getD 0) ts _ (fun e=>by cases e <;> rfl)]
 split at h
 ·rename_i h1
  cases h
  rw [if_pos h1]
 ·rename_i h1
  rw [if_neg h1]
  split at h
  ·rename_i h2
   cases h
   rw [if_pos h2]
  ·rename_i h2
   rw [if_neg h2]
   split at h
   ·rename_i h3
    cases h
    rw [if_pos h3]
   ·rename_i h3
    split at h
    ·rename_i h4
     cases h
     rw [if_neg h3,if_pos h4]
    ·rename_i h4
     split at h
     ·cases h
     ·rename_i h5
      cases h
      rw [if_neg h3,if_neg h4,if_neg h5]
def swB (sc:Scope) (v:Expr) (x:Str) (px:Pos):Bool:=match v with
 | .ListComp _ _ s _=>qdI sc == .function && sc.names.lookup x == some .local && px.line == v.pos.line && !(s.names.any fun (n,k)=>n == x && (k == .local || k == .cell))
 | .SetComp _ _ s _=>qdI sc == .function && sc.names.lookup x == some .local && px.line == v.pos.line && !(s.names.any fun (n,k)=>n == x && (k == .local || k == .cell))
 | .DictComp _ _ _ s _=>qdI sc == .function && sc.names.lookup x == some .local && px.line == v.pos.line && !(s.names.any fun (n,k)=>n == x && (k == .local || k == .cell))
 | _=>false
theorem qm2 {sc:Scope} {v:Expr} {x:Str} {px:Pos} {l:Nat} {env:PySem.Env} (he:env.scope=sc):swapsWith v (some (.Name x px)) l env=pure (swB sc v x px):=by
 subst he
 unfold swapsWith swB
 cases v <;> rfl
def qjA:Expr→Bool
 | .Name _ _=>false
 | _=>true
theorem qjI {v t:Expr} {l:Nat} {env:PySem.Env} (h:qjA t=true):swapsWith v (some t) l env=pure false:=by
  cases t <;> first
    | exact nope h
    | (cases v <;> rfl)
theorem qe2 {t v:Expr} {l:Nat} {env:PySem.Env}:swapsWithSole [t] v l env=swapsWith v (some t) l env:=rfl
theorem qf7 {t v:Expr} {env:PySem.Env} (h:(qkq t && qkq v)=false) (hl:∀ es p,t≠.List es p):swappedStores [t] v env=pure none:=by
  unfold swappedStores
  cases t <;> first
    | rfl
    | exact absurd rfl (hl _ _)
    | (cases v <;> first | rfl | cases h)
theorem qgL {X:Cx} {i:Nat} {y:Str} {py:Pos} {kx vx tg iter:Expr} {ifs:List Expr} {scope:Scope} {own:List (Str × Nat)} {pos spos:Pos} {wi:TI} {g:TG} {tt:TT} {tk tv:TE} (hc:X.calm=true) (hN:X.N.Nodup) (hy:X.N[i]?=some y) (hyl:X.env.scope.names.lookup y=some .local)
  (hsw:swapsWith (.DictComp kx vx [⟨tg,iter,ifs,0⟩] scope pos) (some (.Name y py)) spos.line X.env=pure true) (hi:PI X tg iter wi) (ok:BlkOk X.N X.env.scope scope own)
  (hg:∀ (s:Shared) (H:Hp) (C:Addr) (cl:List (Str × Addr)) (fp:List Addr),PG (X.blk s H scope (compEnvC scope cl C X.env) fp) tg g) (ht:∀ (s:Shared) (H:Hp) (C:Addr) (cl:List (Str × Addr)) (fp:List Addr),PTs (X.blk s H scope (compEnvC scope cl C X.env) fp) ifs tt)
  (hk:∀ (s:Shared) (H:Hp) (C:Addr) (cl:List (Str × Addr)) (fp:List Addr),PE (X.blk s H scope (compEnvC scope cl C X.env) fp) kx tk)
  (he:∀ (s:Shared) (H:Hp) (C:Addr) (cl:List (Str × Addr)) (fp:List Addr),PE (X.blk s H scope (compEnvC scope cl C X.env) fp) vx tv) (hs:∀ x,foldedSetIterable iter X.env x=pure x) :
  PS X (.Assign [.Name y py] (.DictComp kx vx [⟨tg,iter,ifs,0⟩] scope pos) spos) (tAsg (tDc wi g tt tk tv (own.map (·.2))) (gName i)):=by
 refine ⟨fun pins s σ H D I h=>?_⟩
 rw [exec_Assign_Name_used _ _ _ _ hsw]
 refine wpAny_bind (wpAny_standAt (wpAny_bind ?_))
 show wpAny _ X.A (do let _ ← comprehension (.DictComp kx vx [⟨tg,iter,ifs,0⟩] scope pos) scope X.env (firstIterPos [⟨tg,iter,ifs,0⟩] pos) newDict false (eval iter X.env) (some (assign (.Name y py) X.env))) _ _ s
 have h:tDc wi g tt tk tv (own.map (·.2)) σ H (fun x H1=>gName i x σ H1 D.nx):=h
 refine wpAny_bind (thn (dc_core (Qf:=fun _ s'=>SP X pins D .next s') hc hN I hi ok hg ht hk he hs h fun L C s' m H' I' q hn f=>?_) fun _ s' hq=>wpAny_pure (wpAny_pure hq))
 show wpAny _ _ (assign (.Name y py) X.env (.ref L)) _ _ _
 refine wpAny_assign_Name (store_ok2 (v:=V.ref L) I' hN hy (.inl hyl) rfl (fun s2 I2 ⟨a,sb,ha⟩=>?_) (.inr hyl))
 obtain ⟨f0,f1,f2,f3,f4,f5⟩:=f
 have haC:C≠a:=by
  rcases ha with z | z
  ·rw [z];exact f1
  ·exact fun e=>f4 y a z e.symm
 refine ⟨m,hn.sameBut sb haC,fun h3 sb3=>?_⟩
 exact ⟨_,H',I2.turned (t':=s2.toks) (fun b o hb e=>(sb3.2 b hb).trans e) f0 f1 f3 f4 f5,q⟩
def lcB (sc:Scope) (x:Str):Bool:=match sc.names.lookup x with
 | some .local=>true
 | _=>false
theorem qdS {sc:Scope} {x:Str} (h:lcB sc x=true):sc.names.lookup x=some .local:=by
 unfold lcB at h
 split at h
 ·assumption
 ·cases h
def parB (ct:Ct) (is:List Nat) (l:E) (ts vs:List Expr):Bool:=match is,ts,vs with
 | [i,j],[.Name x px,.Name y py],[a,b]=>ct.calm && (nmB ct.N i x && nmB ct.N j y && decide (i≠j) && lcB ct.sc x && lcB ct.sc y && chL ct l [a,b] && decide (swP ct.sc [.Name x px,.Name y py] [a,b]=some (some [x,y])))
 | [i,j,l0],[.Name x px,.Name y py,.Name z pz],[a,b,c]=>ct.calm && (nmB ct.N i x && nmB ct.N j y && nmB ct.N l0 z && decide (i≠j) && decide (i≠l0) && decide (j≠l0) && lcB ct.sc x && lcB ct.sc y && lcB ct.sc z && chL ct l [a,b,c] && decide (swP ct.sc [.Name x px,.Name y py,.Name z pz] [a,b,c]=some (some [x,y,z])))
 | _,_,_=>false
def parN (ct:Ct) (is:List Nat) (l:E) (ts vs:List Expr):Bool:=ct.calm && (tgB.go ct is ts && chL ct l vs && decide (is.length≤15) && decide (swP ct.sc ts vs=some none))
def hnB (ct:Ct):Option Nat→Option Str→Bool
 | some i,some n=>nmB ct.N i n && lcB ct.sc n
 | none,none=>true
 | _,_=>false
mutual
def chS (ct:Ct):S→Stmt→Bool
 | .expr e,.Expr x _=>chE ct e x && qgg x
 | .ret e,.Return (some x) _=>chE ct e x
 | .ret (.lit .non),.Return none _=>true
 | .pass,.Pass _=>true
 | .set i e,.Assign [.Name x px] v _=>nmB ct.N i x && locB ct x && chE ct e v && (!swB ct.sc v x px || lcB ct.sc x)
 | .par is l,.Assign [.Tuple ts _ _] (.Tuple vs _ _) _=>parB ct is l ts vs || parN ct is l ts vs
 | .sub o i e,.Assign [.Subscript x y _] v _=>chE ct o x && chE ct i y && chE ct e v && qcq y
 | .ite t a b,.If c x y _=>chE ct t c && tsE t c && chSs ct a x && chSs ct b y
 | .for_ tg it a,.For t i x [] _=>ct.calm && (tgB ct tg t && chI ct it i t && qa7 i && chSs ct a x)
 | .stuck,_=>true
 | _,_=>false
def chSs (ct:Ct):S→List Stmt→Bool
 | .nil,[]=>true
 | .cons a r,x::xs=>chS ct a x && chSs ct r xs
 | _,_=>false
def chH (ct:Ct):S→List ExceptHandler→Bool
 | .nil,[]=>true
 | .hd x i b r,.ExceptHandler (some (.Name y _)) nm (s0::ss) _::hds=>gB ct x y && hnB ct i nm && chSs { ct with calm:=false } b (s0::ss) && chH ct r hds
 | _,_=>false
end
end LS
set_option maxHeartbeats 2000000
namespace LS
open PySem PySem.Spec PyProof.Rows L2
def setS (i:Option Nat) (a:Addr) (σ:L2.St):L2.St:=match i with
 | some i=>σ.set i (some (.ref a))
 | none=>σ
def clrS (i:Option Nat) (σ:L2.St):L2.St:=match i with
 | some i=>σ.set i none
 | none=>σ
def HnOk (X:Cx) (i:Option Nat) (n:Option Str):Prop:=match i,n with
 | some i,some n=>X.N[i]?=some n∧X.env.kindOf n=some .local
 | none,none=>True
 | _,_=>False
inductive HdsT (X:Cx):List ExceptHandler→List (Value × Option Nat × TS)→Prop
 | nil:HdsT X [] []
 | cons {x:Str} {n:Option Str} {i:Option Nat} {c:Value} {ts:TS} {b₀:Stmt} {suite:List Stmt} {np pos':Pos} {hds:List ExceptHandler} {l:List (Value × Option Nat × TS)} (hc:Names X x c) (hn:HnOk X i n)
   (hsu:∀ (a:Addr) (pn:List (Addr × Obj)),PSs (X.suite a pn) (b₀::suite) ts) (r:HdsT X hds l) :
   HdsT X (.ExceptHandler (some (.Name x np)) n (b₀::suite) pos'::hds) ((c,i,ts)::l)
section
variable {X:Cx} {body:List Stmt} {h₀:ExceptHandler} {hds:List ExceptHandler} {l:List (Value × Option Nat × TS)} {pos:Pos} {Wout:WX}
end
end LS
namespace LS
open PySem PySem.Spec PyProof.Rows L2
theorem qiA {P:Program} {w:World} {K:PySem.W.Frag} {mg:Str→Option Value} {base:Heap} {k:Nat} {f:Addr} {x qual:Str} {params:Arguments} {body:List Stmt} {scope:Scope} {dvs:List V} {kws:List (Str × V)} {fd:FuncData} {N ps:List Str} {sp:List V→Hp→VK→XK→Prop}
  (F:FunD K x qual params body scope dvs kws f fd) (S:FnScope N ps scope)
  (hbody:∀ (cdv:Value) (A:Around) (outer:List PySem.Env) (s:Shared) (H:Hp) (vs:List V) (Q:VK) (η:XK),Room k (A.deeper (envOfC qual scope s.heap.objs.size f cdv))→A.guards=some []→sp vs H Q η→
   ∃ zs ds t,Vals zs ds∧Binds K fd ps ds∧(vs++zs).length=ps.length∧PSs (cxOf (L2.CX P w) P w K mg base N qual scope f cdv A outer s H η) body t∧t { nx:=fun _ H'=>Q .non H',rt:=Q } (start N (vs++zs)) H) :
  FnG P w K mg base (k + 1) f sp:=by
 intro A outer s H us vs Q η hr hg e0 r hsp
 obtain ⟨oc,od,dV,kV,doc,pm,an,cdv,ct,osl,rfl,lk,hcd,_,_⟩:=F.ex
 obtain ⟨zs,ds,t,rz,hb,hl,ht,hq⟩:=hbody cdv A outer s H vs Q η (hr.deeper _) hg hsp
 have r2:Vals (vs++zs) (us++ds):=r.append rz
 have KX:K.In s.heap:=e0.mod.kin.keeps fun b o e=>(e0.bs b o e).1
 have lim:s.heap.NoLimit:=e0.mod.nolimit.keeps fun b o e=>(e0.bs b o e).1
 have hkind:∀ y∈ps.zip (us++ds),scope.names.lookup y.1=some .local∨(scope.names.lookup y.1=some .cell∧((cellsFrom (s.heap.objs.size + 1) scope.names []).lookup y.1).isSome=true):=fun ⟨n,v⟩ hy=>by
  rcases S.par n (List.of_mem_zip hy).1 with q | q
  ·exact .inl q
  ·exact .inr ⟨q,PySem.W.cellsFrom_some _ _ _ (.inl q)⟩
 refine codeAny_call_function hr.depth (KX _ _ lk) rfl S.co S.gen rfl (PySem.W.codeRec_of KX hcd) (hb s us KX (by rw [← r2.length];exact hl) _ _ _ _ ?_)
 refine wpAny_newFunctionEnv_cells S.kind hkind fun env he s1 z=>?_
 subst he
 refine ⟨lim.keeps z.toInCall.keep,codeAny_func ?_⟩
 have I:Inv (cxOf (L2.CX P w) P w K mg base N qual scope f cdv A outer s H η) [] (start N (vs++zs)) H s1:=inv_start S hr.hd e0 hl r2 z
 refine wpAny_mono (ht.run [] s1 _ H _ I hq) (fun fl s' hs=>?_) fun e s' hs=>hs
 cases fl with
 | ret u=>
  obtain ⟨v,σ',H',J,rv,q⟩:=hs
  exact ⟨v,H',J.os,J.bare,J.base,J.hok,rv,q⟩
 | next=>
  obtain ⟨σ',H',J,q⟩:=hs
  exact ⟨V.non,H',J.os,J.bare,J.base,J.hok,rfl,q⟩
 | brk=>
  obtain ⟨_,_,_,q⟩:=hs
  exact False.elim q
 | cont=>
  obtain ⟨_,_,_,q⟩:=hs
  exact False.elim q
def cxN (CX:CXT) (P:Program) (w:World) (K:PySem.W.Frag) (mg:Str→Option Value) (base:Heap) (N:List Str) (qual:Str) (scope:Scope) (f:Addr) (cd:Value) (A:Around) (outer:List PySem.Env) (s:Shared) (H:Hp) (E:XK):Cx:=
 { cxOf CX P w K mg base N qual scope f cd A outer s H E with calm:=false }
theorem qhG {CX:CXT} {P:Program} {w:World} {K:PySem.W.Frag} {mg:Str→Option Value} {base:Heap} {N ps:List Str} {qual:Str} {scope:Scope} {f:Addr} {cd:Value} {A:Around} {outer:List PySem.Env} {s s1:Shared} {H:Hp} {E:XK} {us:List Value} {vs:List V}
  (S:FnScope N ps scope) (e0:Env0 P w K mg base A outer s H) (hl:vs.length=ps.length) (r:Vals vs us)
  (x:InCallC s s.heap.objs.size (bindL (envOfC qual scope s.heap.objs.size f cd).kindOf (ps.zip us) fun _=>none) (cellsFrom (s.heap.objs.size + 1) scope.names []) (bindC (envOfC qual scope s.heap.objs.size f cd).kindOf (ps.zip us) fun _=>none) s1) :
  Inv (cxN CX P w K mg base N qual scope f cd A outer s H E) [] (L2.start N vs) H s1:=by
 have hpl:ps.length≤N.length:=by have:=congrArg List.length S.pre;rw [List.length_take] at this;omega
 obtain ⟨h1,tk,rfl,hk⟩:=x.done
 have noA:∀ b:Addr,b∉(cxN CX P w K mg base N qual scope f cd A outer s H E).ex:=fun b z=>absurd (show b∈([]:List Addr) from z) (by simp)
 refine ⟨⟨e0.mod,S.kind,rfl,rfl,Nat.le_refl _,fun y z c h1 h2=>?_,fun y hy=>?_,fun y c _ h=>?_,(fun z=>Bool.noConfusion (show false=true from z)),Around.frames_deeper e0.frames,.inr ⟨rfl,rfl⟩,fun b z=>absurd z (noA b),e0.bs,e0.bsz,fun b _ _=>noA b,fun b z=>absurd z (noA b),e0.funs,e0.frf⟩,
  rfl,e0.bare,Un.kept hk,⟨_,x.toInCall.ns,fun i y v h1 h2 h3=>?_⟩,fun y c h=>⟨_,x.cell y c h⟩,e0.hok.fresh (Nat.le_refl _),fun y c h=>?_,fun p hp=>absurd (show p∈([]:List (Addr × Obj)) from hp) (by simp),e0.hok.kept hk,?_⟩
 ·exact name_of_addr x.apart (PySem.mem_of_lookup h1) (PySem.mem_of_lookup h2)
 ·have hy:scope.names.lookup y=some .cell∨scope.names.lookup y=some .free:=hy
  rcases hy with hy | hy
  ·exact cell_has hy
  ·exact absurd rfl (S.nofree _ (PySem.mem_of_lookup hy))
 ·exact Nat.le_of_lt (x.above y c (PySem.mem_of_lookup h))
 ·have hi:i < vs.length:=by
   unfold L2.start at h2
   by_cases hi:i < vs.length
   ·exact hi
   ·rw [List.getElem?_append_right (by simpa using hi)] at h2
    rw [List.getElem?_replicate] at h2
    split at h2 <;> cases h2
  have ha:vs[i]?=some v:=by
   unfold L2.start at h2
   rw [List.getElem?_append_left (by simpa using hi),List.getElem?_map] at h2
   cases e:vs[i]? with
   | none=>rw [e] at h2;cases h2
   | some a=>rw [e] at h2;cases h2;rfl
  obtain ⟨u,hu,rv⟩:=r.get ha
  have hp:ps[i]?=some y:=by
   rw [← S.pre,List.getElem?_take_of_lt (by omega)];exact h1
  have ndP:ps.Nodup:=by rw [← S.pre];exact S.nd.sublist (List.take_sublist _ _)
  refine ⟨u,rv,?_⟩
  rcases S.par y (List.mem_of_getElem? hp) with k | k
  ·exact .inl ⟨k,bindL_get ndP hp hu k⟩
  ·obtain ⟨c,e⟩:=cell_has (n:=s.heap.objs.size + 1) k
   refine .inr ⟨.inl k,c,e,?_⟩
   have q:=x.cell y c e
   rw [bindC_get ndP hp hu (by show scope.names.lookup y≠_;rw [k];decide)] at q
   exact q
 ·exact e0.hok.fresh (Nat.le_of_lt (x.above y c (PySem.mem_of_lookup h)))
 ·unfold L2.start
  show _=N.length
  rw [List.length_append,List.length_map,List.length_replicate]
  omega
theorem qlK {P:Program} {w:World} {K:PySem.W.Frag} {mg:Str→Option Value} {base:Heap} {k:Nat} {f:Addr} {x qual:Str} {params:Arguments} {body:List Stmt} {scope:Scope} {dvs:List V} {kws:List (Str × V)} {fd:FuncData} {N ps:List Str} {sp:List V→Hp→VK→Prop}
  (F:FunD K x qual params body scope dvs kws f fd) (S:FnScope N ps scope)
  (hbody:∀ (cdv:Value) (A:Around) (outer:List PySem.Env) (s:Shared) (H:Hp) (vs:List V) (Q:VK),(A.deeper (envOfC qual scope s.heap.objs.size f cdv)).depth + 3 * k + 5 < recursionLimit→(A.deeper (envOfC qual scope s.heap.objs.size f cdv)).units + 16 * k + 200 < cLine→A.guards=some []→sp vs H Q→
   ∃ zs ds t,Vals zs ds∧Binds K fd ps ds∧(vs++zs).length=ps.length∧PSs (cxN (L2.CX P w) P w K mg base N qual scope f cdv A outer s H fun _ _ _=>False) body t∧t { nx:=fun _ H'=>Q .non H',rt:=Q } (start N (vs++zs)) H) :
  FnGH P w K mg base (k + 1) f sp:=by
 intro A outer s H us vs Q hr hg e0 r hsp
 obtain ⟨oc,od,dV,kV,doc,pm,an,cdv,ct,osl,rfl,lk,hcd,_,_⟩:=F.ex
 obtain ⟨zs,ds,t,rz,hb,hl,ht,hq⟩:=hbody cdv A outer s H vs Q (by have:=hr.dp;show A.depth + 1 + 3 * k + 5 < _;omega) (by have:=hr.un;show A.units + 3 + 16 * k + 200 < _;omega) hg hsp
 have r2:Vals (vs++zs) (us++ds):=r.append rz
 have KX:K.In s.heap:=e0.mod.kin.keeps fun b o e=>(e0.bs b o e).1
 have lim:s.heap.NoLimit:=e0.mod.nolimit.keeps fun b o e=>(e0.bs b o e).1
 have hkind:∀ y∈ps.zip (us++ds),scope.names.lookup y.1=some .local∨(scope.names.lookup y.1=some .cell∧((cellsFrom (s.heap.objs.size + 1) scope.names []).lookup y.1).isSome=true):=fun ⟨n,v⟩ hy=>by
  rcases S.par n (List.of_mem_zip hy).1 with q | q
  ·exact .inl q
  ·exact .inr ⟨q,PySem.W.cellsFrom_some _ _ _ (.inl q)⟩
 refine codeAny_call_function (by have:=hr.dp;omega) (KX _ _ lk) rfl S.co S.gen rfl (PySem.W.codeRec_of KX hcd) (hb s us KX (by rw [← r2.length];exact hl) _ _ _ _ ?_)
 refine wpAny_newFunctionEnv_cells S.kind hkind fun env he s1 z=>?_
 subst he
 refine ⟨lim.keeps z.toInCall.keep,codeAny_func ?_⟩
 have I:Inv (cxN (L2.CX P w) P w K mg base N qual scope f cdv A outer s H fun _ _ _=>False) [] (start N (vs++zs)) H s1:=qhG S e0 hl r2 z
 refine wpAny_mono (ht.run [] s1 _ H _ I hq) (fun fl s' hs=>?_) fun e s' hs=>hs
 cases fl with
 | ret u=>
  obtain ⟨v,σ',H',J,rv,q⟩:=hs
  exact ⟨v,H',J.os,J.bare,J.base,J.hok,rv,q⟩
 | next=>
  obtain ⟨σ',H',J,q⟩:=hs
  exact ⟨V.non,H',J.os,J.bare,J.base,J.hok,rfl,q⟩
 | brk=>
  obtain ⟨_,_,_,q⟩:=hs
  exact False.elim q
 | cont=>
  obtain ⟨_,_,_,q⟩:=hs
  exact False.elim q
def qek (N:List Str) (sc:Scope):Nat→List Str→List Stmt→Bool
 | _,[],[]=>true
 | i,f::fl,.Assign [.Attribute (.Name s _) g _] (.Name y _) _::r=>nmB N 0 s && nmB N i y && visB sc s && visB sc y && qa5 s && qa5 y && decide (f=g) && qek N sc (i + 1) fl r
 | _,_,_=>false
theorem qeu {N:List Str} {sc:Scope} {i:Nat} {f:Str} {fl:List Str} {body:List Stmt} (h:qek N sc i (f::fl) body=true) :
  ∃ s p p' y p2 pos r,body=.Assign [.Attribute (.Name s p) f p'] (.Name y p2) pos::r∧nmB N 0 s=true∧nmB N i y=true∧visB sc s=true∧visB sc y=true∧qa5 s=true∧qa5 y=true∧qek N sc (i + 1) fl r=true:=by
 cases body with
 | nil=>exact nope h
 | cons st r=>
  cases st with
  | Assign ts v pos=>
   rcases ts with _ | ⟨t,_ | ⟨t',ts⟩⟩
   ·exact nope h
   ·cases t with
    | Attribute o g p'=>
     cases o with
     | Name s p=>
      cases v with
      | Name y p2=>
       have h':(nmB N 0 s && nmB N i y && visB sc s && visB sc y && qa5 s && qa5 y && decide (f=g) && qek N sc (i + 1) fl r)=true:=h
       simp only [Bool.and_eq_true] at h'
       obtain ⟨⟨⟨⟨⟨⟨⟨h1,h2⟩,h3⟩,h4⟩,h5⟩,h6⟩,h7⟩,h8⟩:=h'
       have e7:f=g:=of_decide_eq_true h7
       subst e7
       exact ⟨s,p,p',y,p2,pos,r,rfl,h1,h2,h3,h4,h5,h6,h8⟩
      | _=>exact nope h
     | _=>exact nope h
    | _=>exact nope h
   ·cases t with
    | Attribute o g p'=>cases o <;> exact nope h
    | _=>exact nope h
  | _=>exact nope h
section
variable {X:Cx}
theorem qf5 {N:List Str} {sc:Scope} (hN:X.N=N) (hs:X.env.scope=sc) {C:Addr} (T:OexC X.K C):∀ (fl:List Str) (i:Nat) (body:List Stmt),qek N sc i fl body=true→(∀ f∈fl,PySem.W.findIn X.K (.ref C) f=some none)→
  ∃ t,PSs X body t∧∀ (D:Ends) (σ:L2.St) (H:Hp) (a dx:Addr) (args:List V) (fs:List (Str × V)),σ[0]?=some (some (.ref a))→args.length=fl.length→(∀ j y,args[j]?=some y→σ[i + j]?=some (some y))→
   H a=some (exo a C (some dx))→H dx=some (exd dx fs)→a≠dx→fs.length + fl.length≤900→
   (∀ H',(∀ b,b≠a→b≠dx→H' b=H b)→H' a=some (exo a C (some dx))→H' dx=some (exd dx ((fl.zip args).reverse++fs))→D.nx σ H')→t D σ H
 | [],i,[],_,_=>⟨_,pss_nil,fun D σ H a dx args fs h0 hl hv ha hd ne few q=>by
   have e:args=[]:=List.eq_nil_of_length_eq_zero (by simpa using hl)
   subst e
   exact q H (fun _ _ _=>rfl) ha hd⟩
 | [],i,_::_,h,_=>by simp [qek] at h
 | f::fl,i,body,h,hns=>by
  obtain ⟨s,p,p',y,p2,pos,r,rfl,h1,h2,h3,h4,h5,h6,h8⟩:=qeu h
  obtain ⟨t',ht',run⟩:=qf5 hN hs T fl (i + 1) r h8 fun f hf=>hns f (List.mem_cons_of_mem _ hf)
  refine ⟨_,pss_cons (ps_ost (pe_var (i:=0) (by rw [hN];exact of_decide_eq_true h1) (by rw [hs];exact qfz h3) (qam h5) (qcT h5)) (pe_var (i:=i) (by rw [hN];exact of_decide_eq_true h2) (by rw [hs];exact qfz h4) (qam h6) (qcT h6)) rfl) ht',fun D σ H a dx args fs h0 hl hv ha hd ne few q=>?_⟩
  cases args with
  | nil=>simp at hl
  | cons y0 args=>
   have hy:σ[i]?=some (some y0):=by simpa using hv 0 y0 rfl
   have few':fs.length + (fl.length + 1)≤900:=few
   refine ⟨y0,hy,.ref a,h0,a,C,rfl,T,hns f List.mem_cons_self,.inr ⟨dx,fs,ha,hd,by omega,?_⟩⟩
   refine run D σ _ a dx args ((f,y0)::fs) h0 (by simpa using hl) (fun j y e=>by have:=hv (j + 1) y (by simpa using e);rw [show i + 1 + j=i + (j + 1) by omega];exact this) (by rw [upd_ne ne];exact ha) upd_same ne (by simp only [List.length_cons];omega) fun H' k1 k2 k3=>q H' (fun b b1 b2=>by rw [k1 b b1 b2,upd_ne b2]) k2 ?_
   rw [k3]
   simp
end
theorem qf3 {P:Program} {w:World} {K:PySem.W.Frag} {mg:Str→Option Value} {base:Heap} {fi C:Addr} {qual:Str} {body:List Stmt} {scope:Scope} {N ps fl:List Str}
  (hps:ps.length=fl.length + 1) (hfl:fl≠[]) (few:fl.length≤5) (hch:qek N scope 1 fl body=true) (T:OexC K C) (hns:∀ f∈fl,PySem.W.findIn K (.ref C) f=some none)
  (cdv:Value) (A:Around) (outer:List PySem.Env) (s:Shared) (H:Hp) (vs:List V) (Q:VK) (η:XK) (hsp:qc2 C fl vs H Q η) :
  vs.length=ps.length∧∃ t,PSs (cxOf (L2.CX P w) P w K mg base N qual scope fi cdv A outer s H η) body t∧t { nx:=fun _ H'=>Q .non H',rt:=Q } (start N vs) H:=by
 obtain ⟨a,args,rfl,hlen,ha,post⟩:=hsp
 cases fl with
 | nil=>exact absurd rfl hfl
 | cons f fl=>
  obtain ⟨s',p,p',y,p2,pos,r,rfl,h1,h2,h3,h4,h5,h6,h8⟩:=qeu hch
  obtain ⟨t',ht',run⟩:=qf5 (X:=cxOf (L2.CX P w) P w K mg base N qual scope fi cdv A outer s H η) (N:=N) (sc:=scope) rfl rfl (C:=C) T fl 2 r h8 fun f hf=>hns f (List.mem_cons_of_mem _ hf)
  refine ⟨by rw [hps];simpa using hlen,_,pss_cons (ps_ost (pe_var (i:=0) (of_decide_eq_true h1) (qfz h3) (qam h5) (qcT h5)) (pe_var (i:=1) (of_decide_eq_true h2) (qfz h4) (qam h6) (qcT h6)) rfl) ht',?_⟩
  cases args with
  | nil=>simp at hlen
  | cons y0 args=>
   have hlen':args.length=fl.length:=by simpa using hlen
   have few':fl.length + 1≤5:=few
   refine ⟨y0,rfl,.ref a,rfl,a,C,rfl,T,hns f List.mem_cons_self,.inl ⟨ha,fun dx ndx ne=>?_⟩⟩
   refine run _ _ _ a dx args [(f,y0)] rfl hlen' (fun j y e=>?_) upd_same (by rw [upd_ne ne,upd_same]) (Ne.symm ne) (by simp only [List.length_cons,List.length_nil];omega) fun H' k1 k2 k3=>?_
   ·unfold L2.start
    have hj:=(List.getElem?_eq_some_iff.mp e).1
    rw [List.getElem?_append_left (by simp;omega),List.getElem?_map]
    have:(V.ref a::y0::args)[2 + j]?=some y:=by
     rw [show 2 + j=(j + 1) + 1 by omega]
     simpa using e
    rw [this]
    rfl
   ·refine post dx H' ndx ne (fun b b1 b2=>by rw [k1 b b1 b2,upd_ne b1,upd_ne b2]) k2 ?_
    rw [k3]
    simp
theorem qgB {P:Program} {w:World} {K:PySem.W.Frag} {mg:Str→Option Value} {base:Heap} {k:Nat} {fi C:Addr} {x qual:Str} {params:Arguments} {body:List Stmt} {scope:Scope} {dvs:List V} {kws:List (Str × V)} {fd:FuncData} {N ps fl:List Str}
  (F:FunD K x qual params body scope dvs kws fi fd) (S:FnScope N ps scope) (hps:ps.length=fl.length + 1) (hfl:fl≠[]) (few:fl.length≤5) (hch:qek N scope 1 fl body=true) (hb:Binds K fd ps []) (T:OexC K C) (hns:∀ f∈fl,PySem.W.findIn K (.ref C) f=some none) :
  FnG P w K mg base (k + 1) fi (qc2 C fl):=by
 refine qiA F S fun cdv A outer s H vs Q η hr hg hsp=>?_
 obtain ⟨hl,t,h1,h2⟩:=qf3 (P:=P) (w:=w) (mg:=mg) (base:=base) (fi:=fi) (qual:=qual) hps hfl few hch T hns cdv A outer s H vs Q η hsp
 exact ⟨[],[],t,.nil,hb,by rw [List.append_nil];exact hl,h1,by rw [List.append_nil];exact h2⟩
theorem qaX {K:PySem.W.Frag} {x qual:Str} {params:Arguments} {body:List Stmt} {scope:Scope} {kws:List (Str × V)} {f:Addr} {fd:FuncData} {ps ks:List Str} (F:FunD K x qual params body scope [] kws f fd)
  (h:∀ (kV doc pm:Value) (an:Option Addr) (cdv ct:Value) (u:Value) (ws:List Value),ws.length=ks.length→bindArgs (PySem.W.fnOf x qual params body scope .none kV doc pm an cdv ct) ⟨[u],ks.zip ws⟩=pure (ps.zip (u::ws.reverse))) :
  ∀ (s:Shared) (u:Value) (ws:List Value),ws.length=ks.length→BindsTo s fd ⟨[u],ks.zip ws⟩ (ps.zip (u::ws.reverse)):=by
 obtain ⟨oc,od,dV,kV,doc,pm,an,cdv,ct,osl,rfl,lk,hcd,hD,hK⟩:=F.ex
 rcases hD with ⟨_,rfl⟩ | ⟨e,_⟩
 ·exact fun s u ws hl=>.of_eq (h kV doc pm an cdv ct u ws hl)
 ·exact absurd rfl e
theorem qdZ {α β:Type} {R:α→β→Prop} {a:α} {b:β} (h:R a b):∀ {xs:List α} {ys:List β},Paired R xs ys→Paired R (xs++[a]) (ys++[b])
 | _,_,.nil=>.cons h .nil
 | _,_,.cons x r=>.cons x (qdZ h r)
theorem qex {α β:Type} {R:α→β→Prop}:∀ {xs:List α} {ys:List β},Paired R xs ys→Paired R xs.reverse ys.reverse
 | _,_,.nil=>.nil
 | _,_,.cons x r=>by
  rw [List.reverse_cons,List.reverse_cons]
  exact qdZ x (qex r)
theorem qe4 {P:Program} {w:World} {K:PySem.W.Frag} {mg:Str→Option Value} {base:Heap} {k:Nat} {fi C:Addr} {x qual:Str} {params:Arguments} {body:List Stmt} {scope:Scope} {dvs:List V} {kws:List (Str × V)} {fd:FuncData} {N ps fl:List Str}
  (F:FunD K x qual params body scope dvs kws fi fd) (S:FnScope N ps scope) (hps:ps.length=fl.length + 1) (hfl:fl≠[]) (few:fl.length≤5) (hch:qek N scope 1 fl body=true)
  (hb:∀ (s:Shared) (u:Value) (ws:List Value),ws.length=fl.reverse.length→BindsTo s fd ⟨[u],fl.reverse.zip ws⟩ (ps.zip (u::ws.reverse))) (T:OexC K C) (hns:∀ f∈fl,PySem.W.findIn K (.ref C) f=some none) :
  FnGW P w K mg base (k + 1) fi fl.reverse (qc2 C fl):=by
 intro A outer s H u ws v zs Q η hr hg e0 rv rz hz hsp
 obtain ⟨oc,od,dV,kV,doc,pm,an,cdv,ct,osl,rfl,lk,hcd,_,_⟩:=F.ex
 obtain ⟨hl,t,ht,hq⟩:=qf3 (P:=P) (w:=w) (mg:=mg) (base:=base) (fi:=fi) (qual:=qual) hps hfl few hch T hns cdv A outer s H (v::zs.reverse) Q η hsp
 have r2:Vals (v::zs.reverse) (u::ws.reverse):=.cons rv (qex rz)
 have KX:K.In s.heap:=e0.mod.kin.keeps fun b o e=>(e0.bs b o e).1
 have lim:s.heap.NoLimit:=e0.mod.nolimit.keeps fun b o e=>(e0.bs b o e).1
 have hkind:∀ y∈ps.zip (u::ws.reverse),scope.names.lookup y.1=some .local∨(scope.names.lookup y.1=some .cell∧((cellsFrom (s.heap.objs.size + 1) scope.names []).lookup y.1).isSome=true):=fun ⟨n,v⟩ hy=>by
  rcases S.par n (List.of_mem_zip hy).1 with q | q
  ·exact .inl q
  ·exact .inr ⟨q,PySem.W.cellsFrom_some _ _ _ (.inl q)⟩
 refine codeAny_call_function hr.depth (KX _ _ lk) rfl S.co S.gen rfl (PySem.W.codeRec_of KX hcd) (hb s u ws (by rw [← Paired.length rz];exact hz) _ _ _ _ ?_)
 refine wpAny_newFunctionEnv_cells S.kind hkind fun env he s1 z=>?_
 subst he
 refine ⟨lim.keeps z.toInCall.keep,codeAny_func ?_⟩
 have I:Inv (cxOf (L2.CX P w) P w K mg base N qual scope fi cdv A outer s H η) [] (start N (v::zs.reverse)) H s1:=inv_start S hr.hd e0 hl r2 z
 refine wpAny_mono (ht.run [] s1 _ H _ I hq) (fun fl s' hs=>?_) fun e s' hs=>hs
 cases fl with
 | ret u=>
  obtain ⟨v,σ',H',J,rv,q⟩:=hs
  exact ⟨v,H',J.os,J.bare,J.base,J.hok,rv,q⟩
 | next=>
  obtain ⟨σ',H',J,q⟩:=hs
  exact ⟨V.non,H',J.os,J.bare,J.base,J.hok,rfl,q⟩
 | brk=>
  obtain ⟨_,_,_,q⟩:=hs
  exact False.elim q
 | cont=>
  obtain ⟨_,_,_,q⟩:=hs
  exact False.elim q
end LS
set_option maxHeartbeats 1000000
namespace LS
open PySem PySem.Spec PyProof.Rows L2
def ExS (X:Cx) (kp:Bool) (w:Wd) (c:Str) (fs:List (Str × P)) (env:Env) (S:qaa):Prop:=
 ∃ W,Takes X W∧∀ w' σ' H' d,LeW w w'→HRel X.K S w' H'→EnvRel X.K kp w' env σ'→ExAt X.K w' fs d→W (.ref (He.ga X.K c)) d σ' H'
theorem ExS.up {X:Cx} {kp:Bool} {w w1:Wd} {c:Str} {fs:List (Str × P)} {env:Env} {S:qaa} (h:ExS X kp w c fs env S) (l:LeW w w1):ExS X kp w1 c fs env S:=by
 obtain ⟨W,tk,q⟩:=h
 exact ⟨W,tk,fun w' σ' H' d a b c e=>q w' σ' H' d (l.trans a) b c e⟩
theorem ExS.w {X:Cx} {kp:Bool} {w:Wd} {c:Str} {fs:List (Str × P)} {env:Env} {S:qaa} {σ:L2.St} (h:ExS X kp w c fs env S) (he:EnvRel X.K kp w env σ):ExW X σ w c fs S:=by
 obtain ⟨W,tk,q⟩:=h
 exact ⟨fun c d H=>W c d σ H,tk.imp (fun c d σ' H ⟨e,h⟩=>e ▸ h),fun w' H' d a b c=>q w' σ H' d a b (he.mono a) c⟩
def RdS (X:Cx) (kp:Bool) (w:Wd) (r:RS) (D:Ends):Prop:=match r with
 | .nx env S=>∀ w' σ' H',LeW w w'→HRel X.K S w' H'→EnvRel X.K kp w' env σ'→D.nx σ' H'
 | .ret x S=>∀ w' v H',LeW w w'→HRel X.K S w' H'→RepW X.K w' x v→D.rt v H'
 | .bk env S=>∀ w' σ' H',LeW w w'→HRel X.K S w' H'→EnvRel X.K kp w' env σ'→D.bk σ' H'
 | .ct env S=>∀ w' σ' H',LeW w w'→HRel X.K S w' H'→EnvRel X.K kp w' env σ'→D.ct σ' H'
 | .ex c fs env S=>ExS X kp w c fs env S
 | .no=>False
theorem RdS.up {X:Cx} {kp:Bool} {w w1:Wd} {r:RS} {D:Ends} (h:RdS X kp w r D) (l:LeW w w1):RdS X kp w1 r D:=by
 cases r with
 | nx env S=>exact fun w' σ' H' a b c=>h w' σ' H' (l.trans a) b c
 | ret x S=>exact fun w' σ' H' a b c=>h w' σ' H' (l.trans a) b c
 | bk env S=>exact fun w' σ' H' a b c=>h w' σ' H' (l.trans a) b c
 | ct env S=>exact fun w' σ' H' a b c=>h w' σ' H' (l.trans a) b c
 | ex _ _ _ _=>exact ExS.up h l
 | no=>exact h
def MidS {α β:Type} (X:Cx) (kp:Bool) (rel:Wd→α→β→Prop) (w:Wd) (k:α × qaa→RS) (D:Ends):β→Hp→Prop:=fun v H1=>∃ w1 x S1,LeW w w1∧HRel X.K S1 w1 H1∧rel w1 x v∧RdS X kp w1 (k (x,S1)) D
theorem RdS.step {α β:Type} {X:Cx} {kp:Bool} {σ:L2.St} {rel:Wd→α→β→Prop} {w:Wd} {env:Env} {m:R (α × qaa)} {k:α × qaa→RS} {D:Ends} (he:EnvRel X.K kp w env σ) (h:RdS X kp w (lift env m k) D):RdG X σ rel w m (MidS X kp rel w k D):=by
 cases m with
 | ok q=>exact fun w' v H' a b c=>⟨w',q.1,q.2,a,b,c,RdS.up (show RdS X kp w (k q) D from h) a⟩
 | ex _ _ _=>exact ExS.w h he
 | no=>exact h
theorem RdS.lift0 {α:Type} {X:Cx} {kp:Bool} {w:Wd} {env:Env} {m:R α} {k:α→RS} {D:Ends} (h:RdS X kp w (lift env m k) D) (hp:m.pur):∃ a,m=.ok a∧RdS X kp w (k a) D:=by
 cases m with
 | ok q=>exact ⟨q,rfl,h⟩
 | ex c fs S=>exact absurd rfl (hp c fs S)
 | no=>exact h.elim
def tSm (X:Cx) (C:Cn) (s:S):TS:=fun D σ H=>∃ w env S,HRel X.K S w H∧EnvRel X.K C.keep w env σ∧RdS X C.keep w (exS C s env S) D
theorem qhy {kp:Bool} {o i w:W} {S:qaa}:(qb6 kp o i w S).pur:=by
 unfold qb6
 repeat (first | exact qdE | exact qaF | split)
structure Top (X:Cx):Prop where
 hp:PassesOwn (model X.prog X.w) X.A X.env X.xe
 hs:X.stack=X.env::X.outer
 hf:X.env.frame=some X.env.locals
 hex:X.ex=[]
theorem PSs.weak {X:Cx} {e:List Stmt} {t t':TS} (h:PSs X e t) (k:∀ D σ H,t' D σ H→t D σ H):PSs X e t':=⟨fun pins s σ H D I q=>h.run pins s σ H D I (k D σ H q)⟩
theorem qiz {K:PySem.W.Frag} {w:Wd} {x:W} {v:V} (r:RepW K w x v):∀ {xs:List W} {vs:List V} (j:Nat),qaf K w xs vs→qaf K w (xs.set j x) (vs.set j v)
 | _,_,_,.nil=>.nil
 | _,_,0,.cons _ t=>.cons r t
 | _,_,j + 1,.cons q t=>.cons q (qiz r j t)
def qiF (X:Cx):TSet:=fun o i v H Q=>rSetL o i v H Q∨rSetD o i v H Q
theorem qlU {X:Cx} (hu:X.A.units + 1 < cLine):PSet X (qiF X):=fun pins s σ H o i v ov iv u Q I ro ri rv h=>by
 rcases h with h | h
 ·exact set_list pins s σ H o i v ov iv u Q I ro ri rv h
 ·exact set_dict hu pins s σ H o i v ov iv u Q I ro ri rv h
theorem qht {X:Cx} {kp:Bool} {S S':qaa} {w:Wd} {H:Hp} {o i e:W} {ov iv ev:V} (hr:HRel X.K S w H) (ro:RepW X.K w o ov) (ri:RepW X.K w i iv) (re:RepW X.K w e ev) (h:qb6 kp o i e S=.ok S') (hkp:∀ (c:Cell) (n:Nat),c.lows n=true∨(kp=true∧c.lows S.length=true)→c.lows n=true∨(w.b.o=none∧c.lows S.length=true)) {Q:Hp→Prop}
  (q:∀ H',HRel X.K S' w H'→Q H'):qiF X ov iv ev H Q:=by
 unfold qb6 at h
 split at h
 ·rename_i n p
  obtain ⟨ad,hn,rfl⟩:=ro
  split at h
  ·rename_i xs i hS
   split at h
   ·rename_i j hj
    unfold write at h
    split at h
    ·rename_i hb
     cases h
     rcases hr.cell n _ ad hS hn with z | ⟨hF,vs,ho,rr,z⟩
     ·cases z
     ·have e1:=Paired.length rr
      have ri':RepP X.K w.F (.int i) iv:=ri
      unfold RepP at ri'
      subst ri'
      refine .inl ⟨ad,vs,i,j,rfl,rfl,ho,by rw [← e1];exact hj,q _ (hr.write (o:=.lst (vs.set j ev)) hn hF (hkp _ _ hb) ⟨_,upd_same,qiz re j rr,by rw [List.length_set];exact z⟩ (nofz ho))⟩
    ·cases h
   ·cases h
  ·rename_i kvs pp hS
   split at h
   ·rename_i key hk
    split at h
    ·rename_i hl
     unfold write at h
     split at h
     ·rename_i hb
      cases h
      rcases hr.cell n _ ad hS hn with z | ⟨hF,vs,ho,rr,z⟩
      ·cases z
      ·have e1:=Paired.length rr
       have hl2:vs.length < lim:=by rw [← e1];exact hl
       have:=qao
       have hz:(putK vs key ev).length≤sizeLine:=by
        have:=qe1 (kvs:=vs) (k:=key) (v:=ev)
        omega
       have ek:=qgw (show RepP X.K w.F _ iv from ri) hk
       subst ek
       exact .inr ⟨ad,_,rfl,DPut.k ho (by omega),q _ (hr.write hn hF (hkp _ _ hb) ⟨_,upd_same,qak.put re rr,hz⟩ (nofz ho))⟩
     ·cases h
    ·cases h
   ·cases h
  ·cases h
 ·cases h
section
variable {X:Cx} {C:Cn} {ct:Ct} {k:Nat} {pos:Pos}
theorem qqU (G:Gd C ct k X) (hc:ct.calm=true) (hp:Top X) {tg:Tg} {it:E} {b:S} {t i:Expr} {x:List Stmt} (hi:PI X t i (tIm X C it)) (hg:PG X t (tG X.K tg)) (hs:qa7 i=true) (hb:PSs X x (tSm X C b)):PS X (.For t i x [] pos) (tSm X C (.for_ tg it b)):=by
 refine PS.weak (ps_for hp.hp (G.calm hc) hi hg hb (qdD hs)) fun D σ H q=>?_
 obtain ⟨w,env,S,hr,he,q⟩:=q
 simp only [exS] at q
 refine ⟨w,env,S,hr,he,(RdS.step (rel:=ItOk X.K) he q).imp fun J H1 h1=>?_⟩
 obtain ⟨w1,I,S1,l1,hr1,hI,q1⟩:=h1
 cases I with
 | st xs=>
  refine ⟨fun i m σ H=>m + i=xs.length∧∃ w' env' S',LeW w1 w'∧HRel X.K S' w' H∧EnvRel X.K C.keep w' env' σ∧RdS X C.keep w' (forL (exS C b) tg (xs.drop i) env' S') D,⟨xs.length,by simp,w1,env,S1,LeW.refl _,hr1,he.mono l1,q1⟩,?_⟩
  rintro i m σ H ⟨hm,w',env',S',lw,hr',he',el⟩
  obtain ⟨item,stop⟩:=hI w' S' H i lw.v hr'
  cases hx:xs[i]? with
  | none=>
   have hi:=List.getElem?_eq_none_iff.mp hx
   rw [List.drop_eq_nil_of_le hi] at el
   exact .inl ⟨stop (by omega),el w' σ H (LeW.refl _) hr' he'⟩
  | some x=>
   have hi:=qbt hx
   have hd:xs.drop i=x::xs.drop (i + 1):=by
    rw [List.drop_eq_getElem_cons hi]
    congr 1
    rw [List.getElem?_eq_getElem hi] at hx
    cases hx
    rfl
   rw [hd] at el
   obtain ⟨go,y⟩:=item x hx
   refine .inr ⟨go,fun σ' H'=>∃ w'' env'' S'',LeW w1 w''∧HRel X.K S'' w'' H'∧EnvRel X.K C.keep w'' env'' σ'∧RdS X C.keep w'' (forL (exS C b) tg (xs.drop (i + 1)) env'' S'') D,fun σ' H' h=>⟨m - 1,by omega,by omega,h⟩,fun v H' yl=>?_⟩
   obtain ⟨w2,l2,hr2,r2⟩:=y v H' yl
   unfold forL at el
   split at el
   ·rename_i env2 hset
    refine qdx hset hr2 r2 (he'.mono l2) fun σ2 he2 _=>⟨w2,env2,S',hr2,he2,?_⟩
    have el2:=el.up l2
    cases hx:exS C b env2 S' with
    | nx e s=>
     rw [hx] at el2
     exact fun w' σ' H' a b c=>⟨w',e,s,(lw.trans l2).trans a,b,c,el2.up a⟩
    | ct e s=>
     rw [hx] at el2
     exact fun w' σ' H' a b c=>⟨w',e,s,(lw.trans l2).trans a,b,c,el2.up a⟩
    | bk e s=>
     rw [hx] at el2
     exact el2
    | ret e s=>
     rw [hx] at el2
     exact el2
    | ex _ _ _ _=>
     rw [hx] at el2
     exact el2
    | no=>
     rw [hx] at el2
     exact el2
   ·exact el.elim
 | cl n=>
  refine ⟨fun i m σ H=>∃ w' env' S',LeW w1 w'∧HRel X.K S' w' H∧EnvRel X.K C.keep w' env' σ∧RdS X C.keep w' (forC (exS C b) tg n m i env' S') D,⟨C.g.fu,w1,env,S1,LeW.refl _,hr1,he.mono l1,q1⟩,?_⟩
  rintro i m σ H ⟨w',env',S',lw,hr',he',el⟩
  cases m with
  | zero=>exact el.elim
  | succ m=>
   unfold forC at el
   split at el
   ·rename_i xs hS
    obtain ⟨item,stop⟩:=hI w' S' H i xs lw.v hr' hS
    split at el
    ·rename_i x hx
     obtain ⟨go,y⟩:=item x hx
     refine .inr ⟨go,fun σ' H'=>∃ w'' env'' S'',LeW w1 w''∧HRel X.K S'' w'' H'∧EnvRel X.K C.keep w'' env'' σ'∧RdS X C.keep w'' (forC (exS C b) tg n m (i + 1) env'' S'') D,fun σ' H' h=>⟨m,by omega,h⟩,fun v H' yl=>?_⟩
     obtain ⟨w2,l2,hr2,r2⟩:=y v H' yl
     split at el
     ·rename_i env2 hset
      refine qdx hset hr2 r2 (he'.mono l2) fun σ2 he2 _=>⟨w2,env2,S',hr2,he2,?_⟩
      have el2:=el.up l2
      cases hx:exS C b env2 S' with
      | nx e s=>
       rw [hx] at el2
       exact fun w' σ' H' a b c=>⟨w',e,s,(lw.trans l2).trans a,b,c,el2.up a⟩
      | ct e s=>
       rw [hx] at el2
       exact fun w' σ' H' a b c=>⟨w',e,s,(lw.trans l2).trans a,b,c,el2.up a⟩
      | bk e s=>
       rw [hx] at el2
       exact el2
      | ret e s=>
       rw [hx] at el2
       exact el2
      | ex _ _ _ _=>
       rw [hx] at el2
       exact el2
      | no=>
       rw [hx] at el2
       exact el2
     ·exact el.elim
    ·rename_i hx
     exact .inl ⟨stop hx,el w' σ H (LeW.refl _) hr' he'⟩
   ·exact el.elim
 | lk n xs=>exact hI.elim
theorem qlS {α β:Type} {env:Env} {m:R α} {f:α→R β} {k:β→RS}:lift env (m.bind f) k=lift env m fun a=>lift env (f a) k:=by
 cases m <;> rfl
def UnD (X:Cx) (D:Ends):Ends:=⟨fun σ' H'=>UnZ X (D.nx σ') H',fun v H'=>UnZ X (D.rt v) H',fun σ' H'=>UnZ X (D.bk σ') H',fun σ' H'=>UnZ X (D.ct σ') H'⟩
theorem qna {K:PySem.W.Frag} {kp:Bool} {w:Wd} {env:Env} {σ:L2.St} {lk:List (Addr × HO)} (h:EnvRel K kp w env σ):EnvRel K kp ⟨w.ρ,w.F,⟨w.b.o,lk⟩⟩ env σ:=⟨h.len,h.at_,h.kb⟩
theorem qmJ {K:PySem.W.Frag} {w:Wd} {x:W} {v:V} {b:Bk} (h:RepW K w x v):RepW K ⟨w.ρ,w.F,b⟩ x v:=by
 cases x with
 | v p=>exact h
 | c n=>exact h
theorem qjS {kp:Bool} {n:Nat} {a0:Addr} {od:Obj} {u:HO} {w1 wL:Wd} {r:RS} {D:Ends} (hwL:wL=w1.lkW a0 (.frz od u)) (ha:w1.ρ[n]?=some a0) (no:∀ o,(a0,o)∉w1.b.lk) (nz:∀ o' u',X.H_0 a0≠some (.frz o' u')) (q:RdS X kp w1 (unlS n r) D):RdS X kp wL r (UnD X D):=by
 have back:∀ {w':Wd} {H':Hp} {S S':qaa},LeW wL w'→HRel X.K S w' H'→unlC n S=.ok S'→H' a0=some (.frz od u)∧HRel X.K S' ⟨w'.ρ,w'.F,⟨w'.b.o,w1.b.lk⟩⟩ (upd H' a0 u)∧LeW w1 ⟨w'.ρ,w'.F,⟨w'.b.o,w1.b.lk⟩⟩:=fun {w' H' S S'} l hr e=>by
  have hb2:w'.b.lk=(a0,.frz od u)::w1.b.lk:=by
   rw [l.3,hwL]
   rfl
  have ha2:w'.ρ[n]?=some a0:=qbC l (show wL.ρ[n]?=some a0 by rw [hwL];exact ha)
  obtain ⟨hH,hr3⟩:=hr.unl ha2 hb2 no e
  refine ⟨hH,hr3,⟨?_,?_,?_⟩⟩
  ·have:=l.1
   rw [hwL] at this
   exact this
  ·have:=l.2
   rw [hwL] at this
   exact this
  ·show (⟨w'.b.o,w1.b.lk⟩:Bk)=_
   rw [l.3,hwL]
   rfl
 cases r with
 | nx e s=>
  unfold unlS at q
  split at q
  ·rename_i r env1 S1 heq
   cases heq
   split at q
   ·rename_i S' eS
    intro w' σ' H' l hr he
    obtain ⟨h1,h2,h3⟩:=back l hr eS
    exact .inr ⟨a0,od,u,h1,nz,q _ _ _ h3 h2 (qna he)⟩
   ·exact q.elim
  ·rename_i heq
   cases heq
  ·rename_i h1 h2
   exact (h1 _ _ rfl).elim
 | ret v s=>
  unfold unlS at q
  split at q
  ·rename_i heq
   cases heq
  ·rename_i r env1 S1 heq
   cases heq
   split at q
   ·rename_i S' eS
    intro w' v' H' l hr rx
    obtain ⟨h1,h2,h3⟩:=back l hr eS
    exact .inr ⟨a0,od,u,h1,nz,q _ _ _ h3 h2 (qmJ rx)⟩
   ·exact q.elim
  ·rename_i h1 h2
   exact (h2 _ _ rfl).elim
 | bk e s=>exact False.elim q
 | ct e s=>exact False.elim q
 | ex c fs e s=>exact False.elim q
 | no=>exact False.elim q
theorem qmv (G:Gd C ct k X) (hc:ct.calm=true) (hp:Top X) {tg:Tg} {it a:E} {b:S} {LK:W × qaa→R (Iter × qaa)} {P:HO→Prop} {mk:Addr→Obj→HO→It} {t i:Expr} {x:List Stmt} (hev:∀ env S,evI C it env S=(evE C a env S).bind LK) (hLp:∀ q,(LK q).pur) (hLK:LkOk X.K LK P mk)
  (hi:PI X t i (iZ X P mk (tE X C a))) (hg:PG X t (tG X.K tg)) (hs:qa7 i=true) (hb:PSs X x (tSm X C b)):PS X (.For t i x [] pos) (tSm X C (.for_ tg it b)):=by
 refine PS.weak (qhS (ps_for hp.hp (G.calm hc) hi hg hb (qdD hs))) fun D σ H q=>?_
 obtain ⟨w,env,S,hr,he,q⟩:=q
 simp only [exS,hev] at q
 rw [qlS] at q
 refine ⟨w,env,S,hr,he,(RdS.step (rel:=RepW X.K) he q).imp fun v H1 h1=>?_⟩
 obtain ⟨w1,x1,S1,l1,hr1,r1,q1⟩:=h1
 obtain ⟨⟨I,SI⟩,eL,q1⟩:=RdS.lift0 q1 (hLp _)
 obtain ⟨n,a0,xs,SL,u,rfl,ha,eq,elk,hu,hP,mu,nf,hod⟩:=hLK hr1 r1 eL
 cases eq
 have q1:RdS X C.keep w1 (lift env (lckC n S1) fun S=>unlS n (qeK (exS C b) tg xs env S)) D:=q1
 rw [elk] at q1
 have q1:RdS X C.keep w1 (unlS n (qeK (exS C b) tg xs env SL)) D:=q1
 refine ⟨a0,u,rfl,hu,hP,mu,fun nz od=>?_⟩
 obtain ⟨hrL,hI⟩:=hod od
 have no:=qeW hr1 nf
 obtain ⟨wL,hwL⟩:∃ wL,wL=w1.lkW a0 (.frz od u):=⟨_,rfl⟩
 rw [← hwL] at hrL hI
 have q2:=qjS hwL ha no nz q1
 have lvL:LeV w1 wL:=by rw [hwL];exact qlC
 have heL:EnvRel X.K C.keep wL env σ:=by
  have h1:=he.mono l1
  refine ⟨h1.len,fun i x e=>?_,?_⟩
  ·obtain ⟨v,e1,e2⟩:=h1.at_ i x e
   exact ⟨v,e1,e2.monoV lvL⟩
  ·rw [hwL]
   exact h1.kb
 refine ⟨fun i m σ H=>m + i=xs.length∧∃ w' env' S',LeW wL w'∧HRel X.K S' w' H∧EnvRel X.K C.keep w' env' σ∧RdS X C.keep w' (qeK (exS C b) tg (xs.drop i) env' S') (UnD X D),⟨xs.length,by simp,wL,env,SL,LeW.refl _,hrL,heL,q2⟩,?_⟩
 rintro i m σ H ⟨hm,w',env',S',lw,hr',he',el⟩
 obtain ⟨item,stop⟩:=hI w' S' H i lw.v hr'
 cases hx:xs[i]? with
 | none=>
  have hi:=List.getElem?_eq_none_iff.mp hx
  rw [List.drop_eq_nil_of_le hi] at el
  exact .inl ⟨stop (by omega),el w' σ H (LeW.refl _) hr' he'⟩
 | some x=>
  have hi:=qbt hx
  have hd:xs.drop i=x::xs.drop (i + 1):=by
   rw [List.drop_eq_getElem_cons hi]
   congr 1
   rw [List.getElem?_eq_getElem hi] at hx
   cases hx
   rfl
  rw [hd] at el
  obtain ⟨go,y⟩:=item x hx
  unfold qeK at el
  obtain ⟨q0,e0,el⟩:=RdS.lift0 el qfm
  refine .inr ⟨go,fun σ' H'=>∃ w'' env'' S'',LeW wL w''∧HRel X.K S'' w'' H'∧EnvRel X.K C.keep w'' env'' σ'∧RdS X C.keep w'' (qeK (exS C b) tg (xs.drop (i + 1)) env'' S'') (UnD X D),fun σ' H' h=>⟨m - 1,by omega,by omega,h⟩,fun v H' yl=>?_⟩
  obtain ⟨w2,l2,hr2,r2⟩:=y v H' yl q0 e0
  split at el
  ·rename_i env2 hset
   refine qdx hset hr2 r2 (he'.mono l2) fun σ2 he2 _=>⟨w2,env2,q0.2,hr2,he2,?_⟩
   have el2:=el.up l2
   cases hx:exS C b env2 q0.2 with
   | nx e s=>
    rw [hx] at el2
    exact fun w' σ' H' a b c=>⟨w',e,s,(lw.trans l2).trans a,b,c,el2.up a⟩
   | ct e s=>
    rw [hx] at el2
    exact fun w' σ' H' a b c=>⟨w',e,s,(lw.trans l2).trans a,b,c,el2.up a⟩
   | bk e s=>
    rw [hx] at el2
    exact el2
   | ret e s=>
    rw [hx] at el2
    exact el2
   | ex _ _ _ _=>
    rw [hx] at el2
    exact el2
   | no=>
    rw [hx] at el2
    exact el2
  ·exact el.elim
theorem qcO {i:Nat} {e:E} {D:Ends} {σ:L2.St} {H:Hp} (q:tSm X C (.set i e) D σ H):tAsg (tE X C e) (gName i) D σ H:=by
 obtain ⟨w,env,S,hr,he,q⟩:=q
 simp only [exS] at q
 refine ⟨w,env,S,hr,he,(RdS.step (rel:=RepW X.K) he q).imp fun v H1 h1=>?_⟩
 obtain ⟨w1,x1,S1,l1,hr1,r1,q1⟩:=h1
 exact q1 w1 _ H1 (LeW.refl _) hr1 ((he.mono l1).set r1)
theorem qdT {i:Nat} {D:Ends} {σ:L2.St} {H:Hp} (q:tSm X C (.set i .stuck) D σ H):False:=by
 obtain ⟨w,env,S,hr,he,q⟩:=q
 simp only [exS,evE] at q
 exact q
theorem qoT (G:Gd C ct k X) {i:Nat} {e:E} {x:Str} {px:Pos} {v:Expr} (h:(nmB ct.N i x && locB ct x && chE ct e v && (!swB ct.sc v x px || lcB ct.sc x))=true):PS X (.Assign [.Name x px] v pos) (tSm X C (.set i e)):=by
 obtain ⟨l1,l2⟩:=qia G (and2 (and1 (and1 h)))
 have hn:=qd8 G (and1 (and1 (and1 h)))
 have hv:=and2 (and1 h)
 have sw:=qm2 (v:=v) (x:=x) (px:=px) (l:=pos.line) G.sc
 cases hb:swB ct.sc v x px with
 | false=>
  rw [hb] at sw
  exact PS.weak (ps_set G.nd' hn l1 ((qaE C k e).e G hv) sw l2) fun D σ H q=>qcO q
 | true=>
  rw [hb] at sw
  have hl:lcB ct.sc x=true:=by
   have:=and2 h
   rw [hb] at this
   simpa using this
  have hl':X.env.scope.names.lookup x=some .local:=by
   rw [G.sc]
   exact qdS hl
  cases v with
  | ListComp elt gs scope p=>
   cases e with
   | lc c own tg it ifs el=>
    rcases gs with _ | ⟨⟨t,i,cs,ay⟩,_ | ⟨g',gs⟩⟩
    ·exact nope hv
    ·have h0:(ct.calm && (decide (ay=0) && (blkC ct.N ct.sc scope own && tgIn own tg && chI ct it i t && qa7 i && tgB (ct.blk scope) tg t && chIf (ct.blk scope) ifs cs && chE (ct.blk scope) el elt)))=true:=hv
     have hc:=and1 h0
     have hv:=and2 h0
     have e:ay=0:=of_decide_eq_true (and1 hv)
     subst e
     obtain ⟨h1,h2,h3,h4,h5,h6,h7⟩:=qdt G c (qaE C k it) (qaE C k ifs) (qaE C k el) (and2 hv)
     rcases h1 with h1 | ⟨a,LK,P,mk,hev,hp,hk,hpi⟩
     ·exact PS.weak (ps_setLc (G.calm hc) G.nd' hn hl' sw h1 h2 h3 h4 h5 h6) fun D σ H q=>qiP h7 (qcO q)
     ·exact PS.weak (qhS (ps_setLc (G.calm hc) G.nd' hn hl' sw hpi h2 h3 h4 h5 h6)) fun D σ H q=>qhi hev hp hk h7 (qcO q)
    ·exact nope hv
   | lc2 c own own1 tg a ifs tg1 a1 ifs1 el=>
    exact nope hv
   | bf f l=>cases f <;> exact nope hv
   | stuck=>exact PS.pick fun D σ H q=>(qdT q).elim
   | _=>exact nope hv
  | DictComp kx vx gs scope p=>
   cases e with
   | dc c own tg it ifs ke el=>
    rcases gs with _ | ⟨⟨t,i,cs,ay⟩,_ | ⟨g',gs⟩⟩
    ·exact nope hv
    ·have h0:(ct.calm && (decide (ay=0) && (blkC ct.N ct.sc scope own && tgIn own tg && chI ct it i t && qa7 i && tgB (ct.blk scope) tg t && chIf (ct.blk scope) ifs cs && chE (ct.blk scope) ke kx && chE (ct.blk scope) el vx)))=true:=hv
     have hc:=and1 h0
     have hv:=and2 h0
     have e:ay=0:=of_decide_eq_true (and1 hv)
     subst e
     have h':=and2 hv
     obtain ⟨h1,h2,h3,h4,h5,h6,h7⟩:=qdt G c (qaE C k it) (qaE C k ifs) (qaE C k ke) (and1 h')
     rcases h1 with h1 | ⟨a,LK,P,mk,hev,hp,hk,hpi⟩
     ·exact PS.weak (qgL (G.calm hc) G.nd' hn hl' sw h1 h2 h3 h4 h5 (fun s H D cl fp=>pe_N ((qaE C k el).e ((G.in_ c).blk scope s H D cl fp) (and2 h'))) h6) fun D σ H q=>qiV h7 (qcO q)
     ·exact PS.weak (qhS (qgL (G.calm hc) G.nd' hn hl' sw hpi h2 h3 h4 h5 (fun s H D cl fp=>pe_N ((qaE C k el).e ((G.in_ c).blk scope s H D cl fp) (and2 h'))) h6)) fun D σ H q=>qhj hev hp hk h7 (qcO q)
    ·exact nope hv
   | bf f l=>cases f <;> exact nope hv
   | stuck=>exact PS.pick fun D σ H q=>(qdT q).elim
   | _=>exact nope hv
  | SetComp elt gs scope p=>
   cases e with
   | bf f l=>cases f <;> exact nope hv
   | stuck=>exact PS.pick fun D σ H q=>(qdT q).elim
   | _=>exact nope hv
  | _=>exact nope hb
theorem qpI (G:Gd C ct k X) {i j:Nat} {l:E} {x y:Str} {px py pt pt2:Pos} {a b:Expr} {kt k2:Nat}
  (h:(ct.calm && (nmB ct.N i x && nmB ct.N j y && decide (i≠j) && lcB ct.sc x && lcB ct.sc y && chL ct l [a,b] && decide (swP ct.sc [.Name x px,.Name y py] [a,b]=some (some [x,y]))))=true) :
  PS X (.Assign [.Tuple [.Name x px,.Name y py] kt pt] (.Tuple [a,b] k2 pt2) pos) (tSm X C (.par [i,j] l)):=by
 have hc:=and1 h
 have h:=and2 h
 have hij:i≠j:=of_decide_eq_true (and2 (and1 (and1 (and1 (and1 h)))))
 refine PS.weak (ps_par (G.calm hc) G.nd' (qd8 G (and1 (and1 (and1 (and1 (and1 (and1 h))))))) (qd8 G (and2 (and1 (and1 (and1 (and1 (and1 h))))))) hij (by rw [G.sc];exact qdS (and2 (and1 (and1 (and1 h))))) (by rw [G.sc];exact qdS (and2 (and1 (and1 h))))
  ((qaE C k l).l G (and2 (and1 h))) (qiY G.sc (of_decide_eq_true (and2 h))) (by rw [qe2];exact qjI rfl)) fun D σ H q=>?_
 obtain ⟨w,env,S,hr,he,q⟩:=q
 simp only [exS] at q
 refine ⟨w,env,S,hr,he,(RdS.step (rel:=qaf X.K) he q).imp fun vs H1 h1=>?_⟩
 obtain ⟨w1,ws,S1,l1,hr1,r1,q1⟩:=h1
 simp only at q1
 split at q1
 ·rename_i env2 hset
  have hl:=qbN hset
  rcases ws with _ | ⟨w0,_ | ⟨w00,_ | ⟨_,_⟩⟩⟩
  ·cases hl
  ·cases hl
  ·cases r1 with
   | cons ra rt=>
    obtain ⟨u,rfl,ru⟩:=qay rt
    cases hset
    exact ⟨_,u,rfl,q1 w1 _ H1 (LeW.refl _) hr1 (((he.mono l1).set ra).set ru)⟩
  ·simp at hl
 ·exact q1.elim
theorem qnj (G:Gd C ct k X) {i j l0:Nat} {l:E} {x y z:Str} {px py pz pt pt2:Pos} {a b c:Expr} {kt k2:Nat}
  (h:(ct.calm && (nmB ct.N i x && nmB ct.N j y && nmB ct.N l0 z && decide (i≠j) && decide (i≠l0) && decide (j≠l0) && lcB ct.sc x && lcB ct.sc y && lcB ct.sc z && chL ct l [a,b,c] && decide (swP ct.sc [.Name x px,.Name y py,.Name z pz] [a,b,c]=some (some [x,y,z]))))=true) :
  PS X (.Assign [.Tuple [.Name x px,.Name y py,.Name z pz] kt pt] (.Tuple [a,b,c] k2 pt2) pos) (tSm X C (.par [i,j,l0] l)):=by
 have hc:=and1 h
 have h:=and2 h
 have sw:=of_decide_eq_true (and2 h)
 have h:=and1 h
 have hl3:=and2 h
 have h:=and1 h
 have zl:=and2 h
 have h:=and1 h
 have yl:=and2 h
 have h:=and1 h
 have xl:=and2 h
 have h:=and1 h
 have hjl:j≠l0:=of_decide_eq_true (and2 h)
 have h:=and1 h
 have hil:i≠l0:=of_decide_eq_true (and2 h)
 have h:=and1 h
 have hij:i≠j:=of_decide_eq_true (and2 h)
 have h:=and1 h
 refine PS.weak (ps_par3 (G.calm hc) G.nd' (qd8 G (and1 (and1 h))) (qd8 G (and2 (and1 h))) (qd8 G (and2 h)) hij hil hjl (by rw [G.sc];exact qdS xl) (by rw [G.sc];exact qdS yl) (by rw [G.sc];exact qdS zl)
  ((qaE C k l).l G hl3) (qiY G.sc sw) (by rw [qe2];exact qjI rfl)) fun D σ H q=>?_
 obtain ⟨w,env,S,hr,he,q⟩:=q
 simp only [exS] at q
 refine ⟨w,env,S,hr,he,(RdS.step (rel:=qaf X.K) he q).imp fun vs H1 h1=>?_⟩
 obtain ⟨w1,ws,S1,l1,hr1,r1,q1⟩:=h1
 simp only at q1
 split at q1
 ·rename_i env2 hset
  have hl:=qbN hset
  rcases ws with _ | ⟨w0,_ | ⟨w00,_ | ⟨w000,_ | ⟨_,_⟩⟩⟩⟩
  ·cases hl
  ·cases hl
  ·cases hl
  ·cases r1 with
   | cons ra rt=>
    cases rt with
    | cons rb rt=>
     obtain ⟨u,rfl,ru⟩:=qay rt
     cases hset
     exact ⟨_,_,u,rfl,q1 w1 _ H1 (LeW.refl _) hr1 ((((he.mono l1).set ra).set rb).set ru)⟩
  ·simp at hl
 ·exact q1.elim
theorem qm7 (G:Gd C ct k X) {is:List Nat} {l:E} {ts vs:List Expr} {kt k2:Nat} {pt pt2:Pos} (h:parN ct is l ts vs=true):PS X (.Assign [.Tuple ts kt pt] (.Tuple vs k2 pt2) pos) (tSm X C (.par is l)):=by
 unfold parN at h
 have hc:=and1 h
 have h:=and2 h
 obtain ⟨h1,h2,h3⟩:=qio G (and1 (and1 (and1 h)))
 refine PS.weak (ps_asg (pe_tup ((qaE C k l).l G (and2 (and1 (and1 h))))) (pg_tup (G.calm hc) h1 h2 h3) (by rw [qe2];exact qjI rfl) (qiY G.sc (of_decide_eq_true (and2 h)))) fun D σ H q=>?_
 obtain ⟨w,env,S,hr,he,q⟩:=q
 simp only [exS] at q
 refine ⟨w,env,S,hr,he,(RdS.step (rel:=qaf X.K) he q).imp fun us H1 h1=>?_⟩
 obtain ⟨w1,ws,S1,l1,hr1,r1,q1⟩:=h1
 simp only at q1
 split at q1
 ·rename_i env2 hset
  have hl:=qbN hset
  have hl2:=Paired.length r1
  have h15:is.length≤15:=of_decide_eq_true (and2 (and1 h))
  have hlim:=qao
  have h16:15≤lim:=by decide
  refine ⟨by omega,fun p hp=>?_⟩
  obtain ⟨hr2,lw⟩:=hr1.newF (o:=.tup us) hp
  refine ⟨p,us,rfl,.inl (.inl upd_same),by omega,?_⟩
  exact qcp hset (r1.mono lw) (he.mono (l1.trans lw)) fun σ2 he2 _=>q1 _ σ2 _ lw hr2 he2
 ·exact q1.elim
theorem qoJ (G:Gd C ct k X) {o i e:E} {x y v:Expr} {p:Pos} (h:(chE ct o x && chE ct i y && chE ct e v && qcq y)=true):PS X (.Assign [.Subscript x y p] v pos) (tSm X C (.sub o i e)):=by
 have hu:=G.hu
 have ho:=(qaE C k o).e G (and1 (and1 (and1 h)))
 have hi:=(qaE C k i).e G (and2 (and1 (and1 h)))
 have hv:=(qaE C k e).e G (and2 (and1 h))
 have ha:∀ v,assign (.Subscript x y p) X.env v=(do
   let ov ← holding [v] (eval x X.env)
   let iv ← holding [v,ov] (eval y X.env)
   standAt p
   holding [v,ov,iv] (setItem ov iv v)
   release [v,ov,iv] []):=fun v=>by
  have hs:=and2 h
  cases y <;> first
   | rfl
   | exact nope hs
 refine PS.weak (ps_asg hv (pg_sub ho hi (qlU (by omega)) ha) (by rw [qe2];exact qjI rfl) (qf7 rfl (fun _ _ z=>nomatch z))) fun D σ H q=>?_
 obtain ⟨w,env,S,hr,he,q⟩:=q
 simp only [exS] at q
 refine ⟨w,env,S,hr,he,(RdS.step (rel:=RepW X.K) he q).imp fun v H1 h1=>?_⟩
 obtain ⟨w1,x1,S1,l1,hr1,r1,q1⟩:=h1
 refine ⟨w1,env,S1,hr1,he.mono l1,(RdS.step (rel:=RepW X.K) (he.mono l1) q1).imp fun v H2 h2=>?_⟩
 obtain ⟨w2,x2,S2,l2,hr2,r2,q2⟩:=h2
 refine ⟨w2,env,S2,hr2,he.mono (l1.trans l2),(RdS.step (rel:=RepW X.K) (he.mono (l1.trans l2)) q2).imp fun v H3 h3=>?_⟩
 obtain ⟨w3,x3,S3,l3,hr3,r3,q3⟩:=h3
 obtain ⟨S4,e4,q4⟩:=RdS.lift0 q3 qhy
 exact qht hr3 (r2.mono l3) r3 (r1.mono (l2.trans l3)) e4 (fun c n=>qhD (he.mono ((l1.trans l2).trans l3))) fun H' hr'=>q4 w3 σ H' (LeW.refl _) hr' (he.mono ((l1.trans l2).trans l3))
end
def RdSN (K:PySem.W.Frag) (kp:Bool) (w:Wd) (r:RS) (D:Ends):Prop:=match r with
 | .nx env S=>∀ w' σ' H',LeW w w'→HRel K S w' H'→EnvRel K kp w' env σ'→D.nx σ' H'
 | .ret x S=>∀ w' v H',LeW w w'→HRel K S w' H'→RepW K w' x v→D.rt v H'
 | .bk env S=>∀ w' σ' H',LeW w w'→HRel K S w' H'→EnvRel K kp w' env σ'→D.bk σ' H'
 | .ct env S=>∀ w' σ' H',LeW w w'→HRel K S w' H'→EnvRel K kp w' env σ'→D.ct σ' H'
 | _=>False
theorem RdSN.g {X:Cx} {kp:Bool} {w:Wd} {r:RS} {D:Ends} (h:RdSN X.K kp w r D):RdS X kp w r D:=by
 cases r with
 | ex _ _ _ _=>exact h.elim
 | no=>exact h
 | nx _ _=>exact h
 | ret _ _=>exact h
 | bk _ _=>exact h
 | ct _ _=>exact h
def tSN (K:PySem.W.Frag) (C:Cn) (s:S):TS:=fun D σ H=>∃ w env S,HRel K S w H∧EnvRel K C.keep w env σ∧RdSN K C.keep w (exS C s env S) D
theorem qq1 {X:Cx} {C:Cn} {z:S} {sts:List Stmt} (h:PSs X sts (tSm X C z)):PSs X sts (tSN X.K C z):=PSs.weak h fun D σ H ⟨w,env,S,hr,he,q⟩=>⟨w,env,S,hr,he,q.g⟩
def clsV (X:Cx) (x:Str):Value:=match X.mg x with
 | some v=>v
 | none=>(bootBuiltins x).getD .none
def qnd (X:Cx) (C:Cn):S→List (Value × Option Nat × TS)
 | .hd x i b r=>(clsV X x,i,tSN X.K C b)::qnd X C r
 | _=>[]
theorem qky {X:Cx} {x:Str} {cv:Value} (h:X.mg x=some cv∨(X.mg x=none∧bootBuiltins x=some cv∧x≠"__name__")):clsV X x=cv:=by
 unfold clsV
 rcases h with h | ⟨h1,h2,_⟩
 ·rw [h]
 ·rw [h1,h2]
  rfl
theorem EnvRel.clr {K:PySem.W.Frag} {kp:Bool} {w:Wd} {env:Env} {σ:L2.St} (q:EnvRel K kp w env σ) (i:Option Nat):EnvRel K kp w (clrH i env) (clrS i σ):=by
 cases i with
 | none=>exact q
 | some i=>
  refine ⟨by simpa [clrH,clrS] using q.1,fun j x e=>?_,q.kb⟩
  have e':(env.set i none)[j]?=some (some x):=e
  show ∃ v,(σ.set i none)[j]?=some (some v)∧_
  by_cases h:j=i
  ·subst h
   have hl:j < env.length:=by
    have:=(List.getElem?_eq_some_iff.mp e').1
    simpa using this
   rw [List.getElem?_set_self hl] at e'
   cases e'
  ·rw [List.getElem?_set_ne (Ne.symm h)] at e' ⊢
   exact q.2 j x e'
theorem EnvRel.setH {K:PySem.W.Frag} {kp:Bool} {w:Wd} {env:Env} {σ:L2.St} (q:EnvRel K kp w env σ) (i:Option Nat) {c:Str} {fs:List (Str × P)} {a:Addr} (r:RepW K w (.v (.exc c fs)) (.ref a)):EnvRel K kp w (setH i c fs env) (setS i a σ):=by
 cases i with
 | none=>exact q
 | some i=>exact q.set r
theorem Gd.tr {C:Cn} {ct:Ct} {k:Nat} {X:Cx} (G:Gd C ct k X) (pn:List (Addr × Obj)) (xe:Value→Shared→Prop):Gd C ct k (X.tr pn xe):=
 ⟨G.calm,G.N,G.nd,G.sc,G.fn,G.room,G.un,G.hg,G.glo,G.blt,G.fld,G.def_,G.met,G.cls,G.defK,G.metK,G.exc,G.sub,G.xfl,G.hdl,G.isn,G.isx,G.isd,G.metO,G.tab,G.defH,G.dp,G.k2⟩
theorem Gd.suite {C:Cn} {ct:Ct} {k:Nat} {X:Cx} (G:Gd C ct k X) (a:Addr) (pn:List (Addr × Obj)):Gd C { ct with calm:=false } k (X.suite a pn):=
 ⟨(fun z=>nomatch z),G.N,G.nd,G.sc,G.fn,(fun z=>nomatch z),G.un,G.hg,G.glo,G.blt,G.fld,G.def_,G.met,G.cls,G.defK,G.metK,G.exc,G.sub,G.xfl,G.hdl,G.isn,G.isx,G.isd,G.metO,G.tab,G.defH,G.dp,G.k2⟩
theorem Top.suite {X:Cx} (t:Top X) (a:Addr) (pn:List (Addr × Obj)):Top (X.suite a pn):=⟨PassesOwn.never,t.hs,t.hf,t.hex⟩
structure SndS (C:Cn) (k:Nat) (z:S):Prop where
 h:∀ {ct:Ct} {X:Cx} (G:Gd C ct k X) (hp:Top X) {hds:List ExceptHandler},chH ct z hds=true→qfq C.g.hdl z=true→HdsT X hds (qnd X C z):=by exact fun {_ _} _ _ {_} h _=>nope h
 s:∀ {ct:Ct} {X:Cx} (G:Gd C ct k X) (hp:Top X) {st:Stmt},chS ct z st=true→PS X st (tSm X C z):=by exact fun {_ _} _ _ {_} h=>nope h
 ss:∀ {ct:Ct} {X:Cx} (G:Gd C ct k X) (hp:Top X) {sts:List Stmt},chSs ct z sts=true→PSs X sts (tSm X C z):=by exact fun {_ _} _ _ {_} h=>nope h
theorem qeF (C:Cn) (k:Nat) (z:S):SndS C k z:=by
 induction z with
 | nil=>exact {
   h:=fun {ct X} G hp {hds} h _=>by
    cases hds with
    | nil=>exact .nil
    | cons _ _=>exact nope h
   ss:=fun {ct X} G hp {sts} h=>by
    cases sts with
    | nil=>
     refine PSs.weak pss_nil fun D σ H q=>?_
     obtain ⟨w,env,S,hr,he,q⟩:=q
     simp only [exS] at q
     exact q w σ H (LeW.refl _) hr he
    | cons a b=>exact nope h }
 | cons a r ha hr=>exact {
   ss:=fun {ct X} G hp {sts} h=>by
    cases sts with
    | nil=>exact nope h
    | cons x xs=>
     have h':(chS ct a x && chSs ct r xs)=true:=h
     refine PSs.weak (pss_cons (ha.s G hp (and1 h')) (hr.ss G hp (and2 h'))) fun D σ H q=>?_
     obtain ⟨w,env,S,hr,he,q⟩:=q
     refine ⟨w,env,S,hr,he,?_⟩
     simp only [exS] at q
     cases hx:exS C a env S with
     | nx e s=>
      rw [hx] at q
      exact fun w' σ' H' l1 l2 l3=>⟨w',e,s,l2,l3,q.up l1⟩
     | ct e s=>
      rw [hx] at q
      exact q
     | bk e s=>
      rw [hx] at q
      exact q
     | ret e s=>
      rw [hx] at q
      exact q
     | ex _ _ _ _=>
      rw [hx] at q
      exact q
     | no=>
      rw [hx] at q
      exact q }
 | expr e=>exact {
   s:=fun {ct X} G hp {st} h=>by
    cases st with
    | Expr x pos=>
     have h':(chE ct e x && qgg x)=true:=h
     refine PS.weak (ps_expr ((qaE C k e).e G (and1 h')) (qjp (and2 h'))) fun D σ H q=>?_
     obtain ⟨w,env,S,hr,he,q⟩:=q
     simp only [exS] at q
     refine ⟨w,env,S,hr,he,(RdS.step (rel:=RepW X.K) he q).imp fun v H1 h1=>?_⟩
     obtain ⟨w1,x1,S1,l1,hr1,r1,q1⟩:=h1
     exact q1 w1 σ H1 (LeW.refl _) hr1 (he.mono l1)
    | _=>exact nope h }
 | ret e=>exact {
   s:=fun {ct X} G hp {st} h=>by
    cases st with
    | Return x pos=>
     cases x with
     | some x=>
      have h':chE ct e x=true:=by
       cases e with
       | lit p=>cases p <;> exact h
       | _=>exact h
      refine PS.weak (ps_ret ((qaE C k e).e G h')) fun D σ H q=>?_
      obtain ⟨w,env,S,hr,he,q⟩:=q
      simp only [exS] at q
      refine ⟨w,env,S,hr,he,(RdS.step (rel:=RepW X.K) he q).imp fun v H1 h1=>?_⟩
      obtain ⟨w1,x1,S1,l1,hr1,r1,q1⟩:=h1
      exact q1 w1 v H1 (LeW.refl _) hr1 r1
     | none=>
      cases e with
      | lit p=>
       cases p with
       | non=>
        refine PS.weak ps_retN fun D σ H q=>?_
        obtain ⟨w,env,S,hr,he,q⟩:=q
        simp only [exS,evE] at q
        exact q w .non H (LeW.refl _) hr (show RepP X.K w.F .non _ from qe8)
       | _=>exact nope h
      | _=>exact nope h
    | _=>cases e with
     | lit p=>cases p <;> exact nope h
     | _=>exact nope h }
 | pass=>exact {
   s:=fun {ct X} G hp {st} h=>by
    cases st with
    | Pass pos=>
     refine PS.weak ps_pass fun D σ H q=>?_
     obtain ⟨w,env,S,hr,he,q⟩:=q
     simp only [exS] at q
     exact q w σ H (LeW.refl _) hr he
    | _=>exact nope h }
 | set i e=>exact {
   s:=fun {ct X} G hp {st} h=>by
    cases st with
    | Assign ts v pos=>
     rcases ts with _ | ⟨t,_ | ⟨t',ts⟩⟩
     ·exact nope h
     ·cases t with
      | Name x px=>exact qoT G h
      | _=>exact nope h
     ·cases t <;> exact nope h
    | _=>exact nope h }
 | setT is e=>exact {}
 | par is l=>exact {
   s:=fun {ct X} G hp {st} h=>by
    cases st with
    | Assign ts v pos=>
     rcases ts with _ | ⟨t,_ | ⟨t',ts⟩⟩
     ·exact nope h
     ·cases t with
      | Tuple es kt pt=>
       cases v with
       | Tuple vs k2 pt2=>
        have h0:(parB ct is l es vs || parN ct is l es vs)=true:=h
        rcases Bool.or_eq_true_iff.mp h0 with h' | h'
        ·unfold parB at h'
         split at h'
         ·exact qpI G h'
         ·exact qnj G h'
         ·exact nope h'
        ·exact qm7 G h'
       | _=>exact nope h
      | _=>exact nope h
     ·cases t <;> exact nope h
    | _=>exact nope h }
 | sub o i e=>exact {
   s:=fun {ct X} G hp {st} h=>by
    cases st with
    | Assign ts v pos=>
     rcases ts with _ | ⟨t,_ | ⟨t',ts⟩⟩
     ·exact nope h
     ·cases t with
      | Subscript x y p=>exact qoJ G h
      | _=>exact nope h
     ·cases t <;> exact nope h
    | _=>exact nope h }
 | fld o f e=>exact {}
 | aug i o e=>exact {}
 | ite t a b ha hb=>exact {
   s:=fun {ct X} G hp {st} h=>by
    cases st with
    | If c x y pos=>
     have h':(chE ct t c && tsE t c && chSs ct a x && chSs ct b y)=true:=h
     refine PS.weak (ps_if ((qaE C k t).t G (and1 (and1 (and1 h'))) (and2 (and1 (and1 h')))) (ha.ss G hp (and2 (and1 h'))) (hb.ss G hp (and2 h'))) fun D σ H q=>?_
     obtain ⟨w,env,S,hr,he,q⟩:=q
     simp only [exS] at q
     refine ⟨w,env,S,hr,he,(RdS.step (rel:=relB) he q).imp fun v H1 h1=>?_⟩
     obtain ⟨w1,x1,S1,l1,hr1,r1,q1⟩:=h1
     cases r1
     simp only at q1
     cases v with
     | true=>
      rw [if_pos rfl] at q1 ⊢
      exact ⟨w1,env,S1,hr1,he.mono l1,q1⟩
     | false=>
      rw [if_neg Bool.false_ne_true] at q1 ⊢
      exact ⟨w1,env,S1,hr1,he.mono l1,q1⟩
    | _=>exact nope h }
 | whl t b hb=>exact {}
 | for_ tg it b hb=>exact {
   s:=fun {ct X} G hp {st} h=>by
    cases st with
    | For t i x y pos=>
     cases y with
     | nil=>
      have h0:(ct.calm && (tgB ct tg t && chI ct it i t && qa7 i && chSs ct b x))=true:=h
      have hc:=and1 h0
      have h':=and2 h0
      rcases (qaE C k it).i G (and2 (and1 (and1 h'))) with hi | ⟨a,LK,P,mk,hev,hpu,hk,hpi⟩
      ·exact qqU G hc hp hi (qkS G (and1 (and1 (and1 h')))) (and2 (and1 h')) (hb.ss G hp (and2 h'))
      ·exact qmv G hc hp hev hpu hk hpi (qkS G (and1 (and1 (and1 h')))) (and2 (and1 h')) (hb.ss G hp (and2 h'))
     | cons _ _=>exact nope h
    | _=>exact nope h }
 | brk=>exact {}
 | cnt=>exact {}
 | raise c l=>exact {}
 | try_ b hh ihb ihh=>exact {}
 | hd x i b r ihb ihr=>exact {
   h:=fun {ct X} G hp {hds} h hn=>by
    cases hds with
    | nil=>exact nope h
    | cons hd hds=>
     obtain ⟨ty,nm,body,p⟩:=hd
     cases ty with
     | none=>exact nope h
     | some ty=>
      cases ty with
      | Name y np=>
       cases body with
       | nil=>exact nope h
       | cons s0 ss=>
        have h0:(gB ct x y && hnB ct i nm && chSs { ct with calm:=false } b (s0::ss) && chH ct r hds)=true:=h
        obtain ⟨rfl,hg,ho⟩:=qcH G (and1 (and1 (and1 h0)))
        obtain ⟨n1,n2⟩:=Bool.and_eq_true_iff.mp (show (C.g.hdl x && qfq C.g.hdl r)=true from hn)
        obtain ⟨cv,hcv⟩:=G.hdl x n1
        refine HdsT.cons ⟨hg,qam ho,?_⟩ ?_ (fun a pn=>qq1 (X:=X.suite a pn) (ihb.ss (G.suite a pn) (hp.suite a pn) (and2 (and1 h0)))) (ihr.h G hp (and2 h0) n2)
        ·rw [qky hcv]
         exact hcv
        ·have hnb:=and2 (and1 (and1 h0))
         cases i with
         | none=>
          cases nm with
          | none=>trivial
          | some n=>exact nope hnb
         | some i=>
          cases nm with
          | none=>exact nope hnb
          | some n=>
           have hb2:(nmB ct.N i n && lcB ct.sc n)=true:=hnb
           refine ⟨qd8 G (and1 hb2),?_⟩
           show X.env.scope.names.lookup n=some .local
           rw [G.sc]
           exact qdS (and2 hb2)
      | _=>exact nope h }
 | parT o i o' i' l=>exact {}
 | subZ n i e=>exact {}
 | subT o l e=>exact {}
 | del o i=>exact {}
 | stuck=>exact {
   s:=fun {ct X} G hp {st} h=>PS.pick fun D σ H q=>by
    obtain ⟨w,env,S,hr,he,q⟩:=q
    simp only [exS] at q
    exact q.elim }
end LS
namespace LS
open PySem PySem.Spec PyProof.Rows L2
theorem qkm {P:Program} {w:World} {K:PySem.W.Frag} {mg:Str→Option Value} {base:Heap} {N:List Str} {qual:Str} {scope:Scope} {f:Addr} {cd:Value} {A:Around} {outer:List PySem.Env} {s:Shared} {H:Hp} {E:XK} :
  Top (cxOf (L2.CX P w) P w K mg base N qual scope f cd A outer s H E):=⟨PassesOwn.leaving,rfl,rfl,rfl⟩
theorem qfM {own:Bool} {k:Nat} {x:W} {S:qaa}:(qbG own k x S).pur:=by
 unfold qbG
 repeat (first | exact qaB | exact qaF | split)
theorem RdF.pure_ok {K:PySem.W.Frag} {η:XK} {α β:Type} {rel:Wd→α→β→Prop} {w:Wd} {m:R (α × qaa)} {Q:β→Hp→Prop} (h:RdF K η rel w m Q) (hp:m.pur):∃ q,m=.ok q:=by
 cases m with
 | ok q=>exact ⟨q,rfl⟩
 | ex c fs S=>exact absurd rfl (hp c fs S)
 | no=>exact h.elim
theorem qez {c:Cell} {p:P} (h:c.view=some p) (n:Nat):c.lows n=true:=by
 have one:∀ {ws:List W} {ps:List P},allP ws=some ps→ws.all (qad n)=true:=fun {ws}=>by
  induction ws with
  | nil=>exact fun _=>rfl
  | cons a ws ih=>
   intro ps h
   cases a with
   | v q=>
    cases e:allP ws with
    | none=>simp [allP,e] at h
    | some qs=>
     have:=ih e
     simp only [List.all_cons,this]
     rfl
   | c m=>simp [allP] at h
 have two:∀ {ws:List (Key × W)} {ps:List (Key × P)},qbO ws=some ps→(ws.all fun q=>qad n q.2)=true:=fun {ws}=>by
  induction ws with
  | nil=>exact fun _=>rfl
  | cons a ws ih=>
   intro ps h
   obtain ⟨key,a⟩:=a
   cases a with
   | v q=>
    cases e:qbO ws with
    | none=>simp [qbO,e] at h
    | some qs=>
     have:=ih e
     simp only [List.all_cons,this]
     rfl
   | c m=>simp [qbO] at h
 have three:∀ {ws:List (Str × W)} {ps:List (Str × P)},qb4 ws=some ps→(ws.all fun q=>qad n q.2)=true:=fun {ws}=>by
  induction ws with
  | nil=>exact fun _=>rfl
  | cons a ws ih=>
   intro ps h
   obtain ⟨key,a⟩:=a
   cases a with
   | v q=>
    cases e:qb4 ws with
    | none=>simp [qb4,e] at h
    | some qs=>
     have:=ih e
     simp only [List.all_cons,this]
     rfl
   | c m=>simp [qb4] at h
 cases c with
 | dead=>rfl
 | tup ws=>simp [Cell.view] at h
 | lst ws=>
  cases e:allP ws with
  | none=>simp [Cell.view,e] at h
  | some ps=>exact one e
 | dct ws=>
  cases e:qbO ws with
  | none=>simp [Cell.view,e] at h
  | some ps=>exact two e
 | ins cc ws=>
  cases e:qb4 ws with
  | none=>simp [Cell.view,e] at h
  | some ps=>exact three e
 | lkd ws=>simp [Cell.view] at h
 | dtt ws=>simp [Cell.view] at h
 | lkt ws=>simp [Cell.view] at h
theorem HRel.addC {K:PySem.W.Frag} {S:qaa} {w:Wd} {H:Hp} (hr:HRel K S w H) {a:Addr} {c:Cell} (na:a∉w.ρ) (ho:∃ o,H a=some o) (hF:w.F a=none) (hb:c.lows S.length=true) (hc:qa6 K w H a c) (ht:c.isT=false):HRel K (S++[c]) ⟨w.ρ++[a],w.F,w.b⟩ H:=by
 have lw:LeV w ⟨w.ρ++[a],w.F,w.b⟩:=⟨List.prefix_append _ _,LeL.refl _,fun _ h=>h⟩
 have split:∀ (n:Nat) (d:Cell),(S++[c])[n]?=some d→(n < S.length∧S[n]?=some d)∨(n=S.length∧d=c):=fun n d e=>by
  by_cases h:n < S.length
  ·rw [List.getElem?_append_left h] at e
   exact .inl ⟨h,e⟩
  ·rw [List.getElem?_append_right (by omega)] at e
   by_cases h2:n=S.length
   ·subst h2
    simp at e
    exact .inr ⟨rfl,e.symm⟩
   ·have:n - S.length≥1:=by omega
    rw [List.getElem?_eq_none (by simpa using this)] at e
    cases e
 have splitρ:∀ (n:Nat) (b:Addr),(w.ρ++[a])[n]?=some b→(n < S.length∧w.ρ[n]?=some b)∨(n=S.length∧b=a):=fun n b e=>by
  by_cases h:n < w.ρ.length
  ·rw [List.getElem?_append_left h] at e
   exact .inl ⟨by rw [← hr.len];exact h,e⟩
  ·rw [List.getElem?_append_right (by omega)] at e
   by_cases h2:n=w.ρ.length
   ·subst h2
    simp at e
    exact .inr ⟨hr.len,e.symm⟩
   ·have:n - w.ρ.length≥1:=by omega
    rw [List.getElem?_eq_none (by simpa using this)] at e
    cases e
 refine ⟨hr.le,by simp [hr.len],?_,fun n d e=>?_,fun n d b e f=>?_,fun n b e=>?_,fun b hb'=>by rw [List.length_append];exact Nat.le_trans (hr.bl b hb') (Nat.le_add_right _ _),fun n ws b e f=>?_,hr.lks⟩
 ·show (w.ρ++[a]).Nodup
  rw [List.nodup_append]
  exact ⟨hr.inj,by simp,fun x hx y hy=>by
   simp at hy
   subst hy
   exact fun z=>na (z ▸ hx)⟩
 ·rcases split n d e with ⟨_,h⟩ | ⟨rfl,rfl⟩
  ·refine qbX ?_ (hr.wf n d h)
   show loOf w.b S.length n≤loOf w.b (S++[c]).length n
   rw [List.length_append]
   unfold loOf
   cases w.b.o with
   | none=>exact Nat.le_add_right _ _
   | some b=>exact Nat.le_refl _
  ·refine qbX ?_ hb
   show S.length≤loOf w.b (S++[d]).length S.length
   rw [List.length_append]
   unfold loOf
   cases w.b.o with
   | none=>exact Nat.le_add_right _ _
   | some b=>exact Nat.le_max_right _ _
 ·rcases split n d e with ⟨hn,h⟩ | ⟨rfl,rfl⟩
  ·rcases splitρ n b f with ⟨_,g⟩ | ⟨z,_⟩
   ·rcases hr.cell n d b h g with h' | ⟨h1,h2⟩
    ·exact .inl h'
    ·exact .inr ⟨h1,h2.keepV lw rfl⟩
   ·omega
  ·rcases splitρ _ b f with ⟨z,_⟩ | ⟨_,rfl⟩
   ·omega
   ·exact .inr ⟨hF,hc.keepV lw rfl⟩
 ·rcases splitρ n b e with ⟨_,g⟩ | ⟨_,rfl⟩
  ·exact hr.trk n b g
  ·exact ho
 ·rcases split n _ e with ⟨hn,h⟩ | ⟨rfl,z⟩
  ·rcases splitρ n b f with ⟨_,g⟩ | ⟨z,_⟩
   ·exact (hr.tup n ws b h g).monoV lw
   ·omega
  ·rw [← z] at ht
   cases ht
theorem qg5 {c:Cell} {p:P} (h:c.view=some p):c.isT=false:=by
 cases c with
 | tup ws=>simp [Cell.view] at h
 | dead=>simp [Cell.view] at h
 | _=>rfl
theorem qcS {K:PySem.W.Frag} {own:Bool} {S1 S2:qaa} {w0 w':Wd} {H:Hp} {x r:W} {v:V} {k:Nat} (hk:w0.ρ.length=k) (hbl:∀ b,w0.b.o=some b→b≤k) (l:LeW (w0.in_ false k) w') (hr:HRel K S1 w' H) (rx:RepW K w' x v) (e:qbG own k x S1=.ok (r,S2)) :
  ∃ w'',LeW w0 w''∧HRel K S2 w'' H∧RepW K w'' r v:=by
 have lv:LeV w0 w':=Wd.in_v.trans l.v
 have hkS:k≤S1.length:=by
  rw [← hr.len,← hk]
  exact lv.1.length_le
 have out:HRel K (S1.take k) ⟨w'.ρ.take k,w'.F,w0.b⟩ H:=hr.out l.3 hbl hkS
 have lo:LeW w0 ⟨w'.ρ.take k,w'.F,w0.b⟩:=LeW.out lv (Nat.le_of_eq hk)
 unfold qbG at e
 split at e
 ·cases e
  exact ⟨_,lo,out,rx⟩
 ·rename_i n
  split at e
  ·rename_i hn
   cases e
   exact ⟨_,lo,out,RepW.cut rx (decide_eq_true hn)⟩
  ·rename_i hn
   obtain ⟨a,ha,rfl⟩:=rx
   split at e
   ·rename_i c hc
    split at e
    ·rename_i p hp
     cases own with
     | true=>
      rw [if_pos rfl] at e
      cases e
      have hl:(w'.ρ.take k).length=k:=by
       have h1:=qbt ha
       rw [List.length_take]
       omega
      rcases hr.cell n _ _ hc ha with zz | ⟨h1,h2⟩
      ·rw [qg5 hp] at zz
       cases zz
      ·have na:a∉w'.ρ.take k:=fun hm=>by
        obtain ⟨m,hm⟩:=List.mem_iff_getElem?.mp hm
        have h1:=qbt hm
        rw [List.getElem?_take_of_lt (by omega)] at hm
        have:=qc0 hr.inj hm ha
        omega
       refine ⟨_,?_,out.addC na (hr.trk n a ha) h1 (qez hp _) (h2.cut (by rw [l.3,Wd.in_lk]) (qez hp k)) (qg5 hp),a,?_,rfl⟩
       ·exact lo.trans ⟨List.prefix_append _ _,LeL.refl _,rfl⟩
       ·show (w'.ρ.take k++[a])[k]?=some a
        rw [List.getElem?_append_right (by omega),hl]
        simp
     | false=>
      rw [if_neg Bool.false_ne_true] at e
      cases e
      obtain ⟨w2,h1,h2,h3,h4⟩:=hr.frozen hc hp ha
      have t:=h1.out (w0:=w0) (n:=k) (by rw [h2.3];exact l.3) hbl (by rw [List.length_set];exact hkS)
      rw [List.take_set_of_le (Nat.le_of_not_lt hn)] at t
      exact ⟨_,LeW.out (lv.trans h2.v) (Nat.le_of_eq hk),t,h4⟩
    ·split at e
     ·rename_i hc2
      cases e
      have hl:(w'.ρ.take k).length=k:=by
       have h1:=qbt ha
       rw [List.length_take]
       omega
      rcases hr.cell n _ _ hc ha with zz | ⟨h1,h2⟩
      ·rw [hc2.2.2] at zz
       cases zz
      ·have na:a∉w'.ρ.take k:=fun hm=>by
        obtain ⟨m,hm⟩:=List.mem_iff_getElem?.mp hm
        have h1:=qbt hm
        rw [List.getElem?_take_of_lt (by omega)] at hm
        have:=qc0 hr.inj hm ha
        omega
       refine ⟨_,?_,out.addC na (hr.trk n a ha) h1 (by rw [List.length_take,Nat.min_eq_left hkS];exact hc2.2.1) (h2.cut (by rw [l.3,Wd.in_lk]) hc2.2.1) hc2.2.2,a,?_,rfl⟩
       ·exact lo.trans ⟨List.prefix_append _ _,LeL.refl _,rfl⟩
       ·show (w'.ρ.take k++[a])[k]?=some a
        rw [List.getElem?_append_right (by omega),hl]
        simp
     ·cases e
   ·cases e
def FnAt (K:PySem.W.Frag) (fa:Addr) (n np:Nat) (dfl:List P) (body:S):Prop:=
 ∃ (x qual:Str) (params:Arguments) (bd:List Stmt) (scope:Scope) (dall:List V) (kws:List (Str × V)) (fd:FuncData) (N ps:List Str) (dvs:List V),FunD K x qual params bd scope dall kws fa fd∧FnScope N ps scope∧N.length=n∧ps.length=np∧(∀ F,qab K F dfl dvs)∧
  (∀ j,j≤dvs.length→∃ ds,Vals (dvs.drop j) ds∧Binds K fd ps ds)∧chSs ⟨N,scope,fun _=>true,true⟩ body bd=true
def At (K:PySem.W.Frag) (T:Str→Option Fn) (f:Str) (fa:Addr):Prop:=match T f with
 | some (.fn n np dfl body _)=>FnAt K fa n np dfl body
 | some (.cls init)=>fa=He.ga K f∧∃ fi,Mk K fa fi∧∃ n np dfl body own,T init=some (.fn n np dfl body own)∧FnAt K fi n np dfl body
 | some (.fnK _ _ _ _)=>False
 | some (.clsK _)=>False
 | none=>True
def AtK (K:PySem.W.Frag) (T:Str→Option Fn) (f:Str) (fa:Addr):Prop:=match T f with
 | some (.fnK n np dfl body)=>FnAt K fa n np dfl body
 | some (.clsK init)=>fa=He.ga K f∧∃ fi,Mk K fa fi∧∃ n np dfl body,T init=some (.fnK n np dfl body)∧FnAt K fi n np dfl body
 | _=>False
def qnR (K:PySem.W.Frag) (fa:Addr) (n np:Nat) (dfl:List P) (body:S):Prop:=
 ∃ (x qual:Str) (params:Arguments) (bd:List Stmt) (scope:Scope) (dall:List V) (kws:List (Str × V)) (fd:FuncData) (N ps:List Str) (dvs:List V),FunD K x qual params bd scope dall kws fa fd∧FnScope N ps scope∧N.length=n∧ps.length=np∧(∀ F,qab K F dfl dvs)∧
  (∀ j,j≤dvs.length→∃ ds,Vals (dvs.drop j) ds∧Binds K fd ps ds)∧chSs ⟨N,scope,fun _=>true,false⟩ body bd=true
def AtH (K:PySem.W.Frag) (T:Str→Option Fn) (f:Str) (fa:Addr):Prop:=match T f with
 | some (.fn n np dfl body _)=>qnR K fa n np dfl body
 | _=>False
def qaN (K:PySem.W.Frag) (c:Str) (fl:List Str):Prop:=∃ (fi:Addr) (x qual:Str) (params:Arguments) (bd:List Stmt) (scope:Scope) (dall:List V) (kws:List (Str × V)) (fd:FuncData) (N ps:List Str),
 PySem.W.findIn K (.ref (He.ga K c)) "__init__"=some (some (.ref fi))∧PySem.W.typeIn K (.ref fi)=some (.type "function")∧FunD K x qual params bd scope dall kws fi fd∧FnScope N ps scope∧ps.length=fl.length + 1∧qek N scope 1 fl bd=true∧Binds K fd ps []∧(∀ (s:Shared) (u:Value) (ws:List Value),ws.length=fl.reverse.length→BindsTo s fd ⟨[u],fl.reverse.zip ws⟩ (ps.zip (u::ws.reverse)))
structure Md (w:World) (K:PySem.W.Frag) (mg:Str→Option Value) (T:Str→Option Fn) (g:Gm):Prop where
 glo:∀ x p,g.glo x=some p→∃ v u,mg x=some u∧RelV v u∧∀ F,RepP K F p v
 blt:∀ x∈qds,mg x=none
 fld:∀ c f,g.fld c f=true→Cls K (He.ga K c)∧NoAttr K (He.ga K c) f
 fn:∀ f,g.fn f=true→∃ fa,mg f=some (.ref fa)∧PySem.W.keepIn K (.ref fa)=true∧At K T f fa
 met:∀ c m,g.met c m=true→∃ fa,Cls K (He.ga K c)∧Meth K (He.ga K c) m fa∧At K T (c++"."++m) fa
 cls:∀ c,g.cls c=true→mg c=some (.ref (He.ga K c))∧KlsOk K (He.ga K c)
 fnK:∀ f,g.fnK f=true→∃ fa,mg f=some (.ref fa)∧PySem.W.keepIn K (.ref fa)=true∧AtK K T f fa
 metK:∀ c m,g.metK c m=true→∃ fa,Cls K (He.ga K c)∧Meth K (He.ga K c) m fa∧AtK K T (c++"."++m) fa
 exc:∀ c fl,g.exc c=some fl→mg c=some (.ref (He.ga K c))∧ExcF K c fl∧(fl≠[]→qaN K c fl)
 sub:∀ c x b,g.sub c x=some b→∃ cv,(mg x=some cv∨(mg x=none∧bootBuiltins x=some cv∧x≠"__name__"))∧PySem.W.exmOne K (.ref (He.ga K c)) cv=some b
 xfl:∀ c f,g.xfl c f=true→XfC K (He.ga K c)∧PySem.W.findIn K (.ref (He.ga K c)) f=some none
 hdl:∀ x,g.hdl x=true→∃ cv,mg x=some cv∨(mg x=none∧bootBuiltins x=some cv∧x≠"__name__")
 isn:∀ x,g.isn x=true→mg x=some (.ref (He.ga K x))
 isx:∀ c x b,g.isx c x=some b→PySem.W.kitOne K (.ref (He.ga K c)) (.ref (He.ga K x))=some b∧L2.ExcC K (He.ga K c)
 isd:∀ c x,g.isd c x=true→PySem.W.kitOne K (.ref (He.ga K c)) (.ref (He.ga K x))=some false
 metO:∀ c m,g.metO c m=true→∃ fa,Cls K (He.ga K c)∧Meth K (He.ga K c) m fa∧AtK K T (c++"."++m++"!") fa
 tab:∀ x kvs,g.tab x=some kvs→∃ d es n,mg x=some (.ref d)∧KDict K w d es n∧qjt K d kvs
 fnH:∀ f,g.fnH f=true→∃ fa,mg f=some (.ref fa)∧PySem.W.keepIn K (.ref fa)=true∧AtH K T f fa:=by exact fun _ z=>nomatch z
section
variable {P:Program} {w:World} {K:PySem.W.Frag} {mg:Str→Option Value} {base:Heap} {T:Str→Option Fn} {g:Gm}
theorem qdB {K:PySem.W.Frag} {kp:Bool} {w:Wd} {ws:List W} {vs:List V} {n:Nat} {N:List Str} (hN:N.length=n) (r:qaf K w ws vs) (hkb:w.b.o.isSome=!kp):EnvRel K kp w (qaM n ws) (start N vs):=by
 have hl:=Paired.length r
 refine ⟨by unfold qaM L2.start;simp only [List.length_append,List.length_map,List.length_replicate];omega,fun i x e=>?_,hkb⟩
 unfold qaM at e
 unfold L2.start
 by_cases h:i < ws.length
 ·rw [List.getElem?_append_left (by simpa using h),List.getElem?_map] at e
  cases hx:ws[i]? with
  | none=>rw [hx] at e;cases e
  | some y=>
   rw [hx] at e
   cases e
   obtain ⟨v,hv,rv⟩:=qdM r hx
   refine ⟨v,?_,rv⟩
   rw [List.getElem?_append_left (by simpa [← hl] using h),List.getElem?_map,hv]
   rfl
 ·rw [List.getElem?_append_right (by simpa using h),List.getElem?_replicate] at e
  split at e <;> cases e
theorem qm8 (M:Md w K mg T g) {d:Nat} (ih:∀ f fa,At K T f fa→qej P w K mg base (d + 2) fa ⟨callF T g d,g,false⟩ f) (ihK:∀ f fa,AtK K T f fa→qcm P w K mg base (d + 2) fa ⟨callF T g d,g,false⟩ f) (ihH:∀ f fa,AtH K T f fa→qet P w K mg base (d + 2) fa ⟨callF T g d,g,false⟩ f) {f:Str} {fa:Addr} {n np:Nat} {dfl:List LS.P} {body:S} {own:Bool} (hT:T f=some (.fn n np dfl body own)) (h:FnAt K fa n np dfl body) :
  FnG P w K mg base (d + 3) fa (rFn K ⟨callF T g (d + 1),g,false⟩ f):=by
 obtain ⟨x,qual,params,bd,scope,dall,kws,fd,N,ps,dvs,F,S,hN,hps,hdf,hbind,hch⟩:=h
 refine qiA F S fun cdv A outer s H vs Q η hr hg hsp=>?_
 obtain ⟨w0,S0,ws,hr0,rs,q⟩:=hsp
 have q':RdF K η (RepW K) w0 (callF T g (d + 1) f ws S0) Q:=q
 unfold callF at q'
 rw [hT] at q'
 simp only at q'
 cases hf:qea np dfl ws with
 | none=>
  rw [hf] at q'
  exact q'.elim
 | some args=>
  rw [hf] at q'
  simp only at q'
  unfold qea at hf
  split at hf
  ·rename_i hle
   cases hf
   have hl:=Paired.length rs
   have hdl:dfl.length=dvs.length:=(hdf w0.F).len
   obtain ⟨ds,rz,hb⟩:=hbind (ws.length + dfl.length - np) (by omega)
   have rfull:qaf K w0 (ws++(dfl.drop (ws.length + dfl.length - np)).map .v) (vs++dvs.drop (ws.length + dfl.length - np)):=qbr rs (qbD (qab.drop _ (hdf w0.F)))
   have hst:EnvRel K false (w0.in_ false S0.length) (qaM n (ws++(dfl.drop (ws.length + dfl.length - np)).map .v)) (start N (vs++dvs.drop (ws.length + dfl.length - np))):=qdB hN (qaf.monoV Wd.in_v rfull) rfl
   refine ⟨_,ds,tSm (cxOf (L2.CX P w) P w K mg base N qual scope fa cdv A outer s H η) ⟨callF T g d,g,false⟩ body,rz,hb,?_,?_,w0.in_ false S0.length,qaM n (ws++(dfl.drop (ws.length + dfl.length - np)).map W.v),S0,hr0.in_ false,hst,?_⟩
   ·rw [List.length_append,List.length_drop,hps]
    omega
   ·refine (qeF ⟨callF T g d,g,false⟩ (d + 2) body).ss (X:=cxOf (L2.CX P w) P w K mg base N qual scope fa cdv A outer s H η) (ct:=⟨N,scope,fun _=>true,true⟩) ?_ qkm hch
    exact ⟨fun _=>rfl,rfl,S.nd,rfl,rfl,fun _=>hr,hr.un,hg,M.glo,M.blt,M.fld,fun f hf=>by
     obtain ⟨fa,h1,h2,h3⟩:=M.fn f hf
     exact ⟨fa,h1,h2,ih f fa h3⟩,fun c m hm=>by
     obtain ⟨fa,h1,h2,h3⟩:=M.met c m hm
     exact ⟨fa,h1,h2,ih _ fa h3⟩,M.cls,fun f hf=>by
     obtain ⟨fa,h1,h2,h3⟩:=M.fnK f hf
     exact ⟨fa,h1,h2,ihK f fa h3⟩,fun c m hm=>by
     obtain ⟨fa,h1,h2,h3⟩:=M.metK c m hm
     exact ⟨fa,h1,h2,ihK _ fa h3⟩,fun c fl hc=>by
     obtain ⟨h1,h2,h3⟩:=M.exc c fl hc
     refine ⟨h1,h2,fun ne=>?_⟩
     obtain ⟨fi,x,qual,params,bd,scope,dall,kws,fd,N,ps,i1,i2,i3,i4,i5,i6,i7,i8⟩:=h3 ne
     exact ⟨fi,i1,i2,fun k'=>⟨qgB i3 i4 i5 ne h2.few i6 i7 (h2.init ne) h2.ns,qe4 i3 i4 i5 ne h2.few i6 i8 (h2.init ne) h2.ns⟩⟩,M.sub,M.xfl,M.hdl,M.isn,M.isx,M.isd,fun c m hm=>by
     obtain ⟨fa,h1,h2,h3⟩:=M.metO c m hm
     exact ⟨fa,h1,h2,ihK _ fa h3⟩,M.tab,fun f hf=>by
     obtain ⟨fa,h1,h2,h3⟩:=M.fnH f hf
     exact ⟨fa,h1,h2,ihH f fa h3⟩,hr.dp,by omega⟩
   ·cases hx:exS ⟨callF T g d,g,false⟩ body (qaM n (ws++(dfl.drop (ws.length + dfl.length - np)).map .v)) S0 with
    | nx env S1=>
     rw [hx] at q'
     intro w' σ' H' lw hr' he'
     obtain ⟨⟨r,S2⟩,e2⟩:=q'.pure_ok qfM
     have q2:=q'
     rw [e2] at q2
     obtain ⟨w'',l1,l2,l3⟩:=qcS (x:=.v .non) (v:=.non) hr0.len hr0.bl lw hr' (show RepP K w'.F .non .non from qe8) e2
     exact q2 w'' _ _ l1 l2 l3
    | ret x S1=>
     rw [hx] at q'
     intro w' v H' lw hr' rx
     obtain ⟨⟨r,S2⟩,e2⟩:=q'.pure_ok qfM
     have q2:=q'
     rw [e2] at q2
     obtain ⟨w'',l1,l2,l3⟩:=qcS hr0.len hr0.bl lw hr' rx e2
     exact q2 w'' _ _ l1 l2 l3
    | bk e S1=>
     rw [hx] at q'
     exact q'.elim
    | ct e S1=>
     rw [hx] at q'
     exact q'.elim
    | ex c fs env S1=>
     rw [hx] at q'
     refine ⟨fun cls d _ H=>η cls d H,takes_of rfl rfl rfl rfl,fun w' σ' H' d lw hr' he' ex=>?_⟩
     have lv:LeV w0 w':=Wd.in_v.trans lw.v
     exact q' ⟨w'.ρ.take S0.length,w'.F,w0.b⟩ H' d (LeW.out lv (Nat.le_of_eq hr0.len)) (hr'.out lw.3 hr0.bl (by rw [← hr'.len,← hr0.len];exact lv.1.length_le)) ex
    | no=>
     rw [hx] at q'
     exact q'.elim
  ·cases hf
theorem qlA (M:Md w K mg T g) {d:Nat} (ih:∀ f fa,At K T f fa→qej P w K mg base (d + 2) fa ⟨callF T g d,g,false⟩ f) (ihK:∀ f fa,AtK K T f fa→qcm P w K mg base (d + 2) fa ⟨callF T g d,g,false⟩ f) (ihH:∀ f fa,AtH K T f fa→qet P w K mg base (d + 2) fa ⟨callF T g d,g,false⟩ f) {f:Str} {fa:Addr} {n np:Nat} {dfl:List LS.P} {body:S} (hT:T f=some (.fnK n np dfl body)) (h:FnAt K fa n np dfl body) :
  FnG P w K mg base (d + 3) fa (rFnK K ⟨callF T g (d + 1),g,false⟩ f):=by
 obtain ⟨x,qual,params,bd,scope,dall,kws,fd,N,ps,dvs,F,S,hN,hps,hdf,hbind,hch⟩:=h
 refine qiA F S fun cdv A outer s H vs Q η hr hg hsp=>?_
 obtain ⟨w0,S0,ws,hb0,hr0,rs,q⟩:=hsp
 have q':RdF K η (RepW K) w0 (callF T g (d + 1) f ws S0) Q:=q
 unfold callF at q'
 rw [hT] at q'
 simp only at q'
 cases hf:qea np dfl ws with
 | none=>
  rw [hf] at q'
  exact q'.elim
 | some args=>
  rw [hf] at q'
  simp only at q'
  unfold qea at hf
  split at hf
  ·rename_i hle
   cases hf
   have hl:=Paired.length rs
   have hdl:dfl.length=dvs.length:=(hdf w0.F).len
   obtain ⟨ds,rz,hb⟩:=hbind (ws.length + dfl.length - np) (by omega)
   have rfull:qaf K w0 (ws++(dfl.drop (ws.length + dfl.length - np)).map .v) (vs++dvs.drop (ws.length + dfl.length - np)):=qbr rs (qbD (qab.drop _ (hdf w0.F)))
   have hst:EnvRel K true w0 (qaM n (ws++(dfl.drop (ws.length + dfl.length - np)).map .v)) (start N (vs++dvs.drop (ws.length + dfl.length - np))):=qdB hN rfull (by rw [hb0];rfl)
   refine ⟨_,ds,tSm (cxOf (L2.CX P w) P w K mg base N qual scope fa cdv A outer s H η) ⟨callF T g d,g,true⟩ body,rz,hb,?_,?_,w0,qaM n (ws++(dfl.drop (ws.length + dfl.length - np)).map W.v),S0,hr0,hst,?_⟩
   ·rw [List.length_append,List.length_drop,hps]
    omega
   ·refine (qeF ⟨callF T g d,g,true⟩ (d + 2) body).ss (X:=cxOf (L2.CX P w) P w K mg base N qual scope fa cdv A outer s H η) (ct:=⟨N,scope,fun _=>true,true⟩) ?_ qkm hch
    exact ⟨fun _=>rfl,rfl,S.nd,rfl,rfl,fun _=>hr,hr.un,hg,M.glo,M.blt,M.fld,fun f hf=>by
     obtain ⟨fa,h1,h2,h3⟩:=M.fn f hf
     exact ⟨fa,h1,h2,ih f fa h3⟩,fun c m hm=>by
     obtain ⟨fa,h1,h2,h3⟩:=M.met c m hm
     exact ⟨fa,h1,h2,ih _ fa h3⟩,M.cls,fun f hf=>by
     obtain ⟨fa,h1,h2,h3⟩:=M.fnK f hf
     exact ⟨fa,h1,h2,ihK f fa h3⟩,fun c m hm=>by
     obtain ⟨fa,h1,h2,h3⟩:=M.metK c m hm
     exact ⟨fa,h1,h2,ihK _ fa h3⟩,fun c fl hc=>by
     obtain ⟨h1,h2,h3⟩:=M.exc c fl hc
     refine ⟨h1,h2,fun ne=>?_⟩
     obtain ⟨fi,x,qual,params,bd,scope,dall,kws,fd,N,ps,i1,i2,i3,i4,i5,i6,i7,i8⟩:=h3 ne
     exact ⟨fi,i1,i2,fun k'=>⟨qgB i3 i4 i5 ne h2.few i6 i7 (h2.init ne) h2.ns,qe4 i3 i4 i5 ne h2.few i6 i8 (h2.init ne) h2.ns⟩⟩,M.sub,M.xfl,M.hdl,M.isn,M.isx,M.isd,fun c m hm=>by
     obtain ⟨fa,h1,h2,h3⟩:=M.metO c m hm
     exact ⟨fa,h1,h2,ihK _ fa h3⟩,M.tab,fun f hf=>by
     obtain ⟨fa,h1,h2,h3⟩:=M.fnH f hf
     exact ⟨fa,h1,h2,ihH f fa h3⟩,hr.dp,by omega⟩
   ·cases hx:exS ⟨callF T g d,g,true⟩ body (qaM n (ws++(dfl.drop (ws.length + dfl.length - np)).map .v)) S0 with
    | nx env S1=>
     rw [hx] at q'
     intro w' σ' H' lw hr' he'
     exact q' w' _ _ lw hr' (show RepP K w'.F .non .non from qe8)
    | ret x S1=>
     rw [hx] at q'
     intro w' v H' lw hr' rx
     exact q' w' _ _ lw hr' rx
    | bk e S1=>
     rw [hx] at q'
     exact q'.elim
    | ct e S1=>
     rw [hx] at q'
     exact q'.elim
    | ex c fs env S1=>
     rw [hx] at q'
     refine ⟨fun cls d _ H=>η cls d H,takes_of rfl rfl rfl rfl,fun w' σ' H' d lw hr' he' ex=>?_⟩
     exact q' w' H' d lw hr' ex
    | no=>
     rw [hx] at q'
     exact q'.elim
  ·cases hf
theorem qkN (M:Md w K mg T g) {d:Nat} (ih:∀ f fa,At K T f fa→qej P w K mg base (d + 2) fa ⟨callF T g d,g,false⟩ f) (ihK:∀ f fa,AtK K T f fa→qcm P w K mg base (d + 2) fa ⟨callF T g d,g,false⟩ f) (ihH:∀ f fa,AtH K T f fa→qet P w K mg base (d + 2) fa ⟨callF T g d,g,false⟩ f) {f:Str} {fa:Addr} {n np:Nat} {dfl:List LS.P} {body:S} {own:Bool} (hT:T f=some (.fn n np dfl body own)) (h:qnR K fa n np dfl body) :
  FnGH P w K mg base (d + 3) fa (rFnH K ⟨callF T g (d + 1),g,false⟩ f):=by
 obtain ⟨x,qual,params,bd,scope,dall,kws,fd,N,ps,dvs,F,S,hN,hps,hdf,hbind,hch⟩:=h
 refine qlK F S fun cdv A outer s H vs Q hdp hun hg hsp=>?_
 obtain ⟨w0,S0,ws,hr0,rs,q⟩:=hsp
 have q':RdH K (RepW K) w0 (callF T g (d + 1) f ws S0) Q:=q
 unfold callF at q'
 rw [hT] at q'
 simp only at q'
 cases hf:qea np dfl ws with
 | none=>
  rw [hf] at q'
  exact q'.elim
 | some args=>
  rw [hf] at q'
  simp only at q'
  unfold qea at hf
  split at hf
  ·rename_i hle
   cases hf
   have hl:=Paired.length rs
   have hdl:dfl.length=dvs.length:=(hdf w0.F).len
   obtain ⟨ds,rz,hb⟩:=hbind (ws.length + dfl.length - np) (by omega)
   have rfull:qaf K w0 (ws++(dfl.drop (ws.length + dfl.length - np)).map .v) (vs++dvs.drop (ws.length + dfl.length - np)):=qbr rs (qbD (qab.drop _ (hdf w0.F)))
   have hst:EnvRel K false (w0.in_ false S0.length) (qaM n (ws++(dfl.drop (ws.length + dfl.length - np)).map .v)) (start N (vs++dvs.drop (ws.length + dfl.length - np))):=qdB hN (qaf.monoV Wd.in_v rfull) rfl
   refine ⟨_,ds,tSm (cxN (L2.CX P w) P w K mg base N qual scope fa cdv A outer s H fun _ _ _=>False) ⟨callF T g d,g,false⟩ body,rz,hb,?_,?_,w0.in_ false S0.length,qaM n (ws++(dfl.drop (ws.length + dfl.length - np)).map W.v),S0,hr0.in_ false,hst,?_⟩
   ·rw [List.length_append,List.length_drop,hps]
    omega
   ·refine (qeF ⟨callF T g d,g,false⟩ (d + 2) body).ss (X:=cxN (L2.CX P w) P w K mg base N qual scope fa cdv A outer s H fun _ _ _=>False) (ct:=⟨N,scope,fun _=>true,false⟩) ?_ ⟨PassesOwn.leaving,rfl,rfl,rfl⟩ hch
    exact ⟨fun z=>(nomatch z),rfl,S.nd,rfl,rfl,fun z=>(nomatch z),hun,hg,M.glo,M.blt,M.fld,fun f hf=>by
     obtain ⟨fa,h1,h2,h3⟩:=M.fn f hf
     exact ⟨fa,h1,h2,ih f fa h3⟩,fun c m hm=>by
     obtain ⟨fa,h1,h2,h3⟩:=M.met c m hm
     exact ⟨fa,h1,h2,ih _ fa h3⟩,M.cls,fun f hf=>by
     obtain ⟨fa,h1,h2,h3⟩:=M.fnK f hf
     exact ⟨fa,h1,h2,ihK f fa h3⟩,fun c m hm=>by
     obtain ⟨fa,h1,h2,h3⟩:=M.metK c m hm
     exact ⟨fa,h1,h2,ihK _ fa h3⟩,fun c fl hc=>by
     obtain ⟨h1,h2,h3⟩:=M.exc c fl hc
     refine ⟨h1,h2,fun ne=>?_⟩
     obtain ⟨fi,x,qual,params,bd,scope,dall,kws,fd,N,ps,i1,i2,i3,i4,i5,i6,i7,i8⟩:=h3 ne
     exact ⟨fi,i1,i2,fun k'=>⟨qgB i3 i4 i5 ne h2.few i6 i7 (h2.init ne) h2.ns,qe4 i3 i4 i5 ne h2.few i6 i8 (h2.init ne) h2.ns⟩⟩,M.sub,M.xfl,M.hdl,M.isn,M.isx,M.isd,fun c m hm=>by
     obtain ⟨fa,h1,h2,h3⟩:=M.metO c m hm
     exact ⟨fa,h1,h2,ihK _ fa h3⟩,M.tab,fun f hf=>by
     obtain ⟨fa,h1,h2,h3⟩:=M.fnH f hf
     exact ⟨fa,h1,h2,ihH f fa h3⟩,hdp,by omega⟩
   ·cases hx:exS ⟨callF T g d,g,false⟩ body (qaM n (ws++(dfl.drop (ws.length + dfl.length - np)).map .v)) S0 with
    | nx env S1=>
     rw [hx] at q'
     intro w' σ' H' lw hr' he'
     cases e2:qbG own S0.length (.v .non) S1 with
     | ok q0=>
      obtain ⟨r,S2⟩:=q0
      have q2:=q'
      simp only [e2] at q2
      obtain ⟨w'',l1,l2,l3⟩:=qcS (x:=.v .non) (v:=.non) hr0.len hr0.bl lw hr' (show RepP K w'.F .non .non from qe8) e2
      exact q2 w'' _ _ l1 l2 l3
     | ex _ _ _=>
      simp only [e2] at q'
      exact q'.elim
     | no=>
      simp only [e2] at q'
      exact q'.elim
    | ret x S1=>
     rw [hx] at q'
     intro w' v H' lw hr' rx
     cases e2:qbG own S0.length x S1 with
     | ok q0=>
      obtain ⟨r,S2⟩:=q0
      have q2:=q'
      simp only [e2] at q2
      obtain ⟨w'',l1,l2,l3⟩:=qcS hr0.len hr0.bl lw hr' rx e2
      exact q2 w'' _ _ l1 l2 l3
     | ex _ _ _=>
      simp only [e2] at q'
      exact q'.elim
     | no=>
      simp only [e2] at q'
      exact q'.elim
    | bk e S1=>
     rw [hx] at q'
     exact q'.elim
    | ct e S1=>
     rw [hx] at q'
     exact q'.elim
    | ex c fs env S1=>
     rw [hx] at q'
     exact q'.elim
    | no=>
     rw [hx] at q'
     exact q'.elim
  ·cases hf
theorem HRel.grow {K:PySem.W.Frag} {S:qaa} {w:Wd} {H:Hp} {p:Addr} {o:HO} (hr:HRel K S w H) (hp:H p=none):HRel K S w (upd H p o):=by
 refine ⟨hr.le.right (hr.le.noneOf hp),hr.len,hr.inj,hr.wf,fun n c a e f=>?_,fun n a e=>?_,hr.bl,hr.tup,hr.lkU (qiw hp)⟩
 ·obtain ⟨o',ho⟩:=hr.trk n a f
  rcases hr.cell n c a e f with h | ⟨h1,h2⟩
  ·exact .inl h
  ·exact .inr ⟨h1,h2.keep (LeW.refl _) (upd_ne (ne_of_none ho hp))⟩
 ·obtain ⟨o',ho⟩:=hr.trk n a e
  exact ⟨o',by rw [upd_ne (ne_of_none ho hp)];exact ho⟩
theorem qjL {f init:Str} {Ca fi:Addr} {d:Nat} (hT:T f=some (.cls init)) (hC:Ca=He.ga K f) (M:Mk K Ca fi) (F:FnG P w K mg base (d + 2) fi (rFn K ⟨callF T g d,g,false⟩ init)):qej P w K mg base (d + 3) Ca ⟨callF T g (d + 1),g,false⟩ f:=by
 intro X h1 h2 h3 h4 h5 hr hg
 subst h1 h2 h3 h4 h5
 intro pins s σ H vs us Q I r h
 obtain ⟨w0,S0,ws,hr0,rs,q⟩:=h
 obtain ⟨η,tk,q⟩:=q.toF
 have I2:=Inv.made (C:=Ca) I
 have hx0:H (s.heap.objs.size + 1)=none:=I.hok.fresh (Nat.le_succ _)
 have hd0:H s.heap.objs.size=none:=I.hok.fresh (Nat.le_refl _)
 have ne:s.heap.objs.size + 1≠s.heap.objs.size:=Nat.ne_of_gt (Nat.lt_succ_self _)
 have hg1:upd H s.heap.objs.size (.own (s.heap.objs.size + 1)) (s.heap.objs.size + 1)=none:=by
  rw [upd_ne ne]
  exact hx0
 obtain ⟨hr1,lw⟩:=((hr0.in_ false).grow (o:=.own (s.heap.objs.size + 1)) hd0).newC (o:=.ins Ca s.heap.objs.size []) (c:=.ins f []) hg1 rfl ⟨s.heap.objs.size,[],by rw [upd_same,hC],.nil⟩
 have hpD:(⟨(w0.in_ false S0.length).ρ++[s.heap.objs.size + 1],(w0.in_ false S0.length).F,(w0.in_ false S0.length).b⟩:Wd).ρ[S0.length]?=some (s.heap.objs.size + 1):=by
  show (w0.ρ++[s.heap.objs.size + 1])[S0.length]?=_
  rw [← hr0.len]
  simp
 have q':RdF X.K η (RepW X.K) w0 (callF T g (d + 1) f ws S0) Q:=q
 unfold callF at q'
 rw [hT] at q'
 simp only at q'
 have hin:rFn X.K ⟨callF T g d,g,false⟩ init (.ref (s.heap.objs.size + 1)::vs) (upd (upd H s.heap.objs.size (.own (s.heap.objs.size + 1))) (s.heap.objs.size + 1) (.ins Ca s.heap.objs.size [])) (fun v H2=>v=.non∧Q (.ref (s.heap.objs.size + 1)) H2) η:=by
  refine ⟨_,S0++[.ins f []],.c S0.length::ws,hr1,.cons ⟨_,hpD,rfl⟩ (qaf.monoV (Wd.in_v.trans lw.v) rs),?_⟩
  show RdF X.K η (RepW X.K) _ (callF T g d init (.c S0.length::ws) (S0++[.ins f []])) _
  cases hx:callF T g d init (.c S0.length::ws) (S0++[.ins f []]) with
  | ex c fs S1=>
   rw [hx] at q'
   intro w' H' dd l2 hr' ex
   have lv:LeV w0 w':=Wd.in_v.trans (lw.trans l2).v
   exact q' ⟨w'.ρ.take S0.length,w'.F,w0.b⟩ H' dd (LeW.out lv (Nat.le_of_eq hr0.len)) (hr'.out (lw.trans l2).3 hr0.bl (by rw [← hr'.len,← hr0.len];exact lv.1.length_le)) ex
  | no=>
   rw [hx] at q'
   exact q'.elim
  | ok q0=>
   rw [hx] at q'
   obtain ⟨x0,S1⟩:=q0
   split at q'
   ·rename_i z
    cases z
    intro w' v H' l2 hr' rv
    have rv':RepP X.K w'.F .non v:=rv
    unfold RepP at rv'
    obtain ⟨⟨xx,S3⟩,e3⟩:=q'.pure_ok qcV
    rw [e3] at q'
    obtain ⟨w3,l3,hr3,r3⟩:=qdW (w0:=w0) hr' (qbC l2 hpD) (Wd.in_v.trans (lw.trans l2).v) (lw.trans l2).3 hr0.bl (Nat.le_of_eq hr0.len) (fun z=>nomatch z) e3
    exact ⟨rv',q' w3 _ _ l3 hr3 r3⟩
   ·exact q'.elim
   ·rename_i z
    cases z
   ·rename_i z
    cases z
 refine wpAny_call (make_map (f:=fi) I.kIn M.makes M.init (beq_iff_eq.mp M.fn) (codeAny_mono (F _ X.stack _ _ (Value.ref (s.heap.objs.size + 1)::us) (.ref (s.heap.objs.size + 1)::vs) _ η (hr.make Ca us []).lo (qcn hg)
  (I2.env0.make Ca us []) (.cons rfl r) hin) fun r s' hq'=>?_))
 cases r with
 | error e=>exact tk e s' (XE.of_call I2 (fun _ _ _ h=>⟨rfl,h⟩) hq')
 | ok fl=>
  cases fl with
  | ret u=>
   obtain ⟨v,H',I3,rv,ev,q3⟩:=I2.after hq'
   subst ev
   exact ⟨rv,⟨V.ref (s.heap.objs.size + 1),H',I3,rfl,q3⟩⟩
  | next=>exact False.elim hq'
  | brk=>exact False.elim hq'
  | cont=>exact False.elim hq'
theorem qiN {f init:Str} {Ca fi:Addr} {d:Nat} (hT:T f=some (.clsK init)) (hC:Ca=He.ga K f) (M:Mk K Ca fi) (F:FnG P w K mg base (d + 2) fi (rFnK K ⟨callF T g d,g,false⟩ init)):qcm P w K mg base (d + 3) Ca ⟨callF T g (d + 1),g,false⟩ f:=by
 intro X h1 h2 h3 h4 h5 hr hg
 subst h1 h2 h3 h4 h5
 intro pins s σ H vs us Q I r h
 obtain ⟨w0,S0,ws,hb0,hr0,rs,q⟩:=h
 obtain ⟨η,tk,q⟩:=q.toF
 have I2:=Inv.made (C:=Ca) I
 have hx0:H (s.heap.objs.size + 1)=none:=I.hok.fresh (Nat.le_succ _)
 have hd0:H s.heap.objs.size=none:=I.hok.fresh (Nat.le_refl _)
 have ne:s.heap.objs.size + 1≠s.heap.objs.size:=Nat.ne_of_gt (Nat.lt_succ_self _)
 have hg1:upd H s.heap.objs.size (.own (s.heap.objs.size + 1)) (s.heap.objs.size + 1)=none:=by
  rw [upd_ne ne]
  exact hx0
 obtain ⟨hr1,lw⟩:=(hr0.grow (o:=.own (s.heap.objs.size + 1)) hd0).newC (o:=.ins Ca s.heap.objs.size []) (c:=.ins f []) hg1 rfl ⟨s.heap.objs.size,[],by rw [upd_same,hC],.nil⟩
 have hpD:(⟨w0.ρ++[s.heap.objs.size + 1],w0.F,w0.b⟩:Wd).ρ[S0.length]?=some (s.heap.objs.size + 1):=by
  show (w0.ρ++[s.heap.objs.size + 1])[S0.length]?=_
  rw [← hr0.len]
  simp
 have q':RdF X.K η (RepW X.K) w0 (callF T g (d + 1) f ws S0) Q:=q
 unfold callF at q'
 rw [hT] at q'
 simp only at q'
 have hin:rFnK X.K ⟨callF T g d,g,false⟩ init (.ref (s.heap.objs.size + 1)::vs) (upd (upd H s.heap.objs.size (.own (s.heap.objs.size + 1))) (s.heap.objs.size + 1) (.ins Ca s.heap.objs.size [])) (fun v H2=>v=.non∧Q (.ref (s.heap.objs.size + 1)) H2) η:=by
  refine ⟨⟨w0.ρ++[s.heap.objs.size + 1],w0.F,w0.b⟩,S0++[.ins f []],.c S0.length::ws,hb0,hr1,.cons ⟨_,hpD,rfl⟩ (qaf.mono lw rs),?_⟩
  show RdF X.K η (RepW X.K) _ (callF T g d init (.c S0.length::ws) (S0++[.ins f []])) _
  cases hx:callF T g d init (.c S0.length::ws) (S0++[.ins f []]) with
  | ex c fs S1=>
   rw [hx] at q'
   intro w' H' dd l2 hr' ex
   exact q' w' H' dd (lw.trans l2) hr' ex
  | no=>
   rw [hx] at q'
   exact q'.elim
  | ok q0=>
   rw [hx] at q'
   obtain ⟨x0,S1⟩:=q0
   split at q'
   ·rename_i z
    cases z
    intro w' v H' l2 hr' rv
    have rv':RepP X.K w'.F .non v:=rv
    unfold RepP at rv'
    exact ⟨rv',q' w' _ _ (lw.trans l2) hr' ⟨_,qbC l2 hpD,rfl⟩⟩
   ·exact q'.elim
   ·rename_i z
    cases z
   ·rename_i z
    cases z
 refine wpAny_call (make_map (f:=fi) I.kIn M.makes M.init (beq_iff_eq.mp M.fn) (codeAny_mono (F _ X.stack _ _ (Value.ref (s.heap.objs.size + 1)::us) (.ref (s.heap.objs.size + 1)::vs) _ η (hr.make Ca us []).lo (qcn hg)
  (I2.env0.make Ca us []) (.cons rfl r) hin) fun r s' hq'=>?_))
 cases r with
 | error e=>exact tk e s' (XE.of_call I2 (fun _ _ _ h=>⟨rfl,h⟩) hq')
 | ok fl=>
  cases fl with
  | ret u=>
   obtain ⟨v,H',I3,rv,ev,q3⟩:=I2.after hq'
   subst ev
   exact ⟨rv,⟨V.ref (s.heap.objs.size + 1),H',I3,rfl,q3⟩⟩
  | next=>exact False.elim hq'
  | brk=>exact False.elim hq'
  | cont=>exact False.elim hq'
theorem qj2 (M:Md w K mg T g):∀ (d:Nat),((∀ f fa,At K T f fa→qej P w K mg base (d + 2) fa ⟨callF T g d,g,false⟩ f)∧(∀ f fa n np dfl body own,T f=some (.fn n np dfl body own)→FnAt K fa n np dfl body→FnG P w K mg base (d + 2) fa (rFn K ⟨callF T g d,g,false⟩ f)))∧
  (∀ f fa,AtK K T f fa→qcm P w K mg base (d + 2) fa ⟨callF T g d,g,false⟩ f)∧(∀ f fa n np dfl body,T f=some (.fnK n np dfl body)→FnAt K fa n np dfl body→FnG P w K mg base (d + 2) fa (rFnK K ⟨callF T g d,g,false⟩ f))∧
  (∀ f fa,AtH K T f fa→qet P w K mg base (d + 2) fa ⟨callF T g d,g,false⟩ f)
 | 0=>by
  have no:∀ {f vs H Q η},¬ rFn K ⟨callF T g 0,g,false⟩ f vs H Q η:=fun {f vs H Q η} ⟨w0,S0,ws,_,_,q⟩=>by
   have q':RdF K η (RepW K) w0 (callF T g 0 f ws S0) Q:=q
   unfold callF at q'
   exact q'
  have noK:∀ {f vs H Q η},¬ rFnK K ⟨callF T g 0,g,false⟩ f vs H Q η:=fun {f vs H Q η} ⟨w0,S0,ws,_,_,_,q⟩=>by
   have q':RdF K η (RepW K) w0 (callF T g 0 f ws S0) Q:=q
   unfold callF at q'
   exact q'
  refine ⟨⟨fun f fa _ X _ _ hK _ _ _ _=>fun pins s σ H vs us Q I r h=>?_,fun f fa n np dfl body own _ _=>fun A outer s H us vs Q η _ _ _ _ h=>(no h).elim⟩,fun f fa _ X _ _ hK _ _ _ _=>fun pins s σ H vs us Q I r h=>?_,fun f fa n np dfl body _ _=>fun A outer s H us vs Q η _ _ _ _ h=>(noK h).elim,fun f fa _ X _ _ hK _ _ _ _=>fun pins s σ H vs us Q I r h=>?_⟩
  ·obtain ⟨η,_,h⟩:=h.toF
   subst hK
   exact (no h).elim
  ·obtain ⟨η,_,h⟩:=h.toF
   subst hK
   exact (noK h).elim
  ·obtain ⟨w0,S0,ws,_,_,q⟩:=h
   have q':RdH X.K (RepW X.K) w0 (callF T g 0 f ws S0) Q:=q
   unfold callF at q'
   exact q'.elim
 | d + 1=>by
  obtain ⟨⟨ih1,ih2⟩,ih3,ih4,ih5⟩:=qj2 M d
  have fns:∀ f fa n np dfl body own,T f=some (.fn n np dfl body own)→FnAt K fa n np dfl body→FnG P w K mg base (d + 3) fa (rFn K ⟨callF T g (d + 1),g,false⟩ f):=fun f fa n np dfl body own hT h=>qm8 M ih1 ih3 ih5 hT h
  have fnsK:∀ f fa n np dfl body,T f=some (.fnK n np dfl body)→FnAt K fa n np dfl body→FnG P w K mg base (d + 3) fa (rFnK K ⟨callF T g (d + 1),g,false⟩ f):=fun f fa n np dfl body hT h=>qlA M ih1 ih3 ih5 hT h
  refine ⟨⟨fun f fa h=>?_,fns⟩,fun f fa h=>?_,fnsK,fun f fa h=>?_⟩
  ·unfold At at h
   split at h
   ·rename_i n np dfl body own hT
    exact (fns f fa n np dfl body own hT h).callG
   ·rename_i init hT
    obtain ⟨hC,fi,M1,n,np,dfl,body,own,hi,hF⟩:=h
    exact qjL hT hC M1 (ih2 init fi n np dfl body own hi hF)
   ·exact h.elim
   ·exact h.elim
   ·rename_i hT
    intro X _ _ _ _ _ _ _ pins s σ H vs us Q I r h
    obtain ⟨η,_,w0,S0,ws,hr0,rs,q⟩:=h.toF
    have q':RdF X.K η (RepW X.K) w0 (callF T g (d + 1) f ws S0) Q:=q
    unfold callF at q'
    rw [hT] at q'
    exact q'.elim
  ·unfold AtK at h
   split at h
   ·rename_i n np dfl body hT
    exact (fnsK f fa n np dfl body hT h).callGK
   ·rename_i init hT
    obtain ⟨hC,fi,M1,n,np,dfl,body,hi,hF⟩:=h
    exact qiN hT hC M1 (ih4 init fi n np dfl body hi hF)
   ·exact h.elim
  ·unfold AtH at h
   split at h
   ·rename_i n np dfl body own hT
    exact (qkN M ih1 ih3 ih5 hT h).callGH
   ·exact h.elim
end
end LS
namespace LS
open PySem PySem.Spec PyProof.Rows L2
structure Lone (K:PySem.W.Frag) (h:Heap) (a:Addr) (ob:Obj) (xs:List V) (H:Hp):Prop where
 only:∀ b,H b=none∨(b=a∧H b=some (.frz ob (.lst xs))∧K.lookup a=none)
 sq:SqL K H a xs
theorem qkR {K:PySem.W.Frag} {h:Heap} (KX:K.In h) {a:Addr} {vs:List Value} {xs:List V} (ha:h.get? a=some { cls:=.type "list",data:=.seq vs.toArray }) (r:Vals xs vs) (hl:xs.length≤sizeLine) :
  ∃ H,Lone K h a { cls:=.type "list",data:=.seq vs.toArray } xs H:=by
 by_cases hk:K.lookup a=none
 ·refine ⟨fun b=>if b=a then some (.frz { cls:=.type "list",data:=.seq vs.toArray } (.lst xs)) else none,fun b=>?_,.inl (.inr ⟨_,if_pos rfl⟩)⟩
  by_cases hb:b=a
  ·exact .inr ⟨hb,if_pos hb,hk⟩
  ·exact .inl (if_neg hb)
 ·refine ⟨fun _=>none,fun b=>.inl rfl,?_⟩
  cases e:K.lookup a with
  | none=>exact absurd e hk
  | some o=>
   have e2:=KX a o e
   rw [ha] at e2
   cases e2
   exact .inr ⟨_,vs.toArray,_,e,rfl,rfl,rfl,by rw [List.size_toArray,← r.length];exact hl,by simpa using r⟩
theorem qiy {P:Program} {w:World} {K:PySem.W.Frag} {mg mb:Str→Option Value} {k:Nat} {fa a:Addr} {sp:List V→Hp→VK→XK→Prop} {s₁:Shared} {vs:List Value} {ns:List Int}
  (KX:K.In s₁.heap) (hns:s₁.heap.Ns mainGlobals mg) (hb:s₁.heap.Ns builtinsNs mb) (hbb:∀ x:Str,x≠"__name__"→mb x=bootBuiltins x) (hlim:s₁.heap.NoLimit) (hg:s₁.gens=#[])
  (ha:s₁.heap.get? a=some { cls:=.type "list",data:=.seq vs.toArray }) (hi:IntsAre vs ns) (hl:ns.length≤sizeLine) (hr:Room k callerA)
  (F:∀ base:Heap,FnG P w K mg base k fa sp) (hsp:∀ H:Hp,SqL K H a (ns.map V.int)→sp [.ref a] H (fun v _=>v=.bl true) (fun _ _ _=>False)) :
  codeAny (model P w) callerA (.call (.ref fa) ⟨[.ref a],[]⟩) (fun r s'=>r=.ok (.ret (.bool true))∧OldK s₁.heap s'.heap∧s'.os=s₁.os∧AllBare s'.gens) s₁:=by
 have rv:=vals_ints hi
 have hlen:(ns.map V.int).length≤sizeLine:=by rw [List.length_map];exact hl
 obtain ⟨H,lone⟩:=qkR KX ha rv hlen
 have hok:HOk P w H s₁.heap:=fun b u e=>by
  rcases lone.only b with z | ⟨rfl,z,_⟩
  ·rw [z] at e
   cases e
  ·rw [z] at e
   cases e
   exact ⟨ha,hlen,vs,_,rv,ha⟩
 have kept:∀ {b:Addr} {o:Obj},s₁.heap.get? b=some o→H b=none→(hidT s₁.heap H).get? b=some o:=fun e n=>hidT_get e n
 have dict0:∀ {b:Addr} {o:Obj} {es:Array DictEntry} {ep:Nat},s₁.heap.get? b=some o→o.data=.dict es ep→H b=none:=fun {b o es ep} e d=>by
  rcases lone.only b with z | ⟨rfl,_,_⟩
  ·exact z
  ·rw [ha] at e
   cases e
   exact nomatch (show Data.seq vs.toArray _=Data.dict es ep from d)
 have ns0:∀ {b:Addr} {m:Str→Option Value},s₁.heap.Ns b m→(hidT s₁.heap H).Ns b m:=fun {b m} q=>by
  obtain ⟨o,es,ep,e,d,r⟩:=q
  exact ⟨o,es,ep,kept e (dict0 e d),d,r⟩
 have kin:K.In (hidT s₁.heap H):=fun b o e=>kept (KX b o e) (by
  rcases lone.only b with z | ⟨rfl,_,z⟩
  ·exact z
  ·rw [z] at e
   cases e)
 have lim0:(hidT s₁.heap H).NoLimit:=by
  obtain ⟨mc,h1,h2⟩:=hlim
  exact ⟨mc,ns0 h1,h2⟩
 have e0:Env0 P w K mg (hidT s₁.heap H) callerA [] s₁ H:={
  frames:=rfl
  mod:=⟨kin,ns0 hns,⟨mb,ns0 hb,hbb⟩,lim0⟩
  bs:=fun b o e=>of_hidT e
  bsz:=Nat.le_of_eq (hidT_size _ _)
  funs:=trivial
  frf:=fun b z=>nomatch (show b∈([]:List Addr) from z)
  hok:=hok
  bare:=.of_eq hg }
 refine codeAny_mono (F (hidT s₁.heap H) callerA [] s₁ H [.ref a] [.ref a] _ _ hr.lo rfl e0 (.cons rfl .nil) (hsp H lone.sq)) fun r s' h=>?_
 rcases r with e | fl
 ·obtain ⟨_,_,_,_,_,_,_,_,_,_,_,_,z⟩:=h
  exact z.elim
 ·cases fl with
  | ret u=>
   obtain ⟨v,H',os,bare,un,hok',r',q⟩:=h
   cases (show v=.bl true from q)
   cases (show u=Value.bool true from r')
   refine ⟨rfl,OldK.of_keep fun b o e=>?_,os,bare⟩
   rcases lone.only b with z | ⟨rfl,z,_⟩
   ·exact un.keep b o e z (fun q=>nomatch (show b∈([]:List Addr) from q)) (by simp)
   ·have z2:=un.frzs b _ _ z
    rw [ha] at e
    cases e
    exact (hok' b _ z2).1
  | next=>exact False.elim h
  | brk=>exact False.elim h
  | cont=>exact False.elim h
theorem qnu {K:PySem.W.Frag} {H:Hp}:HRel K [] ⟨[],H,⟨none,[]⟩⟩ H where
 le:=LeF.refl _
 len:=rfl
 inj:=List.nodup_nil
 wf:=fun n c z=>by simp at z
 cell:=fun n c a z _=>by simp at z
 trk:=fun n a z=>by simp at z
 bl:=fun b z=>nomatch (show (none:Option Nat)=some b from z)
 tup:=fun n ws a z _=>by simp at z
 lks:=fun a o z=>nomatch (show (a,o)∈([]:List (Addr × HO)) from z)
theorem walk_ofK {l:PySem.W.OpenLaw} {n k:Nat} {q:Program} {loose:List Str} {XP:(Str→Option Value)→Heap→Prop} {YP:World→Heap→Prop} {d:DefRec} {T:Str→Option Fn} {g:Gm} {m:Nat} {body:S}
  (hn:l.most=some n) (hn2:n≤sizeLine) (hdf:d.params.defaults=[]) (hr:Room (k + 2) callerA) (hT:T "law"=some (.fnK m 1 [] body))
  (F:∀ (w:World) (mg:Str→Option Value) (fa:Addr) (h:Heap),YP w h→h.Ns mainGlobals mg→mg d.name=some (.ref fa)→∃ K:PySem.W.Frag,K.In h∧Md w K mg T g∧FnAt K fa m 1 [] body)
  (hok:∀ ns:List Int,ns.length≤n→∃ S,callF T g k "law" [.v (.scr ns)] []=.ok (.v (.bl true),S)) :
  PySem.W.WalkO q loose XP YP l.row.toRowW d [] (fun f vs=>PySem.call f vs):=by
 refine Att.attach_call hn hdf fun w s₀ s₁ mg mb fa o pm cd doc a vs ns G Y ho hd hcd hmg hobj hints hlen hg=>?_
 obtain ⟨K,KX,M,hF⟩:=F w mg fa _ Y G.T.g hmg
 refine qiy KX G.T.g G.T.b G.T.builtins G.T.nolimit hg hobj hints (Nat.le_trans hlen hn2) hr (fun base=>(qj2 M k).2.2.1 "law" fa m 1 [] body hT hF) fun H hS=>?_
 obtain ⟨S,e⟩:=hok ns hlen
 refine ⟨⟨[],H,⟨none,[]⟩⟩,[],[.v (.scr ns)],rfl,qnu,.cons ?_ .nil,?_⟩
 ·show RepP K H (.scr ns) (.ref a)
  unfold RepP
  exact ⟨a,rfl,hS,Nat.le_trans hlen hn2⟩
 ·show RdF K _ (RepW K) _ (callF T g k "law" [.v (.scr ns)] []) _
  rw [e]
  intro w' v H' _ _ rv
  have rv':RepP K w'.F (.bl true) v:=rv
  unfold RepP at rv'
  exact rv'
end LS
namespace LS
open PySem PySem.Spec PyProof.Rows L2
theorem qa0 {α:Type} {p:α→Prop}:∀ x∈([]:List α),p x:=fun _ h=>by cases h
theorem all_cons {α:Type} {p:α→Prop} {a:α} {l:List α} (h:p a) (t:∀ x∈l,p x):∀ x∈a::l,p x:=fun x hx=>by
 rcases List.mem_cons.mp hx with rfl | hx
 ·exact h
 ·exact t x hx
theorem mem_of_lookup {α:Type} {x:Str} {p:α}:∀ {l:List (Str × α)},l.lookup x=some p→(x,p)∈l
 | [],h=>by cases h
 | (y,q)::l,h=>by
  rw [List.lookup_cons] at h
  cases e:(x == y) with
  | true=>
   rw [e] at h
   cases h
   rw [eq_of_beq e]
   exact List.mem_cons_self
  | false=>
   rw [e] at h
   exact List.mem_cons_of_mem _ (mem_of_lookup h)
section
variable {K:PySem.W.Frag} {mg:Str→Option Value} {T:Str→Option Fn}
def qqx (K:PySem.W.Frag) (mg:Str→Option Value) (q:Str × P):Prop:=∃ v u,mg q.1=some u∧RelV v u∧∀ F,RepP K F q.2 v
theorem qlG {glos:List (Str × P)} (h:∀ q∈glos,qqx K mg q):∀ x p,glos.lookup x=some p→∃ v u,mg x=some u∧RelV v u∧∀ F,RepP K F p v:=fun x p e=>h (x,p) (mem_of_lookup e)
theorem qlD {flds:List (Str × Str)} (h:∀ q∈flds,Cls K (He.ga K q.1)∧NoAttr K (He.ga K q.1) q.2):∀ c f,flds.contains (c,f)=true→Cls K (He.ga K c)∧NoAttr K (He.ga K c) f:=fun c f e=>h (c,f) (List.contains_iff_mem.mp e)
def qmU (K:PySem.W.Frag) (mg:Str→Option Value) (T:Str→Option Fn) (f:Str):Prop:=∃ fa,mg f=some (.ref fa)∧PySem.W.keepIn K (.ref fa)=true∧At K T f fa
theorem qnl {fns:List Str} (h:∀ f∈fns,qmU K mg T f):∀ f,fns.contains f=true→∃ fa,mg f=some (.ref fa)∧PySem.W.keepIn K (.ref fa)=true∧At K T f fa:=fun f e=>h f (List.contains_iff_mem.mp e)
theorem qdf {f:Str} {x qual:Str} {params:Arguments} {bd:List Stmt} {scope:Scope} {dvs:List V} {kws:List (Str × V)} {n np:Nat} {dfl:List P} {body:S} {own:Bool} (hg:mg f=some (.ref (He.ga K f))) (hd:∃ fd,FunD K x qual params bd scope dvs kws (He.fAd K (f,none)) fd)
  (hT:T f=some (.fn n np dfl body own)) (h:FnAt K (He.fAd K (f,none)) n np dfl body):qmU K mg T f:=by
 obtain ⟨fd,F⟩:=hd
 refine ⟨_,hg,F.kp,?_⟩
 unfold At
 rw [hT]
 exact h
def qqP (K:PySem.W.Frag) (T:Str→Option Fn) (q:Str × Str):Prop:=∃ fa,Cls K (He.ga K q.1)∧Meth K (He.ga K q.1) q.2 fa∧At K T (q.1++"."++q.2) fa
theorem qkv {mets:List (Str × Str)} (h:∀ q∈mets,qqP K T q):∀ c m,mets.contains (c,m)=true→∃ fa,Cls K (He.ga K c)∧Meth K (He.ga K c) m fa∧At K T (c++"."++m) fa:=fun c m e=>h (c,m) (List.contains_iff_mem.mp e)
def qpD (K:PySem.W.Frag) (mg:Str→Option Value) (T:Str→Option Fn) (f:Str):Prop:=∃ fa,mg f=some (.ref fa)∧PySem.W.keepIn K (.ref fa)=true∧AtK K T f fa
theorem qkW {fns:List Str} (h:∀ f∈fns,qpD K mg T f):∀ f,fns.contains f=true→∃ fa,mg f=some (.ref fa)∧PySem.W.keepIn K (.ref fa)=true∧AtK K T f fa:=fun f e=>h f (List.contains_iff_mem.mp e)
def qm5 (K:PySem.W.Frag) (T:Str→Option Fn) (q:Str × Str):Prop:=∃ fa,Cls K (He.ga K q.1)∧Meth K (He.ga K q.1) q.2 fa∧AtK K T (q.1++"."++q.2) fa
theorem qjP {mets:List (Str × Str)} (h:∀ q∈mets,qm5 K T q):∀ c m,mets.contains (c,m)=true→∃ fa,Cls K (He.ga K c)∧Meth K (He.ga K c) m fa∧AtK K T (c++"."++m) fa:=fun c m e=>h (c,m) (List.contains_iff_mem.mp e)
theorem qlL {mg:Str→Option Value} {cs:List Str} (h:∀ c∈cs,mg c=some (.ref (He.ga K c))∧KlsOk K (He.ga K c)):∀ c,cs.contains c=true→mg c=some (.ref (He.ga K c))∧KlsOk K (He.ga K c):=fun c e=>h c (List.contains_iff_mem.mp e)
theorem qlV {mg:Str→Option Value} {xs:List Str} (h:∀ x∈xs,∃ cv,mg x=some cv∨(mg x=none∧bootBuiltins x=some cv∧x≠"__name__")):∀ x,xs.contains x=true→∃ cv,mg x=some cv∨(mg x=none∧bootBuiltins x=some cv∧x≠"__name__"):=fun x e=>h x (List.contains_iff_mem.mp e)
end
end LS
namespace LS
open PySem PySem.Spec PyProof.Rows L2
theorem qkx {K:PySem.W.Frag} {C:Addr} (h:oexB K C=true):∃ nm q N bs bm sn sub ab col dd k0 k1 k2 k3 k5,K.lookup C=some (excClassObj nm q C N bs bm true sn sub ab col dd k0 k1 k2 k3 k5 "ValueError.__new__")∧PySem.HandSPX.refsVE bm=true:=by
 unfold oexB at h
 split at h
 ·rename_i dd cd sl ho
  split at h
  ·rename_i C' bm k0 k1 k2 k3 n k5 hm hs
   simp only [Bool.and_eq_true,beq_iff_eq,Bool.not_eq_true'] at h
   obtain ⟨rfl,rfl,hdel,hdc,hr⟩:=h
   obtain ⟨nm,bs,mro,ns,qn,hd,sn,sub,ab,col,del⟩:=cd
   dsimp only at hm hdel hdc
   subst hm hdel hdc
   have hsl:sl=#[k0,k1,k2,k3,some (.builtin "ValueError.__new__"),k5]:=by
    obtain ⟨l⟩:=sl
    simp only at hs
    rw [hs]
   subst hsl
   exact ⟨nm,qn,ns,bs,bm,sn,sub,ab,col,dd,k0,k1,k2,k3,k5,ho,hr⟩
  ·cases h
 ·cases h
theorem qar {K:PySem.W.Frag} {c:Str} {fl:List Str} (h:qan K c fl=true):ExcF K c fl:=by
 unfold qan at h
 simp only [Bool.and_eq_true,decide_eq_true_eq,List.all_eq_true] at h
 obtain ⟨h1,h2,h3,⟨h4,h4v⟩,h5,h6,h7⟩:=h
 refine ⟨h1,h2,h3,h4,h5,h6,fun e=>by rwa [if_pos e] at h7,fun e=>?_,h4v⟩
 rw [if_neg e] at h7
 simp only [Bool.and_eq_true,decide_eq_true_eq] at h7
 exact ⟨qkx h7.1,h7.2.1,h4,h5,h6⟩
theorem qal {K:PySem.W.Frag} {c:Str} {fl:List Str} (h:qan K c fl=true) (e:fl≠[]):PySem.W.findIn K (.ref (He.ga K c)) "__init__"=some (some (.ref (He.fAd K (c,some "__init__"))))∧PySem.W.typeIn K (.ref (He.fAd K (c,some "__init__")))=some (.type "function"):=by
 unfold qan at h
 simp only [Bool.and_eq_true] at h
 have h7:=h.2.2.2.2.2.2
 rw [if_neg e] at h7
 simp only [Bool.and_eq_true] at h7
 have:=h7.2.2.1
 unfold qmm at this
 simp only [Bool.and_eq_true,decide_eq_true_eq] at this
 exact this
theorem qas {K:PySem.W.Frag} {c:Str} {fl:List Str} (h:qan K c fl=true) (e:fl≠[]) {f:Str} (hf:f∈fl):XfC K (He.ga K c)∧PySem.W.findIn K (.ref (He.ga K c)) f=some none:=by
 have h0:=(qar h).ns f hf
 unfold qan at h
 simp only [Bool.and_eq_true] at h
 have h7:=h.2.2.2.2.2.2
 rw [if_neg e] at h7
 simp only [Bool.and_eq_true] at h7
 exact ⟨xfB_ok h7.2.2.2,h0⟩
theorem qlY {P:Str→List Str→Prop} {l:List (Str × List Str)} (h:∀ q∈l,P q.1 q.2):∀ c fl,l.lookup c=some fl→P c fl:=fun c fl e=>by
 induction l with
 | nil=>cases e
 | cons q l ih=>
  obtain ⟨a,b⟩:=q
  rw [List.lookup_cons] at e
  split at e
  ·rename_i he
   cases e
   have:c=a:=by simpa using he
   subst this
   exact h (c,fl) (by simp)
  ·exact ih (fun q hq=>h q (List.mem_cons_of_mem _ hq)) e
theorem qlv {P:Str→Str→Bool→Prop} {l:List ((Str × Str) × Bool)} (h:∀ q∈l,P q.1.1 q.1.2 q.2):∀ c x b,l.lookup (c,x)=some b→P c x b:=fun c x b e=>by
 induction l with
 | nil=>cases e
 | cons q l ih=>
  obtain ⟨⟨a,a'⟩,k⟩:=q
  rw [List.lookup_cons] at e
  split at e
  ·rename_i he
   cases e
   have:(c,x)=(a,a'):=by simpa using he
   cases this
   exact h ((c,x),b) (by simp)
  ·exact ih (fun q hq=>h q (List.mem_cons_of_mem _ hq)) e
theorem qlJ {K:PySem.W.Frag} {l:List (Str × Str)} (h:∀ q∈l,XfC K (He.ga K q.1)∧PySem.W.findIn K (.ref (He.ga K q.1)) q.2=some none):∀ c f,l.contains (c,f)=true→XfC K (He.ga K c)∧PySem.W.findIn K (.ref (He.ga K c)) f=some none:=fun c f e=>h (c,f) (List.contains_iff_mem.mp e)
end LS
namespace LS
open PySem PySem.Spec PyProof.Rows L2
theorem qkC {K:PySem.W.Frag} {w:World} {mg:Str→Option Value} {l:List (Str × List (Str × P))} (h:∀ q∈l,∃ d es n,mg q.1=some (.ref d)∧KDict K w d es n∧qjt K d q.2):∀ x kvs,l.lookup x=some kvs→∃ d es n,mg x=some (.ref d)∧KDict K w d es n∧qjt K d kvs:=fun x kvs e=>h (x,kvs) (mem_of_lookup e)
section
variable {K:PySem.W.Frag} {mg:Str→Option Value} {T:Str→Option Fn}
theorem qkM {xs:List Str} (h:∀ x∈xs,mg x=some (.ref (He.ga K x))):∀ x,xs.contains x=true→mg x=some (.ref (He.ga K x)):=fun x e=>h x (List.contains_iff_mem.mp e)
theorem qmS {c:Str} {xs:List (Str × Bool)} (h:isxB K c xs=true):∀ x b,xs.lookup x=some b→PySem.W.kitOne K (.ref (He.ga K c)) (.ref (He.ga K x))=some b∧L2.ExcC K (He.ga K c):=fun x b e=>by
 unfold isxB at h
 simp only [Bool.and_eq_true] at h
 obtain ⟨h1,h2⟩:=h
 have h3:=of_decide_eq_true (List.all_eq_true.mp h2 _ (mem_of_lookup e))
 refine ⟨h3,?_⟩
 unfold errB at h1
 simp only [Bool.and_eq_true] at h1
 obtain ⟨hx,ha,hn,ht,hm⟩:=h1
 have hx:=xfB_ok hx
 exact ⟨hx.ga,hx.gg,hx.exC,hx.hdC,of_decide_eq_true ha,of_decide_eq_true hn,of_decide_eq_true ht,of_decide_eq_true hm⟩
theorem qlx {l:List (Str × List (Str × Bool))} (h:∀ q∈l,isxB K q.1 q.2=true):∀ c x b,((l.lookup c).bind fun z=>z.lookup x)=some b→PySem.W.kitOne K (.ref (He.ga K c)) (.ref (He.ga K x))=some b∧L2.ExcC K (He.ga K c):=fun c x b e=>by
 cases hl:l.lookup c with
 | none=>rw [hl] at e;cases e
 | some z=>
  rw [hl] at e
  exact qmS (h (c,z) (mem_of_lookup hl)) x b e
end
end LS
namespace LS
open PySem L2
def qbg:S:=
 (.cons (.ret (.cmp .eq (.bf .repr (.cons (.var 0) .nil)) (.bf .repr (.cons (.var 1) .nil))))
 .nil)
def qag:S:=
 (.cons (.sub (.var 0) (.lit (.int 2)) (.bin .add (.sub (.var 0) (.lit (.int 2))) (.lit (.int 1))))
 (.cons (.ite (.and (.cmp .eq (.sub (.var 0) (.lit (.int 1))) (.lit (.int 0))) (.cmp .ne (.sub (.var 0) (.lit (.int 0))) (.lst false .nil))) (.cons (.sub (.var 0) (.lit (.int 1)) (.bm .pop0 (.sub (.var 0) (.lit (.int 0))) (.cons (.lit (.int 0)) .nil)))
 (.cons (.ite (.cmp .lt (.sub (.var 0) (.lit (.int 1))) (.bin .pow (.lit (.int 10)) (.lit (.int 18)))) (.cons (.sub (.var 0) (.lit (.int 3)) (.bin .mod (.bf .int (.cons (.bin .add (.bin .add (.bin .mul (.sub (.var 0) (.lit (.int 3))) (.lit (.int 31))) (.sub (.var 0) (.lit (.int 1)))) (.lit (.int 7))) .nil)) (.lit (.int 2147483647))))
 (.cons (.sub (.var 0) (.lit (.int 1)) (.lit (.int 0)))
 .nil)) .nil)
 .nil)) .nil)
 (.cons (.ite (.cmp .gt (.sub (.var 0) (.lit (.int 1))) (.lit (.int 0))) (.cons (.set 3 (.bin .mod (.bf .int (.cons (.sub (.var 0) (.lit (.int 1))) .nil)) (.var 1)))
 (.cons (.sub (.var 0) (.lit (.int 1)) (.bin .fdiv (.sub (.var 0) (.lit (.int 1))) (.var 1)))
 (.cons (.ret (.var 3))
 .nil))) .nil)
 (.cons (.set 2 (.bin .mod (.bin .pow (.bin .add (.bin .add (.sub (.var 0) (.lit (.int 3))) (.bin .mul (.lit (.int 104729)) (.sub (.var 0) (.lit (.int 2))))) (.lit (.int 17))) (.lit (.int 5))) (.lit (.int 2147483629))))
 (.cons (.ret (.bin .mod (.bin .mod (.bin .pow (.bin .add (.bin .add (.bin .mul (.var 2) (.lit (.int 48271))) (.bin .mul (.bin .mul (.lit (.int 40503)) (.sub (.var 0) (.lit (.int 2)))) (.sub (.var 0) (.lit (.int 2))))) (.lit (.int 13))) (.lit (.int 3))) (.lit (.int 1000000007))) (.var 1)))
 .nil)))))
def qfv:S:=
 (.cons (.set 2 (.lst true .nil))
 (.cons (.for_ (.name 3) (.rng (.cons (.var 1) .nil)) (.cons (.expr (.bm .append (.var 2) (.cons (.call "_law_fresh" (.cons (.var 0) (.cons (.var 2) .nil))) .nil)))
 .nil))
 (.cons (.ret (.var 2))
 .nil)))
def qbc:S:=
 (.cons (.ret (.sub (.var 1) (.call "_law_draw" (.cons (.var 0) (.cons (.bf .len (.cons (.var 1) .nil)) .nil)))))
 .nil)
def qf9:S:=
 (.cons (.fld (.var 0) "open_kinds" (.call "kinds_of" (.cons (.var 1) .nil)))
 (.cons (.fld (.var 0) "column_rows" (.call "column_rows_of" (.cons (.var 2) (.cons (.att (.var 0) "open_kinds") .nil))))
 (.cons (.fld (.var 0) "column_table" (.dc false [("row",4)] (.name 4) (.it (.att (.var 0) "column_rows")) .nil (.sub (.var 4) (.lit (.int 0))) (.make "Column" (.cons (.sub (.var 4) (.lit (.int 0))) (.cons (.sub (.var 4) (.lit (.int 1))) (.cons (.sub (.var 4) (.lit (.int 2))) (.cons (.sub (.var 4) (.lit (.int 3))) .nil)))))))
 (.cons (.fld (.var 0) "all_checks" (.call "menu_of" (.cons (.att (.var 0) "open_kinds") (.cons (.att (.var 0) "column_table") .nil))))
 (.cons (.fld (.var 0) "own_checks" (.call "checks_of" (.cons (.var 3) (.cons (.att (.var 0) "all_checks") .nil))))
 .nil)))))
def qc5:S:=
 (.cons (.set 1 (.lst true .nil))
 (.cons (.for_ (.name 2) (.it (.sub (.var 0) (.lit (.str "columns")))) (.cons (.expr (.bm .extend (.var 1) (.cons (.lc false [("_law_word",4)] (.name 4) (.it (.lst false (.cons (.lit (.str "put")) (.cons (.lit (.str "turn")) (.cons (.lit (.str "keep")) (.cons (.lit (.str "hold")) (.cons (.lit (.str "again")) .nil))))))) .nil (.bin .add (.bin .add (.var 4) (.lit (.str " "))) (.sub (.var 2) (.lit (.int 0))))) .nil)))
 .nil))
 (.cons (.for_ (.name 3) (.it (.sub (.var 0) (.lit (.str "kinds")))) (.cons (.expr (.bm .extend (.var 1) (.cons (.lc false [("_law_word",4)] (.name 4) (.it (.lst false (.cons (.lit (.str "bare")) (.cons (.lit (.str "calm")) (.cons (.lit (.str "again")) .nil))))) .nil (.bin .add (.bin .add (.var 4) (.lit (.str " "))) (.sub (.var 3) (.lit (.int 0))))) .nil)))
 .nil))
 (.cons (.ret (.bin .add (.var 1) (.lst false (.cons (.lit (.str "lone")) (.cons (.lit (.str "fresh")) .nil)))))
 .nil))))
def qfo:S:=
 (.cons (.par [4,2] (.cons (.lit (.str "abcdefghijklmnopqrstuvwxyz")) (.cons (.lst false (.cons (.lit (.str "kind")) (.cons (.lit (.str "open")) (.cons (.lit (.str "column")) (.cons (.lit (.str "from")) (.cons (.lit (.str "to")) (.cons (.lit (.str "check")) (.cons (.lit (.str "fall")) .nil)))))))) .nil)))
 (.cons (.set 2 (.bin .add (.var 2) (.lst false (.cons (.lit (.str "clear")) (.cons (.lit (.str "lone")) (.cons (.lit (.str "fresh")) (.cons (.lit (.str "put")) (.cons (.lit (.str "turn")) (.cons (.lit (.str "fell")) (.cons (.lit (.str "spread")) (.cons (.lit (.str "stuck")) (.cons (.lit (.str "again")) (.cons (.lit (.str "bare")) (.cons (.lit (.str "hold")) .nil))))))))))))))
 (.cons (.set 3 (.bm .join (.lit (.str "")) (.cons (.lc false [("_law_k",5)] (.name 5) (.rng (.cons (.bin .add (.lit (.int 1)) (.call "_law_draw" (.cons (.var 0) (.cons (.lit (.int 8)) .nil)))) .nil)) .nil (.sub (.var 4) (.call "_law_draw" (.cons (.var 0) (.cons (.lit (.int 26)) .nil))))) .nil)))
 (.cons (.set 3 (.ite (.cmp .eq (.call "_law_draw" (.cons (.var 0) (.cons (.lit (.int 8)) .nil))) (.lit (.int 0))) (.sub (.var 2) (.call "_law_draw" (.cons (.var 0) (.cons (.lit (.int 18)) .nil)))) (.var 3)))
 (.cons (.ite (.or (.cmp .in_ (.var 3) (.var 1)) (.cmp .eq (.var 3) (.lit (.str "strike")))) (.cons (.ret (.sub (.lc false [("_law_one",6)] (.name 6) (.it (.lc false [("_law_sign",7)] (.name 7) (.it (.var 4)) .nil (.bin .add (.lit (.str "q")) (.var 7)))) (.cons (.cmp .nin (.var 6) (.var 1)) .nil) (.var 6)) (.lit (.int 0))))
 .nil) .nil)
 (.cons (.ret (.var 3))
 .nil))))))
def qhN:S:=
 (.cons (.set 1 (.dic true .nil))
 (.cons (.for_ (.tup [2,3]) (.it (.var 0)) (.cons (.expr (.call "check_fresh" (.cons (.var 2) (.cons (.var 1) .nil))))
 (.cons (.sub (.var 1) (.var 2) (.var 3))
 .nil)))
 (.cons (.ret (.var 1))
 .nil)))
def qdl:S:=
 (.cons (.set 2 (.lst true .nil))
 (.cons (.for_ (.tup [3,4,5,6]) (.it (.var 0)) (.cons (.expr (.call "check_fresh" (.cons (.var 3) (.cons (.lst false (.star (.var 1) (.star (.lc false [("row",8)] (.name 8) (.it (.var 2)) .nil (.sub (.var 8) (.lit (.int 0)))) .nil))) .nil))))
 (.cons (.for_ (.name 7) (.it (.tup (.cons (.var 4) (.cons (.var 5) .nil)))) (.cons (.ite (.not (.call "stands_in" (.cons (.var 7) (.cons (.var 1) .nil)))) (.cons (.raise "UnknownKind" (.cons (.var 7) .nil))
 .nil) .nil)
 .nil))
 (.cons (.ite (.not (.call "stands_in" (.cons (.var 6) (.cons (.tup (.cons (.glo "FALL") (.cons (.glo "CLEAR") .nil))) .nil)))) (.cons (.raise "BadRule" (.cons (.var 6) .nil))
 .nil) .nil)
 (.cons (.expr (.bm .append (.var 2) (.cons (.tup (.cons (.var 3) (.cons (.var 4) (.cons (.var 5) (.cons (.var 6) .nil))))) .nil)))
 .nil)))))
 (.cons (.ret (.var 2))
 .nil)))
def qhW:S:=
 (.cons (.set 2 (.lst true .nil))
 (.cons (.for_ (.name 3) (.it (.var 1)) (.cons (.expr (.bm .extend (.var 2) (.cons (.lc false [("sort",4)] (.name 4) (.it (.tup (.cons (.lit (.str "put")) (.cons (.lit (.str "turn")) (.cons (.lit (.str "keep")) (.cons (.lit (.str "hold")) (.cons (.lit (.str "again")) .nil))))))) .nil (.fstr (.cons (.var 4) (.star (.lit (.str " ")) (.cons (.var 3) .nil))))) .nil)))
 .nil))
 (.cons (.for_ (.name 3) (.it (.var 0)) (.cons (.expr (.bm .extend (.var 2) (.cons (.lc false [("sort",4)] (.name 4) (.it (.tup (.cons (.lit (.str "bare")) (.cons (.lit (.str "calm")) (.cons (.lit (.str "again")) .nil))))) .nil (.fstr (.cons (.var 4) (.star (.lit (.str " ")) (.cons (.var 3) .nil))))) .nil)))
 .nil))
 (.cons (.ret (.lst false (.star (.var 2) (.cons (.lit (.str "lone")) (.cons (.lit (.str "fresh")) .nil)))))
 .nil))))
def qgj:S:=
 (.cons (.for_ (.name 2) (.it (.var 0)) (.cons (.ite (.not (.call "stands_in" (.cons (.var 2) (.cons (.var 1) .nil)))) (.cons (.raise "UnknownCheck" (.cons (.var 2) .nil))
 .nil) .nil)
 .nil))
 (.cons (.ret (.lc false [("check",2)] (.name 2) (.it (.var 1)) (.cons (.cmp .in_ (.var 2) (.bf .list (.cons (.var 0) .nil))) .nil) (.var 2)))
 .nil))
def qe7:S:=
 (.cons (.ite (.not (.call "is_name" (.cons (.var 0) .nil))) (.cons (.raise "BadName" (.cons (.var 0) .nil))
 .nil) .nil)
 (.cons (.ite (.cmp .in_ (.var 0) (.var 1)) (.cons (.raise "NameInUse" (.cons (.var 0) .nil))
 .nil) .nil)
 .nil))
def qgH:S:=
 (.cons (.ret (.and (.bf .isStr (.cons (.var 0) .nil)) (.cmp .in_ (.var 0) (.var 1))))
 .nil)
def qe3:S:=
 (.cons (.fld (.var 0) "word" (.var 1))
 (.cons (.fld (.var 0) "home" (.var 2))
 (.cons (.fld (.var 0) "goal" (.var 3))
 (.cons (.fld (.var 0) "rule" (.var 4))
 .nil))))
def qiG:S:=
 (.cons (.ite (.or (.not (.bf .isStr (.cons (.var 0) .nil))) (.or (.not (.chn .le .le (.lit (.int 1)) (.bf .len (.cons (.var 0) .nil)) (.lit (.int 8)))) (.cmp .eq (.var 0) (.glo "STRUCK")))) (.cons (.ret (.lit (.bl false)))
 .nil) .nil)
 (.cons (.ret (.bf .all (.cons (.lc false [("letter",1)] (.name 1) (.it (.var 0)) .nil (.cmp .in_ (.var 1) (.glo "LETTERS"))) .nil)))
 .nil))
def qgq:S:=
 (.cons (.ret (.make "Book" (.cons (.sub (.var 0) (.lit (.str "kinds"))) (.cons (.sub (.var 0) (.lit (.str "columns"))) (.cons (.sub (.var 0) (.lit (.str "checks"))) .nil)))))
 .nil)
def qeT:S:=
 (.cons (.ret (.cmp .in_ (.bin .add (.bin .add (.var 1) (.lit (.str " "))) (.var 2)) (.sub (.var 0) (.lit (.str "checks")))))
 .nil)
def qd4:S:=
 (.cons (.set 1 (.call "tight_kinds" (.cons (.var 0) .nil)))
 (.cons (.set 2 (.lc false [("column",3)] (.name 3) (.vals (.att (.var 0) "column_table")) (.cons (.cmp .eq (.att (.var 3) "rule") (.glo "FALL")) .nil) (.var 3)))
 (.cons (.ret (.lc false [("column",3)] (.name 3) (.it (.var 2)) (.cons (.and (.cmp .in_ (.att (.var 3) "home") (.var 1)) (.cmp .in_ (.att (.var 3) "goal") (.var 1))) .nil) (.var 3)))
 .nil)))
def qfa:S:=
 (.cons (.ret (.lc false [("kind",1)] (.name 1) (.it (.meth (.var 0) "markable" .nil)) (.cons (.has false (.fstr (.star (.lit (.str "bare ")) (.cons (.var 1) .nil))) (.var 0)) .nil) (.var 1)))
 .nil)
def qfP:S:=
 (.cons (.ret (.lc false [("_law_kind",1)] (.name 1) (.it (.call "_law_markable" (.cons (.var 0) .nil))) (.cons (.call "_law_checks" (.cons (.var 0) (.cons (.lit (.str "bare")) (.cons (.var 1) .nil)))) .nil) (.var 1)))
 .nil)
def qgs:S:=
 (.cons (.set 1 (.call "_law_tight" (.cons (.var 0) .nil)))
 (.cons (.ret (.lc false [("_law_column",2)] (.name 2) (.it (.sub (.var 0) (.lit (.str "columns")))) (.cons (.and (.cmp .eq (.sub (.var 2) (.lit (.int 3))) (.lit (.str "fall"))) (.and (.cmp .in_ (.sub (.var 2) (.lit (.int 1))) (.var 1)) (.cmp .in_ (.sub (.var 2) (.lit (.int 2))) (.var 1)))) .nil) (.slc (.var 2) (.cons (.lit (.int 1)) .nil) (.cons (.lit (.int 3)) .nil))))
 .nil))
def qdY:S:=
 (.cons (.ret (.call "stands_in" (.cons (.var 1) (.cons (.att (.var 0) "own_checks") .nil))))
 .nil)
def qdV:S:=
 (.cons (.set 1 (.lc false [("_law_kind",3),("_law_is_open",4)] (.tup [3,4]) (.it (.sub (.var 0) (.lit (.str "kinds")))) (.cons (.var 4) .nil) (.var 3)))
 (.cons (.for_ (.name 2) (.it (.sub (.var 0) (.lit (.str "kinds")))) (.cons (.set 1 (.bin .add (.var 1) (.lc false [("_law_column",5)] (.name 5) (.it (.sub (.var 0) (.lit (.str "columns")))) (.cons (.and (.cmp .eq (.sub (.var 5) (.lit (.int 3))) (.lit (.str "fall"))) (.cmp .in_ (.sub (.var 5) (.lit (.int 2))) (.var 1))) .nil) (.sub (.var 5) (.lit (.int 1))))))
 .nil))
 (.cons (.ret (.lc false [("_law_kind",3),("_law_is_open",4)] (.tup [3,4]) (.it (.sub (.var 0) (.lit (.str "kinds")))) (.cons (.cmp .in_ (.var 3) (.var 1)) .nil) (.var 3)))
 .nil)))
def qgv:S:=
 (.cons (.par [1,2] (.cons (.makeK "BookReader" .nil) (.cons (.lit .non) .nil)))
 (.cons (.for_ (.tup [3,4]) (.enum (.bm .split (.var 0) (.cons (.lit (.str "\n")) .nil))) (.cons (.expr (.methK (.var 1) "take" (.cons (.var 4) (.cons (.var 3) .nil))))
 (.cons (.set 2 (.meth (.var 1) "told_book" (.cons (.var 3) .nil)))
 .nil)))
 (.cons (.ret (.var 2))
 .nil)))
def qc9:S:=
 (.cons (.par [4,5] (.cons (.bm .split (.var 1) (.cons (.lit (.str " ")) .nil)) (.cons (.cmp .eq (.att (.var 0) "found_checks") (.lst false .nil)) .nil)))
 (.cons (.set 3 (.and (.var 5) (.cmp .eq (.att (.var 0) "found_columns") (.lst false .nil))))
 (.cons (.ite (.and (.cmp .eq (.sub (.var 4) (.lit (.int 0))) (.lit (.str "kind"))) (.and (.cmp .eq (.bf .len (.cons (.var 4) .nil)) (.lit (.int 2))) (.var 3))) (.cons (.expr (.bm .append (.att (.var 0) "found_kinds") (.cons (.tup (.cons (.sub (.var 4) (.lit (.int 1))) (.cons (.lit (.bl false)) .nil))) .nil)))
 .nil) (.cons (.ite (.and (.cmp .eq (.slc (.var 4) .nil (.cons (.lit (.int 2)) .nil)) (.lst false (.cons (.lit (.str "open")) (.cons (.lit (.str "kind")) .nil)))) (.and (.cmp .eq (.bf .len (.cons (.var 4) .nil)) (.lit (.int 3))) (.var 3))) (.cons (.expr (.bm .append (.att (.var 0) "found_kinds") (.cons (.tup (.cons (.sub (.var 4) (.lit (.int 2))) (.cons (.lit (.bl true)) .nil))) .nil)))
 .nil) (.cons (.ite (.and (.cmp .eq (.sub (.var 4) (.lit (.int 0))) (.lit (.str "column"))) (.and (.cmp .eq (.bf .len (.cons (.var 4) .nil)) (.lit (.int 7))) (.and (.cmp .eq (.lst false (.cons (.sub (.var 4) (.lit (.int 2))) (.cons (.sub (.var 4) (.lit (.int 4))) .nil))) (.lst false (.cons (.lit (.str "from")) (.cons (.lit (.str "to")) .nil)))) (.var 5)))) (.cons (.expr (.bm .append (.att (.var 0) "found_columns") (.cons (.tup (.cons (.sub (.var 4) (.lit (.int 1))) (.cons (.sub (.var 4) (.lit (.int 3))) (.cons (.sub (.var 4) (.lit (.int 5))) (.cons (.sub (.var 4) (.lit (.int 6))) .nil))))) .nil)))
 .nil) (.cons (.ite (.and (.cmp .eq (.sub (.var 4) (.lit (.int 0))) (.lit (.str "check"))) (.cmp .ne (.att (.var 0) "found_kinds") (.lst false .nil))) (.cons (.expr (.bm .append (.att (.var 0) "found_checks") (.cons (.slc (.var 1) (.cons (.lit (.int 6)) .nil) .nil) .nil)))
 .nil) (.cons (.raise "BadLine" (.cons (.var 2) .nil))
 .nil))
 .nil))
 .nil))
 .nil))
 (.cons (.ite (.or (.cmp .gt (.bf .len (.cons (.att (.var 0) "found_kinds") .nil)) (.glo "MOST_KINDS")) (.cmp .gt (.bf .len (.cons (.att (.var 0) "found_columns") .nil)) (.glo "MOST_COLUMNS"))) (.cons (.raise "BadLine" (.cons (.var 2) .nil))
 .nil) .nil)
 .nil))))
def qca:S:=
 (.cons (.try_ (.cons (.ret (.make "Book" (.cons (.att (.var 0) "found_kinds") (.cons (.att (.var 0) "found_columns") (.cons (.att (.var 0) "found_checks") .nil)))))
 .nil) (.hd "StrikeError" (some 2) (.cons .stuck
 .nil)
 .nil))
 .nil)
def qc8:S:=
 (.cons (.fld (.var 0) "found_kinds" (.lst true .nil))
 (.cons (.fld (.var 0) "found_columns" (.lst true .nil))
 (.cons (.fld (.var 0) "found_checks" (.lst true .nil))
 .nil)))
end LS
namespace LS
open PySem L2
end LS
namespace LS
open PySem L2
def f_law:S:=
 (.cons (.set 1 (.lst true (.cons (.listC (.var 0)) (.cons (.lit (.int 0)) (.cons (.lit (.int 0)) (.cons (.lit (.int 0)) .nil))))))
 (.cons (.par [2,3] (.cons (.call "_law_thing" (.cons (.var 1) .nil)) (.cons (.call "_law_thing" (.cons (.var 1) .nil)) .nil)))
 (.cons (.for_ (.tup [4,5,6,7]) (.it (.bin .add (.call "_law_first_half" (.cons (.var 2) (.cons (.var 3) .nil))) (.call "_law_other_half" (.cons (.var 2) .nil)))) (.cons (.for_ (.name 8) (.it (.tup (.cons (.var 6) (.cons (.var 7) .nil)))) (.cons (.ite (.or (.not (.isX ["StrikeError"] (.var 8))) (.or (.not (.isVE (.var 8))) (.cmp .ne (.call "_law_classes" (.cons (.var 8) .nil)) (.lst false (.cons (.var 4) .nil))))) (.cons (.ret (.lit (.bl false)))
 .nil) .nil)
 (.cons (.ite (.not (.call "_law_same" (.cons (.call "_law_fields" (.cons (.var 8) (.cons (.var 5) .nil))) (.cons (.slc (.lst false (.cons (.var 2) (.cons (.var 3) .nil))) .nil (.cons (.bf .len (.cons (.var 5) .nil)) .nil)) .nil)))) (.cons (.ret (.lit (.bl false)))
 .nil) .nil)
 .nil)))
 .nil))
 (.cons (.ret (.lit (.bl true)))
 .nil))))
def qbq:S:=
 (.cons (.set 1 (.call "_law_draw" (.cons (.var 0) (.cons (.lit (.int 6)) .nil))))
 (.cons (.ite (.cmp .lt (.var 1) (.lit (.int 2))) (.cons (.ret (.bin .sub (.call "_law_draw" (.cons (.var 0) (.cons (.bin .pow (.lit (.int 10)) (.lit (.int 30))) .nil))) (.bin .mul (.lit (.int 5)) (.bin .pow (.lit (.int 10)) (.lit (.int 29))))))
 .nil) .nil)
 (.cons (.ret (.sub (.lst false (.cons (.bm .join (.lit (.str "")) (.cons (.lc false [("_law_k",2)] (.name 2) (.rng (.cons (.lit (.int 5)) .nil)) .nil (.call "_law_pick" (.cons (.var 0) (.cons (.lit (.str "abz Z0")) .nil)))) .nil)) (.cons (.lit .non) (.cons (.tup (.cons (.lit (.int 1)) (.cons (.lit (.str "a")) .nil))) (.cons (.tup (.cons (.lit (.str "look")) (.cons (.lit (.int 0)) (.cons (.tup (.cons (.lit (.int 1)) (.cons (.lit (.int 2)) .nil))) .nil)))) .nil))))) (.bin .sub (.var 1) (.lit (.int 2)))))
 .nil)))
def qav:S:=
 (.cons (.ret (.lst false (.cons (.tup (.cons (.lit (.str "BadName")) (.cons (.lst false (.cons (.lit (.str "name")) .nil)) (.cons (.mkE "BadName" (.cons (.var 0) .nil)) (.cons (.mkW "BadName" ["name"] (.cons (.var 0) .nil)) .nil))))) (.cons (.tup (.cons (.lit (.str "NameInUse")) (.cons (.lst false (.cons (.lit (.str "name")) .nil)) (.cons (.mkE "NameInUse" (.cons (.var 0) .nil)) (.cons (.mkW "NameInUse" ["name"] (.cons (.var 0) .nil)) .nil))))) (.cons (.tup (.cons (.lit (.str "UnknownKind")) (.cons (.lst false (.cons (.lit (.str "kind")) .nil)) (.cons (.mkE "UnknownKind" (.cons (.var 0) .nil)) (.cons (.mkW "UnknownKind" ["kind"] (.cons (.var 0) .nil)) .nil))))) (.cons (.tup (.cons (.lit (.str "UnknownColumn")) (.cons (.lst false (.cons (.lit (.str "column")) .nil)) (.cons (.mkE "UnknownColumn" (.cons (.var 0) .nil)) (.cons (.mkW "UnknownColumn" ["column"] (.cons (.var 0) .nil)) .nil))))) (.cons (.tup (.cons (.lit (.str "BadRule")) (.cons (.lst false (.cons (.lit (.str "rule")) .nil)) (.cons (.mkE "BadRule" (.cons (.var 0) .nil)) (.cons (.mkW "BadRule" ["rule"] (.cons (.var 0) .nil)) .nil))))) (.cons (.tup (.cons (.lit (.str "UnknownCheck")) (.cons (.lst false (.cons (.lit (.str "check")) .nil)) (.cons (.mkE "UnknownCheck" (.cons (.var 0) .nil)) (.cons (.mkW "UnknownCheck" ["check"] (.cons (.var 0) .nil)) .nil))))) (.cons (.tup (.cons (.lit (.str "UnlikeBooks")) (.cons (.lst false .nil) (.cons (.mkE "UnlikeBooks" .nil) (.cons (.mkE "UnlikeBooks" .nil) .nil))))) (.cons (.tup (.cons (.lit (.str "BadNumber")) (.cons (.lst false (.cons (.lit (.str "number")) .nil)) (.cons (.mkE "BadNumber" (.cons (.var 0) .nil)) (.cons (.mkW "BadNumber" ["number"] (.cons (.var 0) .nil)) .nil))))) (.cons (.tup (.cons (.lit (.str "Taken")) (.cons (.lst false (.cons (.lit (.str "kind")) (.cons (.lit (.str "number")) .nil))) (.cons (.mkE "Taken" (.cons (.var 0) (.cons (.var 1) .nil))) (.cons (.mkW "Taken" ["number","kind"] (.cons (.var 1) (.cons (.var 0) .nil))) .nil))))) (.cons (.tup (.cons (.lit (.str "Used")) (.cons (.lst false (.cons (.lit (.str "kind")) (.cons (.lit (.str "number")) .nil))) (.cons (.mkE "Used" (.cons (.var 0) (.cons (.var 1) .nil))) (.cons (.mkW "Used" ["number","kind"] (.cons (.var 1) (.cons (.var 0) .nil))) .nil))))) (.cons (.tup (.cons (.lit (.str "NoRow")) (.cons (.lst false (.cons (.lit (.str "kind")) (.cons (.lit (.str "number")) .nil))) (.cons (.mkE "NoRow" (.cons (.var 0) (.cons (.var 1) .nil))) (.cons (.mkW "NoRow" ["number","kind"] (.cons (.var 1) (.cons (.var 0) .nil))) .nil))))) (.cons (.tup (.cons (.lit (.str "OwnOwner")) (.cons (.lst false (.cons (.lit (.str "column")) .nil)) (.cons (.mkE "OwnOwner" (.cons (.var 0) .nil)) (.cons (.mkW "OwnOwner" ["column"] (.cons (.var 0) .nil)) .nil))))) (.cons (.tup (.cons (.lit (.str "Refused")) (.cons (.lst false (.cons (.lit (.str "check")) .nil)) (.cons (.mkE "Refused" (.cons (.var 0) .nil)) (.cons (.mkW "Refused" ["check"] (.cons (.var 0) .nil)) .nil))))) .nil)))))))))))))))
 .nil)
def qau:S:=
 (.cons (.ret (.lst false (.cons (.tup (.cons (.lit (.str "NotOpen")) (.cons (.lst false (.cons (.lit (.str "kind")) .nil)) (.cons (.mkE "NotOpen" (.cons (.var 0) .nil)) (.cons (.mkW "NotOpen" ["kind"] (.cons (.var 0) .nil)) .nil))))) (.cons (.tup (.cons (.lit (.str "Busy")) (.cons (.lst false (.cons (.lit (.str "hand")) .nil)) (.cons (.mkE "Busy" (.cons (.var 0) .nil)) (.cons (.mkW "Busy" ["hand"] (.cons (.var 0) .nil)) .nil))))) (.cons (.tup (.cons (.lit (.str "Idle")) (.cons (.lst false (.cons (.lit (.str "hand")) .nil)) (.cons (.mkE "Idle" (.cons (.var 0) .nil)) (.cons (.mkW "Idle" ["hand"] (.cons (.var 0) .nil)) .nil))))) (.cons (.tup (.cons (.lit (.str "BadPiece")) (.cons (.lst false (.cons (.lit (.str "piece")) .nil)) (.cons (.mkE "BadPiece" (.cons (.var 0) .nil)) (.cons (.mkW "BadPiece" ["piece"] (.cons (.var 0) .nil)) .nil))))) (.cons (.tup (.cons (.lit (.str "BadList")) (.cons (.lst false (.cons (.lit (.str "numbers")) .nil)) (.cons (.mkE "BadList" (.cons (.var 0) .nil)) (.cons (.mkW "BadList" ["numbers"] (.cons (.var 0) .nil)) .nil))))) (.cons (.tup (.cons (.lit (.str "NoFit")) (.cons (.lst false (.cons (.lit (.str "number")) .nil)) (.cons (.mkE "NoFit" (.cons (.var 0) .nil)) (.cons (.mkW "NoFit" ["number"] (.cons (.var 0) .nil)) .nil))))) (.cons (.tup (.cons (.lit (.str "BadQuestion")) (.cons (.lst false (.cons (.lit (.str "question")) .nil)) (.cons (.mkE "BadQuestion" (.cons (.var 0) .nil)) (.cons (.mkW "BadQuestion" ["question"] (.cons (.var 0) .nil)) .nil))))) (.cons (.tup (.cons (.lit (.str "BadDeed")) (.cons (.lst false .nil) (.cons (.mkE "BadDeed" .nil) (.cons (.mkE "BadDeed" .nil) .nil))))) (.cons (.tup (.cons (.lit (.str "BadWeaving")) (.cons (.lst false (.cons (.lit (.str "index")) .nil)) (.cons (.mkE "BadWeaving" (.cons (.var 0) .nil)) (.cons (.mkW "BadWeaving" ["index"] (.cons (.var 0) .nil)) .nil))))) (.cons (.tup (.cons (.lit (.str "NothingToUndo")) (.cons (.lst false .nil) (.cons (.mkE "NothingToUndo" .nil) (.cons (.mkE "NothingToUndo" .nil) .nil))))) (.cons (.tup (.cons (.lit (.str "NothingToRedo")) (.cons (.lst false .nil) (.cons (.mkE "NothingToRedo" .nil) (.cons (.mkE "NothingToRedo" .nil) .nil))))) (.cons (.tup (.cons (.lit (.str "BadLine")) (.cons (.lst false (.cons (.lit (.str "index")) .nil)) (.cons (.mkE "BadLine" (.cons (.var 0) .nil)) (.cons (.mkW "BadLine" ["index"] (.cons (.var 0) .nil)) .nil))))) .nil))))))))))))))
 .nil)
def qaW:S:=
 (.cons (.set 1 (.lst false (.cons (.tup (.cons (.lit (.str "BadName")) (.cons (.isX ["BadName"] (.var 0)) .nil))) (.cons (.tup (.cons (.lit (.str "NameInUse")) (.cons (.isX ["NameInUse"] (.var 0)) .nil))) .nil))))
 (.cons (.set 1 (.bin .add (.var 1) (.lst false (.cons (.tup (.cons (.lit (.str "UnknownKind")) (.cons (.isX ["UnknownKind"] (.var 0)) .nil))) (.cons (.tup (.cons (.lit (.str "UnknownColumn")) (.cons (.isX ["UnknownColumn"] (.var 0)) .nil))) .nil)))))
 (.cons (.set 1 (.bin .add (.var 1) (.lst false (.cons (.tup (.cons (.lit (.str "BadRule")) (.cons (.isX ["BadRule"] (.var 0)) .nil))) (.cons (.tup (.cons (.lit (.str "UnknownCheck")) (.cons (.isX ["UnknownCheck"] (.var 0)) .nil))) .nil)))))
 (.cons (.set 1 (.bin .add (.var 1) (.lst false (.cons (.tup (.cons (.lit (.str "UnlikeBooks")) (.cons (.isX ["UnlikeBooks"] (.var 0)) .nil))) (.cons (.tup (.cons (.lit (.str "BadNumber")) (.cons (.isX ["BadNumber"] (.var 0)) .nil))) .nil)))))
 (.cons (.set 1 (.bin .add (.var 1) (.lst false (.cons (.tup (.cons (.lit (.str "Taken")) (.cons (.isX ["Taken"] (.var 0)) .nil))) (.cons (.tup (.cons (.lit (.str "Used")) (.cons (.isX ["Used"] (.var 0)) .nil))) (.cons (.tup (.cons (.lit (.str "NoRow")) (.cons (.isX ["NoRow"] (.var 0)) .nil))) .nil))))))
 (.cons (.set 1 (.bin .add (.var 1) (.lst false (.cons (.tup (.cons (.lit (.str "OwnOwner")) (.cons (.isX ["OwnOwner"] (.var 0)) .nil))) (.cons (.tup (.cons (.lit (.str "Refused")) (.cons (.isX ["Refused"] (.var 0)) .nil))) .nil)))))
 (.cons (.set 1 (.bin .add (.var 1) (.lst false (.cons (.tup (.cons (.lit (.str "NotOpen")) (.cons (.isX ["NotOpen"] (.var 0)) .nil))) (.cons (.tup (.cons (.lit (.str "Busy")) (.cons (.isX ["Busy"] (.var 0)) .nil))) (.cons (.tup (.cons (.lit (.str "Idle")) (.cons (.isX ["Idle"] (.var 0)) .nil))) .nil))))))
 (.cons (.set 1 (.bin .add (.var 1) (.lst false (.cons (.tup (.cons (.lit (.str "BadPiece")) (.cons (.isX ["BadPiece"] (.var 0)) .nil))) (.cons (.tup (.cons (.lit (.str "BadList")) (.cons (.isX ["BadList"] (.var 0)) .nil))) .nil)))))
 (.cons (.set 1 (.bin .add (.var 1) (.lst false (.cons (.tup (.cons (.lit (.str "NoFit")) (.cons (.isX ["NoFit"] (.var 0)) .nil))) (.cons (.tup (.cons (.lit (.str "BadQuestion")) (.cons (.isX ["BadQuestion"] (.var 0)) .nil))) .nil)))))
 (.cons (.set 1 (.bin .add (.var 1) (.lst false (.cons (.tup (.cons (.lit (.str "BadDeed")) (.cons (.isX ["BadDeed"] (.var 0)) .nil))) (.cons (.tup (.cons (.lit (.str "BadWeaving")) (.cons (.isX ["BadWeaving"] (.var 0)) .nil))) .nil)))))
 (.cons (.set 1 (.bin .add (.var 1) (.lst false (.cons (.tup (.cons (.lit (.str "NothingToUndo")) (.cons (.isX ["NothingToUndo"] (.var 0)) .nil))) (.cons (.tup (.cons (.lit (.str "NothingToRedo")) (.cons (.isX ["NothingToRedo"] (.var 0)) .nil))) .nil)))))
 (.cons (.ret (.lc false [("_law_word",2),("_law_fits",3)] (.tup [2,3]) (.it (.bin .add (.var 1) (.lst false (.cons (.tup (.cons (.lit (.str "BadLine")) (.cons (.isX ["BadLine"] (.var 0)) .nil))) .nil)))) (.cons (.var 3) .nil) (.var 2)))
 .nil))))))))))))
def qaS:S:=
 (.cons (.set 2 (.lst true .nil))
 (.cons (.ite (.cmp .in_ (.lit (.str "name")) (.var 1)) (.cons (.expr (.bm .append (.var 2) (.cons (.xatt (.var 0) "name") .nil)))
 .nil) .nil)
 (.cons (.ite (.cmp .in_ (.lit (.str "kind")) (.var 1)) (.cons (.expr (.bm .append (.var 2) (.cons (.xatt (.var 0) "kind") .nil)))
 .nil) .nil)
 (.cons (.ite (.cmp .in_ (.lit (.str "column")) (.var 1)) (.cons (.expr (.bm .append (.var 2) (.cons (.xatt (.var 0) "column") .nil)))
 .nil) .nil)
 (.cons (.ite (.cmp .in_ (.lit (.str "rule")) (.var 1)) (.cons (.expr (.bm .append (.var 2) (.cons (.xatt (.var 0) "rule") .nil)))
 .nil) .nil)
 (.cons (.ite (.cmp .in_ (.lit (.str "check")) (.var 1)) (.cons (.expr (.bm .append (.var 2) (.cons (.xatt (.var 0) "check") .nil)))
 .nil) .nil)
 (.cons (.ite (.cmp .in_ (.lit (.str "number")) (.var 1)) (.cons (.expr (.bm .append (.var 2) (.cons (.xatt (.var 0) "number") .nil)))
 .nil) .nil)
 (.cons (.ite (.cmp .in_ (.lit (.str "hand")) (.var 1)) (.cons (.expr (.bm .append (.var 2) (.cons (.xatt (.var 0) "hand") .nil)))
 .nil) .nil)
 (.cons (.ite (.cmp .in_ (.lit (.str "piece")) (.var 1)) (.cons (.expr (.bm .append (.var 2) (.cons (.xatt (.var 0) "piece") .nil)))
 .nil) .nil)
 (.cons (.ite (.cmp .in_ (.lit (.str "numbers")) (.var 1)) (.cons (.expr (.bm .append (.var 2) (.cons (.xatt (.var 0) "numbers") .nil)))
 .nil) .nil)
 (.cons (.ite (.cmp .in_ (.lit (.str "question")) (.var 1)) (.cons (.expr (.bm .append (.var 2) (.cons (.xatt (.var 0) "question") .nil)))
 .nil) .nil)
 (.cons (.ite (.cmp .in_ (.lit (.str "index")) (.var 1)) (.cons (.expr (.bm .append (.var 2) (.cons (.xatt (.var 0) "index") .nil)))
 .nil) .nil)
 (.cons (.ret (.var 2))
 .nil)))))))))))))
def tab0:List (Str × Fn):=[("law",.fnK 9 1 [] f_law),("_law_thing",.fn 3 1 [] qbq false),("_law_first_half",.fn 2 2 [] qav false),("_law_other_half",.fn 1 1 [] qau false),("_law_same",.fn 2 2 [] qbg false),("_law_classes",.fn 4 1 [] qaW false),("_law_fields",.fn 3 2 [] qaS false),("_law_draw",.fn 4 2 [] qag false),("_law_pick",.fn 2 2 [] qbc false)]
def tab:List (Str × Fn):=tab0
def qqh:List (Str × Str):=[]
def flds:List (Str × Str):=qqh
def qq0:List (Str × Str):=[]
def mets:List (Str × Str):=qq0
def glos:List (Str × P):=[]
def tabs:List (Str × List (Str × P)):=[]
def fns0:List Str:=["_law_thing","_law_first_half","_law_other_half","_law_same","_law_classes","_law_fields","_law_draw","_law_pick"]
def fns:List Str:=fns0
def qox:List Str:=[]
def fnKs:List Str:=qox
def qnP:List (Str × Str):=[]
def qpU:List (Str × Str):=qnP
def qoO:List Str:=[]
def fnHs:List Str:=qoO
def qpv:List Str:=[]
def hdls:List Str:=qpv
def qoX:List Str:=[]
def isCs:List Str:=qoX
def qo8:List (Str × List Str):=[("UnknownKind",["kind"]),("NoRow",["kind","number"]),("UnknownColumn",["column"]),("BadNumber",["number"]),("Taken",["kind","number"]),("Used",["kind","number"]),("OwnOwner",["column"]),("NotOpen",["kind"]),("BadPiece",["piece"]),("Busy",["hand"]),("BadList",["numbers"]),("NoFit",["number"]),("Idle",["hand"]),("Refused",["check"]),("BadName",["name"]),("NameInUse",["name"]),("BadRule",["rule"]),("UnknownCheck",["check"]),("UnlikeBooks",[]),("BadQuestion",["question"])]
def qqr:List (Str × List Str):=[("BadDeed",[]),("BadWeaving",["index"]),("NothingToUndo",[]),("NothingToRedo",[]),("BadLine",["index"])]
def excs:List (Str × List Str):=qo8++qqr
def qoP:List ((Str × Str) × Bool):=[]
def subs:List ((Str × Str) × Bool):=qoP
def qqA:List (Str × Str):=[("UnknownKind","kind"),("NoRow","kind"),("NoRow","number"),("UnknownColumn","column"),("BadNumber","number"),("Taken","kind"),("Taken","number"),("Used","kind"),("Used","number"),("OwnOwner","column"),("NotOpen","kind"),("BadPiece","piece"),("Busy","hand"),("BadList","numbers"),("NoFit","number"),("Idle","hand"),("Refused","check"),("BadName","name"),("NameInUse","name"),("BadRule","rule")]
def qp5:List (Str × Str):=[("UnknownCheck","check"),("BadQuestion","question"),("BadWeaving","index"),("BadLine","index")]
def xfls:List (Str × Str):=qqA++qp5
def qqs:List Str:=["BadDeed","BadLine","BadList","BadName","BadNumber","BadPiece","BadQuestion","BadRule","BadWeaving","Busy","Idle","NameInUse","NoFit","NoRow","NotOpen","NothingToRedo","NothingToUndo","OwnOwner","Refused","StrikeError"]
def qo7:List Str:=["Taken","UnknownCheck","UnknownColumn","UnknownKind","UnlikeBooks","Used"]
def isns:List Str:=qqs++qo7
def qo3:List (Str × List (Str × Bool)):=[("UnknownKind",[("BadDeed",false),("BadLine",false),("BadList",false),("BadName",false),("BadNumber",false),("BadPiece",false),("BadQuestion",false),("BadRule",false),("BadWeaving",false),("Busy",false),("Idle",false),("NameInUse",false),("NoFit",false),("NoRow",false),("NotOpen",false),("NothingToRedo",false),("NothingToUndo",false),("OwnOwner",false),("Refused",false),("StrikeError",true),("Taken",false),("UnknownCheck",false),("UnknownColumn",false),("UnknownKind",true),("UnlikeBooks",false),("Used",false)]),("NoRow",[("BadDeed",false),("BadLine",false),("BadList",false),("BadName",false),("BadNumber",false),("BadPiece",false),("BadQuestion",false),("BadRule",false),("BadWeaving",false),("Busy",false),("Idle",false),("NameInUse",false),("NoFit",false),("NoRow",true),("NotOpen",false),("NothingToRedo",false),("NothingToUndo",false),("OwnOwner",false),("Refused",false),("StrikeError",true),("Taken",false),("UnknownCheck",false),("UnknownColumn",false),("UnknownKind",false),("UnlikeBooks",false),("Used",false)]),("UnknownColumn",[("BadDeed",false),("BadLine",false),("BadList",false),("BadName",false),("BadNumber",false),("BadPiece",false),("BadQuestion",false),("BadRule",false),("BadWeaving",false),("Busy",false),("Idle",false),("NameInUse",false),("NoFit",false),("NoRow",false),("NotOpen",false),("NothingToRedo",false),("NothingToUndo",false),("OwnOwner",false),("Refused",false),("StrikeError",true),("Taken",false),("UnknownCheck",false),("UnknownColumn",true),("UnknownKind",false),("UnlikeBooks",false),("Used",false)]),("BadNumber",[("BadDeed",false),("BadLine",false),("BadList",false),("BadName",false),("BadNumber",true),("BadPiece",false),("BadQuestion",false),("BadRule",false),("BadWeaving",false),("Busy",false),("Idle",false),("NameInUse",false),("NoFit",false),("NoRow",false),("NotOpen",false),("NothingToRedo",false),("NothingToUndo",false),("OwnOwner",false),("Refused",false),("StrikeError",true),("Taken",false),("UnknownCheck",false),("UnknownColumn",false),("UnknownKind",false),("UnlikeBooks",false),("Used",false)]),("Taken",[("BadDeed",false),("BadLine",false),("BadList",false),("BadName",false),("BadNumber",false),("BadPiece",false),("BadQuestion",false),("BadRule",false),("BadWeaving",false),("Busy",false),("Idle",false),("NameInUse",false),("NoFit",false),("NoRow",false),("NotOpen",false),("NothingToRedo",false),("NothingToUndo",false),("OwnOwner",false),("Refused",false),("StrikeError",true),("Taken",true),("UnknownCheck",false),("UnknownColumn",false),("UnknownKind",false),("UnlikeBooks",false),("Used",false)]),("Used",[("BadDeed",false),("BadLine",false),("BadList",false),("BadName",false),("BadNumber",false),("BadPiece",false),("BadQuestion",false),("BadRule",false),("BadWeaving",false),("Busy",false),("Idle",false),("NameInUse",false),("NoFit",false),("NoRow",false),("NotOpen",false),("NothingToRedo",false),("NothingToUndo",false),("OwnOwner",false),("Refused",false),("StrikeError",true),("Taken",false),("UnknownCheck",false),("UnknownColumn",false),("UnknownKind",false),("UnlikeBooks",false),("Used",true)]),("OwnOwner",[("BadDeed",false),("BadLine",false),("BadList",false),("BadName",false),("BadNumber",false),("BadPiece",false),("BadQuestion",false),("BadRule",false),("BadWeaving",false),("Busy",false),("Idle",false),("NameInUse",false),("NoFit",false),("NoRow",false),("NotOpen",false),("NothingToRedo",false),("NothingToUndo",false),("OwnOwner",true),("Refused",false),("StrikeError",true),("Taken",false),("UnknownCheck",false),("UnknownColumn",false),("UnknownKind",false),("UnlikeBooks",false),("Used",false)]),("NotOpen",[("BadDeed",false),("BadLine",false),("BadList",false),("BadName",false),("BadNumber",false),("BadPiece",false),("BadQuestion",false),("BadRule",false),("BadWeaving",false),("Busy",false),("Idle",false),("NameInUse",false),("NoFit",false),("NoRow",false),("NotOpen",true),("NothingToRedo",false),("NothingToUndo",false),("OwnOwner",false),("Refused",false),("StrikeError",true),("Taken",false),("UnknownCheck",false),("UnknownColumn",false),("UnknownKind",false),("UnlikeBooks",false),("Used",false)]),("BadPiece",[("BadDeed",false),("BadLine",false),("BadList",false),("BadName",false),("BadNumber",false),("BadPiece",true),("BadQuestion",false),("BadRule",false),("BadWeaving",false),("Busy",false),("Idle",false),("NameInUse",false),("NoFit",false),("NoRow",false),("NotOpen",false),("NothingToRedo",false),("NothingToUndo",false),("OwnOwner",false),("Refused",false),("StrikeError",true),("Taken",false),("UnknownCheck",false),("UnknownColumn",false),("UnknownKind",false),("UnlikeBooks",false),("Used",false)]),("Busy",[("BadDeed",false),("BadLine",false),("BadList",false),("BadName",false),("BadNumber",false),("BadPiece",false),("BadQuestion",false),("BadRule",false),("BadWeaving",false),("Busy",true),("Idle",false),("NameInUse",false),("NoFit",false),("NoRow",false),("NotOpen",false),("NothingToRedo",false),("NothingToUndo",false),("OwnOwner",false),("Refused",false),("StrikeError",true),("Taken",false),("UnknownCheck",false),("UnknownColumn",false),("UnknownKind",false),("UnlikeBooks",false),("Used",false)]),("BadList",[("BadDeed",false),("BadLine",false),("BadList",true),("BadName",false),("BadNumber",false),("BadPiece",false),("BadQuestion",false),("BadRule",false),("BadWeaving",false),("Busy",false),("Idle",false),("NameInUse",false),("NoFit",false),("NoRow",false),("NotOpen",false),("NothingToRedo",false),("NothingToUndo",false),("OwnOwner",false),("Refused",false),("StrikeError",true),("Taken",false),("UnknownCheck",false),("UnknownColumn",false),("UnknownKind",false),("UnlikeBooks",false),("Used",false)]),("NoFit",[("BadDeed",false),("BadLine",false),("BadList",false),("BadName",false),("BadNumber",false),("BadPiece",false),("BadQuestion",false),("BadRule",false),("BadWeaving",false),("Busy",false),("Idle",false),("NameInUse",false),("NoFit",true),("NoRow",false),("NotOpen",false),("NothingToRedo",false),("NothingToUndo",false),("OwnOwner",false),("Refused",false),("StrikeError",true),("Taken",false),("UnknownCheck",false),("UnknownColumn",false),("UnknownKind",false),("UnlikeBooks",false),("Used",false)]),("Idle",[("BadDeed",false),("BadLine",false),("BadList",false),("BadName",false),("BadNumber",false),("BadPiece",false),("BadQuestion",false),("BadRule",false),("BadWeaving",false),("Busy",false),("Idle",true),("NameInUse",false),("NoFit",false),("NoRow",false),("NotOpen",false),("NothingToRedo",false),("NothingToUndo",false),("OwnOwner",false),("Refused",false),("StrikeError",true),("Taken",false),("UnknownCheck",false),("UnknownColumn",false),("UnknownKind",false),("UnlikeBooks",false),("Used",false)]),("Refused",[("BadDeed",false),("BadLine",false),("BadList",false),("BadName",false),("BadNumber",false),("BadPiece",false),("BadQuestion",false),("BadRule",false),("BadWeaving",false),("Busy",false),("Idle",false),("NameInUse",false),("NoFit",false),("NoRow",false),("NotOpen",false),("NothingToRedo",false),("NothingToUndo",false),("OwnOwner",false),("Refused",true),("StrikeError",true),("Taken",false),("UnknownCheck",false),("UnknownColumn",false),("UnknownKind",false),("UnlikeBooks",false),("Used",false)]),("BadName",[("BadDeed",false),("BadLine",false),("BadList",false),("BadName",true),("BadNumber",false),("BadPiece",false),("BadQuestion",false),("BadRule",false),("BadWeaving",false),("Busy",false),("Idle",false),("NameInUse",false),("NoFit",false),("NoRow",false),("NotOpen",false),("NothingToRedo",false),("NothingToUndo",false),("OwnOwner",false),("Refused",false),("StrikeError",true),("Taken",false),("UnknownCheck",false),("UnknownColumn",false),("UnknownKind",false),("UnlikeBooks",false),("Used",false)]),("NameInUse",[("BadDeed",false),("BadLine",false),("BadList",false),("BadName",false),("BadNumber",false),("BadPiece",false),("BadQuestion",false),("BadRule",false),("BadWeaving",false),("Busy",false),("Idle",false),("NameInUse",true),("NoFit",false),("NoRow",false),("NotOpen",false),("NothingToRedo",false),("NothingToUndo",false),("OwnOwner",false),("Refused",false),("StrikeError",true),("Taken",false),("UnknownCheck",false),("UnknownColumn",false),("UnknownKind",false),("UnlikeBooks",false),("Used",false)]),("BadRule",[("BadDeed",false),("BadLine",false),("BadList",false),("BadName",false),("BadNumber",false),("BadPiece",false),("BadQuestion",false),("BadRule",true),("BadWeaving",false),("Busy",false),("Idle",false),("NameInUse",false),("NoFit",false),("NoRow",false),("NotOpen",false),("NothingToRedo",false),("NothingToUndo",false),("OwnOwner",false),("Refused",false),("StrikeError",true),("Taken",false),("UnknownCheck",false),("UnknownColumn",false),("UnknownKind",false),("UnlikeBooks",false),("Used",false)]),("UnknownCheck",[("BadDeed",false),("BadLine",false),("BadList",false),("BadName",false),("BadNumber",false),("BadPiece",false),("BadQuestion",false),("BadRule",false),("BadWeaving",false),("Busy",false),("Idle",false),("NameInUse",false),("NoFit",false),("NoRow",false),("NotOpen",false),("NothingToRedo",false),("NothingToUndo",false),("OwnOwner",false),("Refused",false),("StrikeError",true),("Taken",false),("UnknownCheck",true),("UnknownColumn",false),("UnknownKind",false),("UnlikeBooks",false),("Used",false)]),("UnlikeBooks",[("BadDeed",false),("BadLine",false),("BadList",false),("BadName",false),("BadNumber",false),("BadPiece",false),("BadQuestion",false),("BadRule",false),("BadWeaving",false),("Busy",false),("Idle",false),("NameInUse",false),("NoFit",false),("NoRow",false),("NotOpen",false),("NothingToRedo",false),("NothingToUndo",false),("OwnOwner",false),("Refused",false),("StrikeError",true),("Taken",false),("UnknownCheck",false),("UnknownColumn",false),("UnknownKind",false),("UnlikeBooks",true),("Used",false)]),("BadQuestion",[("BadDeed",false),("BadLine",false),("BadList",false),("BadName",false),("BadNumber",false),("BadPiece",false),("BadQuestion",true),("BadRule",false),("BadWeaving",false),("Busy",false),("Idle",false),("NameInUse",false),("NoFit",false),("NoRow",false),("NotOpen",false),("NothingToRedo",false),("NothingToUndo",false),("OwnOwner",false),("Refused",false),("StrikeError",true),("Taken",false),("UnknownCheck",false),("UnknownColumn",false),("UnknownKind",false),("UnlikeBooks",false),("Used",false)])]
def qqt:List (Str × List (Str × Bool)):=[("BadDeed",[("BadDeed",true),("BadLine",false),("BadList",false),("BadName",false),("BadNumber",false),("BadPiece",false),("BadQuestion",false),("BadRule",false),("BadWeaving",false),("Busy",false),("Idle",false),("NameInUse",false),("NoFit",false),("NoRow",false),("NotOpen",false),("NothingToRedo",false),("NothingToUndo",false),("OwnOwner",false),("Refused",false),("StrikeError",true),("Taken",false),("UnknownCheck",false),("UnknownColumn",false),("UnknownKind",false),("UnlikeBooks",false),("Used",false)]),("BadWeaving",[("BadDeed",false),("BadLine",false),("BadList",false),("BadName",false),("BadNumber",false),("BadPiece",false),("BadQuestion",false),("BadRule",false),("BadWeaving",true),("Busy",false),("Idle",false),("NameInUse",false),("NoFit",false),("NoRow",false),("NotOpen",false),("NothingToRedo",false),("NothingToUndo",false),("OwnOwner",false),("Refused",false),("StrikeError",true),("Taken",false),("UnknownCheck",false),("UnknownColumn",false),("UnknownKind",false),("UnlikeBooks",false),("Used",false)]),("NothingToUndo",[("BadDeed",false),("BadLine",false),("BadList",false),("BadName",false),("BadNumber",false),("BadPiece",false),("BadQuestion",false),("BadRule",false),("BadWeaving",false),("Busy",false),("Idle",false),("NameInUse",false),("NoFit",false),("NoRow",false),("NotOpen",false),("NothingToRedo",false),("NothingToUndo",true),("OwnOwner",false),("Refused",false),("StrikeError",true),("Taken",false),("UnknownCheck",false),("UnknownColumn",false),("UnknownKind",false),("UnlikeBooks",false),("Used",false)]),("NothingToRedo",[("BadDeed",false),("BadLine",false),("BadList",false),("BadName",false),("BadNumber",false),("BadPiece",false),("BadQuestion",false),("BadRule",false),("BadWeaving",false),("Busy",false),("Idle",false),("NameInUse",false),("NoFit",false),("NoRow",false),("NotOpen",false),("NothingToRedo",true),("NothingToUndo",false),("OwnOwner",false),("Refused",false),("StrikeError",true),("Taken",false),("UnknownCheck",false),("UnknownColumn",false),("UnknownKind",false),("UnlikeBooks",false),("Used",false)]),("BadLine",[("BadDeed",false),("BadLine",true),("BadList",false),("BadName",false),("BadNumber",false),("BadPiece",false),("BadQuestion",false),("BadRule",false),("BadWeaving",false),("Busy",false),("Idle",false),("NameInUse",false),("NoFit",false),("NoRow",false),("NotOpen",false),("NothingToRedo",false),("NothingToUndo",false),("OwnOwner",false),("Refused",false),("StrikeError",true),("Taken",false),("UnknownCheck",false),("UnknownColumn",false),("UnknownKind",false),("UnlikeBooks",false),("Used",false)])]
def isxs:List (Str × List (Str × Bool)):=qo3++qqt
def T (f:Str):Option Fn:=tab.lookup f
def gm:Gm:={ fu:=6000,glo:=fun x=>glos.lookup x,fld:=fun c f=>flds.contains (c,f),fn:=fun f=>fns.contains f,met:=fun c m=>mets.contains (c,m),hdl:=fun x=>hdls.contains x,fnK:=fun f=>fnKs.contains f,cls:=fun c=>isCs.contains c,metK:=fun c m=>qpU.contains (c,m),tab:=fun x=>tabs.lookup x,fnH:=fun f=>fnHs.contains f,exc:=fun c=>excs.lookup c,sub:=fun c x=>subs.lookup (c,x),xfl:=fun c f=>xfls.contains (c,f),isn:=fun x=>isns.contains x,isx:=fun c x=>(isxs.lookup c).bind fun z=>z.lookup x }
end LS
set_option maxHeartbeats 0
namespace LS
open PySem PySem.Spec PyProof.Rows L2
theorem qnm:FnScope ["_law_script","_law_stream","_law_a","_law_b","_law_word","_law_fields_here","_law_one","_law_other","_law_e"] ["_law_script"] (defScope qhC):=⟨rfl,rfl,rfl,by decide +kernel,rfl,by decide +kernel,by decide +kernel⟩
theorem qnG:chSs ⟨["_law_script","_law_stream","_law_a","_law_b","_law_word","_law_fields_here","_law_one","_law_other","_law_e"],defScope qhC,fun _=>true,true⟩ f_law (defBody qhC)=true:=by decide +kernel
theorem qe9:FnScope ["_law_stream","_law_way","_law_k"] ["_law_stream"] (defScope qa1):=⟨rfl,rfl,rfl,by decide +kernel,rfl,by decide +kernel,by decide +kernel⟩
theorem qeU:chSs ⟨["_law_stream","_law_way","_law_k"],defScope qa1,fun _=>true,true⟩ qbq (defBody qa1)=true:=by decide +kernel
theorem qcX:FnScope ["_law_a","_law_b"] ["_law_a","_law_b"] (defScope qat):=⟨rfl,rfl,rfl,by decide +kernel,rfl,by decide +kernel,by decide +kernel⟩
theorem qcN:chSs ⟨["_law_a","_law_b"],defScope qat,fun _=>true,true⟩ qav (defBody qat)=true:=by decide +kernel
theorem qcQ:FnScope ["_law_a"] ["_law_a"] (defScope qaw):=⟨rfl,rfl,rfl,by decide +kernel,rfl,by decide +kernel,by decide +kernel⟩
theorem qcR:chSs ⟨["_law_a"],defScope qaw,fun _=>true,true⟩ qau (defBody qaw)=true:=by decide +kernel
theorem qfp:FnScope ["_law_found","_law_due"] ["_law_found","_law_due"] (defScope qbd):=⟨rfl,rfl,rfl,by decide +kernel,rfl,by decide +kernel,by decide +kernel⟩
theorem qfN:chSs ⟨["_law_found","_law_due"],defScope qbd,fun _=>true,true⟩ qbg (defBody qbd)=true:=by decide +kernel
theorem qdX:FnScope ["_law_e","_law_rows","_law_word","_law_fits"] ["_law_e"] (defScope qaI):=⟨rfl,rfl,rfl,by decide +kernel,rfl,by decide +kernel,by decide +kernel⟩
theorem qdP:chSs ⟨["_law_e","_law_rows","_law_word","_law_fits"],defScope qaI,fun _=>true,true⟩ qaW (defBody qaI)=true:=by decide +kernel
theorem qef:FnScope ["_law_e","_law_row","_law_found"] ["_law_e","_law_row"] (defScope qaO):=⟨rfl,rfl,rfl,by decide +kernel,rfl,by decide +kernel,by decide +kernel⟩
theorem qep:chSs ⟨["_law_e","_law_row","_law_found"],defScope qaO,fun _=>true,true⟩ qaS (defBody qaO)=true:=by decide +kernel
theorem qfu:FnScope ["_law_stream","_law_many","_law_mixed","_law_digit"] ["_law_stream","_law_many"] (defScope qbb):=⟨rfl,rfl,rfl,by decide +kernel,rfl,by decide +kernel,by decide +kernel⟩
theorem qfT:chSs ⟨["_law_stream","_law_many","_law_mixed","_law_digit"],defScope qbb,fun _=>true,true⟩ qag (defBody qbb)=true:=by decide +kernel
theorem qfV:FnScope ["_law_stream","_law_things"] ["_law_stream","_law_things"] (defScope qbf):=⟨rfl,rfl,rfl,by decide +kernel,rfl,by decide +kernel,by decide +kernel⟩
theorem qfC:chSs ⟨["_law_stream","_law_things"],defScope qbf,fun _=>true,true⟩ qbc (defBody qbf)=true:=by decide +kernel
theorem qcE:FnScope ["self","kind"] ["self","kind"] (defScope qaJ):=⟨rfl,rfl,rfl,by decide +kernel,rfl,by decide +kernel,by decide +kernel⟩
theorem qfd:FnScope ["self","kind","number"] ["self","kind","number"] (defScope qbK):=⟨rfl,rfl,rfl,by decide +kernel,rfl,by decide +kernel,by decide +kernel⟩
theorem qcg:FnScope ["self","column"] ["self","column"] (defScope qaA):=⟨rfl,rfl,rfl,by decide +kernel,rfl,by decide +kernel,by decide +kernel⟩
theorem qdb:FnScope ["self","number"] ["self","number"] (defScope qaY):=⟨rfl,rfl,rfl,by decide +kernel,rfl,by decide +kernel,by decide +kernel⟩
theorem qfb:FnScope ["self","kind","number"] ["self","kind","number"] (defScope qbM):=⟨rfl,rfl,rfl,by decide +kernel,rfl,by decide +kernel,by decide +kernel⟩
theorem qfS:FnScope ["self","kind","number"] ["self","kind","number"] (defScope qb2):=⟨rfl,rfl,rfl,by decide +kernel,rfl,by decide +kernel,by decide +kernel⟩
theorem qdm:FnScope ["self","column"] ["self","column"] (defScope qa3):=⟨rfl,rfl,rfl,by decide +kernel,rfl,by decide +kernel,by decide +kernel⟩
theorem qdQ:FnScope ["self","kind"] ["self","kind"] (defScope qbl):=⟨rfl,rfl,rfl,by decide +kernel,rfl,by decide +kernel,by decide +kernel⟩
theorem qdi:FnScope ["self","piece"] ["self","piece"] (defScope qa4):=⟨rfl,rfl,rfl,by decide +kernel,rfl,by decide +kernel,by decide +kernel⟩
theorem qfO:FnScope ["self","hand"] ["self","hand"] (defScope qb1):=⟨rfl,rfl,rfl,by decide +kernel,rfl,by decide +kernel,by decide +kernel⟩
theorem qdv:FnScope ["self","numbers"] ["self","numbers"] (defScope qbh):=⟨rfl,rfl,rfl,by decide +kernel,rfl,by decide +kernel,by decide +kernel⟩
theorem qeL:FnScope ["self","number"] ["self","number"] (defScope qbJ):=⟨rfl,rfl,rfl,by decide +kernel,rfl,by decide +kernel,by decide +kernel⟩
theorem qfA:FnScope ["self","hand"] ["self","hand"] (defScope qbZ):=⟨rfl,rfl,rfl,by decide +kernel,rfl,by decide +kernel,by decide +kernel⟩
theorem qd5:FnScope ["self","check"] ["self","check"] (defScope qbm):=⟨rfl,rfl,rfl,by decide +kernel,rfl,by decide +kernel,by decide +kernel⟩
theorem qdu:FnScope ["self","name"] ["self","name"] (defScope qbi):=⟨rfl,rfl,rfl,by decide +kernel,rfl,by decide +kernel,by decide +kernel⟩
theorem qda:FnScope ["self","name"] ["self","name"] (defScope qaZ):=⟨rfl,rfl,rfl,by decide +kernel,rfl,by decide +kernel,by decide +kernel⟩
theorem qd0:FnScope ["self","rule"] ["self","rule"] (defScope qbn):=⟨rfl,rfl,rfl,by decide +kernel,rfl,by decide +kernel,by decide +kernel⟩
theorem qcs:FnScope ["self","check"] ["self","check"] (defScope qaD):=⟨rfl,rfl,rfl,by decide +kernel,rfl,by decide +kernel,by decide +kernel⟩
theorem qcD:FnScope ["self","question"] ["self","question"] (defScope qaK):=⟨rfl,rfl,rfl,by decide +kernel,rfl,by decide +kernel,by decide +kernel⟩
theorem qcJ:FnScope ["self","index"] ["self","index"] (defScope qaR):=⟨rfl,rfl,rfl,by decide +kernel,rfl,by decide +kernel,by decide +kernel⟩
theorem qdA:FnScope ["self","index"] ["self","index"] (defScope qbj):=⟨rfl,rfl,rfl,by decide +kernel,rfl,by decide +kernel,by decide +kernel⟩
section
variable {K:PySem.W.Frag} {h:Heap} {mg:Str→Option Value}
theorem qmX (c:He.SaysD faL fnL K) (he:exB K=true):FnAt K (He.fAd K ("law",none)) 9 1 [] f_law:=by
 obtain ⟨fd,F⟩:=c.def_ 0 (d:=qmx) rfl
 exact ⟨_,_,_,_,_,_,_,fd,["_law_script","_law_stream","_law_a","_law_b","_law_word","_law_fields_here","_law_one","_law_other","_law_e"],["_law_script"],[],F,qnm,rfl,rfl,fun _=>by simp [qab],fun j _=>⟨[],by rw [List.drop_nil];exact .nil,F.bindsN fun _ _ _ _ _ _ us hl=>match us,hl with | [_],_=>rfl⟩,qnG⟩
theorem qeE (c:He.SaysD faL fnL K) (he:exB K=true):FnAt K (He.fAd K ("_law_thing",none)) 3 1 [] qbq:=by
 obtain ⟨fd,F⟩:=c.def_ 1 (d:=qcd) rfl
 exact ⟨_,_,_,_,_,_,_,fd,["_law_stream","_law_way","_law_k"],["_law_stream"],[],F,qe9,rfl,rfl,fun _=>by simp [qab],fun j _=>⟨[],by rw [List.drop_nil];exact .nil,F.bindsN fun _ _ _ _ _ _ us hl=>match us,hl with | [_],_=>rfl⟩,qeU⟩
theorem qcP (c:He.SaysD faL fnL K) (he:exB K=true):FnAt K (He.fAd K ("_law_first_half",none)) 2 2 [] qav:=by
 obtain ⟨fd,F⟩:=c.def_ 2 (d:=qa9) rfl
 exact ⟨_,_,_,_,_,_,_,fd,["_law_a","_law_b"],["_law_a","_law_b"],[],F,qcX,rfl,rfl,fun _=>by simp [qab],fun j _=>⟨[],by rw [List.drop_nil];exact .nil,F.bindsN fun _ _ _ _ _ _ us hl=>match us,hl with | [_,_],_=>rfl⟩,qcN⟩
theorem qcL (c:He.SaysD faL fnL K) (he:exB K=true):FnAt K (He.fAd K ("_law_other_half",none)) 1 1 [] qau:=by
 obtain ⟨fd,F⟩:=c.def_ 3 (d:=qbe) rfl
 exact ⟨_,_,_,_,_,_,_,fd,["_law_a"],["_law_a"],[],F,qcQ,rfl,rfl,fun _=>by simp [qab],fun j _=>⟨[],by rw [List.drop_nil];exact .nil,F.bindsN fun _ _ _ _ _ _ us hl=>match us,hl with | [_],_=>rfl⟩,qcR⟩
theorem qfR (c:He.SaysD faL fnL K) (he:exB K=true):FnAt K (He.fAd K ("_law_same",none)) 2 2 [] qbg:=by
 obtain ⟨fd,F⟩:=c.def_ 4 (d:=qcC) rfl
 exact ⟨_,_,_,_,_,_,_,fd,["_law_found","_law_due"],["_law_found","_law_due"],[],F,qfp,rfl,rfl,fun _=>by simp [qab],fun j _=>⟨[],by rw [List.drop_nil];exact .nil,F.bindsN fun _ _ _ _ _ _ us hl=>match us,hl with | [_,_],_=>rfl⟩,qfN⟩
theorem qdJ (c:He.SaysD faL fnL K) (he:exB K=true):FnAt K (He.fAd K ("_law_classes",none)) 4 1 [] qaW:=by
 obtain ⟨fd,F⟩:=c.def_ 5 (d:=qbQ) rfl
 exact ⟨_,_,_,_,_,_,_,fd,["_law_e","_law_rows","_law_word","_law_fits"],["_law_e"],[],F,qdX,rfl,rfl,fun _=>by simp [qab],fun j _=>⟨[],by rw [List.drop_nil];exact .nil,F.bindsN fun _ _ _ _ _ _ us hl=>match us,hl with | [_],_=>rfl⟩,qdP⟩
theorem qec (c:He.SaysD faL fnL K) (he:exB K=true):FnAt K (He.fAd K ("_law_fields",none)) 3 2 [] qaS:=by
 obtain ⟨fd,F⟩:=c.def_ 6 (d:=qbW) rfl
 exact ⟨_,_,_,_,_,_,_,fd,["_law_e","_law_row","_law_found"],["_law_e","_law_row"],[],F,qef,rfl,rfl,fun _=>by simp [qab],fun j _=>⟨[],by rw [List.drop_nil];exact .nil,F.bindsN fun _ _ _ _ _ _ us hl=>match us,hl with | [_,_],_=>rfl⟩,qep⟩
theorem qfj (c:He.SaysD faL fnL K) (he:exB K=true):FnAt K (He.fAd K ("_law_draw",none)) 4 2 [] qag:=by
 obtain ⟨fd,F⟩:=c.def_ 7 (d:=qcF) rfl
 exact ⟨_,_,_,_,_,_,_,fd,["_law_stream","_law_many","_law_mixed","_law_digit"],["_law_stream","_law_many"],[],F,qfu,rfl,rfl,fun _=>by simp [qab],fun j _=>⟨[],by rw [List.drop_nil];exact .nil,F.bindsN fun _ _ _ _ _ _ us hl=>match us,hl with | [_,_],_=>rfl⟩,qfT⟩
theorem qf6 (c:He.SaysD faL fnL K) (he:exB K=true):FnAt K (He.fAd K ("_law_pick",none)) 2 2 [] qbc:=by
 obtain ⟨fd,F⟩:=c.def_ 8 (d:=qcG) rfl
 exact ⟨_,_,_,_,_,_,_,fd,["_law_stream","_law_things"],["_law_stream","_law_things"],[],F,qfV,rfl,rfl,fun _=>by simp [qab],fun j _=>⟨[],by rw [List.drop_nil];exact .nil,F.bindsN fun _ _ _ _ _ _ us hl=>match us,hl with | [_,_],_=>rfl⟩,qfC⟩
theorem qem (c:He.SaysD faL fnL K) (he:exB K=true):qaN K "UnknownKind" ["kind"]:=by
 obtain ⟨fd,F⟩:=c.def_ 9 (d:=qbH) rfl
 have hi:=qal (ex_0 he) (by decide)
 exact ⟨_,_,_,_,_,_,_,_,fd,["self","kind"],["self","kind"],hi.1,hi.2,F,qcE,rfl,by decide +kernel,F.bindsN fun _ _ _ _ _ _ us hl=>match us,hl with | [_,_],_=>rfl,qaX F fun _ _ _ _ _ _ u ws hl=>match ws,hl with | [_],_=>rfl⟩
theorem qjK (c:He.SaysD faL fnL K) (he:exB K=true):qaN K "NoRow" ["kind","number"]:=by
 obtain ⟨fd,F⟩:=c.def_ 10 (d:=qdh) rfl
 have hi:=qal (ex_1 he) (by decide)
 exact ⟨_,_,_,_,_,_,_,_,fd,["self","kind","number"],["self","kind","number"],hi.1,hi.2,F,qfd,rfl,by decide +kernel,F.bindsN fun _ _ _ _ _ _ us hl=>match us,hl with | [_,_,_],_=>rfl,qaX F fun _ _ _ _ _ _ u ws hl=>match ws,hl with | [_,_],_=>rfl⟩
theorem qdn (c:He.SaysD faL fnL K) (he:exB K=true):qaN K "UnknownColumn" ["column"]:=by
 obtain ⟨fd,F⟩:=c.def_ 11 (d:=qbu) rfl
 have hi:=qal (ex_2 he) (by decide)
 exact ⟨_,_,_,_,_,_,_,_,fd,["self","column"],["self","column"],hi.1,hi.2,F,qcg,rfl,by decide +kernel,F.bindsN fun _ _ _ _ _ _ us hl=>match us,hl with | [_,_],_=>rfl,qaX F fun _ _ _ _ _ _ u ws hl=>match ws,hl with | [_],_=>rfl⟩
theorem qfh (c:He.SaysD faL fnL K) (he:exB K=true):qaN K "BadNumber" ["number"]:=by
 obtain ⟨fd,F⟩:=c.def_ 12 (d:=qb8) rfl
 have hi:=qal (ex_3 he) (by decide)
 exact ⟨_,_,_,_,_,_,_,_,fd,["self","number"],["self","number"],hi.1,hi.2,F,qdb,rfl,by decide +kernel,F.bindsN fun _ _ _ _ _ _ us hl=>match us,hl with | [_,_],_=>rfl,qaX F fun _ _ _ _ _ _ u ws hl=>match ws,hl with | [_],_=>rfl⟩
theorem qjv (c:He.SaysD faL fnL K) (he:exB K=true):qaN K "Taken" ["kind","number"]:=by
 obtain ⟨fd,F⟩:=c.def_ 13 (d:=qde) rfl
 have hi:=qal (ex_4 he) (by decide)
 exact ⟨_,_,_,_,_,_,_,_,fd,["self","kind","number"],["self","kind","number"],hi.1,hi.2,F,qfb,rfl,by decide +kernel,F.bindsN fun _ _ _ _ _ _ us hl=>match us,hl with | [_,_,_],_=>rfl,qaX F fun _ _ _ _ _ _ u ws hl=>match ws,hl with | [_,_],_=>rfl⟩
theorem qkV (c:He.SaysD faL fnL K) (he:exB K=true):qaN K "Used" ["kind","number"]:=by
 obtain ⟨fd,F⟩:=c.def_ 14 (d:=qdH) rfl
 have hi:=qal (ex_5 he) (by decide)
 exact ⟨_,_,_,_,_,_,_,_,fd,["self","kind","number"],["self","kind","number"],hi.1,hi.2,F,qfS,rfl,by decide +kernel,F.bindsN fun _ _ _ _ _ _ us hl=>match us,hl with | [_,_,_],_=>rfl,qaX F fun _ _ _ _ _ _ u ws hl=>match ws,hl with | [_,_],_=>rfl⟩
theorem qgK (c:He.SaysD faL fnL K) (he:exB K=true):qaN K "OwnOwner" ["column"]:=by
 obtain ⟨fd,F⟩:=c.def_ 15 (d:=qci) rfl
 have hi:=qal (ex_6 he) (by decide)
 exact ⟨_,_,_,_,_,_,_,_,fd,["self","column"],["self","column"],hi.1,hi.2,F,qdm,rfl,by decide +kernel,F.bindsN fun _ _ _ _ _ _ us hl=>match us,hl with | [_,_],_=>rfl,qaX F fun _ _ _ _ _ _ u ws hl=>match ws,hl with | [_],_=>rfl⟩
theorem qhv (c:He.SaysD faL fnL K) (he:exB K=true):qaN K "NotOpen" ["kind"]:=by
 obtain ⟨fd,F⟩:=c.def_ 16 (d:=qcu) rfl
 have hi:=qal (ex_7 he) (by decide)
 exact ⟨_,_,_,_,_,_,_,_,fd,["self","kind"],["self","kind"],hi.1,hi.2,F,qdQ,rfl,by decide +kernel,F.bindsN fun _ _ _ _ _ _ us hl=>match us,hl with | [_,_],_=>rfl,qaX F fun _ _ _ _ _ _ u ws hl=>match ws,hl with | [_],_=>rfl⟩
theorem qgd (c:He.SaysD faL fnL K) (he:exB K=true):qaN K "BadPiece" ["piece"]:=by
 obtain ⟨fd,F⟩:=c.def_ 17 (d:=qce) rfl
 have hi:=qal (ex_8 he) (by decide)
 exact ⟨_,_,_,_,_,_,_,_,fd,["self","piece"],["self","piece"],hi.1,hi.2,F,qdi,rfl,by decide +kernel,F.bindsN fun _ _ _ _ _ _ us hl=>match us,hl with | [_,_],_=>rfl,qaX F fun _ _ _ _ _ _ u ws hl=>match ws,hl with | [_],_=>rfl⟩
theorem qk9 (c:He.SaysD faL fnL K) (he:exB K=true):qaN K "Busy" ["hand"]:=by
 obtain ⟨fd,F⟩:=c.def_ 18 (d:=qd1) rfl
 have hi:=qal (ex_9 he) (by decide)
 exact ⟨_,_,_,_,_,_,_,_,fd,["self","hand"],["self","hand"],hi.1,hi.2,F,qfO,rfl,by decide +kernel,F.bindsN fun _ _ _ _ _ _ us hl=>match us,hl with | [_,_],_=>rfl,qaX F fun _ _ _ _ _ _ u ws hl=>match ws,hl with | [_],_=>rfl⟩
theorem qhw (c:He.SaysD faL fnL K) (he:exB K=true):qaN K "BadList" ["numbers"]:=by
 obtain ⟨fd,F⟩:=c.def_ 19 (d:=qcx) rfl
 have hi:=qal (qmb he) (by decide)
 exact ⟨_,_,_,_,_,_,_,_,fd,["self","numbers"],["self","numbers"],hi.1,hi.2,F,qdv,rfl,by decide +kernel,F.bindsN fun _ _ _ _ _ _ us hl=>match us,hl with | [_,_],_=>rfl,qaX F fun _ _ _ _ _ _ u ws hl=>match ws,hl with | [_],_=>rfl⟩
theorem qjD (c:He.SaysD faL fnL K) (he:exB K=true):qaN K "NoFit" ["number"]:=by
 obtain ⟨fd,F⟩:=c.def_ 20 (d:=qdd) rfl
 have hi:=qal (qme he) (by decide)
 exact ⟨_,_,_,_,_,_,_,_,fd,["self","number"],["self","number"],hi.1,hi.2,F,qeL,rfl,by decide +kernel,F.bindsN fun _ _ _ _ _ _ us hl=>match us,hl with | [_,_],_=>rfl,qaX F fun _ _ _ _ _ _ u ws hl=>match ws,hl with | [_],_=>rfl⟩
theorem qkH (c:He.SaysD faL fnL K) (he:exB K=true):qaN K "Idle" ["hand"]:=by
 obtain ⟨fd,F⟩:=c.def_ 21 (d:=qd3) rfl
 have hi:=qal (ql4 he) (by decide)
 exact ⟨_,_,_,_,_,_,_,_,fd,["self","hand"],["self","hand"],hi.1,hi.2,F,qfA,rfl,by decide +kernel,F.bindsN fun _ _ _ _ _ _ us hl=>match us,hl with | [_,_],_=>rfl,qaX F fun _ _ _ _ _ _ u ws hl=>match ws,hl with | [_],_=>rfl⟩
theorem qhB (c:He.SaysD faL fnL K) (he:exB K=true):qaN K "Refused" ["check"]:=by
 obtain ⟨fd,F⟩:=c.def_ 22 (d:=qcy) rfl
 have hi:=qal (qlI he) (by decide)
 exact ⟨_,_,_,_,_,_,_,_,fd,["self","check"],["self","check"],hi.1,hi.2,F,qd5,rfl,by decide +kernel,F.bindsN fun _ _ _ _ _ _ us hl=>match us,hl with | [_,_],_=>rfl,qaX F fun _ _ _ _ _ _ u ws hl=>match ws,hl with | [_],_=>rfl⟩
theorem qhP (c:He.SaysD faL fnL K) (he:exB K=true):qaN K "BadName" ["name"]:=by
 obtain ⟨fd,F⟩:=c.def_ 23 (d:=qcz) rfl
 have hi:=qal (qma he) (by decide)
 exact ⟨_,_,_,_,_,_,_,_,fd,["self","name"],["self","name"],hi.1,hi.2,F,qdu,rfl,by decide +kernel,F.bindsN fun _ _ _ _ _ _ us hl=>match us,hl with | [_,_],_=>rfl,qaX F fun _ _ _ _ _ _ u ws hl=>match ws,hl with | [_],_=>rfl⟩
theorem qf0 (c:He.SaysD faL fnL K) (he:exB K=true):qaN K "NameInUse" ["name"]:=by
 obtain ⟨fd,F⟩:=c.def_ 24 (d:=qb9) rfl
 have hi:=qal (ql2 he) (by decide)
 exact ⟨_,_,_,_,_,_,_,_,fd,["self","name"],["self","name"],hi.1,hi.2,F,qda,rfl,by decide +kernel,F.bindsN fun _ _ _ _ _ _ us hl=>match us,hl with | [_,_],_=>rfl,qaX F fun _ _ _ _ _ _ u ws hl=>match ws,hl with | [_],_=>rfl⟩
theorem qhR (c:He.SaysD faL fnL K) (he:exB K=true):qaN K "BadRule" ["rule"]:=by
 obtain ⟨fd,F⟩:=c.def_ 25 (d:=qcw) rfl
 have hi:=qal (qkJ he) (by decide)
 exact ⟨_,_,_,_,_,_,_,_,fd,["self","rule"],["self","rule"],hi.1,hi.2,F,qd0,rfl,by decide +kernel,F.bindsN fun _ _ _ _ _ _ us hl=>match us,hl with | [_,_],_=>rfl,qaX F fun _ _ _ _ _ _ u ws hl=>match ws,hl with | [_],_=>rfl⟩
theorem qdR (c:He.SaysD faL fnL K) (he:exB K=true):qaN K "UnknownCheck" ["check"]:=by
 obtain ⟨fd,F⟩:=c.def_ 26 (d:=qbF) rfl
 have hi:=qal (ql0 he) (by decide)
 exact ⟨_,_,_,_,_,_,_,_,fd,["self","check"],["self","check"],hi.1,hi.2,F,qcs,rfl,by decide +kernel,F.bindsN fun _ _ _ _ _ _ us hl=>match us,hl with | [_,_],_=>rfl,qaX F fun _ _ _ _ _ _ u ws hl=>match ws,hl with | [_],_=>rfl⟩
theorem qd9 (c:He.SaysD faL fnL K) (he:exB K=true):qaN K "BadQuestion" ["question"]:=by
 obtain ⟨fd,F⟩:=c.def_ 27 (d:=qbL) rfl
 have hi:=qal (qlw he) (by decide)
 exact ⟨_,_,_,_,_,_,_,_,fd,["self","question"],["self","question"],hi.1,hi.2,F,qcD,rfl,by decide +kernel,F.bindsN fun _ _ _ _ _ _ us hl=>match us,hl with | [_,_],_=>rfl,qaX F fun _ _ _ _ _ _ u ws hl=>match ws,hl with | [_],_=>rfl⟩
theorem qeG (c:He.SaysD faL fnL K) (he:exB K=true):qaN K "BadWeaving" ["index"]:=by
 obtain ⟨fd,F⟩:=c.def_ 28 (d:=qbU) rfl
 have hi:=qal (qlW he) (by decide)
 exact ⟨_,_,_,_,_,_,_,_,fd,["self","index"],["self","index"],hi.1,hi.2,F,qcJ,rfl,by decide +kernel,F.bindsN fun _ _ _ _ _ _ us hl=>match us,hl with | [_,_],_=>rfl,qaX F fun _ _ _ _ _ _ u ws hl=>match ws,hl with | [_],_=>rfl⟩
theorem qhI (c:He.SaysD faL fnL K) (he:exB K=true):qaN K "BadLine" ["index"]:=by
 obtain ⟨fd,F⟩:=c.def_ 29 (d:=qcv) rfl
 have hi:=qal (qku he) (by decide)
 exact ⟨_,_,_,_,_,_,_,_,fd,["self","index"],["self","index"],hi.1,hi.2,F,qdA,rfl,by decide +kernel,F.bindsN fun _ _ _ _ _ _ us hl=>match us,hl with | [_,_],_=>rfl,qaX F fun _ _ _ _ _ _ u ws hl=>match ws,hl with | [_],_=>rfl⟩
theorem md {w:World} (X:K.In h) (G:h.Ns mainGlobals mg) (ct:He.SaysT faL fnL qlo w K) (c:He.SaysD faL fnL K) (he:exB K=true):Md w K mg T gm where
 glo:=by
  refine qlG ?_
  exact qa0
 blt:=(all_cons (He.free_ok X G (c.fact 0 (f:=.free "len") rfl)) (all_cons (He.free_ok X G (c.fact 1 (f:=.free "int") rfl)) (all_cons (He.free_ok X G (c.fact 2 (f:=.free "str") rfl)) (all_cons (He.free_ok X G (c.fact 3 (f:=.free "list") rfl)) (all_cons (He.free_ok X G (c.fact 4 (f:=.free "tuple") rfl)) (all_cons (He.free_ok X G (c.fact 5 (f:=.free "dict") rfl)) (all_cons (He.free_ok X G (c.fact 6 (f:=.free "repr") rfl)) (all_cons (He.free_ok X G (c.fact 7 (f:=.free "any") rfl)) (all_cons (He.free_ok X G (c.fact 8 (f:=.free "all") rfl)) (all_cons (He.free_ok X G (c.fact 9 (f:=.free "sorted") rfl)) (all_cons (He.free_ok X G (c.fact 10 (f:=.free "max") rfl)) (all_cons (He.free_ok X G (c.fact 11 (f:=.free "isinstance") rfl)) (all_cons (He.free_ok X G (c.fact 12 (f:=.free "range") rfl)) (all_cons (He.free_ok X G (c.fact 13 (f:=.free "bool") rfl)) (all_cons (He.free_ok X G (c.fact 14 (f:=.free "set") rfl)) (all_cons (He.free_ok X G (c.fact 15 (f:=.free "enumerate") rfl)) (all_cons (He.free_ok X G (c.fact 16 (f:=.free "ValueError") rfl)) qa0)))))))))))))))))
 fld:=qlD qa0
 fn:=qnl (all_cons (a:=("_law_thing":Str)) (qdf (He.glo_ok X G (c.fact 17 (f:=.glo "_law_thing") rfl)) (c.def_ 1 (d:=qcd) rfl) rfl (qeE c he)) (all_cons (a:=("_law_first_half":Str)) (qdf (He.glo_ok X G (c.fact 18 (f:=.glo "_law_first_half") rfl)) (c.def_ 2 (d:=qa9) rfl) rfl (qcP c he)) (all_cons (a:=("_law_other_half":Str)) (qdf (He.glo_ok X G (c.fact 19 (f:=.glo "_law_other_half") rfl)) (c.def_ 3 (d:=qbe) rfl) rfl (qcL c he)) (all_cons (a:=("_law_same":Str)) (qdf (He.glo_ok X G (c.fact 20 (f:=.glo "_law_same") rfl)) (c.def_ 4 (d:=qcC) rfl) rfl (qfR c he)) (all_cons (a:=("_law_classes":Str)) (qdf (He.glo_ok X G (c.fact 21 (f:=.glo "_law_classes") rfl)) (c.def_ 5 (d:=qbQ) rfl) rfl (qdJ c he)) (all_cons (a:=("_law_fields":Str)) (qdf (He.glo_ok X G (c.fact 22 (f:=.glo "_law_fields") rfl)) (c.def_ 6 (d:=qbW) rfl) rfl (qec c he)) (all_cons (a:=("_law_draw":Str)) (qdf (He.glo_ok X G (c.fact 23 (f:=.glo "_law_draw") rfl)) (c.def_ 7 (d:=qcF) rfl) rfl (qfj c he)) (all_cons (a:=("_law_pick":Str)) (qdf (He.glo_ok X G (c.fact 24 (f:=.glo "_law_pick") rfl)) (c.def_ 8 (d:=qcG) rfl) rfl (qf6 c he)) qa0))))))))
 met:=qkv qa0
 cls:=qlL qa0
 fnK:=qkW qa0
 metK:=qjP qa0
 metO:=fun _ _ z=>by cases z
 exc:=qlY (P:=fun c fl=>mg c=some (.ref (He.ga K c))∧ExcF K c fl∧(fl≠[]→qaN K c fl)) (all_cons (a:=(("UnknownKind":Str),(["kind"]:List Str))) ⟨He.glo_ok X G (c.fact 48 (f:=.glo "UnknownKind") rfl),qar (ex_0 he),fun _=>qem c he⟩ (all_cons (a:=(("NoRow":Str),(["kind","number"]:List Str))) ⟨He.glo_ok X G (c.fact 38 (f:=.glo "NoRow") rfl),qar (ex_1 he),fun _=>qjK c he⟩ (all_cons (a:=(("UnknownColumn":Str),(["column"]:List Str))) ⟨He.glo_ok X G (c.fact 47 (f:=.glo "UnknownColumn") rfl),qar (ex_2 he),fun _=>qdn c he⟩ (all_cons (a:=(("BadNumber":Str),(["number"]:List Str))) ⟨He.glo_ok X G (c.fact 29 (f:=.glo "BadNumber") rfl),qar (ex_3 he),fun _=>qfh c he⟩ (all_cons (a:=(("Taken":Str),(["kind","number"]:List Str))) ⟨He.glo_ok X G (c.fact 45 (f:=.glo "Taken") rfl),qar (ex_4 he),fun _=>qjv c he⟩ (all_cons (a:=(("Used":Str),(["kind","number"]:List Str))) ⟨He.glo_ok X G (c.fact 50 (f:=.glo "Used") rfl),qar (ex_5 he),fun _=>qkV c he⟩ (all_cons (a:=(("OwnOwner":Str),(["column"]:List Str))) ⟨He.glo_ok X G (c.fact 42 (f:=.glo "OwnOwner") rfl),qar (ex_6 he),fun _=>qgK c he⟩ (all_cons (a:=(("NotOpen":Str),(["kind"]:List Str))) ⟨He.glo_ok X G (c.fact 39 (f:=.glo "NotOpen") rfl),qar (ex_7 he),fun _=>qhv c he⟩ (all_cons (a:=(("BadPiece":Str),(["piece"]:List Str))) ⟨He.glo_ok X G (c.fact 30 (f:=.glo "BadPiece") rfl),qar (ex_8 he),fun _=>qgd c he⟩ (all_cons (a:=(("Busy":Str),(["hand"]:List Str))) ⟨He.glo_ok X G (c.fact 34 (f:=.glo "Busy") rfl),qar (ex_9 he),fun _=>qk9 c he⟩ (all_cons (a:=(("BadList":Str),(["numbers"]:List Str))) ⟨He.glo_ok X G (c.fact 27 (f:=.glo "BadList") rfl),qar (qmb he),fun _=>qhw c he⟩ (all_cons (a:=(("NoFit":Str),(["number"]:List Str))) ⟨He.glo_ok X G (c.fact 37 (f:=.glo "NoFit") rfl),qar (qme he),fun _=>qjD c he⟩ (all_cons (a:=(("Idle":Str),(["hand"]:List Str))) ⟨He.glo_ok X G (c.fact 35 (f:=.glo "Idle") rfl),qar (ql4 he),fun _=>qkH c he⟩ (all_cons (a:=(("Refused":Str),(["check"]:List Str))) ⟨He.glo_ok X G (c.fact 43 (f:=.glo "Refused") rfl),qar (qlI he),fun _=>qhB c he⟩ (all_cons (a:=(("BadName":Str),(["name"]:List Str))) ⟨He.glo_ok X G (c.fact 28 (f:=.glo "BadName") rfl),qar (qma he),fun _=>qhP c he⟩ (all_cons (a:=(("NameInUse":Str),(["name"]:List Str))) ⟨He.glo_ok X G (c.fact 36 (f:=.glo "NameInUse") rfl),qar (ql2 he),fun _=>qf0 c he⟩ (all_cons (a:=(("BadRule":Str),(["rule"]:List Str))) ⟨He.glo_ok X G (c.fact 32 (f:=.glo "BadRule") rfl),qar (qkJ he),fun _=>qhR c he⟩ (all_cons (a:=(("UnknownCheck":Str),(["check"]:List Str))) ⟨He.glo_ok X G (c.fact 46 (f:=.glo "UnknownCheck") rfl),qar (ql0 he),fun _=>qdR c he⟩ (all_cons (a:=(("UnlikeBooks":Str),([]:List Str))) ⟨He.glo_ok X G (c.fact 49 (f:=.glo "UnlikeBooks") rfl),qar (qoI he),fun z=>absurd rfl z⟩ (all_cons (a:=(("BadQuestion":Str),(["question"]:List Str))) ⟨He.glo_ok X G (c.fact 31 (f:=.glo "BadQuestion") rfl),qar (qlw he),fun _=>qd9 c he⟩ (all_cons (a:=(("BadDeed":Str),([]:List Str))) ⟨He.glo_ok X G (c.fact 25 (f:=.glo "BadDeed") rfl),qar (qpM he),fun z=>absurd rfl z⟩ (all_cons (a:=(("BadWeaving":Str),(["index"]:List Str))) ⟨He.glo_ok X G (c.fact 33 (f:=.glo "BadWeaving") rfl),qar (qlW he),fun _=>qeG c he⟩ (all_cons (a:=(("NothingToUndo":Str),([]:List Str))) ⟨He.glo_ok X G (c.fact 41 (f:=.glo "NothingToUndo") rfl),qar (qp2 he),fun z=>absurd rfl z⟩ (all_cons (a:=(("NothingToRedo":Str),([]:List Str))) ⟨He.glo_ok X G (c.fact 40 (f:=.glo "NothingToRedo") rfl),qar (qpb he),fun z=>absurd rfl z⟩ (all_cons (a:=(("BadLine":Str),(["index"]:List Str))) ⟨He.glo_ok X G (c.fact 26 (f:=.glo "BadLine") rfl),qar (qku he),fun _=>qhI c he⟩ qa0)))))))))))))))))))))))))
 sub:=qlv (P:=fun c x b=>∃ cv,(mg x=some cv∨(mg x=none∧bootBuiltins x=some cv∧x≠"__name__"))∧PySem.W.exmOne K (.ref (He.ga K c)) cv=some b) qa0
 xfl:=qlJ (all_cons (a:=(("UnknownKind":Str),("kind":Str))) (qas (ex_0 he) (by decide) (by decide)) (all_cons (a:=(("NoRow":Str),("kind":Str))) (qas (ex_1 he) (by decide) (by decide)) (all_cons (a:=(("NoRow":Str),("number":Str))) (qas (ex_1 he) (by decide) (by decide)) (all_cons (a:=(("UnknownColumn":Str),("column":Str))) (qas (ex_2 he) (by decide) (by decide)) (all_cons (a:=(("BadNumber":Str),("number":Str))) (qas (ex_3 he) (by decide) (by decide)) (all_cons (a:=(("Taken":Str),("kind":Str))) (qas (ex_4 he) (by decide) (by decide)) (all_cons (a:=(("Taken":Str),("number":Str))) (qas (ex_4 he) (by decide) (by decide)) (all_cons (a:=(("Used":Str),("kind":Str))) (qas (ex_5 he) (by decide) (by decide)) (all_cons (a:=(("Used":Str),("number":Str))) (qas (ex_5 he) (by decide) (by decide)) (all_cons (a:=(("OwnOwner":Str),("column":Str))) (qas (ex_6 he) (by decide) (by decide)) (all_cons (a:=(("NotOpen":Str),("kind":Str))) (qas (ex_7 he) (by decide) (by decide)) (all_cons (a:=(("BadPiece":Str),("piece":Str))) (qas (ex_8 he) (by decide) (by decide)) (all_cons (a:=(("Busy":Str),("hand":Str))) (qas (ex_9 he) (by decide) (by decide)) (all_cons (a:=(("BadList":Str),("numbers":Str))) (qas (qmb he) (by decide) (by decide)) (all_cons (a:=(("NoFit":Str),("number":Str))) (qas (qme he) (by decide) (by decide)) (all_cons (a:=(("Idle":Str),("hand":Str))) (qas (ql4 he) (by decide) (by decide)) (all_cons (a:=(("Refused":Str),("check":Str))) (qas (qlI he) (by decide) (by decide)) (all_cons (a:=(("BadName":Str),("name":Str))) (qas (qma he) (by decide) (by decide)) (all_cons (a:=(("NameInUse":Str),("name":Str))) (qas (ql2 he) (by decide) (by decide)) (all_cons (a:=(("BadRule":Str),("rule":Str))) (qas (qkJ he) (by decide) (by decide)) (all_cons (a:=(("UnknownCheck":Str),("check":Str))) (qas (ql0 he) (by decide) (by decide)) (all_cons (a:=(("BadQuestion":Str),("question":Str))) (qas (qlw he) (by decide) (by decide)) (all_cons (a:=(("BadWeaving":Str),("index":Str))) (qas (qlW he) (by decide) (by decide)) (all_cons (a:=(("BadLine":Str),("index":Str))) (qas (qku he) (by decide) (by decide)) qa0))))))))))))))))))))))))
 hdl:=qlV qa0
 isn:=qkM (all_cons (a:=("BadDeed":Str)) (He.glo_ok X G (c.fact 25 (f:=.glo "BadDeed") rfl)) (all_cons (a:=("BadLine":Str)) (He.glo_ok X G (c.fact 26 (f:=.glo "BadLine") rfl)) (all_cons (a:=("BadList":Str)) (He.glo_ok X G (c.fact 27 (f:=.glo "BadList") rfl)) (all_cons (a:=("BadName":Str)) (He.glo_ok X G (c.fact 28 (f:=.glo "BadName") rfl)) (all_cons (a:=("BadNumber":Str)) (He.glo_ok X G (c.fact 29 (f:=.glo "BadNumber") rfl)) (all_cons (a:=("BadPiece":Str)) (He.glo_ok X G (c.fact 30 (f:=.glo "BadPiece") rfl)) (all_cons (a:=("BadQuestion":Str)) (He.glo_ok X G (c.fact 31 (f:=.glo "BadQuestion") rfl)) (all_cons (a:=("BadRule":Str)) (He.glo_ok X G (c.fact 32 (f:=.glo "BadRule") rfl)) (all_cons (a:=("BadWeaving":Str)) (He.glo_ok X G (c.fact 33 (f:=.glo "BadWeaving") rfl)) (all_cons (a:=("Busy":Str)) (He.glo_ok X G (c.fact 34 (f:=.glo "Busy") rfl)) (all_cons (a:=("Idle":Str)) (He.glo_ok X G (c.fact 35 (f:=.glo "Idle") rfl)) (all_cons (a:=("NameInUse":Str)) (He.glo_ok X G (c.fact 36 (f:=.glo "NameInUse") rfl)) (all_cons (a:=("NoFit":Str)) (He.glo_ok X G (c.fact 37 (f:=.glo "NoFit") rfl)) (all_cons (a:=("NoRow":Str)) (He.glo_ok X G (c.fact 38 (f:=.glo "NoRow") rfl)) (all_cons (a:=("NotOpen":Str)) (He.glo_ok X G (c.fact 39 (f:=.glo "NotOpen") rfl)) (all_cons (a:=("NothingToRedo":Str)) (He.glo_ok X G (c.fact 40 (f:=.glo "NothingToRedo") rfl)) (all_cons (a:=("NothingToUndo":Str)) (He.glo_ok X G (c.fact 41 (f:=.glo "NothingToUndo") rfl)) (all_cons (a:=("OwnOwner":Str)) (He.glo_ok X G (c.fact 42 (f:=.glo "OwnOwner") rfl)) (all_cons (a:=("Refused":Str)) (He.glo_ok X G (c.fact 43 (f:=.glo "Refused") rfl)) (all_cons (a:=("StrikeError":Str)) (He.glo_ok X G (c.fact 44 (f:=.glo "StrikeError") rfl)) (all_cons (a:=("Taken":Str)) (He.glo_ok X G (c.fact 45 (f:=.glo "Taken") rfl)) (all_cons (a:=("UnknownCheck":Str)) (He.glo_ok X G (c.fact 46 (f:=.glo "UnknownCheck") rfl)) (all_cons (a:=("UnknownColumn":Str)) (He.glo_ok X G (c.fact 47 (f:=.glo "UnknownColumn") rfl)) (all_cons (a:=("UnknownKind":Str)) (He.glo_ok X G (c.fact 48 (f:=.glo "UnknownKind") rfl)) (all_cons (a:=("UnlikeBooks":Str)) (He.glo_ok X G (c.fact 49 (f:=.glo "UnlikeBooks") rfl)) (all_cons (a:=("Used":Str)) (He.glo_ok X G (c.fact 50 (f:=.glo "Used") rfl)) qa0))))))))))))))))))))))))))
 isx:=qlx (all_cons (a:=(("UnknownKind":Str),([("BadDeed",false),("BadLine",false),("BadList",false),("BadName",false),("BadNumber",false),("BadPiece",false),("BadQuestion",false),("BadRule",false),("BadWeaving",false),("Busy",false),("Idle",false),("NameInUse",false),("NoFit",false),("NoRow",false),("NotOpen",false),("NothingToRedo",false),("NothingToUndo",false),("OwnOwner",false),("Refused",false),("StrikeError",true),("Taken",false),("UnknownCheck",false),("UnknownColumn",false),("UnknownKind",true),("UnlikeBooks",false),("Used",false)]:List (Str × Bool)))) (qoS he) (all_cons (a:=(("NoRow":Str),([("BadDeed",false),("BadLine",false),("BadList",false),("BadName",false),("BadNumber",false),("BadPiece",false),("BadQuestion",false),("BadRule",false),("BadWeaving",false),("Busy",false),("Idle",false),("NameInUse",false),("NoFit",false),("NoRow",true),("NotOpen",false),("NothingToRedo",false),("NothingToUndo",false),("OwnOwner",false),("Refused",false),("StrikeError",true),("Taken",false),("UnknownCheck",false),("UnknownColumn",false),("UnknownKind",false),("UnlikeBooks",false),("Used",false)]:List (Str × Bool)))) (qpS he) (all_cons (a:=(("UnknownColumn":Str),([("BadDeed",false),("BadLine",false),("BadList",false),("BadName",false),("BadNumber",false),("BadPiece",false),("BadQuestion",false),("BadRule",false),("BadWeaving",false),("Busy",false),("Idle",false),("NameInUse",false),("NoFit",false),("NoRow",false),("NotOpen",false),("NothingToRedo",false),("NothingToUndo",false),("OwnOwner",false),("Refused",false),("StrikeError",true),("Taken",false),("UnknownCheck",false),("UnknownColumn",true),("UnknownKind",false),("UnlikeBooks",false),("Used",false)]:List (Str × Bool)))) (qp8 he) (all_cons (a:=(("BadNumber":Str),([("BadDeed",false),("BadLine",false),("BadList",false),("BadName",false),("BadNumber",true),("BadPiece",false),("BadQuestion",false),("BadRule",false),("BadWeaving",false),("Busy",false),("Idle",false),("NameInUse",false),("NoFit",false),("NoRow",false),("NotOpen",false),("NothingToRedo",false),("NothingToUndo",false),("OwnOwner",false),("Refused",false),("StrikeError",true),("Taken",false),("UnknownCheck",false),("UnknownColumn",false),("UnknownKind",false),("UnlikeBooks",false),("Used",false)]:List (Str × Bool)))) (qqc he) (all_cons (a:=(("Taken":Str),([("BadDeed",false),("BadLine",false),("BadList",false),("BadName",false),("BadNumber",false),("BadPiece",false),("BadQuestion",false),("BadRule",false),("BadWeaving",false),("Busy",false),("Idle",false),("NameInUse",false),("NoFit",false),("NoRow",false),("NotOpen",false),("NothingToRedo",false),("NothingToUndo",false),("OwnOwner",false),("Refused",false),("StrikeError",true),("Taken",true),("UnknownCheck",false),("UnknownColumn",false),("UnknownKind",false),("UnlikeBooks",false),("Used",false)]:List (Str × Bool)))) (qo1 he) (all_cons (a:=(("Used":Str),([("BadDeed",false),("BadLine",false),("BadList",false),("BadName",false),("BadNumber",false),("BadPiece",false),("BadQuestion",false),("BadRule",false),("BadWeaving",false),("Busy",false),("Idle",false),("NameInUse",false),("NoFit",false),("NoRow",false),("NotOpen",false),("NothingToRedo",false),("NothingToUndo",false),("OwnOwner",false),("Refused",false),("StrikeError",true),("Taken",false),("UnknownCheck",false),("UnknownColumn",false),("UnknownKind",false),("UnlikeBooks",false),("Used",true)]:List (Str × Bool)))) (qqM he) (all_cons (a:=(("OwnOwner":Str),([("BadDeed",false),("BadLine",false),("BadList",false),("BadName",false),("BadNumber",false),("BadPiece",false),("BadQuestion",false),("BadRule",false),("BadWeaving",false),("Busy",false),("Idle",false),("NameInUse",false),("NoFit",false),("NoRow",false),("NotOpen",false),("NothingToRedo",false),("NothingToUndo",false),("OwnOwner",true),("Refused",false),("StrikeError",true),("Taken",false),("UnknownCheck",false),("UnknownColumn",false),("UnknownKind",false),("UnlikeBooks",false),("Used",false)]:List (Str × Bool)))) (qom he) (all_cons (a:=(("NotOpen":Str),([("BadDeed",false),("BadLine",false),("BadList",false),("BadName",false),("BadNumber",false),("BadPiece",false),("BadQuestion",false),("BadRule",false),("BadWeaving",false),("Busy",false),("Idle",false),("NameInUse",false),("NoFit",false),("NoRow",false),("NotOpen",true),("NothingToRedo",false),("NothingToUndo",false),("OwnOwner",false),("Refused",false),("StrikeError",true),("Taken",false),("UnknownCheck",false),("UnknownColumn",false),("UnknownKind",false),("UnlikeBooks",false),("Used",false)]:List (Str × Bool)))) (qqu he) (all_cons (a:=(("BadPiece":Str),([("BadDeed",false),("BadLine",false),("BadList",false),("BadName",false),("BadNumber",false),("BadPiece",true),("BadQuestion",false),("BadRule",false),("BadWeaving",false),("Busy",false),("Idle",false),("NameInUse",false),("NoFit",false),("NoRow",false),("NotOpen",false),("NothingToRedo",false),("NothingToUndo",false),("OwnOwner",false),("Refused",false),("StrikeError",true),("Taken",false),("UnknownCheck",false),("UnknownColumn",false),("UnknownKind",false),("UnlikeBooks",false),("Used",false)]:List (Str × Bool)))) (qor he) (all_cons (a:=(("Busy":Str),([("BadDeed",false),("BadLine",false),("BadList",false),("BadName",false),("BadNumber",false),("BadPiece",false),("BadQuestion",false),("BadRule",false),("BadWeaving",false),("Busy",true),("Idle",false),("NameInUse",false),("NoFit",false),("NoRow",false),("NotOpen",false),("NothingToRedo",false),("NothingToUndo",false),("OwnOwner",false),("Refused",false),("StrikeError",true),("Taken",false),("UnknownCheck",false),("UnknownColumn",false),("UnknownKind",false),("UnlikeBooks",false),("Used",false)]:List (Str × Bool)))) (qp4 he) (all_cons (a:=(("BadList":Str),([("BadDeed",false),("BadLine",false),("BadList",true),("BadName",false),("BadNumber",false),("BadPiece",false),("BadQuestion",false),("BadRule",false),("BadWeaving",false),("Busy",false),("Idle",false),("NameInUse",false),("NoFit",false),("NoRow",false),("NotOpen",false),("NothingToRedo",false),("NothingToUndo",false),("OwnOwner",false),("Refused",false),("StrikeError",true),("Taken",false),("UnknownCheck",false),("UnknownColumn",false),("UnknownKind",false),("UnlikeBooks",false),("Used",false)]:List (Str × Bool)))) (qoG he) (all_cons (a:=(("NoFit":Str),([("BadDeed",false),("BadLine",false),("BadList",false),("BadName",false),("BadNumber",false),("BadPiece",false),("BadQuestion",false),("BadRule",false),("BadWeaving",false),("Busy",false),("Idle",false),("NameInUse",false),("NoFit",true),("NoRow",false),("NotOpen",false),("NothingToRedo",false),("NothingToUndo",false),("OwnOwner",false),("Refused",false),("StrikeError",true),("Taken",false),("UnknownCheck",false),("UnknownColumn",false),("UnknownKind",false),("UnlikeBooks",false),("Used",false)]:List (Str × Bool)))) (qp6 he) (all_cons (a:=(("Idle":Str),([("BadDeed",false),("BadLine",false),("BadList",false),("BadName",false),("BadNumber",false),("BadPiece",false),("BadQuestion",false),("BadRule",false),("BadWeaving",false),("Busy",false),("Idle",true),("NameInUse",false),("NoFit",false),("NoRow",false),("NotOpen",false),("NothingToRedo",false),("NothingToUndo",false),("OwnOwner",false),("Refused",false),("StrikeError",true),("Taken",false),("UnknownCheck",false),("UnknownColumn",false),("UnknownKind",false),("UnlikeBooks",false),("Used",false)]:List (Str × Bool)))) (qpj he) (all_cons (a:=(("Refused":Str),([("BadDeed",false),("BadLine",false),("BadList",false),("BadName",false),("BadNumber",false),("BadPiece",false),("BadQuestion",false),("BadRule",false),("BadWeaving",false),("Busy",false),("Idle",false),("NameInUse",false),("NoFit",false),("NoRow",false),("NotOpen",false),("NothingToRedo",false),("NothingToUndo",false),("OwnOwner",false),("Refused",true),("StrikeError",true),("Taken",false),("UnknownCheck",false),("UnknownColumn",false),("UnknownKind",false),("UnlikeBooks",false),("Used",false)]:List (Str × Bool)))) (qpE he) (all_cons (a:=(("BadName":Str),([("BadDeed",false),("BadLine",false),("BadList",false),("BadName",true),("BadNumber",false),("BadPiece",false),("BadQuestion",false),("BadRule",false),("BadWeaving",false),("Busy",false),("Idle",false),("NameInUse",false),("NoFit",false),("NoRow",false),("NotOpen",false),("NothingToRedo",false),("NothingToUndo",false),("OwnOwner",false),("Refused",false),("StrikeError",true),("Taken",false),("UnknownCheck",false),("UnknownColumn",false),("UnknownKind",false),("UnlikeBooks",false),("Used",false)]:List (Str × Bool)))) (qqG he) (all_cons (a:=(("NameInUse":Str),([("BadDeed",false),("BadLine",false),("BadList",false),("BadName",false),("BadNumber",false),("BadPiece",false),("BadQuestion",false),("BadRule",false),("BadWeaving",false),("Busy",false),("Idle",false),("NameInUse",true),("NoFit",false),("NoRow",false),("NotOpen",false),("NothingToRedo",false),("NothingToUndo",false),("OwnOwner",false),("Refused",false),("StrikeError",true),("Taken",false),("UnknownCheck",false),("UnknownColumn",false),("UnknownKind",false),("UnlikeBooks",false),("Used",false)]:List (Str × Bool)))) (qpG he) (all_cons (a:=(("BadRule":Str),([("BadDeed",false),("BadLine",false),("BadList",false),("BadName",false),("BadNumber",false),("BadPiece",false),("BadQuestion",false),("BadRule",true),("BadWeaving",false),("Busy",false),("Idle",false),("NameInUse",false),("NoFit",false),("NoRow",false),("NotOpen",false),("NothingToRedo",false),("NothingToUndo",false),("OwnOwner",false),("Refused",false),("StrikeError",true),("Taken",false),("UnknownCheck",false),("UnknownColumn",false),("UnknownKind",false),("UnlikeBooks",false),("Used",false)]:List (Str × Bool)))) (qpo he) (all_cons (a:=(("UnknownCheck":Str),([("BadDeed",false),("BadLine",false),("BadList",false),("BadName",false),("BadNumber",false),("BadPiece",false),("BadQuestion",false),("BadRule",false),("BadWeaving",false),("Busy",false),("Idle",false),("NameInUse",false),("NoFit",false),("NoRow",false),("NotOpen",false),("NothingToRedo",false),("NothingToUndo",false),("OwnOwner",false),("Refused",false),("StrikeError",true),("Taken",false),("UnknownCheck",true),("UnknownColumn",false),("UnknownKind",false),("UnlikeBooks",false),("Used",false)]:List (Str × Bool)))) (qot he) (all_cons (a:=(("UnlikeBooks":Str),([("BadDeed",false),("BadLine",false),("BadList",false),("BadName",false),("BadNumber",false),("BadPiece",false),("BadQuestion",false),("BadRule",false),("BadWeaving",false),("Busy",false),("Idle",false),("NameInUse",false),("NoFit",false),("NoRow",false),("NotOpen",false),("NothingToRedo",false),("NothingToUndo",false),("OwnOwner",false),("Refused",false),("StrikeError",true),("Taken",false),("UnknownCheck",false),("UnknownColumn",false),("UnknownKind",false),("UnlikeBooks",true),("Used",false)]:List (Str × Bool)))) (qoY he) (all_cons (a:=(("BadQuestion":Str),([("BadDeed",false),("BadLine",false),("BadList",false),("BadName",false),("BadNumber",false),("BadPiece",false),("BadQuestion",true),("BadRule",false),("BadWeaving",false),("Busy",false),("Idle",false),("NameInUse",false),("NoFit",false),("NoRow",false),("NotOpen",false),("NothingToRedo",false),("NothingToUndo",false),("OwnOwner",false),("Refused",false),("StrikeError",true),("Taken",false),("UnknownCheck",false),("UnknownColumn",false),("UnknownKind",false),("UnlikeBooks",false),("Used",false)]:List (Str × Bool)))) (qqj he) (all_cons (a:=(("BadDeed":Str),([("BadDeed",true),("BadLine",false),("BadList",false),("BadName",false),("BadNumber",false),("BadPiece",false),("BadQuestion",false),("BadRule",false),("BadWeaving",false),("Busy",false),("Idle",false),("NameInUse",false),("NoFit",false),("NoRow",false),("NotOpen",false),("NothingToRedo",false),("NothingToUndo",false),("OwnOwner",false),("Refused",false),("StrikeError",true),("Taken",false),("UnknownCheck",false),("UnknownColumn",false),("UnknownKind",false),("UnlikeBooks",false),("Used",false)]:List (Str × Bool)))) (qpw he) (all_cons (a:=(("BadWeaving":Str),([("BadDeed",false),("BadLine",false),("BadList",false),("BadName",false),("BadNumber",false),("BadPiece",false),("BadQuestion",false),("BadRule",false),("BadWeaving",true),("Busy",false),("Idle",false),("NameInUse",false),("NoFit",false),("NoRow",false),("NotOpen",false),("NothingToRedo",false),("NothingToUndo",false),("OwnOwner",false),("Refused",false),("StrikeError",true),("Taken",false),("UnknownCheck",false),("UnknownColumn",false),("UnknownKind",false),("UnlikeBooks",false),("Used",false)]:List (Str × Bool)))) (qpm he) (all_cons (a:=(("NothingToUndo":Str),([("BadDeed",false),("BadLine",false),("BadList",false),("BadName",false),("BadNumber",false),("BadPiece",false),("BadQuestion",false),("BadRule",false),("BadWeaving",false),("Busy",false),("Idle",false),("NameInUse",false),("NoFit",false),("NoRow",false),("NotOpen",false),("NothingToRedo",false),("NothingToUndo",true),("OwnOwner",false),("Refused",false),("StrikeError",true),("Taken",false),("UnknownCheck",false),("UnknownColumn",false),("UnknownKind",false),("UnlikeBooks",false),("Used",false)]:List (Str × Bool)))) (qoK he) (all_cons (a:=(("NothingToRedo":Str),([("BadDeed",false),("BadLine",false),("BadList",false),("BadName",false),("BadNumber",false),("BadPiece",false),("BadQuestion",false),("BadRule",false),("BadWeaving",false),("Busy",false),("Idle",false),("NameInUse",false),("NoFit",false),("NoRow",false),("NotOpen",false),("NothingToRedo",true),("NothingToUndo",false),("OwnOwner",false),("Refused",false),("StrikeError",true),("Taken",false),("UnknownCheck",false),("UnknownColumn",false),("UnknownKind",false),("UnlikeBooks",false),("Used",false)]:List (Str × Bool)))) (qon he) (all_cons (a:=(("BadLine":Str),([("BadDeed",false),("BadLine",true),("BadList",false),("BadName",false),("BadNumber",false),("BadPiece",false),("BadQuestion",false),("BadRule",false),("BadWeaving",false),("Busy",false),("Idle",false),("NameInUse",false),("NoFit",false),("NoRow",false),("NotOpen",false),("NothingToRedo",false),("NothingToUndo",false),("OwnOwner",false),("Refused",false),("StrikeError",true),("Taken",false),("UnknownCheck",false),("UnknownColumn",false),("UnknownKind",false),("UnlikeBooks",false),("Used",false)]:List (Str × Bool)))) (qoD he) qa0)))))))))))))))))))))))))
 isd:=fun _ _ z=>by cases z
 tab:=qkC qa0
end
open PySem.W PySem.Calls
theorem walk (hok : ∀ ns : List Int, ns.length ≤ 63 → ∃ S, callF T gm 40 "law" [.v (.scr ns)] [] = .ok (.v (.bl true), S)) : PySem.Challenge.rw_longstrike_k01_errors_made.Holds := by
 w_on;o_law
 refine HandSHeadRun.head_any (r := PySem.W.OpenLaw.row PySem.Challenge.rw_longstrike_k01_errors_made) (q := PySem.W.view (PySem.W.OpenLaw.row PySem.Challenge.rw_longstrike_k01_errors_made).prog [36]) (H := hk) (ob := ob) (M := 12000) (loose := names) (d := HandSHeadRun.topDef (PySem.W.OpenLaw.row PySem.Challenge.rw_longstrike_k01_errors_made).prog 36) (kwd := []) ob_eq
  (by kernel_rfl) (fun s=>by kernel_rfl) run (by kernel_rfl) (by kernel_rfl) (by kernel_rfl) (by rfl) (by first | assumption | decide +kernel) (by decide +kernel) ⟨rfl,rfl,rfl,rfl,rfl,by decide +kernel⟩ ?hw ?hc
 case hw=>w_witness2
 case hc=>
  refine walk_ofK (l := PySem.Challenge.rw_longstrike_k01_errors_made) (n := 63) (k := 40) (T := T) (g := gm) (m := 9) (body := f_law)  rfl (by decide) (by kernel_rfl) ⟨rfl, by decide, by decide⟩ rfl ?F hok
  intro w mg fa h Y G hmg0
  obtain ⟨K,KX,c⟩:=Y
  have hmg:mg ("law":PySem.Str)=some (.ref fa):=by
   have e : (HandSHeadRun.topDef (PySem.W.OpenLaw.row PySem.Challenge.rw_longstrike_k01_errors_made).prog 36).name = ("law" : PySem.Str) := by kernel_rfl
   rw [← e]
   exact hmg0
  have e:=hmg.symm.trans (He.glo_ok KX G (c.t.d.fact 51 (f:=.glo "law") rfl))
  cases e
  exact ⟨K,KX,md KX G c.t c.t.d c.more,qmX c.t.d c.more⟩
end LS
namespace LS
open PySem L2
theorem bok {α β:Type} (a:α) (f:α→R β):(R.ok a).bind f=f a:=rfl
theorem nxo {α:Type} (a:α):(R.ok a).noEx=.ok a:=rfl
def qd2 (C:Cn) (env:Env) (own:List (Str × Nat)) (tg:Tg) (ifs elt:E) (D:Nat) (x:W) (S:qaa):R qaa:=match qbp tg x S (qbV env (own.map (·.2))) with
 | some env=>(evIf C ifs env S).noEx.bind fun b=>if b.1=true then (evE C elt env b.2).noEx.bind fun z=>qdk C.keep D z.1 z.2 else .ok b.2
 | none=>.no
section
variable {C:Cn} {env env':Env} {S S1 S2 S3:qaa} {a b c l t it:E} {x y:W} {o:BO} {q:W × qaa}
theorem qb5 (ha:evE C a env S=.ok (x,S1)) (hb:evE C b env S1=.ok (y,S2)) (ho:qaP o x y S2=.ok q):evE C (.bin o a b) env S=.ok q:=by
 simp only [evE,ha,bok,hb,ho]
theorem qnr {o:CO} (ha:evE C a env S=.ok (x,S1)) (hb:evE C b env S1=.ok (y,S2)) (ho:qaH o x y S2=.ok q):evE C (.cmp o a b) env S=.ok q:=by
 simp only [evE,ha,bok,hb,ho]
theorem qkE (ha:qaC (evE C a env S)=.ok (true,S1)) (hb:evE C b env S1=.ok q):evE C (.and a b) env S=.ok q:=by
 simp only [evE]
 cases h:evE C a env S with
 | ok r=>
  rw [h] at ha
  simp only [bok]
  unfold qaC at ha
  simp only [bok] at ha
  unfold qc6
  cases hv:r.1.view r.2 with
  | none=>rw [hv] at ha;cases ha
  | some p=>
   rw [hv] at ha
   simp only at ha ⊢
   cases ht:qcZ p with
   | none=>rw [ht] at ha;cases ha
   | some bb=>
    rw [ht] at ha
    cases ha
    simp only [if_pos]
    exact hb
 | ex _ _ _=>rw [h] at ha;cases ha
 | no=>rw [h] at ha;cases ha
theorem qli (ha:evE C a env S=.ok (.v (.bl false),S1)):evE C (.and a b) env S=.ok (.v (.bl false),S1):=by
 simp only [evE,ha,bok,qc6,W.view,qcZ]
 rfl
theorem t_bl {bb:Bool} {m:R (W × qaa)} (h:m=.ok (.v (.bl bb),S1)):qaC m=.ok (bb,S1):=by
 rw [h]
 rfl
theorem e_bm {m:BM} {ws:List W} (ha:evE C a env S=.ok (x,S1)) (ht:bmTy m x S1=true) (hl:evL C l env S1=.ok (ws,S2)) (h:bmOp C.keep m x ws S2=.ok q):evE C (.bm m a l) env S=.ok q:=by
 simp only [evE,ha,bok,if_pos ht,hl,h]
theorem e_bf {f:BF} {ws:List W} {ps:List P} {p:P} (hl:evL C l env S=.ok (ws,S1)) (hv:qcA ws S1=some ps) (h:bfOp f ps=some p):evE C (.bf f l) env S=.ok (.v p,S1):=by
 simp only [evE,hl,bok,hv,h]
theorem qeg {i:E} (ha:evE C a env S=.ok (x,S1)) (hb:evE C i env S1=.ok (y,S2)) (ho:qb0 x y S2=.ok q):evE C (.sub a i) env S=.ok q:=by
 simp only [evE,ha,bok,hb,ho]
theorem qmq:evL C .nil env S=.ok ([],S):=by simp only [evL]
theorem qkj {ws:List W} (ha:evE C a env S=.ok (x,S1)) (hl:evL C l env S1=.ok (ws,S2)):evL C (.cons a l) env S=.ok (x::ws,S2):=by
 simp only [evL,ha,bok,hl]
variable {u v:LS.S} {out:RS}
theorem qhE:exS C .nil env S=.nx env S:=by simp only [exS]
theorem qbs {e:Env} (h1:exS C u env S=.nx e S1) (h2:exS C v e S1=out):exS C (.cons u v) env S=out:=by
 simp only [exS,h1,h2]
theorem qc7 {w:W} (h1:exS C u env S=.ret w S1):exS C (.cons u v) env S=.ret w S1:=by
 simp only [exS,h1]
theorem qga {bb:Bool} (ht:qaC (evE C t env S)=.ok (bb,S1)) (h:(if bb=true then exS C u env S1 else exS C v env S1)=out):exS C (.ite t u v) env S=out:=by
 simp only [exS,evT,ht,lift]
 exact h
theorem qnk (h:evE C a env S=.ok (x,S1)):exS C (.ret a) env S=.ret x S1:=by
 simp only [exS,h,lift]
theorem qnf {i:Nat} (h:evE C a env S=.ok (x,S1)):exS C (.set i a) env S=.nx (env.set i (some x)) S1:=by
 simp only [exS,h,lift]
theorem qls {i e:E} {z:W} (he:evE C e env S=.ok (x,S1)) (ho:evE C a env S1=.ok (y,S2)) (hi:evE C i env S2=.ok (z,S3)) {S4:qaa} (h:qb6 C.keep y z x S3=.ok S4):exS C (.sub a i e) env S=.nx env S4:=by
 simp only [exS,he,lift,ho,hi,h]
theorem e_lc {own:List (Str × Nat)} {tg:Tg} {ifs elt:E} {xs:List W} {cell:Bool} {q:W × qaa} (hi:evI C it env S=.ok (.st xs,S1))
  (h:qee (qd2 (C.in_ cell) env own tg ifs elt S1.length) xs (S1++[.lst []])=.ok S2) (hf:finC C.keep cell S1.length S2=.ok q):evE C (.lc cell own tg it ifs elt) env S=.ok q:=by
 simp only [evE,hi,bok,qhA]
 show (qee (qd2 (C.in_ cell) env own tg ifs elt S1.length) xs (S1++[.lst []])).bind _=_
 rw [h]
 exact hf
end
theorem qlP (i j:Int):eqS (.int i) (.int j)=some (i == j):=by
 simp only [eqS]
 congr 1
theorem qkQ (xs ys:List P):eqS (.lst xs) (.lst ys)=eqP (.lst xs) (.lst ys):=rfl
theorem qey:∀ xs:List Int,qcU (xs.map P.int)=some (xs.map PyData.int)
 | []=>rfl
 | x::xs=>by simp [qcU,P.py,qey xs]
theorem qhk:∀ xs:List Int,PyData.canLayAll0 (xs.map PyData.int)=true∧PyData.depthAll (xs.map PyData.int)=0
 | []=>⟨rfl,rfl⟩
 | x::xs=>by simp [PyData.canLayAll0,PyData.canLay0,PyData.depthAll,PyData.depth,qhk xs]
theorem ql3 (xs:List Int):eqP (.lst (xs.map P.int)) (.lst [])=some xs.isEmpty:=by
 simp only [eqP,P.py,qey,qcU,Option.map_some]
 have h:=qhk xs
 have:(SeqAt.shaped (PyData.list (xs.map PyData.int)) && SeqAt.shaped (PyData.list []))=true:=by
  simp [SeqAt.shaped,PyData.canLay0,PyData.depth,h.1,h.2,PyData.canLayAll0,PyData.depthAll]
 rw [if_pos this]
 cases xs <;> rfl
theorem qfL:∀ xs:List Int,allP (xs.map fun i=>W.v (.int i))=some (xs.map P.int)
 | []=>rfl
 | x::xs=>by simp [allP,qfL xs]
end LS
set_option maxHeartbeats 2000000
namespace LS
open PySem L2
structure Sm where
 xs:List Int
 a:Int
 n:Int
 t:Int
def Sm.ok (s:Sm) (B:Int):Prop:=0≤s.a∧0≤s.n∧s.n≤B∧0≤s.t∧s.t < 2147483647
def Sm.cells (s:Sm) (rest:qaa):qaa:=.lst (s.xs.map fun i=>.v (.int i))::.lst [.c 0,.v (.int s.a),.v (.int s.n),.v (.int s.t)]::rest
theorem qg2 (xs:List Int) (k:Nat):(List.map (fun i=>W.v (P.int i)) xs).all (qad k)=true:=by
 rw [List.all_eq_true]
 intro y hy
 obtain ⟨i,_,rfl⟩:=List.mem_map.mp hy
 rfl
theorem qjV (n:Nat):ixN (n + 1) 0=some 0:=by
 simp [ixN]
theorem qh6 {kp:Bool} (x:Int) (xs:List Int) (a n t:Int) (rest:qaa):bmOp kp .pop0 (.c 0) [.v (.int 0)] (Sm.cells ⟨x::xs,a,n,t⟩ rest)=.ok (.v (.int x),Sm.cells ⟨xs,a,n,t⟩ rest):=by
 have hw:write kp 0 (Cell.lst ((W.v (P.int x)::List.map (fun i=>W.v (P.int i)) xs).eraseIdx 0)) (Sm.cells ⟨x::xs,a,n,t⟩ rest)=.ok (Sm.cells ⟨xs,a,n,t⟩ rest):=by
  unfold write
  rw [if_pos]
  ·rfl
  ·exact .inl (qg2 xs 0)
 simp only [bmOp]
 unfold qju
 have e1:(Sm.cells ⟨x::xs,a,n,t⟩ rest)[0]?=some (.lst (W.v (P.int x)::List.map (fun i=>W.v (P.int i)) xs)):=rfl
 simp only [e1,List.length_cons,qjV,List.getElem?_cons_zero]
 rw [hw]
 rfl
section
variable {C:Cn} {rest:qaa} {m:Int}
theorem qgr (s:Sm) (env:Env) (h:env[0]?=some (some (.c 1))) :
  qaC (evE C (.and (.cmp .eq (.sub (.var 0) (.lit (.int 1))) (.lit (.int 0))) (.cmp .ne (.sub (.var 0) (.lit (.int 0))) (.lst false .nil))) env (s.cells rest))=.ok ((s.a == 0) && !s.xs.isEmpty,s.cells rest):=by
 have ev:evE C (.var 0) env (s.cells rest)=.ok (.c 1,s.cells rest):=by simp only [evE,h]
 have e1:evE C (.cmp .eq (.sub (.var 0) (.lit (.int 1))) (.lit (.int 0))) env (s.cells rest)=.ok (.v (.bl (s.a == 0)),s.cells rest):=
  qnr (qeg ev rfl rfl) rfl (by simp only [qaH,W.view,cmpP,qdq,qlP,ok1])
 cases ha:(s.a == 0) with
 | false=>
  rw [ha] at e1
  exact t_bl (qli e1)
 | true=>
  rw [ha] at e1
  refine t_bl (qkE (t_bl e1) (qnr (qeg ev rfl rfl) rfl ?_))
  unfold qaH
  have e:W.view (s.cells rest) (.c 0)=some (.lst (s.xs.map P.int)):=by
   simp [W.view,Sm.cells,Cell.view,qfL]
  rw [e]
  simp only [W.view,cmpP,qdq,qkQ,ql3,qdq,ok1,Option.map_some]
  rfl
abbrev drE (m:Int):Env:=[some (.c 1),some (.v (.int m)),none,none]
theorem qgX {T:Str→Option Fn} {g:Gm} (hT:T "_law_draw"=some (.fn 4 2 [] qag false)) (d:Nat) {s:Sm} {B:Int} (hs:s.ok B) (hB:B < 1000000) (hm:0 < m) (hm2:m < 1267650600228229401496703205376) :
  ∃ (s':Sm) (r:Int),callF T g (d + 1) "_law_draw" [.c 1,.v (.int m)] (s.cells rest)=.ok (.v (.int r),s'.cells rest)∧s'.ok (B + 1)∧0≤r∧r < m:=by
 obtain ⟨ha,hn,hnB,ht,ht2⟩:=hs
 have two:∃ s2:Sm,(∀ out,exS ⟨callF T g d,g,false⟩ (.cons (.ite (.cmp .gt (.sub (.var 0) (.lit (.int 1))) (.lit (.int 0))) (.cons (.set 3 (.bin .mod (.bf .int (.cons (.sub (.var 0) (.lit (.int 1))) .nil)) (.var 1)))
 (.cons (.sub (.var 0) (.lit (.int 1)) (.bin .fdiv (.sub (.var 0) (.lit (.int 1))) (.var 1)))
 (.cons (.ret (.var 3))
 .nil))) .nil)
 (.cons (.set 2 (.bin .mod (.bin .pow (.bin .add (.bin .add (.sub (.var 0) (.lit (.int 3))) (.bin .mul (.lit (.int 104729)) (.sub (.var 0) (.lit (.int 2))))) (.lit (.int 17))) (.lit (.int 5))) (.lit (.int 2147483629))))
 (.cons (.ret (.bin .mod (.bin .mod (.bin .pow (.bin .add (.bin .add (.bin .mul (.var 2) (.lit (.int 48271))) (.bin .mul (.bin .mul (.lit (.int 40503)) (.sub (.var 0) (.lit (.int 2)))) (.sub (.var 0) (.lit (.int 2))))) (.lit (.int 13))) (.lit (.int 3))) (.lit (.int 1000000007))) (.var 1)))
 .nil))) (drE m) (s2.cells rest)=out→exS ⟨callF T g d,g,false⟩ qag (drE m) (s.cells rest)=out)∧s2.n=s.n + 1∧0≤s2.a∧0≤s2.t∧s2.t < 2147483647:=by
  by_cases hc:((s.a == 0) && !s.xs.isEmpty)=true
  ·obtain ⟨xs,a,n,t⟩:=s
   cases xs with
   | nil=>simp at hc
   | cons x xs=>
    have hp:∀ (C:Cn),exS C (.sub (.var 0) (.lit (.int 1)) (.bm .pop0 (.sub (.var 0) (.lit (.int 0))) (.cons (.lit (.int 0)) .nil))) (drE m) (Sm.cells ⟨x::xs,a,n + 1,t⟩ rest)=.nx (drE m) (Sm.cells ⟨xs,x,n + 1,t⟩ rest):=fun C=>
     qls (e_bm (qeg rfl rfl rfl) rfl rfl (qh6 x xs a (n + 1) t rest)) rfl rfl rfl
    by_cases h18:x < 1000000000000000000
    ·refine ⟨⟨xs,0,n + 1,(t * 31 + x + 7) % 2147483647⟩,fun out ho=>?_,rfl,Int.le_refl _,Int.emod_nonneg _ (by decide),Int.emod_lt_of_pos _ (by decide)⟩
     refine qbs (S1:=Sm.cells ⟨x::xs,a,n + 1,t⟩ rest) rfl (qbs (qga (qgr _ _ rfl) ?_) ho)
     rw [if_pos hc]
     refine qbs (hp _) (qbs (qga (bb:=decide (x < 1000000000000000000)) rfl ?_) qhE)
     rw [if_pos (decide_eq_true h18)]
     have hmul:qaP .mul (.v (.int t)) (.v (.int 31)) (Sm.cells ⟨xs,x,n + 1,t⟩ rest)=.ok (.v (.int (t * 31)),Sm.cells ⟨xs,x,n + 1,t⟩ rest):=by
      simp only [qaP,W.view]
      rw [if_pos (.inr (by decide))]
      rfl
     have hv:evE ⟨callF T g d,g,false⟩ (.bin .mod (.bf .int (.cons (.bin .add (.bin .add (.bin .mul (.sub (.var 0) (.lit (.int 3))) (.lit (.int 31))) (.sub (.var 0) (.lit (.int 1)))) (.lit (.int 7))) .nil)) (.lit (.int 2147483647))) (drE m) (Sm.cells ⟨xs,x,n + 1,t⟩ rest) =
       .ok (.v (.int ((t * 31 + x + 7) % 2147483647)),Sm.cells ⟨xs,x,n + 1,t⟩ rest):=
      qb5 (x:=.v (.int (t * 31 + x + 7))) (e_bf (ps:=[.int (t * 31 + x + 7)]) (qkj (qb5 (x:=.v (.int (t * 31 + x))) (qb5 (x:=.v (.int (t * 31))) (y:=.v (.int x)) (qb5 (x:=.v (.int t)) (qeg rfl rfl rfl) rfl hmul) (qeg rfl rfl rfl) rfl) rfl rfl) qmq) rfl rfl) rfl rfl
     refine qbs (S1:=Sm.cells ⟨xs,x,n + 1,(t * 31 + x + 7) % 2147483647⟩ rest) (qls hv rfl rfl rfl) (qbs rfl qhE)
    ·refine ⟨⟨xs,x,n + 1,t⟩,fun out ho=>?_,rfl,by show 0≤x;omega,ht,ht2⟩
     refine qbs (S1:=Sm.cells ⟨x::xs,a,n + 1,t⟩ rest) rfl (qbs (qga (qgr _ _ rfl) ?_) ho)
     rw [if_pos hc]
     refine qbs (hp _) (qbs (qga (bb:=decide (x < 1000000000000000000)) rfl ?_) qhE)
     rw [if_neg (by simpa using h18)]
     exact qhE
  ·refine ⟨{ s with n:=s.n + 1 },fun out ho=>?_,rfl,ha,ht,ht2⟩
   refine qbs (S1:=Sm.cells { s with n:=s.n + 1 } rest) rfl (qbs (qga (qgr _ _ rfl) ?_) ho)
   rw [if_neg hc]
   exact qhE
 obtain ⟨⟨xs,a,n,t⟩,go,e1,h1,h2,h3⟩:=two
 have e1':n=s.n + 1:=e1
 have h1:0≤a:=h1
 have h2:0≤t:=h2
 have h3:t < 2147483647:=h3
 have hn0:0≤n:=by omega
 have hn9:n≤B + 1:=by omega
 have fin:∀ {r:Int} {s':Sm},exS ⟨callF T g d,g,false⟩ qag (drE m) (s.cells rest)=.ret (.v (.int r)) (s'.cells rest)→callF T g (d + 1) "_law_draw" [.c 1,.v (.int m)] (s.cells rest)=.ok (.v (.int r),s'.cells rest):=fun {r s'} h=>by
  unfold callF
  rw [hT]
  show (match exS ⟨callF T g d,g,false⟩ qag (drE m) (s.cells rest) with
   | .ret w S1=>qbG false (s.cells rest).length w S1
   | .nx _ S1=>qbG false (s.cells rest).length (.v .non) S1
   | .ex c fs _ S1=>.ex c fs (S1.take (s.cells rest).length)
   | _=>.no)=_
  rw [h]
  show R.ok (W.v (.int r),(s'.cells rest).take (s.cells rest).length)=_
  rw [List.take_of_length_le (by simp [Sm.cells])]
 by_cases hpos:0 < a
 ·refine ⟨⟨xs,a / m,n,t⟩,a % m,fin (go _ ?_),⟨Int.ediv_nonneg h1 (Int.le_of_lt hm),hn0,hn9,h2,h3⟩,Int.emod_nonneg _ (by omega),Int.emod_lt_of_pos _ hm⟩
  refine qc7 (qga (bb:=decide (0 < a)) rfl ?_)
  rw [if_pos (decide_eq_true hpos)]
  have hmod:qaP .mod (.v (.int a)) (.v (.int m)) (Sm.cells ⟨xs,a,n,t⟩ rest)=.ok (.v (.int (a % m)),Sm.cells ⟨xs,a,n,t⟩ rest):=by
   simp only [qaP,W.view]
   rw [if_pos hm]
   rfl
  have hdiv:qaP .fdiv (.v (.int a)) (.v (.int m)) (Sm.cells ⟨xs,a,n,t⟩ rest)=.ok (.v (.int (a / m)),Sm.cells ⟨xs,a,n,t⟩ rest):=by
   simp only [qaP,W.view]
   rw [if_pos ⟨hm,hm2⟩]
   rfl
  exact qbs (qnf (qb5 (x:=.v (.int a)) (e_bf (ps:=[.int a]) (qkj (qeg rfl rfl rfl) qmq) rfl rfl) rfl hmod)) (qbs (S1:=Sm.cells ⟨xs,a / m,n,t⟩ rest) (qls (qb5 (x:=.v (.int a)) (qeg rfl rfl rfl) rfl hdiv) rfl rfl rfl) (qc7 (qnk rfl)))
 ·have hz:a=0:=by omega
  have hn1:0≤n∧n < 1000001:=by omega
  have hb1:(t + 104729 * n + 17).natAbs < 18446744073709551616:=by omega
  have pw:∀ (S:qaa) (i:Int) (j:Int),0≤j→j≤1000000→i.natAbs < 18446744073709551616→qaP .pow (.v (.int i)) (.v (.int j)) S=.ok (.v (.int (i ^ j.toNat)),S):=fun S i j h1 h2 h3=>by
   simp only [qaP,W.view]
   rw [if_pos ⟨h1,h2,h3⟩]
   rfl
  have md:∀ (S:qaa) (i j:Int),0 < j→qaP .mod (.v (.int i)) (.v (.int j)) S=.ok (.v (.int (i % j)),S):=fun S i j h=>by
   simp only [qaP,W.view]
   rw [if_pos h]
   rfl
  have ml:∀ (S:qaa) (i j:Int),i.natAbs < 18446744073709551616∨j.natAbs < 18446744073709551616→qaP .mul (.v (.int i)) (.v (.int j)) S=.ok (.v (.int (i * j)),S):=fun S i j h=>by
   simp only [qaP,W.view]
   rw [if_pos h]
   rfl
  obtain ⟨mx,hmx⟩:∃ mx:Int,mx=(t + 104729 * n + 17) ^ (5:Int).toNat % 2147483629:=⟨_,rfl⟩
  have hmx1:0≤mx:=by rw [hmx];exact Int.emod_nonneg _ (by decide)
  have hmx2:mx < 2147483629:=by rw [hmx];exact Int.emod_lt_of_pos _ (by decide)
  have hnn:0≤40503 * n * n:=Int.mul_nonneg (by omega) hn1.1
  have hnn2:40503 * n * n≤40503 * 1000001 * 1000001:=by
   have h1:40503 * n≤40503 * 1000001:=by omega
   calc 40503 * n * n≤40503 * 1000001 * n:=Int.mul_le_mul_of_nonneg_right h1 hn1.1
    _≤40503 * 1000001 * 1000001:=Int.mul_le_mul_of_nonneg_left (by omega) (by decide)
  have hb2:(mx * 48271 + 40503 * n * n + 13).natAbs < 18446744073709551616:=by omega
  refine ⟨⟨xs,a,n,t⟩,(mx * 48271 + 40503 * n * n + 13) ^ (3:Int).toNat % 1000000007 % m,fin (go _ ?_),⟨h1,hn0,hn9,h2,h3⟩,Int.emod_nonneg _ (by omega),Int.emod_lt_of_pos _ hm⟩
  refine qbs (qga (bb:=decide (0 < a)) rfl (by rw [if_neg (by simpa using hpos)];exact qhE)) ?_
  have h2e:evE ⟨callF T g d,g,false⟩ (.sub (.var 0) (.lit (.int 2))) (drE m) (Sm.cells ⟨xs,a,n,t⟩ rest)=.ok (.v (.int n),Sm.cells ⟨xs,a,n,t⟩ rest):=qeg rfl rfl rfl
  have hset:exS ⟨callF T g d,g,false⟩ (.set 2 (.bin .mod (.bin .pow (.bin .add (.bin .add (.sub (.var 0) (.lit (.int 3))) (.bin .mul (.lit (.int 104729)) (.sub (.var 0) (.lit (.int 2))))) (.lit (.int 17))) (.lit (.int 5))) (.lit (.int 2147483629)))) (drE m) (Sm.cells ⟨xs,a,n,t⟩ rest) =
    .nx [some (.c 1),some (.v (.int m)),some (.v (.int mx)),none] (Sm.cells ⟨xs,a,n,t⟩ rest):=by
   rw [hmx]
   exact qnf (qb5 (qb5 (qb5 (x:=.v (.int (t + 104729 * n))) (qb5 (x:=.v (.int t)) (y:=.v (.int (104729 * n))) (qeg rfl rfl rfl) (qb5 rfl h2e (ml _ _ _ (.inl (by decide)))) rfl) rfl rfl) rfl (pw _ _ _ (by decide) (by decide) hb1)) rfl (md _ _ _ (by decide)))
  refine qbs hset (qc7 (qnk ?_))
  have h2e':evE ⟨callF T g d,g,false⟩ (.sub (.var 0) (.lit (.int 2))) [some (.c 1),some (.v (.int m)),some (.v (.int mx)),none] (Sm.cells ⟨xs,a,n,t⟩ rest)=.ok (.v (.int n),Sm.cells ⟨xs,a,n,t⟩ rest):=qeg rfl rfl rfl
  exact qb5 (qb5 (qb5 (qb5 (x:=.v (.int (mx * 48271 + 40503 * n * n))) (qb5 (x:=.v (.int (mx * 48271))) (y:=.v (.int (40503 * n * n))) (qb5 rfl rfl (ml _ _ _ (.inr (by decide)))) (qb5 (qb5 rfl h2e' (ml _ _ _ (.inl (by decide)))) h2e' (ml _ _ _ (.inr (by omega)))) rfl) rfl rfl) rfl (pw _ _ _ (by decide) (by decide) hb2)) rfl (md _ _ _ (by decide))) rfl (md _ _ _ hm)
theorem qly {T:Str→Option Fn} {g:Gm} (hT:T "_law_draw"=some (.fn 4 2 [] qag false)) (d:Nat) {s:Sm} {B:Int} (hs:s.ok B) (hB:B < 1000000) (hm:0 < m) (hm2:m < 1073741824) :
  ∃ (s':Sm) (r:Int),callF T g (d + 1) "_law_draw" [.c 1,.v (.int m)] (s.cells rest)=.ok (.v (.int r),s'.cells rest)∧s'.ok (B + 1)∧0≤r∧r < m:=qgX hT d hs hB hm (by omega)
end
end LS
namespace LS
open PySem L2
theorem qhf (S:qaa) (c:Cell):(S++[c])[S.length]?=some c:=by simp
theorem qjl (S:qaa) (c c':Cell):(S++[c]).set S.length c'=S++[c']:=by simp
theorem qfl (ps:List P) (k:Nat):(ps.map W.v).all (qad k)=true:=by
 rw [List.all_eq_true]
 intro y hy
 obtain ⟨i,_,rfl⟩:=List.mem_map.mp hy
 rfl
theorem qgS:∀ ps:List P,allP (ps.map W.v)=some ps
 | []=>rfl
 | p::ps=>by simp [allP,qgS ps]
theorem qhZ {kp:Bool} (S:qaa) (acc:List P) (p:P) (h:acc.length < lim):qdk kp S.length (.v p) (S++[.lst (acc.map W.v)])=.ok (S++[.lst ((acc++[p]).map W.v)]):=by
 unfold qdk
 rw [qhf]
 simp only [List.length_map,if_pos h]
 unfold write
 rw [if_pos]
 ·rw [qjl]
  simp
 ·left
  show (acc.map W.v++[W.v p]).all (qad S.length)=true
  have:=qfl (acc++[p]) S.length
  simpa using this
theorem qk1 {kp:Bool} (S:qaa) (ps:List P):finC kp false S.length (S++[.lst (ps.map W.v)])=.ok (.v (.lst ps),S):=by
 unfold finC
 simp only [qhf,Cell.view,qgS,Option.map_some]
 simp
structure Fam (σ:Type) where
 st:σ→qaa→qaa
 ap:∀ s r c,st s (r++[c])=st s r++[c]
 ln:∀ s s' r,(st s r).length=(st s' r).length
def famS:Fam Sm:=⟨Sm.cells,fun _ _ _=>rfl,fun s s' r=>by simp [Sm.cells]⟩
def famU:Fam Unit:=⟨fun _ r=>r,fun _ _ _=>rfl,fun _ _ _=>rfl⟩
section
variable {σ:Type} {C:Cn} {env:Env} {own:List (Str × Nat)} {tg:Tg} {it ifs elt:E} {rest:qaa}
theorem qnF (F:Fam σ) (Inv:List W→List P→σ→Prop) {xs:List W} {s:σ} {S0:qaa} (hi:evI C it env S0=.ok (.st xs,F.st s rest)) (hz:xs.length≤lim) (h0:Inv xs [] s)
  (step:∀ x xs acc s,Inv (x::xs) acc s→∃ e0 s1,qeh tg x (qbV env (own.map (·.2)))=some e0∧
   ((evIf (C.in_ false) ifs e0 (F.st s (rest++[.lst (acc.map W.v)]))=.ok (false,F.st s1 (rest++[.lst (acc.map W.v)]))∧Inv xs acc s1)∨
    ∃ s2 p,evIf (C.in_ false) ifs e0 (F.st s (rest++[.lst (acc.map W.v)]))=.ok (true,F.st s1 (rest++[.lst (acc.map W.v)]))∧evE (C.in_ false) elt e0 (F.st s1 (rest++[.lst (acc.map W.v)]))=.ok (.v p,F.st s2 (rest++[.lst (acc.map W.v)]))∧Inv xs (acc++[p]) s2)) :
  ∃ ps s',evE C (.lc false own tg it ifs elt) env S0=.ok (.v (.lst ps),F.st s' rest)∧Inv [] ps s':=by
 have lp:∀ (ys:List W) (acc:List P) (s0:σ),acc.length + ys.length≤lim→Inv ys acc s0→∃ ps s',qee (qd2 (C.in_ false) env own tg ifs elt (F.st s rest).length) ys (F.st s0 rest++[.lst (acc.map W.v)])=.ok (F.st s' rest++[.lst (ps.map W.v)])∧Inv [] ps s':=by
  intro ys
  induction ys with
  | nil=>exact fun acc s0 _ h=>⟨acc,s0,rfl,h⟩
  | cons y ys ih=>
   intro acc s0 hl h
   obtain ⟨e0,s1,h1,h2⟩:=step y ys acc s0 h
   rcases h2 with ⟨h2,h3⟩ | ⟨s2,p,h2,h3,h4⟩
   ·obtain ⟨ps,s',h5,h6⟩:=ih acc s1 (by simp only [List.length_cons] at hl;omega) h3
    refine ⟨ps,s',?_,h6⟩
    unfold qee
    have:qd2 (C.in_ false) env own tg ifs elt (F.st s rest).length y (F.st s0 rest++[.lst (acc.map W.v)])=.ok (F.st s1 rest++[.lst (acc.map W.v)]):=by
     unfold qd2
     rw [qfw h1]
     rw [F.ap,F.ap] at h2
     simp only [h2,nxo,bok]
     rfl
    rw [this]
    exact h5
   ·have hl':acc.length < lim:=by simp only [List.length_cons] at hl;omega
    obtain ⟨ps,s',h5,h6⟩:=ih (acc++[p]) s2 (by simp only [List.length_cons,List.length_append,List.length_nil] at hl ⊢;omega) h4
    refine ⟨ps,s',?_,h6⟩
    unfold qee
    have:qd2 (C.in_ false) env own tg ifs elt (F.st s rest).length y (F.st s0 rest++[.lst (acc.map W.v)])=.ok (F.st s2 rest++[.lst ((acc++[p]).map W.v)]):=by
     unfold qd2
     rw [qfw h1]
     rw [F.ap,F.ap] at h2
     rw [F.ap,F.ap] at h3
     simp only [h2,nxo,bok,if_pos,h3]
     rw [F.ln s s2 rest]
     exact qhZ _ acc p hl'
    rw [this]
    exact h5
 obtain ⟨ps,s',h1,h2⟩:=lp xs [] s (by simpa using hz) h0
 refine ⟨ps,s',e_lc hi h1 ?_,h2⟩
 rw [F.ln s s' rest]
 exact qk1 _ ps
end
end LS
namespace LS
open PySem L2
def low (c:Nat):Prop:=97≤c∧c≤122
def lowS (s:Str):Prop:=∀ c∈s.cps.toList,low c
def good (s:Str):Prop:=1≤s.length∧s.length≤8∧s≠"strike"∧lowS s
abbrev abc:Str:="abcdefghijklmnopqrstuvwxyz"
theorem qjC:abc.cps.toList=(List.range 26).map (· + 97):=by decide +kernel
theorem qkL {c:Nat}:c∈abc.cps.toList↔low c:=by
 rw [qjC]
 simp only [List.mem_map,List.mem_range,low]
 constructor
 ·rintro ⟨a,h,rfl⟩
  omega
 ·intro h
  exact ⟨c - 97,by omega,by omega⟩
theorem qev:∀ ys:List Str,qcc (ys.map P.str)=some ys
 | []=>rfl
 | y::ys=>by simp [qcc,qev ys]
theorem qfJ (ys:List Str):(ys.map P.str).all qaV=true:=by
 rw [List.all_eq_true]
 intro p hp
 obtain ⟨y,_,rfl⟩:=List.mem_map.mp hp
 rfl
theorem qjb (x:Str) (ys:List Str):inP (.str x) (.lst (ys.map P.str))=some (decide (x∈ys)):=by
 unfold inP
 simp only [qfJ,qaV,Bool.and_self,if_true]
 congr 1
 rw [List.any_map]
 apply Bool.eq_iff_iff.mpr
 rw [List.any_eq_true,decide_eq_true_iff]
 constructor
 ·rintro ⟨y,hy,he⟩
  have:(y == x)=true:=he
  rw [beq_iff_eq] at this
  exact this ▸ hy
 ·intro h
  exact ⟨x,h,by show (x == x)=true;simp⟩
theorem qlm {σ α:Type} (F:Fam σ) {C:Cn} {env:Env} {own:List (Str × Nat)} {tg:Tg} {it ifs elt:E} {rest:qaa} {ys:List α} {w:α→W} {b:α→Bool} {f:α→P} {s:σ} {S0:qaa} (hi:evI C it env S0=.ok (.st (ys.map w),F.st s rest)) (hz:ys.length≤lim)
  (step:∀ y∈ys,∀ R,∃ e0,qeh tg (w y) (qbV env (own.map (·.2)))=some e0∧evIf (C.in_ false) ifs e0 (F.st s (rest++[R]))=.ok (b y,F.st s (rest++[R]))∧(b y=true→evE (C.in_ false) elt e0 (F.st s (rest++[R]))=.ok (.v (f y),F.st s (rest++[R])))) :
  evE C (.lc false own tg it ifs elt) env S0=.ok (.v (.lst ((ys.filter b).map f)),F.st s rest):=by
 have:=qnF F (Inv:=fun xs acc s'=>s'=s∧∃ zs,xs=zs.map w∧(∃ us,us++zs=ys∧acc=(us.filter b).map f)) (C:=C) (env:=env) (own:=own) (tg:=tg) (it:=it) (ifs:=ifs) (elt:=elt) (rest:=rest) hi (by simpa using hz) ⟨rfl,ys,rfl,[],rfl,rfl⟩ (by
  rintro x xs acc s' ⟨rfl,zs,hzs,us,hus,hacc⟩
  cases zs with
  | nil=>cases hzs
  | cons z zs=>
   cases hzs
   obtain ⟨e0,h1,h2,h3⟩:=step z (by rw [← hus];simp) (.lst (acc.map W.v))
   refine ⟨e0,s',h1,?_⟩
   cases hb:b z with
   | false=>
    left
    rw [hb] at h2
    exact ⟨h2,rfl,zs,rfl,us++[z],by simp [← hus],by simp [hacc,hb]⟩
   | true=>
    right
    rw [hb] at h2
    exact ⟨s',f z,h2,h3 hb,rfl,zs,rfl,us++[z],by simp [← hus],by simp [hacc,hb]⟩)
 obtain ⟨ps,s',h1,rfl,zs,hzs,us,hus,hps⟩:=this
 have:zs=[]:=by
  cases zs with
  | nil=>rfl
  | cons _ _=>cases hzs
 subst this
 rw [List.append_nil] at hus
 subst hus
 rw [← hps]
 exact h1
end LS
namespace LS
open PySem L2
instance:DecidablePred low:=fun _=>inferInstanceAs (Decidable (_∧_))
instance (s:Str):Decidable (lowS s):=inferInstanceAs (Decidable (∀ c∈s.cps.toList,low c))
instance (s:Str):Decidable (good s):=inferInstanceAs (Decidable (_∧_∧_∧_))
theorem Sm.ok.mono {s:Sm} {B B':Int} (h:s.ok B) (hb:B≤B'):s.ok B':=⟨h.1,h.2.1,Int.le_trans h.2.2.1 hb,h.2.2.2⟩
theorem qqF {a b p:P} {S:qaa} (h:ixP a b=some p):qb0 (.v a) (.v b) S=.ok (.v p,S):=by
 simp only [qb0,h,ok1]
section
variable {T:Str→Option Fn} {g:Gm} (hTd:T "_law_draw"=some (.fn 4 2 [] qag false)) (hgd:g.fn "_law_draw"=true)
include hTd hgd
end
end LS
namespace LS
open PySem L2
end LS
set_option maxHeartbeats 4000000
namespace LS
open PySem L2
theorem qd7:("":Str)=Str.empty:=by decide +kernel
theorem len1 (c:Nat):Str.length ⟨#[c]⟩=1:=rfl
theorem qgY (cs:List Nat):((cs.map fun c=>(⟨#[c]⟩:Str)).map (·.length)).sum=cs.length:=by
 induction cs with
 | nil=>rfl
 | cons c cs ih=>
  simp only [List.map_cons,List.sum_cons,ih,len1,List.length_cons]
  omega
theorem qji {a b:List P} {S:qaa} (h:a.length + b.length≤lim):qaP .add (.v (.lst a)) (.v (.lst b)) S=.ok (.v (.lst (a++b)),S):=by
 simp only [qaP,W.view]
 rw [if_pos h]
 rfl
def qs:List Str:=(List.range 26).map fun i=>⟨#[113,i + 97]⟩
section
variable {T:Str→Option Fn} {g:Gm} (hTd:T "_law_draw"=some (.fn 4 2 [] qag false)) (hgd:g.fn "_law_draw"=true)
include hTd hgd
end
end LS
namespace LS
open PySem L2
section
variable {T:Str→Option Fn} {g:Gm} (hTd:T "_law_draw"=some (.fn 4 2 [] qag false)) (hgd:g.fn "_law_draw"=true)
include hTd hgd
end
end LS
namespace LS
open PySem L2
section
variable {T:Str→Option Fn} {g:Gm} (hTd:T "_law_draw"=some (.fn 4 2 [] qag false)) (hgd:g.fn "_law_draw"=true)
include hTd hgd
end
end LS
namespace LS
open PySem L2
def pK (k:Str × Bool):P:=.tup [.str k.1,.bl k.2]
structure Col where
 name:Str
 home:Str
 goal:Str
 rule:Str
def pC (c:Col):P:=.tup [.str c.name,.str c.home,.str c.goal,.str c.rule]
structure Shape (ks:List (Str × Bool)) (cs:List Col):Prop where
 nd:(ks.map (·.1)++cs.map (·.name)).Nodup
 good:∀ x∈ks.map (·.1)++cs.map (·.name),LS.good x
 home:∀ c∈cs,c.home∈ks.map (·.1)
 goal:∀ c∈cs,c.goal∈ks.map (·.1)
 rule:∀ c∈cs,c.rule="fall"∨c.rule="clear"
theorem qmd {xs:List P} {lo hi:Option Int} {S:qaa}:qgJ (.v (.lst xs)) lo hi S=.ok (.v (.lst (cutL xs lo hi)),S):=by
 simp only [qgJ,W.view,ok1]
end LS
namespace LS
open PySem L2
section
variable {T:Str→Option Fn} {g:Gm} (hTd:T "_law_draw"=some (.fn 4 2 [] qag false)) (hgd:g.fn "_law_draw"=true)
include hTd hgd
end
end LS
namespace LS
open PySem L2
section
variable {T:Str→Option Fn} {g:Gm} (hTd:T "_law_draw"=some (.fn 4 2 [] qag false)) (hgd:g.fn "_law_draw"=true)
include hTd hgd
end
end LS
namespace LS
open PySem L2
section
variable {T:Str→Option Fn} {g:Gm} (hTd:T "_law_draw"=some (.fn 4 2 [] qag false)) (hgd:g.fn "_law_draw"=true)
include hTd hgd
end
end LS
namespace LS
open PySem L2
end LS
namespace LS
open PySem L2
section
variable {T:Str→Option Fn} {g:Gm} (hTd:T "_law_draw"=some (.fn 4 2 [] qag false)) (hgd:g.fn "_law_draw"=true)
include hTd hgd
end
end LS
namespace LS
open PySem L2
abbrev XQ:=Str→List (Str × P)→qaa→Prop
def WX {α:Type} (m:R α) (Q:α→Prop) (E:XQ):Prop:=match m with
 | .ok a=>Q a
 | .ex c fs S=>E c fs S
 | .no=>False
section
variable {α β:Type} {Q:α→Prop} {E:XQ}
@[simp] theorem qu5 {a:α}:WX (.ok a) Q E=Q a:=id rfl
@[simp] theorem qvE {c:Str} {fs:List (Str × P)} {S:qaa}:WX (.ex c fs S:R α) Q E=E c fs S:=id rfl
@[simp] theorem b_ok {a:α} {f:α→R β}:(R.ok a).bind f=f a:=id rfl
@[simp] theorem b_ex {c:Str} {fs:List (Str × P)} {S:qaa} {f:α→R β}:(R.ex c fs S).bind f=.ex c fs S:=id rfl
@[simp] theorem b_no {f:α→R β}:(R.no).bind f=.no:=id rfl
@[simp] theorem qvk:WX (.no:R α) Q E=False:=id rfl
@[simp] theorem b_b {γ:Type} {m:R α} {f:α→R β} {g:β→R γ}:(m.bind f).bind g=m.bind fun a=>(f a).bind g:=by
 cases m <;> rfl
theorem qgF {m:R β} {f:β→R α}:WX (m.bind f) Q E=WX m (fun a=>WX (f a) Q E) E:=by
 cases m <;> rfl
@[simp] theorem ifno {c:Prop} [Decidable c] {m:R α} (h:c):(if c then m else .no)=m:=if_pos h
theorem qiE {m:R α} (h:WX m Q fun _ _ _=>False):∃ a,m=.ok a∧Q a:=by
 cases m
 ·exact ⟨_,rfl,h⟩
 ·exact h.elim
 ·exact h.elim
end
@[simp] theorem qv2 {α:Type} {a:α}:(R.ok a).noEx=.ok a:=id rfl
@[simp] theorem quk {α:Type}:(R.no:R α).noEx=.no:=id rfl
@[simp] theorem qqQ {α β:Type} {m:R α} {f:α→R β}:(m.bind f).noEx=m.noEx.bind fun a=>(f a).noEx:=by
 cases m <;> rfl
@[simp] theorem qvN {α:Type} {c:Prop} [Decidable c] {m n:R α}:(if c then m else n).noEx=if c then m.noEx else n.noEx:=by
 split <;> rfl
structure Po where
 nx:Env→qaa→Prop
 rt:W→qaa→Prop
 bk:Env→qaa→Prop
 ct:Env→qaa→Prop
 ex:Str→List (Str × P)→Env→qaa→Prop
def WS (r:RS) (Z:Po):Prop:=match r with
 | .nx e s=>Z.nx e s
 | .ret w s=>Z.rt w s
 | .bk e s=>Z.bk e s
 | .ct e s=>Z.ct e s
 | .ex c fs e s=>Z.ex c fs e s
 | .no=>False
section
variable {Z:Po}
@[simp] theorem qu9 {e:Env} {s:qaa}:WS (.nx e s) Z=Z.nx e s:=id rfl
@[simp] theorem qvW {e:W} {s:qaa}:WS (.ret e s) Z=Z.rt e s:=id rfl
@[simp] theorem quE {e:Env} {s:qaa}:WS (.bk e s) Z=Z.bk e s:=id rfl
@[simp] theorem qvU {e:Env} {s:qaa}:WS (.ct e s) Z=Z.ct e s:=id rfl
@[simp] theorem qvn {c:Str} {fs:List (Str × P)} {e:Env} {s:qaa}:WS (.ex c fs e s) Z=Z.ex c fs e s:=id rfl
@[simp] theorem l_ok {α:Type} {env:Env} {a:α} {k:α→RS}:lift env (.ok a) k=k a:=id rfl
@[simp] theorem l_ex {α:Type} {env:Env} {k:α→RS} {c:Str} {fs:List (Str × P)} {S:qaa}:lift env (.ex c fs S) k=.ex c fs env S:=id rfl
theorem qeH {α:Type} {env:Env} {m:R α} {k:α→RS}:WS (lift env m k) Z=WX m (fun a=>WS (k a) Z) fun c fs S=>Z.ex c fs env S:=by
 cases m <;> rfl
end
def seqS (r:RS) (k:Env→qaa→RS):RS:=match r with
 | .nx e s=>k e s
 | q=>q
section
variable {Z:Po} {k:Env→qaa→RS}
@[simp] theorem qva {e:Env} {s:qaa}:seqS (.nx e s) k=k e s:=id rfl
@[simp] theorem qvr {e:W} {s:qaa}:seqS (.ret e s) k=.ret e s:=id rfl
@[simp] theorem qvm {e:Env} {s:qaa}:seqS (.bk e s) k=.bk e s:=id rfl
@[simp] theorem qvp {e:Env} {s:qaa}:seqS (.ct e s) k=.ct e s:=id rfl
@[simp] theorem qvR {c:Str} {fs:List (Str × P)} {e:Env} {s:qaa}:seqS (.ex c fs e s) k=.ex c fs e s:=id rfl
@[simp] theorem quj {r:RS} {k2:Env→qaa→RS}:seqS (seqS r k) k2=seqS r fun e s=>seqS (k e s) k2:=by
 cases r <;> rfl
@[simp] theorem qp3 {α:Type} {env:Env} {m:R α} {f:α→RS}:seqS (lift env m f) k=lift env m fun a=>seqS (f a) k:=by
 cases m <;> rfl
theorem qnS {r:RS}:WS (seqS r k) Z=WS r ⟨fun e s=>WS (k e s) Z,Z.rt,Z.bk,Z.ct,Z.ex⟩:=by
 cases r <;> rfl
end
def WS.mono {r:RS} {Z Z':Po} (h:WS r Z) (h1:∀ e s,Z.nx e s→Z'.nx e s) (h2:∀ e s,Z.rt e s→Z'.rt e s) (h3:∀ e s,Z.bk e s→Z'.bk e s) (h4:∀ e s,Z.ct e s→Z'.ct e s) (h5:∀ c fs e s,Z.ex c fs e s→Z'.ex c fs e s):WS r Z':=by
 cases r
 ·exact h1 _ _ h
 ·exact h2 _ _ h
 ·exact h3 _ _ h
 ·exact h4 _ _ h
 ·exact h5 _ _ _ _ h
 ·exact h
section
variable {C:Cn} {env:Env} {S:qaa} {a b c l t it lo hi i e:E} {o o':BO} {p:P} {x f m:Str} {n:Nat}
@[simp] theorem qts:evE C (.var n) env S=match env[n]? with | some (some w)=>.ok (w,S) | _=>.no:=by simp only [evE] <;> rfl
@[simp] theorem qub:evE C (.lit p) env S=.ok (.v p,S):=by simp only [evE]
@[simp] theorem qtT:evE C (.glo x) env S=match C.g.glo x with | some p=>.ok (.v p,S) | none=>.no:=by simp only [evE] <;> rfl
@[simp] theorem qt9:evE C (.bin o a b) env S=(evE C a env S).bind fun q=>(evE C b env q.2).bind fun q2=>qaP o q.1 q2.1 q2.2:=by simp only [evE]
@[simp] theorem qtz {o:CO}:evE C (.cmp o a b) env S=(evE C a env S).bind fun q=>(evE C b env q.2).bind fun q2=>qaH o q.1 q2.1 q2.2:=by simp only [evE]
def chnK (C:Cn) (o':CO) (c:E) (env:Env) (y:W) (z:W × qaa):R (W × qaa):=match z.1 with
  | .v (.bl true)=>(evE C c env z.2).bind fun q3=>qaH o' y q3.1 q3.2
  | .v (.bl false)=>.ok (.v (.bl false),z.2)
  | _=>.no
@[simp] theorem qq8 {o o':CO}:evE C (.chn o o' a b c) env S=(evE C a env S).bind fun q=>(evE C b env q.2).bind fun q2=>(qaH o q.1 q2.1 q2.2).bind fun z=>chnK C o' c env q2.1 z:=by
 simp only [evE] <;> rfl
@[simp] theorem qoq {o':CO} {y:W} {k:Bool}:chnK C o' c env y (.v (.bl k),S)=if k=true then (evE C c env S).bind fun q3=>qaH o' y q3.1 q3.2 else .ok (.v (.bl false),S):=by
 cases k <;> rfl
@[simp] theorem qth:evE C (.and a b) env S=(evE C a env S).bind fun q=>qc6 q (fun S=>evE C b env S) true:=by simp only [evE]
@[simp] theorem quO:evE C (.or a b) env S=(evE C a env S).bind fun q=>qc6 q (fun S=>evE C b env S) false:=by simp only [evE]
@[simp] theorem qta:evE C (.not a) env S=(qaC (evE C a env S)).bind fun q=>.ok (.v (.bl (!q.1)),q.2):=by simp only [evE]
@[simp] theorem qsA:evE C (.ite t a b) env S=(qaC (evE C t env S)).bind fun q=>if q.1=true then evE C a env q.2 else evE C b env q.2:=by simp only [evE]
@[simp] theorem qsf:evE C (.tup l) env S=(evL C l env S).bind fun q=>if q.1.length≤lim then (qax q.1 q.2).bind fun q=>.ok (.v (.tup q.1),q.2) else .no:=by simp only [evE]
@[simp] theorem qqI:evE C (.lst true l) env S=(evL C l env S).bind fun q=>if q.1.length≤lim then qaL (.lst q.1) q.2 else .no:=by simp only [evE]
@[simp] theorem qqY:evE C (.lst false l) env S=(evL C l env S).bind fun q=>if q.1.length≤lim then (qax q.1 q.2).bind fun q=>.ok (.v (.lst q.1),q.2) else .no:=by simp only [evE]
@[simp] theorem qst:evE C (.sub a i) env S=(evE C a env S).bind fun q=>(evE C i env q.2).bind fun q2=>qb0 q.1 q2.1 q2.2:=by simp only [evE]
@[simp] theorem qte:evE C (.slc a lo hi) env S=(evE C a env S).bind fun q=>(evO C lo env q.2).bind fun q2=>(evO C hi env q2.2).bind fun q3=>qgJ q.1 q2.1 q3.1 q3.2:=by simp only [evE]
@[simp] theorem qsk:evE C (.att a f) env S=(evE C a env S).bind fun q=>qel C.g.fld q.1 f q.2:=by simp only [evE]
@[simp] theorem qqp:evE C (.call f l) env S=if C.g.fn f=true then (evL C l env S).bind fun q=>C.call f q.1 q.2 else .no:=by simp only [evE]
@[simp] theorem qqR:evE C (.make f l) env S=if C.g.fn f=true then (evL C l env S).bind fun q=>C.call f q.1 q.2 else .no:=by simp only [evE]
def methK (C:Cn) (m:Str) (l:E) (env:Env) (q:W × qaa):R (W × qaa):=match qbv m q.1 q.2 with
  | some c=>if C.g.met c m=true then (evL C l env q.2).bind fun q2=>C.call (c++"."++m) (q.1::q2.1) q2.2 else .no
  | none=>.no
@[simp] theorem qqD:evE C (.meth a m l) env S=(evE C a env S).bind fun q=>methK C m l env q:=by simp only [evE] <;> rfl
@[simp] theorem qmP {cl:Str} {fs:List (Str × P)} (h:(fs.lookup m).isNone=true) (hg:C.g.met cl m=true):methK C m l env (.v (.obj cl fs),S)=(evL C l env S).bind fun q2=>C.call (cl++"."++m) (.v (.obj cl fs)::q2.1) q2.2:=by
 simp only [methK,qbv,if_pos h,if_pos hg]
@[simp] theorem qu1 {m:BM}:evE C (.bm m a l) env S=(evE C a env S).bind fun q=>if bmTy m q.1 q.2=true then (evL C l env q.2).bind fun q2=>bmOp C.keep m q.1 q2.1 q2.2 else .no:=by simp only [evE]
def bfK (f:BF) (q:List W × qaa):R (W × qaa):=match qcA q.1 q.2 with
  | some ps=>match bfOp f ps with
   | some p=>.ok (.v p,q.2)
   | none=>.no
  | none=>qeN f q.1 q.2
@[simp] theorem qwb {f:BF}:evE C (.bf f l) env S=(evL C l env S).bind fun q=>bfK f q:=by simp only [evE] <;> rfl
def qjX (q:W × qaa):R (W × qaa):=match q.1.view q.2 with
  | some (.lst xs)=>qaL (.lst (xs.map .v)) q.2
  | some (.tup xs)=>qaL (.lst (xs.map .v)) q.2
  | some (.scr ns)=>qaL (.lst (ns.map fun i=>.v (.int i))) q.2
  | _=>.no
@[simp] theorem qod:evE C (.listC a) env S=(evE C a env S).bind fun q=>qjX q:=by simp only [evE] <;> rfl
def qbB (cell:Bool) (q:W × qaa):R (W × qaa):=match q.1.view q.2 with
  | some (.dct kvs)=>if cell=true then qaL (.lst ((kvs.map fun z=>.tup [kP z.1,z.2]).map .v)) q.2 else .ok (.v (.lst (kvs.map fun z=>.tup [kP z.1,z.2])),q.2)
  | _=>.no
@[simp] theorem qj7 {cell:Bool}:evE C (.listItems cell a) env S=(evE C a env S).bind fun q=>qbB cell q:=by simp only [evE] <;> rfl
@[simp] theorem qvg {c:Str→List W→qaa→R (W × qaa)} {g:Gm} {k cell:Bool}:Cn.in_ ⟨c,g,k⟩ cell=⟨c,g,k && cell⟩:=id rfl
@[simp] theorem qog:evE C (.callK f l) env S=if C.keep=true∧C.g.fnK f=true then (evL C l env S).bind fun q=>C.call f q.1 q.2 else .no:=by simp only [evE]
@[simp] theorem qn2:evE C (.makeK f l) env S=if C.keep=true∧C.g.fnK f=true then (evL C l env S).bind fun q=>C.call f q.1 q.2 else .no:=by simp only [evE]
def mxK (q:List W × qaa):R (W × qaa):=match qcA q.1 q.2 with
  | some ps=>match bfOp .max2 ps with
   | some p=>.ok (.v p,q.2)
   | none=>.no
  | none=>.no
@[simp] theorem qvh:evE C (.mx l) env S=(evL C l env S).bind fun q=>mxK q:=by simp only [evE] <;> rfl
@[simp] theorem qwe {i j:Int}:mxK ([.v (.int i),.v (.int j)],S)=.ok (.v (.int (if j > i then j else i)),S):=id rfl
@[simp] theorem qqe {i j:Int}:bfOp .max2 [.int i,.int j]=some (.int (if j > i then j else i)):=id rfl
@[simp] theorem qnW {kvs:List (Key × P)}:bfOp .dict [.dct kvs]=some (.dct kvs):=id rfl
@[simp] theorem qn5 {kvs:List (Key × P)}:bfOp .list [.dct kvs]=some (.lst (kvs.map fun z=>kP z.1)):=id rfl
def hasR (neg:Bool) (r:W × qaa):R (W × qaa):=match r.1 with
    | .v (.bl k)=>.ok (.v (.bl (if neg=true then !k else k)),r.2)
    | _=>.no
def hasK (C:Cn) (neg:Bool) (x:W) (q2:W × qaa):R (W × qaa):=match qbv "__contains__" q2.1 q2.2 with
  | some c=>if C.g.met c "__contains__"=true then (C.call (c++"."++"__contains__") [q2.1,x] q2.2).bind fun r=>hasR neg r
   else .no
  | none=>.no
@[simp] theorem qrM {neg:Bool}:evE C (.has neg a b) env S=(evE C a env S).bind fun q=>(evE C b env q.2).bind fun q2=>hasK C neg q.1 q2:=by simp only [evE] <;> rfl
@[simp] theorem qrR {neg k:Bool}:hasR neg (.v (.bl k),S)=.ok (.v (.bl (if neg=true then !k else k)),S):=id rfl
@[simp] theorem qnU {neg:Bool} {x:W} {cl:Str} {fs:List (Str × P)} (h:(fs.lookup (Str.ofString "__contains__")).isNone=true) (hg:C.g.met cl "__contains__"=true):hasK C neg x (.v (.obj cl fs),S)=(C.call (cl++"."++"__contains__") [.v (.obj cl fs),x] S).bind fun r=>hasR neg r:=by
 simp only [hasK,qbv,if_pos h,if_pos hg]
@[simp] theorem qpW:evE C (.fstr l) env S=(evJ C l env S Str.empty).bind fun q=>.ok (.v (.str q.1),q.2):=by simp only [evE]
def dicK (kp cell:Bool) (D:Nat) (q:List (Key × W) × qaa):R (W × qaa):=match q.2[D]? with
  | some (.dct [])=>if 15 < q.1.length then .no else (write (kp && cell) D (.dct (q.1.foldl (fun acc z=>setK acc z.1 z.2) [])) q.2).bind fun S2=>finC kp cell D S2
  | _=>.no
@[simp] theorem qrX {cell:Bool}:evE C (.dic cell l) env S=(evK (C.in_ cell) l env (S++[.dct []])).noEx.bind fun q=>dicK C.keep cell S.length q:=by
 simp only [evE] <;> rfl
@[simp] theorem qrE:evK C .nil env S=.ok ([],S):=by simp only [evK]
def kvK (k v:W) (q:List (Key × W) × qaa):R (List (Key × W) × qaa):=match k with
  | .v p=>match qaU p with
   | some k=>(frzT q.2 v).bind fun z=>.ok ((k,z.1)::q.1,z.2)
   | none=>.no
  | _=>.no
@[simp] theorem qwq:evK C (.kv a b l) env S=(evE C a env S).bind fun q=>(evE C b env q.2).bind fun q2=>(evK C l env q2.2).bind fun q3=>kvK q.1 q2.1 q3:=by
 simp only [evK] <;> rfl
@[simp] theorem quQ {x:Str} {p:P} {kvs:List (Key × W)}:kvK (.v (.str x)) (.v p) (kvs,S)=.ok ((.inr x,.v p)::kvs,S):=id rfl
@[simp] theorem qtc:evL C .nil env S=.ok ([],S):=by simp only [evL]
@[simp] theorem qoM:evL C (.cons a l) env S=(evE C a env S).bind fun q=>(evL C l env q.2).bind fun q2=>.ok (q.1::q2.1,q2.2):=by simp only [evL]
def qk3 (C:Cn) (l:E) (env:Env) (q:W × qaa):R (List W × qaa):=match q.1.view q.2 with
  | some (.lst xs)=>(evL C l env q.2).bind fun q2=>.ok (xs.map .v++q2.1,q2.2)
  | some (.tup xs)=>(evL C l env q.2).bind fun q2=>.ok (xs.map .v++q2.1,q2.2)
  | some (.dct kvs)=>(evL C l env q.2).bind fun q2=>.ok ((kvs.map fun z=>.v (kP z.1))++q2.1,q2.2)
  | _=>.no
@[simp] theorem qpK:evL C (.star a l) env S=(evE C a env S).bind fun q=>qk3 C l env q:=by simp only [evL] <;> rfl
@[simp] theorem quP:evI C (.it a) env S=(evE C a env S).bind fun q=>(qba q.1 q.2).bind fun z=>.ok (z,q.2):=by simp only [evI]
@[simp] theorem qsu:evI C (.rng l) env S=(evL C l env S).bind fun q=>(qeR q.1).bind fun z=>.ok (z,q.2):=by simp only [evI]
def qkD (q:W × qaa):R (Iter × qaa):=match q.1 with
  | .v (.dct kvs)=>.ok (.st (kvs.map fun z=>.v z.2),q.2)
  | _=>.no
@[simp] theorem qqV:evI C (.vals a) env S=(evE C a env S).bind fun q=>qkD q:=by simp only [evI] <;> rfl
@[simp] theorem qqN {kvs:List (Key × P)}:qkD (.v (.dct kvs),S)=.ok (.st ((kvs.map fun z=>z.2).map .v),S):=by
 simp only [qkD,List.map_map] <;> rfl
def itemsK (q:W × qaa):R (Iter × qaa):=match q.1 with
  | .v (.dct kvs)=>.ok (.st (kvs.map fun z=>.v (.tup [kP z.1,z.2])),q.2)
  | _=>.no
@[simp] theorem qn7:evI C (.items a) env S=(evE C a env S).bind fun q=>itemsK q:=by simp only [evI] <;> rfl
@[simp] theorem qnX {kvs:List (Key × P)}:itemsK (.v (.dct kvs),S)=.ok (.st ((kvs.map fun z=>.tup [kP z.1,z.2]).map .v),S):=by
 simp only [itemsK,List.map_map] <;> rfl
@[simp] theorem qtV {acc:Str}:evJ C .nil env S acc=.ok (acc,S):=by simp only [evJ]
def qkc (C:Cn) (l:E) (env:Env) (acc:Str) (q:W × qaa):R (Str × qaa):=match q.1 with
  | .v (.str s)=>if acc.length + s.length≤lim then evJ C l env q.2 (acc++s) else .no
  | _=>.no
@[simp] theorem qoN {acc:Str}:evJ C (.star a l) env S acc=(evE C a env S).bind fun q=>qkc C l env acc q:=by simp only [evJ] <;> rfl
@[simp] theorem qnT {acc s:Str}:qkc C l env acc (.v (.str s),S)=if acc.length + s.length≤lim then evJ C l env S (acc++s) else .no:=id rfl
def qj6 (C:Cn) (l:E) (env:Env) (acc:Str) (q:W × qaa):R (Str × qaa):=match q.1 with
  | .v (.str s)=>if acc.length + s.length≤lim then evJ C l env q.2 (acc++s) else .no
  | .v (.int i)=>if i.natAbs.log2 < 1920∧acc.length + (Str.ofString (toString i)).length≤lim then evJ C l env q.2 (acc++Str.ofString (toString i)) else .no
  | _=>.no
@[simp] theorem qpq {acc:Str}:evJ C (.cons a l) env S acc=(evE C a env S).bind fun q=>qj6 C l env acc q:=by simp only [evJ] <;> rfl
@[simp] theorem qnY {acc s:Str}:qj6 C l env acc (.v (.str s),S)=if acc.length + s.length≤lim then evJ C l env S (acc++s) else .no:=id rfl
@[simp] theorem qr2:evO C .nil env S=.ok (none,S):=by simp only [evO]
def optK (q:W × qaa):R (Option Int × qaa):=match q.1 with
  | .v (.int i)=>.ok (some i,q.2)
  | _=>.no
@[simp] theorem qoo:evO C (.cons a l) env S=(evE C a env S).bind fun q=>optK q:=by simp only [evO] <;> rfl
@[simp] theorem qsI {i:Int}:optK (.v (.int i),S)=.ok (some i,S):=id rfl
@[simp] theorem qpf:evIf C .nil env S=.ok (true,S):=by simp only [evIf]
@[simp] theorem qof:evIf C (.cons a l) env S=qaC (evE C a env S):=by simp only [evIf]
@[simp] theorem qri {α:Type} {m:R α} {f:α→R (W × qaa)}:qaC (m.bind f)=m.bind fun a=>qaC (f a):=by
 cases m <;> rfl
@[simp] theorem qvi {k:Bool}:qaC (.ok (.v (.bl k),S))=.ok (k,S):=id rfl
@[simp] theorem quz:qaC (.ok (.v .non,S))=.ok (false,S):=id rfl
@[simp] theorem t_if {c:Prop} [Decidable c] {m n:R (W × qaa)}:qaC (if c then m else n)=if c then qaC m else qaC n:=by
 split <;> rfl
@[simp] theorem t_no:qaC .no=.no:=id rfl
@[simp] theorem qrs {k o:Bool} {f:qaa→R (W × qaa)}:qc6 (.v (.bl k),S) f o=if k=o then f S else .ok (.v (.bl k),S):=id rfl
@[simp] theorem quJ {f:BF} {p:P}:bfK f ([.v p],S)=match bfOp f [p] with | some r=>.ok (.v r,S) | none=>.no:=id rfl
@[simp] theorem qvo {f:BF} {p q:P}:bfK f ([.v p,.v q],S)=match bfOp f [p,q] with | some r=>.ok (.v r,S) | none=>.no:=id rfl
@[simp] theorem qm0 {s:Str}:bfOp .isStr [.str s]=some (.bl true):=id rfl
@[simp] theorem qpl {s:Str} (h:s.length≤lim):bfOp .len [.str s]=some (.int s.length):=by simp only [bfOp,if_pos h]
@[simp] theorem qpy {s:List P}:bfOp .len [.lst s]=some (.int s.length):=id rfl
@[simp] theorem qpi {s:List P}:bfOp .len [.tup s]=some (.int s.length):=id rfl
@[simp] theorem qpB {s:List (Key × P)}:bfOp .len [.dct s]=some (.int s.length):=id rfl
@[simp] theorem qoF {s:Int}:bfOp .int [.int s]=some (.int s):=id rfl
@[simp] theorem qn8 {s:List P}:bfOp .list [.lst s]=some (.lst s):=id rfl
@[simp] theorem qoj {s:List P}:bfOp .list [.tup s]=some (.lst s):=id rfl
@[simp] theorem qrr {x y:Int}:qaH .lt (.v (.int x)) (.v (.int y)) S=.ok (.v (.bl (decide (x < y))),S):=id rfl
@[simp] theorem qtj {x y:Int}:qaH .le (.v (.int x)) (.v (.int y)) S=.ok (.v (.bl (decide (x≤y))),S):=id rfl
@[simp] theorem qsh {x y:Int}:qaH .gt (.v (.int x)) (.v (.int y)) S=.ok (.v (.bl (decide (y < x))),S):=id rfl
@[simp] theorem qq9 {x y:Int}:qaH .ge (.v (.int x)) (.v (.int y)) S=.ok (.v (.bl (decide (y≤x))),S):=id rfl
@[simp] theorem in_v {x y:P}:qaH .in_ (.v x) (.v y) S=match inP x y with | some b=>.ok (.v (.bl b),S) | none=>.no:=id rfl
@[simp] theorem qvy {x y:P}:qaH .nin (.v x) (.v y) S=match inP x y with | some b=>.ok (.v (.bl (!b)),S) | none=>.no:=by
 simp only [qaH,W.view,cmpP]
 cases inP x y <;> rfl
@[simp] theorem qpZ {x y:Int}:qaP .add (.v (.int x)) (.v (.int y)) S=.ok (.v (.int (x + y)),S):=id rfl
@[simp] theorem qo5 {x y:Int}:qaP .sub (.v (.int x)) (.v (.int y)) S=.ok (.v (.int (x - y)),S):=id rfl
@[simp] theorem qp9 {x y:Str}:qaP .add (.v (.str x)) (.v (.str y)) S=if x.length + y.length≤lim then .ok (.v (.str (x++y)),S) else .no:=id rfl
@[simp] theorem qpn {x y:List P}:qaP .add (.v (.lst x)) (.v (.lst y)) S=if x.length + y.length≤lim then .ok (.v (.lst (x++y)),S) else .no:=id rfl
@[simp] theorem qtq {x y:P}:qb0 (.v x) (.v y) S=match ixP x y with | some p=>.ok (.v p,S) | none=>.no:=by
 simp only [qb0];cases ixP x y <;> rfl
@[simp] theorem qpR {fl:Str→Str→Bool} {cl f:Str} {fs:List (Str × P)} (h:fl cl f=true):qel fl (.v (.obj cl fs)) f S=match fs.lookup f with | some p=>.ok (.v p,S) | none=>.no:=by
 simp only [qel,h];cases fs.lookup f <;> rfl
@[simp] theorem qpe {xs:List P}:qba (.v (.lst xs)) S=.ok (.st (xs.map .v)):=id rfl
@[simp] theorem qqz {xs:List P}:qba (.v (.tup xs)) S=.ok (.st (xs.map .v)):=id rfl
@[simp] theorem qqv {s:Str}:qba (.v (.str s)) S=.ok (.st ((s.cps.toList.map fun c=>.str ⟨#[c]⟩).map .v)):=by
 simp only [qba,List.map_map] <;> rfl
@[simp] theorem qpz {kvs:List (Key × P)}:qba (.v (.dct kvs)) S=.ok (.st ((kvs.map fun q=>kP q.1).map .v)):=by
 simp only [qba,List.map_map] <;> rfl
@[simp] theorem kP_r {s:Str}:kP (.inr s)=.str s:=id rfl
@[simp] theorem kP_l {s:Int}:kP (.inl s)=.int s:=id rfl
def qhO (C:Cn) (l:E) (env:Env) (S:qaa):Option P→R (List W × qaa)
 | some (.lst xs)=>(evL C l env S).bind fun q2=>.ok (xs.map .v++q2.1,q2.2)
 | some (.tup xs)=>(evL C l env S).bind fun q2=>.ok (xs.map .v++q2.1,q2.2)
 | some (.dct kvs)=>(evL C l env S).bind fun q2=>.ok ((kvs.map fun z=>.v (kP z.1))++q2.1,q2.2)
 | _=>.no
@[simp] theorem qn1 {w:W}:qk3 C l env (w,S)=qhO C l env S (w.view S):=by
 simp only [qk3,qhO]
@[simp] theorem qm9 {xs:List P}:qhO C l env S (some (.lst xs))=(evL C l env S).bind fun q2=>.ok (xs.map .v++q2.1,q2.2):=id rfl
@[simp] theorem qmi {xs:List P}:qhO C l env S (some (.tup xs))=(evL C l env S).bind fun q2=>.ok (xs.map .v++q2.1,q2.2):=id rfl
@[simp] theorem qmD {kvs:List (Key × P)}:qhO C l env S (some (.dct kvs))=(evL C l env S).bind fun q2=>.ok ((kvs.map fun z=>kP z.1).map .v++q2.1,q2.2):=by
 simp only [qhO,List.map_map] <;> rfl
@[simp] theorem qj9 {kvs:List (Key × P)}:qbB false (.v (.dct kvs),S)=.ok (.v (.lst (kvs.map fun z=>.tup [kP z.1,z.2])),S):=id rfl
@[simp] theorem qkr {kvs:List (Key × P)}:qbB true (.v (.dct kvs),S)=qaL (.lst ((kvs.map fun z=>.tup [kP z.1,z.2]).map .v)) S:=id rfl
@[simp] theorem qpN:qax [] S=.ok ([],S):=id rfl
@[simp] theorem qi6 {p:P} {ws:List W}:qax (.v p::ws) S=(qax ws S).bind fun q=>.ok (p::q.1,q.2):=id rfl
@[simp] theorem qlg {ps:List P} {ws:List W}:qax (ps.map .v++ws) S=(qax ws S).bind fun q=>.ok (ps++q.1,q.2):=by
 induction ps with
 | nil=>cases h:qax ws S <;> simp [h]
 | cons p ps ih=>
  simp only [List.map_cons,List.cons_append,qi6,ih,b_b,b_ok]
@[simp] theorem qn0 {ps:List P}:qax (ps.map .v) S=.ok (ps,S):=by
 have:=qlg (ps:=ps) (ws:=[]) (S:=S)
 simpa using this
@[simp] theorem quC {kp:Bool} {c:Cell}:write kp n c S=if c.lows n=true∨(kp=true∧c.lows S.length=true) then .ok (S.set n c) else .no:=id rfl
@[simp] theorem qtG {ws:List W}:Cell.lows n (.lst ws)=ws.all (qad n):=id rfl
@[simp] theorem qr9 {kvs:List (Key × W)}:Cell.lows n (.dct kvs)=kvs.all fun q=>qad n q.2:=id rfl
@[simp] theorem qtd {cl:Str} {fs:List (Str × W)}:Cell.lows n (.ins cl fs)=fs.all fun q=>qad n q.2:=id rfl
@[simp] theorem rb_v {p:P}:qad n (.v p)=true:=id rfl
@[simp] theorem rb_c {k:Nat}:qad n (.c k)=decide (k < n):=id rfl
@[simp] theorem qrg {ps:List P}:(ps.map W.v).all (qad n)=true:=by
 rw [List.all_map];exact List.all_eq_true.mpr fun _ _=>rfl
def qmY (kp:Bool) (o:Option Cell) (n:Nat) (w:W) (S:qaa):R qaa:=match o with
 | some (.lst acc)=>if acc.length < lim then write kp n (.lst (acc++[w])) S else .no
 | _=>.no
@[simp] theorem qrp {kp:Bool} {w:W}:bmOp kp .append (.c n) [w] S=(qmY kp S[n]? n w S).bind fun S=>.ok (.v .non,S):=id rfl
@[simp] theorem qpL {kp:Bool} {w:W} {acc:List W}:qmY kp (some (.lst acc)) n w S=if acc.length < lim then write kp n (.lst (acc++[w])) S else .no:=id rfl
def extK (kp:Bool) (o:Option Cell) (n:Nat) (v:Option P) (w:W) (S:qaa):R qaa:=match o,v with
 | some (.lst acc),some (.lst ps)=>if acc.length + ps.length≤lim then write kp n (.lst (acc++ps.map .v)) S else .no
 | some (.lst acc),none=>match w with
  | .c m=>match S[m]? with
   | some (.lst ws)=>if acc.length + ws.length≤lim then write kp n (.lst (acc++ws)) S else .no
   | _=>.no
  | .v _=>.no
 | _,_=>.no
@[simp] theorem qs2 {kp:Bool} {w:W}:bmOp kp .extend (.c n) [w] S=(extK kp S[n]? n (w.view S) w S).bind fun S=>.ok (.v .non,S):=by
 simp only [bmOp,qdp]
 cases h1:S[n]? with
 | none=>rfl
 | some c=>cases h2:w.view S with
  | none=>cases c with
   | lst acc=>cases w with
    | v p=>rfl
    | c m=>
     simp only [extK]
     cases h3:S[m]? with
     | none=>rfl
     | some d=>cases d with
      | lst ws=>
       simp only
       split <;> rfl
      | _=>rfl
   | _=>rfl
  | some p=>cases c with
   | lst acc=>cases p with
    | lst ps=>
     simp only [extK]
     split <;> rfl
    | _=>rfl
   | _=>rfl
@[simp] theorem qr4 {kp:Bool} {w:W} {ps:List P} {acc:List W}:extK kp (some (.lst acc)) n (some (.lst ps)) w S=if acc.length + ps.length≤lim then write kp n (.lst (acc++ps.map .v)) S else .no:=id rfl
@[simp] theorem vw_v {p:P}:W.view S (.v p)=some p:=id rfl
def vwK:Option Cell→Option P
 | some z=>z.view
 | none=>none
@[simp] theorem vw_c:W.view S (.c n)=vwK S[n]?:=by
 simp only [W.view,vwK] <;> cases S[n]? <;> rfl
@[simp] theorem qpc {ws:List W}:vwK (some (.lst ws))=(allP ws).map .lst:=id rfl
@[simp] theorem qqE {ws:List (Key × W)}:vwK (some (.dct ws))=(qbO ws).map .dct:=id rfl
@[simp] theorem qtE:allP []=some []:=id rfl
@[simp] theorem qlR {p:P} {ws:List W}:allP (.v p::ws)=(allP ws).map (p::·):=id rfl
@[simp] theorem qne {ps:List P} {ws:List W}:allP (ps.map .v++ws)=(allP ws).map (ps++·):=by
 induction ps with
 | nil=>cases h:allP ws <;> simp [h]
 | cons p ps ih=>simp only [List.map_cons,List.cons_append,qlR,ih,Option.map_map] <;> rfl
@[simp] theorem qmK {ps:List P}:allP (ps.map .v)=some ps:=by
 have:=qne (ps:=ps) (ws:=[])
 simpa using this
@[simp] theorem qry {o:CO} {x:P}:qaH o (.v x) (.c n) S=match vwK S[n]? with | some y=>qaH o (.v x) (.v y) S | none=>cmpX o (.v x) (.c n) S:=by
 simp only [qaH,vw_c,vw_v]
 all_goals (cases vwK S[n]? <;> rfl)
@[simp] theorem qtC {o:CO} {x:P}:qaH o (.c n) (.v x) S=match vwK S[n]? with | some y=>qaH o (.v y) (.v x) S | none=>cmpX o (.c n) (.v x) S:=by
 simp only [qaH,vw_c,vw_v]
 all_goals (cases vwK S[n]? <;> rfl)
@[simp] theorem qrj {o:CO} {k:Nat}:qaH o (.c n) (.c k) S=match vwK S[n]?,vwK S[k]? with | some x,some y=>qaH o (.v x) (.v y) S | _,_=>cmpX o (.c n) (.c k) S:=by
 simp only [qaH,vw_c,vw_v]
 all_goals (cases vwK S[n]? <;> cases vwK S[k]? <;> rfl)
@[simp] theorem qpT {x y:W}:cmpX .eq x y S=cmpD .eq x y S:=id rfl
@[simp] theorem qqK {x y:W}:cmpX .ne x y S=cmpD .ne x y S:=id rfl
@[simp] theorem qqO {x y:W}:cmpX .in_ x y S=blO (inC x y S) false S:=id rfl
@[simp] theorem qoe {x y:W}:cmpX .nin x y S=blO (inC x y S) true S:=id rfl
@[simp] theorem qpA {x y:W}:cmpX .isN x y S=blO (nonC x y S) false S:=id rfl
@[simp] theorem qnZ {x y:W}:cmpX .notN x y S=blO (nonC x y S) true S:=id rfl
@[simp] theorem qsq {x:P}:qaP o (.v x) (.c n) S=match vwK S[n]? with | some y=>qaP o (.v x) (.v y) S | none=>.no:=by
 simp only [qaP,vw_c,vw_v]
 cases vwK S[n]? with
 | none=>cases o <;> cases x <;> rfl
 | some y=>rfl
@[simp] theorem qsW {x:P}:qaP o (.c n) (.v x) S=match vwK S[n]? with | some y=>qaP o (.v y) (.v x) S | none=>.no:=by
 simp only [qaP,vw_c,vw_v]
 cases vwK S[n]? with
 | none=>cases o <;> cases x <;> rfl
 | some y=>rfl
@[simp] theorem qvD {f:BF}:bfK f ([.c n],S)=match vwK S[n]? with | some y=>bfK f ([.v y],S) | none=>qeN f [.c n] S:=by
 simp only [bfK,qcA,vw_c,vw_v]
 cases vwK S[n]? <;> rfl
def subC (o:Option Cell) (i:P) (S:qaa):R (W × qaa):=match o,i with
  | some (.lst xs),.int i=>match atI xs i with
   | some w=>.ok (w,S)
   | none=>.no
  | some (.tup xs),.int i=>match atI xs i with
   | some w=>.ok (w,S)
   | none=>.no
  | some (.dct kvs),k=>match qaU k with
   | some k=>match getK kvs k with
    | some w=>.ok (w,S)
    | none=>.no
   | none=>.no
  | some (.lkd kvs),k=>match qaU k with
   | some k=>match getK kvs k with
    | some w=>.ok (w,S)
    | none=>.no
   | none=>.no
  | _,_=>.no
@[simp] theorem qun {i:P}:qb0 (.c n) (.v i) S=subC S[n]? i S:=by
 simp only [qb0,subC] <;> rfl
@[simp] theorem qol {xs:List W} {i:Int}:subC (some (.lst xs)) (.int i) S=match atI xs i with | some w=>.ok (w,S) | none=>.no:=id rfl
@[simp] theorem qql {xs:List W} {i:Int}:subC (some (.tup xs)) (.int i) S=match atI xs i with | some w=>.ok (w,S) | none=>.no:=id rfl
@[simp] theorem qpr {kvs:List (Key × W)} {x:Str}:subC (some (.dct kvs)) (.str x) S=match getK kvs (.inr x) with | some w=>.ok (w,S) | none=>.no:=id rfl
@[simp] theorem qqW {kvs:List (Key × W)} {x:Int}:subC (some (.dct kvs)) (.int x) S=match getK kvs (.inl x) with | some w=>.ok (w,S) | none=>.no:=id rfl
def attC (fl:Str→Str→Bool) (o:Option Cell) (f:Str) (S:qaa):R (W × qaa):=match o with
  | some (.ins c fs)=>match fl c f,fs.lookup f with
   | true,some w=>.ok (w,S)
   | _,_=>.no
  | _=>.no
@[simp] theorem qvl {fl:Str→Str→Bool}:qel fl (.c n) f S=attC fl S[n]? f S:=by
 simp only [qel,attC] <;> rfl
@[simp] theorem qs4 {fl:Str→Str→Bool} {cl:Str} {fs:List (Str × W)} (h:fl cl f=true):attC fl (some (.ins cl fs)) f S=match fs.lookup f with | some w=>.ok (w,S) | none=>.no:=by
 simp only [attC,h];cases fs.lookup f <;> rfl
@[simp] theorem qph {α:Type} {k:Str} {v:α} {r:List (Str × α)}:List.lookup x ((k,v)::r)=if x=k then some v else r.lookup x:=by
 rw [List.lookup_cons]
 by_cases h:x=k
 ·simp [h]
 ·simp [h,show (x == k)=false by simpa using h]
@[simp] theorem qkn {cell:Bool}:qbB cell (.c n,S)=match vwK S[n]? with | some y=>qbB cell (.v y,S) | none=>.no:=by
 simp only [qbB,vw_c,vw_v]
 all_goals (cases vwK S[n]? <;> rfl)
def qhe:Option Cell→Bool
 | some (.lst _)=>true
 | _=>false
@[simp] theorem qoa {ws:List W}:qhe (some (.lst ws))=true:=id rfl
@[simp] theorem qs8:bmTy .append (.c n) S=qhe S[n]?:=by
 simp only [bmTy];cases h:S[n]? with
 | none=>rfl
 | some c=>cases c <;> rfl
@[simp] theorem qrB:bmTy .extend (.c n) S=qhe S[n]?:=by
 simp only [bmTy];cases h:S[n]? with
 | none=>rfl
 | some c=>cases c <;> rfl
@[simp] theorem qsL:bmTy .pop0 (.c n) S=qhe S[n]?:=by
 simp only [bmTy];cases h:S[n]? with
 | none=>rfl
 | some c=>cases c <;> rfl
@[simp] theorem qoW {x:Str}:bmTy .join (.v (.str x)) S=true:=id rfl
@[simp] theorem qoh {x:Str}:bmTy .split (.v (.str x)) S=true:=id rfl
def finK (o:Option Cell) (D:Nat) (S:qaa):R (W × qaa):=match vwK o with
 | some p=>.ok (.v p,S.take D)
 | none=>.no
@[simp] theorem quo {kp:Bool} {D:Nat}:finC kp false D S=finK S[D]? D S:=by
 simp only [finC,finK,vwK];cases S[D]? <;> rfl
@[simp] theorem qtY {ws:List W} {D:Nat}:finK (some (.lst ws)) D S=match allP ws with | some ps=>.ok (.v (.lst ps),S.take D) | none=>.no:=by
 simp only [finK,qpc];cases allP ws <;> rfl
@[simp] theorem qtL {ws:List (Key × W)} {D:Nat}:finK (some (.dct ws)) D S=match qbO ws with | some ps=>.ok (.v (.dct ps),S.take D) | none=>.no:=by
 simp only [finK,qqE];cases qbO ws <;> rfl
@[simp] theorem qsE {cl:Str} {ws:List (Str × W)} {D:Nat}:finK (some (.ins cl ws)) D S=match qb4 ws with | some ps=>.ok (.v (.obj cl ps),S.take D) | none=>.no:=by
 simp only [finK,vwK,Cell.view];cases qb4 ws <;> rfl
@[simp] theorem qsd:qb4 []=some []:=id rfl
@[simp] theorem qou {x:Str} {p:P} {ws:List (Str × W)}:qb4 ((x,.v p)::ws)=(qb4 ws).map ((x,p)::·):=id rfl
def endK (own:Bool) (o:Option Cell) (k:Nat) (S:qaa):R (W × qaa):=match o with
 | some c=>match c.view with
  | some p=>if own=true then .ok (.c k,S.take k++[c]) else .ok (.v p,S.take k)
  | none=>if own=true∧c.lows k=true∧c.isT=false then .ok (.c k,S.take k++[c]) else .no
 | none=>.no
@[simp] theorem quW {own:Bool} {k:Nat}:qbG own k (.c n) S=if n < k then .ok (.c n,S.take k) else endK own S[n]? k S:=by
 simp only [qbG,endK] <;> rfl
@[simp] theorem qto {ws:List W} {k:Nat}:endK false (some (.lst ws)) k S=match allP ws with | some ps=>.ok (.v (.lst ps),S.take k) | none=>.no:=by
 simp only [endK,Cell.view];cases allP ws <;> rfl
@[simp] theorem qrt {ws:List (Key × W)} {k:Nat}:endK false (some (.dct ws)) k S=match qbO ws with | some ps=>.ok (.v (.dct ps),S.take k) | none=>.no:=by
 simp only [endK,Cell.view];cases qbO ws <;> rfl
@[simp] theorem qpQ {ps:List P} {k:Nat}:endK true (some (.lst (ps.map .v))) k S=.ok (.c k,S.take k++[.lst (ps.map .v)]):=by
 simp only [endK,Cell.view,qmK] <;> rfl
def qeJ (kp:Bool) (o:Option Cell) (n:Nat) (i:P) (w:W) (S:qaa):R qaa:=match o,i with
  | some (.lst xs),.int i=>match ixN xs.length i with
   | some j=>write kp n (.lst (xs.set j w)) S
   | none=>.no
  | some (.dct kvs),p=>match qaU p with
   | some k=>if kvs.length < lim then write kp n (.dct (setK kvs k w)) S else .no
   | none=>.no
  | _,_=>.no
@[simp] theorem qn6 {kp:Bool} {i:P} {w:W}:qb6 kp (.c n) (.v i) w S=qeJ kp S[n]? n i w S:=by
 simp only [qb6,qeJ] <;> rfl
@[simp] theorem qmg {kp:Bool} {kvs:List (Key × W)} {x:Str} {w:W}:qeJ kp (some (.dct kvs)) n (.str x) w S=if kvs.length < lim then write kp n (.dct (setK kvs (.inr x) w)) S else .no:=id rfl
@[simp] theorem qmf {kp:Bool} {kvs:List (Key × W)} {i:Int} {w:W}:qeJ kp (some (.dct kvs)) n (.int i) w S=if kvs.length < lim then write kp n (.dct (setK kvs (.inl i) w)) S else .no:=id rfl
def qgk (kp:Bool) (fl:Str→Str→Bool) (o:Option Cell) (n:Nat) (f:Str) (w:W) (S:qaa):R qaa:=match o with
  | some (.ins c fs)=>if fs.length < 100∧fl c f=true then write kp n (.ins c (setF f w fs)) S else .no
  | _=>.no
@[simp] theorem qoi {kp:Bool} {fl:Str→Str→Bool} {w:W}:qg3 kp fl (.c n) f w S=qgk kp fl S[n]? n f w S:=by
 simp only [qg3,qgk] <;> rfl
@[simp] theorem qnw {kp:Bool} {fl:Str→Str→Bool} {cl:Str} {fs:List (Str × W)} {w:W}:qgk kp fl (some (.ins cl fs)) n f w S=if fs.length < 100∧fl cl f=true then write kp n (.ins cl (setF f w fs)) S else .no:=id rfl
@[simp] theorem qn9 {w:W}:setF f w []=[(f,w)]:=id rfl
@[simp] theorem qnn {w:W} {q:Str × W} {r:List (Str × W)}:setF f w (q::r)=if q.1=f then (q.1,w)::r else q::setF f w r:=id rfl
@[simp] theorem qsb:exS C .nil env S=.nx env S:=by simp only [exS]
@[simp] theorem qqS {u v:LS.S}:exS C (.cons u v) env S=seqS (exS C u env S) fun e s=>exS C v e s:=by
 simp only [exS,seqS] <;> rfl
@[simp] theorem qqL:exS C (.expr a) env S=lift env (evE C a env S) fun q=>.nx env q.2:=by simp only [exS]
@[simp] theorem qsQ:exS C (.ret a) env S=lift env (evE C a env S) fun q=>.ret q.1 q.2:=by simp only [exS]
@[simp] theorem qpH:exS C .pass env S=.nx env S:=by simp only [exS]
@[simp] theorem qrv:exS C .brk env S=.bk env S:=by simp only [exS]
@[simp] theorem qt0:exS C .cnt env S=.ct env S:=by simp only [exS]
@[simp] theorem qs6:exS C (.set n a) env S=lift env (evE C a env S) fun q=>.nx (env.set n (some q.1)) q.2:=by simp only [exS]
def qqm (env:Env) (is:List Nat) (q:W × qaa):RS:=match qbp (.tup is) q.1 q.2 env with
  | some env=>.nx env q.2
  | none=>.no
@[simp] theorem qpg {is:List Nat}:exS C (.setT is a) env S=lift env (evE C a env S) fun q=>qqm env is q:=by simp only [exS] <;> rfl
def parK (env:Env) (is:List Nat) (q:List W × qaa):RS:=match qaT env is q.1 with
  | some env=>.nx env q.2
  | none=>.no
@[simp] theorem qrz {is:List Nat}:exS C (.par is l) env S=lift env (evL C l env S) fun q=>parK env is q:=by simp only [exS] <;> rfl
@[simp] theorem qsF:exS C (.sub a i e) env S=lift env (evE C e env S) fun q=>lift env (evE C a env q.2) fun q1=>lift env (evE C i env q1.2) fun q2=>lift env (qb6 C.keep q1.1 q2.1 q.1 q2.2) fun S=>.nx env S:=by simp only [exS]
@[simp] theorem qrw:exS C (.fld a f e) env S=lift env (evE C e env S) fun q=>lift env (evE C a env q.2) fun q1=>lift env (qg3 C.keep C.g.fld q1.1 f q.1 q1.2) fun S=>.nx env S:=by simp only [exS]
@[simp] theorem qus {tg:Tg} {p:P}:qbp tg (.v p) S env=qeh tg (.v p) env:=by cases tg <;> rfl
@[simp] theorem qqk {i:Nat} {w:W}:qbp (.name i) w S env=some (env.set i (some w)):=by cases w <;> rfl
@[simp] theorem qs7 {u v:LS.S}:exS C (.ite t u v) env S=lift env (qaC (evE C t env S)) fun q=>if q.1=true then exS C u env q.2 else exS C v env q.2:=by
 simp only [exS,evT]
def forK (C:Cn) (tg:Tg) (b:LS.S) (env:Env) (q:Iter × qaa):RS:=match q.1 with
  | .st xs=>forL (exS C b) tg xs env q.2
  | .cl n=>forC (exS C b) tg n C.g.fu 0 env q.2
  | .lk n xs=>lift env (lckC n q.2) fun S=>unlS n (qeK (exS C b) tg xs env S)
@[simp] theorem qs0 {tg:Tg} {u:LS.S}:exS C (.for_ tg it u) env S=lift env (evI C it env S) fun q=>forK C tg u env q:=by simp only [exS] <;> rfl
@[simp] theorem qpd {tg:Tg} {u:LS.S} {xs:List W}:forK C tg u env (.st xs,S)=forL (exS C u) tg xs env S:=id rfl
@[simp] theorem qoy {tg:Tg} {u:LS.S} {n:Nat}:forK C tg u env (.cl n,S)=forC (exS C u) tg n C.g.fu 0 env S:=id rfl
@[simp] theorem qsR {u:LS.S}:exS C (.whl t u) env S=qhc (evT C t) (exS C u) C.g.fu env S:=by simp only [exS]
@[simp] theorem qsS {i:Nat} {w:W}:parK env [i] ([w],S)=.nx (env.set i (some w)) S:=id rfl
@[simp] theorem qs3 {i j:Nat} {w v:W}:parK env [i,j] ([w,v],S)=.nx ((env.set i (some w)).set j (some v)) S:=id rfl
@[simp] theorem qtH {i j k:Nat} {w v u:W}:parK env [i,j,k] ([w,v,u],S)=.nx (((env.set i (some w)).set j (some v)).set k (some u)) S:=id rfl
end
section
variable {T:Str→Option Fn} {g:Gm} {d:Nat} {f:Str} {args:List W} {S:qaa}
theorem qcI {n np:Nat} {dfl:List P} {body:LS.S} {own:Bool} {as:List W} {Q:W × qaa→Prop} {E:XQ} (hT:T f=some (.fn n np dfl body own)) (ha:qea np dfl args=some as)
  (h:WS (exS ⟨callF T g d,g,false⟩ body (qaM n as) S) ⟨fun _ S1=>WX (qbG own S.length (.v .non) S1) Q E,fun w S1=>WX (qbG own S.length w S1) Q E,fun _ _=>False,fun _ _=>False,fun c fs _ S1=>E c fs (S1.take S.length)⟩):WX (callF T g (d + 1) f args S) Q E:=by
 unfold callF
 rw [hT]
 simp only [ha]
 cases hx:exS ⟨callF T g d,g,false⟩ body (qaM n as) S <;> rw [hx] at h
 ·exact h
 ·exact h
 ·exact h.elim
 ·exact h.elim
 ·exact h
 ·exact h.elim
@[simp] theorem qtA {own:Bool} {k:Nat} {p:P} {S:qaa}:qbG own k (.v p) S=.ok (.v p,S.take k):=id rfl
end
end LS
namespace LS
open PySem L2
theorem qfn:lim=1000000:=rfl
section
variable {S:List Cell} {l:List Cell} {c:Cell} {k:Nat} {s:Sm}
@[simp high] theorem ap_at:(S++l)[S.length]?=l[0]?:=by
 rw [List.getElem?_append_right (Nat.le_refl _)];congr 1;omega
@[simp high] theorem ap_at1:(S++l)[S.length + 1]?=l[1]?:=by
 rw [List.getElem?_append_right (by omega)];congr 1;omega
@[simp high] theorem ap_at2:(S++l)[S.length + 2]?=l[2]?:=by
 rw [List.getElem?_append_right (by omega)];congr 1;omega
@[simp high] theorem ap_at3:(S++l)[S.length + 3]?=l[3]?:=by
 rw [List.getElem?_append_right (by omega)];congr 1;omega
@[simp] theorem qmH:(S++l).set S.length c=S++l.set 0 c:=by
 rw [List.set_append,if_neg (by omega)];congr 2;omega
@[simp] theorem qqq:(S++l).set (S.length + 1) c=S++l.set 1 c:=by
 rw [List.set_append,if_neg (by omega)];congr 2;omega
@[simp] theorem qqX:(S++l).set (S.length + 2) c=S++l.set 2 c:=by
 rw [List.set_append,if_neg (by omega)];congr 2;omega
@[simp] theorem qif:(S++l).take S.length=S:=List.take_left' rfl
@[simp] theorem qk4:S.take S.length=S:=List.take_of_length_le (Nat.le_refl _)
@[simp] theorem qjT {a:Cell}:(S++a::l).take (S.length + 1)=S++[a]:=by
 rw [show S++a::l=(S++[a])++l by simp]
 exact List.take_left' (by simp)
@[simp] theorem qj8 {r:qaa}:(s.cells r).length=r.length + 2:=by simp [Sm.cells]
@[simp] theorem qlX {r:qaa}:s.cells r++l=s.cells (r++l):=id rfl
theorem qkP {r:qaa}:(s.cells r)[k + 2]?=r[k]?:=rfl
theorem qhX {r:qaa}:(s.cells r).set (k + 2) c=s.cells (r.set k c):=rfl
@[simp high] theorem sm_at0 {r:qaa}:(s.cells (r++l))[r.length + 2]?=l[0]?:=by rw [qkP];simp
@[simp high] theorem sm_at1 {r:qaa}:(s.cells (r++l))[r.length + 3]?=l[1]?:=by rw [show r.length + 3=r.length + 1 + 2 from rfl,qkP];simp
@[simp high] theorem sm_at2 {r:qaa}:(s.cells (r++l))[r.length + 4]?=l[2]?:=by rw [show r.length + 4=r.length + 2 + 2 from rfl,qkP];simp
@[simp] theorem qpu {r:qaa}:(s.cells (r++l)).set (r.length + 2) c=s.cells (r++l.set 0 c):=by rw [qhX];simp
@[simp] theorem qpk {r:qaa}:(s.cells (r++l)).set (r.length + 3) c=s.cells (r++l.set 1 c):=by rw [show r.length + 3=r.length + 1 + 2 from rfl,qhX];simp
@[simp] theorem qqg {r:qaa}:(s.cells (r++l)).set (r.length + 4) c=s.cells (r++l.set 2 c):=by rw [show r.length + 4=r.length + 2 + 2 from rfl,qhX];simp
@[simp] theorem qqa {r:qaa}:(s.cells (r++l)).take (r.length + 2)=s.cells r:=by
 rw [← qlX,← qj8 (s:=s) (r:=r)];exact qif
@[simp] theorem qob {r:qaa}:(s.cells r).take (r.length + 2)=s.cells r:=by
 rw [← qj8 (s:=s) (r:=r)];exact qk4
@[simp] theorem qnV {r:qaa} {a:Cell}:(s.cells (r++a::l)).take (r.length + 3)=s.cells (r++[a]):=by
 rw [← qlX,← qlX,show r.length + 3=(s.cells r).length + 1 by simp];exact qjT
theorem qqH {ps:List P} {k:Nat}:(ps.map W.v).all (qad k)=true:=qfl ps k
@[simp] theorem qlt {ps:List P}:qaL (.lst (ps.map .v)) S=.ok (.c S.length,S++[.lst (ps.map .v)]):=by
 unfold qaL
 rw [if_pos (by show (ps.map W.v).all _=true;exact qqH)]
@[simp] theorem qqB:qaL (.lst []) S=.ok (.c S.length,S++[.lst []]):=qlt (ps:=[])
end
section
variable {S:List Cell} {l:List Cell}
@[simp] theorem qmu {kp:Bool} {kvs:List (Key × P)} (h:kvs.length≤15) (hn:(kvs.map (·.1)).Nodup):dicK kp false S.length (kvs.map fun z=>(z.1,.v z.2),S++[.dct []])=.ok (.v (.dct kvs),S):=by
 have fold:∀ (zs:List (Key × P)) (acc:List (Key × P)),((acc++zs).map (·.1)).Nodup→(zs.map fun z=>(z.1,W.v z.2)).foldl (fun acc z=>setK acc z.1 z.2) (acc.map fun z=>(z.1,W.v z.2))=(acc++zs).map fun z=>(z.1,W.v z.2):=by
  intro zs
  induction zs with
  | nil=>intro acc _;simp
  | cons z zs ih=>
   intro acc hn
   have h1:setK (acc.map fun z=>(z.1,W.v z.2)) z.1 (.v z.2)=(acc++[z]).map fun z=>(z.1,W.v z.2):=by
    unfold setK
    rw [if_neg]
    ·simp
    ·intro e
     obtain ⟨q,hq,e⟩:=List.any_eq_true.mp e
     obtain ⟨y,hy,rfl⟩:=List.mem_map.mp hq
     have e:y.1=z.1:=of_decide_eq_true e
     simp only [List.map_append,List.map_cons,List.nodup_append] at hn
     exact hn.2.2 y.1 (List.mem_map_of_mem hy) z.1 (by simp) e
   simp only [List.map_cons,List.foldl_cons]
   rw [h1,ih (acc++[z]) (by simpa using hn)]
   simp
 have hf:=fold kvs [] (by simpa using hn)
 simp only [List.map_nil,List.nil_append] at hf
 have hall:qbO (kvs.map fun z=>(z.1,W.v z.2))=some kvs:=by
  clear hf fold h hn
  induction kvs with
  | nil=>rfl
  | cons z zs ih=>simp [qbO,ih]
 have hlow:Cell.lows S.length (.dct (kvs.map fun z=>(z.1,W.v z.2)))=true:=by
  show (kvs.map fun z=>(z.1,W.v z.2)).all _=true
  rw [List.all_map]
  exact List.all_eq_true.mpr fun _ _=>rfl
 unfold dicK
 simp only [ap_at,List.getElem?_cons_zero,List.length_map]
 rw [if_neg (by omega),hf]
 unfold write
 rw [if_pos (Or.inl hlow)]
 simp only [b_ok,qmH,List.set_cons_zero,finC,ap_at,List.getElem?_cons_zero,Cell.view,hall,Option.map_some,qif]
@[simp] theorem qoc {kp:Bool}:dicK kp true S.length ([],S++[.dct []])=.ok (.c S.length,S++[.dct []]):=by
 simp [dicK,finC]
end
section
variable {Z:Po} {body:Env→qaa→RS} {tg:Tg}
theorem qih (I:List W→Env→qaa→Prop) (step:∀ x xs env S,I (x::xs) env S→∃ e0,qbp tg x S env=some e0∧WS (body e0 S) ⟨I xs,Z.rt,Z.nx,I xs,Z.ex⟩) (fin:∀ env S,I [] env S→Z.nx env S) :
  ∀ {xs:List W} {env:Env} {S:qaa},I xs env S→WS (forL body tg xs env S) Z
 | [],env,S,h=>fin env S h
 | x::xs,env,S,h=>by
  obtain ⟨e0,h1,h2⟩:=step x xs env S h
  unfold forL
  rw [h1]
  simp only
  cases hb:body e0 S with
  | nx e s=>rw [hb] at h2;exact qih I step fin h2
  | ct e s=>rw [hb] at h2;exact qih I step fin h2
  | bk e s=>rw [hb] at h2;exact h2
  | ret w s=>rw [hb] at h2;exact h2
  | ex c fs e s=>rw [hb] at h2;exact h2
  | no=>rw [hb] at h2;exact h2.elim
end
section
variable {Z:Po} {body:Env→qaa→RS} {tg:Tg} {α:Type}
end
section
variable {σ:Type} {C:Cn} {env:Env} {own:List (Str × Nat)} {tg:Tg} {it ifs elt:E} {rest S0:qaa} {Q:W × qaa→Prop} {E0:XQ}
theorem qow (F:Fam σ) (Inv:List W→List P→σ→Prop) {xs:List W} {s:σ} (hi:evI C it env S0=.ok (.st xs,F.st s rest)) (hz:xs.length≤lim) (h0:Inv xs [] s)
  (step:∀ x xs acc s,Inv (x::xs) acc s→∃ e0,qeh tg x (qbV env (own.map (·.2)))=some e0∧
   WX (evIf (C.in_ false) ifs e0 (F.st s (rest++[.lst (acc.map W.v)]))) (fun b=>∃ s1,b.2=F.st s1 (rest++[.lst (acc.map W.v)])∧(b.1=false→Inv xs acc s1)∧
    (b.1=true→WX (evE (C.in_ false) elt e0 (F.st s1 (rest++[.lst (acc.map W.v)]))) (fun z=>∃ p s2,z=(.v p,F.st s2 (rest++[.lst (acc.map W.v)]))∧Inv xs (acc++[p]) s2) fun _ _ _=>False)) fun _ _ _=>False)
  (fin:∀ ps s,Inv [] ps s→Q (.v (.lst ps),F.st s rest)):WX (evE C (.lc false own tg it ifs elt) env S0) Q E0:=by
 obtain ⟨ps,s',h1,h2⟩:=qnF F Inv (C:=C) (env:=env) (own:=own) (tg:=tg) (it:=it) (ifs:=ifs) (elt:=elt) (rest:=rest) hi hz h0 (by
  intro x xs acc s hI
  obtain ⟨e0,h1,h2⟩:=step x xs acc s hI
  obtain ⟨⟨b,S1⟩,h3,s1,h4,h5,h6⟩:=qiE h2
  cases h4
  refine ⟨e0,s1,h1,?_⟩
  cases b with
  | false=>exact .inl ⟨h3,h5 rfl⟩
  | true=>
   obtain ⟨z,h7,p,s2,rfl,h8⟩:=qiE (h6 rfl)
   exact .inr ⟨s2,p,h3,h7,h8⟩)
 rw [h1]
 exact fin ps s' h2
theorem lc_p {α:Type} {ps:List P} {S:qaa} (ys:List α) (q:α→P) (b:α→Bool) (f:α→P) (hi:evI C it env S0=.ok (.st (ps.map .v),S)) (hp:ps=ys.map q) (hz:ys.length≤lim)
  (step:∀ y∈ys,∀ R,∃ e0,qeh tg (.v (q y)) (qbV env (own.map (·.2)))=some e0∧evIf (C.in_ false) ifs e0 (S++[R])=.ok (b y,S++[R])∧(b y=true→evE (C.in_ false) elt e0 (S++[R])=.ok (.v (f y),S++[R]))) :
  evE C (.lc false own tg it ifs elt) env S0=.ok (.v (.lst ((ys.filter b).map f)),S):=
 qlm famU (rest:=S) (s:=()) (w:=fun y=>.v (q y)) (by rw [hi,hp,List.map_map];rfl) hz step
end
section
variable {C:Cn} {env:Env} {own:List (Str × Nat)} {tg:Tg} {it ifs elt:E} {S0:qaa}
end
def qhx (r:RS) (k:Env→qaa→RS):RS:=match r with
 | .nx e s=>k e s
 | .ct e s=>k e s
 | .bk e s=>.nx e s
 | q=>q
section
variable {body:Env→qaa→RS} {tg:Tg} {env:Env} {S:qaa} {x:W} {xs:List W} {k:Env→qaa→RS} {Z:Po}
@[simp] theorem quM {e:Env} {s:qaa}:qhx (.nx e s) k=k e s:=id rfl
@[simp] theorem qvO {e:Env} {s:qaa}:qhx (.ct e s) k=k e s:=id rfl
@[simp] theorem qum {e:Env} {s:qaa}:qhx (.bk e s) k=.nx e s:=id rfl
@[simp] theorem qv3 {e:W} {s:qaa}:qhx (.ret e s) k=.ret e s:=id rfl
@[simp] theorem qr7:forL body tg [] env S=.nx env S:=id rfl
@[simp] theorem qo2 {i:Nat}:forL body (.name i) (x::xs) env S=qhx (body (env.set i (some x)) S) fun e s=>forL body (.name i) xs e s:=by
 simp only [forL,qqk,qhx]
 all_goals (cases body (env.set i (some x)) S <;> rfl)
end
section
variable {C:Cn} {env:Env} {own:List (Str × Nat)} {tg:Tg} {it ifs elt:E} {S0:qaa}
end
section
variable {C:Cn} {env:Env} {own:List (Str × Nat)} {tg:Tg} {it ifs k v:E} {S0:qaa}
end
theorem qiL {T:Str→Option Fn} {g:Gm} (hT:T "_law_draw"=some (.fn 4 2 [] qag false)) {d:Nat} {s:Sm} {rest:qaa} {m B:Int} {Q:W × qaa→Prop} {E:XQ} (hs:s.ok B) (hB:B < 1000000) (hm:0 < m) (hm2:m < 1073741824)
  (k:∀ (s':Sm) (r:Int),s'.ok (B + 1)→0≤r→r < m→Q (.v (.int r),s'.cells rest)):WX (callF T g (d + 1) "_law_draw" [.c 1,.v (.int m)] (s.cells rest)) Q E:=by
 obtain ⟨s',r,h1,h2,h3,h4⟩:=qly hT d (g:=g) (rest:=rest) hs hB hm hm2
 rw [h1]
 exact k s' r h2 h3 h4
end LS
namespace LS
open PySem L2
@[simp] theorem qrJ {a b:String}:(Str.ofString a=Str.ofString b)↔a=b:=by
 refine ⟨fun h=>?_,fun h=>by rw [h]⟩
 rw [Str.ofString_eq_toList,Str.ofString_eq_toList] at h
 have h1:a.toList.map Char.toNat=b.toList.map Char.toNat:=by
  have:=congrArg (fun s:Str=>s.cps.toList) h
  simpa using this
 have h2:a.toList=b.toList:=by
  have inj:∀ (l l':List Char),l.map Char.toNat=l'.map Char.toNat→l=l':=by
   intro l
   induction l with
   | nil=>intro l' h;cases l' with
    | nil=>rfl
    | cons _ _=>cases h
   | cons x l ih=>intro l' h;cases l' with
    | nil=>cases h
    | cons y l'=>
     simp only [List.map_cons,List.cons.injEq] at h
     rw [ih l' h.2,Char.ext (UInt32.toNat_inj.mp h.1)]
  exact inj _ _ h1
 exact String.toList_inj.mp h2
@[simp] theorem qtg {a:String}:(Str.ofString a).length=a.length:=by
 rw [Str.ofString_eq_toList]
 show (a.toList.map Char.toNat).toArray.size=_
 simp
 rfl
@[simp] theorem qqZ {a b:Str}:(a++b).length=a.length + b.length:=Str.length_append a b
@[simp] theorem qpF {a:Str}:Str.empty++a=a:=Str.empty_append a
@[simp] theorem qos:Str.empty.length=0:=id rfl
@[simp] theorem qtQ:Str.ofString ""=Str.empty:=qd7
@[simp] theorem qra {a b:String}:Str.ofString a++Str.ofString b=Str.ofString (a++b):=by
 rw [Str.ofString_eq_toList,Str.ofString_eq_toList,Str.ofString_eq_toList]
 show (⟨_++_⟩:Str)=_
 simp
@[simp] theorem ln_0:("":String).length=0:=id rfl
@[simp] theorem ln_1:(" ":String).length=1:=id rfl
@[simp] theorem ln_2:(" 7":String).length=2:=id rfl
@[simp] theorem ln_3:(" a=1":String).length=4:=id rfl
@[simp] theorem ln_4:(" from ":String).length=6:=id rfl
@[simp] theorem ln_5:(" to ":String).length=4:=id rfl
@[simp] theorem ln_6:(" x":String).length=2:=id rfl
@[simp] theorem ln_7:("+1":String).length=2:=id rfl
@[simp] theorem ln_8:(",":String).length=1:=id rfl
@[simp] theorem ln_9:("-":String).length=1:=id rfl
@[simp] theorem qwg:("-1":String).length=2:=id rfl
@[simp] theorem qvB:("0":String).length=1:=id rfl
@[simp] theorem quX:("00":String).length=2:=id rfl
@[simp] theorem qvX:("01":String).length=2:=id rfl
@[simp] theorem quZ:("0123456789":String).length=10:=id rfl
@[simp] theorem qvu:("07":String).length=2:=id rfl
@[simp] theorem qvF:("1":String).length=1:=id rfl
@[simp] theorem qvZ:("1.0":String).length=3:=id rfl
@[simp] theorem qu6:("5":String).length=1:=id rfl
@[simp] theorem quY:("=":String).length=1:=id rfl
@[simp] theorem qwk:("=1":String).length=2:=id rfl
@[simp] theorem qvv:("A":String).length=1:=id rfl
@[simp] theorem qux:("BadDeed":String).length=7:=id rfl
@[simp] theorem qvQ:("BadLine":String).length=7:=id rfl
@[simp] theorem qve:("BadList":String).length=7:=id rfl
@[simp] theorem quv:("BadName":String).length=7:=id rfl
@[simp] theorem qvd:("BadNumber":String).length=9:=id rfl
@[simp] theorem qvC:("BadPiece":String).length=8:=id rfl
@[simp] theorem qui:("BadQuestion":String).length=11:=id rfl
@[simp] theorem qur:("BadRule":String).length=7:=id rfl
@[simp] theorem qvs:("BadWeaving":String).length=10:=id rfl
@[simp] theorem qvt:("Busy":String).length=4:=id rfl
@[simp] theorem quV:("C":String).length=1:=id rfl
@[simp] theorem qv8:("CSXY":String).length=4:=id rfl
@[simp] theorem qu3:("CX":String).length=2:=id rfl
@[simp] theorem quB:("CXY":String).length=3:=id rfl
@[simp] theorem qvw:("CY":String).length=2:=id rfl
@[simp] theorem qvV:("Do":String).length=2:=id rfl
@[simp] theorem quU:("Fall":String).length=4:=id rfl
@[simp] theorem quG:("Idle":String).length=4:=id rfl
@[simp] theorem qup:("NameInUse":String).length=9:=id rfl
@[simp] theorem qwp:("NoFit":String).length=5:=id rfl
@[simp] theorem qwc:("NoRow":String).length=5:=id rfl
@[simp] theorem qu2:("NotOpen":String).length=7:=id rfl
@[simp] theorem qug:("OwnOwner":String).length=8:=id rfl
@[simp] theorem quR:("Refused":String).length=7:=id rfl
@[simp] theorem qwh:("S":String).length=1:=id rfl
@[simp] theorem qvS:("SX":String).length=2:=id rfl
@[simp] theorem qv4:("SXY":String).length=3:=id rfl
@[simp] theorem qwl:("SY":String).length=2:=id rfl
@[simp] theorem qvb:("Taken":String).length=5:=id rfl
@[simp] theorem qvJ:("UnknownCheck":String).length=12:=id rfl
@[simp] theorem qwj:("UnknownKind":String).length=11:=id rfl
@[simp] theorem quT:("UnlikeBooks":String).length=11:=id rfl
@[simp] theorem qws:("Used":String).length=4:=id rfl
@[simp] theorem qv7:("X":String).length=1:=id rfl
@[simp] theorem quy:("XS":String).length=2:=id rfl
@[simp] theorem quH:("XX":String).length=2:=id rfl
@[simp] theorem qvf:("XYY":String).length=3:=id rfl
@[simp] theorem qwi:("Y":String).length=1:=id rfl
@[simp] theorem qvc:("YX":String).length=2:=id rfl
@[simp] theorem qwd:("YY":String).length=2:=id rfl
@[simp] theorem qvx:("Z":String).length=1:=id rfl
@[simp] theorem qu8:("Zz":String).length=2:=id rfl
@[simp] theorem quw:("a":String).length=1:=id rfl
@[simp] theorem qv0:("a b":String).length=3:=id rfl
@[simp] theorem quq:("a1":String).length=2:=id rfl
@[simp] theorem qv9:("a=":String).length=2:=id rfl
@[simp] theorem quu:("a=1":String).length=3:=id rfl
@[simp] theorem qv1:("a=1=2":String).length=5:=id rfl
@[simp] theorem qvK:("abcdefghi":String).length=9:=id rfl
@[simp] theorem qvI:("abz Z0":String).length=6:=id rfl
@[simp] theorem qvY:("again":String).length=5:=id rfl
@[simp] theorem qwr:("again ":String).length=6:=id rfl
@[simp] theorem qvA:("b":String).length=1:=id rfl
@[simp] theorem quL:("bad":String).length=3:=id rfl
@[simp] theorem qvz:("bad deed":String).length=8:=id rfl
@[simp] theorem quF:("bar":String).length=3:=id rfl
@[simp] theorem qvq:("bar ":String).length=4:=id rfl
@[simp] theorem qvP:("bare":String).length=4:=id rfl
@[simp] theorem qvH:("bare ":String).length=5:=id rfl
@[simp] theorem qwo:("bare again":String).length=10:=id rfl
@[simp] theorem quh:("bare zz zz":String).length=10:=id rfl
@[simp] theorem quS:("book":String).length=4:=id rfl
@[simp] theorem qu4:("c":String).length=1:=id rfl
@[simp] theorem qu0:("calm":String).length=4:=id rfl
@[simp] theorem qvM:("calm ":String).length=5:=id rfl
@[simp] theorem qvT:("calm again":String).length=10:=id rfl
@[simp] theorem qut:("check":String).length=5:=id rfl
@[simp] theorem quN:("check ":String).length=6:=id rfl
@[simp] theorem qu7:("check fresh":String).length=11:=id rfl
@[simp] theorem qv5:("check lone":String).length=10:=id rfl
@[simp] theorem qwn:("check lone ":String).length=11:=id rfl
@[simp] theorem quA:("checks":String).length=6:=id rfl
@[simp] theorem quK:("clear":String).length=5:=id rfl
@[simp] theorem quD:("clear ":String).length=6:=id rfl
@[simp] theorem qwm:("column":String).length=6:=id rfl
@[simp] theorem qwa:("column ":String).length=7:=id rfl
@[simp] theorem qvL:("columns":String).length=7:=id rfl
@[simp] theorem qvG:("do":String).length=2:=id rfl
@[simp] theorem qtP:("do 0":String).length=4:=id rfl
@[simp] theorem qre:("fall":String).length=4:=id rfl
@[simp] theorem qrQ:("fell":String).length=4:=id rfl
@[simp] theorem qtF:("fell ":String).length=5:=id rfl
@[simp] theorem qtS:("fell  a":String).length=7:=id rfl
@[simp] theorem qrL:("fell a":String).length=6:=id rfl
@[simp] theorem qt7:("fell zz":String).length=7:=id rfl
@[simp] theorem qrV:("felled a":String).length=8:=id rfl
@[simp] theorem qrb:("felled x":String).length=8:=id rfl
@[simp] theorem qtU:("fresh":String).length=5:=id rfl
@[simp] theorem qt5:("from":String).length=4:=id rfl
@[simp] theorem qse:("gone":String).length=4:=id rfl
@[simp] theorem qrZ:("half":String).length=4:=id rfl
@[simp] theorem qsX:("half ":String).length=5:=id rfl
@[simp] theorem qt4:("half  x":String).length=7:=id rfl
@[simp] theorem qtk:("hand":String).length=4:=id rfl
@[simp] theorem qsK:("hold":String).length=4:=id rfl
@[simp] theorem qsj:("hold ":String).length=5:=id rfl
@[simp] theorem qrh:("hold again":String).length=10:=id rfl
@[simp] theorem qti:("idle":String).length=4:=id rfl
@[simp] theorem qtn:("index":String).length=5:=id rfl
@[simp] theorem qrT:("keep":String).length=4:=id rfl
@[simp] theorem qsm:("keep ":String).length=5:=id rfl
@[simp] theorem qrI:("kind":String).length=4:=id rfl
@[simp] theorem qso:("kind ":String).length=5:=id rfl
@[simp] theorem qr0:("kind qz":String).length=7:=id rfl
@[simp] theorem qrn:("kind strike":String).length=11:=id rfl
@[simp] theorem qrl:("kinds":String).length=5:=id rfl
@[simp] theorem qtv:("kinds qz":String).length=8:=id rfl
@[simp] theorem qt6:("lists":String).length=5:=id rfl
@[simp] theorem quf:("lone":String).length=4:=id rfl
@[simp] theorem qrd:("lone ":String).length=5:=id rfl
@[simp] theorem qs5:("look":String).length=4:=id rfl
@[simp] theorem qsV:("loose":String).length=5:=id rfl
@[simp] theorem qrq:("loose ":String).length=6:=id rfl
@[simp] theorem qrP:("loose Zz":String).length=8:=id rfl
@[simp] theorem qrc:("loose zz zz":String).length=11:=id rfl
@[simp] theorem qsl:("lost":String).length=4:=id rfl
@[simp] theorem qtl:("lost ":String).length=5:=id rfl
@[simp] theorem qrF:("made":String).length=4:=id rfl
@[simp] theorem qrD:("mark":String).length=4:=id rfl
@[simp] theorem qrS:("marked":String).length=6:=id rfl
@[simp] theorem qtw:("more":String).length=4:=id rfl
@[simp] theorem qss:("name":String).length=4:=id rfl
@[simp] theorem qq6:("never":String).length=5:=id rfl
@[simp] theorem qrN:("new":String).length=3:=id rfl
@[simp] theorem qtO:("newxx":String).length=5:=id rfl
@[simp] theorem qtx:("ninewords":String).length=9:=id rfl
@[simp] theorem qtR:("nothing":String).length=7:=id rfl
@[simp] theorem qrm:("number":String).length=6:=id rfl
@[simp] theorem qtM:("numbers":String).length=7:=id rfl
@[simp] theorem qrx:("once":String).length=4:=id rfl
@[simp] theorem quc:("open":String).length=4:=id rfl
@[simp] theorem qsG:("open  kind q":String).length=12:=id rfl
@[simp] theorem qtX:("open kind":String).length=9:=id rfl
@[simp] theorem qsB:("open kind ":String).length=10:=id rfl
@[simp] theorem que:("other":String).length=5:=id rfl
@[simp] theorem qsv:("piece":String).length=5:=id rfl
@[simp] theorem qq5:("plain":String).length=5:=id rfl
@[simp] theorem qrG:("put":String).length=3:=id rfl
@[simp] theorem qrK:("put ":String).length=4:=id rfl
@[simp] theorem qty:("put turn":String).length=8:=id rfl
@[simp] theorem qsn:("put zz":String).length=6:=id rfl
@[simp] theorem qsH:("q":String).length=1:=id rfl
@[simp] theorem qsC:("qa":String).length=2:=id rfl
@[simp] theorem qsP:("qb":String).length=2:=id rfl
@[simp] theorem qud:("qc":String).length=2:=id rfl
@[simp] theorem qsZ:("qd":String).length=2:=id rfl
@[simp] theorem qtp:("qe":String).length=2:=id rfl
@[simp] theorem qtK:("qf":String).length=2:=id rfl
@[simp] theorem qtZ:("question":String).length=8:=id rfl
@[simp] theorem qtN:("read":String).length=4:=id rfl
@[simp] theorem qtf:("rows":String).length=4:=id rfl
@[simp] theorem qs1:("rule":String).length=4:=id rfl
@[simp] theorem qr3:("s":String).length=1:=id rfl
@[simp] theorem qtt:("size":String).length=4:=id rfl
@[simp] theorem qrC:("spoilt":String).length=6:=id rfl
@[simp] theorem qro:("spoilt ":String).length=7:=id rfl
@[simp] theorem qsJ:("spread":String).length=6:=id rfl
@[simp] theorem qru:("spread ":String).length=7:=id rfl
@[simp] theorem qsp:("spread  ":String).length=8:=id rfl
@[simp] theorem qsT:("spread Zz":String).length=9:=id rfl
@[simp] theorem qsN:("stop":String).length=4:=id rfl
@[simp] theorem qtW:("strike":String).length=6:=id rfl
@[simp] theorem qsw:("stuc":String).length=4:=id rfl
@[simp] theorem qsM:("stuck":String).length=5:=id rfl
@[simp] theorem qsr:("to":String).length=2:=id rfl
@[simp] theorem qrA:("told":String).length=4:=id rfl
@[simp] theorem qtB:("turn":String).length=4:=id rfl
@[simp] theorem qsc:("turn ":String).length=5:=id rfl
@[simp] theorem qsx:("undue":String).length=5:=id rfl
@[simp] theorem qrH:("undue ":String).length=6:=id rfl
@[simp] theorem qt8:("unjust":String).length=6:=id rfl
@[simp] theorem qsy:("unjust ":String).length=7:=id rfl
@[simp] theorem qt3:("unjust  x":String).length=9:=id rfl
@[simp] theorem qsD:("unknown":String).length=7:=id rfl
@[simp] theorem qrk:("unlike":String).length=6:=id rfl
@[simp] theorem qt1:("used":String).length=4:=id rfl
@[simp] theorem qs9:("wrongs":String).length=6:=id rfl
@[simp] theorem qr5:("x":String).length=1:=id rfl
@[simp] theorem qrY:("y":String).length=1:=id rfl
@[simp] theorem qr1:("z":String).length=1:=id rfl
@[simp] theorem qua:("zero":String).length=4:=id rfl
@[simp] theorem qr6:("zq":String).length=2:=id rfl
@[simp] theorem qtm:("zr":String).length=2:=id rfl
@[simp] theorem qrU:("zs":String).length=2:=id rfl
@[simp] theorem qtr:("zt":String).length=2:=id rfl
@[simp] theorem qsz:("zu":String).length=2:=id rfl
@[simp] theorem qsa:("zv":String).length=2:=id rfl
@[simp] theorem qrO:("zw":String).length=2:=id rfl
@[simp] theorem qrf:("zx":String).length=2:=id rfl
@[simp] theorem qr8:("zz":String).length=2:=id rfl
@[simp] theorem qsi:("zz zz":String).length=5:=id rfl
example:((Str.ofString "put").length:Int)≤8:=by simp
example:¬ (Str.ofString "put"=Str.ofString "turn"):=by simp
example:Str.ofString "Book"++"."++"markable"=Str.ofString "Book.markable":=by simp
end LS
namespace LS
open PySem L2
structure BkA (T:Str→Option Fn) (g:Gm):Prop where
 isName:T "is_name"=some (.fn 2 1 [] qiG false)
 standsIn:T "stands_in"=some (.fn 2 2 [] qgH false)
 checkFresh:T "check_fresh"=some (.fn 2 2 [] qe7 false)
 kindsOf:T "kinds_of"=some (.fn 4 1 [] qhN false)
 columnRowsOf:T "column_rows_of"=some (.fn 9 2 [] qdl false)
 menuOf:T "menu_of"=some (.fn 5 2 [] qhW false)
 checksOf:T "checks_of"=some (.fn 3 2 [] qgj false)
 column:T "Column"=some (.cls "Column.__init__")
 columnInit:T "Column.__init__"=some (.fn 5 5 [] qe3 false)
 book:T "Book"=some (.cls "Book.__init__")
 bookInit:∃ dfl,T "Book.__init__"=some (.fn 5 4 dfl qf9 false)
 gIsName:g.fn "is_name"=true
 gStandsIn:g.fn "stands_in"=true
 gCheckFresh:g.fn "check_fresh"=true
 gKindsOf:g.fn "kinds_of"=true
 gColumnRowsOf:g.fn "column_rows_of"=true
 gMenuOf:g.fn "menu_of"=true
 gChecksOf:g.fn "checks_of"=true
 gColumn:g.fn "Column"=true
 gBook:g.fn "Book"=true
 struck:g.glo "STRUCK"=some (.str "strike")
 letters:g.glo "LETTERS"=some (.str abc)
 fall:g.glo "FALL"=some (.str "fall")
 clear:g.glo "CLEAR"=some (.str "clear")
 fB1:g.fld "Book" "open_kinds"=true
 fB2:g.fld "Book" "column_rows"=true
 fB3:g.fld "Book" "column_table"=true
 fB4:g.fld "Book" "all_checks"=true
 fB5:g.fld "Book" "own_checks"=true
 fC1:g.fld "Column" "word"=true
 fC2:g.fld "Column" "home"=true
 fC3:g.fld "Column" "goal"=true
 fC4:g.fld "Column" "rule"=true
theorem qfE {α:Type} {m:R α} {r:α} (h:WX m (fun q=>q=r) fun _ _ _=>False):m=.ok r:=by
 obtain ⟨a,h1,rfl⟩:=qiE h
 exact h1
@[simp] theorem eq_s {x y:Str} {S:qaa}:qaH .eq (.v (.str x)) (.v (.str y)) S=.ok (.v (.bl (decide (x=y))),S):=id rfl
@[simp] theorem ne_s {x y:Str} {S:qaa}:qaH .ne (.v (.str x)) (.v (.str y)) S=.ok (.v (.bl (!decide (x=y))),S):=id rfl
@[simp] theorem eq_i {x y:Int} {S:qaa}:qaH .eq (.v (.int x)) (.v (.int y)) S=.ok (.v (.bl (decide (x=y))),S):=id rfl
@[simp] theorem ne_i {x y:Int} {S:qaa}:qaH .ne (.v (.int x)) (.v (.int y)) S=.ok (.v (.bl (!decide (x=y))),S):=id rfl
theorem qdz:∀ (bs:List Bool),qdj (bs.map .bl)=some bs
 | []=>rfl
 | b::bs=>by simp [qdj,qdz bs]
@[simp] theorem all_map {α:Type} {xs:List α} {f:α→Bool}:bfOp .all [.lst (xs.map fun x=>.bl (f x))]=some (.bl (xs.all f)):=by
 have:(xs.map fun x=>P.bl (f x))=(xs.map f).map .bl:=by simp
 rw [this]
 simp only [bfOp,qdz,Option.map_some,List.all_map]
 rfl
@[simp] theorem any_map {α:Type} {xs:List α} {f:α→Bool}:bfOp .any [.lst (xs.map fun x=>.bl (f x))]=some (.bl (xs.any f)):=by
 have:(xs.map fun x=>P.bl (f x))=(xs.map f).map .bl:=by simp
 rw [this]
 simp only [bfOp,qdz,Option.map_some,List.any_map]
 rfl
@[simp] theorem qsY {env:Env}:qbV env []=env:=id rfl
@[simp] theorem qqT {env:Env} {i:Nat} {is:List Nat}:qbV env (i::is)=(qbV env is).set i none:=id rfl
@[simp] theorem qtu {c:Nat}:inP (.str ⟨#[c]⟩) (.str abc)=some (decide (low c)):=by
 simp only [inP,len1,if_true]
 congr 1
 exact decide_eq_decide.mpr qkL
section
variable {T:Str→Option Fn} {g:Gm} (b:BkA T g)
include b
end
end LS
namespace LS
open PySem L2
@[simp] theorem qov {x:Str} {ys:List Str}:inP (.str x) (.lst (ys.map .str))=some (decide (x∈ys)):=qjb x ys
@[simp] theorem qn3 {x:Str} {ys:List Str}:inP (.str x) (.tup (ys.map .str))=some (decide (x∈ys)):=by
 unfold inP
 simp only [qfJ,qaV,Bool.and_self,if_true]
 congr 1
 rw [List.any_map]
 apply Bool.eq_iff_iff.mpr
 rw [List.any_eq_true,decide_eq_true_iff]
 constructor
 ·rintro ⟨y,hy,he⟩
  have:(y == x)=true:=he
  rw [beq_iff_eq] at this
  exact this ▸ hy
 ·intro h
  exact ⟨x,h,by show (x == x)=true;simp⟩
section
variable {T:Str→Option Fn} {g:Gm} (b:BkA T g)
include b
end
end LS
namespace LS
open PySem L2
def pCol (c:Col):P:=.obj "Column" [("word",.str c.name),("home",.str c.home),("goal",.str c.goal),("rule",.str c.rule)]
def kC (c:Col):Key × P:=(.inr c.name,pCol c)
section
variable {T:Str→Option Fn} {g:Gm} (b:BkA T g)
include b
end
end LS
namespace LS
open PySem L2
section
variable {T:Str→Option Fn} {g:Gm} (b:BkA T g)
include b
end
section
variable {T:Str→Option Fn} {g:Gm} (b:BkA T g)
include b
end
end LS
namespace LS
open PySem L2
def bkD (ks:List (Str × Bool)) (cs:List Col) (ch:List Str):List (Key × P):=[(.inr "kinds",.lst (ks.map pK)),(.inr "columns",.lst (cs.map pC)),(.inr "checks",.lst (ch.map .str))]
def pB (ks:List (Str × Bool)) (cs:List Col) (ch:List Str):P:=.dct (bkD ks cs ch)
@[simp] theorem qop {α:Type} {k x:Key} {v:α} {r:List (Key × α)}:getK ((k,v)::r) x=if k=x then some v else getK r x:=by
 by_cases h:k=x
 ·simp [getK,List.find?_cons,h]
 ·simp [getK,List.find?_cons,h]
@[simp] theorem qq7 {α:Type} {x:Key}:getK ([]:List (Key × α)) x=none:=id rfl
structure BAt (w:W) (S:qaa) (ks:List (Str × Bool)) (cs:List Col) (ch:List Str):Prop where
 kinds:∀ l,qb0 w (.v (.str "kinds")) (S++l)=.ok (.v (.lst (ks.map pK)),S++l)
 columns:∀ l,qb0 w (.v (.str "columns")) (S++l)=.ok (.v (.lst (cs.map pC)),S++l)
 checks:∀ l,qb0 w (.v (.str "checks")) (S++l)=.ok (.v (.lst (ch.map .str)),S++l)
theorem BAt.app {w:W} {S:qaa} {ks:List (Str × Bool)} {cs:List Col} {ch:List Str} (h:BAt w S ks cs ch) (r:qaa):BAt w (S++r) ks cs ch:=
 ⟨fun l=>by rw [List.append_assoc];exact h.kinds _,fun l=>by rw [List.append_assoc];exact h.columns _,fun l=>by rw [List.append_assoc];exact h.checks _⟩
theorem BAt.k0 {w:W} {S:qaa} {ks:List (Str × Bool)} {cs:List Col} {ch:List Str} (h:BAt w S ks cs ch):qb0 w (.v (.str "kinds")) S=.ok (.v (.lst (ks.map pK)),S):=by simpa using h.kinds []
theorem BAt.c0 {w:W} {S:qaa} {ks:List (Str × Bool)} {cs:List Col} {ch:List Str} (h:BAt w S ks cs ch):qb0 w (.v (.str "columns")) S=.ok (.v (.lst (cs.map pC)),S):=by simpa using h.columns []
theorem BAt.h0 {w:W} {S:qaa} {ks:List (Str × Bool)} {cs:List Col} {ch:List Str} (h:BAt w S ks cs ch):qb0 w (.v (.str "checks")) S=.ok (.v (.lst (ch.map .str)),S):=by simpa using h.checks []
structure LwA (T:Str→Option Fn) (g:Gm):Prop where
 allChecks:T "_law_all_checks"=some (.fn 5 1 [] qc5 false)
 gAll:g.fn "_law_all_checks"=true
 draw:T "_law_draw"=some (.fn 4 2 [] qag false)
 gDraw:g.fn "_law_draw"=true
 same:T "_law_same"=some (.fn 2 2 [] qbg false)
 gSame:g.fn "_law_same"=true
section
variable {T:Str→Option Fn} {g:Gm} (b:LwA T g)
include b
end
end LS
namespace LS
open PySem L2
theorem qke {kp:Bool} {S:qaa} {ks:List (Str × Bool)} {cs:List Col} {ch:List Str}:dicK kp false S.length ([(.inr "kinds",.v (.lst (ks.map pK))),(.inr "columns",.v (.lst (cs.map pC))),(.inr "checks",.v (.lst (ch.map .str)))],S++[.dct []])=.ok (.v (pB ks cs ch),S):=
 qmu (kvs:=bkD ks cs ch) (by simp [bkD]) (by simp [bkD])
@[simp] theorem qq3 {kp:Bool} {s:Sm} {rest:qaa} {ks:List (Str × Bool)} {cs:List Col} {ch:List Str}:dicK kp false (rest.length + 2) ([(.inr "kinds",.v (.lst (ks.map pK))),(.inr "columns",.v (.lst (cs.map pC))),(.inr "checks",.v (.lst (ch.map .str)))],s.cells (rest++[.dct []]))=.ok (.v (pB ks cs ch),s.cells rest):=by
 have:=qke (kp:=kp) (S:=s.cells rest) (ks:=ks) (cs:=cs) (ch:=ch)
 simpa using this
section
variable {T:Str→Option Fn} {g:Gm} (b:LwA T g)
include b
end
end LS
namespace LS
open PySem L2
end LS
namespace LS
open PySem L2
section
variable {Z:Po} {test:Env→qaa→R (Bool × qaa)} {body:Env→qaa→RS}
end
def qmL (c:Bool):S:=
 (.cons (.set 1 (.lc false [("kind",5)] (.name 5) (.it (.att (.var 0) "open_kinds")) (.cons (.sub (.att (.var 0) "open_kinds") (.var 5)) .nil) (.var 5)))
 (.cons (.set 2 (.var 1))
 (.cons (.whl (.cmp .gt (.bf .len (.cons (.var 2) .nil)) (.lit (.int 0))) (.cons (.set 3 (.lc false [("column",6)] (.name 6) (.vals (.att (.var 0) "column_table")) (.cons (.cmp .eq (.att (.var 6) "rule") (.glo "FALL")) .nil) (.var 6)))
 (.cons (.set 4 (.lc false [("column",6)] (.name 6) (.it (.var 3)) (.cons (.cmp .in_ (.att (.var 6) "goal") (.var 1)) .nil) (.att (.var 6) "home")))
 (.cons (.set 2 (.lc false [("kind",5)] (.name 5) (.it (.att (.var 0) "open_kinds")) (.cons (.and (.cmp .in_ (.var 5) (.var 4)) (.cmp .nin (.var 5) (.var 1))) .nil) (.var 5)))
 (.cons (.set 1 (.bin .add (.var 1) (.var 2)))
 .nil)))))
 (.cons (.ret (.lc c [("kind",5)] (.name 5) (.it (.att (.var 0) "open_kinds")) (.cons (.cmp .in_ (.var 5) (.var 1)) .nil) (.var 5)))
 .nil))))
section
variable {T:Str→Option Fn} {g:Gm} (b:BkA T g)
include b
end
end LS
namespace LS
open PySem L2
def RO (p:P) (n w:Nat):Prop:=∃ d,p.py=some d∧d.canLay0=true∧d.depth≤n∧d.showable=true∧d.leavesShort 13=true∧d.weight≤w
theorem RO.mono {p:P} {n w n' w':Nat} (h:RO p n w) (hn:n≤n') (hw:w≤w'):RO p n' w':=by
 obtain ⟨d,h1,h2,h3,h4,h5,h6⟩:=h
 exact ⟨d,h1,h2,Nat.le_trans h3 hn,h4,h5,Nat.le_trans h6 hw⟩
section
variable {T:Str→Option Fn} {g:Gm} (b:LwA T g)
include b
end
end LS
namespace LS
open PySem L2
def frzK (o:Option Cell) (n:Nat) (S:qaa):R (P × qaa):=match o with
 | some c=>match c.view with
  | some p=>.ok (p,S.set n .dead)
  | none=>.no
 | none=>.no
@[simp] theorem qul {n:Nat} {ws:List W} {S:qaa}:qax (.c n::ws) S=(frzK S[n]? n S).bind fun q=>(qax ws q.2).bind fun q2=>.ok (q.1::q2.1,q2.2):=id rfl
@[simp] theorem qtI {n:Nat} {ps:List P} {S:qaa}:frzK (some (.lst (ps.map .v))) n S=.ok (.lst ps,S.set n .dead):=by
 simp [frzK,Cell.view]
def qhM (o:Option Cell) (n:Nat) (S:qaa):R (W × qaa):=match o with
 | some c=>match c.view with
  | some p=>.ok (.v p,S.set n .dead)
  | none=>match c with
   | .lst _=>.ok (.c n,S)
   | _=>.no
 | none=>.no
theorem qni {n:Nat} {S:qaa}:frzT S (.c n)=qhM S[n]? n S:=by
 show (match (match S[n]? with | some c=>(match c.view with | some p=>R.ok (p,S.set n .dead) | none=>.no) | none=>.no) with | .ok z=>R.ok (W.v z.1,z.2) | _=>(match S[n]? with | some (.lst _)=>R.ok (W.c n,S) | _=>.no))=qhM S[n]? n S
 generalize S[n]?=o
 cases o with
 | none=>rfl
 | some c=>
  unfold qhM
  simp only
  cases hv:c.view with
  | some p=>rfl
  | none=>cases c <;> rfl
@[simp] theorem qoV {n:Nat} {ps:List P} {S:qaa}:qhM (some (.lst (ps.map .v))) n S=.ok (.v (.lst ps),S.set n .dead):=by
 simp [qhM,Cell.view]
@[simp] theorem qvj {x:Str} {n:Nat} {kvs:List (Key × W)} {S:qaa}:kvK (.v (.str x)) (.c n) (kvs,S)=(qhM S[n]? n S).bind fun z=>.ok ((.inr x,z.1)::kvs,z.2):=by
 rw [← qni]
 rfl
@[simp] theorem qwf {xs:List P} {lo hi:Option Int} {S:qaa}:qgJ (.v (.lst xs)) lo hi S=.ok (.v (.lst (cutL xs lo hi)),S):=qmd
@[simp] theorem qn4 {kp:Bool} {s:Sm} {rest:qaa} {c:Cell} {ks:List (Str × Bool)} {cs:List Col} {ch:List Str}:dicK kp false (rest.length + 3) ([(.inr "kinds",.v (.lst (ks.map pK))),(.inr "columns",.v (.lst (cs.map pC))),(.inr "checks",.v (.lst (ch.map .str)))],s.cells (rest++[c,.dct []]))=.ok (.v (pB ks cs ch),s.cells (rest++[c])):=by
 have:=qke (kp:=kp) (S:=s.cells (rest++[c])) (ks:=ks) (cs:=cs) (ch:=ch)
 simpa using this
structure LwB (T:Str→Option Fn) (g:Gm):Prop extends LwA T g where
 fresh:T "_law_fresh"=some (.fn 8 2 [] qfo false)
 gFresh:g.fn "_law_fresh"=true
 names:T "_law_names"=some (.fn 4 2 [] qfv false)
 gNames:g.fn "_law_names"=true
 pick:T "_law_pick"=some (.fn 2 2 [] qbc false)
 gPick:g.fn "_law_pick"=true
section
variable {T:Str→Option Fn} {g:Gm} (b:LwB T g)
include b
end
end LS
namespace LS
open PySem L2
theorem qhn {φ:Nat→Prop} (ys:List Str) (h:∀ y∈ys,∀ c∈y.cps.toList,φ c):(∀ c∈(Txt.join Str.empty ys).cps.toList,φ c)∧(Txt.join Str.empty ys).length=(ys.map (·.length)).sum:=by
 have fold:∀ (ys:List Str) (acc:Array Nat),(∀ y∈ys,∀ c∈y.cps.toList,φ c)→(∀ c∈acc.toList,φ c)→(∀ c∈(ys.foldl (fun acc p=>acc++Str.empty.cps++p.cps) acc).toList,φ c)∧(ys.foldl (fun acc p=>acc++Str.empty.cps++p.cps) acc).size=acc.size + (ys.map (·.length)).sum:=by
  intro ys
  induction ys with
  | nil=>exact fun acc _ h=>⟨h,by simp⟩
  | cons y ys ih=>
   intro acc hy ha
   have:=ih (acc++Str.empty.cps++y.cps) (fun z hz=>hy z (List.mem_cons_of_mem _ hz)) (by
    intro c hc
    simp only [Array.toList_append,List.mem_append] at hc
    rcases hc with (hc | hc) | hc
    ·exact ha c hc
    ·simp [Str.empty] at hc
    ·exact hy y List.mem_cons_self c hc)
   refine ⟨this.1,?_⟩
   simp only [List.foldl_cons,List.map_cons,List.sum_cons]
   rw [this.2]
   simp [Str.empty,Str.length]
   omega
 cases ys with
 | nil=>exact ⟨fun c hc=>by simp [Txt.join,Builtin.Str.glued,Str.empty] at hc,rfl⟩
 | cons y ys=>
  have:=fold ys y.cps (fun z hz=>h z (List.mem_cons_of_mem _ hz)) (h y List.mem_cons_self)
  exact ⟨this.1,by
   show (ys.foldl (fun acc p=>acc++Str.empty.cps++p.cps) y.cps).size=_
   rw [this.2]
   rfl⟩
theorem qjm {kp:Bool} (cs:List Nat) (S:qaa) (hl:cs.length≤8) (h:∀ c∈cs,c < 128):∃ nm:Str,bmOp kp .join (.v (.str "")) [.v (.lst (cs.map fun c=>P.str ⟨#[c]⟩))] S=.ok (.v (.str nm),S)∧PyData.strOk nm=true∧nm.length=cs.length:=by
 have hall:∀ y∈cs.map (fun c=>(⟨#[c]⟩:Str)),∀ c∈y.cps.toList,c < 128:=by
  intro y hy
  obtain ⟨c,hc,rfl⟩:=List.mem_map.mp hy
  intro z hz
  have:z=c:=by simpa using hz
  rw [this]
  exact h c hc
 refine ⟨Txt.join Str.empty (cs.map fun c=>⟨#[c]⟩),?_,?_,?_⟩
 ·have e:(cs.map fun c=>P.str ⟨#[c]⟩)=(cs.map fun c=>(⟨#[c]⟩:Str)).map P.str:=by simp
  rw [e,qd7]
  simp only [bmOp,qhb,W.view,qev,ok1]
  rw [if_pos]
  rw [qgY]
  simp only [List.length_map]
  have:Str.empty.length=0:=rfl
  rw [this]
  have:(8:Nat)≤lim:=by decide
  omega
 ·unfold PyData.strOk
  rw [← Array.all_toList,List.all_eq_true]
  intro c hc
  have:=(qhn (φ:=fun c=>c < 128) _ hall).1 c hc
  exact decide_eq_true (by omega)
 ·rw [(qhn (φ:=fun c=>c < 128) _ hall).2,qgY]
def RB (p:P) (n w:Nat):Prop:=∃ d,p.py=some d∧d.canLay0=true∧d.depth≤n∧d.showable=true∧d.leavesShort 40=true∧d.weight≤w
theorem RB.mono {p:P} {n w n' w':Nat} (h:RB p n w) (hn:n≤n') (hw:w≤w'):RB p n' w':=by
 obtain ⟨d,h1,h2,h3,h4,h5,h6⟩:=h
 exact ⟨d,h1,h2,Nat.le_trans h3 hn,h4,h5,Nat.le_trans h6 hw⟩
theorem qh0 {s:Str} (h:PyData.strOk s=true):RB (.str s) 0 s.length:=
 ⟨.str s,rfl,by simpa [PyData.canLay0] using h,by simp [PyData.depth],by simp [PyData.showable],PyData.leavesShort_of_canLay0 40 (.str s) (by simpa [PyData.canLay0] using h) rfl,by simp [PyData.weight,Str.length]⟩
theorem qm4:RB .non 0 0:=⟨.none,rfl,by simp [PyData.canLay0],by simp [PyData.depth],by simp [PyData.showable],by simp [PyData.leavesShort],by simp [PyData.weight]⟩
theorem qfF {i:Int} (h:i.natAbs < 10 ^ 30):RB (.int i) 0 101:=by
 have hl:i.natAbs.log2 < 100:=by
  by_cases h0:i.natAbs=0
  ·rw [h0];decide
  ·exact (Nat.log2_lt h0).mpr (Nat.lt_trans h (by decide))
 refine ⟨.int i,rfl,by simp [PyData.canLay0],by simp [PyData.depth],by simp only [PyData.showable,decide_eq_true_eq];omega,?_,?_⟩
 ·simp only [PyData.leavesShort,decide_eq_true_eq]
  have e:=int_text_length_le10 (k:=30) (by decide) h
  show (Str.ofString (toString i)).length≤40
  rw [ofString_length]
  omega
 ·simp only [PyData.weight]
  split <;> omega
theorem qhU {n w:Nat}:∀ {ps:List P},(∀ p∈ps,RB p n w)→∃ ds,qcU ps=some ds∧PyData.canLayAll0 ds=true∧PyData.depthAll ds≤n∧PyData.showableAll ds=true∧PyData.leavesShortAll 40 ds=true∧PyData.weightAll ds≤ps.length * (w + 1)
 | [],_=>⟨[],rfl,rfl,by simp [PyData.depthAll],rfl,rfl,by simp [PyData.weightAll]⟩
 | p::ps,h=>by
  obtain ⟨d,h1,h2,h3,h4,h5,h6⟩:=h p (by simp)
  obtain ⟨ds,g1,g2,g3,g4,g5,g6⟩:=qhU (ps:=ps) fun q hq=>h q (List.mem_cons_of_mem _ hq)
  refine ⟨d::ds,by simp [qcU,h1,g1],by simp [PyData.canLayAll0,h2,g2],by simp [PyData.depthAll];omega,by simp [PyData.showableAll,h4,g4],by simp [PyData.leavesShortAll,h5,g5],?_⟩
  simp only [PyData.weightAll,List.length_cons,Nat.succ_mul]
  omega
theorem qmy {n w:Nat} {ps:List P} (h:∀ p∈ps,RB p n w):RB (.lst ps) (n + 1) (ps.length * (w + 1)):=by
 obtain ⟨ds,g1,g2,g3,g4,g5,g6⟩:=qhU h
 exact ⟨.list ds,by simp [P.py,g1],by simpa [PyData.canLay0] using g2,by simp [PyData.depth];omega,by simpa [PyData.showable] using g4,by simpa [PyData.leavesShort] using g5,by simpa [PyData.weight] using g6⟩
theorem qiD {n w:Nat} {ps:List P} (h:∀ p∈ps,RB p n w):RB (.tup ps) (n + 1) (ps.length * (w + 1)):=by
 obtain ⟨ds,g1,g2,g3,g4,g5,g6⟩:=qhU h
 exact ⟨.tuple ds,by simp [P.py,g1],by simpa [PyData.canLay0] using g2,by simp [PyData.depth];omega,by simpa [PyData.showable] using g4,by simpa [PyData.leavesShort] using g5,by simpa [PyData.weight] using g6⟩
theorem qja {p:P} {n w:Nat} (h:RB p n w) (hn:n≤64) (hw:w≤20000):∃ r,qiS p=some r:=by
 obtain ⟨d,h1,h2,h3,h4,h5,h6⟩:=h
 have hl:d.shown.length≤lim:=by
  have:=PyData.shown_le 40 (by decide) d h5
  rw [qfn]
  omega
 have hd:d.depth≤64:=Nat.le_trans h3 hn
 refine ⟨d.shown,?_⟩
 unfold qiS
 simp [h1,SeqAt.shaped,h2,hd,h4,hl]
def Th (p:P):Prop:=RB p 2 1000
theorem qjr {d:Nat} {s:Sm} {rest:qaa} {m B:Int} {Q:W × qaa→Prop} {E:XQ} (hs:s.ok B) (hB:B < 1000000) (hm:0 < m) (hm2:m < 1267650600228229401496703205376)
  (k:∀ (s':Sm) (r:Int),s'.ok (B + 1)→0≤r→r < m→Q (.v (.int r),s'.cells rest)):WX (callF T gm (d + 1) "_law_draw" [.c 1,.v (.int m)] (s.cells rest)) Q E:=by
 obtain ⟨s',r,h1,h2,h3,h4⟩:=qgX (show T "_law_draw"=some (.fn 4 2 [] qag false) from rfl) d (g:=gm) (rest:=rest) hs hB hm hm2
 rw [h1]
 exact k s' r h2 h3 h4
theorem qnH {d:Nat} {s:Sm} {rest:qaa} {B:Int} {Q:W × qaa→Prop} {E:XQ} (hs:s.ok B) (hB:B + 10 < 1000000)
  (k:∀ (s':Sm) (c:Nat),s'.ok (B + 1)→c < 128→Q (.v (.str ⟨#[c]⟩),s'.cells rest)):WX (callF T gm (d + 2) "_law_pick" [.c 1,.v (.str "abz Z0")] (s.cells rest)) Q E:=by
 refine qcI (show T "_law_pick"=some (.fn 2 2 [] qbc false) from rfl) rfl ?_
 simp [qbc,qaM,show gm.fn "_law_draw"=true from rfl]
 rw [qeH,show bfOp .len [P.str "abz Z0"]=some (.int 6) from rfl]
 simp
 rw [qgF]
 refine qiL (show T "_law_draw"=some (.fn 4 2 [] qag false) from rfl) hs (by omega) (by decide) (by decide) fun s1 r hs1 h0 h1=>?_
 have fin:∀ (i:Int) (c:Nat),ixP (.str "abz Z0") (.int i)=some (.str ⟨#[c]⟩)→Q (.v (.str ⟨#[c]⟩),s1.cells rest)→WX (qb0 (.v (.str "abz Z0")) (.v (.int i)) (s1.cells rest)) (fun a=>WX (qbG false (List.length rest + 2) a.fst a.snd) Q E) (fun c fs S=>E c fs (List.take (List.length rest + 2) S)):=fun i c h q=>by
  rw [qqF h]
  show WX (qbG false (List.length rest + 2) (.v (.str ⟨#[c]⟩)) (s1.cells rest)) Q E
  simpa [qbG,Sm.cells] using q
 have h6:r=0∨r=1∨r=2∨r=3∨r=4∨r=5:=by omega
 rcases h6 with rfl | rfl | rfl | rfl | rfl | rfl
 ·exact fin _ 97 rfl (k s1 97 hs1 (by decide))
 ·exact fin _ 98 rfl (k s1 98 hs1 (by decide))
 ·exact fin _ 122 rfl (k s1 122 hs1 (by decide))
 ·exact fin _ 32 rfl (k s1 32 hs1 (by decide))
 ·exact fin _ 90 rfl (k s1 90 hs1 (by decide))
 ·exact fin _ 48 rfl (k s1 48 hs1 (by decide))
theorem qjn {d:Nat} {s:Sm} {B:Int} {Q:W × qaa→Prop} {E:XQ} (hs:s.ok B) (hB:B + 100 < 1000000)
  (k:∀ (s':Sm) (p:P),s'.ok (B + 20)→Th p→Q (.v p,s'.cells [])):WX (callF T gm (d + 3) "_law_thing" [.c 1] (s.cells [])) Q E:=by
 refine qcI (show T "_law_thing"=some (.fn 3 1 [] qbq false) from rfl) rfl ?_
 simp [qbq,qaM,show gm.fn "_law_draw"=true from rfl,show gm.fn "_law_pick"=true from rfl]
 rw [qeH]
 refine qiL (show T "_law_draw"=some (.fn 4 2 [] qag false) from rfl) hs (by omega) (by decide) (by decide) fun s1 r hs1 h0 h1=>?_
 by_cases hr:r < 2
 ·simp [hr]
  rw [qeH,show qaP .pow (.v (.int 10)) (.v (.int 30)) (s1.cells [])=.ok (.v (.int 1000000000000000000000000000000),s1.cells []) from rfl]
  simp
  rw [qgF]
  refine qjr hs1 (by omega) (by decide) (by decide) fun s2 z hs2 hz0 hz1=>?_
  rw [show qaP .pow (.v (.int 10)) (.v (.int 29)) (s2.cells [])=.ok (.v (.int 100000000000000000000000000000),s2.cells []) from rfl]
  simp
  rw [show qaP .mul (.v (.int 5)) (.v (.int 100000000000000000000000000000)) (s2.cells [])=.ok (.v (.int 500000000000000000000000000000),s2.cells []) from rfl]
  simp
  have:=k s2 (.int (z - 500000000000000000000000000000)) (hs2.mono (by omega)) ((qfF (by omega)).mono (by omega) (by omega))
  simpa [qbG,Sm.cells] using this
 ·simp [hr]
  rw [qeH,qgF]
  refine qow famS (Inv:=fun xs acc s=>∃ got:List Nat,acc=got.map (fun c=>P.str ⟨#[c]⟩)∧(∀ c∈got,c < 128)∧xs.length + got.length=5∧s.ok (B + 1 + got.length)) (xs:=(List.range 5).map fun (i:Nat)=>W.v (.int (0 + (i:Int)))) (s:=s1) (rest:=[]) ?_ (by simp;rw [qfn];omega) ⟨[],rfl,by simp,by simp,by simpa using hs1⟩ ?_ ?_
  ·simp [-List.map_map,famS]
   rw [show qeR [.v (.int 5)]=.ok (.st ((List.range 5).map fun (i:Nat)=>W.v (.int (0 + (i:Int))))) from rfl]
   simp
  ·rintro x xs acc s ⟨got,rfl,hg,hl,hok⟩
   simp only [List.length_cons] at hl
   refine ⟨_,rfl,?_⟩
   simp [-List.map_map,famS,show gm.fn "_law_pick"=true from rfl]
   refine ⟨s,rfl,?_⟩
   refine qnH hok (by omega) fun s2 c hs2 hc=>?_
   refine ⟨_,s2,rfl,got++[c],by simp,fun y hy=>?_,by simp;omega,hs2.mono (by simp;omega)⟩
   rcases List.mem_append.mp hy with h | h
   ·exact hg y h
   ·have:y=c:=by simpa using h
    omega
  ·rintro ps s2 ⟨got,rfl,hg,hl,hok⟩
   obtain ⟨nm,k3,k4,k5⟩:=qjm (kp:=false) got (s2.cells []) (by simp at hl;omega) hg
   simp at hl
   have k3':bmOp false BM.join (W.v (P.str Str.empty)) [W.v (.lst (got.map fun c=>P.str ⟨#[c]⟩))] (s2.cells [])=.ok (.v (.str nm),s2.cells []):=by
    rw [← qd7]
    exact k3
   simp [-List.map_map,famS,k3',qfn]
   have h4:r=2∨r=3∨r=4∨r=5:=by omega
   have hs3:s2.ok (B + 20):=hok.mono (by omega)
   have ha:PyData.strOk "a"=true:=by decide +kernel
   have hlk:PyData.strOk "look"=true:=by decide +kernel
   rcases h4 with rfl | rfl | rfl | rfl
   ·exact k s2 _ hs3 ((qh0 k4).mono (by omega) (by omega))
   ·exact k s2 _ hs3 (qm4.mono (by omega) (by omega))
   ·refine k s2 _ hs3 ((qiD (n:=0) (w:=101) fun p hp=>?_).mono (by omega) (by simp))
    simp at hp
    rcases hp with rfl | rfl
    ·exact qfF (by decide)
    ·exact (qh0 ha).mono (by omega) (by decide)
   ·refine k s2 _ hs3 ((qiD (n:=1) (w:=204) fun p hp=>?_).mono (by omega) (by simp))
    simp at hp
    rcases hp with rfl | rfl | rfl
    ·exact (qh0 hlk).mono (by omega) (by decide)
    ·exact (qfF (by decide)).mono (by omega) (by omega)
    ·refine (qiD (n:=0) (w:=101) fun p hp=>?_).mono (by omega) (by simp)
     simp at hp
     rcases hp with rfl | rfl
     ·exact qfF (by decide)
     ·exact qfF (by decide)
end LS
namespace LS
open PySem L2
@[simp] theorem ix_k {ks:List (Str × Bool)} {cs:List Col} {ch:List Str}:ixP (pB ks cs ch) (.str "kinds")=some (.lst (ks.map pK)):=by simp [pB,bkD,ixP,qaU]
@[simp] theorem ix_c {ks:List (Str × Bool)} {cs:List Col} {ch:List Str}:ixP (pB ks cs ch) (.str "columns")=some (.lst (cs.map pC)):=by simp [pB,bkD,ixP,qaU]
@[simp] theorem ix_h {ks:List (Str × Bool)} {cs:List Col} {ch:List Str}:ixP (pB ks cs ch) (.str "checks")=some (.lst (ch.map .str)):=by simp [pB,bkD,ixP,qaU]
@[simp] theorem qrW {fl:Str→Str→Bool} {S:qaa} {c:Col} (h:fl "Column" "word"=true):qel fl (.v (pCol c)) "word" S=.ok (.v (.str c.name),S):=by simp [pCol,h]
@[simp] theorem qtJ {fl:Str→Str→Bool} {S:qaa} {c:Col} (h:fl "Column" "home"=true):qel fl (.v (pCol c)) "home" S=.ok (.v (.str c.home),S):=by simp [pCol,h]
@[simp] theorem qtD {fl:Str→Str→Bool} {S:qaa} {c:Col} (h:fl "Column" "goal"=true):qel fl (.v (pCol c)) "goal" S=.ok (.v (.str c.goal),S):=by simp [pCol,h]
@[simp] theorem qt2 {fl:Str→Str→Bool} {S:qaa} {c:Col} (h:fl "Column" "rule"=true):qel fl (.v (pCol c)) "rule" S=.ok (.v (.str c.rule),S):=by simp [pCol,h]
@[simp] theorem ixC1 {c:Col}:ixP (pC c) (.int 0)=some (.str c.name):=by simp [pC,ixP,atI,ixN]
@[simp] theorem ixC2 {c:Col}:ixP (pC c) (.int 1)=some (.str c.home):=by simp [pC,ixP,atI,ixN]
@[simp] theorem ixC3 {c:Col}:ixP (pC c) (.int 2)=some (.str c.goal):=by simp [pC,ixP,atI,ixN]
@[simp] theorem ixC4 {c:Col}:ixP (pC c) (.int 3)=some (.str c.rule):=by simp [pC,ixP,atI,ixN]
@[simp] theorem ixK1 {c:Str × Bool}:ixP (pK c) (.int 0)=some (.str c.1):=by simp [pK,ixP,atI,ixN]
@[simp] theorem ixK2 {c:Str × Bool}:ixP (pK c) (.int 1)=some (.bl c.2):=by simp [pK,ixP,atI,ixN]
structure BkB (T:Str→Option Fn) (g:Gm):Prop extends BkA T g where
 markable:T "Book.markable"=some (.fn 7 1 [] (qmL false) false)
 gMarkable:g.met "Book" "markable"=true
 contains:T "Book.__contains__"=some (.fn 2 2 [] qdY false)
 gContains:g.met "Book" "__contains__"=true
structure BkR (T:Str→Option Fn) (g:Gm):Prop extends BkB T g where
 tightKinds:T "tight_kinds"=some (.fn 2 1 [] qfa false)
 gTightKinds:g.fn "tight_kinds"=true
 tightColumns:T "tight_columns"=some (.fn 4 1 [] qd4 false)
 gTightColumns:g.fn "tight_columns"=true
section
variable {T:Str→Option Fn} {g:Gm} (b:BkB T g)
include b
end
section
variable {T:Str→Option Fn} {g:Gm} (b:BkR T g)
include b
end
end LS
namespace LS
open PySem L2
structure LwC (T:Str→Option Fn) (g:Gm):Prop extends LwB T g where
 made:T "_law_made"=some (.fn 1 1 [] qgq false)
 gMade:g.fn "_law_made"=true
structure LwR (T:Str→Option Fn) (g:Gm):Prop extends LwC T g where
 markable:T "_law_markable"=some (.fn 6 1 [] qdV false)
 gMarkable:g.fn "_law_markable"=true
 checks:T "_law_checks"=some (.fn 3 3 [] qeT false)
 gChecks:g.fn "_law_checks"=true
 tight:T "_law_tight"=some (.fn 2 1 [] qfP false)
 gTight:g.fn "_law_tight"=true
 ties:T "_law_ties"=some (.fn 3 1 [] qgs false)
 gTies:g.fn "_law_ties"=true
section
variable {T:Str→Option Fn} {g:Gm} (b:LwB T g)
include b
end
section
variable {T:Str→Option Fn} {g:Gm} (b:LwC T g) (bk:BkA T g)
include b bk
end
section
variable {T:Str→Option Fn} {g:Gm} (b:LwR T g)
include b
end
end LS
namespace LS
open PySem L2
end LS
namespace LS
open PySem L2
section
variable {T:Str→Option Fn} {g:Gm} (b:BkR T g)
include b
end
end LS
namespace LS
open PySem L2
section
variable {T:Str→Option Fn} {g:Gm} (b:LwR T g)
include b
end
end LS
namespace LS
open PySem L2
section
variable {T:Str→Option Fn} {g:Gm} (b:BkR T g)
include b
end
@[simp] theorem qsU {p:P} {S:qaa}:qaH .notN (.v p) (.v .non) S=.ok (.v (.bl (!qhJ p)),S):=id rfl
@[simp] theorem quI {p:P} {S:qaa}:qaH .isN (.v p) (.v .non) S=.ok (.v (.bl (qhJ p)),S):=id rfl
section
variable {T:Str→Option Fn} {g:Gm}
end
end LS
namespace LS
open PySem L2
open Builtin Builtin.Str StrLaws
end LS
namespace LS
open PySem L2
@[simp] theorem qv6 {n:Nat} {S:qaa}:qba (.c n) S=match S[n]? with | some (.lst _)=>.ok (.cl n) | some (.tup ws)=>.ok (.st ws) | _=>.no:=id rfl
section
variable {Z:Po} {body:Env→qaa→RS} {tg:Tg} {α:Type}
end
def LAt (S:qaa) (m:Nat) (ps:List P):Prop:=∀ l,(S++l)[m]?=some (.lst (ps.map .v))
theorem LAt.z {S:qaa} {m:Nat} {ps:List P} (h:LAt S m ps):S[m]?=some (.lst (ps.map .v)):=by simpa using h []
theorem LAt.app {S:qaa} {m:Nat} {ps:List P} (h:LAt S m ps) (r:qaa):LAt (S++r) m ps:=fun l=>by rw [List.append_assoc];exact h _
theorem LAt.of {S:qaa} {m:Nat} {ps:List P} (h:S[m]?=some (.lst (ps.map .v))):LAt S m ps:=fun l=>by rw [List.getElem?_append_left (List.getElem?_eq_some_iff.mp h).1];exact h
section
variable {T:Str→Option Fn} {g:Gm} (b:BkA T g)
include b
end
end LS
namespace LS
open PySem L2
def qdK (x:Str):Str:=Str.ofString "check "++x
structure ColOk (c:Col):Prop where
 n:good c.name
 h:good c.home
 g:good c.goal
 r:c.rule="fall"∨c.rule="clear"
theorem ColOk.of {ks:List (Str × Bool)} {cs:List Col} (h:Shape ks cs) {c:Col} (hc:c∈cs):ColOk c where
 n:=h.good _ (List.mem_append_right _ (List.mem_map_of_mem hc))
 h:=h.good _ (List.mem_append_left _ (h.home c hc))
 g:=h.good _ (List.mem_append_left _ (h.goal c hc))
 r:=h.rule c hc
end LS
namespace LS
open PySem L2
section
variable {T:Str→Option Fn} {g:Gm} {d:Nat} {f:Str} {args:List W} {S:qaa}
theorem qjG {n np:Nat} {dfl:List P} {body:LS.S} {as:List W} {Q:W × qaa→Prop} {E:XQ} (hT:T f=some (.fnK n np dfl body)) (ha:qea np dfl args=some as)
  (h:WS (exS ⟨callF T g d,g,true⟩ body (qaM n as) S) ⟨fun _ S1=>Q (.v .non,S1),fun w S1=>Q (w,S1),fun _ _=>False,fun _ _=>False,fun c fs _ S1=>E c fs S1⟩):WX (callF T g (d + 1) f args S) Q E:=by
 unfold callF
 rw [hT]
 simp only [ha]
 cases hx:exS ⟨callF T g d,g,true⟩ body (qaM n as) S <;> rw [hx] at h
 ·exact h
 ·exact h
 ·exact h.elim
 ·exact h.elim
 ·exact h
 ·exact h.elim
end
section
variable {C:Cn} {env:Env} {S:qaa} {a b l:E} {m:Str} {n:Nat}
def insM (m:Str):Option Cell→Option Str
 | some (.ins c fs)=>if (fs.lookup m).isNone=true then some c else none
 | _=>none
theorem qlr:qbv m (.c n) S=insM m S[n]?:=by
 simp only [qbv,insM] <;> rfl
def qj0 (C:Cn) (m:Str) (l:E) (env:Env) (o:Option Str) (x:W) (S:qaa):R (W × qaa):=match o with
  | some c=>if C.keep=true∧C.g.metK c m=true then (evL C l env S).bind fun q2=>C.call (c++"."++m) (x::q2.1) q2.2 else .no
  | none=>.no
@[simp] theorem qnB:evE C (.methK a m l) env S=(evE C a env S).bind fun q=>qj0 C m l env (qbv m q.1 q.2) q.1 q.2:=by
 simp only [evE,qj0] <;> rfl
def qmn (C:Cn) (m:Str) (l:E) (env:Env) (o:Option Str) (x:W) (S:qaa):R (W × qaa):=match o with
  | some c=>if C.g.met c m=true then (evL C l env S).bind fun q2=>C.call (c++"."++m) (x::q2.1) q2.2 else .no
  | none=>.no
@[simp] theorem qqi:methK C m l env (.c n,S)=qmn C m l env (insM m S[n]?) (.c n) S:=by
 simp only [methK,qmn,qlr] <;> rfl
@[simp] theorem qsg {c:Str}:evE C (.isC c a) env S=if C.g.cls c=true then (evE C a env S).bind fun q=>match qbv "__class__" q.1 q.2 with
   | some c'=>if c'=c then .ok (.v (.bl true),q.2) else if C.g.cls c'=true∧C.g.isd c' c=true then .ok (.v (.bl false),q.2) else .no
   | none=>notC q.1 q.2
  else .no:=by simp only [evE] <;> rfl
def eqOK (C:Cn) (x:W) (q2:W × qaa):R (W × qaa):=match qbv "__eq__" x q2.2,qbv "__eq__" q2.1 q2.2 with
  | some c,some c'=>if C.g.met c "__eq__"=true∧c=c' then (C.call (c++"."++"__eq__") [x,q2.1] q2.2).bind fun r=>match r.1 with
    | .v (.bl k)=>.ok (.v (.bl k),r.2)
    | _=>.no
   else .no
  | _,_=>.no
@[simp] theorem qtb:evE C (.eqO a b) env S=(evE C a env S).bind fun q=>(evE C b env q.2).bind fun q2=>eqOK C q.1 q2:=by simp only [evE] <;> rfl
def qoZ (q:W × qaa):R (W × qaa):=match q.1.view q.2 with
  | some (.dct kvs)=>qaL (.dct (kvs.map fun z=>(z.1,.v z.2))) q.2
  | some (.lst l)=>match qbS l with
   | some kvs=>qaL (.dct ((qeC [] kvs).map fun z=>(z.1,.v z.2))) q.2
   | none=>.no
  | _=>.no
@[simp] theorem qqo:evE C (.dicC a) env S=(evE C a env S).bind fun q=>qoZ q:=by simp only [evE] <;> rfl
def qnp (q:W × qaa):R (Iter × qaa):=match q.1 with
  | .v (.lst xs)=>.ok (.st (qh8 xs),q.2)
  | .v (.tup xs)=>.ok (.st (qh8 xs),q.2)
  | _=>.no
@[simp] theorem qpa:evI C (.enum a) env S=(evE C a env S).bind fun q=>qnp q:=by simp only [evI] <;> rfl
@[simp] theorem qp7 {xs:List P}:qnp (.v (.lst xs),S)=.ok (.st (qh8 xs),S):=id rfl
@[simp] theorem qsO {u h:LS.S}:exS C (.try_ u h) env S=if qfq C.g.hdl h=true then match exS C u env S with
   | .ex c fs env S=>exH C h c fs env S
   | r=>r
  else .no:=by
 simp only [exS] <;> rfl
@[simp] theorem qok {kp:Bool} {x y:Str}:bmOp kp .split (.v (.str x)) [.v (.str y)] S=if (y.length == 0)=false∧x.length + 2≤lim then .ok (.v (.lst ((Txt.split x y).map .str)),S) else .no:=id rfl
end
structure BkF (T:Str→Option Fn) (g:Gm) extends BkA T g where
 take:T "BookReader.take"=some (.fnK 6 3 [] qc9)
 told:T "BookReader.told_book"=some (.fn 3 2 [] qca false)
 reader:T "BookReader"=some (.clsK "BookReader.__init__")
 readerInit:T "BookReader.__init__"=some (.fnK 1 1 [] qc8)
 readBook:T "read_book"=some (.fnK 5 1 [] qgv)
 gReader:g.fnK "BookReader"=true
 gRead:g.fnK "read_book"=true
 mTake:g.metK "BookReader" "take"=true
 mTold:g.met "BookReader" "told_book"=true
 r1:g.fld "BookReader" "found_kinds"=true
 r2:g.fld "BookReader" "found_columns"=true
 r3:g.fld "BookReader" "found_checks"=true
 hdlS:g.hdl "StrikeError"=true
 mostK:g.glo "MOST_KINDS"=some (.int 3)
 mostC:g.glo "MOST_COLUMNS"=some (.int 4)
section
variable {T:Str→Option Fn} {g:Gm} (b:BkF T g)
include b
end
end LS
namespace LS
open PySem L2
def clsL:List Str:=["BadName","NameInUse","UnknownKind","UnknownColumn","BadRule","UnknownCheck","UnlikeBooks","BadNumber","Taken","Used","NoRow","OwnOwner","Refused","NotOpen","Busy","Idle","BadPiece","BadList","NoFit","BadQuestion","BadDeed","BadWeaving","NothingToUndo","NothingToRedo","BadLine"]
theorem qkG:(clsL.all fun w=>clsL.all fun c=>decide (qcf (gm.isx w) [c]=some (decide (w=c))))=true:=by decide +kernel
theorem qlf:(clsL.all fun c=>[c].all gm.isn)=true:=by decide +kernel
theorem qlu:(clsL.all fun w=>decide (clsL.filter (fun c=>decide (w=c))=[w]))=true:=by decide +kernel
theorem qqb {C:Cn} (hC:C.g=gm) {env:Env} {S:qaa} {w c:Str} {fs:List (Str × P)} {b:Bool} (hn:[c].all gm.isn=true) (hx:qcf (gm.isx w) [c]=some b):evE C (.isX [c] (.var 0)) (some (.v (.exc w fs))::env) S=.ok (.v (.bl b),S):=by
 simp only [evE,hC,if_pos hn,List.getElem?_cons_zero,b_ok,hx]
theorem qnL {w:Str} (hw:w∈clsL) (fs:List (Str × P)) (S:qaa) (d:Nat):callF T gm (d + 1) "_law_classes" [.v (.exc w fs)] S=.ok (.v (.lst [.str w]),S):=by
 have hX:∀ (c:Str),c∈clsL→∀ env S,evE ⟨callF T gm d,gm,false⟩ (.isX [c] (.var 0)) (some (.v (.exc w fs))::env) S=.ok (.v (.bl (decide (w=c))),S):=fun c hc env S=>
  qqb rfl (List.all_eq_true.mp qlf c hc) (of_decide_eq_true (List.all_eq_true.mp (List.all_eq_true.mp qkG w hw) c hc))
 have h0:=hX "BadName" (by decide +kernel)
 have h1:=hX "NameInUse" (by decide +kernel)
 have h2:=hX "UnknownKind" (by decide +kernel)
 have h3:=hX "UnknownColumn" (by decide +kernel)
 have h4:=hX "BadRule" (by decide +kernel)
 have h5:=hX "UnknownCheck" (by decide +kernel)
 have h6:=hX "UnlikeBooks" (by decide +kernel)
 have h7:=hX "BadNumber" (by decide +kernel)
 have h8:=hX "Taken" (by decide +kernel)
 have h9:=hX "Used" (by decide +kernel)
 have h10:=hX "NoRow" (by decide +kernel)
 have h11:=hX "OwnOwner" (by decide +kernel)
 have h12:=hX "Refused" (by decide +kernel)
 have h13:=hX "NotOpen" (by decide +kernel)
 have h14:=hX "Busy" (by decide +kernel)
 have h15:=hX "Idle" (by decide +kernel)
 have h16:=hX "BadPiece" (by decide +kernel)
 have h17:=hX "BadList" (by decide +kernel)
 have h18:=hX "NoFit" (by decide +kernel)
 have h19:=hX "BadQuestion" (by decide +kernel)
 have h20:=hX "BadDeed" (by decide +kernel)
 have h21:=hX "BadWeaving" (by decide +kernel)
 have h22:=hX "NothingToUndo" (by decide +kernel)
 have h23:=hX "NothingToRedo" (by decide +kernel)
 have h24:=hX "BadLine" (by decide +kernel)
 refine qfE (qcI (show T "_law_classes"=some (.fn 4 1 [] qaW false) from rfl) rfl ?_)
 simp [qaW,qaM,qfn,h0,h1,h2,h3,h4,h5,h6,h7,h8,h9,h10,h11,h12,h13,h14,h15,h16,h17,h18,h19,h20,h21,h22,h23,h24]
 rw [lc_p (S:=S) (ps:=clsL.map fun c=>.tup [.str c,.bl (decide (w=c))]) clsL (fun c=>.tup [.str c,.bl (decide (w=c))]) (fun c=>decide (w=c)) (fun c=>.str c) (by simp [h24,qfn,clsL]) rfl (by decide) (fun y hy R=>⟨_,rfl,rfl,fun _=>rfl⟩)]
 rw [of_decide_eq_true (List.all_eq_true.mp qlu w hw)]
 simp [qbG]
def rw1 (w:Str) (fl:List Str) (args:List P):P:=.tup [.str w,.lst (fl.map .str),.exc w (fl.zip args).reverse,.exc w (fl.zip args).reverse]
def qfk (a b:P):List P:=[rw1 "BadName" ["name"] [a],rw1 "NameInUse" ["name"] [a],rw1 "UnknownKind" ["kind"] [a],rw1 "UnknownColumn" ["column"] [a],rw1 "BadRule" ["rule"] [a],rw1 "UnknownCheck" ["check"] [a],rw1 "UnlikeBooks" [] [],rw1 "BadNumber" ["number"] [a],rw1 "Taken" ["kind","number"] [a,b],rw1 "Used" ["kind","number"] [a,b],rw1 "NoRow" ["kind","number"] [a,b],rw1 "OwnOwner" ["column"] [a],rw1 "Refused" ["check"] [a]]
def qfW (a:P):List P:=[rw1 "NotOpen" ["kind"] [a],rw1 "Busy" ["hand"] [a],rw1 "Idle" ["hand"] [a],rw1 "BadPiece" ["piece"] [a],rw1 "BadList" ["numbers"] [a],rw1 "NoFit" ["number"] [a],rw1 "BadQuestion" ["question"] [a],rw1 "BadDeed" [] [],rw1 "BadWeaving" ["index"] [a],rw1 "NothingToUndo" [] [],rw1 "NothingToRedo" [] [],rw1 "BadLine" ["index"] [a]]
theorem qlk (a b:P) (S:qaa) (d:Nat):exS ⟨callF T gm d,gm,false⟩ qav [some (.v a),some (.v b)] S=.ret (.v (.lst (qfk a b))) S:=by rfl
theorem qlQ (a:P) (S:qaa) (d:Nat):exS ⟨callF T gm d,gm,false⟩ qau [some (.v a)] S=.ret (.v (.lst (qfW a))) S:=by rfl
theorem qjq (a b:P) (S:qaa) (d:Nat):callF T gm (d + 1) "_law_first_half" [.v a,.v b] S=.ok (.v (.lst (qfk a b)),S):=by
 refine qfE (qcI (show T "_law_first_half"=some (.fn 2 2 [] qav false) from rfl) rfl ?_)
 show WS (exS ⟨callF T gm d,gm,false⟩ qav [some (.v a),some (.v b)] S) _
 rw [qlk]
 simp [qbG]
theorem qje (a:P) (S:qaa) (d:Nat):callF T gm (d + 1) "_law_other_half" [.v a] S=.ok (.v (.lst (qfW a)),S):=by
 refine qfE (qcI (show T "_law_other_half"=some (.fn 1 1 [] qau false) from rfl) rfl ?_)
 show WS (exS ⟨callF T gm d,gm,false⟩ qau [some (.v a)] S) _
 rw [qlQ]
 simp [qbG]
theorem qjg {d:Nat} {S:qaa} {p:P} {n w:Nat} (h:RB p n w) (hn:n≤64) (hw:w≤20000):callF T gm (d + 1) "_law_same" [.v p,.v p] S=.ok (.v (.bl true),S):=by
 obtain ⟨r,hr⟩:=qja h hn hw
 refine qfE (qcI (show T "_law_same"=some (.fn 2 2 [] qbg false) from rfl) rfl ?_)
 simp [qbg,qaM,bfOp,hr]
theorem qaG {c:Str} {fs:List (Str × P)} {fl:List Str} {args:List P} {s:Sm} {d:Nat} (h:exS ⟨callF T gm d,gm,false⟩ qaS [some (.v (.exc c fs)),some (.v (.lst (fl.map .str))),none] (s.cells [])=.ret (.c 2) (s.cells [.lst (args.map .v)])) :
  callF T gm (d + 1) "_law_fields" [.v (.exc c fs),.v (.lst (fl.map .str))] (s.cells [])=.ok (.v (.lst args),s.cells []):=by
 refine qfE (qcI (show T "_law_fields"=some (.fn 3 2 [] qaS false) from rfl) rfl ?_)
 show WS (exS ⟨callF T gm d,gm,false⟩ qaS [some (.v (.exc c fs)),some (.v (.lst (fl.map .str))),none] (s.cells [])) _
 rw [h]
 simp [qbG,Sm.cells,Cell.view]
structure Row (a b:P) (s:Sm) (x:P):Prop where
 ex:∃ (w:Str) (fl:List Str),x=rw1 w fl ([a,b].take fl.length)∧w∈clsL∧fl.length≤2∧∀ d,callF T gm (d + 1) "_law_fields" [.v (.exc w (fl.zip ([a,b].take fl.length)).reverse),.v (.lst (fl.map .str))] (s.cells [])=.ok (.v (.lst ([a,b].take fl.length)),s.cells [])
theorem qmc (a b:P) (s:Sm):∀ x∈qfk a b++qfW a,Row a b s x:=by
 intro x hx
 simp only [qfk,qfW,List.cons_append,List.nil_append,List.mem_cons,List.not_mem_nil,or_false] at hx
 rcases hx with rfl | rfl | rfl | rfl | rfl | rfl | rfl | rfl | rfl | rfl | rfl | rfl | rfl | rfl | rfl | rfl | rfl | rfl | rfl | rfl | rfl | rfl | rfl | rfl | rfl
 ·exact ⟨"BadName",["name"],rfl,by decide +kernel,by decide,fun d=>qaG (args:=[a]) rfl⟩
 ·exact ⟨"NameInUse",["name"],rfl,by decide +kernel,by decide,fun d=>qaG (args:=[a]) rfl⟩
 ·exact ⟨"UnknownKind",["kind"],rfl,by decide +kernel,by decide,fun d=>qaG (args:=[a]) rfl⟩
 ·exact ⟨"UnknownColumn",["column"],rfl,by decide +kernel,by decide,fun d=>qaG (args:=[a]) rfl⟩
 ·exact ⟨"BadRule",["rule"],rfl,by decide +kernel,by decide,fun d=>qaG (args:=[a]) rfl⟩
 ·exact ⟨"UnknownCheck",["check"],rfl,by decide +kernel,by decide,fun d=>qaG (args:=[a]) rfl⟩
 ·exact ⟨"UnlikeBooks",[],rfl,by decide +kernel,by decide,fun d=>qaG (args:=[]) rfl⟩
 ·exact ⟨"BadNumber",["number"],rfl,by decide +kernel,by decide,fun d=>qaG (args:=[a]) rfl⟩
 ·exact ⟨"Taken",["kind","number"],rfl,by decide +kernel,by decide,fun d=>qaG (args:=[a,b]) rfl⟩
 ·exact ⟨"Used",["kind","number"],rfl,by decide +kernel,by decide,fun d=>qaG (args:=[a,b]) rfl⟩
 ·exact ⟨"NoRow",["kind","number"],rfl,by decide +kernel,by decide,fun d=>qaG (args:=[a,b]) rfl⟩
 ·exact ⟨"OwnOwner",["column"],rfl,by decide +kernel,by decide,fun d=>qaG (args:=[a]) rfl⟩
 ·exact ⟨"Refused",["check"],rfl,by decide +kernel,by decide,fun d=>qaG (args:=[a]) rfl⟩
 ·exact ⟨"NotOpen",["kind"],rfl,by decide +kernel,by decide,fun d=>qaG (args:=[a]) rfl⟩
 ·exact ⟨"Busy",["hand"],rfl,by decide +kernel,by decide,fun d=>qaG (args:=[a]) rfl⟩
 ·exact ⟨"Idle",["hand"],rfl,by decide +kernel,by decide,fun d=>qaG (args:=[a]) rfl⟩
 ·exact ⟨"BadPiece",["piece"],rfl,by decide +kernel,by decide,fun d=>qaG (args:=[a]) rfl⟩
 ·exact ⟨"BadList",["numbers"],rfl,by decide +kernel,by decide,fun d=>qaG (args:=[a]) rfl⟩
 ·exact ⟨"NoFit",["number"],rfl,by decide +kernel,by decide,fun d=>qaG (args:=[a]) rfl⟩
 ·exact ⟨"BadQuestion",["question"],rfl,by decide +kernel,by decide,fun d=>qaG (args:=[a]) rfl⟩
 ·exact ⟨"BadDeed",[],rfl,by decide +kernel,by decide,fun d=>qaG (args:=[]) rfl⟩
 ·exact ⟨"BadWeaving",["index"],rfl,by decide +kernel,by decide,fun d=>qaG (args:=[a]) rfl⟩
 ·exact ⟨"NothingToUndo",[],rfl,by decide +kernel,by decide,fun d=>qaG (args:=[]) rfl⟩
 ·exact ⟨"NothingToRedo",[],rfl,by decide +kernel,by decide,fun d=>qaG (args:=[]) rfl⟩
 ·exact ⟨"BadLine",["index"],rfl,by decide +kernel,by decide,fun d=>qaG (args:=[a]) rfl⟩
end LS
namespace LS
open PySem L2
theorem qjd:(clsL.all fun w=>decide (qcf (gm.isx w) ["StrikeError"]=some true))=true:=by decide +kernel
theorem qno:(clsL.all fun w=>(gm.exc w).isSome && (gm.isx w w).isSome)=true:=by decide +kernel
theorem qh3 {ns:List Int}:(qaL (.lst (ns.map fun i=>.v (.int i))) []).bind (fun a=>qaL (.lst [a.1,.v (.int 0),.v (.int 0),.v (.int 0)]) a.2)=.ok (.c 1,Sm.cells ⟨ns,0,0,0⟩ []):=by
 have h:Cell.lows 0 (.lst (ns.map fun i=>.v (.int i)))=true:=qg2 ns 0
 simp only [qaL,List.length_nil]
 rw [if_pos h]
 rfl
theorem qo9 {C:Cn} (hC:C.g=gm) {o0 o1 o2 o3 o4 o5 o6 o7:Option W} {S:qaa} {w c:Str} {fs:List (Str × P)} {b:Bool} (hn:[c].all gm.isn=true) (hx:qcf (gm.isx w) [c]=some b):evE C (.isX [c] (.var 8)) [o0,o1,o2,o3,o4,o5,o6,o7,some (.v (.exc w fs))] S=.ok (.v (.bl b),S):=by
 simp only [evE,hC,if_pos hn,List.getElem?_cons_succ,List.getElem?_cons_zero,b_ok,hx]
theorem qmO {C:Cn} (hC:C.g=gm) {o0 o1 o2 o3 o4 o5 o6 o7:Option W} {S:qaa} {w:Str} {fs:List (Str × P)} (hx:((gm.exc w).isSome && (gm.isx w w).isSome)=true):evE C (.isVE (.var 8)) [o0,o1,o2,o3,o4,o5,o6,o7,some (.v (.exc w fs))] S=.ok (.v (.bl true),S):=by
 rw [Bool.and_eq_true] at hx
 obtain ⟨x1,h1⟩:=Option.isSome_iff_exists.mp hx.1
 obtain ⟨x2,h2⟩:=Option.isSome_iff_exists.mp hx.2
 simp only [evE,hC,List.getElem?_cons_succ,List.getElem?_cons_zero,b_ok,h1,h2]
theorem qg8 (d:Nat) {s:Sm} {B:Int} (hs:s.ok B) (hB:B + 100 < 1000000):∃ (s':Sm) (p:P),callF T gm (d + 3) "_law_thing" [.c 1] (s.cells [])=.ok (.v p,s'.cells [])∧s'.ok (B + 20)∧Th p:=by
 obtain ⟨⟨w,S⟩,h1,s',p,h2,h3,h4⟩:=qiE (qjn (d:=d) (Q:=fun z=>∃ (s':Sm) (p:P),s'.ok (B + 20)∧Th p∧z=(.v p,s'.cells [])) hs hB fun s' p a b=>⟨s',p,a,b,rfl⟩)
 cases h4
 exact ⟨s',p,h1,h2,h3⟩
theorem ne_x:(clsL.all fun w=>decide (cmpP .ne (.lst [.str w]) (.lst [.str w])=some false))=true:=by decide +kernel
theorem k01_law (ns:List Int) (hns:ns.length≤63):∃ S,callF T gm 40 "law" [.v (.scr ns)] []=.ok (.v (.bl true),S):=by
 suffices hw:WX (callF T gm 40 "law" [.v (.scr ns)] []) (fun q=>q.1=.v (.bl true)) fun _ _ _=>False by
  obtain ⟨⟨a,S⟩,h1,h2⟩:=qiE hw
  cases h2
  exact ⟨S,h1⟩
 refine qjG (d:=39) (show T "law"=some (.fnK 9 1 [] f_law) from rfl) rfl ?_
 simp [-List.map_map,f_law,qaM,qjX,qfn,show gm.fn "_law_thing"=true from rfl,show gm.fn "_law_first_half"=true from rfl,show gm.fn "_law_other_half"=true from rfl,show gm.fn "_law_classes"=true from rfl,show gm.fn "_law_same"=true from rfl,show gm.fn "_law_fields"=true from rfl]
 simp only [qh3]
 obtain ⟨s1,a,e1,hs1,ha⟩:=qg8 36 (s:=⟨ns,0,0,0⟩) (B:=0) ⟨by simp,by simp,by simp,by simp,by simp⟩ (by omega)
 obtain ⟨s,b,e2,hs,hb⟩:=qg8 36 (s:=s1) (B:=0 + 20) hs1 (by omega)
 have f1:=fun S=>qjq a b S 38
 have f2:=fun S=>qje a S 38
 generalize hF:qfk a b=fL at f1
 generalize hO:qfW a=oL at f2
 have hl:fL.length + oL.length=25:=by rw [← hF,← hO];rfl
 have e1:callF T gm 39 "_law_thing" [.c 1] (Sm.cells ⟨ns,0,0,0⟩ [])=.ok (.v a,s1.cells []):=e1
 have e2:callF T gm 39 "_law_thing" [.c 1] (s1.cells [])=.ok (.v b,s.cells []):=e2
 have f1:∀ S,callF T gm 39 "_law_first_half" [.v a,.v b] S=.ok (.v (.lst fL),S):=f1
 have f2:∀ S,callF T gm 39 "_law_other_half" [.v a] S=.ok (.v (.lst oL),S):=f2
 have hadd:∀ S,qaP .add (.v (.lst fL)) (.v (.lst oL)) S=.ok (.v (.lst (fL++oL)),S):=fun S=>qji (by rw [hl,qfn];decide)
 simp [-List.map_map,-List.map_append,e1,e2,parK,f1,f2,hadd]
 rw [show qaT [some (W.v (P.scr ns)),some (W.c 1),none,none,none,none,none,none,none] [2,3] [W.v a,W.v b]=some [some (W.v (P.scr ns)),some (W.c 1),some (.v a),some (.v b),none,none,none,none,none] from rfl]
 simp [-List.map_map,-List.map_append,f1,f2,hadd]
 have hrow:∀ x∈fL++oL,Row a b s x:=by rw [← hF,← hO];exact qmc a b s
 generalize fL++oL=xs at hrow
 rw [qnS]
 refine qih (fun ys env S=>S=s.cells []∧(∃ ps:List P,ys=ps.map .v∧∀ x∈ps,Row a b s x)∧∃ o4 o5 o6 o7 o8:Option W,env=[some (W.v (P.scr ns)),some (W.c 1),some (.v a),some (.v b),o4,o5,o6,o7,o8]) ?_ ?_ ⟨rfl,⟨xs,rfl,hrow⟩,_,_,_,_,_,rfl⟩
 ·rintro x ys env S ⟨rfl,⟨ps,hps,hr⟩,o4,o5,o6,o7,o8,rfl⟩
  cases ps with
  | nil=>cases hps
  | cons p ps=>
   cases hps
   obtain ⟨w,fl,rfl,hw,hfl,hfld⟩:=(hr p List.mem_cons_self).ex
   refine ⟨_,rfl,?_⟩
   generalize hargs:[a,b].take fl.length=args at hfld
   have hall:∀ q∈args,RB q 2 1000:=fun q hq=>by
    rw [← hargs] at hq
    have:=List.mem_of_mem_take hq
    simp at this
    rcases this with rfl | rfl
    ·exact ha
    ·exact hb
   have hal:args.length≤2:=by rw [← hargs];simp;omega
   have hsame:=fun S=>qjg (d:=38) (S:=S) ((qmy hall).mono (Nat.le_refl _) (Nat.mul_le_mul_right _ hal)) (by decide) (by decide)
   have hcls:=fun fs S=>qnL hw fs S 38
   have hstr:=of_decide_eq_true (List.all_eq_true.mp qjd w hw)
   have hself:=List.all_eq_true.mp qno w hw
   have hfd:callF T gm 39 "_law_fields" [.v (.exc w (fl.zip args).reverse),.v (.lst (fl.map .str))] (s.cells [])=.ok (.v (.lst args),s.cells []):=hfld 38
   have hcl:∀ fs S,callF T gm 39 "_law_classes" [.v (.exc w fs)] S=.ok (.v (.lst [.str w]),S):=hcls
   have hsm:∀ S,callF T gm 39 "_law_same" [.v (.lst args),.v (.lst args)] S=.ok (.v (.bl true),S):=hsame
   have hX:∀ (o0 o1 o2 o3 o4 o5 o6 o7:Option W) (S:qaa) (fs:List (Str × P)),evE ⟨callF T gm 39,gm,true⟩ (.isX ["StrikeError"] (.var 8)) [o0,o1,o2,o3,o4,o5,o6,o7,some (.v (.exc w fs))] S=.ok (.v (.bl true),S):=fun _ _ _ _ _ _ _ _ _ _=>qo9 rfl rfl hstr
   have hV:∀ (o0 o1 o2 o3 o4 o5 o6 o7:Option W) (S:qaa) (fs:List (Str × P)),evE ⟨callF T gm 39,gm,true⟩ (.isVE (.var 8)) [o0,o1,o2,o3,o4,o5,o6,o7,some (.v (.exc w fs))] S=.ok (.v (.bl true),S):=fun _ _ _ _ _ _ _ _ _ _=>qmO rfl hself
   have hcut:cutL [a,b] none (some (fl.length:Int))=args:=by
    rw [← hargs]
    rcases fl with _ | ⟨f,_ | ⟨f',_ | ⟨f'',fl⟩⟩⟩
    ·rfl
    ·rfl
    ·rfl
    ·simp at hfl
   have hne:∀ S,qaH .ne (.v (.lst [.str w])) (.v (.lst [.str w])) S=.ok (.v (.bl false),S):=fun S=>by
    have:=of_decide_eq_true (List.all_eq_true.mp ne_x w hw)
    simp only [qaH,W.view,this,ok1]
   simp [-List.map_map,qfn,hne,hX,hV,hcl,hfd,hsm,hcut,show gm.fn "_law_classes"=true from rfl,show gm.fn "_law_same"=true from rfl,show gm.fn "_law_fields"=true from rfl]
   exact ⟨ps,rfl,fun x hx=>hr x (List.mem_cons_of_mem _ hx)⟩
 ·rintro env S ⟨rfl,_,o4,o5,o6,o7,o8,rfl⟩
  simp
end LS
set_option maxRecDepth 100000 in
set_option maxHeartbeats 8000000 in
theorem PySem.Challenge.cw_longstrike_k01_errors_made_holds : PySem.Challenge.rw_longstrike_k01_errors_made.Holds :=
 LS.walk LS.k01_law
