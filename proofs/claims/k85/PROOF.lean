import PyProof.Rows.All
import Wide.All
import OpenK.AllK
import Wide.FinOn
import HandS.ForMost
import HandS.ForExc
import HandS.Property
import HandS.MakeKw
import HandS.MakeKwOnly
import HandS.WideBits
import HandS.IsInst
import HandS.OwnEq
import HandS.Flow
import HandS.ExcCtx
import HandS.ExcInit
import HandS.HotCalls
import HandS.SuiteRaise
import HandS.RaiseFrom
import HandS.ExcInitHot
import HandS.Lambda
import HandS.Style
import HandS.Head0
import HandS.Head1
import HandS.Head2
import HandS.HeadEnd
import HandS.HeadHook1
import HandS.HeadHook2
import HandS.HeadHook3
import HandS.HeadHook4
import KE.KStateDown
import HandS.HeadNt
import HandS.ClsMeth
import HandS.Star
import HandS.FStr
import HandS.CallLocal
import HandS.RaiseMore
import HandS.Iter
import KE.GoesEnum
import KE.KCallOwn
import KE.KExcInit
import HandS.ExcIs
import HandS.ExcField
import HandS.Dict
import HandS.EndTab
import KE.KOpsOwn
import HandS.Deep
import HandS.Set
import HandS.SetFor
import HandS.More
import HandS.Strs
import HandS.Text
import HandS.Wide
import OpenK.KMeth
import OpenK.KOps
import PyProof.WalksMore
import HandS.Zip
import HandS.DictComp
import HandS.SetBool
import HandS.TupLe
import HandS.TryOnly
import PyProof.Raises
import PySem.Challenge.RW_ringvotes_k85_whole_nets_with_a_pipe_shr
import PyProof.EqAt
import HandS.Conv
import KE.KDictZip
import HandS.TupAny
import HandS.MethStar
import KE.GoesEnumKw
import HandS.Nested
import KE.KItemsList
import HandS.ListItems
import KE.KSortTupG
import HandS.TupSets
import HandS.Small
import HandS.TupMul
import PyProof.Rows.Range3
import PyProof.StrBlock2
import KE.KAssignIn
import HandS.SortInts
set_option Elab.async false
set_option linter.all false
set_option maxRecDepth 100000
set_option maxHeartbeats 0
noncomputable section
section
namespace RV
open PySem PySem.Spec PyProof.Rows L2 He
inductive D where
  | non
  | bl (b:Bool)
  | int (i:Int)
  | str (s:Str)
  | ty (n:String)
  | adr (a:Addr)
  | cell (k:Nat)
  | scr (ns:List Int)
  | tup (ds:List D)
  | lst (ds:List D)
  | obj (C:Addr) (fs:List (Str×D))
  | dic (kvs:List (Key×D))
  | exc (C:Addr) (fs:List (Str×D))
  | exv (a C d:Addr) (fs:List (Str×D))
  | ptu (ds:List D)
  | clo (f:Addr) (o:HO) (c:Addr) (o2:HO) (cs:List D) (vs:List V)
inductive Cell where
  | lst (ds:List D)
  | dic (kvs:List (Key×D))
  | ob (C:Addr) (fs:List (Str×D))
  | tab (P:Addr) (q:Str)
  | hid
abbrev WS:=List Cell
abbrev Xq:=D->WS->Prop
abbrev M:=WS->(D->WS->Prop)->Xq->Prop
def Holds (k:Nat) (ds:List D) (S:WS):Prop:=S[k]? =some (.lst ds)
def kindB (K:PySem.W.Frag) (C:Addr):Bool:=eqO (PySem.W.findIn K (.ref C) "__class__") (some (some (.builtin "object.__class__"))) && (eqO (PySem.W.specialIn K (.builtin "object.__class__") "__get__") (some (some (.builtin "getset_descriptor.__get__"))) &&
  (decide (PySem.W.takesIn K (.builtin "object.__class__")=some true) && decide (PySem.W.mroIn K C (.type "object")=some true)))
def pG (K:PySem.W.Frag) (C:Addr) (f:Str):Bool:=eqO (PySem.W.findIn K (.ref C) f) (some (some (.ref (ma K C f)))) && (eqO (PySem.W.specialIn K (.ref (ma K C f)) "__get__") (some (some (.builtin "property.__get__"))) &&
  (decide (PySem.W.takesIn K (.ref (ma K C f))=some true) && (match PySem.W.recIn K (ma K C f) "property" with
    | some (.ref g :: _)=>decide (g=He5.wf K C "property" f)
    | _=>false)))
def NB (ts us:List Value) (sub:Value->Value->Bool) (t u:Value):Option Bool:=if t∈ts∧u∈us then some (sub t u) else none
def WC (K:PySem.W.Frag) (ts us:List Value) (sub:Value->Value->Bool):Bool:=ts.all λt=>us.all λu=>decide (PySem.W.kitOne K t u=some (sub t u))
def MQ (K:PySem.W.Frag) (C:Addr) (m:Str):Bool:=eqO (PySem.W.findIn K (.ref C) m) (some (some (.ref (ma K C m)))) && PySem.W.isFn K (.ref (ma K C m))
def Sa (K:PySem.W.Frag) (C:Addr):Bool:=PySem.W.readsIn K C (.type "type") && eqO (PySem.W.specialIn K (.ref C) "__getattribute__") (some (some (.builtin "type.__getattribute__")))
def Sh (K:PySem.W.Frag) (C:Addr) (m:Str):Bool:=He5.wrapB K C "classmethod" "classmethod.__get__" m && PySem.W.fnIn K (He5.wf K C "classmethod" m)
structure Ad where
  c:String->Addr
  here:List String
  t:String->Addr:=λ_=>0
structure RH (A:Ad) (cs:List String):Prop where
  here:A.here=cs
  nd:(cs.map A.c).Nodup
def kinds (A:Ad):List Value:=[.type "NoneType",.type "bool",.type "int",.type "str",.type "tuple",.type "list",.type "dict"]++A.here.map λn=>.ref (A.c n)
def clss (A:Ad):List Value:=[.type "bool",.type "int",.type "str",.type "tuple",.type "list",.type "dict"]++A.here.map λn=>.ref (A.c n)
def sub (_:Ad) (t u:Value):Bool:=decide (t=u) || (decide (t=.type "bool") && decide (u=.type "int"))
def tab (A:Ad):Value->Value->Option Bool:=NB (kinds A) (clss A) (sub A)
def Rq:List Addr->Nat->Nat×List Addr
  | [],s=>(s,[])
  | a :: r,s=>match Nat.beq (Nat.land (Nat.shiftRight s a) 1) 0 with
    | true=>match Rq r (Nat.lor s (Nat.shiftLeft 1 a)) with
      | (s',l)=>(s',a :: l)
    | false=>Rq r s
def XR (g:Addr->Option Obj) (fr:List Addr):List Addr:=fr.flatMap λa=>match g a with
  | some o=>He.refsD o
  | none=>[]
def V4 (g:Addr->Option Obj):Nat->List Addr->Nat->List Addr
  | 0,_,_=>[]
  | n+1,fr,s=>match Rq (XR g fr) s with
    | (s',fr')=>fr'++V4 g n fr' s'
def lG (g:Addr->Option Obj) (n:Nat):List Addr:=mainGlobals :: (V4 g n [mainGlobals] (Nat.shiftLeft 1 mainGlobals)++[PySem.cStatics])
def Sn (n:Nat) (fa:List He.Fa) (fn:List He5.DefA) (ex:PySem.W.Frag->Bool):PySem.W.Hook where
  α:=He.AlD×Bool
  obs:=λs=>(He5.obsA fa fn (He.frG s.heap.get? (lG s.heap.get? n)),ex (He.frG s.heap.get? (lG s.heap.get? n)))
  val:=λ_=>(He5.valA fn,true)
  says:=λ_ h=>∃ K:PySem.W.Frag,K.In h∧He5.SaysA fa fn K∧ex K=true
  of:=λ_ _ e=>⟨_,He.frG_in,congrArg Prod.fst e,congrArg Prod.snd e⟩
  keeps:=λ_ _ _ ⟨K,hK,c⟩ k=>⟨K,PySem.W.Frag.In.keeps hK k,c⟩
def Ye (n:Nat) (fa:List He.Fa) (fn:List He5.DefA) (ex:PySem.W.Frag->Bool) (g:Addr->Option Obj):He.AlD×Bool:=(He5.obsA fa fn (He.frG g (lG g n)),ex (He.frG g (lG g n)))
theorem U3 {n:Nat} {fa:List He.Fa} {fn:List He5.DefA} {ex:PySem.W.Frag->Bool} {g:Addr->Option Obj} {s:Shared} (h:∀ a,g a=s.heap.get? a):Ye n fa fn ex g=(Sn n fa fn ex).obs s:=by
  have e:g=s.heap.get? :=funext h
  rw [e] <;> rfl
def BN (K:PySem.W.Frag) (C:Addr) (m:Str):Bool:=He.eqO (PySem.W.findIn K (.ref C) m) (some (some (.ref (He.ma K C m)))) && (PySem.W.isFn K (.ref (He.ma K C m)) && PySem.W.keepIn K (.ref (He.ma K C m)))
end RV
namespace K85
open PySem L2 RV
def top (i:Nat):Stmt:=PySem.Challenge.pw_ringvotes_k85_whole_nets_with_a_pipe_shr.main.body.getD i (.Pass ⟨0,0,0,0⟩)
abbrev iu:Stmt:=top 70
abbrev jg:Stmt:=top 71
abbrev fZ:Stmt:=top 72
abbrev f_:Stmt:=top 73
abbrev cK:Stmt:=top 76
abbrev dD:Stmt:=top 77
abbrev gi:Stmt:=top 78
abbrev jD:Stmt:=top 33
abbrev fq:Stmt:=top 36
abbrev gk:Stmt:=inClass (top 39) 0
abbrev fc:Stmt:=inClass (top 40) 0
abbrev jt:Stmt:=top 44
abbrev gp:Stmt:=inClass (top 39) 1
abbrev dX:Stmt:=top 41
abbrev fF:Stmt:=inClass (top 40) 1
abbrev iB:Stmt:=inClass (top 40) 2
abbrev dJ:Stmt:=top 42
abbrev ir:Stmt:=inClass (top 45) 0
abbrev e8:Stmt:=inClass (top 39) 2
abbrev iJ:Stmt:=inClass (top 39) 3
abbrev dI:Stmt:=inClass (top 40) 3
abbrev jq:Stmt:=top 43
abbrev jj:Stmt:=inClass (top 45) 16
abbrev iL:Stmt:=inClass (top 45) 1
abbrev iI:Stmt:=top 74
abbrev gb:Stmt:=top 46
abbrev e9:Stmt:=inClass (top 45) 3
abbrev dZ:Stmt:=top 57
abbrev f7:Stmt:=inClass (top 45) 2
abbrev e_:Stmt:=inClass (top 45) 4
abbrev iH:Stmt:=inClass (top 45) 5
abbrev fC:Stmt:=top 18
abbrev j3:Stmt:=top 19
abbrev iG:Stmt:=top 20
abbrev d8:Stmt:=top 17
abbrev f9:Stmt:=top 21
abbrev fj:Stmt:=top 22
abbrev jy:Stmt:=inClass (top 45) 15
abbrev fB:Stmt:=top 32
abbrev ig:Stmt:=top 49
abbrev fk:Stmt:=top 51
abbrev dc:Stmt:=inClass (top 45) 9
abbrev fh:Stmt:=top 50
abbrev d9:Stmt:=top 52
abbrev iK:Stmt:=top 56
abbrev dF:Stmt:=top 58
abbrev cY:Stmt:=top 54
abbrev jk:Stmt:=top 59
abbrev dz:Stmt:=top 60
abbrev dg:Stmt:=top 61
abbrev iF:Stmt:=inClass (top 45) 7
abbrev gj:Stmt:=inClass (top 45) 8
abbrev fH:Stmt:=top 47
abbrev c_:Stmt:=inClass (top 45) 10
abbrev dM:Stmt:=inClass (top 45) 11
abbrev cJ:Stmt:=top 63
abbrev k8:Stmt:=top 23
abbrev gm:Stmt:=top 24
abbrev bY:Stmt:=top 64
abbrev d_:Stmt:=top 65
abbrev iD:Stmt:=top 67
abbrev fu:Stmt:=top 75
abbrev iz:Stmt:=top 34
abbrev fG:Stmt:=top 35
abbrev dO:Stmt:=top 37
abbrev kX:Stmt:=top 66
abbrev iw:Stmt:=top 68
abbrev gc:Stmt:=top 79
abbrev jB:Stmt:=top 80
def ad (K:PySem.W.Frag):Ad:=⟨λn=>He.ga K (PySem.Str.ofString n),["Pipe","Meter","Net"],λ_=>0⟩
def yJ:He5.DefA:=⟨λK=>He.ga K "_law_well","_law_well","_law_well",defArgs iu,defBody iu,defScope iu,[],[]⟩
def Ao:He5.DefA:=⟨λK=>He.ga K "_law_dip","_law_dip","_law_dip",defArgs jg,defBody jg,defScope jg,[],[]⟩
def wK:He5.DefA:=⟨λK=>He.ga K "_law_names","_law_names","_law_names",defArgs fZ,defBody fZ,defScope fZ,[],[]⟩
def vQ:He5.DefA:=⟨λK=>He.ga K "_law_model","_law_model","_law_model",defArgs f_,defBody f_,defScope f_,[],[]⟩
def n6:He5.DefA:=⟨λK=>He.ga K "_law_shrinkable","_law_shrinkable","_law_shrinkable",defArgs cK,defBody cK,defScope cK,[],[]⟩
def qd:He5.DefA:=⟨λK=>He.ga K "_law_shuffled","_law_shuffled","_law_shuffled",defArgs dD,defBody dD,defScope dD,[],[]⟩
def wj:He5.DefA:=⟨λK=>He.ga K "_law_other","_law_other","_law_other",defArgs gi,defBody gi,defScope gi,[],[]⟩
def A4:He5.DefA:=⟨λK=>He.ga K "is_name","is_name","is_name",defArgs jD,defBody jD,defScope jD,[],[]⟩
def uS:He5.DefA:=⟨λK=>He.ga K "check_name","check_name","check_name",defArgs fq,defBody fq,defScope fq,[],[]⟩
def wg:He5.DefA:=⟨λK=>He.ma K (He.ga K "Pipe") "__init__","__init__","Pipe.__init__",defArgs gk,defBody gk,defScope gk,[],[]⟩
def uh:He5.DefA:=⟨λK=>He.ma K (He.ga K "Meter") "__init__","__init__","Meter.__init__",defArgs fc,defBody fc,defScope fc,[],[("sealed",.bl false)]⟩
def Bp:He5.DefA:=⟨λK=>He.ga K "item_of","item_of","item_of",defArgs jt,defBody jt,defScope jt,[],[]⟩
def wL:He5.DefA:=⟨λK=>He5.wf K (He.ga K "Pipe") "property" "name","name","Pipe.name",defArgs gp,defBody gp,defScope gp,[],[]⟩
def rZ:He5.DefA:=⟨λK=>He.ga K "check_pipes","check_pipes","check_pipes",defArgs dX,defBody dX,defScope dX,[],[]⟩
def tE:He5.DefA:=⟨λK=>He5.wf K (He.ga K "Meter") "property" "name","name","Meter.name",defArgs fF,defBody fF,defScope fF,[],[]⟩
def yO:He5.DefA:=⟨λK=>He5.wf K (He.ga K "Meter") "property" "at","at","Meter.at",defArgs iB,defBody iB,defScope iB,[],[]⟩
def qE:He5.DefA:=⟨λK=>He.ga K "check_meters","check_meters","check_meters",defArgs dJ,defBody dJ,defScope dJ,[],[]⟩
def yL:He5.DefA:=⟨λK=>He.ma K (He.ga K "Net") "__init__","__init__","Net.__init__",defArgs ir,defBody ir,defScope ir,[.adr (He.dflAt ("Net",some "__init__") 0)],[]⟩
def uQ:He5.DefA:=⟨λK=>He5.wf K (He.ga K "Pipe") "property" "start","start","Pipe.start",defArgs e8,defBody e8,defScope e8,[],[]⟩
def yd:He5.DefA:=⟨λK=>He5.wf K (He.ga K "Pipe") "property" "end","end","Pipe.end",defArgs iJ,defBody iJ,defScope iJ,[],[]⟩
def qu:He5.DefA:=⟨λK=>He5.wf K (He.ga K "Meter") "property" "sealed","sealed","Meter.sealed",defArgs dI,defBody dI,defScope dI,[],[]⟩
def AX:He5.DefA:=⟨λK=>He.ga K "line_of","line_of","line_of",defArgs jq,defBody jq,defScope jq,[],[]⟩
def Av:He5.DefA:=⟨λK=>He.ma K (He.ga K "Net") "__str__","__str__","Net.__str__",defArgs jj,defBody jj,defScope jj,[],[]⟩
def yh:He5.DefA:=⟨λK=>He5.wf K (He.ga K "Net") "classmethod" "read","read","Net.read",defArgs iL,defBody iL,defScope iL,[],[]⟩
def yz:He5.DefA:=⟨λK=>He.ga K "_law_text","_law_text","_law_text",defArgs iI,defBody iI,defScope iI,[],[]⟩
def we:He5.DefA:=⟨λK=>He.ga K "check_net","check_net","check_net",defArgs gb,defBody gb,defScope gb,[],[]⟩
def tW:He5.DefA:=⟨λK=>He5.wf K (He.ga K "Net") "property" "meters","meters","Net.meters",defArgs e9,defBody e9,defScope e9,[],[]⟩
def rL:He5.DefA:=⟨λK=>He.ga K "check_names","check_names","check_names",defArgs dZ,defBody dZ,defScope dZ,[],[]⟩
def wm:He5.DefA:=⟨λK=>He5.wf K (He.ga K "Net") "property" "pipes","pipes","Net.pipes",defArgs f7,defBody f7,defScope f7,[],[]⟩
def uK:He5.DefA:=⟨λK=>He5.wf K (He.ga K "Net") "property" "places","places","Net.places",defArgs e_,defBody e_,defScope e_,[],[]⟩
def yo:He5.DefA:=⟨λK=>He5.wf K (He.ga K "Net") "property" "ends","ends","Net.ends",defArgs iH,defBody iH,defScope iH,[],[]⟩
def uW:He5.DefA:=⟨λK=>He.ga K "components","components","components",defArgs fC,defBody fC,defScope fC,[],[]⟩
def Dk:He5.DefA:=⟨λK=>He.ga K "forest","forest","forest",defArgs j3,defBody j3,defScope j3,[],[]⟩
def yu:He5.DefA:=⟨λK=>He.ga K "sent_out","sent_out","sent_out",defArgs iG,defBody iG,defScope iG,[],[]⟩
def rV:He5.DefA:=⟨λK=>He.ga K "is_balanced","is_balanced","is_balanced",defArgs d8,defBody d8,defScope d8,[],[]⟩
def wc:He5.DefA:=⟨λK=>He.ga K "completed","completed","completed",defArgs f9,defBody f9,defScope f9,[],[]⟩
def tM:He5.DefA:=⟨λK=>He.ga K "ring_flows","ring_flows","ring_flows",defArgs fj,defBody fj,defScope fj,[],[]⟩
def Ag:He5.DefA:=⟨λK=>He.ma K (He.ga K "Net") "__len__","__len__","Net.__len__",defArgs jy,defBody jy,defScope jy,[],[]⟩
def tV:He5.DefA:=⟨λK=>He.ga K "is_integer","is_integer","is_integer",defArgs fB,defBody fB,defScope fB,[],[]⟩
def xV:He5.DefA:=⟨λK=>He.ga K "has_flow","has_flow","has_flow",defArgs ig,defBody ig,defScope ig,[],[]⟩
def uR:He5.DefA:=⟨λK=>He.ga K "check_flow","check_flow","check_flow",defArgs fk,defBody fk,defScope fk,[],[]⟩
def pN:He5.DefA:=⟨λK=>He.ma K (He.ga K "Net") "number_of","number_of","Net.number_of",defArgs dc,defBody dc,defScope dc,[],[]⟩
def uA:He5.DefA:=⟨λK=>He.ga K "shown_with","shown_with","shown_with",defArgs fh,defBody fh,defScope fh,[],[]⟩
def rS:He5.DefA:=⟨λK=>He.ga K "readings_of","readings_of","readings_of",defArgs d9,defBody d9,defScope d9,[],[]⟩
def xX:He5.DefA:=⟨λK=>He.ga K "by_names","by_names","by_names",defArgs iK,defBody iK,defScope iK,[],[]⟩
def pZ:He5.DefA:=⟨λK=>He.ga K "carried_over","carried_over","carried_over",defArgs dF,defBody dF,defScope dF,[],[]⟩
def pI:He5.DefA:=⟨λK=>He.ga K "known_numbers","known_numbers","known_numbers",defArgs cY,defBody cY,defScope cY,[],[]⟩
def zW:He5.DefA:=⟨λK=>He.ga K "partner","partner","partner",defArgs jk,defBody jk,defScope jk,[],[]⟩
def qo:He5.DefA:=⟨λK=>He.ga K "parting_flow","parting_flow","parting_flow",defArgs dz,defBody dz,defScope dz,[],[]⟩
def oV:He5.DefA:=⟨λK=>He.ga K "same_readings","same_readings","same_readings",defArgs dg,defBody dg,defScope dg,[],[]⟩
def yV:He5.DefA:=⟨λK=>He.ma K (He.ga K "Net") "pipe","pipe","Net.pipe",defArgs iF,defBody iF,defScope iF,[],[]⟩
def wJ:He5.DefA:=⟨λK=>He.ma K (He.ga K "Net") "meter","meter","Net.meter",defArgs gj,defBody gj,defScope gj,[],[]⟩
def tS:He5.DefA:=⟨λK=>He.ga K "check_pipe","check_pipe","check_pipe",defArgs fH,defBody fH,defScope fH,[],[]⟩
def pM:He5.DefA:=⟨λK=>He.ma K (He.ga K "Net") "meters_at","meters_at","Net.meters_at",defArgs c_,defBody c_,defScope c_,[],[]⟩
def qh:He5.DefA:=⟨λK=>He.ma K (He.ga K "Net") "has_seal","has_seal","Net.has_seal",defArgs dM,defBody dM,defScope dM,[],[]⟩
def nW:He5.DefA:=⟨λK=>He.ga K "lengths_beside","lengths_beside","lengths_beside",defArgs cJ,defBody cJ,defScope cJ,[],[]⟩
def GC:He5.DefA:=⟨λK=>He.ga K "lower","lower","lower",defArgs k8,defBody k8,defScope k8,[],[]⟩
def wH:He5.DefA:=⟨λK=>He.ga K "distances","distances","distances",defArgs gm,defBody gm,defScope gm,[],[]⟩
def mJ:He5.DefA:=⟨λK=>He.ga K "distances_beside","distances_beside","distances_beside",defArgs bY,defBody bY,defScope bY,[],[]⟩
def rE:He5.DefA:=⟨λK=>He.ga K "strength_of","strength_of","strength_of",defArgs d_,defBody d_,defScope d_,[],[]⟩
def yQ:He5.DefA:=⟨λK=>He.ga K "strength","strength","strength",defArgs iD,defBody iD,defScope iD,[],[]⟩
def tD:He5.DefA:=⟨λK=>He.ga K "_law_faults","_law_faults","_law_faults",defArgs fu,defBody fu,defScope fu,[],[]⟩
def yC:He5.DefA:=⟨λK=>He.ga K "is_small","is_small","is_small",defArgs iz,defBody iz,defScope iz,[],[]⟩
def uz:He5.DefA:=⟨λK=>He.ga K "are_faults","are_faults","are_faults",defArgs fG,defBody fG,defScope fG,[],[]⟩
def pV:He5.DefA:=⟨λK=>He.ga K "check_faults","check_faults","check_faults",defArgs dO,defBody dO,defScope dO,[],[]⟩
def Gj:He5.DefA:=⟨λK=>He.ga K "tells","tells","tells",defArgs kX,defBody kX,defScope kX,[],[]⟩
def yS:He5.DefA:=⟨λK=>He.ga K "can_tell","can_tell","can_tell",defArgs iw,defBody iw,defScope iw,[],[]⟩
def wM:He5.DefA:=⟨λK=>He.ga K "_law_right","_law_right","_law_right",defArgs gc,defBody gc,defScope gc,[],[]⟩
def AG:He5.DefA:=⟨λK=>He.ga K "law","law","law",defArgs jB,defBody jB,defScope jB,[],[]⟩
def fn:List He5.DefA:=[yJ,Ao,wK,vQ,n6,qd,wj,A4,uS,wg,uh,Bp,wL,rZ,tE,yO,qE,yL,uQ,yd,qu,AX,Av,yh,yz,we,tW,rL,wm,uK,yo,uW,Dk,yu,rV,wc,tM,Ag,tV,xV,uR,pN,uA,rS,xX,pZ,pI,zW,qo,oV,yV,wJ,tS,pM,qh,nW,GC,wH,mJ,rE,yQ,tD,yC,uz,pV,Gj,yS,wM,AG]
def fa:List He.Fa:=[.glo "_law_well",.glo "_law_dip",.glo "_law_names",.glo "_law_model",.glo "_law_shrinkable",.glo "_law_shuffled",.glo "_law_other",.glo "is_name",.glo "check_name",.glo "item_of",.glo "check_pipes",.glo "check_meters",.glo "line_of",.glo "_law_text",.glo "check_net",.glo "check_names",.glo "components",.glo "forest",.glo "sent_out",.glo "is_balanced",.glo "completed",.glo "ring_flows",.glo "is_integer",.glo "has_flow",.glo "check_flow",.glo "shown_with",.glo "readings_of",.glo "by_names",.glo "carried_over",.glo "known_numbers",.glo "partner",.glo "parting_flow",.glo "same_readings",.glo "check_pipe",.glo "lengths_beside",.glo "lower",.glo "distances",.glo "distances_beside",.glo "strength_of",.glo "strength",.glo "_law_faults",.glo "is_small",.glo "are_faults",.glo "check_faults",.glo "tells",.glo "can_tell",.glo "_law_right",.glo "law",.glo "Pipe",.cls "Pipe",.mkr "Pipe",.glo "Meter",.cls "Meter",.mkr "Meter",.glo "Net",.cls "Net",.mkr "Net",.noat "Meter" "kept",.noat "Net" "fitted",.noat "Net" "joined",.noat "Pipe" "kept",.free "abs",.free "all",.free "any",.free "bool",.free "divmod",.free "enumerate",.free "int",.free "isinstance",.free "len",.free "list",.free "max",.free "min",.free "range",.free "repr",.free "sorted",.free "str",.free "sum",.free "tuple",.free "zip",.str "DIGITS" "0123456789",.str "LETTERS" "abcdefghijklmnopqrstuvwxyz",.int "LONGEST_NAME" 8,.int "MOST_FAULTS" 3,.int "MOST_METERS" 12,.int "MOST_PIPES" 12]
def exs:List (PySem.W.Frag->Bool):=[λK=>kindB K (He.ga K "Pipe"),λK=>pG K (He.ga K "Pipe") "name",λK=>pG K (He.ga K "Pipe") "start",λK=>pG K (He.ga K "Pipe") "end",λK=>kindB K (He.ga K "Meter"),λK=>pG K (He.ga K "Meter") "name",λK=>pG K (He.ga K "Meter") "at",λK=>pG K (He.ga K "Meter") "sealed",λK=>kindB K (He.ga K "Net"),λK=>Sa K (He.ga K "Net"),λK=>Sh K (He.ga K "Net") "read",λK=>pG K (He.ga K "Net") "pipes",λK=>pG K (He.ga K "Net") "meters",λK=>pG K (He.ga K "Net") "places",λK=>pG K (He.ga K "Net") "ends",λK=>BN K (He.ga K "Net") "pipe",λK=>BN K (He.ga K "Net") "meter",λK=>BN K (He.ga K "Net") "number_of",λK=>BN K (He.ga K "Net") "meters_at",λK=>BN K (He.ga K "Net") "has_seal",λK=>MQ K (He.ga K "Net") "__len__",λK=>MQ K (He.ga K "Net") "__str__",λK=>decide (([He.ga K "Pipe",He.ga K "Meter",He.ga K "Net"]:List Addr).Nodup),λK=>decide (([He.ga K "Pipe",He.ga K "Meter",He.ga K "Net"]:List Addr).Nodup),λK=>WC K (kinds (ad K)) (clss (ad K)) (sub (ad K))]
def GR (K:PySem.W.Frag):Bool:=exs.all λf=>f K
theorem eT {K:PySem.W.Frag} (h:GR K=true) (i:Nat) {f:PySem.W.Frag->Bool} (e:exs[i]? =some f):f K=true:=List.all_eq_true.mp h f (List.mem_of_getElem? e)
theorem XN {K:PySem.W.Frag} (h:GR K=true):RH (ad K) ["Pipe","Meter","Net"]:=⟨rfl,of_decide_eq_true (p:=(([He.ga K "Pipe",He.ga K "Meter",He.ga K "Net"]:List Addr).Nodup)) (eT h 23 rfl)⟩
abbrev R:PySem.W.OpenRow:=PySem.W.OpenLaw.row PySem.Challenge.rw_ringvotes_k85_whole_nets_with_a_pipe_shr
abbrev hk:PySem.W.Hook:=Sn 5 fa fn GR
def ob (s:PySem.W.SharedT):He.AlD×Bool:=Ye 5 fa fn GR (HandSHeadRun.getT s)
theorem Xy (s:PySem.W.SharedT):ob s=hk.obs s.abs:=U3 (HandSHeadRun.getT_eq s)
def loose:List PySem.Str:=[("_wall":PySem.Str),("BadValue":PySem.Str),("BadName":PySem.Str),("InvalidName":PySem.Str),("InvalidEnd":PySem.Str),("InvalidFlag":PySem.Str),("InvalidText":PySem.Str),("InvalidFaults":PySem.Str),("InvalidFlow":PySem.Str),("NotAMeter":PySem.Str),("NotANet":PySem.Str),("InvalidPipes":PySem.Str),("InvalidMeters":PySem.Str),("UnknownName":PySem.Str),("OtherMeters":PySem.Str),("is_balanced":PySem.Str),("components":PySem.Str),("forest":PySem.Str),("sent_out":PySem.Str),("completed":PySem.Str),("ring_flows":PySem.Str),("lower":PySem.Str),("distances":PySem.Str),("MOST_PIPES":PySem.Str),("MOST_METERS":PySem.Str),("MOST_FAULTS":PySem.Str),("LETTERS":PySem.Str),("DIGITS":PySem.Str),("LONGEST_NAME":PySem.Str),("is_integer":PySem.Str),("is_name":PySem.Str),("is_small":PySem.Str),("are_faults":PySem.Str),("check_name":PySem.Str),("check_faults":PySem.Str),("Pipe":PySem.Str),("Meter":PySem.Str),("check_pipes":PySem.Str),("check_meters":PySem.Str),("line_of":PySem.Str),("item_of":PySem.Str),("Net":PySem.Str),("check_net":PySem.Str),("check_pipe":PySem.Str),("has_flow":PySem.Str),("shown_with":PySem.Str),("check_flow":PySem.Str),("readings_of":PySem.Str),("known_numbers":PySem.Str),("by_names":PySem.Str),("check_names":PySem.Str),("carried_over":PySem.Str),("partner":PySem.Str),("parting_flow":PySem.Str),("same_readings":PySem.Str),("lengths_beside":PySem.Str),("distances_beside":PySem.Str),("strength_of":PySem.Str),("tells":PySem.Str),("strength":PySem.Str),("can_tell":PySem.Str),("_law_well":PySem.Str),("_law_dip":PySem.Str),("_law_names":PySem.Str),("_law_model":PySem.Str),("_law_text":PySem.Str),("_law_faults":PySem.Str),("_law_shrinkable":PySem.Str),("_law_shuffled":PySem.Str),("_law_other":PySem.Str),("_law_right":PySem.Str)]
section
open PySem.W PyProof.Rows
abbrev Ed (w:World) (os:OsState):Option PySem.W.SharedT:=HandSHeadRun.endF (HandSHeadRun.stepQ (HandSHeadRun.denQ HandSHeadRun.tabQ) R.prog w) 40000 R.prog w os
theorem Xj (w:World):∀ os:OsState,(Ed w os).map (λs=>((HandSHeadRun.looksF R.prog (boot_heap w.params) s.abs),(HandSHeadRun.seenQ (PySem.W.view R.prog [80]) loose (importedModules R.prog.main.body) (λs=>xlAt (PySem.W.view R.prog [80]) [] s && recOk R.toRowW.records s) s.abs)))=some (((true),(openGood (PySem.W.view R.prog [80]) loose))):=by
  intro os
  kernel_rfl
theorem XI (w:World):∀ os:OsState,(Ed w os).map (λs=>((He5.obsA fa [] (He.frG (HandSHeadRun.getT s) (lG (HandSHeadRun.getT s) 5))),((He5.obsA [] ((fn.drop 0).take 17) (He.frG (HandSHeadRun.getT s) (lG (HandSHeadRun.getT s) 5))),((He5.obsA [] ((fn.drop 17).take 17) (He.frG (HandSHeadRun.getT s) (lG (HandSHeadRun.getT s) 5))),((He5.obsA [] ((fn.drop 34).take 17) (He.frG (HandSHeadRun.getT s) (lG (HandSHeadRun.getT s) 5))),(He5.obsA [] ((fn.drop 51).take 99949) (He.frG (HandSHeadRun.getT s) (lG (HandSHeadRun.getT s) 5))))))))=some (((He5.valA []),((He5.valA ((fn.drop 0).take 17)),((He5.valA ((fn.drop 17).take 17)),((He5.valA ((fn.drop 34).take 17)),(He5.valA ((fn.drop 51).take 99949))))))):=by
  intro os
  kernel_rfl
theorem X3 (w:World):∀ os:OsState,(Ed w os).map (λs=>((((exs.drop 0).take 5).all λf=>f (He.frG (HandSHeadRun.getT s) (lG (HandSHeadRun.getT s) 5))),((((exs.drop 5).take 5).all λf=>f (He.frG (HandSHeadRun.getT s) (lG (HandSHeadRun.getT s) 5))),((((exs.drop 10).take 5).all λf=>f (He.frG (HandSHeadRun.getT s) (lG (HandSHeadRun.getT s) 5))),((((exs.drop 15).take 5).all λf=>f (He.frG (HandSHeadRun.getT s) (lG (HandSHeadRun.getT s) 5))),(((exs.drop 20).take 5).all λf=>f (He.frG (HandSHeadRun.getT s) (lG (HandSHeadRun.getT s) 5))))))))=some (((true),((true),((true),((true),(true)))))):=by
  intro os
  kernel_rfl
theorem BO {fa:List He.Fa} {f1 f2:List He5.DefA} {K:PySem.W.Frag} (h1:He5.obsA fa f1 K=He5.valA f1) (h2:He5.obsA [] f2 K=He5.valA f2):He5.obsA fa (f1++f2) K=He5.valA (f1++f2):=by
  simp only [He5.obsA,He5.valA,Prod.mk.injEq,Bool.and_eq_true,List.all_append,List.map_append,List.all_nil,true_and] at *
  exact ⟨⟨h1.1.1,h1.1.2,h2.1⟩,by rw [h1.2,h2.2]⟩
theorem Pg (K:PySem.W.Frag):GR K=(((exs.drop 0).take 5).all (λf=>f K) && ((exs.drop 5).take 5).all (λf=>f K) && ((exs.drop 10).take 5).all (λf=>f K) && ((exs.drop 15).take 5).all (λf=>f K) && ((exs.drop 20).take 5).all (λf=>f K)):=by
  have e:exs=(exs.drop 0).take 5++(exs.drop 5).take 5++(exs.drop 10).take 5++(exs.drop 15).take 5++(exs.drop 20).take 5:=by rfl
  unfold GR
  conv=>lhs; rw [e]
  simp only [List.all_append]
theorem run (w:World):HandSHeadRun.RunEq R (PySem.W.view R.prog [80]) hk ob 40000 loose w:=by
  intro os
  have hG0:=Xj w os
  have hG1:=XI w os
  have hG2:=X3 w os
  show (Ed w os).map _=_
  cases e:Ed w os with
  | none=>rw [e] at hG0; cases hG0
  | some s=>
    rw [e,Option.map_some,Option.some.injEq] at hG0
    have hrunL:(HandSHeadRun.looksF R.prog (boot_heap w.params) s.abs)=(true):=(Prod.mk.inj hG0).1
    have hrunS:(HandSHeadRun.seenQ (PySem.W.view R.prog [80]) loose (importedModules R.prog.main.body) (λs=>xlAt (PySem.W.view R.prog [80]) [] s && recOk R.toRowW.records s) s.abs)=(openGood (PySem.W.view R.prog [80]) loose):=(Prod.mk.inj hG0).2
    rw [e,Option.map_some,Option.some.injEq] at hG1
    have hrunA:(He5.obsA fa [] (He.frG (HandSHeadRun.getT s) (lG (HandSHeadRun.getT s) 5)))=(He5.valA []):=(Prod.mk.inj hG1).1
    have hrunA0:(He5.obsA [] ((fn.drop 0).take 17) (He.frG (HandSHeadRun.getT s) (lG (HandSHeadRun.getT s) 5)))=(He5.valA ((fn.drop 0).take 17)):=(Prod.mk.inj (Prod.mk.inj hG1).2).1
    have hrunA1:(He5.obsA [] ((fn.drop 17).take 17) (He.frG (HandSHeadRun.getT s) (lG (HandSHeadRun.getT s) 5)))=(He5.valA ((fn.drop 17).take 17)):=(Prod.mk.inj (Prod.mk.inj (Prod.mk.inj hG1).2).2).1
    have hrunA2:(He5.obsA [] ((fn.drop 34).take 17) (He.frG (HandSHeadRun.getT s) (lG (HandSHeadRun.getT s) 5)))=(He5.valA ((fn.drop 34).take 17)):=(Prod.mk.inj (Prod.mk.inj (Prod.mk.inj (Prod.mk.inj hG1).2).2).2).1
    have hrunA3:(He5.obsA [] ((fn.drop 51).take 99949) (He.frG (HandSHeadRun.getT s) (lG (HandSHeadRun.getT s) 5)))=(He5.valA ((fn.drop 51).take 99949)):=(Prod.mk.inj (Prod.mk.inj (Prod.mk.inj (Prod.mk.inj hG1).2).2).2).2
    rw [e,Option.map_some,Option.some.injEq] at hG2
    have hrunX0:(((exs.drop 0).take 5).all λf=>f (He.frG (HandSHeadRun.getT s) (lG (HandSHeadRun.getT s) 5)))=(true):=(Prod.mk.inj hG2).1
    have hrunX1:(((exs.drop 5).take 5).all λf=>f (He.frG (HandSHeadRun.getT s) (lG (HandSHeadRun.getT s) 5)))=(true):=(Prod.mk.inj (Prod.mk.inj hG2).2).1
    have hrunX2:(((exs.drop 10).take 5).all λf=>f (He.frG (HandSHeadRun.getT s) (lG (HandSHeadRun.getT s) 5)))=(true):=(Prod.mk.inj (Prod.mk.inj (Prod.mk.inj hG2).2).2).1
    have hrunX3:(((exs.drop 15).take 5).all λf=>f (He.frG (HandSHeadRun.getT s) (lG (HandSHeadRun.getT s) 5)))=(true):=(Prod.mk.inj (Prod.mk.inj (Prod.mk.inj (Prod.mk.inj hG2).2).2).2).1
    have hrunX4:(((exs.drop 20).take 5).all λf=>f (He.frG (HandSHeadRun.getT s) (lG (HandSHeadRun.getT s) 5)))=(true):=(Prod.mk.inj (Prod.mk.inj (Prod.mk.inj (Prod.mk.inj hG2).2).2).2).2
    have hobs:He5.obsA fa fn (He.frG (HandSHeadRun.getT s) (lG (HandSHeadRun.getT s) 5))=He5.valA fn:=(BO (BO (BO (BO hrunA hrunA0) hrunA1) hrunA2) hrunA3)
    rw [Option.map_some]
    refine congrArg some (Prod.ext hrunL (Prod.ext hrunS (Prod.ext hobs ?_)))
    show GR (He.frG (HandSHeadRun.getT s) (lG (HandSHeadRun.getT s) 5))=true
    rw [Pg,hrunX0,hrunX1,hrunX2,hrunX3,hrunX4]
    try rfl
end
open PySem PySem.W PySem.Calls PyProof.Rows in
theorem front (hc:WalkO (view (OpenLaw.row PySem.Challenge.rw_ringvotes_k85_whole_nets_with_a_pipe_shr).prog [80]) [("_wall":PySem.Str),("BadValue":PySem.Str),("BadName":PySem.Str),("InvalidName":PySem.Str),("InvalidEnd":PySem.Str),("InvalidFlag":PySem.Str),("InvalidText":PySem.Str),("InvalidFaults":PySem.Str),("InvalidFlow":PySem.Str),("NotAMeter":PySem.Str),("NotANet":PySem.Str),("InvalidPipes":PySem.Str),("InvalidMeters":PySem.Str),("UnknownName":PySem.Str),("OtherMeters":PySem.Str),("is_balanced":PySem.Str),("components":PySem.Str),("forest":PySem.Str),("sent_out":PySem.Str),("completed":PySem.Str),("ring_flows":PySem.Str),("lower":PySem.Str),("distances":PySem.Str),("MOST_PIPES":PySem.Str),("MOST_METERS":PySem.Str),("MOST_FAULTS":PySem.Str),("LETTERS":PySem.Str),("DIGITS":PySem.Str),("LONGEST_NAME":PySem.Str),("is_integer":PySem.Str),("is_name":PySem.Str),("is_small":PySem.Str),("are_faults":PySem.Str),("check_name":PySem.Str),("check_faults":PySem.Str),("Pipe":PySem.Str),("Meter":PySem.Str),("check_pipes":PySem.Str),("check_meters":PySem.Str),("line_of":PySem.Str),("item_of":PySem.Str),("Net":PySem.Str),("check_net":PySem.Str),("check_pipe":PySem.Str),("has_flow":PySem.Str),("shown_with":PySem.Str),("check_flow":PySem.Str),("readings_of":PySem.Str),("known_numbers":PySem.Str),("by_names":PySem.Str),("check_names":PySem.Str),("carried_over":PySem.Str),("partner":PySem.Str),("parting_flow":PySem.Str),("same_readings":PySem.Str),("lengths_beside":PySem.Str),("distances_beside":PySem.Str),("strength_of":PySem.Str),("tells":PySem.Str),("strength":PySem.Str),("can_tell":PySem.Str),("_law_well":PySem.Str),("_law_dip":PySem.Str),("_law_names":PySem.Str),("_law_model":PySem.Str),("_law_text":PySem.Str),("_law_faults":PySem.Str),("_law_shrinkable":PySem.Str),("_law_shuffled":PySem.Str),("_law_other":PySem.Str),("_law_right":PySem.Str)] (XL (view (OpenLaw.row PySem.Challenge.rw_ringvotes_k85_whole_nets_with_a_pipe_shr).prog [80]) []) K85.hk.says (OpenLaw.row PySem.Challenge.rw_ringvotes_k85_whole_nets_with_a_pipe_shr).toRowW (HandSHeadRun.topDef (OpenLaw.row PySem.Challenge.rw_ringvotes_k85_whole_nets_with_a_pipe_shr).prog 80) [] λf vs=>PySem.call f vs):PySem.Challenge.rw_ringvotes_k85_whole_nets_with_a_pipe_shr.Holds:=by
  w_on; o_law
  refine HandSHeadRun.head_any (r:=OpenLaw.row PySem.Challenge.rw_ringvotes_k85_whole_nets_with_a_pipe_shr) (q:=view (OpenLaw.row PySem.Challenge.rw_ringvotes_k85_whole_nets_with_a_pipe_shr).prog [80]) (H:=K85.hk) (ob:=K85.ob) (M:=40000) (loose:=[("_wall":PySem.Str),("BadValue":PySem.Str),("BadName":PySem.Str),("InvalidName":PySem.Str),("InvalidEnd":PySem.Str),("InvalidFlag":PySem.Str),("InvalidText":PySem.Str),("InvalidFaults":PySem.Str),("InvalidFlow":PySem.Str),("NotAMeter":PySem.Str),("NotANet":PySem.Str),("InvalidPipes":PySem.Str),("InvalidMeters":PySem.Str),("UnknownName":PySem.Str),("OtherMeters":PySem.Str),("is_balanced":PySem.Str),("components":PySem.Str),("forest":PySem.Str),("sent_out":PySem.Str),("completed":PySem.Str),("ring_flows":PySem.Str),("lower":PySem.Str),("distances":PySem.Str),("MOST_PIPES":PySem.Str),("MOST_METERS":PySem.Str),("MOST_FAULTS":PySem.Str),("LETTERS":PySem.Str),("DIGITS":PySem.Str),("LONGEST_NAME":PySem.Str),("is_integer":PySem.Str),("is_name":PySem.Str),("is_small":PySem.Str),("are_faults":PySem.Str),("check_name":PySem.Str),("check_faults":PySem.Str),("Pipe":PySem.Str),("Meter":PySem.Str),("check_pipes":PySem.Str),("check_meters":PySem.Str),("line_of":PySem.Str),("item_of":PySem.Str),("Net":PySem.Str),("check_net":PySem.Str),("check_pipe":PySem.Str),("has_flow":PySem.Str),("shown_with":PySem.Str),("check_flow":PySem.Str),("readings_of":PySem.Str),("known_numbers":PySem.Str),("by_names":PySem.Str),("check_names":PySem.Str),("carried_over":PySem.Str),("partner":PySem.Str),("parting_flow":PySem.Str),("same_readings":PySem.Str),("lengths_beside":PySem.Str),("distances_beside":PySem.Str),("strength_of":PySem.Str),("tells":PySem.Str),("strength":PySem.Str),("can_tell":PySem.Str),("_law_well":PySem.Str),("_law_dip":PySem.Str),("_law_names":PySem.Str),("_law_model":PySem.Str),("_law_text":PySem.Str),("_law_faults":PySem.Str),("_law_shrinkable":PySem.Str),("_law_shuffled":PySem.Str),("_law_other":PySem.Str),("_law_right":PySem.Str)]) (d:=HandSHeadRun.topDef (OpenLaw.row PySem.Challenge.rw_ringvotes_k85_whole_nets_with_a_pipe_shr).prog 80) (kwd:=[]) K85.Xy
    (by kernel_rfl) (λs=>by kernel_rfl) K85.run (by kernel_rfl) (by kernel_rfl) (by kernel_rfl) (by rfl) (by first | assumption | decide+kernel) (by decide+kernel) ⟨rfl,rfl,rfl,rfl,rfl,by decide+kernel⟩ ?hw hc
  case hw=>w_witness2
end K85
namespace RV
open PySem L2
def OS (F:Hp) (a:Addr) (xs:List V):Prop:=∃ o:Obj,F a=some (.frz o (.tup xs))∧o.dict=none
mutual
inductive Rp (K:PySem.W.Frag) (as:List Addr) (F:Hp):D->V->Prop where
  | non:Rp K as F .non .non
  | bl (b:Bool):Rp K as F (.bl b) (.bl b)
  | int (i:Int):Rp K as F (.int i) (.int i)
  | str (s:Str):Rp K as F (.str s) (.str s)
  | ty (n:String):Rp K as F (.ty n) (.ty n)
  | adr (a:Addr):Rp K as F (.adr a) (.ref a)
  | cell {k:Nat} {a:Addr}:as[k]? =some a->Rp K as F (.cell k) (.ref a)
  | scr {a:Addr} {ns:List Int}:SqL K F a (ns.map V.int)->Rp K as F (.scr ns) (.ref a)
  | tup {a:Addr} {xs:List V} {ds:List D}:SqT K F a xs->aS K as F ds xs->Rp K as F (.tup ds) (.ref a)
  | lst {a:Addr} {xs:List V} {ds:List D}:F a=some (.lst xs)->aS K as F ds xs->Rp K as F (.lst ds) (.ref a)
  | obj {a C dx:Addr} {fs:List (Str×D)} {vfs:List (Str×V)}:F a=some (.ins C dx vfs)->jw K as F fs vfs->Rp K as F (.obj C fs) (.ref a)
  | dic {a:Addr} {kvs:List (Key×D)} {vkv:List (Key×V)}:F a=some (.dK vkv)->f6 K as F kvs vkv->Rp K as F (.dic kvs) (.ref a)
  | exv {a C d:Addr} {fs:List (Str×D)} {vfs:List (Str×V)}:F d=some (.xd vfs)->jw K as F fs vfs->Rp K as F (.exv a C d fs) (.ref a)
  | ptu {a:Addr} {xs:List V} {ds:List D}:OS F a xs->aS K as F ds xs->Rp K as F (.ptu ds) (.ref a)
  | clo {f c:Addr} {o o2:HO} {cs:List D} {vs:List V}:F f=some o->F c=some o2->aS K as F cs vs->Rp K as F (.clo f o c o2 cs vs) (.ref f)
inductive aS (K:PySem.W.Frag) (as:List Addr) (F:Hp):List D->List V->Prop where
  | nil:aS K as F [] []
  | cons {d:D} {v:V} {ds:List D} {vs:List V}:Rp K as F d v->aS K as F ds vs->aS K as F (d :: ds) (v :: vs)
inductive jw (K:PySem.W.Frag) (as:List Addr) (F:Hp):List (Str×D)->List (Str×V)->Prop where
  | nil:jw K as F [] []
  | cons {n:Str} {d:D} {v:V} {fs:List (Str×D)} {vfs:List (Str×V)}:Rp K as F d v->jw K as F fs vfs->jw K as F ((n,d) :: fs) ((n,v) :: vfs)
inductive f6 (K:PySem.W.Frag) (as:List Addr) (F:Hp):List (Key×D)->List (Key×V)->Prop where
  | nil:f6 K as F [] []
  | cons {n:Key} {d:D} {v:V} {fs:List (Key×D)} {vfs:List (Key×V)}:Rp K as F d v->f6 K as F fs vfs->f6 K as F ((n,d) :: fs) ((n,v) :: vfs)
end
def Ex (F H:Hp):Prop:=∀ a o,F a=some o->H a=some o
theorem Ex.refl (F:Hp):Ex F F:=λ_ _ h=>h
theorem Ex.trans {F G H:Hp} (a:Ex F G) (b:Ex G H):Ex F H:=λx o h=>b x o (a x o h)
theorem Ex.kT {K:PySem.W.Frag} {F H:Hp} {a:Addr} {xs:List V} (e:Ex F H) (h:SqT K F a xs):SqT K H a xs:=by
  rcases h with h | h
  · rcases h with h | ⟨o,h⟩
    · exact .inl (.inl (e a _ h))
    · exact .inl (.inr ⟨o,e a _ h⟩)
  · exact .inr h
theorem Ex.Yj {F H:Hp} {a:Addr} {xs:List V} (e:Ex F H) (h:OS F a xs):OS H a xs:=let ⟨o,h1,h2⟩:=h; ⟨o,e a _ h1,h2⟩
theorem Ex.tT {K:PySem.W.Frag} {F H:Hp} {a:Addr} {xs:List V} (e:Ex F H) (h:SqL K F a xs):SqL K H a xs:=by
  rcases h with h | h
  · rcases h with h | ⟨o,h⟩
    · exact .inl (.inl (e a _ h))
    · exact .inl (.inr ⟨o,e a _ h⟩)
  · exact .inr h
theorem Ex.new {F:Hp} {p:Addr} {o:HO} (h:F p=none):Ex F (upd F p o):=λa u q=>by
  rw [upd_ne (ne_of_none q h)]
  exact q
theorem Ex.both {F H:Hp} {p:Addr} {o:HO} (e:Ex F H):Ex (upd F p o) (upd H p o):=λa u q=>by
  by_cases h:a=p
  · subst h
    rw [upd_same] at q ⊢
    exact q
  · rw [upd_ne h] at q ⊢
    exact e a u q
def Pre (as bs:List Addr):Prop:=∀ (i:Nat) (a:Addr),as[i]? =some a->bs[i]? =some a
theorem Pre.refl (as:List Addr):Pre as as:=λ_ _ h=>h
theorem Pre.trans {as bs cs:List Addr} (a:Pre as bs) (b:Pre bs cs):Pre as cs:=λi x h=>b i x (a i x h)
section
variable {K:PySem.W.Frag} {as bs:List Addr} {F G:Hp}
mutual
theorem Rp.mono (e:Ex F G) (p:Pre as bs):∀ {d:D} {v:V},Rp K as F d v->Rp K bs G d v
  | _,_,.non=>.non
  | _,_,.bl b=>.bl b
  | _,_,.int i=>.int i
  | _,_,.str s=>.str s
  | _,_,.ty n=>.ty n
  | _,_,.adr a=>.adr a
  | _,_,.cell h=>.cell (p _ _ h)
  | _,_,.scr h=>.scr (e.tT h)
  | _,_,.tup h r=>.tup (e.kT h) (aS.mono e p r)
  | _,_,.lst h r=>.lst (e _ _ h) (aS.mono e p r)
  | _,_,.obj h r=>.obj (e _ _ h) (jw.mono e p r)
  | _,_,.dic h r=>.dic (e _ _ h) (f6.mono e p r)
  | _,_,.exv h r=>.exv (e _ _ h) (jw.mono e p r)
  | _,_,.ptu h r=>.ptu (e.Yj h) (aS.mono e p r)
  | _,_,.clo h h2 r=>.clo (e _ _ h) (e _ _ h2) (aS.mono e p r)
theorem aS.mono (e:Ex F G) (p:Pre as bs):∀ {ds:List D} {vs:List V},aS K as F ds vs->aS K bs G ds vs
  | _,_,.nil=>.nil
  | _,_,.cons h r=>.cons (Rp.mono e p h) (aS.mono e p r)
theorem jw.mono (e:Ex F G) (p:Pre as bs):∀ {fs:List (Str×D)} {vfs:List (Str×V)},jw K as F fs vfs->jw K bs G fs vfs
  | _,_,.nil=>.nil
  | _,_,.cons h r=>.cons (Rp.mono e p h) (jw.mono e p r)
theorem f6.mono (e:Ex F G) (p:Pre as bs):∀ {fs:List (Key×D)} {vfs:List (Key×V)},f6 K as F fs vfs->f6 K bs G fs vfs
  | _,_,.nil=>.nil
  | _,_,.cons h r=>.cons (Rp.mono e p h) (f6.mono e p r)
end
theorem aS.length:∀ {ds:List D} {vs:List V},aS K as F ds vs->ds.length=vs.length
  | _,_,.nil=>rfl
  | _,_,.cons _ r=>congrArg (· +1) r.length
theorem aS.append:∀ {ds es:List D} {vs ws:List V},aS K as F ds vs->aS K as F es ws->aS K as F (ds++es) (vs++ws)
  | _,_,_,_,.nil,s=>s
  | _,_,_,_,.cons h r,s=>.cons h (r.append s)
theorem aS.get:∀ {ds:List D} {vs:List V},aS K as F ds vs->∀ {i:Nat} {d:D},ds[i]? =some d->∃ v,vs[i]? =some v∧Rp K as F d v
  | _,_,.nil,i,d,h=>by simp at h
  | _,_,.cons h r,0,d,e=>by
    simp only [List.getElem?_cons_zero,Option.some.injEq] at e
    subst e
    exact ⟨_,rfl,h⟩
  | _,_,.cons h r,i+1,d,e=>by
    obtain ⟨v,q,z⟩:=r.get (i:=i) (d:=d) (by simpa using e)
    exact ⟨v,by simpa using q,z⟩
theorem aS.get':∀ {ds:List D} {vs:List V},aS K as F ds vs->∀ {i:Nat} {v:V},vs[i]? =some v->∃ d,ds[i]? =some d∧Rp K as F d v
  | _,_,.nil,i,d,h=>by simp at h
  | _,_,.cons h r,0,d,e=>by
    simp only [List.getElem?_cons_zero,Option.some.injEq] at e
    subst e
    exact ⟨_,rfl,h⟩
  | _,_,.cons h r,i+1,d,e=>by
    obtain ⟨v,q,z⟩:=r.get' (i:=i) (v:=d) (by simpa using e)
    exact ⟨v,by simpa using q,z⟩
theorem aS.set {d:D} {v:V} (h:Rp K as F d v):∀ {ds:List D} {vs:List V} (i:Nat),aS K as F ds vs->aS K as F (ds.set i d) (vs.set i v)
  | _,_,_,.nil=>.nil
  | _,_,0,.cons _ r=>.cons h r
  | _,_,i+1,.cons q r=>.cons q (aS.set h i r)
theorem aS.drop:∀ {ds:List D} {vs:List V} (n:Nat),aS K as F ds vs->aS K as F (ds.drop n) (vs.drop n)
  | _,_,0,r=>r
  | _,_,_+1,.nil=>.nil
  | _,_,n+1,.cons _ r=>aS.drop n r
theorem aS.take:∀ {ds:List D} {vs:List V} (n:Nat),aS K as F ds vs->aS K as F (ds.take n) (vs.take n)
  | _,_,0,_=>.nil
  | _,_,_+1,.nil=>.nil
  | _,_,n+1,.cons h r=>.cons h (aS.take n r)
theorem jw.look {f:Str}:∀ {fs:List (Str×D)} {vfs:List (Str×V)} {d:D},jw K as F fs vfs->fs.lookup f=some d->∃ v,vfs.lookup f=some v∧Rp K as F d v
  | _,_,d,.nil,e=>by simp at e
  | _,_,d,.cons (n:=n) h r,e=>by
    by_cases q:(f == n)=true
    · simp only [List.lookup,q] at e ⊢
      cases e
      exact ⟨_,rfl,h⟩
    · have q':(f == n)=false:=by simpa using q
      simp only [List.lookup,q'] at e ⊢
      exact r.look e
theorem jw.Ea {f:Str}:∀ {fs:List (Str×D)} {vfs:List (Str×V)},jw K as F fs vfs->fs.lookup f=none->vfs.lookup f=none
  | _,_,.nil,e=>rfl
  | _,_,.cons (n:=n) h r,e=>by
    by_cases q:(f == n)=true
    · simp only [List.lookup,q] at e
      cases e
    · have q':(f == n)=false:=by simpa using q
      simp only [List.lookup,q'] at e ⊢
      exact r.Ea e
theorem aS.dG {ds:List D} {d:D} {vs:List V} (r:aS K as F (d :: ds) vs):∃ v ws,vs=v :: ws∧Rp K as F d v∧aS K as F ds ws:=by
  cases r with
  | cons h r=>exact ⟨_,_,rfl,h,r⟩
theorem aS.dR {vs:List V} (r:aS K as F [] vs):vs=[]:=by
  cases r
  rfl
end
def Cell.Iq:Cell->Bool
  | .hid=>true
  | _=>false
def TabOk (F:Hp) (q:Str) (ps:Array Value):Prop:=TriplesOk ps.toList∧∀ (pos:Pos) (cv:Value),codeAmong pos ps.toList=some cv->∃ c,cv=.ref c∧F c=some (LamX.CodeO c q)
def ux (K:PySem.W.Frag) (F:Hp) (p:Addr):Cell->HO->Prop
  | .lst ds,.lst xs=>aS K [] F ds xs
  | .dic kvs,.dK vkv=>f6 K [] F kvs vkv
  | .ob C fs,.ins C' _ vfs=>C'=C∧jw K [] F fs vfs
  | .tab P q,.tbl ps=>p=P∧TabOk F q ps
  | .hid,_=>True
  | _,_=>False
theorem ux.mono {K:PySem.W.Frag} {F G:Hp} {p:Addr} (e:Ex F G):∀ {c:Cell} {o:HO},ux K F p c o->ux K G p c o:=by
  intro c o h
  cases c with
  | hid=>trivial
  | tab P q=>
    cases o with
    | tbl ps=>exact ⟨h.1,h.2.1,λpos cv hc=>let ⟨c,e1,e2⟩:=h.2.2 pos cv hc; ⟨c,e1,e _ _ e2⟩⟩
    | _=>exact h.elim
  | lst ds=>
    cases o with
    | lst xs=>exact aS.mono e (Pre.refl _) h
    | _=>exact h.elim
  | dic ds=>
    cases o with
    | dK xs=>exact f6.mono e (Pre.refl _) h
    | _=>exact h.elim
  | ob C fs=>
    cases o with
    | ins C' dx vfs=>exact ⟨h.1,jw.mono e (Pre.refl _) h.2⟩
    | _=>exact h.elim
structure CellAt (K:PySem.W.Frag) (F H:Hp) (p:Addr) (c:Cell):Prop where
  out:c.Iq=false->F p=none
  at_:∃ o,H p=some o∧ux K F p c o
theorem CellAt.there {K:PySem.W.Frag} {F H:Hp} {p:Addr} {c:Cell} (h:CellAt K F H p c):H p≠none:=by
  obtain ⟨o,e,_⟩:=h.at_
  rw [e]
  simp
structure bU (K:PySem.W.Frag) (as:List Addr) (F H:Hp) (S:WS):Prop where
  len:as.length=S.length
  ex:Ex F H
  nd:as.Nodup
  cell:∀ (i:Nat) (p:Addr) (c:Cell),as[i]? =some p->S[i]? =some c->CellAt K F H p c
theorem bU.at_ {K:PySem.W.Frag} {as:List Addr} {F H:Hp} {S:WS} (I:bU K as F H S) {i:Nat} {c:Cell} (h:S[i]? =some c):∃ p,as[i]? =some p∧CellAt K F H p c:=by
  have hl:i < as.length:=by
    rw [I.len]
    exact (List.getElem?_eq_some_iff.mp h).1
  exact ⟨as[i],List.getElem?_eq_getElem hl,I.cell i _ c (List.getElem?_eq_getElem hl) h⟩
theorem bU.there {K:PySem.W.Frag} {as:List Addr} {F H:Hp} {S:WS} (I:bU K as F H S) {p:Addr} (h:p∈as):H p≠none:=by
  obtain ⟨i,hi⟩:=List.getElem?_of_mem h
  have hl:i < S.length:=by
    rw [← I.len]
    exact (List.getElem?_eq_some_iff.mp hi).1
  exact (I.cell i p S[i] hi (List.getElem?_eq_getElem hl)).there
structure aW (K:PySem.W.Frag) (as:List Addr) (F H:Hp) (bs:List Addr) (F' H':Hp) (S':WS):Prop where
  sit:bU K bs F' H' S'
  pre:Pre as bs
  ex:Ex F F'
  new:∀ a,F' a≠none->F a≠none∨H a=none
  newc:∀ p∈bs,p∈as∨H p=none
  old:∀ a o,a∉as->H a=some o->H' a=some o
  there:∀ a,H a≠none->H' a≠none
section
variable {K:PySem.W.Frag} {as bs cs:List Addr} {F H F1 H1 F2 H2:Hp} {S S1 S2:WS}
theorem aW.refl (I:bU K as F H S):aW K as F H as F H S:=
  ⟨I,Pre.refl _,Ex.refl _,λ_ h=>.inl h,λ_ h=>.inl h,λ_ _ _ h=>h,λ_ h=>h⟩
theorem qR {a:Addr} (t:H a≠none->H1 a≠none) (h:H1 a=none):H a=none:=by
  cases q:H a with
  | none=>rfl
  | some o=>exact absurd h (t (by rw [q]; simp))
theorem aW.trans (a:aW K as F H bs F1 H1 S1) (b:aW K bs F1 H1 cs F2 H2 S2):aW K as F H cs F2 H2 S2 where
  sit:=b.sit
  pre:=a.pre.trans b.pre
  ex:=a.ex.trans b.ex
  new:=λx h=>by
    rcases b.new x h with h | h
    · exact a.new x h
    · exact .inr (qR (a.there x) h)
  newc:=λp h=>by
    rcases b.newc p h with h | h
    · exact a.newc p h
    · exact .inr (qR (a.there p) h)
  old :=λx o h q=>by
    have q1:=a.old x o h q
    refine b.old x o (λhx=>?_) q1
    rcases a.newc x hx with z | z
    · exact h z
    · rw [z] at q
      cases q
  there:=λx h=>b.there x (a.there x h)
theorem cD {d:D} {v:V} (g:aW K as F H bs F1 H1 S1) (r:Rp K as F d v):Rp K bs F1 d v:=r.mono g.ex g.pre
theorem bU.out {p:Addr} (I:bU K as F H S) (hp:H p=none):F p=none:=by
  cases q:F p with
  | none=>rfl
  | some u=>
    have z:=I.ex p u q
    rw [hp] at z
    cases z
theorem iO {p a:Addr} {o:HO} (h:H a≠none):upd H p o a≠none:=by
  by_cases e:a=p
  · subst e
    rw [upd_same]
    simp
  · rw [upd_ne e]
    exact h
theorem bU.grow {p:Addr} {o:HO} (I:bU K as F H S) (hp:H p=none):aW K as F H as (upd F p o) (upd H p o) S:=by
  have fp:F p=none:=I.out hp
  have np:∀ q∈as,q≠p:=λq hq e=>I.there (e ▸ hq) hp
  refine ⟨⟨I.len,I.ex.both,I.nd,λi q c h1 h2=>?_⟩,Pre.refl _,Ex.new fp,λa h=>?_,λ_ h=>.inl h,λa u _ h=>?_,λa h=>iO h⟩
  · obtain ⟨z1,ob,z2,z3⟩:=I.cell i q c h1 h2
    have nq:q≠p:=np q (List.mem_of_getElem? h1)
    exact ⟨λh=>by rw [upd_ne nq]; exact z1 h,ob,by rw [upd_ne nq]; exact z2,z3.mono (Ex.new fp)⟩
  · by_cases e:a=p
    · subst e
      exact .inr hp
    · rw [upd_ne e] at h
      exact .inl h
  · rw [upd_ne (ne_of_none h hp)]
    exact h
theorem bU.other {p:Addr} {o:HO} (I:bU K as F H S) (hf:F p=none) (ha:p∉as):bU K as F (upd H p o) S:=by
  refine ⟨I.len,λa u h=>?_,I.nd,λi q c h1 h2=>?_⟩
  · have np:a≠p:=λz=>by rw [z,hf] at h; cases h
    rw [upd_ne np]
    exact I.ex a u h
  · obtain ⟨z1,ob,z2,z3⟩:=I.cell i q c h1 h2
    have nq:q≠p:=λz=>ha (z ▸ List.mem_of_getElem? h1)
    exact ⟨z1,ob,by rw [upd_ne nq]; exact z2,z3⟩
theorem bU.freeze {p:Addr} {o:HO} (I:bU K as F H S) (hf:F p=none) (ha:p∉as) (hp:H p=some o):bU K as (upd F p o) H S:=by
  refine ⟨I.len,λa u h=>?_,I.nd,λi q c h1 h2=>?_⟩
  · by_cases e2:a=p
    · subst e2
      rw [upd_same] at h
      cases h
      exact hp
    · rw [upd_ne e2] at h
      exact I.ex a u h
  · obtain ⟨z1,ob,z2,z3⟩:=I.cell i q c h1 h2
    have nq:q≠p:=λz=>ha (z ▸ List.mem_of_getElem? h1)
    exact ⟨λh=>by rw [upd_ne nq]; exact z1 h,ob,z2,z3.mono (Ex.new hf)⟩
end
abbrev Env:=List (Option D)
abbrev MB:=WS->(Bool->WS->Prop)->Xq->Prop
abbrev ML:=WS->(List D->WS->Prop)->Xq->Prop
structure Kt where
  nx:Env->WS->Prop
  rt:D->WS->Prop
  bk:Env->WS->Prop
  ct:Env->WS->Prop
  ex:D->Env->WS->Prop
abbrev MS:=WS->Kt->Prop
structure fT (K:PySem.W.Frag) (as:List Addr) (F:Hp) (ρ:Env) (σ:L2.St):Prop where
  len:ρ.length=σ.length
  at_:∀ (i:Nat) (d:D),ρ[i]? =some (some d)->∃ v,σ[i]? =some (some v)∧Rp K as F d v
theorem fT.mono {K:PySem.W.Frag} {as bs:List Addr} {F G:Hp} {ρ:Env} {σ:L2.St} (r:fT K as F ρ σ) (e:Ex F G) (p:Pre as bs):fT K bs G ρ σ:=
  ⟨r.len,λi d h=>let ⟨v,h1,h2⟩:=r.at_ i d h; ⟨v,h1,h2.mono e p⟩⟩
theorem fT.grow {K:PySem.W.Frag} {as bs:List Addr} {F H F1 H1:Hp} {S1:WS} {ρ:Env} {σ:L2.St} (r:fT K as F ρ σ) (g:aW K as F H bs F1 H1 S1):fT K bs F1 ρ σ:=r.mono g.ex g.pre
theorem fT.set {K:PySem.W.Frag} {as:List Addr} {F:Hp} {ρ:Env} {σ:L2.St} {i:Nat} {d:D} {v:V} (r:fT K as F ρ σ) (h:Rp K as F d v):fT K as F (ρ.set i (some d)) (σ.set i (some v)):=by
  refine ⟨by rw [List.length_set,List.length_set]; exact r.len,λj e q=>?_⟩
  by_cases hj:i=j
  · subst hj
    have hl:i < ρ.length:=by
      have:=(List.getElem?_eq_some_iff.mp q).1
      rwa [List.length_set] at this
    rw [List.getElem?_set_self hl] at q
    cases q
    exact ⟨v,List.getElem?_set_self (by rw [← r.len]; exact hl),h⟩
  · rw [List.getElem?_set_ne hj] at q ⊢
    exact r.at_ j e q
def Lh (K:PySem.W.Frag) (as:List Addr) (F:Hp) (e:D) (cls:Value) (dd:Option Addr):Prop:=∃ (C d:Addr) (fs:List (Str×D)) (vfs:List (Str×V)),e=.exc C fs∧cls=.ref C∧dd=some d∧F d=some (.xd vfs)∧jw K as F fs vfs
theorem Lh.mono {K:PySem.W.Frag} {as bs:List Addr} {F G:Hp} {e:D} {cls:Value} {dd:Option Addr} (x:Ex F G) (p:Pre as bs) (r:Lh K as F e cls dd):Lh K bs G e cls dd:=by
  obtain ⟨C,d,fs,vfs,e1,e2,e3,e4,e5⟩:=r
  exact ⟨C,d,fs,vfs,e1,e2,e3,x _ _ e4,e5.mono x p⟩
def NQ (K:PySem.W.Frag) (as:List Addr) (F H:Hp) (q:D->WS->Prop) (Q:VK):Prop:=∀ d S' bs F' H' v,q d S'->aW K as F H bs F' H' S'->Rp K bs F' d v->Q v H'
def XQ (K:PySem.W.Frag) (as:List Addr) (F H:Hp) (x:Xq) (E:XK):Prop:=∀ e S' bs F' H' cls dd,x e S'->aW K as F H bs F' H' S'->Lh K bs F' e cls dd->E cls dd H'
section
variable {K:PySem.W.Frag} {as bs:List Addr} {F H F1 H1:Hp} {S1:WS} {q:D->WS->Prop} {Q:VK} {x:Xq} {E:XK}
theorem NQ.step (h:NQ K as F H q Q) (g:aW K as F H bs F1 H1 S1):NQ K bs F1 H1 q Q:=λd S' cs F' H' v a b c=>h d S' cs F' H' v a (g.trans b) c
theorem XQ.step (h:XQ K as F H x E) (g:aW K as F H bs F1 H1 S1):XQ K bs F1 H1 x E:=λd S' cs F' H' v w a b c=>h d S' cs F' H' v w a (g.trans b) c
theorem XQ.no:XQ K as F H (λ_ _=>False) E:=λ_ _ _ _ _ _ _ h=>h.elim
end
def ME (K:PySem.W.Frag) (W:WX) (te:TE) (m:Env->M):Prop:=∀ (as:List Addr) (F H:Hp) (S:WS) (ρ:Env) (σ:L2.St),bU K as F H S->fT K as F ρ σ->∀ q x,m ρ S q x->
  ∀ Q:VK,NQ K as F H q Q->XQ K as F H x (WE W σ)->te σ H Q
def zC (K:PySem.W.Frag) (W:WX) (te:TT) (m:Env->MB):Prop:=∀ (as:List Addr) (F H:Hp) (S:WS) (ρ:Env) (σ:L2.St),bU K as F H S->fT K as F ρ σ->∀ q x,m ρ S q x->
  ∀ Q:Bool->Hp->Prop,(∀ b S' bs F' H',q b S'->aW K as F H bs F' H' S'->Q b H')->XQ K as F H x (WE W σ)->te σ H Q
def MA (K:PySem.W.Frag) (W:WX) (te:TA) (m:Env->ML):Prop:=∀ (as:List Addr) (F H:Hp) (S:WS) (ρ:Env) (σ:L2.St),bU K as F H S->fT K as F ρ σ->∀ q x,m ρ S q x->
  ∀ Q:List V->Hp->Prop,(∀ ds S' bs F' H' vs,q ds S'->aW K as F H bs F' H' S'->aS K bs F' ds vs->Q vs H')->XQ K as F H x (WE W σ)->te σ H Q
structure SQ (K:PySem.W.Frag) (W:WX) (as:List Addr) (F H:Hp) (k:Kt) (E:Ends):Prop where
  nx:∀ ρ' S' bs F' H' σ',k.nx ρ' S'->aW K as F H bs F' H' S'->fT K bs F' ρ' σ'->E.nx σ' H'
  rt:∀ d S' bs F' H' v,k.rt d S'->aW K as F H bs F' H' S'->Rp K bs F' d v->E.rt v H'
  bk:∀ ρ' S' bs F' H' σ',k.bk ρ' S'->aW K as F H bs F' H' S'->fT K bs F' ρ' σ'->E.bk σ' H'
  ct:∀ ρ' S' bs F' H' σ',k.ct ρ' S'->aW K as F H bs F' H' S'->fT K bs F' ρ' σ'->E.ct σ' H'
  ex:∀ e ρ' S' bs F' H' σ' cls dd,k.ex e ρ' S'->aW K as F H bs F' H' S'->fT K bs F' ρ' σ'->Lh K bs F' e cls dd->W cls dd σ' H'
theorem SQ.step {K:PySem.W.Frag} {W:WX} {as bs:List Addr} {F H F1 H1:Hp} {S1:WS} {k:Kt} {E:Ends} (h:SQ K W as F H k E) (g:aW K as F H bs F1 H1 S1):SQ K W bs F1 H1 k E:=
  ⟨λa b c d e f x y=>h.nx a b c d e f x (g.trans y),λa b c d e f x y=>h.rt a b c d e f x (g.trans y),λa b c d e f x y=>h.bk a b c d e f x (g.trans y),λa b c d e f x y=>h.ct a b c d e f x (g.trans y),λa b c d e f i j l x y=>h.ex a b c d e f i j l x (g.trans y)⟩
theorem SQ.xq {K:PySem.W.Frag} {W:WX} {as:List Addr} {F H:Hp} {k:Kt} {E:Ends} {ρ:Env} {σ:L2.St} (h:SQ K W as F H k E) (R:fT K as F ρ σ):XQ K as F H (λe S'=>k.ex e ρ S') (WE W σ):=λe S' bs F' H' cls dd a g r=>h.ex e ρ S' bs F' H' σ cls dd a g (R.grow g) r
def ze (K:PySem.W.Frag) (W:WX) (ts:TS) (m:Env->MS):Prop:=∀ (as:List Addr) (F H:Hp) (S:WS) (ρ:Env) (σ:L2.St),bU K as F H S->fT K as F ρ σ->∀ k,m ρ S k->
  ∀ E:Ends,SQ K W as F H k E->ts E σ H
structure GE (X:Cx) (W:WX) (e:Expr) (m:Env->M):Prop where
  ex:∃ te,PE X e te∧ME X.K W te m
structure GT (X:Cx) (W:WX) (e:Expr) (m:Env->MB):Prop where
  ex:∃ te,PT X e te∧zC X.K W te m
structure GW (X:Cx) (W:WX) (e:Expr) (m:Env->MB):Prop where
  ex:∃ te,PW X e te∧zC X.K W te m
structure GA (X:Cx) (W:WX) (es:List Expr) (m:Env->ML):Prop where
  ex:∃ te,PA X es te∧MA X.K W te m
structure GS (X:Cx) (W:WX) (st:Stmt) (m:Env->MS):Prop where
  ex:∃ ts,PS X st ts∧ze X.K W ts m
structure Cn (X:Cx) (W:WX) (sts:List Stmt) (m:Env->MS):Prop where
  ex:∃ ts,PSs X sts ts∧ze X.K W ts m
end RV
end
section
namespace RV
def zN:Bool:=false
end RV
end
section
namespace RV
open PySem L2
section
variable {X:Cx} {W:WX} {a b c e:Expr} {pos:Pos} {ea eb ec ee:Env->M}
def gx {α:Type} (o:Option α) (k:α->Prop):Prop:=match o with
  | some a=>k a
  | none=>False
theorem bT {α:Type} {o:Option α} {k:α->Prop} (h:gx o k):∃ a,o=some a∧k a:=by
  cases o with
  | none=>exact h.elim
  | some a=>exact ⟨a,rfl,h⟩
def look:Env->Nat->Option D
  | [],_=>none
  | d :: _,0=>d
  | _ :: r,n+1=>look r n
theorem BP:∀ {ρ:Env} {i:Nat} {d:D},look ρ i=some d->ρ[i]? =some (some d)
  | [],_,_,h=>by cases h
  | _ :: _,0,_,h=>by
    unfold look at h
    rw [h]
    rfl
  | _ :: _,n+1,_,h=>by
    unfold look at h
    simpa using BP h
def ah (i:Nat):Env->M:=λρ S q _=>gx (look ρ i) λd=>q d S
def eC (d:D):Env->M:=λ_ S q _=>q d S
theorem aa (i:Nat) {x:Str} (hN:X.N[i]? =some x:=by rfl) (hv:Vis X.env.scope x:=by first | exact Or.inl rfl | exact Or.inr (Or.inl rfl) | exact Or.inr (Or.inr rfl))
    (hd:(x == ("__debug__":Str))=false:=by decide) (hcd:(x == ("__classdict__":Str))=false:=by decide):GE X W (.Name x pos) (ah i):=by
  refine ⟨tVar i,pe_var hN hv hd hcd,λas F H S ρ σ I R q x h Q hq _=>?_⟩
  obtain ⟨d,h1,h2⟩:=bT h
  obtain ⟨v,h3,h4⟩:=R.at_ i _ (BP h1)
  exact ⟨v,h3,hq d S as F H v h2 (aW.refl I) h4⟩
theorem AN {K:PySem.W.Frag} {v:V} {d:D} (h:∀ as F,Rp K as F d v):ME K W (tC v) (eC d):=λas F H S ρ σ I R q x e Q hq _=>hq d S as F H v e (aW.refl I) (h as F)
theorem ge_int {i:Int} {j:Nat}:GE X W (.Constant (.int i) j pos) (eC (.int i)):=⟨_,pe_int,AN λ_ _=>.int i⟩
theorem kR {i:Bool} {j:Nat}:GE X W (.Constant (.bool i) j pos) (eC (.bl i)):=⟨_,pe_bl,AN λ_ _=>.bl i⟩
theorem ge_str {i:Str} {j:Nat}:GE X W (.Constant (.str i) j pos) (eC (.str i)):=⟨_,pe_str,AN λ_ _=>.str i⟩
theorem ff {j:Nat}:GE X W (.Constant .none j pos) (eC .non):=⟨_,pe_non,AN λ_ _=>.non⟩
theorem FU {x z:Str} (hm:∃ t,X.mg x=some (.str z t)) (hg:Gl X x:=by rfl) (hd:(x == ("__debug__":Str))=false:=by decide):GE X W (.Name x pos) (eC (.str z)):=by
  obtain ⟨t,hm⟩:=hm
  exact ⟨_,pe_glob (v:=.str z) hg hm ⟨t,rfl⟩ hd,AN λ_ _=>.str z⟩
theorem BH {x:Str} {i:Int} (hm:∃ t,X.mg x=some (.int i t)) (hg:Gl X x:=by rfl) (hd:(x == ("__debug__":Str))=false:=by decide):GE X W (.Name x pos) (eC (.int i)):=by
  obtain ⟨t,hm⟩:=hm
  exact ⟨_,pe_glob (v:=.int i) hg hm ⟨t,rfl⟩ hd,AN λ_ _=>.int i⟩
theorem m9 {x:Str} {a:Addr} (hm:X.mg x=some (.ref a)) (hg:Gl X x:=by rfl) (hd:(x == ("__debug__":Str))=false:=by decide):GE X W (.Name x pos) (eC (.adr a)):=
  ⟨_,pe_glob (v:=.ref a) hg hm rfl hd,AN λ_ _=>.adr a⟩
theorem sG {x:Str} {n:String} (hm:X.mg x=none) (hv:bootBuiltins x=some (.type n)) (hg:Gl X x:=by rfl) (hn:x≠"__name__":=by decide) (hd:(x == ("__debug__":Str))=false:=by decide):GE X W (.Name x pos) (eC (.ty n)):=
  ⟨_,pe_bltn (v:=.ty n) hg hm hv rfl hn hd,AN λ_ _=>.ty n⟩
def RO (K:PySem.W.Frag) (r:R2) (f:WS->D->D->Option D):Prop:=∀ (as:List Addr) (F H:Hp) (S:WS) (x y d:D) (vx vy:V),bU K as F H S->Rp K as F x vx->Rp K as F y vy->f S x y=some d->
  ∀ Q:VK,(∀ F' H' v,aW K as F H as F' H' S->Rp K as F' d v->Q v H')->r vx vy H Q
def az (f:WS->D->D->Option D) (ea eb:Env->M):Env->M:=λρ S q x=>ea ρ S (λu S1=>eb ρ S1 (λv S2=>gx (f S2 u v) λd=>q d S2) x) x
theorem IB {K:PySem.W.Frag} {r:R2} {f:WS->D->D->Option D} {ta tb:TE} (hr:RO K r f) (ha:ME K W ta ea) (hb:ME K W tb eb):ME K W (tOp r ta tb) (az f ea eb):=λas F H S ρ σ I R q x h Q hq hx=>by
  refine ha as F H S ρ σ I R _ x h _ (λu S1 bs F1 H1 v1 h1 g1 r1=>?_) hx
  refine hb bs F1 H1 S1 ρ σ g1.sit (R.grow g1) _ x h1 _ (λw S2 cs F2 H2 v2 h2 g2 r2=>?_) (hx.step g1)
  obtain ⟨d,h3,h4⟩:=bT h2
  exact hr cs F2 H2 S2 u w d v1 v2 g2.sit (cD g2 r1) r2 h3 Q λF3 H3 v3 g3 r3=>hq d S2 cs F3 H3 v3 h4 ((g1.trans g2).trans g3) r3
theorem bN {op:Operator} {r:R2} {f:WS->D->D->Option D} (ho:OpR X (binaryOp op) r) (hr:RO X.K r f) (ha:GE X W a ea) (hb:GE X W b eb):GE X W (.BinOp a op b pos) (az f ea eb):=by
  obtain ⟨ta,pa,ma⟩:=ha
  obtain ⟨tb,pb,mb⟩:=hb
  exact ⟨_,pe_op ho pa pb,IB hr ma mb⟩
theorem jN {op:CmpOp} {r:R2} {f:WS->D->D->Option D} (ho:OpR X (compareOp op) r) (hr:RO X.K r f) (ha:GE X W a ea) (hb:GE X W b eb) (hm:behindInMarks op b=false):GE X W (.Compare a [op] [b] pos) (az f ea eb):=by
  obtain ⟨ta,pa,ma⟩:=ha
  obtain ⟨tb,pb,mb⟩:=hb
  exact ⟨_,pe_cmpR ho pa pb hm,IB hr ma mb⟩
theorem aI {r:R2} {f:WS->D->D->Option D} (ho:IxR X r) (hr:RO X.K r f) (ha:GE X W a ea) (hb:GE X W b eb) (hs:PlainIx b:=by exact λ_ _=>rfl):GE X W (.Subscript a b pos) (az f ea eb):=by
  obtain ⟨ta,pa,ma⟩:=ha
  obtain ⟨tb,pb,mb⟩:=hb
  exact ⟨_,pe_ix ho pa pb hs,IB hr ma mb⟩
def RU (K:PySem.W.Frag) (r:V->Hp->VK->Prop) (f:WS->D->Option D):Prop:=∀ (as:List Addr) (F H:Hp) (S:WS) (x d:D) (vx:V),bU K as F H S->Rp K as F x vx->f S x=some d->
  ∀ Q:VK,(∀ F' H' v,aW K as F H as F' H' S->Rp K as F' d v->Q v H')->r vx H Q
def jS (f:WS->D->Option D) (ea:Env->M):Env->M:=λρ S q x=>ea ρ S (λu S1=>gx (f S1 u) λd=>q d S1) x
theorem Xb {K:PySem.W.Frag} {r:V->Hp->VK->Prop} {f:WS->D->Option D} {ta:TE} (hr:RU K r f) (ha:ME K W ta ea):ME K W (tUn r ta) (jS f ea):=λas F H S ρ σ I R q x h Q hq hx=>by
  refine ha as F H S ρ σ I R _ x h _ (λu S1 bs F1 H1 v1 h1 g1 r1=>?_) hx
  obtain ⟨d,h3,h4⟩:=bT h1
  exact hr bs F1 H1 S1 u d v1 g1.sit r1 h3 Q λF3 H3 v3 g3 r3=>hq d S1 bs F3 H3 v3 h4 (g1.trans g3) r3
theorem W2 {op:UnaryOp} {r:V->Hp->VK->Prop} {f:WS->D->Option D} (ho:UnR X (unaryOp op) r) (hr:RU X.K r f) (ha:GE X W a ea):GE X W (.UnaryOp op a pos) (jS f ea):=by
  obtain ⟨ta,pa,ma⟩:=ha
  exact ⟨_,pe_un ho pa,Xb hr ma⟩
def ao:Env->ML:=λ_ S q _=>q [] S
def ai (ea:Env->M) (er:Env->ML):Env->ML:=λρ S q x=>ea ρ S (λu S1=>er ρ S1 (λds S2=>q (u :: ds) S2) x) x
theorem OL {K:PySem.W.Frag}:MA K W tNil ao:=λas F H S ρ σ I R q x h Q hq _=>hq [] S as F H [] h (aW.refl I) .nil
theorem LC {K:PySem.W.Frag} {ta:TE} {tr:TA} {er:Env->ML} (ha:ME K W ta ea) (hr:MA K W tr er):MA K W (tCons ta tr) (ai ea er):=λas F H S ρ σ I R q x h Q hq hx=>by
  refine ha as F H S ρ σ I R _ x h _ (λu S1 bs F1 H1 v1 h1 g1 r1=>?_) hx
  refine hr bs F1 H1 S1 ρ σ g1.sit (R.grow g1) _ x h1 _ (λds S2 cs F2 H2 vs h2 g2 r2=>?_) (hx.step g1)
  exact hq (u :: ds) S2 cs F2 H2 (v1 :: vs) h2 (g1.trans g2) (.cons (cD g2 r1) r2)
theorem aj:GA X W [] ao:=⟨_,pa_nil,OL⟩
theorem af {es:List Expr} {er:Env->ML} (ha:GE X W e ea) (hr:GA X W es er) (hs:starEach (e :: es) X.env=(false,eval e X.env) :: starEach es X.env:=by rfl):GA X W (e :: es) (ai ea er):=by
  obtain ⟨ta,pa,ma⟩:=ha
  obtain ⟨tr,pr,mr⟩:=hr
  exact ⟨_,pa_cons pa pr hs,LC ma mr⟩
structure GK (X:Cx) (W:WX) (kws:List Keyword) (m:Env->ML):Prop where
  ex:∃ te,PK X kws te∧MA X.K W te m
theorem VQ:GK X W [] ao:=⟨_,pk_nil,OL⟩
theorem Ue {nm:Option Str} {kpos:Pos} {kws:List Keyword} {er:Env->ML} (ha:GE X W e ea) (hr:GK X W kws er):GK X W (⟨nm,e,kpos⟩ :: kws) (ai ea er):=by
  obtain ⟨ta,pa,ma⟩:=ha
  obtain ⟨tr,pr,mr⟩:=hr
  exact ⟨_,pk_cons pa pr,LC ma mr⟩
def small (n:Nat):Bool:=decide (n≤100000)
theorem kJ {n:Nat} (h:small n=true):n≤sizeLine:=Nat.le_trans (of_decide_eq_true h) (by decide)
def eu (mk:List D->D) (er:Env->ML):Env->M:=λρ S q x=>er ρ S (λds S1=>small ds.length=true∧q (mk ds) S1) x
theorem VE {K:PySem.W.Frag} {t:TA} {er:Env->ML} (h:MA K W t er):ME K W (tTup t) (eu .tup er):=λas F H S ρ σ I R q x e Q hq hx=>by
  refine h as F H S ρ σ I R _ x e _ (λds S1 bs F1 H1 vs h1 g1 r1=>⟨?_,λa ha=>?_⟩) hx
  · rw [← r1.length]
    exact kJ h1.1
  · have g2:=g1.sit.grow (o:=.tup vs) ha
    exact hq _ S1 bs _ _ _ h1.2 (g1.trans g2) (.tup (SqT.of upd_same) (r1.mono g2.ex g2.pre))
theorem WG {K:PySem.W.Frag} {t:TA} {er:Env->ML} (h:MA K W t er):ME K W (tLst t) (eu .lst er):=λas F H S ρ σ I R q x e Q hq hx=>by
  refine h as F H S ρ σ I R _ x e _ (λds S1 bs F1 H1 vs h1 g1 r1=>⟨?_,λa ha=>?_⟩) hx
  · rw [← r1.length]
    exact kJ h1.1
  · have g2:=g1.sit.grow (o:=.lst vs) ha
    exact hq _ S1 bs _ _ _ h1.2 (g1.trans g2) (.lst upd_same (r1.mono g2.ex g2.pre))
theorem fP {es:List Expr} {er:Env->ML} {x1} (h:GA X W es er):GE X W (.Tuple es x1 pos) (eu .tup er):=by
  obtain ⟨t,p,m⟩:=h
  exact ⟨_,pe_tup p,VE m⟩
theorem pq {es:List Expr} {er:Env->ML} (h:GA X W es er):GE X W (.List es pos) (eu .lst er):=by
  obtain ⟨t,p,m⟩:=h
  exact ⟨_,pe_lst p,WG m⟩
def RC (K:PySem.W.Frag) (r:List V->Hp->VK->Prop) (f:WS->List D->Option D):Prop:=∀ (as:List Addr) (F H:Hp) (S:WS) (ds:List D) (d:D) (vs:List V),bU K as F H S->aS K as F ds vs->f S ds=some d->
  ∀ Q:VK,(∀ F' H' v,aW K as F H as F' H' S->Rp K as F' d v->Q v H')->r vs H Q
def aQ (f:WS->List D->Option D) (er:Env->ML):Env->M:=λρ S q x=>er ρ S (λds S1=>gx (f S1 ds) λd=>q d S1) x
theorem SH {K:PySem.W.Frag} {r:List V->Hp->VK->Prop} {f:WS->List D->Option D} {t:TA} {er:Env->ML} (hr:RC K r f) (h:MA K W t er):ME K W (tCB r t) (aQ f er):=λas F H S ρ σ I R q x e Q hq hx=>by
  refine h as F H S ρ σ I R _ x e _ (λds S1 bs F1 H1 vs h1 g1 r1=>?_) hx
  obtain ⟨d,h3,h4⟩:=bT h1
  exact hr bs F1 H1 S1 ds d vs g1.sit r1 h3 Q λF3 H3 v3 g3 r3=>hq d S1 bs F3 H3 v3 h4 (g1.trans g3) r3
theorem aR {x:Str} {id:String} {r:List V->Hp->VK->Prop} {f:WS->List D->Option D} {p:Pos} {es:List Expr} {er:Env->ML} (hc:CallR X (.builtin id) r) (hr:RC X.K r f) (hm:X.mg x=none) (hv:bootBuiltins x=some (.builtin id)) (ha:GA X W (e :: es) er)
    (hg:Gl X x:=by rfl) (hn:x≠"__name__":=by decide) (hdb:(x == ("__debug__":Str))=false:=by decide) (h1:starEach (e :: es) X.env=(false,eval e X.env) :: starEach es X.env:=by rfl) (h2:(backTo pos (starEach es X.env)).any (·.1)=false:=by rfl):
    GE X W (.Call (.Name x p) (e :: es) [] pos) (aQ f er):=by
  obtain ⟨t,p,m⟩:=ha
  exact ⟨_,pe_callB hc hg hm hv p hn hdb h1 h2,SH hr m⟩
theorem cN {x:Str} {T:String} {r:List V->Hp->VK->Prop} {f:WS->List D->Option D} {p:Pos} {es:List Expr} {er:Env->ML} (hc:CallR X (.type T) r) (hr:RC X.K r f) (hm:X.mg x=none) (hv:bootBuiltins x=some (.type T)) (ha:GA X W (e :: es) er)
    (hg:Gl X x:=by rfl) (hn:x≠"__name__":=by decide) (hdb:(x == ("__debug__":Str))=false:=by decide) (h1:starEach (e :: es) X.env=(false,eval e X.env) :: starEach es X.env:=by rfl) (h2:(backTo pos (starEach es X.env)).any (·.1)=false:=by rfl):
    GE X W (.Call (.Name x p) (e :: es) [] pos) (aQ f er):=by
  obtain ⟨t,p,m⟩:=ha
  exact ⟨_,pe_callTy hc hg hm hv p hn hdb h1 h2,SH hr m⟩
def bh (K:PySem.W.Frag) (n:Nat) (G:List D->M):Sp:=λvs H Q E=>∃ (as:List Addr) (F:Hp) (S:WS) (ds:List D) (q:D->WS->Prop) (x:Xq),bU K as F H S∧aS K as F ds vs∧ds.length=n∧G ds S q x∧NQ K as F H q Q∧XQ K as F H x E
structure Md where
  g:Bool
  n:Bool
  h:Bool
def vn (n:Bool) (P:Program) (w:World):CXT:=match n with
  | true=>L2N.CX P w
  | false=>L2.CX P w
theorem JO {n:Bool} {P:Program} {w:World} {outer:List PySem.Env} {H:Hp} {s s':Shared} {u:Value} (c:vn n P w outer H s (λ_ _ _=>False) u s'):False:=by
  cases n <;> (obtain ⟨a,B,H',cls,d,c⟩:=c; exact c.2.2.2.2.2.2.2.elim)
def Tk (n:Bool) (X:Cx) (W:WX):Prop:=match n with
  | true=>L2N.Takes X W
  | false=>L2.Takes X W
theorem Tk.pass {n:Bool} {X:Cx} {W:WX} (tk:Tk n X W) (σ:L2.St):PassesAt (vn n X.prog X.w) X σ (WE W σ):=by
  cases n
  · exact L2.passAt tk σ
  · exact L2N.passAt tk σ
def Zz (n:Bool) (cls:Value) (d:Option Addr):Obj->Prop:=match n with
  | true=>L2N.Zn cls d
  | false=>Zc cls d
def Hq (A:Around) (p:Addr×Obj):Prop:=A.handled=some (.ref p.1)∧(zN=true->∃ vs:Array Value,p.2.data=.fields vs∧vs[2]? =some .none)
def Rx (h:Bool) (k:Nat) (X:Cx):Prop:=match h with
  | false=>Room k X.A
  | true=>L2H.RoomH k X.A∧∃ p,p∈X.pn∧Hq X.A p
def Rs (h:Bool) (k:Nat) (A:Around) (outer:List PySem.Env) (H:Hp) (s:Shared):Prop:=match h with
  | false=>Room k A
  | true=>L2H.RoomH k A∧∃ p,L2H.PinOk outer H s p∧Hq A p
theorem Rx.mono {h:Bool} {j k:Nat} {X:Cx} (r:Rx h k X) (e:j≤k):Rx h j X:=by
  cases h
  · exact Room.mono r e
  · exact ⟨r.1.mono e,r.2⟩
theorem Rx.at {h:Bool} {k:Nat} {X:Cx} {pins:List (Addr×Obj)} {σ:L2.St} {H:Hp} {s:Shared} (r:Rx h k X) (I:Inv X pins σ H s):Rs h k X.A X.stack H s:=by
  cases h
  · exact r
  · obtain ⟨r1,p,hp,e⟩:=r
    have P1:=I.pin p (List.mem_append_left _ hp)
    exact ⟨r1,p,⟨P1.1,P1.2.1,λhm=>(List.mem_cons.mp (I.stkSub p.1 hm)).elim P1.2.2.1 P1.2.2.2.1,P1.2.2.2.2⟩,e⟩
def eFn (n:Nat) (G:List D->M) (dvs:List D) (er:Env->ML):Env->M:=λρ S q x=>er ρ S (λds S1=>(ds++dvs).length=n∧G (ds++dvs) S1 q x) x
def tFn (sp:Sp) (dv:List V) (E:L2.St->XK) (t:TA):TE:=λσ H Q=>t σ H λvs H1=>sp (vs++dv) H1 Q (E σ)
theorem Xs {K:PySem.W.Frag} {n:Nat} {G:List D->M} {dvs:List D} {dv:List V} {t:TA} {er:Env->ML} (hd:∀ as F,aS K as F dvs dv) (h:MA K W t er):ME K W (tFn (bh K n G) dv (WE W) t) (eFn n G dvs er):=λas F H S ρ σ I R q x e Q hq hx=>by
  refine h as F H S ρ σ I R _ x e _ (λds S1 bs F1 H1 vs h1 g1 r1=>?_) hx
  exact ⟨bs,F1,S1,ds++dvs,q,x,g1.sit,r1.append (hd bs F1),h1.1,h1.2,hq.step g1,hx.step g1⟩
structure bf (gd:Md) (P:Program) (w:World) (K:PySem.W.Frag) (mg:Str->Option Value) (base:Heap) (k:Nat) (f:Addr) (fd:FuncData) (ps:List Str) (sp:Sp):Prop where
  len:∀ vs H Q E,sp vs H Q E->vs.length=ps.length
  run:∀ (A:Around) (outer:List PySem.Env) (s:Shared) (H:Hp) (args:Args) (us:List Value) (vs:List V) (Q:VK) (E:XK),(gd.g=true->A.guards=some [])->Rs gd.h k A outer H s->Env0 P w K mg base A outer s H->BindsTo s fd args (ps.zip us)->Vals vs us->sp vs H Q E->
    codeAny (model P w) A (.call (.ref f) args) (CR (vn gd.n P w) outer P w H s Q E) s
section
variable {k j n:Nat} {f C:Addr} {fd:FuncData} {ps:List Str} {sp:Sp} {gd:Md} {nn:Bool}
theorem bf.ok {P:Program} {w:World} {K:PySem.W.Frag} {mg:Str->Option Value} {base:Heap} (F:bf ⟨false,nn,false⟩ P w K mg base k f fd ps sp):FnOk P w K mg base (vn nn P w) k f fd ps sp:=
  ⟨F.len,λA outer s H args us vs Q E=>F.run A outer s H args us vs Q E (λh=>nomatch h)⟩
theorem bf.of {P:Program} {w:World} {K:PySem.W.Frag} {mg:Str->Option Value} {base:Heap} (F:FnOk P w K mg base (vn nn P w) k f fd ps sp) {g:Bool}:bf ⟨g,nn,false⟩ P w K mg base k f fd ps sp:=
  ⟨F.len,λA outer s H args us vs Q E _=>F.run A outer s H args us vs Q E⟩
theorem SD {pins:List (Addr×Obj)} {σ:L2.St} {H:Hp} {s:Shared} {Q:VK} {us:List Value} {vs dv:List V} {ds:List Value} (F:bf gd X.prog X.w X.K X.mg X.base k f fd ps sp) (hgd:gd.g=true->X.A.guards=some []) (hr:Rx gd.h k X) (hb:Binds X.K fd ps ds) (hd:Vals dv ds) (tk:Tk gd.n X W)
    (I:Inv X pins σ H s) (r:Vals vs us) (h:sp (vs++dv) H Q (WE W σ)):wpAny (model X.prog X.w) X.A (PySem.call (.ref f) us) (EP X pins σ Q) X.xe s:=by
  have r2:Vals (vs++dv) (us++ds):=r.append hd
  have hl:(us++ds).length=ps.length:=r2.length.symm.trans (F.len _ _ _ _ h)
  refine wpAny_call (codeAny_mono (F.run X.A X.stack s H ⟨us,[]⟩ _ (vs++dv) Q (WE W σ) hgd (hr.at I) I.env0 (hb s us I.kIn hl) r2 h) λr s' hq=>?_)
  cases r with
  | error er=>exact tk.pass σ pins H s er s' I hq
  | ok fl=>
    cases fl with
    | ret u=>exact I.after hq
    | next=>exact hq.elim
    | brk=>exact hq.elim
    | cont=>exact hq.elim
theorem UT {G:List D->M} {dvs:List D} {dv:List V} {ds:List Value} {x:Str} {p:Pos} {es:List Expr} {er:Env->ML} (tk:Tk gd.n X W)
    (F:bf gd X.prog X.w X.K X.mg X.base k f fd ps (bh X.K n G)) (hgd:gd.g=true->X.A.guards=some []) (hr:Rx gd.h j X) (hj:k≤j) (hm:X.mg x=some (.ref f)) (hk:PySem.W.keepIn X.K (.ref f)=true) (hb:Binds X.K fd ps ds) (hd:Vals dv ds)
    (hdv:∀ as F,aS X.K as F dvs dv) (ha:GA X W (e :: es) er) (hg:Gl X x:=by rfl) (hdb:(x == ("__debug__":Str))=false:=by decide) (h1:starEach (e :: es) X.env=(false,eval e X.env) :: starEach es X.env:=by rfl) (h2:(backTo pos (starEach es X.env)).any (·.1)=false:=by rfl):
    GE X W (.Call (.Name x p) (e :: es) [] pos) (eFn n G dvs er):=by
  obtain ⟨t,pa,m⟩:=ha
  refine ⟨tFn (bh X.K n G) dv (WE W) t,⟨λpins s σ H Q I h=>?_⟩,Xs hdv m⟩
  refine wpAny_Call_Name_kw (ld_glob I hg hm ?_ hdb)
  refine PySem.W.callWith_K (h₀:=X.base) I.ok.mod.kin hk (thn (pa.run pos pins s σ H _ I h) λus s1 hh=>?_) h1 h2
  obtain ⟨vs,H1,I1,r1,q1⟩:=hh
  exact ⟨I1.kIn,SD F hgd (hr.mono hj) hb hd tk I1 r1 q1⟩
end
end
end RV
end
section
namespace RV
open PySem L2
section
variable {X:Cx} {W:WX} {a b c e:Expr} {pos:Pos} {ea eb ec ee:Env->M} {ma mb:Env->MB}
def oR (b:Bool) (p q:Prop):Prop:=match b with
  | true=>p
  | false=>q
def Sv (d:D) (k:Bool->Prop):Prop:=match d with
  | .bl b=>k b
  | _=>False
def Bf (d:D) (k:Int->Prop):Prop:=match d with
  | .int i=>k i
  | _=>False
def Kh (d:D) (k:Str->Prop):Prop:=match d with
  | .str s=>k s
  | _=>False
def Ji (d:D) (k:List D->Prop):Prop:=match d with
  | .tup ds=>k ds
  | _=>False
def NK (d:D) (k:Nat->Prop):Prop:=match d with
  | .cell i=>k i
  | _=>False
def G2 (ds:List D) (k:D->Prop):Prop:=match ds with
  | [x]=>k x
  | _=>False
def G3 (ds:List D) (k:D->D->Prop):Prop:=match ds with
  | [x,y]=>k x y
  | _=>False
def YL (ds:List D) (k:D->D->D->Prop):Prop:=match ds with
  | [x,y,z]=>k x y z
  | _=>False
def sA (c:Cell) (k:List D->Prop):Prop:=match c with
  | .lst ds=>k ds
  | _=>False
def Jv (c:Cell) (k:Addr->List (Str×D)->Prop):Prop:=match c with
  | .ob C fs=>k C fs
  | _=>False
theorem xF {d:D} {k:Int->Prop} (h:Bf d k):∃ i,d=.int i∧k i:=by
  cases d with
  | int i=>exact ⟨i,rfl,h⟩
  | _=>exact h.elim
theorem WJ {d:D} {k:Str->Prop} (h:Kh d k):∃ i,d=.str i∧k i:=by
  cases d with
  | str i=>exact ⟨i,rfl,h⟩
  | _=>exact h.elim
theorem Mw {d:D} {k:List D->Prop} (h:Ji d k):∃ i,d=.tup i∧k i:=by
  cases d with
  | tup i=>exact ⟨i,rfl,h⟩
  | _=>exact h.elim
theorem Bh {ds:List D} {k:D->Prop} (h:G2 ds k):∃ x,ds=[x]∧k x:=by
  unfold G2 at h
  split at h
  · exact ⟨_,rfl,h⟩
  · exact h.elim
theorem A3 {ds:List D} {k:D->D->Prop} (h:G3 ds k):∃ x y,ds=[x,y]∧k x y:=by
  unfold G3 at h
  split at h
  · exact ⟨_,_,rfl,h⟩
  · exact h.elim
theorem Ro {c:Cell} {k:List D->Prop} (h:sA c k):∃ ds,c=.lst ds∧k ds:=by
  cases c with
  | lst ds=>exact ⟨ds,rfl,h⟩
  | _=>exact h.elim
def cO (m:Env->M):Env->MB:=λρ S q x=>m ρ S (λd S1=>Sv d λb=>q b S1) x
theorem Tw {K:PySem.W.Frag} {t:TE} (h:ME K W t ea):zC K W (tTest t) (cO ea):=λas F H S ρ σ I R q x e Q hq hx=>by
  refine h as F H S ρ σ I R _ x e _ (λd S1 bs F1 H1 v h1 g r=>?_) hx
  cases r with
  | bl b=>exact ⟨b,rfl,hq b S1 bs F1 H1 h1 g⟩
  | _=>exact h1.elim
theorem aZ {op:CmpOp} {r:R2} {f:WS->D->D->Option D} (ho:OpR X (compareOp op) r) (hr:RO X.K r f) (ha:GE X W a ea) (hb:GE X W b eb) (hm:behindInMarks op b=false):GT X W (.Compare a [op] [b] pos) (cO (az f ea eb)):=by
  obtain ⟨ta,pa,ma⟩:=ha
  obtain ⟨tb,pb,mb⟩:=hb
  exact ⟨_,pt_cmpR ho pa pb hm,Tw (IB hr ma mb)⟩
def RT (K:PySem.W.Frag) (r:V->Hp->(Bool->Hp->Prop)->Prop) (f:WS->D->Option Bool):Prop:=∀ (as:List Addr) (F H:Hp) (S:WS) (x:D) (b:Bool) (vx:V),bU K as F H S->Rp K as F x vx->f S x=some b->
  ∀ Q:Bool->Hp->Prop,(∀ F' H',aW K as F H as F' H' S->Q b H')->r vx H Q
def dH (f:WS->D->Option Bool) (ea:Env->M):Env->MB:=λρ S q x=>ea ρ S (λu S1=>gx (f S1 u) λb=>q b S1) x
theorem Qt {K:PySem.W.Frag} {r:V->Hp->(Bool->Hp->Prop)->Prop} {f:WS->D->Option Bool} {ta:TE} (hr:RT K r f) (ha:ME K W ta ea):zC K W (λσ H Q=>ta σ H λx H'=>r x H' Q) (dH f ea):=λas F H S ρ σ I R q x e Q hq hx=>by
  refine ha as F H S ρ σ I R _ x e _ (λu S1 bs F1 H1 v1 h1 g1 r1=>?_) hx
  obtain ⟨b,h3,h4⟩:=bT h1
  exact hr bs F1 H1 S1 u b v1 g1.sit r1 h3 Q λF3 H3 g3=>hq b S1 bs F3 H3 h4 (g1.trans g3)
theorem PZ {ta:TE} {r:V->Hp->(Bool->Hp->Prop)->Prop} (ht:TruR X r) (ha:PE X a ta) (he:∀ whole,isTrue a X.env whole=(do let v ← whole; standAt a.pos; holding [v] (truthy v))):
    PT X a (λσ H Q=>ta σ H λx H'=>r x H' Q):=
  ⟨λpins s σ H Q I h=>PyProof.Rows.isTrue_plain (thn (ha.run pins s σ H _ I h) λv s1 ⟨x,H1,I1,r1,q1⟩=>ht pins s1 σ H1 x v Q I1 r1 q1) (he _)⟩
theorem bZ {r:V->Hp->(Bool->Hp->Prop)->Prop} {f:WS->D->Option Bool} (ht:TruR X r) (hr:RT X.K r f) (ha:GE X W a ea) (he:∀ whole,isTrue a X.env whole=(do let v ← whole; standAt a.pos; holding [v] (truthy v)):=by intro _; rfl):GT X W a (dH f ea):=by
  obtain ⟨ta,pa,ma⟩:=ha
  exact ⟨_,PZ ht pa he,Qt hr ma⟩
def Nz (m:Env->MB):Env->M:=λρ S q x=>m ρ S (λb S1=>q (.bl (!b)) S1) x
theorem Tc {r:V->Hp->(Bool->Hp->Prop)->Prop} {f:WS->D->Option Bool} (ht:TruR X r) (hr:RT X.K r f) (ha:GE X W a ea):GE X W (.UnaryOp .Not a pos) (Nz (dH f ea)):=by
  obtain ⟨ta,pa,ma⟩:=ha
  have mt:=Qt hr ma
  refine ⟨λσ H Q=>ta σ H λx H1=>r x H1 λc H2=>Q (.bl (!c)) H2,⟨λpins s σ H Q I h=>?_⟩,λas F H S ρ σ I R q x e Q hq hx=>?_⟩
  · refine PyProof.Rows.UnaryOp_ (thn (pa.run pins s σ H _ I h) λv s1 ⟨x,H1,I1,r1,q1⟩=>?_)
    exact PyProof.Rows.not_of (thn (ht pins s1 σ H1 x v _ I1 r1 q1) λc s2 ⟨H2,I2,q2⟩=>⟨.bl (!c),H2,I2,rfl,q2⟩)
  · exact mt as F H S ρ σ I R _ x e (λc H2=>Q (.bl (!c)) H2) (λb S' bs F' H' h g=>hq _ S' bs F' H' _ h g (.bl _)) hx
def rO (ma mb:Env->MB):Env->MB:=λρ S q x=>ma ρ S (λb S1=>oR b (mb ρ S1 q x) (q false S1)) x
def pJ (ma mb:Env->MB):Env->MB:=λρ S q x=>ma ρ S (λb S1=>oR b (q true S1) (mb ρ S1 q x)) x
def j7 (ma:Env->MB):Env->MB:=λρ S q x=>ma ρ S (λb S1=>q (!b) S1) x
theorem Vc {K:PySem.W.Frag} {t u:TT} (h1:zC K W t ma) (h2:zC K W u mb):zC K W (tAnd t u) (rO ma mb):=λas F H S ρ σ I R q x e Q hq hx=>by
  refine h1 as F H S ρ σ I R _ x e _ (λb S1 bs F1 H1 h g1=>?_) hx
  cases b with
  | true=>exact h2 bs F1 H1 S1 ρ σ g1.sit (R.grow g1) q x h Q (λb S' cs F' H' h g=>hq b S' cs F' H' h (g1.trans g)) (hx.step g1)
  | false=>exact hq false S1 bs F1 H1 h g1
theorem Xg {K:PySem.W.Frag} {t u:TT} (h1:zC K W t ma) (h2:zC K W u mb):zC K W (tOr t u) (pJ ma mb):=λas F H S ρ σ I R q x e Q hq hx=>by
  refine h1 as F H S ρ σ I R _ x e _ (λb S1 bs F1 H1 h g1=>?_) hx
  cases b with
  | false=>exact h2 bs F1 H1 S1 ρ σ g1.sit (R.grow g1) q x h Q (λb S' cs F' H' h g=>hq b S' cs F' H' h (g1.trans g)) (hx.step g1)
  | true=>exact hq true S1 bs F1 H1 h g1
theorem Wh {K:PySem.W.Frag} {t:TT} (h1:zC K W t ma):zC K W (tNot t) (j7 ma):=λas F H S ρ σ I R q x e Q hq hx=>
  h1 as F H S ρ σ I R _ x e _ (λb S1 bs F1 H1 h g1=>hq _ S1 bs F1 H1 h g1) hx
theorem GW.gt (h:GW X W e ma):GT X W e ma:=by
  obtain ⟨t,p,m⟩:=h
  exact ⟨_,p.pt,m⟩
theorem mX (ha:GT X W a ma):GW X W (.BoolOp .And [a] pos) ma:=by
  obtain ⟨t,p,m⟩:=ha
  exact ⟨_,pw_and1 p,m⟩
theorem nB (ha:GT X W a ma):GW X W (.BoolOp .Or [a] pos) ma:=by
  obtain ⟨t,p,m⟩:=ha
  exact ⟨_,pw_or1 p,m⟩
theorem oW {rest:List Expr} (ha:GT X W a ma) (hb:GW X W (.BoolOp .And (b :: rest) pos) mb):GW X W (.BoolOp .And (a :: b :: rest) pos) (rO ma mb):=by
  obtain ⟨t,p,m⟩:=ha
  obtain ⟨u,p',m'⟩:=hb
  exact ⟨_,pw_and p p',Vc m m'⟩
theorem kQ {rest:List Expr} (ha:GT X W a ma) (hb:GW X W (.BoolOp .Or (b :: rest) pos) mb):GW X W (.BoolOp .Or (a :: b :: rest) pos) (pJ ma mb):=by
  obtain ⟨t,p,m⟩:=ha
  obtain ⟨u,p',m'⟩:=hb
  exact ⟨_,pw_or p p',Xg m m'⟩
theorem gQ (ha:GT X W a ma):GT X W (.UnaryOp .Not a pos) (j7 ma):=by
  obtain ⟨t,p,m⟩:=ha
  exact ⟨_,pt_not p,Wh m⟩
def Fz (ea eb:Env->M):Env->M:=λρ S q x=>cO ea ρ S (λb S1=>oR b (eb ρ S1 q x) (q (.bl false) S1)) x
def Mn (ea eb:Env->M):Env->M:=λρ S q x=>cO ea ρ S (λb S1=>oR b (q (.bl true) S1) (eb ρ S1 q x)) x
theorem uo {op:BoolOp} (ha:GE X W a ea):GE X W (.BoolOp op [a] pos) ea:=by
  obtain ⟨t,p,m⟩:=ha
  exact ⟨_,pe_one p,m⟩
theorem Ff {rest:List Expr} (ha:GE X W a ea) (hb:GE X W (.BoolOp .And (b :: rest) pos) eb):GE X W (.BoolOp .And (a :: b :: rest) pos) (Fz ea eb):=by
  obtain ⟨t,p,m⟩:=ha
  obtain ⟨u,p',m'⟩:=hb
  refine ⟨_,pe_and p p',λas F H S ρ σ I R q x e Q hq hx=>?_⟩
  refine m as F H S ρ σ I R _ x e _ (λd S1 bs F1 H1 v h g1 r1=>?_) hx
  cases r1 with
  | bl c=>
    refine ⟨c,rfl,?_⟩
    cases c with
    | true=>exact m' bs F1 H1 S1 ρ σ g1.sit (R.grow g1) q x h Q (hq.step g1) (hx.step g1)
    | false=>exact hq _ S1 bs F1 H1 _ h g1 (.bl _)
  | _=>exact h.elim
theorem NZ {rest:List Expr} (ha:GE X W a ea) (hb:GE X W (.BoolOp .Or (b :: rest) pos) eb):GE X W (.BoolOp .Or (a :: b :: rest) pos) (Mn ea eb):=by
  obtain ⟨t,p,m⟩:=ha
  obtain ⟨u,p',m'⟩:=hb
  refine ⟨_,pe_or p p',λas F H S ρ σ I R q x e Q hq hx=>?_⟩
  refine m as F H S ρ σ I R _ x e _ (λd S1 bs F1 H1 v h g1 r1=>?_) hx
  cases r1 with
  | bl c=>
    refine ⟨c,rfl,?_⟩
    cases c with
    | false=>exact m' bs F1 H1 S1 ρ σ g1.sit (R.grow g1) q x h Q (hq.step g1) (hx.step g1)
    | true=>exact hq _ S1 bs F1 H1 _ h g1 (.bl _)
  | _=>exact h.elim
def oH (mc:Env->MB) (ea eb:Env->M):Env->M:=λρ S q x=>mc ρ S (λb S1=>oR b (ea ρ S1 q x) (eb ρ S1 q x)) x
theorem gF (hc:GT X W c ma) (ha:GE X W a ea) (hb:GE X W b eb):GE X W (.IfExp c a b pos) (oH ma ea eb):=by
  obtain ⟨tc,pc,mc⟩:=hc
  obtain ⟨t,p,m⟩:=ha
  obtain ⟨u,p',m'⟩:=hb
  refine ⟨_,pe_ifExp pc p p',λas F H S ρ σ I R q x e Q hq hx=>?_⟩
  refine mc as F H S ρ σ I R _ x e _ (λd S1 bs F1 H1 h g1=>?_) hx
  cases d with
  | true=>exact m bs F1 H1 S1 ρ σ g1.sit (R.grow g1) q x h Q (hq.step g1) (hx.step g1)
  | false=>exact m' bs F1 H1 S1 ρ σ g1.sit (R.grow g1) q x h Q (hq.step g1) (hx.step g1)
def EN (f g:WS->D->D->Option D) (ea eb ec:Env->M):Env->MB:=λρ S q x=>ea ρ S (λu S1=>eb ρ S1 (λv S2=>gx (f S2 u v) λd=>Sv d λb=>oR b (ec ρ S2 (λw S3=>gx (g S3 v w) λd=>Sv d λb=>q b S3) x) (q false S2)) x) x
end
section
variable {X:Cx} {W:WX} {a b c e:Expr} {pos:Pos} {ea eb ec ee:Env->M} {ma mb:Env->MB}
variable {st:Stmt} {sts rest:List Stmt} {m1 m2:Env->MS}
def cS:Env->MS:=λρ S k=>k.nx ρ S
def aK (m1 m2:Env->MS):Env->MS:=λρ S k=>m1 ρ S ⟨λρ' S'=>m2 ρ' S' k,k.rt,k.bk,k.ct,k.ex⟩
theorem V2 {K:PySem.W.Frag}:ze K W tNext cS:=λas F H S ρ σ I R k e E q=>q.nx ρ S as F H σ e (aW.refl I) R
theorem VD {K:PySem.W.Frag} {t u:TS} (h1:ze K W t m1) (h2:ze K W u m2):ze K W (tSeq t u) (aK m1 m2):=λas F H S ρ σ I R k e E q=>
  h1 as F H S ρ σ I R _ e _ ⟨λρ' S' bs F' H' σ' h g R'=>h2 bs F' H' S' ρ' σ' g.sit R' k h E (q.step g),q.rt,q.bk,q.ct,q.ex⟩
theorem bB:Cn X W [] cS:=⟨_,pss_nil,V2⟩
theorem aq (h1:GS X W st m1) (h2:Cn X W rest m2):Cn X W (st :: rest) (aK m1 m2):=by
  obtain ⟨t,p,m⟩:=h1
  obtain ⟨u,p',m'⟩:=h2
  exact ⟨_,pss_cons p p',VD m m'⟩
theorem au (h1:GS X W st m1):Cn X W [st] m1:=by
  obtain ⟨t,p,m⟩:=h1
  exact ⟨_,pss_one p,m⟩
def jM:Env->MS:=λ_ _ _=>False
theorem gE:GS X W st jM:=⟨_,ps_never,λas F H S ρ σ I R k e=>e.elim⟩
def bu (ea:Env->M):Env->MS:=λρ S k=>ea ρ S k.rt λe S'=>k.ex e ρ S'
theorem aP (h:GE X W e ea):GS X W (.Return (some e) pos) (bu ea):=by
  obtain ⟨t,p,m⟩:=h
  exact ⟨_,ps_ret p,λas F H S ρ σ I R k h E q=>m as F H S ρ σ I R _ _ h _ (λd S' bs F' H' v a g r=>q.rt d S' bs F' H' v a g r) (q.xq R)⟩
def iS (ea:Env->M):Env->MS:=λρ S k=>ea ρ S (λ_ S'=>k.nx ρ S') λe S'=>k.ex e ρ S'
theorem eW (h:GE X W e ea) (hs:swapsWith e none pos.line X.env=pure false:=by rfl):GS X W (.Expr e pos) (iS ea):=by
  obtain ⟨t,p,m⟩:=h
  exact ⟨_,ps_expr p hs,λas F H S ρ σ I R k h E q=>m as F H S ρ σ I R _ _ h _ (λd S' bs F' H' v a g r=>q.nx ρ S' bs F' H' σ a g (R.grow g)) (q.xq R)⟩
def bC (i:Nat) (ea:Env->M):Env->MS:=λρ S k=>ea ρ S (λd S'=>k.nx (ρ.set i (some d)) S') λe S'=>k.ex e ρ S'
theorem Ow {K:PySem.W.Frag} {i:Nat} {t:TE} (m:ME K W t ea):ze K W (tAsg t (gName i)) (bC i ea):=λas F H S ρ σ I R k h E q=>
  m as F H S ρ σ I R _ _ h _ (λd S' bs F' H' v a g r=>q.nx _ S' bs F' H' _ a g ((R.grow g).set r)) (q.xq R)
theorem a_ (i:Nat) {x:Str} {pos':Pos} (hN:X.N.Nodup) (h:GE X W e ea) (hi:X.N[i]? =some x:=by rfl) (hx:Loc X.env.scope x:=by first | exact Or.inl rfl | exact Or.inr rfl) (hs:swapsWith e (some (.Name x pos')) pos.line X.env=pure false:=by rfl)
    (hf:X.fn x=true∨X.env.scope.names.lookup x=some .local:=by first | exact .inl rfl | exact .inr rfl | assumption):GS X W (.Assign [.Name x pos'] e pos) (bC i ea):=by
  obtain ⟨t,p,m⟩:=h
  exact ⟨_,ps_set (i:=i) hN hi hx p hs hf,Ow m⟩
def fX (mc:Env->MB) (m1 m2:Env->MS):Env->MS:=λρ S k=>mc ρ S (λb S'=>oR b (m1 ρ S' k) (m2 ρ S' k)) λe S'=>k.ex e ρ S'
theorem b6 {as bs:List Stmt} (hc:GT X W c ma) (ha:Cn X W as m1) (hb:Cn X W bs m2):GS X W (.If c as bs pos) (fX ma m1 m2):=by
  obtain ⟨tc,pc,mc⟩:=hc
  obtain ⟨t,p,m⟩:=ha
  obtain ⟨u,p',m'⟩:=hb
  refine ⟨_,ps_if pc p p',λas F H S ρ σ I R k h E q=>?_⟩
  refine mc as F H S ρ σ I R _ _ h _ (λd S1 bs F1 H1 h g1=>?_) (q.xq R)
  cases d with
  | true=>exact m bs F1 H1 S1 ρ σ g1.sit (R.grow g1) k h E (q.step g1)
  | false=>exact m' bs F1 H1 S1 ρ σ g1.sit (R.grow g1) k h E (q.step g1)
def Vi:Env->MS:=λρ S k=>k.bk ρ S
def ND:Env->MS:=λρ S k=>k.ct ρ S
theorem Lb:GS X W (.Continue pos) ND:=⟨_,ps_continue,λas F H S ρ σ I R k e E q=>q.ct ρ S as F H σ e (aW.refl I) R⟩
end
end RV
end
section
namespace RV
open PySem L2
section
variable {X:Cx} {W:WX} {a b c e tg iter:Expr} {pos:Pos} {ea eb ec ee:Env->M} {ma mb:Env->MB} {m1 m2 mbody:Env->MS}
def vK (vs:List Nat) (σ σ':L2.St):Prop:=σ'.length=σ.length∧∀ j,j∉vs->σ'[j]? =σ[j]?
theorem vK.refl {vs:List Nat} {σ:L2.St}:vK vs σ σ:=⟨rfl,λ_ _=>rfl⟩
theorem vK.app {vs ws:List Nat} {σ σ1 σ2:L2.St} (a:vK vs σ σ1) (b:vK ws σ1 σ2):vK (vs++ws) σ σ2:=
  ⟨b.1.trans a.1,λj h=>(b.2 j λz=>h (List.mem_append_right _ z)).trans (a.2 j λz=>h (List.mem_append_left _ z))⟩
theorem vK.set {i:Nat} {σ:L2.St} {v:Option V}:vK [i] σ (σ.set i v):=⟨List.length_set,λj h=>List.getElem?_set_ne (λz=>h (by rw [z]; exact List.mem_singleton.mpr rfl))⟩
def MG (K:PySem.W.Frag) (g:TG) (vs:List Nat) (f:D->Env->Option Env):Prop:=∀ (as:List Addr) (F H:Hp) (S:WS) (ρ:Env) (σ:L2.St) (x:D) (v:V) (ρ':Env),bU K as F H S->fT K as F ρ σ->Rp K as F x v->f x ρ=some ρ'->
  ∀ Q:L2.St->Hp->Prop,(∀ σ',vK vs σ σ'->fT K as F ρ' σ'->Q σ' H)->g v σ H Q
structure GG (X:Cx) (tg:Expr) (vs:List Nat) (f:D->Env->Option Env):Prop where
  ex:∃ g,PG X tg g∧MG X.K g vs f
def YK (K:PySem.W.Frag) (g:TGs) (vs:List Nat) (f:List D->Env->Option Env):Prop:=∀ (as:List Addr) (F H:Hp) (S:WS) (ρ:Env) (σ:L2.St) (xs:List D) (us:List V) (ρ':Env),bU K as F H S->fT K as F ρ σ->aS K as F xs us->f xs ρ=some ρ'->
  ∀ Q:L2.St->Hp->Prop,(∀ σ',vK vs σ σ'->fT K as F ρ' σ'->Q σ' H)->g us σ H Q
structure R4 (X:Cx) (ts:List Expr) (n:Nat) (vs:List Nat) (f:List D->Env->Option Env):Prop where
  ex:ts.length=n∧∃ g,PGs X ts g∧YK X.K g vs f
def av (i:Nat):D->Env->Option Env:=λd ρ=>some (ρ.set i (some d))
theorem aC (i:Nat) {x:Str} (hN:X.N.Nodup) (hi:X.N[i]? =some x:=by rfl) (hx:Loc X.env.scope x:=by first | exact Or.inl rfl | exact Or.inr rfl) (hf:X.fn x=true∨X.env.scope.names.lookup x=some .local:=by first | exact .inl rfl | exact .inr rfl | assumption):
    GG X (.Name x pos) [i] (av i):=by
  refine ⟨_,pg_name (i:=i) hN hi hx hf,λas F H S ρ σ x v ρ' I R r e Q q=>?_⟩
  cases e
  exact q _ vK.set (R.set r)
def bH:List D->Env->Option Env:=λds ρ=>match ds with
  | []=>some ρ
  | _=>none
def aE (f:D->Env->Option Env) (g:List D->Env->Option Env):List D->Env->Option Env:=λds ρ=>match ds with
  | []=>none
  | d :: r=>(f d ρ).bind λρ'=>g r ρ'
theorem dh:R4 X [] 0 [] bH:=by
  refine ⟨rfl,_,pgs_nil,λas F H S ρ σ xs us ρ' I R r e Q q=>?_⟩
  unfold bH at e
  cases r with
  | nil=>
    cases e
    exact ⟨rfl,q σ vK.refl R⟩
  | cons _ _=>cases e
theorem aU {n:Nat} {vs ws:List Nat} {es:List Expr} {f:D->Env->Option Env} {g:List D->Env->Option Env} (h1:GG X e vs f) (h2:R4 X es n ws g) (hs:(assignEach (e :: es) X.env).map (·.2)=assign e X.env :: (assignEach es X.env).map (·.2):=by rfl):
    R4 X (e :: es) (n+1) (vs++ws) (aE f g):=by
  obtain ⟨t,p,m⟩:=h1
  obtain ⟨hn,u,p',m'⟩:=h2
  refine ⟨by rw [List.length_cons,hn],_,pgs_cons p p' hs,λas F H S ρ σ xs us ρ' I R r e Q q=>?_⟩
  cases r with
  | nil=>cases e
  | cons h r=>
    rename_i d v ds ws
    unfold aE at e
    cases h1:f d ρ with
    | none=>simp [h1] at e
    | some ρ1=>
      simp only [h1,Option.bind_some] at e
      exact ⟨v,ws,rfl,m as F H S ρ σ d v ρ1 I R h h1 _ λσ1 A1 R1=>m' as F H S ρ1 σ1 ds ws ρ' I R1 r e Q λσ2 A2 R2=>q σ2 (A1.app A2) R2⟩
def bG (n:Nat) (g:List D->Env->Option Env):D->Env->Option Env:=λd ρ=>match d with
  | .tup ds=>if ds.length=n then g ds ρ else none
  | _=>none
theorem eK {es:List Expr} {k n:Nat} {vs:List Nat} {g:List D->Env->Option Env} (hc:X.calm=true) (h:R4 X es n vs g) (hn:(assignEach es X.env).length=n:=by rfl) (hst:(assignEach es X.env).findIdx? (·.1)=none:=by rfl):GG X (.Tuple es k pos) vs (bG n g):=by
  obtain ⟨hl,t,p,m⟩:=h
  refine ⟨_,pg_tup hc p hn hst,λas F H S ρ σ x v ρ' I R r e Q q=>?_⟩
  cases r with
  | tup hq rl=>
    unfold bG at e
    simp only at e
    split at e
    · rename_i hz
      exact ⟨_,_,rfl,I.ex.kT hq,by rw [← rl.length]; exact hz,m as F H S ρ σ _ _ ρ' I R rl e Q q⟩
    · cases e
  | _=>cases e
structure Walks (K:PySem.W.Frag) (J:It) (as:List Addr) (F:Hp) (ds:List D) (N:WS->Prop):Prop where
  stop:∀ bs F2 H2 S2,bU K bs F2 H2 S2->Ex F F2->Pre as bs->N S2->J.stop ds.length H2
  go:∀ i,i < ds.length->∀ bs F2 H2 S2,bU K bs F2 H2 S2->Ex F F2->Pre as bs->N S2->J.go i H2
  yld:∀ (i:Nat) (d:D),ds[i]? =some d->∀ bs F2 H2 S2,bU K bs F2 H2 S2->Ex F F2->Pre as bs->N S2->∀ x H',J.yld i H2 x H'->∃ F',aW K bs F2 H2 bs F' H' S2∧Rp K bs F' d x
abbrev MW:=WS->(List D->(WS->Prop)->WS->Prop)->Xq->Prop
def cB:WS->Prop:=λ_=>True
def MI (K:PySem.W.Frag) (W:WX) (wi:TI) (m:Env->MW):Prop:=∀ (as:List Addr) (F H:Hp) (S:WS) (ρ:Env) (σ:L2.St),bU K as F H S->fT K as F ρ σ->∀ q x,m ρ S q x->
  ∀ R:It->Hp->Prop,(∀ ds N S' bs F' H' J,q ds N S'->aW K as F H bs F' H' S'->Walks K J bs F' ds N->R J H')->XQ K as F H x (WE W σ)->wi σ H R
structure GI (X:Cx) (W:WX) (tg iter:Expr) (m:Env->MW):Prop where
  ex:∃ wi,PI X tg iter wi∧MI X.K W wi m
theorem KO {K:PySem.W.Frag} {as:List Addr} {F:Hp} {lo:Int} {n:Nat} {N:WS->Prop}:Walks K (Itr lo n) as F ((List.range n).map λ(i:Nat)=>D.int (lo+(i:Int))) N:=by
  refine ⟨λbs F2 H2 S2 I _ _ _=>?_,λi h bs F2 H2 S2 I _ _ _=>?_,λi d h bs F2 H2 S2 I _ _ _ x H' y=>?_⟩
  · show n≤((List.range n).map λ(i:Nat)=>D.int (lo+(i:Int))).length
    simp
  · have h2:i < n:=by simpa using h
    exact h2
  · obtain ⟨rfl,rfl⟩:=y
    simp only [List.getElem?_map,Option.map_eq_some_iff] at h
    obtain ⟨j,hj,rfl⟩:=h
    have hji:j=i:=by
      have:=List.getElem?_eq_some_iff.mp hj
      obtain ⟨q,w⟩:=this
      simpa using w.symm
    subst hji
    exact ⟨F2,aW.refl I,.int _⟩
def upto (j:Int):List D:=(List.range j.toNat).map λ(i:Nat)=>D.int (0+(i:Int))
def jU (er:Env->ML):Env->MW:=λρ S q x=>er ρ S (λds S1=>G2 ds λd=>Bf d λj=>(-(2 ^ 62)≤j∧j < 2 ^ 62)∧q (upto j) cB S1) x
theorem je {er:Env->ML} {p:Pos} (hm:X.mg "range"=none) (ha:GA X W [a] er) (hg:Gl X "range":=by rfl) (hs:starEach [a] X.env=[(false,eval a X.env)]:=by rfl):GI X W tg (.Call (.Name "range" p) [a] [] pos) (jU er):=by
  obtain ⟨t,p,m⟩:=ha
  refine ⟨_,pi_range1 hg hm p hs,λas F H S ρ σ I R q x e Q hq hx=>?_⟩
  refine m as F H S ρ σ I R _ x e _ (λds S1 bs F1 H1 vs h1 g r=>?_) hx
  obtain ⟨y,rfl,h1⟩:=Bh h1
  obtain ⟨j,rfl,h1⟩:=xF h1
  obtain ⟨v,ws,rfl,rv,rn⟩:=r.dG
  obtain rfl:=rn.dR
  cases rv
  exact ⟨_,rfl,h1.1.1,h1.1.2,hq _ _ S1 bs F1 H1 _ h1.2 g KO⟩
theorem DC {K:PySem.W.Frag} {as:List Addr} {F:Hp} {p:Addr} {xs:List V} {ds:List D} {N:WS->Prop} (h:SqL K F p xs) (r:aS K as F ds xs):Walks K (Itl K p) as F ds N:=by
  refine ⟨λbs F2 H2 S2 I e _ _=>?_,λi hi bs F2 H2 S2 I e _ _=>?_,λi d hd bs F2 H2 S2 I e pr _ x H' y=>?_⟩
  · have hq:SqL K H2 p xs:=I.ex.tT (e.tT h)
    refine ⟨xs,hq,?_⟩
    rw [← r.length]
    exact Nat.le_refl _
  · have hq:SqL K H2 p xs:=I.ex.tT (e.tT h)
    have hl:i < xs.length:=by
      rw [← r.length]
      exact hi
    exact ⟨xs,xs[i],hq,List.getElem?_eq_getElem hl⟩
  · have hq:SqL K H2 p xs:=I.ex.tT (e.tT h)
    obtain ⟨rfl,y⟩:=y
    have y1:=y xs hq
    obtain ⟨v,hv,rv⟩:=r.get hd
    rw [hv] at y1
    cases y1
    exact ⟨F2,aW.refl I,rv.mono e pr⟩
theorem pre_nil {as:List Addr}:Pre [] as:=λi a h=>by simp at h
theorem Nh {K:PySem.W.Frag} {as:List Addr} {F:Hp} {a:Addr} {k:Nat} {ds:List D} (ha:as[k]? =some a):Walks K (Itl K a) as F ds (Holds k ds):=by
  have at_:∀ bs F2 H2 S2,bU K bs F2 H2 S2->Ex F F2->Pre as bs->Holds k ds S2->∃ ys,H2 a=some (.lst ys)∧aS K [] F2 ds ys:=λbs F2 H2 S2 I2 _ p2 hN=>by
    obtain ⟨_,o2,y2,y3⟩:=I2.cell k a _ (p2 k a ha) hN
    cases o2 with
    | lst ys=>exact ⟨ys,y2,y3⟩
    | _=>exact y3.elim
  refine ⟨λbs F2 H2 S2 I2 x2 p2 hN=>?_,λi hi bs F2 H2 S2 I2 x2 p2 hN=>?_,λi d hd bs F2 H2 S2 I2 x2 p2 hN x H' y=>?_⟩
  · obtain ⟨ys,y2,y3⟩:=at_ bs F2 H2 S2 I2 x2 p2 hN
    exact ⟨ys,SqL.of y2,by rw [aS.length y3]; exact Nat.le_refl _⟩
  · obtain ⟨ys,y2,y3⟩:=at_ bs F2 H2 S2 I2 x2 p2 hN
    have hl:i < ys.length:=by rw [← aS.length y3]; exact hi
    exact ⟨ys,ys[i],SqL.of y2,List.getElem?_eq_getElem hl⟩
  · obtain ⟨ys,y2,y3⟩:=at_ bs F2 H2 S2 I2 x2 p2 hN
    obtain ⟨rfl,hx⟩:=y
    obtain ⟨v,hv,rv⟩:=y3.get hd
    have:=hx ys (SqL.of y2)
    rw [this] at hv
    cases hv
    exact ⟨F2,aW.refl I2,rv.mono (Ex.refl _) pre_nil⟩
theorem uC {K:PySem.W.Frag} {as:List Addr} {F:Hp}:∀ ns:List Int,aS K as F (ns.map D.int) (ns.map V.int)
  | []=>.nil
  | n :: ns=>.cons (.int n) (uC ns)
theorem OU {K:PySem.W.Frag} {as:List Addr} {F:Hp} {p:Addr} {xs:List V} {ds:List D} {N:WS->Prop} (h:SqT K F p xs) (r:aS K as F ds xs):Walks K (Itt K p) as F ds N:=by
  refine ⟨λbs F2 H2 S2 I e _ _=>?_,λi hi bs F2 H2 S2 I e _ _=>?_,λi d hd bs F2 H2 S2 I e pr _ x H' y=>?_⟩
  · have hq:SqT K H2 p xs:=I.ex.kT (e.kT h)
    refine ⟨xs,hq,?_⟩
    rw [← r.length]
    exact Nat.le_refl _
  · have hq:SqT K H2 p xs:=I.ex.kT (e.kT h)
    have hl:i < xs.length:=by
      rw [← r.length]
      exact hi
    exact ⟨xs,xs[i],hq,List.getElem?_eq_getElem hl⟩
  · have hq:SqT K H2 p xs:=I.ex.kT (e.kT h)
    obtain ⟨rfl,y⟩:=y
    have y1:=y xs hq
    obtain ⟨v,hv,rv⟩:=r.get hd
    rw [hv] at y1
    cases y1
    exact ⟨F2,aW.refl I,rv.mono e pr⟩
theorem PM {K:PySem.W.Frag} {as:List Addr} {F:Hp} {x:Str} {N:WS->Prop}:Walks K (Its x) as F (x.cps.toList.map λc=>D.str ⟨#[c]⟩) N:=by
  refine ⟨λbs F2 H2 S2 I _ _ _=>?_,λi h bs F2 H2 S2 I _ _ _=>?_,λi d h bs F2 H2 S2 I _ _ _ y H' z=>?_⟩
  · show x.length≤(x.cps.toList.map λc=>D.str ⟨#[c]⟩).length
    simp [Str.length]
  · show i < x.length
    simpa [Str.length] using h
  · obtain ⟨rfl,z⟩:=z
    simp only [List.getElem?_map,Option.map_eq_some_iff] at h
    obtain ⟨j,hj,rfl⟩:=h
    have z2:∃ c,x.cps.toList[i]? =some c∧y=V.str ⟨#[c]⟩:=by
      first
        | exact z
        | simpa using z
    obtain ⟨c,hc,rfl⟩:=z2
    rw [hj] at hc
    cases hc
    exact ⟨F2,aW.refl I,.str _⟩
def onSeq (d:D) (S:WS) (q:List D->(WS->Prop)->WS->Prop):Prop:=match d with
  | .lst ds=>q ds cB S
  | .scr ns=>q (ns.map D.int) cB S
  | .cell k=>gx S[k]? λc=>sA c λds=>q ds (Holds k ds) S
  | _=>False
def jC (ea:Env->M):Env->MW:=λρ S q x=>ea ρ S (λd S1=>onSeq d S1 q) x
def e7 (ea:Env->M):Env->MW:=λρ S q x=>ea ρ S (λd S1=>Ji d λds=>q ds cB S1) x
def MZ (ea:Env->M):Env->MW:=λρ S q x=>ea ρ S (λd S1=>Kh d λz=>q (z.cps.toList.map λc=>D.str ⟨#[c]⟩) cB S1) x
theorem dP (ha:GE X W a ea):GI X W tg a (jC ea):=by
  obtain ⟨t,p,m⟩:=ha
  refine ⟨_,pi_list p,λas F H S ρ σ I R q x e Q hq hx=>?_⟩
  refine m as F H S ρ σ I R _ x e _ (λd S1 bs F1 H1 v h1 g r=>?_) hx
  cases r with
  | lst hp rl=>exact ⟨_,rfl,⟨_,SqL.of (g.sit.ex _ _ hp)⟩,hq _ _ S1 bs F1 H1 _ h1 g (DC (SqL.of hp) rl)⟩
  | scr hp=>exact ⟨_,rfl,⟨_,g.sit.ex.tT hp⟩,hq _ _ S1 bs F1 H1 _ h1 g (DC hp (uC _))⟩
  | cell ha=>
    obtain ⟨c,hS,h2⟩:=bT h1
    cases c with
    | lst ds=>
      obtain ⟨_,o,z2,z3⟩:=g.sit.cell _ _ _ ha hS
      cases o with
      | lst xs=>exact ⟨_,rfl,⟨xs,SqL.of z2⟩,hq _ _ S1 bs F1 H1 _ h2 g (Nh ha)⟩
      | _=>exact z3.elim
    | _=>exact h2.elim
  | _=>exact h1.elim
theorem fQ (ha:GE X W a ea):GI X W tg a (e7 ea):=by
  obtain ⟨t,p,m⟩:=ha
  refine ⟨_,pi_tup p,λas F H S ρ σ I R q x e Q hq hx=>?_⟩
  refine m as F H S ρ σ I R _ x e _ (λd S1 bs F1 H1 v h1 g r=>?_) hx
  cases r with
  | tup hp rl=>exact ⟨_,rfl,⟨_,g.sit.ex.kT hp⟩,hq _ _ S1 bs F1 H1 _ h1 g (OU hp rl)⟩
  | _=>exact h1.elim
theorem VA (ha:GE X W a ea):GI X W tg a (MZ ea):=by
  obtain ⟨t,p,m⟩:=ha
  refine ⟨_,pi_str p,λas F H S ρ σ I R q x e Q hq hx=>?_⟩
  refine m as F H S ρ σ I R _ x e _ (λd S1 bs F1 H1 v h1 g r=>?_) hx
  cases r with
  | str z=>exact ⟨_,rfl,hq _ _ S1 bs F1 H1 _ h1 g PM⟩
  | _=>exact h1.elim
def cE (N:WS->Prop) (f:D->Env->Option Env) (mb:Env->MS):List D->Env->MS
  | [],ρ,S,k=>N S∧k.nx ρ S
  | d :: ds,ρ,S,k=>N S∧gx (f d ρ) λρ1=>mb ρ1 S ⟨λρ2 S2=>cE N f mb ds ρ2 S2 k,k.rt,k.nx,λρ2 S2=>cE N f mb ds ρ2 S2 k,k.ex⟩
theorem Vd {N:WS->Prop} {f:D->Env->Option Env} {mb:Env->MS} {ds:List D} {ρ:Env} {S:WS} {k:Kt} (h:cE N f mb ds ρ S k):N S:=by
  cases ds with
  | nil=>exact h.1
  | cons d ds=>exact h.1
def fY (mi:Env->MW) (f:D->Env->Option Env) (mb:Env->MS):Env->MS:=λρ S k=>mi ρ S (λds N S1=>cE N f mb ds ρ S1 k) λe S'=>k.ex e ρ S'
theorem Ve {K:PySem.W.Frag} {wi:TI} {g:TG} {tb:TS} {mi:Env->MW} {f:D->Env->Option Env} {vs:List Nat} (hi:MI K W wi mi) (hg:MG K g vs f) (hb:ze K W tb mbody):ze K W (tFor wi g tb) (fY mi f mbody):=λas F H S ρ σ I R k e E q=>by
  refine hi as F H S ρ σ I R _ _ e _ (λds N S0 as F0 H0 J h0 g0 wk=>?_) (q.xq R)
  have q0:=q.step g0
  refine ⟨λi m σ H=>m=ds.length - i∧i≤ds.length∧∃ bs F1 S1 ρ1,aW K as F0 H0 bs F1 H S1∧fT K bs F1 ρ1 σ∧cE N f mbody (ds.drop i) ρ1 S1 k,⟨ds.length,by simp,Nat.zero_le _,as,F0,S0,ρ,aW.refl g0.sit,R.grow g0,by simpa using h0⟩,?_⟩
  rintro i m σ1 H1 ⟨rfl,hle,bs,F1,S1,ρ1,g1,R1,e1⟩
  have hN:=Vd e1
  by_cases hlt:i < ds.length
  · right
    refine ⟨wk.go i hlt bs F1 H1 S1 g1.sit g1.ex g1.pre hN,λσ' H'=>∃ m',m' < ds.length - i∧m'=ds.length - (i+1)∧i+1≤ds.length∧∃ bs F1 S1 ρ1,aW K as F0 H0 bs F1 H' S1∧fT K bs F1 ρ1 σ'∧cE N f mbody (ds.drop (i+1)) ρ1 S1 k,λσ' H' n=>?_,λx H' y=>?_⟩
    · obtain ⟨m',h1,h2,h3,h4⟩:=n
      exact ⟨m',h1,h2,h3,h4⟩
    · have hd:ds[i]? =some ds[i]:=List.getElem?_eq_getElem hlt
      obtain ⟨F2,g2,rx⟩:=wk.yld i ds[i] hd bs F1 H1 S1 g1.sit g1.ex g1.pre hN x H' y
      rw [List.drop_eq_getElem_cons hlt] at e1
      obtain ⟨ρ2,hf,hm⟩:=bT e1.2
      refine hg bs F2 H' S1 ρ1 σ1 ds[i] x ρ2 g2.sit (R1.grow g2) rx hf _ λσ2 _ R2=>?_
      have g12:=g1.trans g2
      refine hb bs F2 H' S1 ρ2 σ2 g2.sit R2 _ hm _ ⟨λρ3 S2 cs F3 H3 σ3 h3 g3 R3=>?_,λd S' cs F3 H3 v h3 g3=>q0.rt d S' cs F3 H3 v h3 (g12.trans g3),λρ3 S2 cs F3 H3 σ3 h3 g3=>q0.nx ρ3 S2 cs F3 H3 σ3 h3 (g12.trans g3),λρ3 S2 cs F3 H3 σ3 h3 g3 R3=>?_,λe ρ' S' cs F3 H3 σ3 cls dd h3 g3=>q0.ex e ρ' S' cs F3 H3 σ3 cls dd h3 (g12.trans g3)⟩
      · exact ⟨_,by omega,rfl,hlt,cs,F3,S2,ρ3,g12.trans g3,R3,h3⟩
      · exact ⟨_,by omega,rfl,hlt,cs,F3,S2,ρ3,g12.trans g3,R3,h3⟩
  · left
    have hi2:i=ds.length:=by omega
    subst hi2
    refine ⟨wk.stop bs F1 H1 S1 g1.sit g1.ex g1.pre hN,?_⟩
    rw [List.drop_length] at e1
    exact q0.nx ρ1 S1 bs F1 H1 σ1 e1.2 g1 R1
theorem dj {body:List Stmt} {mi:Env->MW} {vs:List Nat} {f:D->Env->Option Env} (hp:PassesOwn (model X.prog X.w) X.A X.env X.xe) (hc:X.calm=true) (hi:GI X W tg iter mi) (hg:GG X tg vs f) (hb:Cn X W body mbody)
    (hs:∀ (x:Value),foldedSetIterable iter X.env x=pure x:=by intro _; rfl):GS X W (.For tg iter body [] pos) (fY mi f mbody):=by
  obtain ⟨wi,pi,mi'⟩:=hi
  obtain ⟨g,pg,mg⟩:=hg
  obtain ⟨t,pt,mt⟩:=hb
  exact ⟨_,ps_for hp hc pi pg pt hs,Ve mi' mg mt⟩
end
end RV
end
section
namespace RV
open PySem L2
abbrev WF:WX:=λ_ _ _ _=>False
abbrev nj:Xq:=λ_ _=>False
section
variable {X:Cx} {W:WX} {a b c e tg iter elt:Expr} {pos:Pos} {ea eb ec ee:Env->M} {ma mb mc:Env->MB} {m1 m2 mbody:Env->MS}
def sj (K:PySem.W.Frag) (m:Env->M):TE:=λσ H Q=>∃ (as:List Addr) (F:Hp) (S:WS) (ρ:Env) (q:D->WS->Prop),bU K as F H S∧fT K as F ρ σ∧m ρ S q nj∧NQ K as F H q Q
theorem GE.canon (h:GE X WF e ea):PE X e (sj X.K ea):=by
  obtain ⟨t,p,m⟩:=h
  refine ⟨λpins s σ H Q I h=>?_⟩
  obtain ⟨as,F,S,ρ,q,I',R,hm,hq⟩:=h
  exact p.run pins s σ H Q I (m as F H S ρ σ I' R q nj hm Q hq XQ.no)
def Ll (K:PySem.W.Frag) (m:Env->MB):TT:=λσ H Q=>∃ (as:List Addr) (F:Hp) (S:WS) (ρ:Env) (q:Bool->WS->Prop),bU K as F H S∧fT K as F ρ σ∧m ρ S q nj∧∀ b S' bs F' H',q b S'->aW K as F H bs F' H' S'->Q b H'
theorem GT.canon (h:GT X WF e ma):PT X e (Ll X.K ma):=by
  obtain ⟨t,p,m⟩:=h
  refine ⟨λpins s σ H Q I h=>?_⟩
  obtain ⟨as,F,S,ρ,q,I',R,hm,hq⟩:=h
  exact p.run pins s σ H Q I (m as F H S ρ σ I' R q nj hm Q hq XQ.no)
def Pp (K:PySem.W.Frag) (vs:List Nat) (f:D->Env->Option Env):TG:=λv σ H Q=>∃ (as:List Addr) (F:Hp) (S:WS) (ρ:Env) (x:D) (ρ':Env),bU K as F H S∧fT K as F ρ σ∧Rp K as F x v∧f x ρ=some ρ'∧∀ σ',vK vs σ σ'->fT K as F ρ' σ'->Q σ' H
theorem GG.canon {vs:List Nat} {f:D->Env->Option Env} (h:GG X tg vs f):PG X tg (Pp X.K vs f):=by
  obtain ⟨t,p,m⟩:=h
  refine ⟨λpins s σ H v u Q I r h=>?_⟩
  obtain ⟨as,F,S,ρ,x,ρ',I',R,rx,hm,q⟩:=h
  exact p.run pins s σ H v u Q I r (m as F H S ρ σ x v ρ' I' R rx hm Q q)
structure Ma (X:Cx) (ifs:List Expr) (m:Env->MB):Prop where
  ex:PTs X ifs (Ll X.K m)
def cP:Env->MB:=λ_ S q _=>q true S
theorem bV:Ma X [] cP:=by
  refine ⟨⟨λpins s σ H Q I h=>?_⟩⟩
  obtain ⟨as,F,S,ρ,q,I',R,hm,hq⟩:=h
  exact pts_nil.run pins s σ H Q I (hq _ S as F H hm (aW.refl I'))
theorem mY (h:GT X WF c mc):Ma X [c] mc:=⟨pts_one h.canon⟩
def nS (ρ:Env):List Nat->Env
  | []=>ρ
  | v :: vs=>(nS ρ vs).set v none
theorem QX {K:PySem.W.Frag} {as:List Addr} {F:Hp} {ρ:Env} {σ:L2.St} {i:Nat} (r:fT K as F ρ σ):fT K as F (ρ.set i none) (σ.set i none):=by
  refine ⟨by rw [List.length_set,List.length_set]; exact r.len,λj d q=>?_⟩
  by_cases hj:i=j
  · subst hj
    by_cases hl:i < ρ.length
    · rw [List.getElem?_set_self hl] at q
      cases q
    · rw [List.getElem?_eq_none (by rw [List.length_set]; omega)] at q
      cases q
  · rw [List.getElem?_set_ne hj] at q ⊢
    exact r.at_ j d q
theorem fT.wipe {K:PySem.W.Frag} {as:List Addr} {F:Hp} {ρ:Env} {σ:L2.St} (r:fT K as F ρ σ):∀ vs:List Nat,fT K as F (nS ρ vs) (L2.wipe σ vs)
  | []=>r
  | v :: vs=>QX (r.wipe vs)
theorem BS (σ:L2.St) (j:Nat):∀ vs:List Nat,(L2.wipe σ vs)[j]? =if j∈vs then (if j < σ.length then some none else none) else σ[j]?
  | []=>by simp [L2.wipe]
  | v :: vs=>by
    unfold L2.wipe
    by_cases h:v=j
    · subst h
      by_cases hl:v < σ.length
      · rw [List.getElem?_set_self (by rw [wipe_length]; exact hl)]
        simp [hl]
      · rw [List.getElem?_eq_none (by rw [List.length_set,wipe_length]; omega)]
        simp [hl]
    · rw [List.getElem?_set_ne h,BS σ j vs]
      have:j≠v:=λz=>h z.symm
      simp [this]
theorem Jy {σ σ2:L2.St} {us vs:List Nat} (h:vK us (L2.wipe σ vs) σ2) (hs:∀ x∈us,x∈vs):L2.wipe σ2 vs=L2.wipe σ vs:=by
  have hl:σ2.length=σ.length:=h.1.trans (wipe_length σ vs)
  refine List.ext_getElem? λj=>?_
  rw [BS,BS,hl]
  by_cases hj:j∈vs
  · simp [hj]
  · rw [if_neg hj,if_neg hj,h.2 j λz=>hj (hs j z),BS,if_neg hj]
def pT (N:WS->Prop) (f:D->Env->Option Env) (mc:Env->MB) (me:Env->M) (ρ:Env):List D->List D->WS->(List D->WS->Prop)->Prop
  | [],acc,S,q=>N S∧q acc S
  | d :: ds,acc,S,q=>N S∧gx (f d ρ) λρ1=>mc ρ1 S (λb S1=>oR b (me ρ1 S1 (λy S2=>pT N f mc me ρ ds (acc++[y]) S2 q) nj) (pT N f mc me ρ ds acc S1 q)) nj
theorem W_ {N:WS->Prop} {f:D->Env->Option Env} {mc:Env->MB} {me:Env->M} {ρ:Env} {ds acc:List D} {S:WS} {q:List D->WS->Prop} (h:pT N f mc me ρ ds acc S q):N S:=by
  cases ds with
  | nil=>exact h.1
  | cons d ds=>exact h.1
inductive Lk where
  | still
  | new
mutual
def D.clean (n:Nat):D->Bool
  | .cell k=>decide (k < n)
  | .tup ds=>D.cg n ds
  | .ptu ds=>D.cg n ds
  | .clo _ _ _ _ cs _=>D.cg n cs
  | .lst ds=>D.cg n ds
  | .obj _ fs=>D.zH n fs
  | .exc _ fs=>D.zH n fs
  | .exv _ _ _ _=>false
  | .dic fs=>D.DN n fs
  | .non | .bl _ | .int _ | .str _ | .ty _ | .adr _ | .scr _=>true
def D.cg (n:Nat):List D->Bool
  | []=>true
  | d :: ds=>D.clean n d && D.cg n ds
def D.zH (n:Nat):List (Str×D)->Bool
  | []=>true
  | (_,d) :: ds=>D.clean n d && D.zH n ds
def D.DN (n:Nat):List (Key×D)->Bool
  | []=>true
  | (_,d) :: ds=>D.clean n d && D.DN n ds
end
section
variable {K:PySem.W.Frag} {as bs:List Addr} {F:Hp} {n:Nat}
mutual
theorem Rp.back (p:∀ k a,k < n->bs[k]? =some a->as[k]? =some a):∀ {d:D} {v:V},Rp K bs F d v->D.clean n d=true->Rp K as F d v
  | _,_,.non,_=>.non
  | _,_,.bl b,_=>.bl b
  | _,_,.int i,_=>.int i
  | _,_,.str s,_=>.str s
  | _,_,.ty n,_=>.ty n
  | _,_,.adr a,_=>.adr a
  | _,_,.scr h,_=>.scr h
  | _,_,.cell h,c=>.cell (p _ _ (by unfold D.clean at c; exact of_decide_eq_true c) h)
  | _,_,.tup h r,c=>.tup h (aS.back p r (by unfold D.clean at c; exact c))
  | _,_,.ptu h r,c=>.ptu h (aS.back p r (by unfold D.clean at c; exact c))
  | _,_,.clo h h2 r,c=>.clo h h2 (aS.back p r (by unfold D.clean at c; exact c))
  | _,_,.lst h r,c=>.lst h (aS.back p r (by unfold D.clean at c; exact c))
  | _,_,.obj h r,c=>.obj h (jw.back p r (by unfold D.clean at c; exact c))
  | _,_,.dic h r,c=>.dic h (f6.back p r (by unfold D.clean at c; exact c))
theorem aS.back (p:∀ k a,k < n->bs[k]? =some a->as[k]? =some a):∀ {ds:List D} {vs:List V},aS K bs F ds vs->D.cg n ds=true->aS K as F ds vs
  | _,_,.nil,_=>.nil
  | _,_,.cons h r,c=>by
    unfold D.cg at c
    obtain ⟨c1,c2⟩:=Bool.and_eq_true_iff.mp c
    exact .cons (Rp.back p h c1) (aS.back p r c2)
theorem jw.back (p:∀ k a,k < n->bs[k]? =some a->as[k]? =some a):∀ {fs:List (Str×D)} {vfs:List (Str×V)},jw K bs F fs vfs->D.zH n fs=true->jw K as F fs vfs
  | _,_,.nil,_=>.nil
  | _,_,.cons h r,c=>by
    unfold D.zH at c
    obtain ⟨c1,c2⟩:=Bool.and_eq_true_iff.mp c
    exact .cons (Rp.back p h c1) (jw.back p r c2)
theorem f6.back (p:∀ k a,k < n->bs[k]? =some a->as[k]? =some a):∀ {fs:List (Key×D)} {vfs:List (Key×V)},f6 K bs F fs vfs->D.DN n fs=true->f6 K as F fs vfs
  | _,_,.nil,_=>.nil
  | _,_,.cons h r,c=>by
    unfold D.DN at c
    obtain ⟨c1,c2⟩:=Bool.and_eq_true_iff.mp c
    exact .cons (Rp.back p h c1) (f6.back p r c2)
end
theorem NV {ds:List D} {vs:List V} (r:aS K as F ds vs) (h:D.cg 0 ds=true):aS K [] F ds vs:=r.back (n:=0) (λk a hk=>absurd hk (by omega)) h
end
def D8 (l:Lk) (ds:List D) (S:WS) (q:D->WS->Prop):Prop:=match l with
  | .still=>q (.lst ds) S
  | .new=>D.cg 0 ds=true∧q (.cell S.length) (S++[.lst ds])
theorem IV {K:PySem.W.Frag} {as:List Addr} {F H:Hp} {S:WS} {x:Addr} {c:Cell} {o:HO} {H':Hp} (I:bU K as F H S) (nx:x∉as) (fx:F x=none) (hH:∀ a u,a∈as∨F a≠none->H a=some u->H' a=some u) (hx':H' x=some o) (hc:c.Iq=false) (ho:ux K F x c o):bU K (as++[x]) F H' (S++[c]):=by
  refine ⟨by simp [I.len],λa u h=>hH _ _ (.inr (by rw [h]; simp)) (I.ex a u h),?_,λi q c2 h1 h2=>?_⟩
  · rw [List.nodup_append]
    refine ⟨I.nd,by simp,λa ha b hb e=>?_⟩
    rw [List.mem_singleton] at hb
    subst hb
    exact nx (e ▸ ha)
  · by_cases hi:i < as.length
    · rw [List.getElem?_append_left hi] at h1
      rw [List.getElem?_append_left (by rw [← I.len]; exact hi)] at h2
      obtain ⟨z1,ob,z2,z3⟩:=I.cell i q c2 h1 h2
      exact ⟨z1,ob,hH _ _ (.inl (List.mem_of_getElem? h1)) z2,z3⟩
    · have hi2:i=as.length:=by
        have:=(List.getElem?_eq_some_iff.mp h1).1
        simp at this
        omega
      subst hi2
      rw [List.getElem?_append_right (Nat.le_refl _)] at h1
      rw [List.getElem?_append_right (by rw [I.len]; exact Nat.le_refl _)] at h2
      simp at h1
      simp [I.len] at h2
      subst h1
      subst h2
      exact ⟨λ_=>fx,o,hx',ho⟩
theorem pre_app {as bs:List Addr}:Pre as (as++bs):=λi a h=>by
  rw [List.getElem?_append_left (List.getElem?_eq_some_iff.mp h).1]
  exact h
theorem NL {K:PySem.W.Frag} {as bs:List Addr} {F H F1 H1:Hp} {S1:WS} {p:Addr} {ds:List D} {vs:List V} {l:Lk} {q:D->WS->Prop} {Q:VK} (hq:NQ K as F H q Q) (g:aW K as F H bs F1 H1 S1) (hp:H p=none) (fp:F1 p=none) (bp:p∉bs) (hl:H1 p=some (.lst vs)) (r:aS K bs F1 ds vs) (h:D8 l ds S1 q):Q (.ref p) H1:=by
  cases l with
  | still=>
    have ex:Ex F1 (upd F1 p (.lst vs)):=Ex.new fp
    refine hq _ S1 bs (upd F1 p (.lst vs)) H1 _ h ⟨g.sit.freeze fp bp hl,g.pre,g.ex.trans ex,λa ha=>?_,g.newc,g.old,g.there⟩ (.lst upd_same (r.mono ex (Pre.refl _)))
    by_cases e2:a=p
    · subst e2
      exact .inr hp
    · rw [upd_ne e2] at ha
      exact g.new a ha
  | new=>
    have s2:bU K (bs++[p]) F1 H1 (S1++[.lst ds]):=IV g.sit bp fp (λ_ _ _ h=>h) hl rfl (NV r h.1)
    refine hq _ _ (bs++[p]) F1 H1 _ h.2 ⟨s2,g.pre.trans pre_app,g.ex,g.new,λa ha=>?_,g.old,g.there⟩ (.cell (by rw [← g.sit.len]; simp))
    rcases List.mem_append.mp ha with z | z
    · exact g.newc a z
    · rw [List.mem_singleton] at z
      subst z
      exact .inr hp
def gH (l:Lk) (mi:Env->MW) (f:D->Env->Option Env) (mc:Env->MB) (me:Env->M) (vs:List Nat):Env->M:=λρ S q x=>mi ρ S (λds N S1=>small ds.length=true∧pT N f mc me (nS ρ vs) ds [] S1 λes S2=>D8 l es S2 q) x
theorem AE {K:PySem.W.Frag} {as bs:List Addr} {F H F1 H1:Hp} {S1:WS} {p:Addr} {o o':HO} (g:aW K as F H bs F1 H1 S1) (hp:H p=some o) (fp:F p=none) (ap:p∉as):F1 p=none∧p∉bs∧H1 p=some o:=by
  refine ⟨?_,λz=>?_,g.old p o ap hp⟩
  · cases q3:F1 p with
    | none=>rfl
    | some u=>
      rcases g.new p (by rw [q3]; simp) with z | z
      · exact absurd fp z
      · rw [hp] at z
        cases z
  · rcases g.newc p z with z | z
    · exact ap z
    · rw [hp] at z
      cases z
theorem Sb {K:PySem.W.Frag} {wi:TI} {l:Lk} {mi:Env->MW} {us vs:List Nat} {f:D->Env->Option Env} (hi:MI K W wi mi) (hs:∀ x∈us,x∈vs):ME K W (tLc wi (Pp K us f) (Ll K mc) (sj K ee) vs) (gH l mi f mc ee vs):=λas F H S ρ σ I R q x e Q hq hx=>by
  refine hi as F H S ρ σ I R _ _ e _ (λds N S0 as F0 H0 J h0 g0 wk D0 hD=>?_) hx
  obtain ⟨hsm,h2⟩:=h0
  have fD:F0 D0=none:=g0.sit.out hD
  have aD:D0∉as:=λz=>g0.sit.there z hD
  have RW:fT K as F0 (nS ρ vs) (L2.wipe σ vs):=(R.grow g0).wipe vs
  have q0:=hq.step g0
  refine ⟨λi m H1=>m=ds.length - i∧i≤ds.length∧∃ bs F1 S1 acc done,aW K as F0 H0 bs F1 H1 S1∧F1 D0=none∧D0∉bs∧H1 D0=some (.lst acc)∧aS K bs F1 done acc∧done.length≤i∧pT N f mc ee (nS ρ vs) (ds.drop i) done S1 (λes S2=>D8 l es S2 q),⟨ds.length,by simp,Nat.zero_le _,as,F0,S0,[],[],?_,fD,aD,upd_same,.nil,Nat.le_refl _,by simpa using h2⟩,?_⟩
  · exact ⟨g0.sit.other fD aD,Pre.refl _,Ex.refl _,λ_ h=>.inl h,λ_ h=>.inl h,λa o _ h=>by rw [upd_ne (ne_of_none h hD)]; exact h,λa h=>iO h⟩
  rintro i m H1 ⟨rfl,hle,bs,F1,S1,acc,done,g1,f1,b1,hD1,ra,hdl,e1⟩
  have hN:=W_ e1
  have hacc:acc.length < sizeLine:=by
    rw [← ra.length]
    have h5:ds.length≤100000:=of_decide_eq_true hsm
    have h6:(100000:Nat) < sizeLine:=by decide
    omega
  by_cases hlt:i < ds.length
  · right
    refine ⟨wk.go i hlt bs F1 H1 S1 g1.sit g1.ex g1.pre hN,λH'=>∃ m',m' < ds.length - i∧m'=ds.length - (i+1)∧i+1≤ds.length∧∃ bs F1 S1 acc done,aW K as F0 H0 bs F1 H' S1∧F1 D0=none∧D0∉bs∧H' D0=some (.lst acc)∧aS K bs F1 done acc∧done.length≤i+1∧pT N f mc ee (nS ρ vs) (ds.drop (i+1)) done S1 (λes S2=>D8 l es S2 q),λH' n=>?_,λx H' y=>?_⟩
    · obtain ⟨m',n1,n2,n3,n4⟩:=n
      exact ⟨m',n1,n2,n3,n4⟩
    · have hd:ds[i]? =some ds[i]:=List.getElem?_eq_getElem hlt
      obtain ⟨F2,g2,rx⟩:=wk.yld i ds[i] hd bs F1 H1 S1 g1.sit g1.ex g1.pre hN x H' y
      rw [List.drop_eq_getElem_cons hlt] at e1
      obtain ⟨ρ2,hf,hm⟩:=bT e1.2
      have g12:=g1.trans g2
      refine ⟨bs,F2,S1,nS ρ vs,ds[i],ρ2,g2.sit,RW.mono g12.ex g12.pre,rx,hf,λσ2 A2 R2=>⟨Jy A2 hs,?_⟩⟩
      refine ⟨bs,F2,S1,ρ2,_,g2.sit,R2,hm,λpb S2 cs F3 H3 h3 g3=>?_⟩
      have g23:=g2.trans g3
      cases pb with
      | true=>
        refine ⟨cs,F3,S2,ρ2,_,g3.sit,R2.grow g3,h3,λd S4 ls F4 H4 v h4 g4 r4=>?_⟩
        have g24:=g23.trans g4
        have g5:=g1.trans g24
        obtain ⟨f4,b4,hD4⟩:=AE (o':=.lst []) g24 hD1 f1 b1
        refine ⟨acc,hD4,hacc,_,by omega,rfl,hlt,ls,F4,S4,acc++[v],done++[d],?_,f4,b4,upd_same,(ra.mono g24.ex g24.pre).append (.cons r4 .nil),?_,h4⟩
        · exact ⟨g5.sit.other f4 b4,g5.pre,g5.ex,g5.new,g5.newc,λa o ha h=>by
            rw [upd_ne (ne_of_none h hD)]
            exact g5.old a o ha h,λa h=>iO (g5.there a h)⟩
        · rw [List.length_append]
          show done.length+1≤i+1
          omega
      | false=>
        obtain ⟨f4,b4,hD4⟩:=AE (o':=.lst []) g23 hD1 f1 b1
        exact ⟨_,by omega,rfl,hlt,cs,F3,S2,acc,done,g1.trans g23,f4,b4,hD4,ra.mono g23.ex g23.pre,by omega,h3⟩
  · left
    have hi2:i=ds.length:=by omega
    subst hi2
    refine ⟨wk.stop bs F1 H1 S1 g1.sit g1.ex g1.pre hN,?_⟩
    rw [List.drop_length] at e1
    exact NL q0 g1 hD f1 b1 hD1 ra e1.2
theorem fM {l:Lk} {scope:Scope} {own:List (Str×Nat)} {ifs:List Expr} {mi:Env->MW} {us:List Nat} {f:D->Env->Option Env} (hc:X.calm=true) (hN:X.N.Nodup) (hi:GI X W tg iter mi) (ok:BlkOk X.N X.env.scope scope own)
    (hg:∀ (s:Shared) (H:Hp) (C:Addr) (cl:List (Str×Addr)) (fp:List Addr),GG (X.blk s H scope (compEnvC scope cl C X.env) fp) tg us f)
    (ht:∀ (s:Shared) (H:Hp) (C:Addr) (cl:List (Str×Addr)) (fp:List Addr),Ma (X.blk s H scope (compEnvC scope cl C X.env) fp) ifs mc)
    (he:∀ (s:Shared) (H:Hp) (C:Addr) (cl:List (Str×Addr)) (fp:List Addr),GE (X.blk s H scope (compEnvC scope cl C X.env) fp) WF elt ee)
    (hu:∀ x∈us,x∈own.map (·.2):=by decide) (hs:∀ (x:Value),foldedSetIterable iter X.env x=pure x:=by intro _; rfl):
    GE X W (.ListComp elt [⟨tg,iter,ifs,0⟩] scope pos) (gH l mi f mc ee (own.map (·.2))):=by
  obtain ⟨wi,pi,mi'⟩:=hi
  exact ⟨_,pe_lc (own:=own) hc hN pi ok (λs H C cl fp=>(hg s H C cl fp).canon) (λs H C cl fp=>(ht s H C cl fp).ex) (λs H C cl fp=>(he s H C cl fp).canon) hs,Sb mi' hu⟩
def eNew (er:Env->ML):Env->M:=λρ S q x=>er ρ S (λds S1=>small ds.length=true∧D8 .new ds S1 q) x
theorem ki {es:List Expr} {er:Env->ML} (h:GA X W es er):GE X W (.List es pos) (eNew er):=by
  obtain ⟨t,p,m⟩:=h
  refine ⟨_,pe_lst p,λas F H S ρ σ I R q x e Q hq hx=>?_⟩
  refine m as F H S ρ σ I R _ x e _ (λds S1 bs F1 H1 vs h1 g1 r1=>⟨?_,λa ha=>?_⟩) hx
  · rw [← r1.length]
    exact kJ h1.1
  · have f1:=g1.sit.out ha
    have b1:a∉bs:=λz=>g1.sit.there z ha
    have g2:aW X.K bs F1 H1 bs F1 (upd H1 a (.lst vs)) S1:=⟨g1.sit.other f1 b1,Pre.refl _,Ex.refl _,λ_ h=>.inl h,λ_ h=>.inl h,λc o _ h=>by rw [upd_ne (ne_of_none h ha)]; exact h,λc h=>iO h⟩
    exact NL (hq.step g1) g2 ha f1 b1 upd_same r1 h1.2
end
end RV
end
section
namespace RV
open PySem L2
def aM (n:Nat) (ds:List D):Env:=ds.map some++List.replicate (n - ds.length) none
theorem Bc {K:PySem.W.Frag} {as:List Addr} {F:Hp} {N:List Str} {ds:List D} {vs:List V} (r:aS K as F ds vs):fT K as F (aM N.length ds) (L2.start N vs):=by
  have hl:=r.length
  refine ⟨by simp [aM,L2.start,hl],λi d h=>?_⟩
  unfold aM at h
  unfold L2.start
  by_cases hi:i < ds.length
  · rw [List.getElem?_append_left (by simpa using hi)] at h
    rw [List.getElem?_append_left (by simpa [← hl] using hi)]
    simp only [List.getElem?_map,Option.map_eq_some_iff] at h
    obtain ⟨d',h1,h2⟩:=h
    cases h2
    obtain ⟨v,hv,rv⟩:=r.get h1
    exact ⟨v,by simp [hv],rv⟩
  · rw [List.getElem?_append_right (by simpa using hi)] at h
    simp [List.getElem?_replicate] at h
def fin (n:Nat) (d:D) (S:WS) (q:D->WS->Prop):Prop:=if S.length=n then q d S else match d with
  | .cell k=>if k < n then q d (S.take n) else gx S[k]? λc=>sA c λds=>q (.lst ds) (S.take n)
  | d=>D.clean n d=true∧q d (S.take n)
def CJ (n:Nat) (d:D) (S:WS) (q:D->WS->Prop):Prop:=match d with
  | .cell k=>n≤k∧gx S[k]? λc=>q (.cell n) (S.take n++[c])
  | _=>False
def vU (n:Nat) (e:D) (S:WS) (x:Xq):Prop:=if S.length=n then x e S else D.clean n e=true∧x e (S.take n)
def aG (n:Nat) (m:Env->MS):List D->M:=λds S q x=>m (aM n ds) S ⟨λ_ S'=>fin S.length .non S' q,λd S'=>fin S.length d S' q,λ_ _=>False,λ_ _=>False,λe _ S'=>vU S.length e S' x⟩
def Qp (n:Nat) (m:Env->MS):List D->M:=λds S q x=>m (aM n ds) S ⟨λ_ _=>False,λd S'=>CJ S.length d S' q,λ_ _=>False,λ_ _=>False,λe _ S'=>vU S.length e S' x⟩
theorem bU.take {K:PySem.W.Frag} {as bs:List Addr} {F H:Hp} {S:WS} (I:bU K bs F H S) (p:Pre as bs) (hl:as.length≤bs.length) (hn:as.Nodup):bU K as F H (S.take as.length):=by
  refine ⟨by rw [List.length_take,← I.len]; omega,I.ex,hn,λi q c h1 h2=>?_⟩
  have hi:=(List.getElem?_eq_some_iff.mp h1).1
  rw [List.getElem?_take_of_lt hi] at h2
  exact I.cell i q c (p i q h1) h2
theorem UK {as bs:List Addr} (p:Pre as bs):as.length≤bs.length:=by
  by_cases h:as.length=0
  · omega
  · have hl:as.length - 1 < as.length:=by omega
    have:=p (as.length - 1) _ (List.getElem?_eq_getElem hl)
    have:=(List.getElem?_eq_some_iff.mp this).1
    omega
theorem Dm {as bs:List Addr} (p:Pre as bs):∀ k a,k < as.length->bs[k]? =some a->as[k]? =some a:=λk a hk h=>by
  have:=p k _ (List.getElem?_eq_getElem hk)
  rw [h] at this
  cases this
  exact List.getElem?_eq_getElem hk
theorem aW.drop {K:PySem.W.Frag} {as bs:List Addr} {F H F' H':Hp} {S':WS} (g:aW K as F H bs F' H' S') (hn:as.Nodup):aW K as F H as F' H' (S'.take as.length):=
  ⟨g.sit.take g.pre (UK g.pre) hn,Pre.refl _,g.ex,g.new,λ_ h=>.inl h,g.old,g.there⟩
theorem cell_out {as bs:List Addr} {k:Nat} {a:Addr} (p:Pre as bs) (nd:bs.Nodup) (hk:as.length≤k) (ha:bs[k]? =some a):a∉as:=λz=>by
  obtain ⟨i,hi⟩:=List.getElem?_of_mem z
  have h1:=p i a hi
  have hib:i < bs.length:=(List.getElem?_eq_some_iff.mp h1).1
  have h2:i=k:=(List.getElem?_inj hib nd).mp (h1.trans ha.symm)
  have:=(List.getElem?_eq_some_iff.mp hi).1
  omega
theorem OI {K:PySem.W.Frag} {as bs:List Addr} {F H F' H':Hp} {S S1:WS} {d:D} {v:V} {q:D->WS->Prop} {Q:VK} (I:bU K as F H S) (hq:NQ K as F H q Q) (g:aW K as F H bs F' H' S1) (r:Rp K bs F' d v) (h:fin S.length d S1 q):Q v H':=by
  have hl:bs.length=S1.length:=g.sit.len
  have hn:as.length=S.length:=I.len
  unfold fin at h
  split at h
  · rename_i e
    exact hq d S1 bs F' H' v h g r
  · have gd :=g.drop I.nd
    rw [hn] at gd
    have other:∀ x:D,D.clean S.length x=true->Rp K bs F' x v->Rp K as F' x v:=λx hx rx=>rx.back (λk a hk=>Dm g.pre k a (by omega)) hx
    split at h
    · rename_i k
      split at h
      · rename_i hk
        exact hq _ _ as F' H' v h gd (other _ (by unfold D.clean; exact decide_eq_true hk) r)
      · rename_i hk
        obtain ⟨c,hS,h⟩:=bT h
        cases c with
        | lst ds=>
          cases r with
          | cell ha=>
            rename_i a
            obtain ⟨z1,o,z2,z3⟩:=g.sit.cell k a _ ha hS
            cases o with
            | lst xs=>
              have fa:F' a=none:=z1 rfl
              have na:a∉as:=cell_out g.pre g.sit.nd (by omega) ha
              refine hq _ _ as (upd F' a (.lst xs)) H' _ h ⟨gd.sit.freeze fa na z2,Pre.refl _,gd.ex.trans (Ex.new fa),λb hb=>?_,λ_ h=>.inl h,gd.old,gd.there⟩ (.lst upd_same (aS.mono (Ex.new fa) pre_nil z3))
              by_cases e2:b=a
              · subst e2
                rcases g.newc b (List.mem_of_getElem? ha) with z | z
                · exact absurd z na
                · exact .inr z
              · rw [upd_ne e2] at hb
                exact gd.new b hb
            | _=>exact z3.elim
        | _=>exact h.elim
    · exact hq _ _ as F' H' v h.2 gd (other _ h.1 r)
theorem aW.only {K:PySem.W.Frag} {as bs:List Addr} {F H F' H':Hp} {S1:WS} {k:Nat} {a:Addr} {c:Cell} (g:aW K as F H bs F' H' S1) (hn:as.Nodup) (hk:as.length≤k) (ha:bs[k]? =some a) (hS:S1[k]? =some c):aW K as F H (as++[a]) F' H' (S1.take as.length++[c]):=by
  have gd:=g.drop hn
  have na:a∉as:=cell_out g.pre g.sit.nd hk ha
  have hl:(S1.take as.length).length=as.length:=gd.sit.len.symm
  refine ⟨⟨by rw [List.length_append,List.length_append,← gd.sit.len]; rfl,gd.sit.ex,?_,λi q c2 h1 h2=>?_⟩,λi p hi=>by rw [List.getElem?_append_left (List.getElem?_eq_some_iff.mp hi).1]; exact hi,g.ex,g.new,λp hp=>?_,g.old,g.there⟩
  · rw [List.nodup_append]
    refine ⟨hn,by simp,λx hx b hb e=>?_⟩
    rw [List.mem_singleton] at hb
    subst hb
    exact na (e ▸ hx)
  · by_cases hi:i < as.length
    · rw [List.getElem?_append_left hi] at h1
      rw [List.getElem?_append_left (by rw [hl]; exact hi)] at h2
      exact gd.sit.cell i q c2 h1 h2
    · have hi2:i=as.length:=by
        have:=(List.getElem?_eq_some_iff.mp h1).1
        simp at this
        omega
      subst hi2
      rw [List.getElem?_append_right (Nat.le_refl _)] at h1
      rw [List.getElem?_append_right (by omega),hl] at h2
      simp at h1 h2
      subst h1 h2
      exact g.sit.cell k a c ha hS
  · rcases List.mem_append.mp hp with z | z
    · exact .inl z
    · rw [List.mem_singleton] at z
      subst z
      exact g.newc p (List.mem_of_getElem? ha)
theorem TJ {K:PySem.W.Frag} {as bs:List Addr} {F H F' H':Hp} {S S1:WS} {d:D} {v:V} {q:D->WS->Prop} {Q:VK} (I:bU K as F H S) (hq:NQ K as F H q Q) (g:aW K as F H bs F' H' S1) (r:Rp K bs F' d v) (h:CJ S.length d S1 q):Q v H':=by
  unfold CJ at h
  split at h
  · rename_i k
    obtain ⟨hk,h⟩:=h
    obtain ⟨c,hS,h⟩:=bT h
    cases r with
    | cell ha=>
      have g2:=g.only I.nd (by rw [I.len]; exact hk) ha hS
      rw [I.len] at g2
      refine hq _ _ _ F' H' _ h g2 (.cell ?_)
      rw [← I.len]
      simp
  · exact h.elim
theorem Bw {K:PySem.W.Frag} {as bs:List Addr} {F H F' H':Hp} {S S1:WS} {e:D} {cls:Value} {dd:Option Addr} {x:Xq} {E:XK} (I:bU K as F H S) (hx:XQ K as F H x E) (g:aW K as F H bs F' H' S1) (r:Lh K bs F' e cls dd) (h:vU S.length e S1 x):E cls dd H':=by
  unfold vU at h
  have hn:as.length=S.length:=I.len
  split at h
  · exact hx e S1 bs F' H' cls dd h g r
  · have gd:=g.drop I.nd
    rw [hn] at gd
    obtain ⟨C,d,fs,vfs,e1,e2,e3,e4,e5⟩:=r
    subst e1
    have hc:=h.1
    unfold D.clean at hc
    exact hx _ _ as F' H' cls dd h.2 gd ⟨C,d,fs,vfs,rfl,e2,e3,e4,e5.back (λk a hk=>Dm g.pre k a (by omega)) hc⟩
abbrev Gh (E:XK):WX:=λcls d _ H=>E cls d H
theorem Uz {K:PySem.W.Frag} {N:List Str} {m:Env->MS} {ts:TS} {n:Nat} {vs:List V} {H:Hp} {Q:VK} {E:XK} (hm:ze K (Gh E) ts m) (h:bh K n (aG N.length m) vs H Q E):
    ts {nx:=λ_ H'=>Q .non H',rt:=Q} (L2.start N vs) H:=by
  obtain ⟨as,F,S,ds,q,x,I,r,hl,e,hq,hx⟩:=h
  exact hm as F H S _ _ I (Bc r) _ e _ ⟨λρ' S' bs F' H' σ' h g R=>OI I hq g .non h,λd S' bs F' H' v h g r=>OI I hq g r h,λ_ _ _ _ _ _ h=>h.elim,λ_ _ _ _ _ _ h=>h.elim,λe ρ' S' bs F' H' σ' cls dd h g R r=>Bw I hx g r h⟩
theorem Uq {K:PySem.W.Frag} {N:List Str} {m:Env->MS} {ts:TS} {n:Nat} {vs:List V} {H:Hp} {Q:VK} {E:XK} (hm:ze K (Gh E) ts m) (h:bh K n (Qp N.length m) vs H Q E):
    ts {nx:=λ_ H'=>Q .non H',rt:=Q} (L2.start N vs) H:=by
  obtain ⟨as,F,S,ds,q,x,I,r,hl,e,hq,hx⟩:=h
  exact hm as F H S _ _ I (Bc r) _ e _ ⟨λ_ _ _ _ _ _ h=>h.elim,λd S' bs F' H' v h g r=>TJ I hq g r h,λ_ _ _ _ _ _ h=>h.elim,λ_ _ _ _ _ _ h=>h.elim,λe ρ' S' bs F' H' σ' cls dd h g R r=>Bw I hx g r h⟩
theorem E6 {nn:Bool} {X:Cx}:Tk nn X WF:=by
  cases nn <;> (intro u s' x; obtain ⟨a,B,sI,pins,σ,H,cls,d,e,I,nb,up,sky,na,os,ag,w⟩:=x; exact w.elim)
section
variable {P:Program} {w:World} {K:PySem.W.Frag} {mg:Str->Option Value} {base:Heap}
def YJ (h:Bool) (p:Addr×Obj):List (Addr×Obj):=match h with
  | false=>[]
  | true=>[p]
abbrev zh (n h:Bool) (P:Program) (w:World) (K:PySem.W.Frag) (mg:Str->Option Value) (base:Heap) (N:List Str) (qual:Str) (scope:Scope) (f:Addr) (cdv:Value) (A:Around) (outer:List PySem.Env) (s:Shared) (H:Hp) (E:XK) (p:Addr×Obj):Cx:=
  {cxOf (vn n P w) P w K mg base N qual scope f cdv A outer s H E with calm:=!h,pn:=YJ h p}
def YF (K:PySem.W.Frag) (f:Addr) (qual:Str) (cdv:Value):Prop:=∃ (oc:Value) (od:Option Addr) (fd:FuncData) (osl:Array (Option Value)),K.lookup f=some ⟨oc,od,.func fd,osl⟩∧fd.code=cdv∧PySem.W.codeIn K cdv qual=true
theorem Ke {gd:Md} {f:Addr} {name qual:Str} {params:Arguments} {body:List Stmt} {scope:Scope} {dvs:List V} {kws:List (Str×V)} {fd:FuncData} {N ps:List Str} {sp:Sp} {k:Nat} (F:FunD K name qual params body scope dvs kws f fd) (S:FnScope N ps scope)
    (len:∀ vs H Q E,sp vs H Q E->vs.length=ps.length)
    (hbody:∀ (cdv:Value) (A:Around) (outer:List PySem.Env) (s:Shared) (H:Hp) (vs:List V) (Q:VK) (E:XK) (p:Addr×Obj),YF K f qual cdv->(gd.g=true->A.guards=some [])->Rx gd.h k (zh gd.n gd.h P w K mg base N qual scope f cdv A outer s H E p)->sp vs H Q E->
      ∃ t,PSs (zh gd.n gd.h P w K mg base N qual scope f cdv A outer s H E p) body t∧t {nx:=λ_ H'=>Q .non H',rt:=Q} (L2.start N vs) H):
    bf gd P w K mg base (k+1) f fd ps sp:=by
  obtain ⟨oc,od,dV,kV,doc,pm,an,cdv,ct,osl,rfl,lk,hcd,_,_⟩:=F.ex
  obtain ⟨gg,nn,hh⟩:=gd
  refine ⟨len,λA outer s H args us vs Q E hg hr e0 hb r hsp=>?_⟩
  have still:∀ b o,base.get? b=some o->s.heap.get? b=some o:=λb o e=>(e0.bs b o e).1
  have KX:K.In s.heap:=e0.mod.kin.keeps still
  have bound:∀ y∈ps.zip us,scope.names.lookup y.1=some .local∨(scope.names.lookup y.1=some .cell∧((cellsFrom (s.heap.objs.size+1) scope.names []).lookup y.1).isSome=true):=by
    rintro ⟨n,v⟩ hy
    rcases S.par n (List.of_mem_zip hy).1 with q | q
    · exact Or.inl q
    · exact Or.inr ⟨q,PySem.W.cellsFrom_some _ _ _ (.inl q)⟩
  have hdp:A.depth < recursionLimit:=by
    cases hh
    · exact Room.depth hr
    · exact hr.1.depth
  refine codeAny_call_function hdp (KX _ _ lk) rfl S.co S.gen rfl (PySem.W.codeRec_of KX hcd) (hb _ _ _ _ ?_)
  refine wpAny_newFunctionEnv_cells S.kind bound λenv he s1 x=>?_
  subst he
  refine ⟨(e0.mod.nolimit.keeps still).keeps x.toInCall.keep,codeAny_func ?_⟩
  have start:∃ p,Rx hh k (zh nn hh P w K mg base N qual scope f cdv A outer s H E p)∧Inv (zh nn hh P w K mg base N qual scope f cdv A outer s H E p) [] (L2.start N vs) H s1:=by
    cases hh
    · exact ⟨(0,default),Room.deeper hr _,inv_start (CX:=vn nn P w) (E:=E) (f:=f) (cd:=cdv) (qual:=qual) S (Room.hd hr) e0 (len _ _ _ _ hsp) r x⟩
    · obtain ⟨r1,p,hp,e⟩:=hr
      exact ⟨p,⟨r1.deeper _,p,List.mem_cons_self ..,e⟩,L2H.inv_startH (CX:=vn nn P w) (E:=E) (f:=f) (cd:=cdv) (qual:=qual) S hp e0 (len _ _ _ _ hsp) r x⟩
  obtain ⟨p,hrx,I⟩:=start
  obtain ⟨t,ht,hq⟩:=hbody cdv A outer s H vs Q E p ⟨_,_,_,_,lk,rfl,hcd⟩ hg hrx hsp
  refine wpAny_mono (ht.run [] s1 (L2.start N vs) H _ I hq) (λfl s' hs=>?_) λe s' hs=>hs
  cases fl with
  | ret u=>
    obtain ⟨v,σ',H',J,rv,q⟩:=hs
    exact ⟨v,H',J.os,J.bare,J.base,J.hok,rv,q⟩
  | next=>
    obtain ⟨σ',H',J,q⟩:=hs
    exact ⟨V.non,H',J.os,J.bare,J.base,J.hok,rfl,q⟩
  | brk=>
    obtain ⟨_,_,_,q⟩:=hs
    exact q.elim
  | cont=>
    obtain ⟨_,_,_,q⟩:=hs
    exact q.elim
theorem Gb {n:Nat} {G:List D->M}:∀ vs H Q E,bh K n G vs H Q E->vs.length=n:=λvs H Q E h=>by
  obtain ⟨as,F,S,ds,q,x,I,r,hl,e,hq,hx⟩:=h
  rw [← r.length]
  exact hl
abbrev BodyOk (gd:Md) (P:Program) (w:World) (K:PySem.W.Frag) (mg:Str->Option Value) (base:Heap) (N:List Str) (qual:Str) (scope:Scope) (f:Addr) (k:Nat) (body:List Stmt) (m:Env->MS):Prop:=
  ∀ (cdv:Value) (A:Around) (outer:List PySem.Env) (s:Shared) (H:Hp) (E:XK) (pp:Addr×Obj),(gd.g=true->(zh gd.n gd.h P w K mg base N qual scope f cdv A outer s H E pp).A.guards=some [])->Rx gd.h k (zh gd.n gd.h P w K mg base N qual scope f cdv A outer s H E pp)->
    Tk gd.n (zh gd.n gd.h P w K mg base N qual scope f cdv A outer s H E pp) (Gh E)->PassesOwn (model P w) (zh gd.n gd.h P w K mg base N qual scope f cdv A outer s H E pp).A (zh gd.n gd.h P w K mg base N qual scope f cdv A outer s H E pp).env (zh gd.n gd.h P w K mg base N qual scope f cdv A outer s H E pp).xe->
    Cn (zh gd.n gd.h P w K mg base N qual scope f cdv A outer s H E pp) (Gh E) body m
theorem MR {n h:Bool} {N:List Str} {qual:Str} {scope:Scope} {f:Addr} {cdv:Value} {A:Around} {outer:List PySem.Env} {s:Shared} {H:Hp} {E:XK} {pp:Addr×Obj}:Tk n (zh n h P w K mg base N qual scope f cdv A outer s H E pp) (Gh E):=by
  cases n
  · exact L2.takes_of rfl rfl rfl rfl
  · exact L2N.takes_of rfl rfl rfl rfl
theorem bJ {gd:Md} {x qual:Str} {params:Arguments} {body:List Stmt} {scope:Scope} {dvs:List V} {kws:List (Str×V)} {f:Addr} {fd:FuncData} {N ps:List Str} {k:Nat} {m:Env->MS} (F:FunD K x qual params body scope dvs kws f fd) (S:FnScope N ps scope)
    (hb:BodyOk gd P w K mg base N qual scope f k body m):bf gd P w K mg base (k+1) f fd ps (bh K ps.length (aG N.length m)):=by
  refine Ke F S Gb (λcdv A outer s H vs Q E pp _ hg hr h=>?_)
  obtain ⟨ts,p,hm⟩:=hb cdv A outer s H E pp hg hr MR (passes_of rfl)
  exact ⟨ts,p,Uz hm h⟩
theorem YB {gd:Md} {x qual:Str} {params:Arguments} {body:List Stmt} {scope:Scope} {dvs:List V} {kws:List (Str×V)} {f:Addr} {fd:FuncData} {N ps:List Str} {k:Nat} {m:Env->MS} (F:FunD K x qual params body scope dvs kws f fd) (S:FnScope N ps scope)
    (hb:BodyOk gd P w K mg base N qual scope f k body m):bf gd P w K mg base (k+1) f fd ps (bh K ps.length (Qp N.length m)):=by
  refine Ke F S Gb (λcdv A outer s H vs Q E pp _ hg hr h=>?_)
  obtain ⟨ts,p,hm⟩:=hb cdv A outer s H E pp hg hr MR (passes_of rfl)
  exact ⟨ts,p,Uq hm h⟩
end
end RV
end
section
namespace RV
open PySem L2
variable {nn:Bool}
section
variable {X:Cx} {W:WX} {e o:Expr} {es:List Expr} {pos p apos:Pos} {er ek:Env->ML} {ea eb:Env->M} {C:Addr} {f:Str}
def gz (C:Addr) (f:Str) (S:WS):D->Option D
  | .obj C' fs=>if C'=C then fs.lookup f else none
  | .cell k=>match S[k]? with
    | some (.ob C' fs)=>if C'=C then fs.lookup f else none
    | _=>none
  | _=>none
theorem Vo {K:PySem.W.Frag} {as:List Addr} {F H:Hp} {S:WS} {x d:D} {v:V} (I:bU K as F H S) (r:Rp K as F x v) (h:gz C f S x=some d):∃ a dx vfs u,v=.ref a∧H a=some (.ins C dx vfs)∧vfs.lookup f=some u∧Rp K as F d u:=by
  cases x with
  | obj C' fs=>
    unfold gz at h
    simp only at h
    split at h
    · rename_i e
      subst e
      cases r with
      | obj ha rf=>
        obtain ⟨u,h1,h2⟩:=rf.look h
        exact ⟨_,_,_,u,rfl,I.ex _ _ ha,h1,h2⟩
    · cases h
  | cell k=>
    unfold gz at h
    cases hS:S[k]? with
    | none=>simp [hS] at h
    | some c=>
      cases c with
      | ob C' fs=>
        simp only [hS] at h
        split at h
        · rename_i e
          subst e
          cases r with
          | cell ha=>
            obtain ⟨z1,ob,z2,z3⟩:=I.cell k _ _ ha hS
            cases ob with
            | ins C2 dx vfs=>
              obtain ⟨e2,z3⟩:=z3
              subst e2
              obtain ⟨u,h1,h2⟩:=z3.look h
              exact ⟨_,dx,vfs,u,rfl,z2,h1,h2.mono (Ex.refl _) pre_nil⟩
            | _=>exact z3.elim
        · cases h
      | _=>simp [hS] at h
  | _=>cases h
theorem jE (cl:Cls X.K C) (no:NoAttr X.K C f) (ha:GE X W e ea) (hb:attributeBase e f X.env (eval e X.env)=eval e X.env:=by rfl):GE X W (.Attribute e f pos) (jS (gz C f) ea):=by
  obtain ⟨t,pa,m⟩:=ha
  refine ⟨_,pe_fld pa hb,λas F H S ρ σ I R q x h Q hq hx=>?_⟩
  refine m as F H S ρ σ I R _ x h _ (λz S1 bs F1 H1 v h1 g r=>?_) hx
  obtain ⟨d,h3,h4⟩:=bT h1
  obtain ⟨a,dx,vfs,u,rfl,ha,hl,ru⟩:=Vo g.sit r h3
  exact ⟨a,C,dx,vfs,u,rfl,ha,cl,no,hl,hq d S1 bs F1 H1 u h4 g ru⟩
def qc (C:Addr) (S:WS):D->Prop
  | .obj C' _=>C'=C
  | .cell k=>gx S[k]? λc=>Jv c λC' _=>C'=C
  | _=>False
theorem F_ {K:PySem.W.Frag} {as:List Addr} {F H:Hp} {S:WS} {x:D} {v:V} (I:bU K as F H S) (r:Rp K as F x v) (h:qc C S x):∃ a dx vfs,v=.ref a∧H a=some (.ins C dx vfs):=by
  cases r with
  | obj ha rf=>
    have h:_=C:=h
    subst h
    exact ⟨_,_,_,rfl,I.ex _ _ ha⟩
  | cell ha=>
    obtain ⟨c,hS,h⟩:=bT h
    cases c with
    | ob C' fs=>
      have h:C'=C:=h
      subst h
      obtain ⟨z1,ob,z2,z3⟩:=I.cell _ _ _ ha hS
      cases ob with
      | ins C2 dx vfs=>
        obtain ⟨e2,z3⟩:=z3
        subst e2
        exact ⟨_,_,_,rfl,z2⟩
      | _=>exact z3.elim
    | _=>exact h.elim
  | _=>exact h.elim
def aX (C:Addr) (G:List D->M) (ea:Env->M):Env->M:=λρ S q x=>ea ρ S (λd S1=>qc C S1 d∧G [d] S1 q nj) x
theorem S7 {k j:Nat} {pr g:Addr} {fd:FuncData} {ps:List Str} {G:List D->M} (cl:Cls X.K C) (hp:PropOf X.K C f pr g) (Fn:bf ⟨false,nn,false⟩ X.prog X.w X.K X.mg X.base k g fd ps (bh X.K 1 G)) (hr:Room j X.A) (hj:k+1≤j) (hb:Binds X.K fd ps []) (ha:GE X W e ea)
    (hab:attributeBase e f X.env (eval e X.env)=eval e X.env:=by rfl):GE X W (.Attribute e f pos) (aX C G ea):=by
  obtain ⟨t,pa,m⟩:=ha
  refine ⟨_,pe_prop (CX:=vn nn X.prog X.w) (dvs:=[]) (E:=λ_ _ _=>False) pa cl hp Fn.ok (hr.mono hj) hb .nil (λpins σ H s e s' I c=>?_) hab,λas F H S ρ σ I R q x h Q hq hx=>?_⟩
  · exact (JO c).elim
  · refine m as F H S ρ σ I R _ x h _ (λz S1 bs F1 H1 v h1 g r=>?_) hx
    obtain ⟨a,dx,vfs,rfl,ha⟩:=F_ g.sit r h1.1
    exact ⟨a,dx,vfs,rfl,ha,bs,F1,S1,[z],q,nj,g.sit,.cons r .nil,rfl,h1.2,hq.step g,XQ.no⟩
theorem bU.put {K:PySem.W.Frag} {as:List Addr} {F H:Hp} {S:WS} {k:Nat} {p:Addr} {c c':Cell} {o:HO} (I:bU K as F H S) (ha:as[k]? =some p) (hS:S[k]? =some c) (hc:c.Iq=false) (hc':c'.Iq=false) (ho:ux K F p c' o):
    aW K as F H as F (upd H p o) (S.set k c'):=by
  have z:=I.cell k p c ha hS
  have fp:F p=none:=z.out hc
  have hk:k < S.length:=(List.getElem?_eq_some_iff.mp hS).1
  refine ⟨⟨by rw [List.length_set]; exact I.len,λa u h=>?_,I.nd,λi q c2 h1 h2=>?_⟩,Pre.refl _,Ex.refl _,λ_ h=>.inl h,λ_ h=>.inl h,λa u na h=>?_,λa h=>iO h⟩
  · have np:a≠p:=λz=>by rw [z,fp] at h; cases h
    rw [upd_ne np]
    exact I.ex a u h
  · by_cases e:k=i
    · subst e
      rw [ha] at h1
      cases h1
      rw [List.getElem?_set_self hk] at h2
      cases h2
      exact ⟨λ_=>fp,o,upd_same,ho⟩
    · rw [List.getElem?_set_ne e] at h2
      have nq:q≠p:=λz=>by
        subst z
        have hia:k < as.length:=(List.getElem?_eq_some_iff.mp ha).1
        exact e ((List.getElem?_inj hia I.nd).mp (ha.trans h1.symm))
      obtain ⟨z1,ob,z2,z3⟩:=I.cell i q c2 h1 h2
      exact ⟨z1,ob,by rw [upd_ne nq]; exact z2,z3⟩
  · have np:a≠p:=λz=>na (z ▸ List.mem_of_getElem? ha)
    rw [upd_ne np]
    exact h
def putD (f:Str) (d:D):List (Str×D)->List (Str×D)
  | []=>[(f,d)]
  | (g,x) :: r=>if g=f then (g,d) :: r else (g,x) :: putD f d r
theorem jw.put {K:PySem.W.Frag} {as:List Addr} {F:Hp} {d:D} {v:V} (h:Rp K as F d v):∀ {fs:List (Str×D)} {vfs:List (Str×V)},jw K as F fs vfs->jw K as F (putD f d fs) (putF f v vfs)
  | _,_,.nil=>.cons h .nil
  | _,_,.cons (n:=n) hd r=>by
    unfold putD putF
    by_cases e:n=f
    · rw [if_pos e,if_pos e]
      exact .cons h r
    · rw [if_neg e,if_neg e]
      exact .cons hd (jw.put h r)
theorem jw.length {K:PySem.W.Frag} {as:List Addr} {F:Hp}:∀ {fs:List (Str×D)} {vfs:List (Str×V)},jw K as F fs vfs->fs.length=vfs.length
  | _,_,.nil=>rfl
  | _,_,.cons _ r=>congrArg (· +1) r.length
def Se (C:Addr) (f:Str) (d o:D) (S:WS) (q:WS->Prop):Prop:=NK o λk=>gx S[k]? λc=>Jv c λC' fs=>(C'=C∧D.clean 0 d=true∧fs.length < 1000)∧q (S.set k (.ob C (putD f d fs)))
def By (C:Addr) (f:Str) (eo ee:Env->M):Env->MS:=λρ S k=>ee ρ S (λd S1=>eo ρ S1 (λo S2=>Se C f d o S2 λS3=>k.nx ρ S3) λe S'=>k.ex e ρ S') λe S'=>k.ex e ρ S'
theorem E4 {ppos:Pos} (cl:Cls X.K C) (no:NoAttr X.K C f) (ho:GE X W o ea) (he:GE X W e eb) (hs:swapsWith e (some (.Attribute o f ppos)) pos.line X.env=pure false:=by rfl):GS X W (.Assign [.Attribute o f ppos] e pos) (By C f ea eb):=by
  obtain ⟨t,pt,mt⟩:=ho
  obtain ⟨u,pu,mu⟩:=he
  refine ⟨_,ps_fld pt pu hs,λas F H S ρ σ I R k h E q=>?_⟩
  refine mu as F H S ρ σ I R _ _ h _ (λy S1 bs F1 H1 v1 h1 g1 r1=>?_) (q.xq R)
  refine mt bs F1 H1 S1 ρ σ g1.sit (R.grow g1) _ _ h1 _ (λz S2 cs F2 H2 v2 h2 g2 r2=>?_) ((q.step g1).xq (R.grow g1))
  cases r2 with
  | cell h0=>
    obtain ⟨c,hS,h3⟩:=bT h2
    cases c with
    | ob C' fs=>
      obtain ⟨⟨e1,hcl,hlen⟩,h3⟩:=h3
      subst e1
      obtain ⟨z1,ob,z2,z3⟩:=g2.sit.cell _ _ _ h0 hS
      cases ob with
      | ins C2 dx vfs=>
        obtain ⟨e2,z3⟩:=z3
        subst e2
        have r1':Rp X.K [] F2 y v1:=(cD g2 r1).back (n:=0) (λk a hk=>absurd hk (by omega)) hcl
        have g3:=g2.sit.put (c':=.ob C2 (putD f y fs)) (o:=.ins C2 dx (putF f v1 vfs)) h0 hS rfl rfl ⟨rfl,z3.put r1'⟩
        refine ⟨_,_,dx,vfs,rfl,z2,cl,no,by rw [← z3.length]; exact hlen,?_⟩
        have g4:=(g1.trans g2).trans g3
        exact q.nx ρ _ cs _ _ σ h3 g4 (R.grow g4)
      | _=>exact z3.elim
    | _=>exact h3.elim
  | _=>exact h2.elim
def WR (l:Lk) (C:Addr) (fs:List (Str×D)) (n:Nat) (S:WS) (q:D->WS->Prop):Prop:=match l with
  | .still=>q (.obj C fs) (S.take n)
  | .new=>q (.cell n) (S.take n++[.ob C fs])
def VP (l:Lk) (C:Addr) (n:Nat) (d:D) (S:WS) (q:D->WS->Prop):Prop:=d=.non∧gx S[n]? λc=>Jv c λC' fs=>C'=C∧WR l C fs n S q
def vp (l:Lk) (C:Addr) (n:Nat) (G:List D->M) (ds:List D) (S:WS) (q:D->WS->Prop) (x:Xq):Prop:=ds.length+1=n∧G (.cell S.length :: ds) (S++[.ob C []]) (λd S2=>VP l C S.length d S2 q) λe S2=>vU S.length e S2 x
theorem Lv {K:PySem.W.Frag} {as:List Addr} {F H:Hp} {S:WS} {n:Nat} {l:Lk} {G:List D->M} {ds:List D} {vs:List V} {q:D->WS->Prop} {x:Xq} {E:XK} {Q:VK} (I:bU K as F H S) (r:aS K as F ds vs) (h:vp l C n G ds S q x)
    (hq:NQ K as F H q Q) (hx:XQ K as F H x E) (p dx:Addr) (hp:H p=none) (hdx:H dx=none) (ne:dx≠p):
    bh K n G (.ref p :: vs) (upd (upd H dx (.own p)) p (.ins C dx [])) (λv H2=>v=.non∧Q (.ref p) H2) E:=by
  obtain ⟨hn,h⟩:=h
  have hH:∀ a u,H a=some u->upd (upd H dx (.own p)) p (.ins C dx []) a=some u:=λa u e=>by
    rw [upd_ne (ne_of_none e hp),upd_ne (ne_of_none e hdx)]
    exact e
  have np:p∉as:=λz=>I.there z hp
  have I2:bU K (as++[p]) F (upd (upd H dx (.own p)) p (.ins C dx [])) (S++[.ob C []]):=IV I np (I.out hp) (λa u _=>hH a u) upd_same rfl ⟨rfl,.nil⟩
  have up :∀ {bs:List Addr} {F1 H1:Hp} {S2:WS},aW K (as++[p]) F (upd (upd H dx (.own p)) p (.ins C dx [])) bs F1 H1 S2->aW K as F H bs F1 H1 S2:=λ{bs F1 H1 S2} g=>by
    refine ⟨g.sit,pre_app.trans g.pre,g.ex,λa ha=>?_,λa ha=>?_,λa u na e=>?_,λa e=>g.there a (iO (iO e))⟩
    · rcases g.new a ha with z | z
      · exact .inl z
      · by_cases e3:a=p
        · subst e3
          exact .inr hp
        · rw [upd_ne e3] at z
          exact .inr (qR (H1:=upd H dx (.own p)) (λh=>iO h) z)
    · rcases g.newc a ha with z | z
      · rcases List.mem_append.mp z with z | z
        · exact .inl z
        · rw [List.mem_singleton] at z
          subst z
          exact .inr hp
      · by_cases e3:a=p
        · subst e3
          exact .inr hp
        · rw [upd_ne e3] at z
          exact .inr (qR (H1:=upd H dx (.own p)) (λh=>iO h) z)
    · refine g.old a u (λz=>?_) (hH a u e)
      rcases List.mem_append.mp z with z | z
      · exact na z
      · rw [List.mem_singleton] at z
        subst z
        rw [hp] at e
        cases e
  refine ⟨as++[p],F,S++[.ob C []],.cell S.length :: ds,_,_,I2,.cons (.cell (by rw [← I.len]; simp)) (r.mono (Ex.refl _) pre_app),by rw [List.length_cons]; exact hn,h,λd S2 bs F1 H1 v hd g rv=>?_,λe S2 bs F1 H1 cls dd he g rx=>Bw I hx (up g) rx he⟩
  obtain ⟨e1,h2⟩:=hd
  subst e1
  cases rv
  refine ⟨rfl,?_⟩
  obtain ⟨c,hS,h3⟩:=bT h2
  cases c with
  | ob C' fs=>
    obtain ⟨e2,h3⟩:=h3
    subst e2
    have ha:bs[S.length]? =some p:=g.pre _ _ (by rw [← I.len]; simp)
    have gu:=up g
    cases l with
    | still=>
      obtain ⟨z1,ob,z2,z3⟩:=g.sit.cell S.length p _ ha hS
      cases ob with
      | ins C2 dx2 vfs=>
        obtain ⟨e2,z3⟩:=z3
        subst e2
        have fx:F1 p=none:=z1 rfl
        have gd:=gu.drop I.nd
        rw [I.len] at gd
        refine hq _ _ as (upd F1 p (.ins C2 dx2 vfs)) H1 (.ref p) h3 ⟨gd.sit.freeze fx np z2,Pre.refl _,gd.ex.trans (Ex.new fx),λa ha=>?_,λ_ h=>.inl h,gd.old,gd.there⟩ (.obj upd_same (jw.mono (Ex.new fx) pre_nil z3))
        by_cases e3:a=p
        · subst e3
          exact .inr hp
        · rw [upd_ne e3] at ha
          exact gd.new a ha
      | _=>exact z3.elim
    | new=>
      have g2:=gu.only I.nd (by rw [I.len]; exact Nat.le_refl _) ha hS
      rw [I.len] at g2
      refine hq _ _ _ F1 H1 _ h3 g2 (.cell ?_)
      rw [← I.len]
      simp
  | _=>exact h3.elim
section
variable {k j n:Nat} {fI:Addr} {fd:FuncData} {ps ks:List Str} {l:Lk} {G:List D->M} {dvs:List D} {dv:List V} {ds:List Value} {x:Str}
theorem GU {sp:Sp} {pins:List (Addr×Obj)} {σ:L2.St} {H:Hp} {s:Shared} {Q:VK} {us:List Value} {vs:List V} (M:Mk X.K C fI) (Fn:bf ⟨false,nn,false⟩ X.prog X.w X.K X.mg X.base k fI fd ps sp) (hr:Room (k+1) X.A) (hb:Binds X.K fd ps ds) (hd:Vals dv ds) (tk:Tk nn X W) (I:Inv X pins σ H s) (r:Vals vs us)
    (h:∀ z dx,H z=none->H dx=none->dx≠z->sp (.ref z :: (vs++dv)) (upd (upd H dx (.own z)) z (.ins C dx [])) (λv H2=>v=.non∧Q (.ref z) H2) (WE W σ)):
    wpAny (model X.prog X.w) X.A (PySem.call (.ref C) us) (EP X pins σ Q) X.xe s:=by
  have hq:=h (s.heap.objs.size+1) s.heap.objs.size (I.hok.fresh (Nat.le_succ _)) (I.hok.fresh (Nat.le_refl _)) (Nat.ne_of_lt (Nat.lt_succ_self _))
  have J:=Inv.made (C:=C) I
  have r2:Vals (V.ref (s.heap.objs.size+1) :: (vs++dv)) (Value.ref (s.heap.objs.size+1) :: (us++ds)):=.cons rfl (r.append hd)
  have hl:(Value.ref (s.heap.objs.size+1) :: us++ds).length=ps.length:=r2.length.symm.trans (Fn.len _ _ _ _ hq)
  refine wpAny_call (make_map (f:=fI) I.kIn M.makes M.init (beq_iff_eq.mp M.fn) ?_)
  refine codeAny_mono (Fn.ok.run _ X.stack _ _ _ _ _ _ (WE W σ) (hr.make C us []) (J.env0.make C us []) (hb _ _ J.kIn hl) r2 hq) λr s' hz=>?_
  cases r with
  | error er=>exact tk.pass σ pins _ _ er s' J hz
  | ok fl=>
    cases fl with
    | ret u=>
      obtain ⟨v,H',J3,rv,ev,q3⟩:=J.after hz
      subst ev
      exact ⟨rv,⟨.ref _,H',J3,rfl,q3⟩⟩
    | next=>exact hz.elim
    | brk=>exact hz.elim
    | cont=>exact hz.elim
def Ja (C:Addr) (sp:Sp) (dv:List V) (E:L2.St->XK) (t:TA):TE:=λσ H Q=>t σ H λvs H1=>∀ z dx,H1 z=none->H1 dx=none->dx≠z->sp (.ref z :: (vs++dv)) (upd (upd H1 dx (.own z)) z (.ins C dx [])) (λv H2=>v=.non∧Q (.ref z) H2) (E σ)
def BV (l:Lk) (C:Addr) (n:Nat) (G:List D->M) (dvs:List D) (er:Env->ML):Env->M:=λρ S q x=>er ρ S (λds S1=>vp l C n G (ds++dvs) S1 q x) x
theorem LQ {K:PySem.W.Frag} {t:TA} (hdv:∀ as F,aS K as F dvs dv) (m:MA K W t er):ME K W (Ja C (bh K n G) dv (WE W) t) (BV l C n G dvs er):=λas F H S ρ σ I R q x h Q hq hx=>by
  refine m as F H S ρ σ I R _ x h _ (λds S1 bs F1 H1 vs h1 g r=>?_) hx
  intro z dx hz hdx ne
  exact Lv g.sit (r.append (hdv bs F1)) h1 (hq.step g) (hx.step g) z dx hz hdx ne
theorem UR (tk:Tk nn X W) (Mm:Mk X.K C fI) (Fn:bf ⟨false,nn,false⟩ X.prog X.w X.K X.mg X.base k fI fd ps (bh X.K n G)) (hr:Room j X.A) (hj:k+1≤j)
    (hm:X.mg x=some (.ref C)) (hb:Binds X.K fd ps ds) (hd:Vals dv ds) (hdv:∀ as F,aS X.K as F dvs dv) (ha:GA X W (e :: es) er) (hg:Gl X x:=by rfl) (hdb:(x == ("__debug__":Str))=false:=by decide)
    (h1:starEach (e :: es) X.env=(false,eval e X.env) :: starEach es X.env:=by rfl) (h2:(backTo pos (starEach es X.env)).any (·.1)=false:=by rfl):GE X W (.Call (.Name x p) (e :: es) [] pos) (BV l C n G dvs er):=by
  obtain ⟨t,pa,m⟩:=ha
  refine ⟨Ja C (bh X.K n G) dv (WE W) t,⟨λpins s σ H Q I h=>?_⟩,LQ hdv m⟩
  refine wpAny_Call_Name_kw (ld_glob I hg hm ?_ hdb)
  refine PySem.W.callWith_K (h₀:=X.base) I.ok.mod.kin Mm.kp (thn (pa.run pos pins s σ H _ I h) λus s1 hh=>?_) h1 h2
  obtain ⟨vs,H1,I1,r1,q1⟩:=hh
  exact ⟨I1.kIn,GU Mm Fn (hr.mono hj) hb hd tk I1 r1 q1⟩
def AH (l:Lk) (C:Addr) (n m1 m2:Nat) (G:List D->M) (gD:List D->List D->List D) (er ek:Env->ML):Env->M:=λρ S q x=>er ρ S (λds S1=>ek ρ S1 (λzs S2=>(ds.length=m1∧zs.length=m2)∧vp l C n G (gD ds zs) S2 q x) x) x
def LF (C:Addr) (m1 m2:Nat) (sp:Sp) (gV:List V->List V->List V) (E:L2.St->XK) (t u:TA):TE:=λσ H Q=>t σ H λvs H1=>u σ H1 λws H2=>(vs.length=m1∧ws.length=m2)∧∀ z dx,H2 z=none->H2 dx=none->dx≠z->sp (gV (.ref z :: vs) ws) (upd (upd H2 dx (.own z)) z (.ins C dx [])) (λv H3=>v=.non∧Q (.ref z) H3) (E σ)
theorem NU {sp:Sp} {m1:Nat} {g:List Value->List Value->List Value} {gV:List V->List V->List V} {pins:List (Addr×Obj)} {σ:L2.St} {H:Hp} {s:Shared} {Q:VK} {us ws:List Value} {vs zs:List V} (M:Mk X.K C fI) (Fn:bf ⟨false,nn,false⟩ X.prog X.w X.K X.mg X.base k fI fd ps sp) (hr:Room (k+1) X.A) (hb:KBn X.K fd ps (m1+1) ks g gV) (tk:Tk nn X W) (I:Inv X pins σ H s) (r:Vals vs us) (rz:Vals zs ws) (l1:vs.length=m1) (l2:zs.length=ks.length)
    (h:∀ z dx,H z=none->H dx=none->dx≠z->sp (gV (.ref z :: vs) zs) (upd (upd H dx (.own z)) z (.ins C dx [])) (λv H2=>v=.non∧Q (.ref z) H2) (WE W σ)):
    wpAny (model X.prog X.w) X.A (PySem.call (.ref C) us (ks.zip ws)) (EP X pins σ Q) X.xe s:=by
  have hq:=h (s.heap.objs.size+1) s.heap.objs.size (I.hok.fresh (Nat.le_succ _)) (I.hok.fresh (Nat.le_refl _)) (Nat.ne_of_lt (Nat.lt_succ_self _))
  have J:=Inv.made (C:=C) I
  have r1:Vals (V.ref (s.heap.objs.size+1) :: vs) (Value.ref (s.heap.objs.size+1) :: us):=.cons rfl r
  have e1:(Value.ref (s.heap.objs.size+1) :: us).length=m1+1:=by rw [← r1.length,List.length_cons,l1]
  have e2:ws.length=ks.length:=by rw [← rz.length,l2]
  refine wpAny_call (make_map (f:=fI) I.kIn M.makes M.init (beq_iff_eq.mp M.fn) ?_)
  refine codeAny_mono (Fn.ok.run _ X.stack _ _ _ _ _ _ (WE W σ) (hr.make C us _) (J.env0.make C us _) (hb.to _ _ ws J.kIn e1 e2) (hb.rel r1 rz) hq) λr s' hz=>?_
  cases r with
  | error er=>exact tk.pass σ pins _ _ er s' J hz
  | ok fl=>
    cases fl with
    | ret u=>
      obtain ⟨v,H',J3,rv,ev,q3⟩:=J.after hz
      subst ev
      exact ⟨rv,⟨.ref _,H',J3,rfl,q3⟩⟩
    | next=>exact hz.elim
    | brk=>exact hz.elim
    | cont=>exact hz.elim
theorem RS {K:PySem.W.Frag} {m1 m2:Nat} {gV:List V->List V->List V} {gD:List D->List D->List D} {t u:TA} (hgD:∀ as F (ds zs:List D) (vs ws:List V) (s:V),aS K as F ds vs->aS K as F zs ws->ds.length=m1->zs.length=m2->∃ us,gV (s :: vs) ws=s :: us∧aS K as F (gD ds zs) us)
    (m:MA K W t er) (mk:MA K W u ek):ME K W (LF C m1 m2 (bh K n G) gV (WE W) t u) (AH l C n m1 m2 G gD er ek):=λas F H S ρ σ I R q x h Q hq hx=>by
  refine m as F H S ρ σ I R _ x h _ (λds S1 bs F1 H1 vs h1 g1 r1=>?_) hx
  refine mk bs F1 H1 S1 ρ σ g1.sit (R.grow g1) _ x h1 _ (λzs S2 cs F2 H2 ws h2 g2 r2=>?_) (hx.step g1)
  refine ⟨⟨r1.length.symm.trans h2.1.1,r2.length.symm.trans h2.1.2⟩,λz dx hz hdx ne=>?_⟩
  obtain ⟨us,e1,r3⟩:=hgD cs F2 ds zs vs ws (.ref z) (r1.mono g2.ex g2.pre) r2 h2.1.1 h2.1.2
  rw [e1]
  exact Lv g2.sit r3 h2.2 ((hq.step g1).step g2) ((hx.step g1).step g2) z dx hz hdx ne
theorem RK {m1:Nat} {g:List Value->List Value->List Value} {gV:List V->List V->List V} {gD:List D->List D->List D} {kws:List Keyword} (tk:Tk nn X W) (Mm:Mk X.K C fI) (Fn:bf ⟨false,nn,false⟩ X.prog X.w X.K X.mg X.base k fI fd ps (bh X.K n G)) (hr:Room j X.A) (hj:k+1≤j)
    (hm:X.mg x=some (.ref C)) (hb:KBn X.K fd ps (m1+1) ks g gV) (hgD:∀ as F (ds zs:List D) (vs ws:List V) (s:V),aS X.K as F ds vs->aS X.K as F zs ws->ds.length=m1->zs.length=ks.length->∃ us,gV (s :: vs) ws=s :: us∧aS X.K as F (gD ds zs) us) (ha:GA X W (e :: es) er) (hk:GK X W kws ek) (hg:Gl X x:=by rfl)
    (hall:(backToKw pos (keywordEach kws X.env)).all (·.1.isSome)=true:=by rfl) (hks:(backToKw pos (keywordEach kws X.env)).filterMap (·.1)=ks:=by rfl) (hdb:(x == ("__debug__":Str))=false:=by decide)
    (he:starEach (e :: es) X.env=(false,eval e X.env) :: starEach es X.env:=by rfl) (hpl:((backTo pos (starEach (e :: es) X.env)).any (·.1) || (backToKw pos (keywordEach kws X.env)).any (·.1.isNone))=false:=by rfl):
    GE X W (.Call (.Name x p) (e :: es) kws pos) (AH l C n m1 ks.length G gD er ek):=by
  obtain ⟨t,pa,m⟩:=ha
  obtain ⟨u,pk,mk⟩:=hk
  refine ⟨LF C m1 ks.length (bh X.K n G) gV (WE W) t u,⟨λpins s σ H Q I h=>?_⟩,RS hgD m mk⟩
  refine wpAny_Call_Name_kw (ld_glob I hg hm ?_ hdb)
  refine PySem.W.callWith_KW (h₀:=X.base) I.ok.mod.kin Mm.kp hall (thn (pa.run pos pins s σ H _ I h) λus s1 hh=>?_) hpl he
  obtain ⟨vs,H1,I1,r,q1⟩:=hh
  refine thn (pk.run pos pins s1 σ H1 _ I1 q1) λws s2 hh2=>?_
  obtain ⟨zs,H2,I2,rz,ll,q2⟩:=hh2
  refine ⟨I2.kIn,?_⟩
  rw [hks]
  exact NU Mm Fn (hr.mono hj) hb tk I2 r rz ll.1 ll.2 q2
end
end
end RV
end
section
namespace RV
open PySem L2
section
variable {K:PySem.W.Frag} {as:List Addr} {F H:Hp} {S:WS}
theorem keep {S:WS} {Q:VK} {d:D} {v:V} (I:bU K as F H S) (q:∀ F' H' v,aW K as F H as F' H' S->Rp K as F' d v->Q v H') (r:Rp K as F d v):Q v H:=q F H v (aW.refl I) r
theorem fresh {Q:VK} {o:HO} {d:D} (I:bU K as F H S) (q:∀ F' H' v,aW K as F H as F' H' S->Rp K as F' d v->Q v H') (r:∀ p,Rp K as (upd F p o) d (.ref p)):∀ p,H p=none->Q (.ref p) (upd H p o):=λp hp=>q _ _ _ (I.grow hp) (r p)
def intD (f:Int->Int->Int):WS->D->D->Option D:=λ_ x y=>match x,y with
  | .int i,.int j=>some (.int (f i j))
  | _,_=>none
def Gy (f:Int->Int->Bool):WS->D->D->Option D:=λ_ x y=>match x,y with
  | .int i,.int j=>some (.bl (f i j))
  | _,_=>none
theorem OB {f:Int->Int->Int}:RO K (rI0 λi j=>.int (f i j)) (intD f):=λas F H S x y d vx vy I rx ry h Q q=>by
  unfold intD at h
  split at h
  · cases h
    cases rx
    cases ry
    exact ⟨_,_,rfl,rfl,keep I q (.int _)⟩
  · cases h
theorem Fi {f:Int->Int->Bool}:RO K (rI0 λi j=>.bl (f i j)) (Gy f):=λas F H S x y d vx vy I rx ry h Q q=>by
  unfold Gy at h
  split at h
  · cases h
    cases rx
    cases ry
    exact ⟨_,_,rfl,rfl,keep I q (.bl _)⟩
  · cases h
def Bq (c:Int->Int->Bool) (f:Int->Int->Int):WS->D->D->Option D:=λ_ x y=>match x,y with
  | .int i,.int j=>if c i j=true then some (.int (f i j)) else none
  | _,_=>none
theorem Bt {C:Int->Int->Prop} {c:Int->Int->Bool} {f:Int->Int->Int} (hc:∀ i j,c i j=true->C i j):RO K (rI C λi j=>.int (f i j)) (Bq c f):=λas F H S x y d vx vy I rx ry h Q q=>by
  unfold Bq at h
  split at h
  · split at h
    · rename_i hh
      cases h
      cases rx
      cases ry
      exact ⟨_,_,rfl,rfl,hc _ _ hh,keep I q (.int _)⟩
    · cases h
  · cases h
theorem RO.or {r r':R2} {f g:WS->D->D->Option D} (h:RO K r f) (h':RO K r' g):RO K (λx y H Q=>r x y H Q∨r' x y H Q) (λS x y=>(f S x y).orElse λ_=>g S x y):=λas F H S x y d vx vy I rx ry e Q q=>by
  replace e:((f S x y).orElse λ_=>g S x y)=some d:=e
  cases h1:f S x y with
  | some z=>
    rw [h1] at e
    have e':z=d:=by simpa using e
    subst e'
    exact .inl (h as F H S x y z vx vy I rx ry h1 Q q)
  | none=>
    rw [h1] at e
    exact .inr (h' as F H S x y d vx vy I rx ry (by simpa using e) Q q)
def nR (i j:Int):Bool:=decide ((-(2 ^ 64) < i∧i < 2 ^ 64)∨(-(2 ^ 64) < j∧j < 2 ^ 64))
def D5 (i j:Int):Bool:=decide (0≤j∧j≤1000000∧i.natAbs < 2 ^ 64)
theorem S5 {i j:Int} (h:nR i j=true):CMul i j:=by
  unfold nR at h
  simp only [decide_eq_true_eq] at h
  exact h
theorem UI {i j:Int} (h:D5 i j=true):CPow i j:=by
  unfold D5 at h
  simp only [decide_eq_true_eq] at h
  exact h
def Ym (_ j:Int):Bool:=decide (0 < j)
def Oe (_ j:Int):Bool:=decide (0 < j∧j < 1073741824)
def N7:WS->D->D->Option D:=λ_ x y=>match x,y with
  | .str a,.str b=>if small (a.length+b.length)=true then some (.str (a++b)) else none
  | _,_=>none
theorem UU:RO K (λx y H Q=>∃ i j,x=.str i∧y=.str j∧i.length+j.length≤sizeLine∧Q (.str (i++j)) H) N7:=λas F H S x y d vx vy I rx ry h Q q=>by
  unfold N7 at h
  split at h
  · split at h
    · rename_i hh
      cases h
      cases rx
      cases ry
      exact ⟨_,_,rfl,rfl,kJ hh,keep I q (.str _)⟩
    · cases h
  · cases h
def QD:WS->D->D->Option D:=λ_ x y=>match x,y with
  | .lst a,.lst b=>if small (a.length+b.length)=true then some (.lst (a++b)) else none
  | _,_=>none
theorem S9:RO K rCat QD:=λas F H S x y d vx vy I rx ry h Q q=>by
  unfold QD at h
  split at h
  · split at h
    · rename_i hh
      cases h
      cases rx with
      | lst h1 r1=>
        cases ry with
        | lst h2 r2=>
          refine ⟨_,_,_,_,rfl,rfl,I.ex _ _ h1,I.ex _ _ h2,by rw [← r1.length,← r2.length]; exact kJ hh,λp hp=>?_⟩
          refine q _ _ _ (I.grow hp) (.lst upd_same ((r1.append r2).mono (Ex.new (I.out hp)) (Pre.refl _)))
    · cases h
  · cases h
def aH:WS->D->D->Option D:=λS x y=>match x,y with
  | .lst ds,.int i=>atI ds i
  | .tup ds,.int i=>atI ds i
  | .str s,.int i=>if small s.length=true then (atI s.cps.toList i).map λc=>.str ⟨#[c]⟩ else none
  | .cell k,.int i=>match S[k]? with
    | some (.lst ds)=>atI ds i
    | _=>none
  | .scr ns,.int i=>(atI ns i).map D.int
  | _,_=>none
theorem Tp {ns:List Int} {i n:Int} (h:L2.atI ns i=some n):L2.atI (ns.map V.int) i=some (V.int n):=by
  unfold L2.atI at h ⊢
  rw [List.length_map]
  cases h1:ixN ns.length i with
  | none=>rw [h1] at h; cases h
  | some j=>
    rw [h1] at h
    simp only [Option.bind_some] at h ⊢
    rw [List.getElem?_map,h]
    rfl
theorem aS.atI {ds:List D} {vs:List V} (r:aS K as F ds vs) {i:Int} {d:D} (h:L2.atI ds i=some d):∃ v,L2.atI vs i=some v∧Rp K as F d v:=by
  unfold L2.atI at h ⊢
  rw [← r.length]
  cases h1:ixN ds.length i with
  | none=>rw [h1] at h; cases h
  | some j=>
    rw [h1] at h
    simp only [Option.bind_some] at h ⊢
    exact r.get h
theorem aJ:RO K (rIx K) aH:=λas F H S x y d vx vy I rx ry h Q q=>by
  unfold aH at h
  split at h
  · cases ry
    cases rx with
    | lst h1 r1=>
      obtain ⟨v,e,rv⟩:=r1.atI h
      exact .inl ⟨_,_,_,v,rfl,rfl,SqL.of (I.ex _ _ h1),e,keep I q rv⟩
  · cases ry
    cases rx with
    | tup h1 r1=>
      obtain ⟨v,e,rv⟩:=r1.atI h
      exact .inr (.inl ⟨_,_,_,v,rfl,rfl,I.ex.kT h1,e,keep I q rv⟩)
  · split at h
    · rename_i hh
      cases ry
      cases rx
      rename_i s i
      cases h1:atI s.cps.toList i with
      | none=>rw [h1] at h; cases h
      | some c=>
        rw [h1] at h
        cases h
        exact .inr (.inr ⟨_,_,c,rfl,rfl,kJ hh,h1,keep I q (.str _)⟩)
    · cases h
  · rename_i k i
    split at h
    · rename_i ds hS
      cases ry
      cases rx with
      | cell ha=>
        obtain ⟨z1,ob,z2,z3⟩:=I.cell k _ _ ha hS
        cases ob with
        | lst xs=>
          obtain ⟨v,e,rv⟩:=aS.atI (K:=K) (as:=[]) (F:=F) z3 h
          exact .inl ⟨_,_,_,v,rfl,rfl,SqL.of z2,e,keep I q (rv.mono (Ex.refl _) pre_nil)⟩
        | _=>exact z3.elim
    · cases h
  · simp only [Option.map_eq_some_iff] at h
    obtain ⟨n,h1,rfl⟩:=h
    cases ry
    cases rx with
    | scr hs=>exact .inl ⟨_,_,_,_,rfl,rfl,I.ex.tT hs,Tp h1,keep I q (.int n)⟩
  · cases h
def kF:D->Bool
  | .non=>true
  | .bl _=>true
  | .int _=>true
  | .str _=>true
  | _=>false
def n9:D->D->Bool
  | .non,.non=>true
  | .bl a,.bl b=>a == b
  | .bl a,.int b=>(if a then 1 else 0) == b
  | .int a,.bl b=>a == (if b then 1 else 0)
  | .int a,.int b=>a == b
  | .str a,.str b=>a == b
  | _,_=>false
theorem JA {d:D} {v:V} (r:Rp K as F d v) (h:kF d=true):flatV v=true:=by
  cases r <;> first | rfl | cases h
theorem CV:∀ {ds:List D} {vs:List V},aS K as F ds vs->ds.all kF=true->vs.all flatV=true
  | _,_,.nil,_=>rfl
  | _,_,.cons h r,e=>by
    simp only [List.all_cons,Bool.and_eq_true] at e ⊢
    exact ⟨JA h e.1,CV r e.2⟩
theorem Jb {d e:D} {v u:V} (r:Rp K as F d v) (s:Rp K as F e u) (hd:kF d=true) (he:kF e=true):eqV v u=n9 d e:=by
  cases r <;> first | (cases hd; done) | (cases s <;> first | rfl | (cases he; done))
theorem Sz {x:D} {vx:V} (rx:Rp K as F x vx) (hx:kF x=true):∀ {ds:List D} {vs:List V},aS K as F ds vs->ds.all kF=true->inV vx vs=ds.any λy=>n9 y x
  | _,_,.nil,_=>rfl
  | _,_,.cons h r,e=>by
    simp only [List.all_cons,Bool.and_eq_true] at e
    have ih:=Sz rx hx r e.2
    unfold inV at ih ⊢
    simp only [List.any_cons,ih,Jb h rx e.1 hx]
def br (S:WS):D->Option (List D)
  | .lst ds=>some ds
  | .tup ds=>some ds
  | .scr ns=>some (ns.map D.int)
  | .cell k=>match S[k]? with
    | some (.lst ds)=>some ds
    | _=>none
  | _=>none
theorem qD {x:D} {v:V} {ds:List D} (I:bU K as F H S) (r:Rp K as F x v) (h:br S x=some ds):∃ a xs,v=.ref a∧(SqL K H a xs∨SqT K H a xs)∧aS K as F ds xs:=by
  cases x with
  | lst ds'=>
    cases h
    cases r with
    | lst h1 r1=>exact ⟨_,_,rfl,.inl (SqL.of (I.ex _ _ h1)),r1⟩
  | tup ds'=>
    cases h
    cases r with
    | tup h1 r1=>exact ⟨_,_,rfl,.inr (I.ex.kT h1),r1⟩
  | scr ns=>
    cases h
    cases r with
    | scr h1=>exact ⟨_,_,rfl,.inl (I.ex.tT h1),uC ns⟩
  | cell k=>
    unfold br at h
    cases hS:S[k]? with
    | none=>simp [hS] at h
    | some c=>
      cases c with
      | lst es=>
        simp only [hS] at h
        cases h
        cases r with
        | cell ha=>
          obtain ⟨z1,ob,z2,z3⟩:=I.cell k _ _ ha hS
          cases ob with
          | lst xs=>exact ⟨_,_,rfl,.inl (SqL.of z2),aS.mono (Ex.refl _) pre_nil z3⟩
          | _=>exact z3.elim
      | _=>simp [hS] at h
  | _=>cases h
def inD (neg:Bool):WS->D->D->Option D:=λS x y=>(br S y).bind λds=>if kF x=true∧ds.all kF=true then some (.bl (if neg then !ds.any (λy=>n9 y x) else ds.any λy=>n9 y x)) else none
theorem qL {neg:Bool}:RO K (rIn K neg) (inD neg):=λas F H S x y d vx vy I rx ry h Q q=>by
  unfold inD at h
  cases h1:br S y with
  | none=>rw [h1] at h; cases h
  | some ds=>
    simp only [h1,Option.bind_some] at h
    split at h
    · rename_i hh
      cases h
      obtain ⟨a,xs,rfl,hs,r⟩:=qD I ry h1
      refine ⟨a,xs,rfl,hs,JA rx hh.1,CV r hh.2,?_⟩
      rw [Sz rx hh.1 r hh.2]
      exact keep I q (.bl _)
    · cases h
def qa (neg:Bool):WS->D->D->Option D:=λ_ x y=>match x,y with
  | .str s,.str z=>match s.cps.toList with
    | [c]=>some (.bl (if neg then !decide (c∈z.cps.toList) else decide (c∈z.cps.toList)))
    | _=>none
  | _,_=>none
theorem one_sign {s:Str} {c:Nat} (h:s.cps.toList=[c]):s=⟨#[c]⟩:=by
  obtain ⟨a⟩:=s
  have:a=#[c]:=by
    apply Array.ext'
    simpa using h
  rw [this]
theorem Py:RO K (λx y H Q=>∃ (c:Nat) (z:Str),x=.str ⟨#[c]⟩∧y=.str z∧Q (.bl (decide (c∈z.cps.toList))) H) (qa false):=λas F H S x y d vx vy I rx ry h Q q=>by
  unfold qa at h
  split at h
  · split at h
    · rename_i hc
      cases h
      cases rx
      cases ry
      rw [one_sign hc]
      exact ⟨_,_,rfl,rfl,keep I q (.bl _)⟩
    · cases h
  · cases h
theorem P0:RO K (λx y H Q=>∃ (c:Nat) (z:Str),x=.str ⟨#[c]⟩∧y=.str z∧Q (.bl (!decide (c∈z.cps.toList))) H) (qa true):=λas F H S x y d vx vy I rx ry h Q q=>by
  unfold qa at h
  split at h
  · split at h
    · rename_i hc
      cases h
      cases rx
      cases ry
      rw [one_sign hc]
      exact ⟨_,_,rfl,rfl,keep I q (.bl _)⟩
    · cases h
  · cases h
mutual
def D.py:D->Option PyData
  | .non=>some .none
  | .bl b=>some (.bool b)
  | .int i=>some (.int i)
  | .str s=>some (.str s)
  | .tup ds=>(D.Ac ds).map PyData.tuple
  | .lst ds=>(D.Ac ds).map PyData.list
  | .ty _ | .adr _ | .cell _ | .scr _ | .obj _ _ | .dic _ | .exc _ _ | .exv _ _ _ _ | .ptu _ | .clo _ _ _ _ _ _=>none
def D.Ac:List D->Option (List PyData)
  | []=>some []
  | d :: ds=>(D.py d).bind λa=>(D.Ac ds).map λb=>a :: b
end
mutual
theorem Rp.dp (I:Ex F H):∀ {d:D} {v:V} {p:PyData},Rp K as F d v->D.py d=some p->Dp K H v p
  | _,_,_,.non,h=>by
    unfold D.py at h
    cases h
    exact .non
  | _,_,_,.bl b,h=>by
    unfold D.py at h
    cases h
    exact .bl b
  | _,_,_,.int i,h=>by
    unfold D.py at h
    cases h
    exact .int i
  | _,_,_,.str s,h=>by
    unfold D.py at h
    cases h
    exact .str s
  | _,_,_,.ty n,h=>by unfold D.py at h; cases h
  | _,_,_,.adr a,h=>by unfold D.py at h; cases h
  | _,_,_,.cell _,h=>by unfold D.py at h; cases h
  | _,_,_,.scr _,h=>by unfold D.py at h; cases h
  | _,_,_,.obj _ _,h=>by unfold D.py at h; cases h
  | _,_,_,.dic _ _,h=>by unfold D.py at h; cases h
  | _,_,_,.ptu _ _,h=>by unfold D.py at h; cases h
  | _,_,_,.clo _ _ _,h=>by unfold D.py at h; cases h
  | _,_,_,.tup h1 r,h=>by
    unfold D.py at h
    simp only [Option.map_eq_some_iff] at h
    obtain ⟨ps,h2,rfl⟩:=h
    exact .tup (I.kT h1) (aS.dp I r h2)
  | _,_,_,.lst h1 r,h=>by
    unfold D.py at h
    simp only [Option.map_eq_some_iff] at h
    obtain ⟨ps,h2,rfl⟩:=h
    exact .lst (SqL.of (I _ _ h1)) (aS.dp I r h2)
theorem aS.dp (I:Ex F H):∀ {ds:List D} {vs:List V} {ps:List PyData},aS K as F ds vs->D.Ac ds=some ps->DpAll K H vs ps
  | _,_,_,.nil,h=>by
    unfold D.Ac at h
    cases h
    exact .nil
  | _,_,_,.cons hd r,h=>by
    unfold D.Ac at h
    simp only [Option.bind_eq_some_iff,Option.map_eq_some_iff] at h
    obtain ⟨a,h1,b,h2,rfl⟩:=h
    exact .cons (Rp.dp I hd h1) (aS.dp I r h2)
end
def kY:D->D->Option Bool
  | .str a,.str b=>some (decide (a=b))
  | .int a,.int b=>some (decide (a=b))
  | .bl a,.bl b=>some (decide (a=b))
  | _,_=>none
theorem wZ {α β:Type} [DecidableEq α] [DecidableEq β] {a b:α} {f:α->β} (hf:∀ x y,f x=f y->x=y):decide (f a=f b)=decide (a=b):=by
  by_cases h:a=b
  · subst h
    simp
  · rw [decide_eq_false h,decide_eq_false λz=>h (hf _ _ z)]
theorem WH:RO K rEq (λ_ x y=>(kY x y).map D.bl):=λas F H S x y d vx vy I rx ry h Q q=>by
  replace h:(kY x y).map D.bl=some d:=h
  unfold kY at h
  split at h
  · cases h
    cases rx
    cases ry
    refine ⟨rfl,?_⟩
    rw [wZ (f:=V.str) λx y e=>by cases e; rfl]
    exact keep I q (.bl _)
  · cases h
    cases rx
    cases ry
    refine ⟨rfl,?_⟩
    rw [wZ (f:=V.int) λx y e=>by cases e; rfl]
    exact keep I q (.bl _)
  · cases h
    cases rx
    cases ry
    refine ⟨rfl,?_⟩
    rw [wZ (f:=V.bl) λx y e=>by cases e; rfl]
    exact keep I q (.bl _)
  · cases h
theorem VC:RO K rNe (λ_ x y=>(kY x y).map λc=>D.bl (!c)):=λas F H S x y d vx vy I rx ry h Q q=>by
  replace h:((kY x y).map λc=>D.bl (!c))=some d:=h
  unfold kY at h
  split at h
  · cases h
    cases rx
    cases ry
    refine ⟨rfl,?_⟩
    rw [wZ (f:=V.str) λx y e=>by cases e; rfl]
    exact keep I q (.bl _)
  · cases h
    cases rx
    cases ry
    refine ⟨rfl,?_⟩
    rw [wZ (f:=V.int) λx y e=>by cases e; rfl]
    exact keep I q (.bl _)
  · cases h
    cases rx
    cases ry
    refine ⟨rfl,?_⟩
    rw [wZ (f:=V.bl) λx y e=>by cases e; rfl]
    exact keep I q (.bl _)
  · cases h
def bQ:WS->List D->Option D:=λS xs=>match xs with
  | [.str s]=>if small s.length=true then some (.int (s.length:Nat)) else none
  | [x]=>(br S x).map λds=>.int (ds.length:Nat)
  | _=>none
theorem dW:RC K (λxs H Q=>∃ x n,xs=[x]∧LenV K x H n∧Q (.int n) H) bQ:=λas F H S ds d vs I r h Q q=>by
  unfold bQ at h
  split at h
  · split at h
    · rename_i hh
      cases h
      obtain ⟨v,ws,rfl,rv,rn⟩:=r.dG
      obtain rfl:=rn.dR
      cases rv
      exact ⟨_,_,rfl,⟨kJ hh,rfl⟩,keep I q (.int _)⟩
    · cases h
  · simp only [Option.map_eq_some_iff] at h
    obtain ⟨es,h1,rfl⟩:=h
    obtain ⟨v,ws,rfl,rv,rn⟩:=r.dG
    obtain rfl:=rn.dR
    obtain ⟨a,xs,rfl,hs,rl⟩:=qD I rv h1
    refine ⟨_,es.length,rfl,?_,keep I q (.int _)⟩
    rcases hs with hs | hs
    · exact .inl ⟨_,hs,rl.length⟩
    · exact .inr ⟨_,hs,rl.length⟩
  · cases h
def rj:List D->Option (List Bool)
  | []=>some []
  | .bl b :: r=>(rj r).map λt=>b :: t
  | _=>none
theorem Gk:∀ {ds:List D} {vs:List V} {bs:List Bool},aS K as F ds vs->rj ds=some bs->vs=bs.map V.bl
  | _,_,bs,.nil,h=>by
    unfold rj at h
    cases h
    rfl
  | _,_,bs,.cons (d:=d) hd r,h=>by
    cases hd with
    | bl b=>
      unfold rj at h
      simp only [Option.map_eq_some_iff] at h
      obtain ⟨t,h1,rfl⟩:=h
      rw [Gk r h1]
      rfl
    | _=>cases h
def yb:WS->List D->Option D:=λ_ xs=>match xs with
  | [.lst ds]=>(rj ds).map λbs=>.bl (bs.all id)
  | _=>none
def J9:WS->List D->Option D:=λ_ xs=>match xs with
  | [.lst ds]=>(rj ds).map λbs=>.bl (bs.any id)
  | _=>none
theorem DX:RC K (rAll K) yb:=λas F H S ds d vs I r h Q q=>by
  unfold yb at h
  split at h
  · simp only [Option.map_eq_some_iff] at h
    obtain ⟨bs,h1,rfl⟩:=h
    obtain ⟨v,ws,rfl,rv,rn⟩:=r.dG
    obtain rfl:=rn.dR
    cases rv with
    | lst h2 rl=>
      have e:=Gk rl h1
      subst e
      exact ⟨_,bs,rfl,SqL.of (I.ex _ _ h2),keep I q (.bl _)⟩
  · cases h
theorem UW:RC K (rAny K) J9:=λas F H S ds d vs I r h Q q=>by
  unfold J9 at h
  split at h
  · simp only [Option.map_eq_some_iff] at h
    obtain ⟨bs,h1,rfl⟩:=h
    obtain ⟨v,ws,rfl,rv,rn⟩:=r.dG
    obtain rfl:=rn.dR
    cases rv with
    | lst h2 rl=>
      have e:=Gk rl h1
      subst e
      exact ⟨_,bs,rfl,SqL.of (I.ex _ _ h2),keep I q (.bl _)⟩
  · cases h
def MM (K:PySem.W.Frag) (r:V->Option Int->Option Int->Hp->VK->Prop) (f:WS->D->Option Int->Option Int->Option D):Prop:=∀ (as:List Addr) (F H:Hp) (S:WS) (x d:D) (vx:V) (lo hi:Option Int),bU K as F H S->Rp K as F x vx->f S x lo hi=some d->
  ∀ Q:VK,(∀ F' H' v,aW K as F H as F' H' S->Rp K as F' d v->Q v H')->r vx lo hi H Q
def cutD (ds:List D) (lo hi:Option Int):List D:=(ds.drop (HT.sIx ds.length 0 lo)).take (HT.sIx ds.length ds.length hi - HT.sIx ds.length 0 lo)
end
section
variable {X:Cx} {W:WX} {e:Expr} {pos:Pos} {ea:Env->M}
abbrev MO:=WS->(Option Int->WS->Prop)->Xq->Prop
structure GO (X:Cx) (W:WX) (e:Option Expr) (m:Env->MO):Prop where
  ex:∃ t:TO,PO X e t∧∀ (as:List Addr) (F H:Hp) (S:WS) (ρ:Env) (σ:L2.St),bU X.K as F H S->fT X.K as F ρ σ->∀ q x,m ρ S q x->
    ∀ Q:Option Int->Hp->Prop,(∀ o S' bs F' H',q o S'->aW X.K as F H bs F' H' S'->Q o H')->XQ X.K as F H x (WE W σ)->t σ H Q
def Iz:Env->MO:=λ_ S q _=>q none S
def Ir (ea:Env->M):Env->MO:=λρ S q x=>ea ρ S (λd S1=>Bf d λi=>q (some i) S1) x
theorem Tj:GO X W none Iz:=⟨_,po_none,λas F H S ρ σ I R q x h Q hq _=>hq none S as F H h (aW.refl I)⟩
theorem T3 (h:GE X W e ea):GO X W (some e) (Ir ea):=by
  obtain ⟨t,p,m⟩:=h
  refine ⟨_,po_some p,λas F H S ρ σ I R q x h Q hq hx=>?_⟩
  refine m as F H S ρ σ I R _ x h _ (λd S1 bs F1 H1 v h1 g r=>?_) hx
  cases r with
  | int i=>exact ⟨i,rfl,hq _ S1 bs F1 H1 h1 g⟩
  | _=>exact h1.elim
def SN (f:WS->D->Option Int->Option Int->Option D) (ea:Env->M) (lo hi:Env->MO):Env->M:=λρ S q x=>ea ρ S (λu S1=>lo ρ S1 (λl S2=>hi ρ S2 (λh S3=>gx (f S3 u l h) λd=>q d S3) x) x) x
theorem Rg {lo hi:Option Expr} {p2:Pos} {r:V->Option Int->Option Int->Hp->VK->Prop} {f:WS->D->Option Int->Option Int->Option D} {ml mh:Env->MO} (hr:SlR X r) (hf:MM X.K r f) (he:GE X W e ea) (hl:GO X W lo ml) (hh:GO X W hi mh):GE X W (.Subscript e (.Slice lo hi none p2) pos) (SN f ea ml mh):=by
  obtain ⟨t,p,m⟩:=he
  obtain ⟨tl,pl,m1⟩:=hl
  obtain ⟨tu,pu,m2⟩:=hh
  refine ⟨_,pe_slice hr p pl pu,λas F H S ρ σ I R q x h Q hq hx=>?_⟩
  refine m as F H S ρ σ I R _ x h _ (λu S1 bs F1 H1 v h1 g1 r1=>?_) hx
  refine m1 bs F1 H1 S1 ρ σ g1.sit (R.grow g1) _ x h1 _ (λl S2 cs F2 H2 h2 g2=>?_) (hx.step g1)
  have g12:=g1.trans g2
  refine m2 cs F2 H2 S2 ρ σ g2.sit (R.grow g12) _ x h2 _ (λk S3 ls F3 H3 h3 g3=>?_) (hx.step g12)
  obtain ⟨d,h4,h5⟩:=bT h3
  exact hf ls F3 H3 S3 u d v l k g3.sit (cD (g2.trans g3) r1) h4 Q λF4 H4 y g4 r4=>hq d S3 ls F4 H4 y h5 ((g12.trans g3).trans g4) r4
end
end RV
end
section
namespace RV
open PySem L2
variable {nn:Bool}
section
variable {K:PySem.W.Frag} {as:List Addr} {F H:Hp} {S:WS}
structure nH (K:PySem.W.Frag) (C:Addr):Prop where
  cl:Cls K C
  ha:PySem.W.findIn K (.ref C) "__class__"=some (some (.builtin "object.__class__"))
  hn:PySem.W.specialIn K (.builtin "object.__class__") "__get__"=some (some (.builtin "getset_descriptor.__get__"))
  tk:PySem.W.takesIn K (.builtin "object.__class__")=some true
  mro:PySem.W.mroIn K C (.type "object")=some true
def Bv (own:Addr->Bool):D->Option Value
  | .non=>some (.type "NoneType")
  | .bl _=>some (.type "bool")
  | .int _=>some (.type "int")
  | .str _=>some (.type "str")
  | .tup _=>some (.type "tuple")
  | .lst _=>some (.type "list")
  | .dic _=>some (.type "dict")
  | .obj C _=>if own C=true then some (.ref C) else none
  | _=>none
theorem VX {own:Addr->Bool} {d:D} {v:V} {t:Value} (ho:∀ C,own C=true->nH K C) (e:Ex F H) (r:Rp K as F d v) (h:Bv own d=some t):TyX K H v t:=by
  cases r with
  | non=>
    cases h
    exact .base .non
  | bl b=>
    cases h
    exact .base (.bl b)
  | int i=>
    cases h
    exact .base (.int i)
  | str s=>
    cases h
    exact .base (.str s)
  | tup h1 _=>
    cases h
    rcases h1 with h1 | ⟨o,its,n,h1,h2,_⟩
    · rcases h1 with h1 | ⟨o,h1⟩
      · exact .base (.tup (e _ _ h1))
      · exact .fTuple (e _ _ h1)
    · exact .kTuple h1 h2
  | lst h1 _=>
    cases h
    exact .base (.lst (e _ _ h1))
  | dic h1 _=>
    cases h
    exact .base (.dK (e _ _ h1))
  | obj h1 _=>
    unfold Bv at h
    simp only at h
    split at h
    · rename_i hc
      cases h
      have k:=ho _ hc
      exact .base (.ins (e _ _ h1) k.cl k.ha k.hn k.tk k.mro)
    · cases h
  | _=>cases h
def Wu:D->Option Value
  | .ty n=>some (.type n)
  | .adr a=>some (.ref a)
  | _=>none
def gU (own:Addr->Bool) (tab:Value->Value->Option Bool):WS->List D->Option D:=λ_ xs=>match xs with
  | [x,c]=>(Bv own x).bind λt=>(Wu c).bind λu=>(tab t u).map D.bl
  | _=>none
theorem j5 {own:Addr->Bool} {tab:Value->Value->Option Bool} (ho:∀ C,own C=true->nH K C) (ht:∀ t u b,tab t u=some b->PySem.W.kitOne K t u=some b):RC K (rIsi K) (gU own tab):=λas F H S ds d vs I r h Q q=>by
  unfold gU at h
  split at h
  · simp only [Option.bind_eq_some_iff,Option.map_eq_some_iff] at h
    obtain ⟨t,h1,u,h2,b,h3,rfl⟩:=h
    obtain ⟨v,ws,rfl,rv,rn⟩:=r.dG
    obtain ⟨w,zs,rfl,rw',rn⟩:=rn.dG
    obtain rfl:=rn.dR
    refine ⟨v,w,t,u,b,rfl,?_,VX ho I.ex rv h1,ht t u b h3,keep I q (.bl _)⟩
    cases rw' with
    | ty n=>
      cases h2
      exact .ty n
    | adr a=>
      cases h2
      exact .own a
    | _=>cases h2
  · cases h
def dN:WS->D->Option Bool:=λS x=>match x with
  | .non=>some false
  | .bl b=>some b
  | .int i=>some (i != 0)
  | .str s=>if small s.length=true then some ((s.length:Int) != 0) else none
  | x=>(br S x).map λds=>!ds.isEmpty
theorem bW:RT K (λx H Q=>∃ k,TruV K x H k∧Q k H) dN:=λas F H S x b vx I r h Q q=>by
  have go:∀ {ds:List D},br S x=some ds->(!ds.isEmpty)=b->∃ k,TruV K vx H k∧Q k H:=λ{ds} h1 e=>by
    obtain ⟨a,xs,rfl,hs,rl⟩:=qD I r h1
    refine ⟨b,?_,q F H (aW.refl I)⟩
    have e2:(!xs.isEmpty)=b:=by
      rw [← e]
      cases rl <;> rfl
    rcases hs with hs | hs
    · exact .inl ⟨_,hs,e2.symm⟩
    · exact .inr (.inl ⟨_,hs,e2.symm⟩)
  unfold dN at h
  split at h
  · cases h
    cases r
    exact ⟨false,rfl,q F H (aW.refl I)⟩
  · cases h
    cases r
    exact ⟨b,rfl,q F H (aW.refl I)⟩
  · cases h
    cases r
    exact ⟨_,rfl,q F H (aW.refl I)⟩
  · split at h
    · rename_i hs
      cases h
      cases r
      exact ⟨_,⟨kJ hs,rfl⟩,q F H (aW.refl I)⟩
    · cases h
  · simp only [Option.map_eq_some_iff] at h
    obtain ⟨ds,h1,h2⟩:=h
    exact go h1 h2
theorem RT.or {r r':V->Hp->(Bool->Hp->Prop)->Prop} {f g:WS->D->Option Bool} (h:RT K r f) (h':RT K r' g):RT K (λx H Q=>r x H Q∨r' x H Q) (λS x=>(f S x).orElse λ_=>g S x):=λas F H S x b vx I rx e Q q=>by
  replace e:((f S x).orElse λ_=>g S x)=some b:=e
  cases h1:f S x with
  | some z=>
    rw [h1] at e
    have e':z=b:=by simpa using e
    subst e'
    exact .inl (h as F H S x z vx I rx h1 Q q)
  | none=>
    rw [h1] at e
    exact .inr (h' as F H S x b vx I rx (by simpa using e) Q q)
end
section
variable {X:Cx} {W:WX}
def SG (K:PySem.W.Frag):List V->Hp->VK->Prop:=λxs H Q=>∃ x d,xs=[x]∧Dp K H x d∧d.showable=true∧d.hasDict=false∧d.depth≤64∧d.shown.length≤sizeLine∧Q (.str d.shown) H
def u9:WS->List D->Option D:=λ_ xs=>match xs with
  | [x]=>(D.py x).bind λp=>if p.showable=true∧p.hasDict=false∧p.depth≤64∧p.shown.length≤sizeLine then some (.str p.shown) else none
  | _=>none
theorem SW {K:PySem.W.Frag}:RC K (SG K) u9:=λas F H S ds d vs I r h Q q=>by
  unfold u9 at h
  split at h
  · simp only [Option.bind_eq_some_iff] at h
    obtain ⟨p,h1,h2⟩:=h
    split at h2
    · rename_i hh
      cases h2
      obtain ⟨v,ws,rfl,rv,rn⟩:=r.dG
      obtain rfl:=rn.dR
      exact ⟨_,p,rfl,rv.dp I.ex h1,hh.1,hh.2.1,hh.2.2.1,hh.2.2.2,keep I q (.str _)⟩
    · cases h2
  · cases h
variable {a b:Expr} {pos:Pos} {ea eb:Env->M}
end
end RV
end
section
namespace RV
open PySem L2
section
variable {X:Cx} {W:WX} {a b c e o tg iter elt:Expr} {pos:Pos} {ea eb ec ee eo ei:Env->M} {er:Env->ML} {mc:Env->MB}
def BC (f:D->Env->Option Env) (ea:Env->M):Env->MS:=λρ S k=>ea ρ S (λd S1=>gx (f d ρ) λρ'=>k.nx ρ' S1) λe S'=>k.ex e ρ S'
theorem ES {vs:List Nat} {f:D->Env->Option Env} (he:GE X W e ea) (hg:GG X tg vs f) (hs:swapsWithSole [tg] e pos.line X.env=pure false:=by rfl) (hw:swappedStores [tg] e X.env=pure none:=by rfl) (h1:(assignEach [tg] X.env).map (·.2)=[assign tg X.env]:=by rfl):GS X W (.Assign [tg] e pos) (BC f ea):=by
  obtain ⟨t,p,m⟩:=he
  obtain ⟨g,pg,mg⟩:=hg
  refine ⟨_,ps_asg p pg hs hw h1,λas F H S ρ σ I R k h E q=>?_⟩
  refine m as F H S ρ σ I R _ _ h _ (λd S1 bs F1 H1 v h1 g r=>?_) (q.xq R)
  obtain ⟨ρ',h2,h3⟩:=bT h1
  exact mg bs F1 H1 S1 ρ σ d v ρ' g.sit (R.grow g) r h2 _ λσ' _ R'=>q.nx ρ' S1 bs F1 H1 σ' h3 g R'
def yl (i j:Nat) (er:Env->ML):Env->MS:=λρ S k=>er ρ S (λds S1=>G3 ds λx y=>k.nx ((ρ.set i (some x)).set j (some y)) S1) λe S'=>k.ex e ρ S'
theorem xE (i j:Nat) {x y:Str} {px py pt pt2:Pos} {kt k2:Nat} (hc:X.calm=true) (hN:X.N.Nodup) (ha:GA X W [a,b] er) (hi:X.N[i]? =some x:=by rfl) (hj:X.N[j]? =some y:=by rfl) (hij:i≠j:=by decide)
    (hx:X.env.scope.names.lookup x=some .local:=by rfl) (hy:X.env.scope.names.lookup y=some .local:=by rfl)
    (hw:swappedStores [.Tuple [.Name x px,.Name y py] kt pt] (.Tuple [a,b] k2 pt2) X.env=pure (some [x,y]):=by rfl)
    (hs:swapsWithSole [.Tuple [.Name x px,.Name y py] kt pt] (.Tuple [a,b] k2 pt2) pos.line X.env=pure false:=by rfl):
    GS X W (.Assign [.Tuple [.Name x px,.Name y py] kt pt] (.Tuple [a,b] k2 pt2) pos) (yl i j er):=by
  obtain ⟨t,p,m⟩:=ha
  refine ⟨_,ps_par hc hN hi hj hij hx hy p hw hs,λas F H S ρ σ I R k h E q=>?_⟩
  refine m as F H S ρ σ I R _ _ h _ (λds S1 bs F1 H1 vs h1 g r=>?_) (q.xq R)
  obtain ⟨d1,d2,rfl,h1⟩:=A3 h1
  obtain ⟨v,ws,rfl,r1,rn⟩:=r.dG
  obtain ⟨w,zs,rfl,r2,rn⟩:=rn.dG
  obtain rfl:=rn.dR
  exact ⟨v,w,rfl,q.nx _ S1 bs F1 H1 _ h1 g (((R.grow g).set r1).set r2)⟩
theorem kH (i:Nat) {y:Str} {py spos:Pos} {scope:Scope} {own:List (Str×Nat)} {ifs:List Expr} {l:Lk} {mi:Env->MW} {us:List Nat} {f:D->Env->Option Env} (hc:X.calm=true) (hN:X.N.Nodup) (hi:GI X W tg iter mi) (ok:BlkOk X.N X.env.scope scope own)
    (hg:∀ (s:Shared) (H:Hp) (C:Addr) (cl:List (Str×Addr)) (fp:List Addr),GG (X.blk s H scope (compEnvC scope cl C X.env) fp) tg us f)
    (ht:∀ (s:Shared) (H:Hp) (C:Addr) (cl:List (Str×Addr)) (fp:List Addr),Ma (X.blk s H scope (compEnvC scope cl C X.env) fp) ifs mc)
    (he:∀ (s:Shared) (H:Hp) (C:Addr) (cl:List (Str×Addr)) (fp:List Addr),GE (X.blk s H scope (compEnvC scope cl C X.env) fp) WF elt ee)
    (hsw:swapsWith (.ListComp elt [⟨tg,iter,ifs,0⟩] scope pos) (some (.Name y py)) spos.line X.env=pure true)
    (hy:X.N[i]? =some y:=by rfl) (hyl:X.env.scope.names.lookup y=some .local:=by rfl)
    (hu:∀ x∈us,x∈own.map (·.2):=by decide) (hs:∀ (x:Value),foldedSetIterable iter X.env x=pure x:=by intro _; rfl):
    GS X W (.Assign [.Name y py] (.ListComp elt [⟨tg,iter,ifs,0⟩] scope pos) spos) (bC i (gH l mi f mc ee (own.map (·.2)))):=by
  obtain ⟨wi,pi,mi'⟩:=hi
  exact ⟨_,ps_setLc (own:=own) hc hN hy hyl hsw pi ok (λs H C cl fp=>(hg s H C cl fp).canon) (λs H C cl fp=>(ht s H C cl fp).ex) (λs H C cl fp=>(he s H C cl fp).canon) hs,Ow (Sb mi' hu)⟩
def iU (o i d:D) (S:WS):Option WS:=match o,i with
  | .cell k,.int n=>match S[k]? with
    | some (.lst ds)=>if D.clean 0 d=true then (ixN ds.length n).map λj=>S.set k (.lst (ds.set j d)) else none
    | _=>none
  | _,_=>none
theorem Dj {K:PySem.W.Frag} {as:List Addr} {F H:Hp} {S S':WS} {o i d:D} {vo vi v:V} {Q:Hp->Prop} (I:bU K as F H S) (ro:Rp K as F o vo) (ri:Rp K as F i vi) (rv:Rp K as F d v) (h:iU o i d S=some S') (q:∀ H',aW K as F H as F H' S'->Q H'):rSetL vo vi v H Q:=by
  unfold iU at h
  split at h
  · rename_i k n
    split at h
    · rename_i ds hS
      split at h
      · rename_i hcl
        simp only [Option.map_eq_some_iff] at h
        obtain ⟨j,hj,rfl⟩:=h
        cases ri
        cases ro with
        | cell h0=>
          obtain ⟨z1,ob,z2,z3⟩:=I.cell k _ _ h0 hS
          cases ob with
          | lst xs=>
            have z3':aS K [] F ds xs:=z3
            have r1':Rp K [] F d v:=rv.back (n:=0) (λk a hk=>absurd hk (by omega)) hcl
            have g3:=I.put (c':=.lst (ds.set j d)) (o:=.lst (xs.set j v)) h0 hS rfl rfl (aS.set r1' j z3')
            exact ⟨_,xs,n,j,rfl,rfl,z2,by rw [← z3'.length]; exact hj,q _ g3⟩
          | _=>exact z3.elim
      · cases h
    · cases h
  · cases h
def qP (eo ei ee:Env->M):Env->MS:=λρ S k=>ee ρ S (λd S1=>eo ρ S1 (λo S2=>ei ρ S2 (λi S3=>gx (iU o i d S3) λS'=>k.nx ρ S') λe S'=>k.ex e ρ S') λe S'=>k.ex e ρ S') λe S'=>k.ex e ρ S'
theorem ql {i:Expr} {tpos:Pos} (he:GE X W e ee) (ho:GE X W o eo) (hi:GE X W i ei) (hs:swapsWithSole [.Subscript o i tpos] e pos.line X.env=pure false:=by rfl) (hw:swappedStores [.Subscript o i tpos] e X.env=pure none:=by rfl) (h1:(assignEach [.Subscript o i tpos] X.env).map (·.2)=[assign (.Subscript o i tpos) X.env]:=by rfl)
    (ha:∀ (v:Value),assign (.Subscript o i tpos) X.env v=(do
      let ov ← holding [v] (eval o X.env)
      let iv ← holding [v,ov] (eval i X.env)
      standAt tpos
      holding [v,ov,iv] (setItem ov iv v)
      release [v,ov,iv] []):=by intro _; rfl):GS X W (.Assign [.Subscript o i tpos] e pos) (qP eo ei ee):=by
  obtain ⟨t,p,m⟩:=he
  obtain ⟨to,po,mo⟩:=ho
  obtain ⟨ti,pi,mi⟩:=hi
  refine ⟨_,ps_asg p (pg_sub po pi set_list ha) hs hw h1,λas F H S ρ σ I R k h E q=>?_⟩
  refine m as F H S ρ σ I R _ _ h _ (λd S1 bs F1 H1 v1 h1 g1 r1=>?_) (q.xq R)
  refine mo bs F1 H1 S1 ρ σ g1.sit (R.grow g1) _ _ h1 _ (λo S2 cs F2 H2 v2 h2 g2 r2=>?_) ((q.step g1).xq (R.grow g1))
  have g12:=g1.trans g2
  refine mi cs F2 H2 S2 ρ σ g2.sit (R.grow g12) _ _ h2 _ (λi S3 ls F3 H3 v3 h3 g3 r3=>?_) ((q.step g12).xq (R.grow g12))
  obtain ⟨S4,h4,h5⟩:=bT h3
  refine Dj g3.sit (cD g3 r2) r3 (cD g3 (cD g2 r1)) h4 λH' g4=>?_
  have g:=(g12.trans g3).trans g4
  exact q.nx ρ S4 ls F3 H' σ h5 g (R.grow g)
def CY (j:Nat) (eo ei ee:Env->M):Env->MS:=λρ S k=>ee ρ S (λd S1=>Ji d λds=>G3 ds λd1 d2=>eo ρ S1 (λo S2=>ei ρ S2 (λi S3=>gx (iU o i d1 S3) λS'=>k.nx (ρ.set j (some d2)) S') λe S'=>k.ex e ρ S') λe S'=>k.ex e ρ S') λe S'=>k.ex e ρ S'
theorem NJ (j:Nat) {i:Expr} {x:Str} {tpos px pt:Pos} {kt:Nat} (hc:X.calm=true) (hN:X.N.Nodup) (he:GE X W e ee) (ho:GE X W o eo) (hi:GE X W i ei) (hj:X.N[j]? =some x:=by rfl) (hx:Loc X.env.scope x:=by first | exact Or.inl rfl | exact Or.inr rfl) (hf:X.fn x=true∨X.env.scope.names.lookup x=some .local:=by first | exact .inl rfl | exact .inr rfl | assumption)
    (hs:swapsWithSole [.Tuple [.Subscript o i tpos,.Name x px] kt pt] e pos.line X.env=pure false:=by rfl) (hw:swappedStores [.Tuple [.Subscript o i tpos,.Name x px] kt pt] e X.env=pure none:=by rfl)
    (h1:(assignEach [.Tuple [.Subscript o i tpos,.Name x px] kt pt] X.env).map (·.2)=[assign (.Tuple [.Subscript o i tpos,.Name x px] kt pt) X.env]:=by rfl)
    (ha:∀ (v:Value),assign (.Subscript o i tpos) X.env v=(do
      let ov ← holding [v] (eval o X.env)
      let iv ← holding [v,ov] (eval i X.env)
      standAt tpos
      holding [v,ov,iv] (setItem ov iv v)
      release [v,ov,iv] []):=by intro _; rfl)
    (e1:(assignEach [.Subscript o i tpos,.Name x px] X.env).map (·.2)=assign (.Subscript o i tpos) X.env :: (assignEach [.Name x px] X.env).map (·.2):=by rfl)
    (e2:(assignEach [.Name x px] X.env).map (·.2)=assign (.Name x px) X.env :: (assignEach [] X.env).map (·.2):=by rfl)
    (e3:(assignEach [.Subscript o i tpos,.Name x px] X.env).length=2:=by rfl) (e4:(assignEach [.Subscript o i tpos,.Name x px] X.env).findIdx? (·.1)=none:=by rfl):
    GS X W (.Assign [.Tuple [.Subscript o i tpos,.Name x px] kt pt] e pos) (CY j eo ei ee):=by
  obtain ⟨t,p,m⟩:=he
  obtain ⟨to,po,mo⟩:=ho
  obtain ⟨ti,pi,mi⟩:=hi
  refine ⟨_,ps_asg p (pg_tup hc (pgs_cons (pg_sub po pi set_list ha) (pgs_cons (pg_name (i:=j) hN hj hx hf) pgs_nil e2) e1) e3 e4) hs hw h1,λas F H S ρ σ I R k h E q=>?_⟩
  refine m as F H S ρ σ I R _ _ h _ (λd S1 bs F1 H1 v1 h1 g1 r1=>?_) (q.xq R)
  obtain ⟨ds,rfl,h1⟩:=Mw h1
  obtain ⟨d1,d2,rfl,h1⟩:=A3 h1
  · cases r1 with
    | tup hq rl=>
      obtain ⟨u1,ws,rfl,ru1,rn⟩:=rl.dG
      obtain ⟨u2,zs,rfl,ru2,rn⟩:=rn.dG
      obtain rfl:=rn.dR
      refine ⟨_,_,rfl,g1.sit.ex.kT hq,rfl,u1,[u2],rfl,?_⟩
      refine mo bs F1 H1 S1 ρ σ g1.sit (R.grow g1) _ _ h1 _ (λo S2 cs F2 H2 v2 h2 g2 r2=>?_) ((q.step g1).xq (R.grow g1))
      have g12:=g1.trans g2
      refine mi cs F2 H2 S2 ρ σ g2.sit (R.grow g12) _ _ h2 _ (λi S3 ls F3 H3 v3 h3 g3 r3=>?_) ((q.step g12).xq (R.grow g12))
      obtain ⟨S4,h4,h5⟩:=bT h3
      refine Dj g3.sit (cD g3 r2) r3 (cD g3 (cD g2 ru1)) h4 λH' g4=>?_
      have g:=(g12.trans g3).trans g4
      exact ⟨u2,[],rfl,rfl,q.nx _ S4 ls F3 H' _ h5 g ((R.grow g).set (cD g3 (cD g2 ru2)))⟩
theorem Ry {op op':CmpOp} {r r':R2} {f g:WS->D->D->Option D} (ho:OpR X (compareOp op) r) (ho':OpR X (compareOp op') r') (hr:RO X.K r f) (hr':RO X.K r' g) (ha:GE X W a ea) (hb:GE X W b eb) (hc:GE X W c ec) (hm:lastMarks [op,op'] [b,c]=false:=by with_unfolding_all rfl):
    GT X W (.Compare a [op,op'] [b,c] pos) (EN f g ea eb ec):=by
  obtain ⟨ta,pa,ma⟩:=ha
  obtain ⟨tb,pb,mb⟩:=hb
  obtain ⟨tc,pc,mc⟩:=hc
  refine ⟨_,pt_chain ho ho' pa pb pc hm,λas F H S ρ σ I R q x h Q hq hx=>?_⟩
  refine ma as F H S ρ σ I R _ x h _ (λu S1 bs F1 H1 v1 h1 g1 r1=>?_) hx
  refine mb bs F1 H1 S1 ρ σ g1.sit (R.grow g1) _ x h1 _ (λw S2 cs F2 H2 v2 h2 g2 r2=>?_) (hx.step g1)
  obtain ⟨d,hf,h3⟩:=bT h2
  have g12:=g1.trans g2
  refine hr cs F2 H2 S2 u w d v1 v2 g2.sit (cD g2 r1) r2 hf _ λF3 H3 v3 g3 r3=>?_
  have g13:=g12.trans g3
  cases r3 with
  | bl c=>
    refine ⟨c,rfl,?_⟩
    cases c with
    | true=>
      refine mc cs F3 H3 S2 ρ σ g3.sit (R.grow g13) _ x h3 _ (λy S4 ls F4 H4 v4 h4 g4 r4=>?_) (hx.step g13)
      obtain ⟨d',hg,h5⟩:=bT h4
      refine hr' ls F4 H4 S4 w y d' v2 v4 g4.sit (cD g4 (cD g3 r2)) r4 hg _ λF5 H5 v5 g5 r5=>?_
      cases r5 with
      | bl c'=>exact ⟨c',rfl,hq _ S4 ls F5 H5 h5 ((g13.trans g4).trans g5)⟩
      | _=>exact h5.elim
    | false=>exact ⟨false,rfl,hq false S2 cs F3 H3 h3 g13⟩
  | _=>exact h3.elim
end
section
variable {K:PySem.W.Frag}
def yE:WS->List D->Option D:=λ_ xs=>match xs with
  | [.int i]=>some (.int (if i < 0 then -i else i))
  | _=>none
theorem Qu:RC K (λxs H Q=>∃ i,xs=[.int i]∧Q (.int (if i < 0 then -i else i)) H) yE:=λas F H S ds d vs I r h Q q=>by
  unfold yE at h
  split at h
  · cases h
    obtain ⟨v,ws,rfl,rv,rn⟩:=r.dG
    obtain rfl:=rn.dR
    cases rv
    exact ⟨_,rfl,keep I q (.int _)⟩
  · cases h
def intOfD:WS->List D->Option D:=λ_ xs=>match xs with
  | [.int i]=>some (.int i)
  | _=>none
theorem pX:RC K (λxs H Q=>(∃ i,xs=[.int i]∧Q (.int i) H)∨∃ k,xs=[.bl k]∧Q (.int (if k then 1 else 0)) H) intOfD:=λas F H S ds d vs I r h Q q=>by
  unfold intOfD at h
  split at h
  · cases h
    obtain ⟨v,ws,rfl,rv,rn⟩:=r.dG
    obtain rfl:=rn.dR
    cases rv
    exact .inl ⟨_,rfl,keep I q (.int _)⟩
  · cases h
def ID:WS->List D->Option D:=λ_ xs=>match xs with
  | [.int i,.int j]=>some (.int (if j > i then j else i))
  | _=>none
def yj:WS->List D->Option D:=λ_ xs=>match xs with
  | [.int i,.int j]=>some (.int (if j < i then j else i))
  | _=>none
theorem SR:RC K (λxs H Q=>∃ i j,xs=[.int i,.int j]∧Q (.int (if j > i then j else i)) H) ID:=λas F H S ds d vs I r h Q q=>by
  unfold ID at h
  split at h
  · cases h
    obtain ⟨v,ws,rfl,rv,rn⟩:=r.dG
    obtain ⟨v2,ws,rfl,rv2,rn⟩:=rn.dG
    obtain rfl:=rn.dR
    cases rv
    cases rv2
    exact ⟨_,_,rfl,keep I q (.int _)⟩
  · cases h
theorem MF:RC K (λxs H Q=>∃ i j,xs=[.int i,.int j]∧Q (.int (if j < i then j else i)) H) yj:=λas F H S ds d vs I r h Q q=>by
  unfold yj at h
  split at h
  · cases h
    obtain ⟨v,ws,rfl,rv,rn⟩:=r.dG
    obtain ⟨v2,ws,rfl,rv2,rn⟩:=rn.dG
    obtain rfl:=rn.dR
    cases rv
    cases rv2
    exact ⟨_,_,rfl,keep I q (.int _)⟩
  · cases h
def Nj (j:Int):Bool:=decide (0 < j∧j.natAbs < 2 ^ 1000)
theorem Vk {i j:Int} (h:Nj j=true):CDivP i j:=by
  unfold Nj at h
  simp only [decide_eq_true_eq] at h
  refine ⟨h.1,PyProof.noPylong_of_log2 ?_⟩
  have h2:j.natAbs≠0:=by omega
  have h3:j.natAbs.log2 < 1000:=(Nat.log2_lt h2).mpr h.2
  omega
def xj:WS->List D->Option D:=λ_ xs=>match xs with
  | [.int i,.int j]=>if Nj j=true then some (.tup [.int (i / j),.int (i % j)]) else none
  | _=>none
theorem Pb:RC K (λxs H Q=>∃ i j,xs=[.int i,.int j]∧CDivP i j∧∀ p,H p=none->Q (.ref p) (upd H p (.tup [.int (i / j),.int (i % j)]))) xj:=λas F H S ds d vs I r h Q q=>by
  unfold xj at h
  split at h
  · split at h
    · rename_i hh
      cases h
      obtain ⟨v,ws,rfl,rv,rn⟩:=r.dG
      obtain ⟨v2,ws,rfl,rv2,rn⟩:=rn.dG
      obtain rfl:=rn.dR
      cases rv
      cases rv2
      exact ⟨_,_,rfl,Vk hh,λp hp=>q _ _ _ (I.grow hp) (.tup (SqT.of upd_same) (.cons (.int _) (.cons (.int _) .nil)))⟩
    · cases h
  · cases h
end
end RV
end
section
namespace RV
open PySem L2
variable {nn:Bool}
theorem NR {P:Program} {w:World} {K:PySem.W.Frag} {mg mb:Str->Option Value} {k:Nat} {fa a:Addr} {fd:FuncData} {x:Str} {sp:Sp} {s1:Shared} {vs:List Value} {ns:List Int}
    (KX:K.In s1.heap) (hns:s1.heap.Ns mainGlobals mg) (hb:s1.heap.Ns builtinsNs mb) (hbb:∀ x:Str,x≠"__name__"->mb x=bootBuiltins x) (hlim:s1.heap.NoLimit) (hg:s1.gens=#[])
    (ha:s1.heap.get? a=some {cls:=.type "list",data:=.seq vs.toArray}) (hi:PyProof.Rows.IntsAre vs ns) (hl:ns.length≤sizeLine) (hr:Room k callerA)
    (F:∀ base:Heap,K.In base->base.Ns mainGlobals mg->bf ⟨true,nn,false⟩ P w K mg base k fa fd [x] sp) (hbind:∀ (s:Shared) (u:Value),BindsTo s fd ⟨[u],[]⟩ [(x,u)])
    (hsp:∀ H:Hp,SqL K H a (ns.map V.int)->sp [.ref a] H (λv _=>v=.bl true) λ_ _ _=>False):
    codeAny (model P w) callerA (.call (.ref fa) ⟨[.ref a],[]⟩) (λr s'=>r=.ok (.ret (.bool true))∧OldK s1.heap s'.heap∧s'.os=s1.os∧PyProof.Rows.AllBare s'.gens) s1:=by
  have rv:=vals_ints hi
  have core:∀ H:Hp,(∀ c,H c=none∨∃ o xs,H c=some (.frz o (.lst xs)))->SqL K H a (ns.map V.int)->HOk P w H s1.heap->(∀ c,H c≠none->c=a)->(H a≠none->K.lookup a=none)->
      codeAny (model P w) callerA (.call (.ref fa) ⟨[.ref a],[]⟩) (λr s'=>r=.ok (.ret (.bool true))∧OldK s1.heap s'.heap∧s'.os=s1.os∧PyProof.Rows.AllBare s'.gens) s1:=by
    intro H only hS hok alone hK
    have dictOut:∀ {c:Addr} {o:Obj} {es:Array DictEntry} {ep:Nat},s1.heap.get? c=some o->o.data=.dict es ep->H c=none:=by
      intro c o es ep e d
      cases q:H c with
      | none=>rfl
      | some u=>
        have e':c=a:=alone c (by rw [q]; simp)
        subst e'
        rw [ha] at e
        cases e
        exact absurd d (by intro z; cases z)
    have ns':∀ {c:Addr} {m:Str->Option Value},s1.heap.Ns c m->(hidT s1.heap H).Ns c m:=λ{c m} ⟨o,es,ep,e,d,r⟩=>⟨o,es,ep,hidT_get e (dictOut e d),d,r⟩
    have KB:K.In (hidT s1.heap H):=by
      intro c o e
      refine hidT_get (KX c o e) ?_
      cases q:H c with
      | none=>rfl
      | some u=>
        have e':c=a:=alone c (by rw [q]; simp)
        subst e'
        rw [hK (by rw [q]; simp)] at e
        cases e
    have md:Mod K mg (hidT s1.heap H):=by
      obtain ⟨mc,l1,l2⟩:=hlim
      exact ⟨KB,ns' hns,⟨mb,ns' hb,hbb⟩,⟨mc,ns' l1,l2⟩⟩
    have e0:Env0 P w K mg (hidT s1.heap H) callerA [] s1 H:=by
      refine ⟨rfl,md,λc o e=>of_hidT e,Nat.le_of_eq (hidT_size _ _),trivial,λc hc=>?_,hok,.of_eq hg⟩
      exact absurd hc (by simp [frs])
    refine codeAny_mono ((F _ KB (ns' hns)).run callerA [] s1 H ⟨[.ref a],[]⟩ [.ref a] [.ref a] _ _ (λ_=>rfl) hr e0 (hbind s1 (.ref a)) (.cons rfl .nil) (hsp H hS)) λr s' h=>?_
    cases r with
    | error e=>
      exact (JO h).elim
    | ok fl=>
      cases fl with
      | next=>exact h.elim
      | brk=>exact h.elim
      | cont=>exact h.elim
      | ret u=>
        obtain ⟨v,H',os,bare,un,hok',r',q⟩:=h
        have q':v=.bl true:=q
        subst q'
        obtain rfl:u=Value.bool true:=r'
        refine ⟨rfl,OldK.of_keep λc o e=>?_,os,bare⟩
        rcases only c with z | ⟨ob,xs,z⟩
        · exact un.keep c o e z (by simp [frs]) (by simp)
        · obtain ⟨e1,_⟩:=hok c _ z
          obtain ⟨e2,_⟩:=hok' c _ (un.frzs c ob _ z)
          rw [e] at e1
          cases e1
          exact e2
  cases hk:K.lookup a with
  | some o=>
    have e:=KX a o hk
    rw [ha] at e
    cases e
    refine core (λ_=>none) (λ_=>.inl rfl) ?_ (λc u z=>by cases z) (λc z=>absurd rfl z) λz=>absurd rfl z
    refine .inr ⟨_,vs.toArray,_,hk,rfl,rfl,rfl,?_,by simpa using rv⟩
    rw [List.size_toArray,hi.length]
    exact hl
  | none=>
    let lock:HO:=.frz {cls:=.type "list",data:=.seq vs.toArray} (.lst (ns.map V.int))
    have at1:(λc=>if c=a then some lock else none:Hp) a=some lock:=if_pos rfl
    refine core (λc=>if c=a then some lock else none) (λc=>?_) (.inl (.inr ⟨_,at1⟩)) (λc u z=>?_) (λc z=>?_) λ_=>hk
    · by_cases hc:c=a
      · exact .inr ⟨_,_,if_pos hc⟩
      · exact .inl (if_neg hc)
    · by_cases hc:c=a
      · have z':some lock=some u:=(if_pos hc).symm.trans z
        cases z'
        subst hc
        exact ⟨ha,by rw [List.length_map]; exact hl,vs,_,rv,ha⟩
      · have z':none=some u:=(if_neg hc).symm.trans z
        cases z'
    · by_cases hc:c=a
      · exact hc
      · exact absurd (if_neg hc) z
theorem Vr {l:PySem.W.OpenLaw} {n k:Nat} {q:Program} {loose:List Str} {XP:(Str->Option Value)->Heap->Prop} {YP:World->Heap->Prop} {d:DefRec} {x:Str}
    (hn:l.most=some n) (hn2:n≤sizeLine) (hdf:d.params.defaults=[]) (hr:Room k callerA)
    (F:∀ (w:World) (mg:Str->Option Value) (fa:Addr) (h:Heap),YP w h->h.Ns mainGlobals mg->mg d.name=some (.ref fa)->
      ∃ (K:PySem.W.Frag) (fd:FuncData) (G:List D->M),K.In h∧(∀ (s:Shared) (u:Value),BindsTo s fd ⟨[u],[]⟩ [(x,u)])∧
        (∀ (ns:List Int) (q:D->WS->Prop) (x:Xq),ns.length≤n->q (.bl true) []->G [.scr ns] [] q x)∧
        ∀ base:Heap,K.In base->base.Ns mainGlobals mg->bf ⟨true,nn,false⟩ l.prog w K mg base k fa fd [x] (bh K 1 G)):
    PySem.W.WalkO q loose XP YP l.row.toRowW d [] (λf vs=>PySem.call f vs):=by
  refine Att.attach_call hn hdf λw s0 s1 mg mb fa o pm cd doc a vs ns Gr Y ho hd hcd hmg hobj hints hlen hg=>?_
  obtain ⟨K,fd,G,KX,hb,hG,hF⟩:=F w mg fa _ Y Gr.T.g hmg
  refine NR KX Gr.T.g Gr.T.b Gr.T.builtins Gr.T.nolimit hg hobj hints (Nat.le_trans hlen hn2) hr hF hb λH hS=>?_
  refine ⟨[],H,[],[.scr ns],λd _=>d=.bl true,nj,⟨rfl,Ex.refl _,List.nodup_nil,λi p c h=>by simp at h⟩,.cons (.scr hS) .nil,rfl,hG ns _ _ hlen rfl,λd S' bs F' H' v e _ r=>?_,XQ.no⟩
  have e:d=.bl true:=e
  subst e
  cases r
  rfl
end RV
end
section
namespace RV
open PySem L2
variable {nn:Bool}
section
variable (P:Program) (w:World) (K:PySem.W.Frag) (mg:Str->Option Value) (base:Heap)
def Fc (gd:Md) (x:Str) (k n:Nat) (G:List D->M):Prop:=∃ (f:Addr) (fd:FuncData) (ps:List Str),bf gd P w K mg base k f fd ps (bh K n G)∧Binds K fd ps []∧PySem.W.keepIn K (.ref f)=true∧mg x=some (.ref f)
def Mc (nn:Bool) (x:Str) (C:Addr) (k n:Nat) (G:List D->M) (dvs:List D):Prop:=∃ (f:Addr) (fd:FuncData) (ps:List Str) (dv:List V) (ds:List Value),Mk K C f∧bf ⟨false,nn,false⟩ P w K mg base k f fd ps (bh K n G)∧Binds K fd ps ds∧Vals dv ds∧(∀ as F,aS K as F dvs dv)∧mg x=some (.ref C)
def Su (nn:Bool) (x:Str) (C:Addr) (k n m1:Nat) (ks:List Str) (G:List D->M) (gD:List D->List D->List D):Prop:=∃ (f:Addr) (fd:FuncData) (ps:List Str) (g:List Value->List Value->List Value) (gV:List V->List V->List V),Mk K C f∧bf ⟨false,nn,false⟩ P w K mg base k f fd ps (bh K n G)∧KBn K fd ps (m1+1) ks g gV∧
  (∀ as F (ds zs:List D) (vs ws:List V) (s:V),aS K as F ds vs->aS K as F zs ws->ds.length=m1->zs.length=ks.length->∃ us,gV (s :: vs) ws=s :: us∧aS K as F (gD ds zs) us)∧mg x=some (.ref C)
def Pc (nn:Bool) (C:Addr) (f:Str) (k:Nat) (G:List D->M):Prop:=∃ (pr g:Addr) (fd:FuncData) (ps:List Str),Cls K C∧PropOf K C f pr g∧bf ⟨false,nn,false⟩ P w K mg base k g fd ps (bh K 1 G)∧Binds K fd ps []
end
section
variable {X:Cx} {W:WX} {e o a b:Expr} {es:List Expr} {pos p:Pos} {er ek:Env->ML} {ea eb:Env->M} {x f:Str} {k j n:Nat} {G:List D->M} {C:Addr} {dvs:List D} {l:Lk} {gd:Md}
theorem aB {g h:Bool} (tk:Tk nn X W) (c:Fc X.prog X.w X.K X.mg X.base ⟨g,nn,h⟩ x k n G) (hgd:g=true->X.A.guards=some []) (hr:Rx h j X) (ha:GA X W (e :: es) er) (hj:k≤j:=by decide) (hg:Gl X x:=by rfl) (hdb:(x == ("__debug__":Str))=false:=by decide) (h1:starEach (e :: es) X.env=(false,eval e X.env) :: starEach es X.env:=by rfl) (h2:(backTo pos (starEach es X.env)).any (·.1)=false:=by rfl):
    GE X W (.Call (.Name x p) (e :: es) [] pos) (eFn n G [] er):=by
  obtain ⟨f,fd,ps,F,hb,hk,hm⟩:=c
  exact UT (dv:=[]) tk F hgd hr hj hm hk hb .nil (λ_ _=>.nil) ha hg hdb h1 h2
theorem RA (tk:Tk nn X W) (c:Mc X.prog X.w X.K X.mg X.base nn x C k n G dvs) (hr:Room j X.A) (ha:GA X W (e :: es) er) (hj:k+1≤j:=by decide) (hg:Gl X x:=by rfl) (hdb:(x == ("__debug__":Str))=false:=by decide) (h1:starEach (e :: es) X.env=(false,eval e X.env) :: starEach es X.env:=by rfl) (h2:(backTo pos (starEach es X.env)).any (·.1)=false:=by rfl):
    GE X W (.Call (.Name x p) (e :: es) [] pos) (BV l C n G dvs er):=by
  obtain ⟨f,fd,ps,dv,ds,M,F,hb,hd,hdv,hm⟩:=c
  exact UR tk M F hr hj hm hb hd hdv ha hg hdb h1 h2
theorem Qi {m1:Nat} {ks:List Str} {gD:List D->List D->List D} {kws:List Keyword} (tk:Tk nn X W) (c:Su X.prog X.w X.K X.mg X.base nn x C k n m1 ks G gD) (hr:Room j X.A) (ha:GA X W (e :: es) er) (hk:GK X W kws ek) (hj:k+1≤j:=by decide) (hg:Gl X x:=by rfl)
    (hall:(backToKw pos (keywordEach kws X.env)).all (·.1.isSome)=true:=by rfl) (hks:(backToKw pos (keywordEach kws X.env)).filterMap (·.1)=ks:=by rfl) (hdb:(x == ("__debug__":Str))=false:=by decide)
    (he:starEach (e :: es) X.env=(false,eval e X.env) :: starEach es X.env:=by rfl) (hpl:((backTo pos (starEach (e :: es) X.env)).any (·.1) || (backToKw pos (keywordEach kws X.env)).any (·.1.isNone))=false:=by rfl):
    GE X W (.Call (.Name x p) (e :: es) kws pos) (AH l C n m1 ks.length G gD er ek):=by
  obtain ⟨f,fd,ps,g,gV,M,F,hb,hgD,hm⟩:=c
  exact RK tk M F hr hj hm hb hgD ha hk hg hall hks hdb he hpl
theorem aO (c:Pc X.prog X.w X.K X.mg X.base nn C f k G) (hr:Room j X.A) (ha:GE X W e ea) (hj:k+1≤j:=by decide) (hab:attributeBase e f X.env (eval e X.env)=eval e X.env:=by rfl):GE X W (.Attribute e f pos) (aX C G ea):=by
  obtain ⟨pr,g,fd,ps,cl,hp,F,hb⟩:=c
  exact S7 cl hp F hr hj hb ha hab
end
section
variable {K:PySem.W.Frag} {X:Cx}
theorem RO.eq {r:R2} {f g:WS->D->D->Option D} (h:RO K r f) (e:∀ S x y d,g S x y=some d->f S x y=some d):RO K r g:=λas F H S x y d vx vy I rx ry hd=>h as F H S x y d vx vy I rx ry (e S x y d hd)
def cX:WS->D->D->Option D:=λ_ x y=>match x,y with
  | .int i,.int j=>some (.int (i+j))
  | .str a,.str b=>if small (a.length+b.length)=true then some (.str (a++b)) else none
  | .lst a,.lst b=>if small (a.length+b.length)=true then some (.lst (a++b)) else none
  | _,_=>none
def Px:R2:=λx y H Q=>∃ i j,x=.str i∧y=.str j∧i.length+j.length≤sizeLine∧Q (.str (i++j)) H
def So:R2:=λx y H Q=>(rI0 λi j=>.int (i+j)) x y H Q∨(Px x y H Q∨rCat x y H Q)
theorem bR:OpR X (binaryOp .Add) So:=OpR.or op_add (OpR.or op_add_str op_cat)
theorem bS:RO K So cX:=RO.eq (RO.or (OB (f:=λi j=>i+j)) (RO.or (r:=Px) UU S9)) λS x y d h=>by
  unfold cX at h
  split at h
  · simpa [intD] using h
  · simp only [intD,N7,Option.orElse] at h ⊢
    rw [h]
  · simpa [intD,N7,QD] using h
  · cases h
def s_:WS->D->D->Option D:=Bq nR λi j=>i * j
def JV:WS->D->D->Option D:=Bq D5 λi j=>i ^ j.toNat
def qF:WS->D->D->Option D:=Bq Ym λi j=>i % j
def N8:WS->D->D->Option D:=Bq Oe λi j=>i / j
def Np:WS->D->D->Option D:=intD λi j=>i - j
theorem w_:RO K (rI CMul λi j=>.int (i * j)) s_:=Bt λ_ _ h=>S5 h
theorem WI:RO K (rI CPow λi j=>.int (i ^ j.toNat)) JV:=Bt λ_ _ h=>UI h
theorem sZ:RO K (rI (λ_ j=>0 < j) λi j=>.int (i % j)) qF:=Bt λ_ _ h=>of_decide_eq_true h
theorem Ua:RO K (rI CDiv λi j=>.int (i / j)) N8:=Bt λi j h=>by
  have h2:0 < j∧j < 1073741824:=of_decide_eq_true h
  exact h2
theorem Qm:RO K (rI0 λi j=>.int (i - j)) Np:=OB
def V7:WS->D->D->Option D:=Gy λi j=>decide (i < j)
def IU:WS->D->D->Option D:=Gy λi j=>decide (i≤j)
def Mi:WS->D->D->Option D:=Gy λi j=>decide (j < i)
def z7:WS->D->D->Option D:=Gy λi j=>decide (j≤i)
theorem Xv:RO K (rI0 λi j=>.bl (decide (i < j))) V7:=Fi
theorem ro_le:RO K (rI0 λi j=>.bl (decide (i≤j))) IU:=Fi
theorem IC:RO K (rI0 λi j=>.bl (decide (j < i))) Mi:=Fi
theorem Ip:RO K (rI0 λi j=>.bl (decide (j≤i))) z7:=Fi
def QZ:WS->D->Option D:=λ_ x=>match x with
  | .int i=>some (.int (-i))
  | _=>none
theorem VM:RU K (rU λi=>.int (-i)) QZ:=λas F H S x d vx I rx h Q q=>by
  unfold QZ at h
  split at h
  · cases h
    cases rx
    exact ⟨_,rfl,keep I q (.int _)⟩
  · cases h
def CB (S:WS):D->Option PyData
  | .cell k=>match S[k]? with
    | some (.lst ds)=>(D.Ac ds).map PyData.list
    | _=>none
  | d=>D.py d
theorem Ej {as:List Addr} {F H:Hp} {S:WS} {d:D} {v:V} {p:PyData} (I:bU K as F H S) (r:Rp K as F d v) (h:CB S d=some p):Dp K H v p:=by
  cases r with
  | cell ha=>
    rename_i k a
    unfold CB at h
    split at h
    · rename_i k' e
      cases e
      split at h
      · rename_i ds hS
        simp only [Option.map_eq_some_iff] at h
        obtain ⟨ps,h2,rfl⟩:=h
        obtain ⟨_,o,z2,z3⟩:=I.cell _ _ _ ha hS
        cases o with
        | lst xs=>exact .lst (SqL.of z2) (aS.dp I.ex z3 h2)
        | _=>exact z3.elim
      · cases h
    · rename_i hne
      exact absurd rfl (hne _)
  | non=>exact Rp.dp (as:=as) I.ex .non h
  | bl b=>exact Rp.dp (as:=as) I.ex (.bl b) h
  | int i=>exact Rp.dp (as:=as) I.ex (.int i) h
  | str x=>exact Rp.dp (as:=as) I.ex (.str x) h
  | ty n=>exact Rp.dp (as:=as) I.ex (.ty n) h
  | adr a=>exact Rp.dp (as:=as) I.ex (.adr a) h
  | scr z=>exact Rp.dp (as:=as) I.ex (.scr z) h
  | tup z1 z2=>exact Rp.dp I.ex (.tup z1 z2) h
  | lst z1 z2=>exact Rp.dp I.ex (.lst z1 z2) h
  | obj z1 z2=>exact Rp.dp I.ex (.obj z1 z2) h
  | dic z1 z2=>exact Rp.dp I.ex (.dic z1 z2) h
  | ptu z1 z2=>exact Rp.dp I.ex (.ptu z1 z2) h
  | clo z1 z2 z3=>exact Rp.dp I.ex (.clo z1 z2 z3) h
  | exv z1 z2=>cases h
def oN (S:WS) (x y:D):Option Bool:=(CB S x).bind λa=>(CB S y).bind λb=>if SeqAt.shaped a=true∧SeqAt.shaped b=true then some (PyData.eqv a b) else none
theorem Q0:RO K (rEqD K) (λS x y=>(oN S x y).map D.bl):=λas F H S x y d vx vy I rx ry h Q q=>by
  unfold oN at h
  simp only [Option.map_eq_some_iff,Option.bind_eq_some_iff] at h
  obtain ⟨c,⟨a,h1,b,h2,h3⟩,rfl⟩:=h
  split at h3
  · rename_i hs
    cases h3
    exact ⟨a,b,Ej I rx h1,Ej I ry h2,hs.1,hs.2,keep I q (.bl _)⟩
  · cases h3
theorem QY:RO K (rNeD K) (λS x y=>(oN S x y).map λc=>D.bl (!c)):=λas F H S x y d vx vy I rx ry h Q q=>by
  unfold oN at h
  simp only [Option.map_eq_some_iff,Option.bind_eq_some_iff] at h
  obtain ⟨c,⟨a,h1,b,h2,h3⟩,rfl⟩:=h
  split at h3
  · rename_i hs
    cases h3
    exact ⟨a,b,Ej I rx h1,Ej I ry h2,hs.1,hs.2,keep I q (.bl _)⟩
  · cases h3
def yX (S:WS):D->Option (List D)
  | .lst ds=>some ds
  | .cell k=>match S[k]? with
    | some (.lst ds)=>some ds
    | _=>none
  | _=>none
def Bx (S:WS) (x y:D):Option Bool:=(yX S x).bind λa=>(yX S y).bind λb=>if a.length=b.length then none else some false
def E9 (K:PySem.W.Frag) (neg:Bool):R2:=λx y H Q=>∃ a b xs ys,x=.ref a∧y=.ref b∧SqL K H a xs∧SqL K H b ys∧xs.length≠ys.length∧Q (.bl neg) H
theorem vI {h:Heap} {a:Addr} {its:Array Value} (p:PlainL h a its):h.IsList a its:=by
  obtain ⟨o,n,ho,hc,_,hd⟩:=p
  exact ⟨o,ho,hc,n,hd⟩
theorem Rw (hu:X.A.units < cLine):OpR X (compareOp .Eq) (E9 X.K false):=λpins s σ H x y v u Q I rx ry h=>by
  obtain ⟨a,b,xs,ys,rfl,rfl,h1,h2,hn,q⟩:=h
  cases rx
  cases ry
  obtain ⟨is,r1,p1,_⟩:=I.list h1
  obtain ⟨js,r2,p2,_⟩:=I.list h2
  have e1:=r1.length
  have e2:=r2.length
  exact SeqAt.eq_list_lengthsAt (vI p1) (vI p2) (by simp only [List.size_toArray,bne_iff_ne]; omega) hu ⟨.bl _,H,I,rfl,q⟩
theorem QK (hu:X.A.units < cLine):OpR X (compareOp .NotEq) (E9 X.K true):=λpins s σ H x y v u Q I rx ry h=>by
  obtain ⟨a,b,xs,ys,rfl,rfl,h1,h2,hn,q⟩:=h
  cases rx
  cases ry
  obtain ⟨is,r1,p1,_⟩:=I.list h1
  obtain ⟨js,r2,p2,_⟩:=I.list h2
  have e1:=r1.length
  have e2:=r2.length
  exact SeqAt.RcNeAt.lists_lengths (vI p1) (vI p2) (by simp only [List.size_toArray,bne_iff_ne]; omega) hu X.prog X.w X.xe _ ⟨.bl _,H,I,rfl,q⟩
theorem C7 {as:List Addr} {F H:Hp} {S:WS} {x:D} {v:V} {ds:List D} (I:bU K as F H S) (r:Rp K as F x v) (h:yX S x=some ds):∃ a xs,v=.ref a∧SqL K H a xs∧aS K as F ds xs:=by
  cases r with
  | lst z1 z2=>cases h; exact ⟨_,_,rfl,SqL.of (I.ex _ _ z1),z2⟩
  | @cell k a hk=>
    simp only [yX] at h
    split at h
    · rename_i es e
      cases h
      obtain ⟨p,hp,c⟩:=I.at_ e
      rw [hk] at hp
      cases hp
      obtain ⟨o,ho,hc⟩:=c.at_
      cases o with
      | lst xs=>exact ⟨a,xs,rfl,SqL.of ho,aS.mono (Ex.refl _) (λi a h=>by simp at h) hc⟩
      | _=>exact hc.elim
    · cases h
  | _=>cases h
theorem Ou {neg:Bool}:RO K (E9 K neg) (λS x y=>(Bx S x y).map λc=>D.bl (if neg then !c else c)):=λas F H S x y d vx vy I rx ry h Q q=>by
  simp only [Bx,Option.map_eq_some_iff,Option.bind_eq_some_iff] at h
  obtain ⟨c,⟨da,h1,db,h2,h3⟩,rfl⟩:=h
  split at h3
  · cases h3
  · rename_i hn
    cases h3
    obtain ⟨a,xs,rfl,s1,r1⟩:=C7 I rx h1
    obtain ⟨b,ys,rfl,s2,r2⟩:=C7 I ry h2
    refine ⟨a,b,xs,ys,rfl,rfl,s1,s2,by rw [← r1.length,← r2.length]; exact hn,?_⟩
    cases neg
    · exact keep I q (.bl _)
    · exact keep I q (.bl _)
def qO (S:WS) (x y:D):Option Bool:=(kY x y).orElse λ_=>(oN S x y).orElse λ_=>Bx S x y
def kj:WS->D->D->Option D:=λS x y=>(qO S x y).map D.bl
def ni:WS->D->D->Option D:=λS x y=>(qO S x y).map λc=>D.bl (!c)
def Vy (K:PySem.W.Frag):R2:=λx y H Q=>rEq x y H Q∨(rEqD K x y H Q∨E9 K false x y H Q)
def UY (K:PySem.W.Frag):R2:=λx y H Q=>rNe x y H Q∨(rNeD K x y H Q∨E9 K true x y H Q)
theorem fO:RO K (Vy K) kj:=RO.eq (RO.or WH (RO.or Q0 (Ou (neg:=false)))) λS x y d h=>by
  unfold kj qO at h
  cases h1:kY x y with
  | none=>
    cases h2:oN S x y with
    | none=>simpa [h1,h2] using h
    | some c=>simpa [h1,h2] using h
  | some c=>simpa [h1] using h
theorem nA:RO K (UY K) ni:=RO.eq (RO.or VC (RO.or QY (Ou (neg:=true)))) λS x y d h=>by
  unfold ni qO at h
  cases h1:kY x y with
  | none=>
    cases h2:oN S x y with
    | none=>simpa [h1,h2] using h
    | some c=>simpa [h1,h2] using h
  | some c=>simpa [h1] using h
theorem fR {j:Nat} (hr:Room j X.A):OpR X (compareOp .Eq) (Vy X.K):=OpR.or op_eq (OpR.or (op_eqD hr.units) (Rw (by have:=hr.units; omega)))
theorem ny {j:Nat} (hr:Room j X.A):OpR X (compareOp .NotEq) (UY X.K):=OpR.or op_ne (OpR.or (op_neD hr.units) (QK (by have:=hr.units; omega)))
theorem MM.or {r r':V->Option Int->Option Int->Hp->VK->Prop} {f g:WS->D->Option Int->Option Int->Option D} (h:MM K r f) (h':MM K r' g):MM K (λx lo hi H Q=>r x lo hi H Q∨r' x lo hi H Q) (λS x lo hi=>(f S x lo hi).orElse λ_=>g S x lo hi):=λas F H S x d vx lo hi I rx e Q q=>by
  replace e:((f S x lo hi).orElse λ_=>g S x lo hi)=some d:=e
  cases h1:f S x lo hi with
  | some z=>
    rw [h1] at e
    have e':z=d:=by simpa using e
    subst e'
    exact .inl (h as F H S x z vx lo hi I rx h1 Q q)
  | none=>
    rw [h1] at e
    exact .inr (h' as F H S x d vx lo hi I rx (by simpa using e) Q q)
end
end RV
end
section
namespace RV
open PySem L2
section
variable {K:PySem.W.Frag} {X:Cx} {W:WX} {o e:Expr} {pos apos cpos:Pos} {eo ee ea:Env->M}
def j4:WS->List D->Option D:=λS xs=>match xs with
  | [.tup ds]=>some (.tup ds)
  | [x]=>(br S x).map D.tup
  | _=>none
theorem FW {as:List Addr} {F H:Hp} {S:WS} {x:D} {v:V} {ds:List D} (I:bU K as F H S) (r:Rp K as F x v) (h:br S x=some ds) (hn:∀ ys,x≠.tup ys):∃ a xs,v=.ref a∧SqL K H a xs∧aS K as F ds xs:=by
  cases x with
  | lst ds'=>
    cases h
    cases r with
    | lst h1 r1=>exact ⟨_,_,rfl,SqL.of (I.ex _ _ h1),r1⟩
  | tup ds'=>exact absurd rfl (hn _)
  | scr ns=>
    cases h
    cases r with
    | scr h1=>exact ⟨_,_,rfl,I.ex.tT h1,uC ns⟩
  | cell k=>
    unfold br at h
    cases hS:S[k]? with
    | none=>simp [hS] at h
    | some c=>
      cases c with
      | lst es=>
        simp only [hS] at h
        cases h
        cases r with
        | cell ha=>
          obtain ⟨z1,ob,z2,z3⟩:=I.cell k _ _ ha hS
          cases ob with
          | lst xs=>exact ⟨_,_,rfl,SqL.of z2,aS.mono (Ex.refl _) pre_nil z3⟩
          | _=>exact z3.elim
      | _=>simp [hS] at h
  | _=>cases h
theorem lJ:RC K (λxs H Q=>∃ p ys,xs=[.ref p]∧((SqL K H p ys∧∀ l,H l=none->Q (.ref l) (upd H l (.tup ys)))∨(SqT K H p ys∧Q (.ref p) H))) j4:=λas F H S ds d vs I r h Q q=>by
  unfold j4 at h
  split at h
  · cases h
    obtain ⟨v,ws,rfl,rv,rn⟩:=r.dG
    obtain rfl:=rn.dR
    cases rv with
    | tup h1 r1=>exact ⟨_,_,rfl,.inr ⟨I.ex.kT h1,q F H _ (aW.refl I) (.tup h1 r1)⟩⟩
  · rename_i x hx
    obtain ⟨v,ws,rfl,rv,rn⟩:=r.dG
    obtain rfl:=rn.dR
    simp only [Option.map_eq_some_iff] at h
    obtain ⟨es,h1,rfl⟩:=h
    obtain ⟨a,xs,rfl,sq,re⟩:=FW I rv h1 λys e=>hx ys e
    refine ⟨a,xs,rfl,.inl ⟨sq,λl hl=>?_⟩⟩
    have g:=I.grow (o:=.tup xs) hl
    exact q _ _ _ g (.tup (SqT.of upd_same) (re.mono g.ex g.pre))
  · cases h
def qN:WS->List D->Option D:=λS xs=>match xs with
  | [x]=>(br S x).map D.lst
  | _=>none
theorem Mq:RC K (λxs H Q=>∃ p ys,xs=[.ref p]∧(SqL K H p ys∨SqT K H p ys)∧∀ l,H l=none->Q (.ref l) (upd H l (.lst ys))) qN:=λas F H S ds d vs I r h Q q=>by
  unfold qN at h
  split at h
  · rename_i x
    obtain ⟨v,ws,rfl,rv,rn⟩:=r.dG
    obtain rfl:=rn.dR
    simp only [Option.map_eq_some_iff] at h
    obtain ⟨es,h1,rfl⟩:=h
    obtain ⟨a,xs,rfl,sq,re⟩:=qD I rv h1
    refine ⟨a,xs,rfl,sq,λl hl=>?_⟩
    have g:=I.grow (o:=.lst xs) hl
    exact q _ _ _ g (.lst upd_same (re.mono g.ex g.pre))
  · cases h
def Li (S:WS) (k:Nat) (f:List D->Prop):Prop:=gx S[k]? λc=>sA c f
theorem Dy {S:WS} {k:Nat} {f:List D->Prop} (h:Li S k f):∃ ds,S[k]? =some (.lst ds)∧f ds:=by
  obtain ⟨c,h1,h2⟩:=bT h
  obtain ⟨ds,rfl,h2⟩:=Ro h2
  exact ⟨ds,h1,h2⟩
def iM (eo ee:Env->M):Env->MS:=λρ S k=>eo ρ S (λo S1=>NK o λi=>Li S1 i λ_=>ee ρ S1 (λd S2=>Li S2 i λds=>(D.clean 0 d=true∧small ds.length=true)∧k.nx ρ (S2.set i (.lst (ds++[d])))) λe S'=>k.ex e ρ S') λe S'=>k.ex e ρ S'
theorem FI {H:Hp} {p:Addr} {xs:List V} (h:H p=some (.lst xs)):tyV K "list" (.ref p) H:=.inl ⟨rfl,xs,SqL.of h⟩
theorem gJ (ho:GE X W o eo) (he:GE X W e ee) (hs0:swapsWith (.Call (.Attribute o "append" apos) [e] [] cpos) none pos.line X.env=pure false:=by rfl) (hbase:attributeBase o "append" X.env (eval o X.env)=eval o X.env:=by rfl)
    (hfew:((backTo cpos (starEach [e] X.env)).all (λx=>!x.1) && (backToKw cpos (keywordEach [] X.env)).all (λx=>x.1.isSome)
      && decide (([e]:List Expr).length+([]:List Keyword).length+(if ([]:List Keyword).isEmpty then 0 else 1) < 30))=true:=by rfl)
    (hline:(apos.endLine == cpos.line)=true:=by rfl) (hs:starEach [e] X.env=(false,eval e X.env) :: starEach [] X.env:=by rfl) (hplain:(backTo cpos (starEach [] X.env)).any (·.1)=false:=by rfl):
    GS X W (.Expr (.Call (.Attribute o "append" apos) [e] [] cpos) pos) (iM eo ee):=by
  obtain ⟨to,po,mo⟩:=ho
  obtain ⟨te,pe,me⟩:=he
  refine ⟨_,ps_expr (pe_bm PySem.F.plainAttrs_list PySem.F.slot_list_append PySem.F.type_list_append mt_append po (pa_cons pe pa_nil hs) hbase hfew hline hs hplain) hs0,λas F H S ρ σ I R k h E q=>?_⟩
  refine mo as F H S ρ σ I R _ _ h _ (λd1 S1 bs F1 H1 v1 h1 g1 r1=>?_) (q.xq R)
  cases r1 with
  | cell ha=>
    obtain ⟨ds0,hS0,h1⟩:=Dy h1
    obtain ⟨_,o0,z0,z1⟩:=g1.sit.cell _ _ _ ha hS0
    cases o0 with
    | lst xs0=>
      refine ⟨FI z0,?_⟩
      refine me bs F1 H1 S1 ρ σ g1.sit (R.grow g1) _ _ h1 _ (λd2 S2 cs F2 H2 v2 h2 g2 r2=>?_) ((q.step g1).xq (R.grow g1))
      obtain ⟨ds,hS,hc,h2⟩:=Dy h2
      have ha2:=g2.pre _ _ ha
      obtain ⟨_,o2,y0,y1⟩:=g2.sit.cell _ _ _ ha2 hS
      cases o2 with
      | lst xs=>
        have hl:xs.length < sizeLine:=by
          have e1:ds.length=xs.length:=aS.length y1
          have e2:ds.length≤100000:=of_decide_eq_true hc.2
          have e3:(100000:Nat) < sizeLine:=by decide
          omega
        refine ⟨_,xs,v2,rfl,rfl,y0,hl,?_⟩
        have r2':Rp X.K [] F2 d2 v2:=r2.back (λk a hk=>by omega) hc.1
        have g3:=g2.sit.put (c':=.lst (ds++[d2])) (o:=.lst (xs++[v2])) ha2 hS rfl rfl (aS.append y1 (.cons r2' .nil))
        have g:=(g1.trans g2).trans g3
        exact q.nx ρ _ cs F2 _ σ h2 g (R.grow g)
      | _=>exact y1.elim
    | _=>exact z1.elim
  | _=>exact h1.elim
end
theorem O7 {z:Value} {ob:Obj} {HP:Heap->Prop} (bg:PySem.Begins z ob HP):
    Meets (Builtin.«enumerate.__new__» ⟨[.type "enumerate",z],[]⟩) (λ_ R st=>HP st.heap∧
      R (.ok (.ret (.ref (st.heap.push ob).objs.size))) {st with heap:=(st.heap.push ob).push {cls:=.type "enumerate",data:=.fields #[.none,.bool false,.ref st.heap.objs.size,rawInt 0,.none,.none]}}):=
  .of_wp λprog w A R st hh=>by
    obtain ⟨hp,gs,dr,tks,oss⟩:=st
    obtain ⟨hz,hh⟩:=hh
    have subE:=sub_enumerate
    have itz:∀ {A2:Around} {E2:Value->Shared->Prop} {Q2:Value->Shared->Prop},Q2 (.ref hp.objs.size) ⟨hp.push ob,gs,dr,tks,oss⟩->wpAny (model prog w) A2 (pyIter z) Q2 E2 ⟨hp,gs,dr,tks,oss⟩:=
      λq=>bg.iter prog w _ _ ⟨hp,gs,dr,tks,oss⟩ _ hz q
    wp_walk using itz
    refine wpAny_stack_any λstk=>wpAny_pure ?_
    split
    · rename_i cc _ _ _ _ _
      cases (cc == Value.type "enumerate")
      · wp_walk using itz
        exact ⟨_,rfl,hh⟩
      · wp_walk using itz
        exact ⟨_,rfl,hh⟩
    · wp_walk using itz
      exact ⟨_,rfl,hh⟩
theorem Oa {sh:Shared} {P:Program} {w:World} {A:Around} {E:Value->Shared->Prop} {t:Addr} {its:Array Value} {Q:Value->Shared->Prop} (ht:sh.heap.IsTuple t its)
    (k:∀ h2,IsEnum h2 (sh.heap.objs.size+1) sh.heap.objs.size 0 .none->h2.IsTupleIter sh.heap.objs.size t 0->h2.objs.size=sh.heap.objs.size+2->(∀ b u,sh.heap.get? b=some u->h2.get? b=some u)->Q (.ref (sh.heap.objs.size+1)) {sh with heap:=h2}):
    wpAny (model P w) A (call (.type "enumerate") [.ref t]) Q E sh:=by
  have bg:=PySem.begins_tuple t its
  refine callType_new PySem.F.called_enumerate (by decide) (PySem.F.typeCall_enumerate_1 _) (PySem.F.newCall_enumerate_1 _) (λob=>PySem.F.args_object_init_2 ob _) PySem.F.entry_enumerate_new (O7 bg) ⟨ht,?_⟩
  have sz:(sh.heap.push {cls:=.type "tuple_iterator",data:=.fields #[.ref t,.int 0 0]}).objs.size=sh.heap.objs.size+1:=Heap.size_push ..
  show _∧_
  rw [sz]
  have en:IsEnum ((sh.heap.push {cls:=.type "tuple_iterator",data:=.fields #[.ref t,.int 0 0]}).push
      {cls:=.type "enumerate",data:=.fields #[.none,.bool false,.ref sh.heap.objs.size,rawInt 0,.none,.none]}) (sh.heap.objs.size+1) sh.heap.objs.size 0 .none:=by
    have q:=Heap.get?_push_size (sh.heap.push {cls:=.type "tuple_iterator",data:=.fields #[.ref t,.int 0 0]})
      (o:={cls:=.type "enumerate",data:=.fields #[.none,.bool false,.ref sh.heap.objs.size,rawInt 0,.none,.none]}) rfl
    rw [sz] at q
    exact q
  exact ⟨⟨_,en,rfl⟩,k _ en ⟨_,Heap.get?_push_of_some _ (Heap.get?_push_size _ rfl),rfl,rfl⟩ (by rw [Heap.size_push,sz]) λb u q=>Heap.get?_push_of_some _ (Heap.get?_push_of_some _ q)⟩
def WV (K:PySem.W.Frag) (a:Addr):It:=
  ⟨λi H=>∃ (ys:List V) (y:V),SqT K H a ys∧ys[i]? =some y,λi H v H2=>∃ B y,v=.ref B∧H B=none∧H2=upd H B (.tup [.int (i:Nat),y])∧∀ ys,SqT K H a ys->ys[i]? =some y,λi H=>∃ ys:List V,SqT K H a ys∧ys.length≤i⟩
theorem M4 {P:Program} {w:World} {K:PySem.W.Frag} {tgs:List Expr} {kt:Nat} {tp:Pos} (a en it:Addr):
    Turn P w K (.Tuple tgs kt tp) (WV K a) [en,it] en (λi h=>(∃ pv,IsEnum h en it ((i:Nat):Int) pv)∧h.IsTupleIter it a i∧en≠it) where
  mem:=by simp
  obj :=λi h st b hb=>by
    obtain ⟨⟨pv,he⟩,⟨ob,ho,hc,hd⟩,_⟩:=st
    have bb:b=en∨b=it:=by simpa using hb
    rcases bb with z | z
    · subst z
      exact ⟨_,he,λv q=>nomatch q⟩
    · subst z
      exact ⟨ob,ho,λv q=>by rw [hd] at q; cases q⟩
  keep:=λi h h2 st kp=>by
    obtain ⟨⟨pv,he⟩,hi,hne⟩:=st
    exact ⟨⟨pv,kp en (by simp) _ he⟩,hi.at λob q=>kp it (by simp) ob q,hne⟩
  item:=by
    intro X hP hw hK hc i pins s σ H E I hf st hg
    subst hP hw hK
    obtain ⟨⟨pv,he⟩,hit,hne⟩:=st
    obtain ⟨ys,y,hq,hy⟩:=hg
    obtain ⟨its,rv,tp',hz⟩:=I.tuple hq
    obtain ⟨u,hu,ru⟩:=rv.get hy
    have tup:s.heap.IsTuple a its.toArray:=tp'
    have enl:en < s.heap.objs.size:=Heap.lt_size he
    have itl:it < s.heap.objs.size:=by
      obtain ⟨_,q,_⟩:=hit
      exact Heap.lt_size q
    have ne1:a≠it:=λz=>by
      obtain ⟨o1,q1,c1,_⟩:=hit
      obtain ⟨o2,q2,c2,_⟩:=tup
      rw [z,q1] at q2
      cases q2
      rw [c1] at c2
      simp at c2
    have ne2:en≠a:=λz=>by
      obtain ⟨o2,q2,c2,_⟩:=tup
      rw [← z] at q2
      rw [show s.heap.get? en=some _ from he] at q2
      cases q2
      simp at c2
    have dr:=PySem.Draws.tuple (prog:=X.prog) (w:=X.w) (A:=X.A.in1) (I.ok.hd hc) it a ne1 its.toArray
    have hlt:i < its.toArray.size:=by
      have:=(List.getElem?_eq_some_iff.mp hu).1
      simpa using this
    refine PySem.wpAny_pyNext_enum_itemD dr he ⟨hit,tup⟩ hlt hne (by simp; exact ⟨hne,ne2⟩) λx h2 tk px ho st2 hT hsz hk=>?_
    have ex:x=u:=by
      have e1:its.toArray[i]? =some u:=by simpa using hu
      rw [show its.toArray[i]? =some x from px] at e1
      exact Option.some.inj e1
    subst ex
    refine ⟨_,rfl,wpAny_letOwnedTupleGo_enum (s:={s with heap:=h2,toks:=tk+1}) ho λh3 he3 sb=>?_⟩
    have hT3:h3.get? s.heap.objs.size=some {cls:=.type "tuple",data:=.seq #[.int i tk,x]}:=(sb.2 _ (Nat.ne_of_gt enl)).trans hT
    have nw:ObjOk X.prog X.w (upd H s.heap.objs.size (.tup [.int (i:Nat),y])) h3 s.heap.objs.size (.tup [.int (i:Nat),y]):=
      ⟨by show 2≤sizeLine; decide,[.int i tk,x],.cons ⟨_,rfl⟩ (.cons ru .nil),⟨_,hT3,rfl,_,rfl⟩⟩
    have I2:Inv X pins σ (upd H s.heap.objs.size (.tup [.int (i:Nat),y])) {s with heap:=h3,toks:=tk+1}:=
      I.turnedNew (ch:=[en,it]) (λb ob hb q=>(sb.2 b (λz=>hb (by simp [z]))).trans (hk b ob (λz=>hb (by simp [z])) (λz=>hb (by simp [z])) q)) hf (Nat.le_refl _) nw
    refine ⟨.ref s.heap.objs.size,_,I2,rfl,⟨_,y,rfl,I.hok.fresh (Nat.le_refl _),rfl,λzs hz2=>by rw [I.tuple_inj hz2 hq]; exact hy⟩,⟨⟨x,?_⟩,st2.1.at λob q=>(sb.2 it (Ne.symm hne)).trans q,hne⟩,λb hb=>?_⟩
    · have e1:((i+1:Nat):Int)=(i:Int)+1:=by omega
      rw [e1]
      exact he3
    · have bb:b=en∨b=it:=by simpa using hb
      have bl:b < s.heap.objs.size:=by
        rcases bb with z | z
        · rw [z]; exact enl
        · rw [z]; exact itl
      rw [upd_ne (Nat.ne_of_lt bl)]
      exact (hf b hb).1
  done:=  by
    intro X hP hw hK hc i pins s σ H E I hf st hg
    subst hP hw hK
    obtain ⟨⟨pv,he⟩,hit,hne⟩:=st
    obtain ⟨ys,hq,hy⟩:=hg
    obtain ⟨its,rv,tp',hz⟩:=I.tuple hq
    have tup:s.heap.IsTuple a its.toArray:=tp'
    have ne1:a≠it:=λz=>by
      obtain ⟨o1,q1,c1,_⟩:=hit
      obtain ⟨o2,q2,c2,_⟩:=tup
      rw [z,q1] at q2
      cases q2
      rw [c1] at c2
      simp at c2
    obtain ⟨f0,f1,f2,f3,f4,f5⟩:=hf it (by simp)
    have none_i:its.toArray[i]? =none:=by
      have:=rv.length
      simp
      omega
    have hd:X.A.in1.handled=none:=I.ok.hd hc
    have dr:PySem.Draws X.prog X.w X.A.in1 it [it,a] i (λ_ _=>False) (λj h=>j=i∧h.IsTupleIter it a i∧h.IsTuple a its.toArray):=
      { live:=λ_ _ st2=>by
          obtain ⟨ob,q,_⟩:=st2.2.1
          exact ⟨ob,q⟩
        frame:=λ_ _ _ st2 kp=>⟨st2.1,st2.2.1.at λob q=>kp it (by simp) ob q,st2.2.2.at λob q=>kp a (by simp) ob q⟩
        item:=λj s2 Q2 E2 hj st2 _=>by
          have:=st2.1
          omega
        done:=λs2 Q2 E2 st2 kE=>PySem.wpAny_nextOf_tuple_end hd st2.2.1 st2.2.2 none_i kE}
    exact PySem.wpAny_pyNext_enum_endD dr he ⟨rfl,hit,tup⟩ λh2 eb=>⟨rfl,I.turned (t':=s.toks) (λb ob hb q=>eb b ob hb q) f0 f1 f3 f4 f5⟩
  self:=λA i s Q E st h=>by
    obtain ⟨⟨_,he⟩,_⟩:=st
    exact wpAny_pyIter_enum he h
def YD (K:PySem.W.Frag) (ta:TA):TI:=λσ H R=>ta σ H λvs H1=>∃ a ys,vs=[.ref a]∧SqT K H1 a ys∧R (WV K a) H1
section
variable {X:Cx} {W:WX} {e:Expr} {p pos tpos:Pos} {elts:List Expr} {kk:Nat}
theorem Qw {ta:TA} (gl:Gl X "enumerate") (nm:X.mg "enumerate"=none) (ha:PA X [e] ta) (st:starEach [e] X.env=[(false,eval e X.env)]:=by rfl):
    PI X (.Tuple elts kk tpos) (.Call (.Name "enumerate" p) [e] [] pos) (YD X.K ta):=by
  refine ⟨λpins s σ H R I h=>?_⟩
  refine PyProof.Rows.Call_ (ld_blt I gl nm PyProof.Rows.boot_enumerate (PyProof.Rows.callWith_type1 (thn (ha.run pos pins s σ H _ I h) λus s1 ⟨vs,H1,I1,r1,q1⟩=>?_) st rfl))
  obtain ⟨a,ys,rfl,hq,q⟩:=q1
  cases r1 with
  | cons r rr=>
    cases rr
    cases r
    obtain ⟨its,rv,tp,hz⟩:=I1.tuple hq
    refine Oa (show s1.heap.IsTuple a its.toArray from tp) λh2 en itr hsz kp=>wpAny_pyIter_enum en ?_
    have I2:Inv X pins σ H1 {s1 with heap:=h2}:=I1.kept (t':=s1.toks) kp
    refine ⟨s1.heap.objs.size+1,[s1.heap.objs.size+1,s1.heap.objs.size],_,_,H1,rfl,I2,M4 a (s1.heap.objs.size+1) s1.heap.objs.size,⟨⟨.none,en⟩,itr,Nat.succ_ne_self _⟩,λb hb=>?_,q⟩
    have bb:b=s1.heap.objs.size+1∨b=s1.heap.objs.size:=by simpa using hb
    have ble:s1.heap.objs.size≤b:=by
      rcases bb with z | z
      · rw [z]
        exact Nat.le_add_right _ _
      · rw [z]
        exact Nat.le_refl _
    exact I1.fpOk ble (I1.hok.fresh ble)
def gS (i:Nat):List D->List D
  | []=>[]
  | d :: ds=>.tup [.int (i:Int),d] :: gS (i+1) ds
theorem mE:∀ (ds:List D) (i:Nat),(gS i ds).length=ds.length
  | [],_=>rfl
  | _ :: ds,i=>congrArg Nat.succ (mE ds (i+1))
theorem C5:∀ (ds:List D) (i j:Nat),(gS i ds)[j]? =(ds[j]?).map λd=>D.tup [.int ((i+j:Nat):Int),d]
  | [],_,_=>by simp [gS]
  | d :: ds,i,0=>by simp [gS]
  | d :: ds,i,j+1=>by
    simp only [gS,List.getElem?_cons_succ]
    rw [C5 ds (i+1) j]
    have:i+1+j=i+(j+1):=by omega
    rw [this]
def pP (er:Env->ML):Env->MW:=λρ S q x=>er ρ S (λds S1=>G2 ds λd=>Ji d λds=>q (gS 0 ds) cB S1) x
theorem uf {er:Env->ML} (nm:X.mg "enumerate"=none) (ha:GA X W [e] er) (gl:Gl X "enumerate":=by rfl) (st:starEach [e] X.env=[(false,eval e X.env)]:=by rfl):
    GI X W (.Tuple elts kk tpos) (.Call (.Name "enumerate" p) [e] [] pos) (pP er):=by
  obtain ⟨t,p,m⟩:=ha
  refine ⟨_,Qw gl nm p st,λas F H S ρ σ I R q x e Q hq hx=>?_⟩
  refine m as F H S ρ σ I R _ x e _ (λds S1 bs F1 H1 vs h1 g r=>?_) hx
  obtain ⟨y,rfl,h1⟩:=Bh h1
  obtain ⟨ds',rfl,h1⟩:=Mw h1
  · obtain ⟨v,ws,rfl,rv,rn⟩:=r.dG
    obtain rfl:=rn.dR
    cases rv with
    | tup hp rl=>
      rename_i a xs
      refine ⟨a,xs,rfl,g.sit.ex.kT hp,hq _ _ S1 bs F1 H1 _ h1 g ⟨λbs F2 H2 S2 I2 x2 p2 _=>?_,λi hi bs F2 H2 S2 I2 x2 p2 _=>?_,λi d hd bs F2 H2 S2 I2 x2 p2 _ x H' y=>?_⟩⟩
      · have hq:SqT X.K H2 a xs:=I2.ex.kT (x2.kT hp)
        refine ⟨xs,hq,?_⟩
        rw [mE,rl.length]
        exact Nat.le_refl _
      · have hq:SqT X.K H2 a xs:=I2.ex.kT (x2.kT hp)
        rw [mE,rl.length] at hi
        exact ⟨xs,xs[i],hq,List.getElem?_eq_getElem hi⟩
      · have hq:SqT X.K H2 a xs:=I2.ex.kT (x2.kT hp)
        obtain ⟨B,yv,rfl,hB,rfl,hy⟩:=y
        rw [C5] at hd
        simp only [Option.map_eq_some_iff] at hd
        obtain ⟨d',hd',rfl⟩:=hd
        obtain ⟨v,hv,rv⟩:=rl.get hd'
        have:=hy xs hq
        rw [hv] at this
        cases this
        have g2:=I2.grow (o:=.tup [.int (i:Nat),yv]) hB
        refine ⟨_,g2,.tup (SqT.of upd_same) (.cons ?_ (.cons ((rv.mono x2 p2).mono g2.ex g2.pre) .nil))⟩
        rw [Nat.zero_add]
        exact .int _
end
end RV
end
section
namespace RV
open PySem L2
section
variable {K:PySem.W.Frag} {X:Cx} {W:WX} {o e a b:Expr} {es:List Expr} {pos apos:Pos} {eo ee ea eb:Env->M} {er:Env->ML}
def RM (K:PySem.W.Frag) (r:V->List V->Hp->VK->Prop) (f:WS->D->D->Option D):Prop:=∀ (as:List Addr) (F H:Hp) (S:WS) (x:Str) (y d:D) (vy:V),bU K as F H S->Rp K as F y vy->f S (.str x) y=some d->
  ∀ Q:VK,(∀ F' H' v,aW K as F H as F' H' S->Rp K as F' d v->Q v H')->r (.str x) [vy] H Q
def onStr (f:WS->Str->D->Option D):WS->D->D->Option D:=λS x y=>match x with
  | .str z=>f S z y
  | _=>none
def yt (f:WS->D->D->Option D) (ea eb:Env->M):Env->M:=λρ S q x=>ea ρ S (λu S1=>Kh u λz=>eb ρ S1 (λv S2=>gx (f S2 (.str z) v) λd=>q d S2) x) x
theorem Sd {r:V->List V->Hp->VK->Prop} {f:WS->Str->D->Option D} {to te:TE} (hr:RM K r (onStr f)) (ho:ME K W to eo) (he:ME K W te ee):ME K W (tM1 r to te) (yt (onStr f) eo ee):=λas F H S ρ σ I R q x h Q hq hx=>by
  refine ho as F H S ρ σ I R _ x h _ (λu S1 bs F1 H1 v h1 g r1=>?_) hx
  cases r1 with
  | str z=>
    refine ⟨⟨z,rfl⟩,?_⟩
    refine he bs F1 H1 S1 ρ σ g.sit (R.grow g) _ x h1 _ (λy S2 cs F2 H2 w h2 g2 r2=>?_) (hx.step g)
    obtain ⟨d,h3,h4⟩:=bT h2
    exact hr cs F2 H2 S2 z y d w g2.sit r2 h3 Q λF3 H3 u g3 r3=>hq d S2 cs F3 H3 u h4 ((g.trans g2).trans g3) r3
  | _=>exact h1.elim
def nD:WS->D->D->Option D:=onStr λ_ z y=>match y with
  | .str s=>if s.length≠0∧small z.length=true then some (.lst ((Txt.split z s).map D.str)) else none
  | _=>none
theorem CM {as:List Addr} {F:Hp}:∀ ys:List Str,aS K as F (ys.map D.str) (ys.map V.str)
  | []=>.nil
  | y :: ys=>.cons (.str y) (CM ys)
theorem O9 {n:Nat} (h:small n=true):n+2≤sizeLine:=by
  have h1:n≤100000:=of_decide_eq_true h
  have h2:(100002:Nat)≤sizeLine:=by decide
  omega
theorem Jd (ho:GE X W o eo) (he:GE X W e ee) (hs:starEach [e] X.env=[(false,eval e X.env)]:=by rfl) (hbase:attributeBase o "split" X.env (eval o X.env)=eval o X.env:=by rfl) (hline:(apos.endLine == pos.line)=true:=by rfl):
    GE X W (.Call (.Attribute o "split" apos) [e] [] pos) (yt nD eo ee):=by
  obtain ⟨to,po,mo⟩:=ho
  obtain ⟨te,pe,me⟩:=he
  refine ⟨_,pe_split po pe hs hbase hline,Sd (λas F H S x y d vy I r h Q q=>?_) mo me⟩
  simp only [onStr] at h
  split at h
  · rename_i s
    split at h
    · rename_i hc
      cases h
      cases r
      refine ⟨x,s,rfl,rfl,by simpa using hc.1,O9 hc.2,λp hp=>?_⟩
      have g:=I.grow (o:=.lst ((Txt.split x s).map V.str)) hp
      exact q _ _ _ g (.lst upd_same (CM _))
    · cases h
  · cases h
def sL:List D->Option (List Str)
  | []=>some []
  | .str s :: r=>(sL r).map λt=>s :: t
  | _=>none
theorem IP:∀ {ds:List D} {ys:List Str},sL ds=some ys->ds=ys.map D.str
  | [],ys,h=>by
    cases h
    rfl
  | .str s :: r,ys,h=>by
    simp only [sL,Option.map_eq_some_iff] at h
    obtain ⟨t,h1,rfl⟩:=h
    rw [IP h1]
    rfl
  | .non :: r,ys,h=>by cases h
  | .bl _ :: r,ys,h=>by cases h
  | .int _ :: r,ys,h=>by cases h
  | .ty _ :: r,ys,h=>by cases h
  | .adr _ :: r,ys,h=>by cases h
  | .cell _ :: r,ys,h=>by cases h
  | .scr _ :: r,ys,h=>by cases h
  | .tup _ :: r,ys,h=>by cases h
  | .lst _ :: r,ys,h=>by cases h
  | .obj _ _ :: r,ys,h=>by cases h
  | .dic _ :: r,ys,h=>by cases h
  | .exc _ _ :: r,ys,h=>by cases h
  | .exv _ _ _ _ :: r,ys,h=>by cases h
theorem ED {as:List Addr} {F:Hp}:∀ {ys:List Str} {xs:List V},aS K as F (ys.map D.str) xs->xs=ys.map V.str
  | [],_,.nil=>rfl
  | y :: ys,_,.cons r t=>by
    cases r
    rw [ED t]
    rfl
def oY:WS->D->D->Option D:=onStr λS z y=>(br S y).bind λds=>(sL ds).bind λys=>if (ys.map (·.length)).sum+ys.length * z.length≤100000 then some (.str (Txt.join z ys)) else none
theorem FE (ho:GE X W o eo) (he:GE X W e ee) (hs:starEach [e] X.env=[(false,eval e X.env)]:=by rfl) (hbase:attributeBase o "join" X.env (eval o X.env)=eval o X.env:=by rfl) (hline:(apos.endLine == pos.line)=true:=by rfl):
    GE X W (.Call (.Attribute o "join" apos) [e] [] pos) (yt oY eo ee):=by
  obtain ⟨to,po,mo⟩:=ho
  obtain ⟨te,pe,me⟩:=he
  refine ⟨_,pe_join po pe hs hbase hline,Sd (λas F H S x y d vy I r h Q q=>?_) mo me⟩
  simp only [onStr,Option.bind_eq_some_iff] at h
  obtain ⟨ds,h1,ys,h2,h3⟩:=h
  split at h3
  · rename_i hc
    cases h3
    obtain ⟨p,xs,rfl,sq,rl⟩:=qD I r h1
    rw [IP h2] at rl
    have ex:=ED rl
    subst ex
    exact ⟨x,p,ys,rfl,rfl,sq,by omega,keep I q (.str _)⟩
  · cases h3
def tF:WS->D->Option D:=λ_ x=>match x with
  | .str y=>if small y.length=true then some (.str y) else none
  | .int i=>if i.natAbs.log2 < 1920 then some (.str (toString i)) else none
  | _=>none
theorem tL (h:GE X W e ea):GE X W (.FormattedValue e (-1) none pos) (jS tF ea):=by
  obtain ⟨t,p,m⟩:=h
  refine ⟨_,pe_fmt p,λas F H S ρ σ I R q x h Q hq hx=>?_⟩
  refine m as F H S ρ σ I R _ x h _ (λu S1 bs F1 H1 v h1 g r=>?_) hx
  obtain ⟨d,h2,h3⟩:=bT h1
  unfold tF at h2
  split at h2
  · split at h2
    · rename_i y hs
      cases h2
      cases r
      exact .inl ⟨y,rfl,kJ hs,hq _ S1 bs F1 H1 _ h3 g (.str y)⟩
    · cases h2
  · split at h2
    · rename_i i hs
      cases h2
      cases r
      exact .inr ⟨i,rfl,hs,hq _ S1 bs F1 H1 _ h3 g (.str _)⟩
    · cases h2
  · cases h2
abbrev MJ:=Env->Str->WS->(Str->WS->Prop)->Xq->Prop
structure GJ (X:Cx) (W:WX) (es:List Expr) (m:MJ):Prop where
  ex:∃ ts,PJ X es ts∧∀ (as:List Addr) (F H:Hp) (S:WS) (ρ:Env) (σ:L2.St) (acc:Str),bU X.K as F H S->fT X.K as F ρ σ->∀ q x,m ρ acc S q x->
    ∀ Q:Str->Hp->Prop,(∀ out S' bs F' H',q out S'->aW X.K as F H bs F' H' S'->Q out H')->XQ X.K as F H x (WE W σ)->tJs ts acc σ H Q
def JR:MJ:=λ_ acc S q _=>q acc S
def kr (ea:Env->M) (jr:MJ):MJ:=λρ acc S q x=>ea ρ S (λd S1=>Kh d λy=>small (acc.length+y.length)=true∧jr ρ (acc++y) S1 q x) x
theorem JF:GJ X W [] JR:=⟨[],.nil,λas F H S ρ σ acc I R q x h Q hq _=>hq acc S as F H h (aW.refl I)⟩
theorem i7 {jr:MJ} (h:GE X W e ea) (r:GJ X W es jr):GJ X W (e :: es) (kr ea jr):=by
  obtain ⟨t,p,m⟩:=h
  obtain ⟨ts,ps,ms⟩:=r
  refine ⟨t :: ts,.cons p ps,λas F H S ρ σ acc I R q x h Q hq hx=>?_⟩
  refine m as F H S ρ σ I R _ x h _ (λu S1 bs F1 H1 v h1 g r=>?_) hx
  cases r with
  | str y=>exact ⟨y,rfl,by rw [strLen_append]; exact kJ h1.1,ms bs F1 H1 S1 ρ σ _ g.sit (R.grow g) q x h1.2 Q (λout S' cs F' H' a g2=>hq out S' cs F' H' a (g.trans g2)) (hx.step g)⟩
  | _=>exact h1.elim
def Ec (m:MJ):Env->M:=λρ S q x=>m ρ Str.empty S (λt S1=>q (.str t) S1) x
theorem Bm {v1 v2:Expr} {rest:List Expr} {m:MJ} (h:GJ X W (v1 :: v2 :: rest) m):GE X W (.JoinedStr (v1 :: v2 :: rest) pos) (Ec m):=by
  obtain ⟨ts,ps,ms⟩:=h
  exact ⟨_,pe_joined ps,λas F H S ρ σ I R q x h Q hq hx=>ms as F H S ρ σ Str.empty I R _ x h _ (λout S' bs F' H' a g=>hq _ S' bs F' H' _ a g (.str _)) hx⟩
def IA (ea:Env->M) (er:Env->ML):Env->ML:=λρ S q x=>ea ρ S (λu S1=>gx (br S1 u) λds=>er ρ S1 (λes S2=>q (ds++es) S2) x) x
theorem MN {p:Pos} (h:GE X W e ea) (r:GA X W es er) (hs:starEach (.Starred e p :: es) X.env=(true,eval e X.env) :: starEach es X.env:=by rfl):GA X W (.Starred e p :: es) (IA ea er):=by
  obtain ⟨t,p,m⟩:=h
  obtain ⟨t2,p2,m2⟩:=r
  refine ⟨_,StX.pa_star p p2 hs,λas F H S ρ σ I R q x h Q hq hx=>?_⟩
  refine m as F H S ρ σ I R _ x h _ (λu S1 bs F1 H1 v h1 g r=>?_) hx
  obtain ⟨xs,h2,h3⟩:=bT h1
  obtain ⟨a,ys,rfl,sq,rl⟩:=qD g.sit r h2
  refine ⟨a,ys,rfl,sq.symm,?_⟩
  refine m2 bs F1 H1 S1 ρ σ g.sit (R.grow g) _ x h3 _ (λes S2 cs F2 H2 vs h4 g2 r2=>?_) (hx.step g)
  exact hq _ S2 cs F2 H2 _ h4 (g.trans g2) ((rl.mono g2.ex g2.pre).append r2)
end
end RV
end
section
namespace RV
open PySem L2
variable {nn:Bool}
section
variable {K:PySem.W.Frag} {X:Cx} {W:WX} {o e a b:Expr} {es:List Expr} {pos apos p:Pos} {eo ee ea eb:Env->M} {er ek:Env->ML}
def Qe (K:PySem.W.Frag) (r:List V->Hp->VK->Prop) (f:List D->M):Prop:=∀ (as:List Addr) (F H:Hp) (S:WS) (ds:List D) (vs:List V),bU K as F H S->aS K as F ds vs->∀ q x,f ds S q x->
  ∀ Q:VK,NQ K as F H q Q->r vs H Q
def xh (f:List D->M) (er:Env->ML):Env->M:=λρ S q x=>er ρ S (λds S1=>f ds S1 q x) x
theorem Qg {r:List V->Hp->VK->Prop} {f:List D->M} {t:TA} (hr:Qe K r f) (h:MA K W t er):ME K W (tCB r t) (xh f er):=λas F H S ρ σ I R q x e Q hq hx=>
  h as F H S ρ σ I R _ x e _ (λds S1 bs F1 H1 vs h1 g1 r1=>hr bs F1 H1 S1 ds vs g1.sit r1 q x h1 Q (hq.step g1)) hx
theorem Po {x:Str} {id:String} {r:List V->Hp->VK->Prop} {f:List D->M} (hc:CallR X (.builtin id) r) (hr:Qe X.K r f) (hm:X.mg x=none) (hv:bootBuiltins x=some (.builtin id)) (ha:GA X W (e :: es) er)
    (hg:Gl X x:=by rfl) (hn:x≠"__name__":=by decide) (hdb:(x == ("__debug__":Str))=false:=by decide) (h1:starEach (e :: es) X.env=(false,eval e X.env) :: starEach es X.env:=by rfl) (h2:(backTo pos (starEach es X.env)).any (·.1)=false:=by rfl):
    GE X W (.Call (.Name x p) (e :: es) [] pos) (xh f er):=by
  obtain ⟨t,p,m⟩:=ha
  exact ⟨_,pe_callB hc hg hm hv p hn hdb h1 h2,Qg hr m⟩
theorem Nf {x:Str} {T:String} {r:List V->Hp->VK->Prop} {f:List D->M} (hc:CallR X (.type T) r) (hr:Qe X.K r f) (hm:X.mg x=none) (hv:bootBuiltins x=some (.type T)) (ha:GA X W (e :: es) er)
    (hg:Gl X x:=by rfl) (hn:x≠"__name__":=by decide) (hdb:(x == ("__debug__":Str))=false:=by decide) (h1:starEach (e :: es) X.env=(false,eval e X.env) :: starEach es X.env:=by rfl) (h2:(backTo pos (starEach es X.env)).any (·.1)=false:=by rfl):
    GE X W (.Call (.Name x p) (e :: es) [] pos) (xh f er):=by
  obtain ⟨t,p,m⟩:=ha
  exact ⟨_,pe_callTy hc hg hm hv p hn hdb h1 h2,Qg hr m⟩
theorem Mf {f:Addr} {fd:FuncData} {ps:List Str} {sp:Sp} {k:Nat} {A:Around} {pins:List (Addr×Obj)} {s:Shared} {σ:L2.St} {H:Hp} {vs:List V} {us:List Value} {R:VK} (Fn:bf ⟨false,nn,false⟩ X.prog X.w X.K X.mg X.base k f fd ps sp) (hr:Room k A) (hfr:A.frames=X.A.frames) (hb:Binds X.K fd ps []) (I:Inv X pins σ H s) (rv:Vals vs us)
    (h:sp vs H R E0):wpAny (model X.prog X.w) A (call (.ref f) us) (EP X pins σ R) X.xe s:=by
  have e0:Env0 X.prog X.w X.K X.mg X.base A X.stack s H:=by
    have z:=I.env0
    exact ⟨by rw [hfr]; exact z.frames,z.mod,z.bs,z.bsz,z.funs,z.frf,z.hok,z.bare⟩
  have hl:us.length=ps.length:=rv.length.symm.trans (Fn.len _ _ _ _ h)
  refine wpAny_call (codeAny_mono (Fn.ok.run A X.stack s H ⟨us,[]⟩ us vs R E0 hr e0 (by
    have z:=hb s us I.kIn (by simpa using hl)
    simpa using z) rv h) λr s' hq=>?_)
  cases r with
  | error e=>
    exact (JO hq).elim
  | ok fl=>
    cases fl with
    | ret w=>exact I.after hq
    | next=>exact hq.elim
    | brk=>exact hq.elim
    | cont=>exact hq.elim
def Fw (C:Addr) (sp:Sp):List V->Hp->VK->Prop:=λxs H Q=>∃ a dx fs,xs=[.ref a]∧H a=some (.ins C dx fs)∧sp xs H (λv H'=>∃ n:Int,v=.int n∧0≤n∧n < 2 ^ 62∧Q (.int n) H') E0
theorem K6 {C f:Addr} {fd:FuncData} {ps:List Str} {sp:Sp} {k j:Nat} (Fn:bf ⟨false,nn,false⟩ X.prog X.w X.K X.mg X.base k f fd ps sp) (hr:Room j X.A) (hj:k+1≤j) (hs:PySem.W.findIn X.K (.ref C) "__len__"=some (some (.ref f))) (hf:PySem.W.isFn X.K (.ref f)=true) (hb:Binds X.K fd ps []):
    CallR X (.builtin "len") (Fw C sp):=λpins s σ H xs us Q I rv q=>by
  obtain ⟨a,dx,fs,rfl,ha,q⟩:=q
  obtain ⟨u,rfl,ru⟩:=rv.one
  cases ru
  obtain ⟨mA,J,_⟩:=ins_get I.hok ha
  obtain ⟨od,J,_⟩:=J.look
  obtain ⟨m,hF⟩:=I.fr
  refine PySem.W.len_K hF I.ok.mod.kin J hs hf ?_
  refine thn (Mf Fn (hr.mono hj).in1 rfl hb I (vs:=[.ref a]) (.cons rfl .nil) q) λw s' hw=>?_
  obtain ⟨z,H',I',rz,n,rfl,h0,h1,qn⟩:=hw
  obtain ⟨t,rfl⟩:=rz
  refine ⟨⟨h0,by omega⟩,.int n,H',I'.tok _,⟨_,rfl⟩,qn⟩
def F8 (C:Addr) (sp:Sp):List V->Hp->VK->Prop:=λxs H Q=>∃ a dx fs,xs=[.ref a]∧H a=some (.ins C dx fs)∧sp xs H (λv H'=>∃ t:Str,v=.str t∧Q (.str t) H') E0
theorem K7 {C f:Addr} {fd:FuncData} {ps:List Str} {sp:Sp} {k j:Nat} (Fn:bf ⟨false,nn,false⟩ X.prog X.w X.K X.mg X.base k f fd ps sp) (hr:Room j X.A) (hj:k+2≤j) (hs:PySem.W.findIn X.K (.ref C) "__str__"=some (some (.ref f))) (hf:PySem.W.isFn X.K (.ref f)=true) (hb:Binds X.K fd ps []):
    CallR X (.type "str") (F8 C sp):=λpins s σ H xs us Q I rv q=>by
  obtain ⟨a,dx,fs,rfl,ha,q⟩:=q
  obtain ⟨u,rfl,ru⟩:=rv.one
  cases ru
  obtain ⟨mA,J,_⟩:=ins_get I.hok ha
  obtain ⟨od,J,_⟩:=J.look
  have hr2:=(hr.mono hj).in1.in1
  refine PySem.W.kso_call hr2.units0 I.kIn J hs hf ?_
  refine thn (Mf Fn hr2 rfl hb I (vs:=[.ref a]) (.cons rfl .nil) q) λw s' hw=>?_
  obtain ⟨z,H',I',rz,t,rfl,qn⟩:=hw
  obtain ⟨tk,rfl⟩:=rz
  exact ⟨.str t,H',I',⟨_,rfl⟩,qn⟩
def BE (C:Addr) (G:List D->M):List D->M:=λds S q _=>G2 ds λd=>qc C S d∧G [d] S (λr S'=>Bf r λn=>(0≤n∧n < 2 ^ 62)∧q (.int n) S') nj
theorem Um {C:Addr} {G:List D->M}:Qe K (Fw C (bh K 1 G)) (BE C G):=λas F H S ds vs I r q x h Q hq=>by
  obtain ⟨d0,rfl,h⟩:=Bh h
  · obtain ⟨v,ws,rfl,rv,rn⟩:=r.dG
    obtain rfl:=rn.dR
    obtain ⟨a,dx,vfs,rfl,ha⟩:=F_ I rv h.1
    refine ⟨a,dx,vfs,rfl,ha,as,F,S,_,_,nj,I,.cons rv .nil,rfl,h.2,λd S' bs F' H' v h3 g r2=>?_,XQ.no⟩
    cases r2 with
    | int n=>exact ⟨n,rfl,h3.1.1,h3.1.2,hq _ S' bs F' H' _ h3.2 g (.int n)⟩
    | _=>exact h3.elim
def Br (C:Addr) (G:List D->M):List D->M:=λds S q _=>G2 ds λd=>qc C S d∧G [d] S (λr S'=>Kh r λt=>q (.str t) S') nj
theorem Ui {C:Addr} {G:List D->M}:Qe K (F8 C (bh K 1 G)) (Br C G):=λas F H S ds vs I r q x h Q hq=>by
  obtain ⟨d0,rfl,h⟩:=Bh h
  · obtain ⟨v,ws,rfl,rv,rn⟩:=r.dG
    obtain rfl:=rn.dR
    obtain ⟨a,dx,vfs,rfl,ha⟩:=F_ I rv h.1
    refine ⟨a,dx,vfs,rfl,ha,as,F,S,_,_,nj,I,.cons rv .nil,rfl,h.2,λd S' bs F' H' v h3 g r2=>?_,XQ.no⟩
    cases r2 with
    | str t=>exact ⟨t,rfl,hq _ S' bs F' H' _ h3 g (.str t)⟩
    | _=>exact h3.elim
def gW (neg:Bool):WS->D->D->Option D:=λ_ x y=>match y with
  | .non=>(match x with
    | .non=>some (.bl (!neg))
    | _=>some (.bl neg))
  | _=>none
theorem P5 {as:List Addr} {F:Hp} {x:D} {v:V} (r:Rp K as F x v):(v=.non↔x=.non):=by
  cases r <;> simp
theorem oO:RO K (λx y H Q=>y=.non∧Q (.bl (decide (x=.non))) H) (gW false):=λas F H S x y d vx vy I rx ry h Q q=>by
  unfold gW at h
  split at h
  · cases ry
    refine ⟨rfl,?_⟩
    split at h
    · cases h
      cases rx
      exact keep I q (.bl true)
    · rename_i hn
      cases h
      have:decide (vx=V.non)=false:=decide_eq_false λz=>hn ((P5 rx).mp z)
      rw [this]
      exact keep I q (.bl false)
  · cases h
theorem BL:RO K (λx y H Q=>y=.non∧Q (.bl (!decide (x=.non))) H) (gW true):=λas F H S x y d vx vy I rx ry h Q q=>by
  unfold gW at h
  split at h
  · cases ry
    refine ⟨rfl,?_⟩
    split at h
    · cases h
      cases rx
      exact keep I q (.bl false)
    · rename_i hn
      cases h
      have:decide (vx=V.non)=false:=decide_eq_false λz=>hn ((P5 rx).mp z)
      rw [this]
      exact keep I q (.bl true)
  · cases h
end
section
variable (P:Program) (w:World) (K:PySem.W.Frag) (mg:Str->Option Value) (base:Heap)
def Sc (nn:Bool) (C:Addr) (m:Str) (k n:Nat) (G:List D->M):Prop:=∃ (f:Addr) (fd:FuncData) (ps:List Str),bf ⟨false,nn,false⟩ P w K mg base k f fd ps (bh K n G)∧Binds K fd ps []∧PySem.W.findIn K (.ref C) m=some (some (.ref f))∧PySem.W.isFn K (.ref f)=true
def Cm (nn:Bool) (C:Addr) (m:Str) (k n:Nat) (G:List D->M):Prop:=∃ (q g:Addr) (fd:FuncData) (ps:List Str),ClX.CRead K C (.type "type")∧ClX.CMet K C (.type "type") m q g∧bf ⟨false,nn,false⟩ P w K mg base k g fd ps (bh K n G)∧Binds K fd ps []
end
section
variable {X:Cx} {W:WX} {o e:Expr} {es:List Expr} {pos apos p:Pos} {ea:Env->M} {er ek:Env->ML} {C:Addr} {m x:Str} {k j n:Nat} {G:List D->M} {pl:Sem Bool} {dvs:List D}
theorem Pq (c:Sc X.prog X.w X.K X.mg X.base nn C "__len__" k 1 G) (hr:Room j X.A) (hj:k+1≤j:=by decide):CallR X (.builtin "len") (Fw C (bh X.K 1 G)):=by
  obtain ⟨f,fd,ps,F,hb,hs,hf⟩:=c
  exact K6 F hr hj hs hf hb
theorem Oj (c:Sc X.prog X.w X.K X.mg X.base nn C "__str__" k 1 G) (hr:Room j X.A) (hj:k+2≤j:=by decide):CallR X (.type "str") (F8 C (bh X.K 1 G)):=by
  obtain ⟨f,fd,ps,F,hb,hs,hf⟩:=c
  exact K7 F hr hj hs hf hb
def OE (C:Addr) (n:Nat) (G:List D->M) (ea:Env->M) (er:Env->ML):Env->M:=λρ S q x=>ea ρ S (λu S1=>u=.adr C∧er ρ S1 (λds S2=>ds.length+1=n∧G (.adr C :: ds) S2 q x) x) x
def Yu (C:Addr) (sp:Sp) (E:L2.St->XK) (ta:TE) (t:TA):TE:=λσ H Q=>ta σ H λz H1=>z=.ref C∧t σ H1 λvs H2=>sp (.ref C :: vs) H2 Q (E σ)
theorem run_cm {q0 g:Addr} {fd:FuncData} {ps:List Str} {sp:Sp} {Q:VK} {pins:List (Addr×Obj)} {σ:L2.St} {H:Hp} {s:Shared} {pa:Addr} {args:Args} {us:List Value} {vs:List V} (tk:Tk nn X W) (Fn:bf ⟨false,nn,false⟩ X.prog X.w X.K X.mg X.base k g fd ps sp) (hr:Room k X.A)
    (I:Inv X ((pa,PySem.W.methodObj (.ref g) (.ref C)) :: pins) σ H s) (hb:BindsTo s fd ⟨.ref C :: args.pos,args.kw⟩ (ps.zip us)) (r:Vals vs us) (h:sp vs H Q (WE W σ)):
    wpAny (model X.prog X.w) X.A (PySem.call (.ref pa) args.pos args.kw) (EP X ((pa,PySem.W.methodObj (.ref g) (.ref C)) :: pins) σ Q) X.xe s:=by
  refine wpAny_call (PySem.W.method_call (ClX.pin_at I) (codeAny_mono (Fn.ok.run X.A X.stack s H _ us vs Q (WE W σ) hr I.env0 hb r h) λr s' hq=>?_))
  cases r with
  | error e=>exact tk.pass σ _ H s e s' I hq
  | ok fl=>
    cases fl with
    | ret w=>exact I.after hq
    | next=>exact hq.elim
    | brk=>exact hq.elim
    | cont=>exact hq.elim
theorem Df (tk:Tk nn X W) (c:Cm X.prog X.w X.K X.mg X.base nn C m k n G) (hr:Room j X.A) (ho:GE X W o ea) (ha:GA X W (e :: es) er) (hj:k≤j:=by decide)
    (hst:starEach (e :: es) X.env=(false,eval e X.env) :: starEach es X.env:=by rfl) (hpl:(backTo pos (starEach es X.env)).any (·.1)=false:=by rfl)
    (ht:eval (.Call (.Attribute o m apos) (e :: es) [] pos) X.env=(do
      let ov ← eval o X.env
      standAt apos.atName
      let (f,first) ← holding [ov] (getMethod ov m pl)
      callWith pos f first (backTo pos (starEach (e :: es) X.env)) (backToKw pos (keywordEach [] X.env))):=by rfl):
    GE X W (.Call (.Attribute o m apos) (e :: es) [] pos) (OE C n G ea er):=by
  obtain ⟨q,g,fd,ps,rd,cm,F,hb⟩:=c
  obtain ⟨to,po,mo⟩:=ho
  obtain ⟨t,pa,ma⟩:=ha
  refine ⟨Yu C (bh X.K n G) (WE W) to t,⟨λpins s σ H Q I h=>?_⟩,λas F H S ρ σ I R q x h Q hq hx=>?_⟩
  · refine PySem.W.methodCall_KW (pl:=pl) (thn (po.run pins s σ H _ I h) λu s1 hh=>?_) ht
    obtain ⟨z,H1,I1,rx,ex,q1⟩:=hh
    subst ex
    obtain rfl:u=Value.ref C:=rx
    refine ClX.getmethcm_ok I1 rd cm λs2 I2=>?_
    refine ClX.callwith_cm I2 (ClX.base_none I1 (Nat.le_refl _)) cm.fi (thn (pa.run pos _ s2 σ H1 _ I2 q1) λus s3 hh=>?_) hst hpl
    obtain ⟨vs,H2,I3,rv,q2⟩:=hh
    refine ⟨⟨ClX.pin_at I3,I3.kIn⟩,?_⟩
    have r2:Vals (V.ref C :: vs) (Value.ref C :: us):=.cons rfl rv
    have hl:(Value.ref C :: us).length=ps.length:=r2.length.symm.trans (F.len _ _ _ _ q2)
    have bb:=hb s3 (Value.ref C :: us) I3.kIn (by simpa using hl)
    rw [List.append_nil] at bb
    exact thn (run_cm (q0:=q) (args:=⟨us,[]⟩) tk F (hr.mono hj) I3 bb r2 q2) λ_ _ y=>ClX.unpinE y
  · refine mo as F H S ρ σ I R _ x h _ (λu S1 bs F1 H1 v h1 g1 r1=>?_) hx
    obtain ⟨e1,h1⟩:=h1
    subst e1
    cases r1
    refine ⟨rfl,?_⟩
    refine ma bs F1 H1 S1 ρ σ g1.sit (R.grow g1) _ x h1 _ (λds S2 cs F2 H2 vs h2 g2 r2=>?_) (hx.step g1)
    have g12:=g1.trans g2
    exact ⟨cs,F2,S2,_,q,x,g2.sit,.cons (.adr _) r2,by simpa using h2.1,h2.2,hq.step g12,hx.step g12⟩
def Jt (i:Nat) (l:Lk) (C:Addr) (n:Nat) (G:List D->M) (dvs:List D) (er:Env->ML):Env->M:=λρ S q x=>look ρ i=some (.adr C)∧BV l C n G dvs er ρ S q x
theorem OH (i:Nat) {l:Lk} {y:Str} (tk:Tk nn X W) (c:Mc X.prog X.w X.K X.mg X.base nn y C k n G dvs) (hr:Room j X.A) (ha:GA X W (e :: es) er) (hj:k+1≤j:=by decide) (hN:X.N[i]? =some x:=by rfl) (hv:Vis X.env.scope x:=by first | exact .inl rfl | exact .inr (.inl rfl) | exact .inr (.inr rfl) | exact .inr rfl)
    (hdb:(x == ("__debug__":Str))=false:=by decide) (hcd:(x == ("__classdict__":Str))=false:=by decide) (h1:starEach (e :: es) X.env=(false,eval e X.env) :: starEach es X.env:=by rfl) (h2:(backTo pos (starEach es X.env)).any (·.1)=false:=by rfl):
    GE X W (.Call (.Name x p) (e :: es) [] pos) (Jt i l C n G dvs er):=by
  obtain ⟨f,fd,ps,dv,ds,Mm,Fn,hb,hd,hdv,hm⟩:=c
  obtain ⟨t,pa,ma⟩:=ha
  refine ⟨λσ H Q=>σ[i]? =some (some (.ref C))∧Ja C (bh X.K n G) dv (WE W) t σ H Q,⟨λpins s σ H Q I h=>?_⟩,λas F H S ρ σ I R q x h Q hq hx=>?_⟩
  · obtain ⟨hs,ht⟩:=h
    refine wpAny_Call_Name_kw (thn ((pe_var (pos:=p) hN hv hdb hcd).run pins s σ H (λv H1=>v=.ref C∧H1=H) I ⟨.ref C,hs,rfl,rfl⟩) λu s1 hh=>?_)
    obtain ⟨v,H1,I1,r1,q1⟩:=hh
    obtain ⟨rfl,rfl⟩:=q1
    cases r1
    refine PySem.W.callWith_K (h₀:=X.base) I.ok.mod.kin Mm.kp (thn (pa.run pos pins s1 σ _ _ I1 ht) λus s2 hh=>?_) h1 h2
    obtain ⟨vs,H2,I2,r,q2⟩:=hh
    exact ⟨I2.kIn,GU Mm Fn (hr.mono hj) hb hd tk I2 r q2⟩
  · obtain ⟨v,hv2,rv⟩:=R.at_ i _ (BP h.1)
    cases rv
    exact ⟨hv2,LQ hdv ma as F H S ρ σ I R q x h.2 Q hq hx⟩
end
end RV
end
section
namespace RV
open PySem L2
variable {nn:Bool}
open He (eqO eqO_ok ba ga ma)
section
variable {K:PySem.W.Frag}
theorem CZ {C:Addr} (cl:Cls K C) (h:kindB K C=true):nH K C:=by
  obtain ⟨h1,h⟩:=ba h
  obtain ⟨h2,h⟩:=ba h
  obtain ⟨h3,h4⟩:=ba h
  exact ⟨cl,eqO_ok h1,eqO_ok h2,of_decide_eq_true h3,of_decide_eq_true h4⟩
theorem kN {C:Addr} {f:Str} (h:pG K C f=true):PropOf K C f (ma K C f) (He5.wf K C "property" f):=by
  obtain ⟨h1,h⟩:=ba h
  obtain ⟨h2,h⟩:=ba h
  obtain ⟨h3,h4⟩:=ba h
  refine ⟨eqO_ok h1,eqO_ok h2,of_decide_eq_true h3,?_⟩
  split at h4
  · rename_i g r e
    have:=of_decide_eq_true h4
    subst this
    exact ⟨r,e⟩
  · cases h4
theorem UE {ts us:List Value} {sub:Value->Value->Bool} (h:WC K ts us sub=true) (t u:Value) (b:Bool) (e:NB ts us sub t u=some b):PySem.W.kitOne K t u=some b:=by
  unfold NB at e
  split at e
  · rename_i hm
    cases e
    exact of_decide_eq_true (List.all_eq_true.mp (List.all_eq_true.mp h t hm.1) u hm.2)
  · cases e
theorem Yx {x qual:Str} {params:Arguments} {body:List Stmt} {scope:Scope} {kws:List (Str×V)} {f:Addr} {fd:FuncData} {ps:List Str} (F:FunD K x qual params body scope [] kws f fd) (n:Nat) (ks:List Str) (g:{α:Type}->List α->List α->List α)
    (hrel:∀ {vs zs:List V} {us ws:List Value},Vals vs us->Vals zs ws->Vals (g vs zs) (g us ws))
    (h:∀ (kV doc pm:Value) (an:Option Addr) (cdv ct:Value) (us ws:List Value),us.length=n->ws.length=ks.length->bindArgs (PySem.W.fnOf x qual params body scope .none kV doc pm an cdv ct) ⟨us,ks.zip ws⟩=pure (ps.zip (g us ws))):KBn K fd ps n ks g g:=by
  obtain ⟨oc,od,dV,kV,doc,pm,an,cdv,ct,osl,rfl,lk,hcd,hD,hK⟩:=F.ex
  rcases hD with ⟨_,rfl⟩ | ⟨e,_⟩
  · exact ⟨λs us ws X l1 l2=>BindsTo.of_eq (h kV doc pm an cdv ct us ws l1 l2),λr1 r2=>hrel r1 r2⟩
  · exact absurd rfl e
end
end RV
namespace RV
open PySem L2
open He (eqO eqO_ok ba ga ma)
def perm {α:Type} (m:List Nat) (us ws:List α):List α:=us++m.flatMap λi=>(ws.drop i).take 1
theorem Nt {vs:List V} {us:List Value} (h:Vals vs us):Vals (vs.take 1) (us.take 1):=by
  cases h with
  | nil=>exact .nil
  | cons a _=>exact .cons a .nil
theorem OR {m:List Nat} {vs zs:List V} {us ws:List Value} (r1:Vals vs us) (r2:Vals zs ws):Vals (perm m vs zs) (perm m us ws):=by
  refine r1.append ?_
  induction m with
  | nil=>exact .nil
  | cons i m ih=>
    rw [List.flatMap_cons,List.flatMap_cons]
    exact (Nt (r2.drop i)).append ih
theorem JQ {K:PySem.W.Frag} {as:List Addr} {F:Hp}:∀ (n:Nat) {ds:List D} {vs:List V},aS K as F ds vs->aS K as F (ds.drop n) (vs.drop n)
  | 0,_,_,h=>h
  | _+1,_,_,.nil=>.nil
  | n+1,_,_,.cons _ r=>JQ n r
theorem OM {K:PySem.W.Frag} {as:List Addr} {F:Hp} {ds:List D} {vs:List V} (h:aS K as F ds vs):aS K as F (ds.take 1) (vs.take 1):=by
  cases h with
  | nil=>exact .nil
  | cons a _=>exact .cons a .nil
theorem Ra {K:PySem.W.Frag} {as:List Addr} {F:Hp} {m:List Nat} {ds zs:List D} {vs ws:List V} (r1:aS K as F ds vs) (r2:aS K as F zs ws):aS K as F (perm m ds zs) (perm m vs ws):=by
  refine r1.append ?_
  induction m with
  | nil=>exact .nil
  | cons i m ih=>
    rw [List.flatMap_cons,List.flatMap_cons]
    exact (OM (JQ i r2)).append ih
theorem Vs {P:Program} {w:World} {K:PySem.W.Frag} {mg:Str->Option Value} {base:Heap} {x y qual:Str} {params:Arguments} {body:List Stmt} {scope:Scope} {kws:List (Str×V)} {f C:Addr} {fd:FuncData} {ps:List Str} {k n:Nat} {G:List D->M} (m1:Nat) (ks:List Str) (m:List Nat) (F:FunD K x qual params body scope [] kws f fd) (M:Mk K C f) (ok:bf ⟨false,nn,false⟩ P w K mg base k f fd ps (bh K n G)) (hm:mg y=some (.ref C))
    (h:∀ (kV doc pm:Value) (an:Option Addr) (cdv ct:Value) (us ws:List Value),us.length=m1+1->ws.length=ks.length->bindArgs (PySem.W.fnOf x qual params body scope .none kV doc pm an cdv ct) ⟨us,ks.zip ws⟩=pure (ps.zip (perm m us ws))):
    Su P w K mg base nn y C k n m1 ks G (perm m):=
  ⟨f,fd,ps,perm m,perm m,M,ok,Yx F (m1+1) ks (perm m) OR h,λas F ds zs vs ws s r1 r2 _ _=>⟨perm m vs ws,rfl,Ra r1 r2⟩,hm⟩
end RV
namespace RV
open PySem L2
section
open He (eqO eqO_ok ba ga ma)
variable {P:Program} {w:World} {K:PySem.W.Frag} {mg:Str->Option Value} {base:Heap} {C:Addr} {k n:Nat} {G:List D->M} {fd:FuncData} {ps:List Str}
theorem R9 {m:Str} (h:MQ K C m=true) (F:bf ⟨false,nn,false⟩ P w K mg base k (ma K C m) fd ps (bh K n G)) (b:Binds K fd ps []):Sc P w K mg base nn C m k n G:=
  ⟨_,fd,ps,F,b,eqO_ok (ba h).1,(ba h).2⟩
theorem Xl {m:Str} (h0:Sa K C=true) (h:Sh K C m=true) (F:bf ⟨false,nn,false⟩ P w K mg base k (He5.wf K C "classmethod" m) fd ps (bh K n G)) (b:Binds K fd ps []):Cm P w K mg base nn C m k n G:=
  ⟨_,_,fd,ps,⟨(ba h0).1,eqO_ok (ba h0).2⟩,He5.cmet_of (ba h).1 (ba h).2,F,b⟩
end
end RV
end
section
namespace RV
open PySem L2
variable {nn:Bool}
def own (A:Ad) (C:Addr):Bool:=A.here.any λn=>A.c n == C
theorem U6 {K:PySem.W.Frag} {A:Ad} (h:∀ n∈A.here,nH K (A.c n)) (C:Addr) (e:own A C=true):nH K C:=by
  unfold own at e
  obtain ⟨n,hn,e⟩:=List.any_eq_true.mp e
  rw [← beq_iff_eq.mp e]
  exact h n hn
theorem aV {p:Prop}:false=true->p:=λh=>nomatch h
theorem bf.up {P:Program} {w:World} {K:PySem.W.Frag} {mg:Str->Option Value} {base:Heap} {k:Nat} {f:Addr} {fd:FuncData} {ps:List Str} {sp:Sp} (F:bf ⟨false,nn,false⟩ P w K mg base k f fd ps sp):bf ⟨true,nn,false⟩ P w K mg base k f fd ps sp:=
  ⟨F.len,λA outer s H args us vs Q E _=>F.run A outer s H args us vs Q E aV⟩
section
variable {X:Cx} {W:WX} {pos:Pos}
def Iu (m:Env->MS):Env->MS:=λρ S k=>m ρ S ⟨k.nx,k.rt,k.bk,k.ct,λ_ _ _=>False⟩
theorem Eu {body:List Stmt} {h0:ExceptHandler} {hs:List ExceptHandler} {m:Env->MS} (h:Cn X.nox WF body m):GS X W (.Try body (h0 :: hs) [] [] pos) (Iu m):=by
  obtain ⟨t,p,m⟩:=h
  exact ⟨_,ps_try_thru0 p,λas F H S ρ σ I R k h E q=>m as F H S ρ σ I R _ h E ⟨q.nx,q.rt,q.bk,q.ct,λ_ _ _ _ _ _ _ _ _ h=>h.elim⟩⟩
end
end RV
end
section
namespace RV
open PySem PySem.W PySem.Calls PyProof.Rows
inductive wI:String->List Value->Prop where
  | val:wI "ValueError.__new__" [.type "ValueError",.type "Exception",.type "BaseException",.type "object"]
  | look:wI "LookupError.__new__" [.type "LookupError",.type "Exception",.type "BaseException",.type "object"]
  | arith:wI "ArithmeticError.__new__" [.type "ArithmeticError",.type "Exception",.type "BaseException",.type "object"]
theorem wI.base {n:String} {l:List Value} (h:wI n l):∃ B i,ExcBaseFacts B n i l:=by
  cases h with
  | val=>exact ⟨_,_,F.excBase_ValueError⟩
  | look=>exact ⟨_,_,F.excBase_LookupError⟩
  | arith=>exact ⟨_,_,F.excBase_ArithmeticError⟩
theorem wI.pass {n:String} {l:List Value} (h:wI n l) (self:Value):refuseLoop self "__setattr__" l=pure ():=by
  cases h with
  | val=>exact F.store_ValueError.passes self
  | look=>exact F.store_LookupError.passes self
  | arith=>exact F.store_ArithmeticError.passes self
theorem wI.obj {n:String} {l:List Value} (h:wI n l):l.contains (.type "object")=true:=by
  cases h <;> decide+kernel
section
open Builtin Builtin.ObjectAttr HandSPX
variable {prog:Program} {w:World} {A:Around} {E:Value->Shared->Prop} {R:Result->Shared->Prop} {hp:Heap} {g:Array GenState} {d:Drawn} {t:Nat} {os:OsState}
end
end RV
namespace RV
open PySem L2
structure YU (K:PySem.W.Frag) (C:Addr):Prop where
  cls:∃ n bl,wI n bl∧∃ nm q N bs bm sn sub ab col dd k0 k1 k2 k3 k5,K.lookup C=some (excClassObj nm q C N bs bm true sn sub ab col dd k0 k1 k2 k3 k5 n)∧PySem.W.excTail bl bm=true
  sa:PySem.W.findIn K (.ref C) "__setattr__"=some (some (.builtin "object.__setattr__"))
  exC:PySem.W.subIn K (.ref C) (.type "BaseException")=some true
  tyC:PySem.W.typeIn K (.ref C)=some (.type "type")
  kC:PySem.W.keepIn K (.ref C)=true
section
variable {X:Cx} {pins:List (Addr×Obj)} {σ:L2.St} {H:Hp} {s:Shared} {a C dx:Addr} {f:Str} {y:V} {u:Value} {Q:Unit->Shared->Prop} {E:Value->Shared->Prop} {A:Around}
end
end RV
end
section
namespace RV
open PySem L2
variable {nn h:Bool}
section
variable {P:Program} {w:World} {K:PySem.W.Frag} {mg:Str->Option Value} {base:Heap}
end
section
variable {X:Cx} {W:WX} {e:Expr} {te:TE} {pos p:Pos} {x g:Str} {C:Addr} {j:Nat}
end
end RV
end
section
namespace RV
open PySem L2
def Yk (e:D) (k:Addr->List (Str×D)->Prop):Prop:=match e with
  | .exc C fs=>k C fs
  | _=>False
theorem Xx {C:Addr} {fs:List (Str×D)} {k:Addr->List (Str×D)->Prop}:Yk (.exc C fs) k=k C fs:=rfl
section
variable {X:Cx} {W:WX} {x:Str} {c:Value} {body suite:List Stmt} {b0:Stmt} {np pos pos':Pos} {mb ms:Env->MS} {L:List Addr}
theorem bf.hot {nn:Bool} {P:Program} {w:World} {K:PySem.W.Frag} {mg:Str->Option Value} {base:Heap} {k:Nat} {f:Addr} {fd:FuncData} {ps:List Str} {sp:Sp} (F:bf ⟨false,nn,true⟩ P w K mg base k f fd ps sp):L2H.FnH P w K mg base (vn nn P w) k f fd ps sp:=
  ⟨F.len,λA outer s H args us vs Q E p hr hot hp e0 hb r h=>F.run A outer s H args us vs Q E (λz=>nomatch z) ⟨hr,p,hp,hot.1,λ_=>hot.2⟩ e0 hb r h⟩
end
end RV
end
section
namespace RV
open PySem L2 PySem.Spec PyProof.Rows
def Wc (i:Nat) (E:Ends):Ends:={nx:=λσ H=>E.nx (σ.set i none) H,rt:=E.rt,bk:=λσ H=>E.bk (σ.set i none) H,ct:=λσ H=>E.ct (σ.set i none) H}
def w3 (K:PySem.W.Frag) (cs:List Value) (i:Nat) (ts:Addr->Value->Option Addr->TS) (E:Ends):WX:=λcls d σ H=>PySem.W.exmAny K cls cs=some true∧∀ a,H a=none->ts a cls d (Wc i E) (σ.set i (some (.ref a))) H
section
variable {X:Cx} {x1 x2 x3 n:Str} {c1 c2 c3:Value} {i:Nat} {body suite:List Stmt} {b0:Stmt} {p1 p2 p3 p4 pos pos':Pos} {k4:Nat} {tb:WX->TS} {ts:Addr->Value->Option Addr->TS}
end
section
variable {X:Cx} {W:WX} {x1 x2 x3 n:Str} {c1 c2 c3:Value} {body suite:List Stmt} {b0:Stmt} {p1 p2 p3 p4 pos pos':Pos} {k4:Nat} {mb:Env->MS} {ms:Addr->Addr->Addr->Env->MS} {L:List Addr}
end
end RV
end
section
namespace RV
open PySem PySem.W PySem.Spec PySem.Calls PyProof.Rows
section
variable {prog:Program} {w:World} {A:Around} {E:Value->Shared->Prop} {s:Shared} {K:Frag} {x D:Addr} {ox:Obj} {od:Option Obj}
end
open L2
section
variable {X:Cx} {a C d:Addr} {oe:Obj}
def Yg (a C d:Addr) (u:D) (k:List (Str×D)->Prop):Prop:=match u with
  | .exv a1 C1 d1 fs=>(a1=a∧C1=C∧d1=d)∧k fs
  | _=>False
theorem Xn {fs:List (Str×D)} {k:List (Str×D)->Prop}:Yg a C d (.exv a C d fs) k=k fs:=by simp [Yg]
end
end RV
end
section
namespace RV
open PySem L2
structure YX (g:Bool) (P:Program) (w:World) (K:PySem.W.Frag) (mg:Str->Option Value) (base:Heap) (k:Nat) (f:Addr) (fd:FuncData) (ps:List Str) (sp:Addr->Addr->Addr->Sp):Prop where
  len:∀ a C d vs H Q E,sp a C d vs H Q E->vs.length=ps.length
  run:∀ (A:Around) (outer:List PySem.Env) (s:Shared) (H:Hp) (args:Args) (us:List Value) (vs:List V) (Q:VK) (a C d:Addr) (oe:Obj),(g=true->A.guards=some [])->L2H.RoomH k A->A.handled=some (.ref a)->L2H.PinOk outer H s (a,oe)->Zz zN (.ref C) (some d) oe->(∃ zs,oe.data=.fields zs)->
    Env0 P w K mg base A outer s H->BindsTo s fd args (ps.zip us)->Vals vs us->sp a C d vs H Q E0->codeAny (model P w) A (.call (.ref f) args) (CR (vn false P w) outer P w H s Q E0) s
section
variable {P:Program} {w:World} {K:PySem.W.Frag} {mg:Str->Option Value} {base:Heap}
end
section
variable {X:Cx} {W:WX} {e:Expr} {es:List Expr} {pos p:Pos} {er:Env->ML} {x:Str} {k j n:Nat} {g:Bool} {G:Addr->Addr->Addr->List D->M} {a C d:Addr} {oe:Obj}
end
end RV
end
section
namespace RV
open PySem L2 PySem.Spec PyProof.Rows
section
variable {X:Cx}
end
def M8 (u:D) (k:List D->Prop):Prop:=match u with
  | .lst ds=>k ds
  | _=>False
theorem V_ {ds:List D} {k:List D->Prop}:M8 (.lst ds) k=k ds:=rfl
def Lx (f:List D->D->Option D) (ea eb:RV.Env->M):RV.Env->M:=λρ S q x=>ea ρ S (λu S1=>M8 u λds=>eb ρ S1 (λv S2=>gx (f ds v) λd=>q d S2) x) x
def q7 (ds:List D) (v:D):Option D:=if kF v=true∧ds.all kF=true then (ds.findIdx? λy=>n9 y v).map λj=>.int ((j:Nat):Int) else none
section
variable {X:Cx} {W:WX} {o e:Expr} {eo ee:RV.Env->M} {apos cpos:Pos}
theorem Xu {name:Str} {id:String} {r:V->List V->Hp->VK->Prop} {f:List D->D->Option D} (slot:Slot "list" name id) (hty:typeOf (.builtin id)=pure (.type "method_descriptor")) (hm:MtR X id r)
    (hr:∀ as F H S ds v d a xs vv,bU X.K as F H S->SqL X.K H a xs->aS X.K as F ds xs->Rp X.K as F v vv->f ds v=some d->∀ Q:VK,(∀ F' H' u,aW X.K as F H as F' H' S->Rp X.K as F' d u->Q u H')->r (.ref a) [vv] H Q)
    (ho:GE X W o eo) (he:GE X W e ee) (hbase:attributeBase o name X.env (eval o X.env)=eval o X.env:=by rfl)
    (hfew:((backTo cpos (starEach [e] X.env)).all (λx=>!x.1) && (backToKw cpos (keywordEach [] X.env)).all (λx=>x.1.isSome)
      && decide (([e]:List Expr).length+([]:List Keyword).length+(if ([]:List Keyword).isEmpty then 0 else 1) < 30))=true:=by rfl)
    (hline:(apos.endLine == cpos.line)=true:=by rfl) (hs:starEach [e] X.env=(false,eval e X.env) :: starEach [] X.env:=by rfl) (hplain:(backTo cpos (starEach [] X.env)).any (·.1)=false:=by rfl):
    GE X W (.Call (.Attribute o name apos) [e] [] cpos) (Lx f eo ee):=by
  obtain ⟨to,po,mo⟩:=ho
  obtain ⟨te,pe,me⟩:=he
  refine ⟨_,pe_bm PySem.F.plainAttrs_list slot hty hm po (pa_cons pe pa_nil hs) hbase hfew hline hs hplain,λas F H S ρ σ I R q x h Q hq hx=>?_⟩
  refine mo as F H S ρ σ I R _ x h _ (λu S1 bs F1 H1 v1 h1 g1 r1=>?_) hx
  cases r1 with
  | lst z1 z2=>
    have hH:=g1.sit.ex _ _ z1
    refine ⟨FI hH,?_⟩
    refine me bs F1 H1 S1 ρ σ g1.sit (R.grow g1) _ x h1 _ (λv S2 cs F2 H2 v2 h2 g2 r2=>?_) (hx.step g1)
    obtain ⟨d,h3,h4⟩:=bT h2
    have hl:Rp X.K cs F2 (.lst _) _:=cD g2 (Rp.lst z1 z2)
    cases hl with
    | lst y1 y2=>
      exact hr cs F2 H2 S2 _ v d _ _ v2 g2.sit (SqL.of (g2.sit.ex _ _ y1)) y2 r2 h3 Q λF3 H3 u g3 r3=>hq d S2 cs F3 H3 u h4 ((g1.trans g2).trans g3) r3
  | _=>exact h1.elim
theorem Lg {α:Type} {p:α->Bool}:∀ {l:List α} {j:Nat},l.findIdx? p=some j->(∃ a,l[j]? =some a∧p a=true)∧∀ m b,m < j->l[m]? =some b->p b=false
  | [],j,h=>by simp at h
  | c :: l,j,h=>by
    rw [List.findIdx?_cons] at h
    cases hc:p c with
    | true=>
      rw [hc] at h
      simp at h
      subst h
      exact ⟨⟨c,rfl,hc⟩,λm b hm=>absurd hm (Nat.not_lt_zero _)⟩
    | false=>
      rw [hc] at h
      simp only [Bool.false_eq_true,if_false,Option.map_eq_some_iff] at h
      obtain ⟨i,hi,rfl⟩:=h
      obtain ⟨⟨a,h1,h2⟩,h3⟩:=Lg hi
      refine ⟨⟨a,h1,h2⟩,λm b hm hb=>?_⟩
      cases m with
      | zero=>
        cases hb
        exact hc
      | succ m=>exact h3 m b (Nat.lt_of_succ_lt_succ hm) hb
theorem JN (ho:GE X W o eo) (he:GE X W e ee) (hbase:attributeBase o "index" X.env (eval o X.env)=eval o X.env:=by rfl)
    (hfew:((backTo cpos (starEach [e] X.env)).all (λx=>!x.1) && (backToKw cpos (keywordEach [] X.env)).all (λx=>x.1.isSome)
      && decide (([e]:List Expr).length+([]:List Keyword).length+(if ([]:List Keyword).isEmpty then 0 else 1) < 30))=true:=by rfl)
    (hline:(apos.endLine == cpos.line)=true:=by rfl) (hs:starEach [e] X.env=(false,eval e X.env) :: starEach [] X.env:=by rfl) (hplain:(backTo cpos (starEach [] X.env)).any (·.1)=false:=by rfl):
    GE X W (.Call (.Attribute o "index" apos) [e] [] cpos) (Lx q7 eo ee):=
  Xu    PySem.F.slot_list_index PySem.F.type_list_index mt_index (λas F H S ds v d a xs vv I hs r rv h Q q=>by
    unfold q7 at h
    split at h
    · rename_i hh
      simp only [Option.map_eq_some_iff] at h
      obtain ⟨j,hj,rfl⟩:=h
      obtain ⟨⟨z0,h1,h2⟩,h3⟩:=Lg hj
      obtain ⟨z,y1,y2⟩:=r.get h1
      have fl:∀ {m:Nat} {b:D},ds[m]? =some b->kF b=true:=λhb=>List.all_eq_true.mp hh.2 _ (List.mem_of_getElem? hb)
      refine ⟨a,xs,vv,j,z,rfl,rfl,hs,JA rv hh.1,CV r hh.2,y1,?_,λm z1 hm hz1=>?_,keep I q (.int _)⟩
      · rw [Jb y2 rv (fl h1) hh.1]
        exact h2
      · obtain ⟨b,hb,rb⟩:=r.get' hz1
        rw [Jb rb rv (fl hb) hh.1]
        exact h3 m b hm hb
    · cases h) ho he hbase hfew hline hs hplain
end
end RV
end
section
namespace RV
open PySem L2
end RV
end
section
namespace RV
open PySem PySem.Spec PyProof.Rows L2
section
variable {X:Cx} {pins:List (Addr×Obj)} {σ:L2.St} {H:Hp} {s:Shared}
def LO (H:Hp) (P c:Addr) (q:Str) (ps:Array Value) (pos:Pos) (H1:Hp):Prop:=(H1=H∧codeAmong pos ps.toList=some (.ref c))∨(H c=none∧H1=upd (upd H P (.tbl (ps++#[rawInt pos.line,rawInt pos.col,.ref c]))) c (LamX.CodeO c q))
end
theorem LO.grow {K:PySem.W.Frag} {as:List Addr} {F H H1:Hp} {S:WS} {i:Nat} {P p c:Addr} {q:Str} {ps:Array Value} {pos:Pos} (x:LO H P c q ps pos H1) (I:bU K as F H S) (ha:as[i]? =some p) (hS:S[i]? =some (.tab P q)) (hP:H P=some (.tbl ps)):
    ∃ F1,aW K as F H as F1 H1 S∧F1 c=some (LamX.CodeO c q):=by
  obtain ⟨z1,o,z2,z3⟩:=I.cell i p _ ha hS
  cases o with
  | tbl ps0 =>
    obtain ⟨rfl,t1,t2⟩:=z3
    rw [hP] at z2
    cases z2
    rcases x with ⟨rfl,hit⟩ | ⟨hn,rfl⟩
    · obtain ⟨c0,e1,e2⟩:=t2 pos _ hit
      cases e1
      exact ⟨F,aW.refl I,e2⟩
    · have nP:p≠c:=ne_of_none hP hn
      have g1:=I.grow (o:=LamX.CodeO c q) hn
      have eL:(ps++#[rawInt pos.line,rawInt pos.col,.ref c]).toList=ps.toList++[rawInt pos.line,rawInt pos.col,.ref c]:=by simp
      have ok:ux K (upd F c (LamX.CodeO c q)) p (.tab p q) (.tbl (ps++#[rawInt pos.line,rawInt pos.col,.ref c])):=by
        refine ⟨rfl,by rw [eL]; exact PySem.TriplesOk_snoc _ _ _ _ t1,λpos1 cv e=>?_⟩
        rw [eL] at e
        rcases LamX.among_app _ t1 e with z | z
        · obtain ⟨c0,e1,e2⟩:=t2 pos1 cv z
          exact ⟨c0,e1,g1.ex _ _ e2⟩
        · exact ⟨c,z,upd_same⟩
      have g2:=g1.sit.put ha hS rfl rfl ok
      have eS:S.set i (.tab p q)=S:=by
        apply List.ext_getElem?
        intro j
        by_cases hj:i=j
        · subst hj
          rw [List.getElem?_set_self (List.getElem?_eq_some_iff.mp hS).1,hS]
        · rw [List.getElem?_set_ne hj]
      have eH:upd (upd H c (LamX.CodeO c q)) p (.tbl (ps++#[rawInt pos.line,rawInt pos.col,.ref c]))=upd (upd H p (.tbl (ps++#[rawInt pos.line,rawInt pos.col,.ref c]))) c (LamX.CodeO c q):=by
        funext b
        by_cases h1:b=c
        · subst h1
          rw [upd_same,upd_ne (Ne.symm nP),upd_same]
        · by_cases h2:b=p
          · subst h2
            rw [upd_same,upd_ne h1,upd_same]
          · rw [upd_ne h2,upd_ne h1,upd_ne h1,upd_ne h2]
      rw [eS,eH] at g2
      exact ⟨_,g1.trans g2,upd_same⟩
  | _=>exact z3.elim
section
variable {X:Cx} {pins:List (Addr×Obj)} {σ:L2.St} {H:Hp} {s:Shared}
end
end RV
end
section
namespace RV
open PySem PySem.Spec PyProof.Rows L2
def YS (n:Nat) (q:D->WS->Prop):Kt:=⟨λ_ _=>False,λd S2=>fin n d S2 q,λ_ _=>False,λ_ _=>False,λ_ _ _=>False⟩
def X_ (N i:Nat) (f:Addr) (mt:RV.Env->M) (n:Nat) (q:D->WS->Prop):D->WS->Prop:=λd S'=>mt ((aM N [.adr f]).set i (some d)) S' (λd2 S2=>fin n d2 S2 q) nj
def Xp (L:List Addr) (N j:Nat) (f:Addr) (ms:Addr->Addr->Addr->RV.Env->MS) (n:Nat) (q:D->WS->Prop):Xq:=λe S'=>Yk e λC fs=>C∈L∧∀ a d,ms a C d ((aM N [.adr f]).set j (some (.exv a C d fs))) S' (YS n q)
structure YV (P:Program) (w:World) (K:PySem.W.Frag) (mg:Str->Option Value) (base:Heap) (x a:Str) (kc:Nat) (L:List Addr) (N i j:Nat) (mt:RV.Env->M) (ms:Addr->Addr->Addr->RV.Env->MS) (g:Addr) (Ng:List Str) (bg:List Stmt) (sg:Scope) (cdv:Value):Prop where
  run :∀ (A:Around) (outer:List PySem.Env) (s:Shared) (H:Hp),A.guards=some []->Room kc (A.deeper (envOfC x sg s.heap.objs.size g cdv))->∀ ta:WX->TE,
    (∀ (W:WX) (pn:List (Addr×Obj)) (xe:Value->Shared->Prop) (p1 p2:Pos),Tk zN ((cxOf (vn false P w) P w K mg base Ng x sg g cdv A outer s H E0).tr pn xe) W->PE ((cxOf (vn false P w) P w K mg base Ng x sg g cdv A outer s H E0).tr pn xe) (.Call (.Name a p1) [] [] p2) (ta W))->
    ∃ t,PSs (cxOf (vn false P w) P w K mg base Ng x sg g cdv A outer s H E0) bg t∧∀ (f:Addr) (as:List Addr) (F H1:Hp) (S:WS) (q:D->WS->Prop) (Q:VK),bU K as F H1 S->NQ K as F H1 q Q->
      (∀ (W:WX) (Qn:VK),NQ K as F H1 (X_ N i f mt S.length q) Qn->XQ K as F H1 (Xp L N j f ms S.length q) (WE W (L2.start Ng [.ref f]))->ta W (L2.start Ng [.ref f]) H1 Qn)->t {nx:=λ_ H'=>Q .non H',rt:=Q} (L2.start Ng [.ref f]) H1
section
variable {P:Program} {w:World} {K:PySem.W.Frag} {mg:Str->Option Value} {base:Heap}
end
section
variable {X:Cx} {W:WX}
end
end RV
end
section
namespace RV
open PySem L2
section
variable {K:PySem.W.Frag} {as:List Addr} {F H:Hp} {S:WS} {X:Cx} {W:WX} {pos:Pos}
def O2:List (V×V)->List V
  | []=>[]
  | p :: r=>p.1 :: p.2 :: O2 r
def qQ:D->Option Key
  | .int i=>some (.inl i)
  | .str s=>some (.inr s)
  | _=>none
def vA (kvs:List (Key×D)) (k:Key) (v:D):List (Key×D):=
  if (kvs.any λkv=>decide (kv.1=k))=true then kvs.map (λkv=>if kv.1=k then (kv.1,v) else kv) else kvs++[(k,v)]
theorem f6.app:∀ {a b:List (Key×D)} {va vb:List (Key×V)},f6 K as F a va->f6 K as F b vb->f6 K as F (a++b) (va++vb)
  | _,_,_,_,.nil,s=>s
  | _,_,_,_,.cons h r,s=>.cons h (r.app s)
theorem f6.Wy {k:Key}:∀ {kvs:List (Key×D)} {vkv:List (Key×V)},f6 K as F kvs vkv->(kvs.any λkv=>decide (kv.1=k))=(vkv.any λkv=>decide (kv.1=k))
  | _,_,.nil=>rfl
  | _,_,.cons _ r=>by simp only [List.any_cons,r.Wy]
theorem f6.Ru {k:Key} {d:D} {v:V} (h:Rp K as F d v):∀ {kvs:List (Key×D)} {vkv:List (Key×V)},f6 K as F kvs vkv->f6 K as F (kvs.map λkv=>if kv.1=k then (kv.1,d) else kv) (vkv.map λkv=>if kv.1=k then (kv.1,v) else kv)
  | _,_,.nil=>.nil
  | _,_,.cons (n:=n) h1 r=>by
    simp only [List.map_cons]
    by_cases e:n=k
    · simp only [e,if_true]
      exact .cons h (r.Ru h)
    · simp only [e,if_false]
      exact .cons h1 (r.Ru h)
theorem f6.put {k:Key} {d:D} {v:V} (h:Rp K as F d v) {kvs:List (Key×D)} {vkv:List (Key×V)} (r:f6 K as F kvs vkv):f6 K as F (vA kvs k d) (putK vkv k v):=by
  unfold vA putK
  rw [r.Wy]
  split
  · exact r.Ru h
  · exact r.app (.cons h .nil)
structure GP (X:Cx) (W:WX) (pos:Pos) (keys:List (Option Expr)) (values:List Expr) (m:RV.Env->ML):Prop where
  ex:∃ trs,PPs X pos keys values trs∧∀ (as:List Addr) (F H:Hp) (S:WS) (ρ:RV.Env) (σ:L2.St),bU X.K as F H S->fT X.K as F ρ σ->∀ q x,m ρ S q x->
    ∀ Q:List (V×V)->Hp->Prop,(∀ ds S' bs F' H' ps,q ds S'->aW X.K as F H bs F' H' S'->aS X.K bs F' ds (O2 ps)->Q ps H')->XQ X.K as F H x (WE W σ)->tPairs trs σ H Q
def OT:D->Option PyData
  | .non=>some .none
  | .bl b=>some (.bool b)
  | .int i=>some (.int i)
  | .str s=>some (.str s)
  | _=>none
def Xf:Key->PyData
  | .inl i=>.int i
  | .inr s=>.str s
def FL:List (Key×D)->Option (List (PyData×PyData))
  | []=>some []
  | (k,d) :: r=>(OT d).bind λp=>(FL r).map λl=>(Xf k,p) :: l
theorem MX {h:Heap} {d:D} {v:V} {u:Value} {p:PyData} (r:Rp K as F d v) (e:OT d=some p) (ru:RelV v u):Reads h u p []:=by
  cases r with
  | non=>cases e; cases ru; exact .none
  | bl b=>cases e; cases ru; exact .bool b
  | int i=>cases e; obtain ⟨t,rfl⟩:=ru; exact .int i t
  | str s=>cases e; obtain ⟨t,rfl⟩:=ru; exact .str s t
  | _=>cases e
theorem Dd {P:Program} {w:World} {h:Heap}:∀ {kvs:List (Key×D)} {vkv:List (Key×V)} {us:List (Key×Value)} {es:List DictEntry} {ps:List (PyData×PyData)},f6 K as F kvs vkv->KV vkv us->Pairs (mixKind P w) es us->FL kvs=some ps->
    ReadsAll h (es.map (·.key)) (ps.map (·.1)) []∧ReadsAll h (es.map (·.val)) (ps.map (·.2)) []
  | _,_,_,_,_,.nil,.nil,.nil,e=>by cases e; exact ⟨.nil,.nil⟩
  | _,_,_,_,_,.cons (n:=k) h1 r,.cons h2 t,.cons h3 h4 t2,e=>by
    unfold FL at e
    simp only [Option.bind_eq_some_iff,Option.map_eq_some_iff] at e
    obtain ⟨p,e1,l,e2,rfl⟩:=e
    obtain ⟨a1,a2⟩:=Dd r t t2 e2
    have hk:=h3
    rw [← h2.1] at hk
    refine ⟨?_,?_⟩
    · rcases keyIs_shape hk with ⟨i,tt,z1,z2⟩ | ⟨y,tt,z1,z2⟩
      · simp only at z1
        subst z1
        rw [List.map_cons,z2]
        exact ReadsAll.cons (as:=[]) (bs:=[]) (.int i tt) a1
      · simp only at z1
        subst z1
        rw [List.map_cons,z2]
        exact ReadsAll.cons (as:=[]) (bs:=[]) (.str y tt) a1
    · rw [List.map_cons,h4]
      exact ReadsAll.cons (as:=[]) (bs:=[]) (MX h1 e1 h2.2) a2
def W3 (K:PySem.W.Frag) (H:Hp) (a:Addr) (p:PyData):Prop:=∃ (as:List Addr) (F:Hp) (kvs:List (Key×D)) (vkv:List (Key×V)) (ps:List (PyData×PyData)),H a=some (.dK vkv)∧f6 K as F kvs vkv∧FL kvs=some ps∧p=.dict ps
def JH (K:PySem.W.Frag):List V->Hp->VK->Prop:=λxs H Q=>SG K xs H Q∨∃ a p,xs=[.ref a]∧W3 K H a p∧p.showable=true∧p.depth≤64∧p.shown.length≤sizeLine∧Q (.str p.shown) H
theorem Rx.units {h:Bool} {k:Nat} (hr:Rx h k X):X.A.units+65 < cLine:=by
  cases h
  · have:=hr.un; omega
  · have:=hr.1.un; omega
end
end RV
end
section
namespace RV
open PySem L2
section
variable {K:PySem.W.Frag} {as:List Addr} {F H:Hp} {S:WS} {X:Cx} {W:WX} {pos:Pos}
theorem NT {h:Bool} {k:Nat} (hg:X.A.guards=some []) (hr:Rx h k X):CallR X (.builtin "repr") (JH X.K):=λpins s σ H xs us Q I rv hh=>by
  have hu:=hr.units
  rcases hh with ⟨x,d,rfl,hd,hs,hnd,hde,hz,q⟩ | ⟨a,p,rfl,⟨as,F,kvs,vkv,ps,ha,rk,ek,rfl⟩,hs,hde,hz,q⟩
  · obtain ⟨u,rfl,ru⟩:=vals1 rv
    have heap:∀ p,x=.ref p->wpAny (model X.prog X.w) X.A (call (.builtin "repr") [u]) (EP X pins σ Q) X.xe s:=λp ex=>by
      subst ex
      cases ru
      obtain ⟨as,rd⟩:=hd.reads I d _ _ rfl
      refine PySem.repr_of_reads' rd hs (λz=>by rw [hnd] at z; cases z) hg (by omega) (λb o e=>e) (λh' u tk hk=>?_) hz
      exact ⟨.str d.shown,H,I.kept hk,⟨u,rfl⟩,q⟩
    cases hd with
    | lst _ _=>exact heap _ rfl
    | tup _ _=>exact heap _ rfl
    | non=>cases ru; exact PySem.P.repr_of_none ⟨.str _,H,I.tok _,⟨_,rfl⟩,q⟩
    | bl b=>cases ru; exact PySem.P.repr_of_bool ⟨.str _,H,I.tok _,⟨_,rfl⟩,q⟩
    | int i=>
      obtain ⟨t,rfl⟩:=ru
      exact PySem.P.repr_of_int (of_decide_eq_true (by simpa [PyData.showable] using hs)) ⟨.str _,H,I.tok _,⟨_,rfl⟩,q⟩
    | str z=>
      obtain ⟨t,rfl⟩:=ru
      exact PySem.P.repr_of_str ⟨.str _,H,I.tok _,⟨_,rfl⟩,q⟩ hz
  · obtain ⟨u,rfl,ru⟩:=vals1 rv
    cases ru
    obtain ⟨_,hsm,us,hkv,o,es,ep,e1,e2,e3,_,e4,_⟩:=dk_of I.hok ha
    obtain ⟨r1,r2⟩:=Dd (h:=s.heap) rk hkv e4 ek
    have rd:Reads s.heap (.ref a) (.dict ps) [a]:=Reads.dict (as:=[]) (bs:=[]) e1 e2.1 e3 r1 r2
    refine PySem.repr_of_reads' rd hs (λ_ z=>?_) hg (by omega) (λb o e=>e) (λh' u tk hk=>?_) hz
    · rw [List.mem_singleton] at z
      rw [z] at hsm
      simp at hsm
    · exact ⟨.str _,H,I.kept hk,⟨u,rfl⟩,q⟩
def Js:WS->List D->Option D:=λS xs=>match xs with
  | [.dic kvs]=>(FL kvs).bind λps=>if (PyData.dict ps).showable=true∧(PyData.dict ps).depth≤64∧(PyData.dict ps).shown.length≤sizeLine then some (.str (PyData.dict ps).shown) else none
  | xs=>u9 S xs
theorem I0:RC K (JH K) Js:=λas F H S ds d vs I r h Q q=>by
  unfold Js at h
  split at h
  · simp only [Option.bind_eq_some_iff] at h
    obtain ⟨ps,h1,h2⟩:=h
    split at h2
    · rename_i hh
      cases h2
      obtain ⟨v,ws,rfl,rv,rn⟩:=r.dG
      obtain rfl:=rn.dR
      cases rv with
      | dic z1 z2=>exact .inr ⟨_,_,rfl,⟨as,F,_,_,ps,I.ex _ _ z1,z2,h1,rfl⟩,hh.1,hh.2.1,hh.2.2,keep I q (.str _)⟩
    · cases h2
  · exact .inl (SW as F H S _ d vs I r h Q q)
def SM:List V->Hp->VK->Prop:=λxs H Q=>(∃ i,xs=[.int i]∧i.natAbs.log2 < 1920∧Q (.str (toString i)) H)∨(∃ a,xs=[.str a]∧Q (.str a) H)∨∃ b:Bool,xs=[.bl b]∧Q (.str (if b then "True" else "False")) H
theorem Nk:CallR X (.type "str") SM:=λpins s σ H xs us Q I r h=>by
  rcases h with h | h | ⟨b,rfl,q⟩
  · exact call_str_int pins s σ H xs us Q I r h
  · obtain ⟨a,rfl,q⟩:=h
    obtain ⟨u,rfl,t,rfl⟩:=vals1 r
    exact PySem.P.str_of_str ⟨.str a,H,I,⟨t,rfl⟩,q⟩
  · obtain ⟨u,rfl,rfl⟩:=vals1 r
    exact PySem.P.str_of_bool ⟨.str _,H,I.tok _,⟨_,rfl⟩,q⟩
def EM:WS->List D->Option D:=λ_ xs=>match xs with
  | [.int i]=>if i.natAbs.log2 < 1920 then some (.str (toString i)) else none
  | [.str s]=>some (.str s)
  | [.bl b]=>some (.str (if b then "True" else "False"))
  | _=>none
theorem RG:RC K SM EM:=λas F H S ds d vs I r h Q q=>by
  unfold EM at h
  split at h
  · split at h
    · rename_i i hi
      cases h
      obtain ⟨v,ws,rfl,rv,rn⟩:=r.dG
      obtain rfl:=rn.dR
      cases rv
      exact .inl ⟨i,rfl,hi,keep I q (.str _)⟩
    · cases h
  · cases h
    obtain ⟨v,ws,rfl,rv,rn⟩:=r.dG
    obtain rfl:=rn.dR
    cases rv
    exact .inr (.inl ⟨_,rfl,keep I q (.str _)⟩)
  · cases h
    obtain ⟨v,ws,rfl,rv,rn⟩:=r.dG
    obtain rfl:=rn.dR
    cases rv
    exact .inr (.inr ⟨_,rfl,keep I q (.str _)⟩)
  · cases h
end
end RV
end
section
namespace RV
open PySem L2
variable {nn:Bool}
def Xw:Obj:={cls:=.none,data:=.fields #[]}
structure TabsAt (tf:List He.Defn) (h:Heap) (K:PySem.W.Frag):Prop where
  hd:∀ p∈tf,PySem.W.codeHdIn K (He.cT K p).1 (He.cT K p).2=true
  out:∀ p∈tf,K.lookup (He.cT K p).2=none
  empty:∀ p∈tf,h.get? (He.cT K p).2=some Xw
end RV
end
section
namespace RV
open PySem L2
open He (eqO eqO_ok ba ga ma)
section
variable {K:PySem.W.Frag} {C:Addr}
end
section
variable {X:Cx} {W:WX} {body:List Stmt} {m:RV.Env->MS} {K:PySem.W.Frag} {j:Nat}
def Jo (f g:WS->D->D->Option D) (ea eb ec:RV.Env->M):RV.Env->M:=λρ S q x=>EN f g ea eb ec ρ S (λb S'=>q (.bl b) S') x
theorem RJ {a b c:Expr} {pos:Pos} {ea eb ec:RV.Env->M} {op op':CmpOp} {r r':R2} {f g:WS->D->D->Option D} (ho:OpR X (compareOp op) r) (ho':OpR X (compareOp op') r') (hr:RO X.K r f) (hr':RO X.K r' g) (ha:GE X W a ea) (hb:GE X W b eb) (hc:GE X W c ec) (hm:lastMarks [op,op'] [b,c]=false:=by with_unfolding_all rfl):
    GE X W (.Compare a [op,op'] [b,c] pos) (Jo f g ea eb ec):=by
  obtain ⟨ta,pa,ma⟩:=ha
  obtain ⟨tb,pb,mb⟩:=hb
  obtain ⟨tc,pc,mc⟩:=hc
  refine ⟨_,pe_chain ho ho' pa pb pc hm,λas F H S ρ σ I R q x h Q hq hx=>?_⟩
  refine ma as F H S ρ σ I R _ x h _ (λu S1 bs F1 H1 v1 h1 g1 r1=>?_) hx
  refine mb bs F1 H1 S1 ρ σ g1.sit (R.grow g1) _ x h1 _ (λw S2 cs F2 H2 v2 h2 g2 r2=>?_) (hx.step g1)
  obtain ⟨d,hf,h3⟩:=bT h2
  have g12:=g1.trans g2
  refine hr cs F2 H2 S2 u w d v1 v2 g2.sit (cD g2 r1) r2 hf _ λF3 H3 v3 g3 r3=>?_
  have g13:=g12.trans g3
  cases r3 with
  | bl c=>
    refine ⟨c,rfl,?_⟩
    cases c with
    | true=>
      refine mc cs F3 H3 S2 ρ σ g3.sit (R.grow g13) _ x h3 _ (λy S4 ls F4 H4 v4 h4 g4 r4=>?_) (hx.step g13)
      obtain ⟨d',hg,h5⟩:=bT h4
      refine hr' ls F4 H4 S4 w y d' v2 v4 g4.sit (cD g4 (cD g3 r2)) r4 hg _ λF5 H5 v5 g5 r5=>?_
      cases r5 with
      | bl c'=>exact hq _ S4 ls F5 H5 _ h5 ((g13.trans g4).trans g5) (.bl c')
      | _=>exact h5.elim
    | false=>exact hq _ S2 cs F3 H3 _ h3 g13 (.bl false)
  | _=>exact h3.elim
end
end RV
end
section
namespace RV
open PySem PySem.W PySem.Calls PyProof.Rows
section
variable {M:Model} {h:Heap} {K:Frag} {C:Addr} {nm:String} {cd:ClassData}
end
section
variable {prog:Program} {w:World} {A:Around} {E:Value->Shared->Prop} {s:Shared} {K:Frag} {x C L f:Addr} {h₀:Heap} {m:Str->Option Value} {ox:Obj} {od:Option Obj}
end
end RV
end
section
namespace RV
open PySem L2
variable {nn:Bool}
section
variable {X:Cx} {W:WX} {a b o e:Expr} {es:List Expr} {pos apos:Pos} {ea eb:RV.Env->M} {er:RV.Env->ML} {C:Addr} {G:List D->M} {k j n:Nat} {nm m:String}
end
end RV
end
section
namespace RV
open PySem L2
variable {nn:Bool}
def mC (C:Addr) (m:Str) (S:WS):D->Prop
  | .obj C' fs=>C'=C∧fs.lookup m=none
  | .cell k=>gx S[k]? λc=>Jv c λC' fs=>C'=C∧fs.lookup m=none
  | _=>False
theorem RI {K:PySem.W.Frag} {as:List Addr} {F H:Hp} {S:WS} {x:D} {v:V} {C:Addr} {m:Str} (I:bU K as F H S) (r:Rp K as F x v) (h:mC C m S x):∃ a dx vfs,v=.ref a∧H a=some (.ins C dx vfs)∧vfs.lookup m=none:=by
  cases r with
  | obj ha rf=>
    obtain ⟨h1,h2⟩:=h
    subst h1
    exact ⟨_,_,_,rfl,I.ex _ _ ha,rf.Ea h2⟩
  | cell ha=>
    obtain ⟨c,hS,h⟩:=bT h
    cases c with
    | ob C' fs=>
      obtain ⟨h1,h2⟩:=h
      subst h1
      obtain ⟨z1,ob,z2,z3⟩:=I.cell _ _ _ ha hS
      cases ob with
      | ins C2 dx vfs=>
        obtain ⟨e2,z3⟩:=z3
        subst e2
        exact ⟨_,_,_,rfl,z2,z3.Ea h2⟩
      | _=>exact z3.elim
    | _=>exact h.elim
  | _=>exact h.elim
def Mt (P:Program) (w:World) (K:PySem.W.Frag) (mg:Str->Option Value) (base:Heap) (nn:Bool) (C:Addr) (m:Str) (k n:Nat) (G:List D->M):Prop:=∃ (f:Addr) (fd:FuncData) (ps:List Str),Cls K C∧Meth K C m f∧bf ⟨false,nn,false⟩ P w K mg base k f fd ps (bh K n G)∧Binds K fd ps []
theorem Ey {P:Program} {w:World} {K:PySem.W.Frag} {mg:Str->Option Value} {base:Heap} {C:Addr} {m:Str} {k n:Nat} {G:List D->M} {fd:FuncData} {ps:List Str} (cl:Cls K C) (h:BN K C m=true) (Fn:bf ⟨false,nn,false⟩ P w K mg base k (He.ma K C m) fd ps (bh K n G)) (b:Binds K fd ps []):Mt P w K mg base nn C m k n G:=by
  obtain ⟨h1,h⟩:=He.ba h
  obtain ⟨h2,h3⟩:=He.ba h
  exact ⟨_,fd,ps,cl,⟨He.eqO_ok h1,h2,h3⟩,Fn,b⟩
section
variable {X:Cx} {W:WX} {o e:Expr} {es:List Expr} {pos apos:Pos} {ea:RV.Env->M} {er:RV.Env->ML} {C:Addr} {m:Str} {G:List D->M} {k j n:Nat}
def ko (C:Addr) (m:Str) (n:Nat) (G:List D->M) (ea:RV.Env->M) (er:RV.Env->ML):RV.Env->M:=λρ S q x=>ea ρ S (λu S1=>mC C m S1 u∧er ρ S1 (λds S2=>ds.length+1=n∧G (u :: ds) S2 q x) x) x
def VL (C:Addr) (m:Str) (sp:Sp) (E:L2.St->XK) (ta:TE) (t:TA):TE:=λσ H Q=>ta σ H λx H1=>∃ a dx fs,x=.ref a∧H1 a=some (.ins C dx fs)∧fs.lookup m=none∧t σ H1 λvs H2=>sp (x :: vs) H2 Q (E σ)
theorem jH {pl:Sem Bool} (tk:Tk nn X W) (c:Mt X.prog X.w X.K X.mg X.base nn C m k n G) (hr:Room j X.A) (ho:GE X W o ea) (ha:GA X W (e :: es) er) (hj:k≤j:=by decide)
    (hst:starEach (e :: es) X.env=(false,eval e X.env) :: starEach es X.env:=by rfl) (hpl:(backTo pos (starEach es X.env)).any (·.1)=false:=by rfl)
    (ht:eval (.Call (.Attribute o m apos) (e :: es) [] pos) X.env=(do let ov ← eval o X.env; standAt apos.atName; let (f,first) ← holding [ov] (getMethod ov m pl); callWith pos f first (backTo pos (starEach (e :: es) X.env)) (backToKw pos (keywordEach [] X.env))):=by rfl):
    GE X W (.Call (.Attribute o m apos) (e :: es) [] pos) (ko C m n G ea er):=by
  obtain ⟨ta,pa,ma⟩:=ho
  obtain ⟨tr,pr,mr⟩:=ha
  obtain ⟨f,fd,ps,cl,hm,Fn,hb⟩:=c
  refine ⟨VL C m (bh X.K n G) (WE W) ta tr,⟨λpins s σ H Q I h=>?_⟩,λas F H S ρ σ I R q x h Q hq hx=>?_⟩
  · refine PySem.W.methodCall_KW (pl:=pl) (thn (pa.run pins s σ H _ I h) λu s1 hu=>?_) ht
    obtain ⟨y,H1,I1,ry,a,dx,fs,rfl,hp,hl,q1⟩:=hu
    obtain rfl:u=Value.ref a:=ry
    refine getmeth_ok I1 hp cl hm hl ?_
    refine PySem.W.callWith_K (first:=[.ref a]) (h₀:=X.base) I.ok.mod.kin hm.kp (thn (pr.run pos pins s1 σ H1 _ I1 q1) λus s2 hv=>?_) hst hpl
    obtain ⟨vs,H2,I2,rv,q2⟩:=hv
    refine ⟨I2.kIn,?_⟩
    exact SD (us:=.ref a :: us) (vs:=.ref a :: vs) (dv:=[]) (ds:=[]) Fn aV (hr.mono hj) hb .nil tk I2 (.cons rfl rv) (by rw [List.append_nil]; exact q2)
  · refine ma as F H S ρ σ I R _ x h _ (λu S1 bs F1 H1 v1 h1 g1 r1=>?_) hx
    obtain ⟨i1,i2⟩:=h1
    obtain ⟨a,dx,vfs,rfl,hp,hl⟩:=RI g1.sit r1 i1
    refine ⟨a,dx,vfs,rfl,hp,hl,?_⟩
    refine mr bs F1 H1 S1 ρ σ g1.sit (R.grow g1) _ x i2 _ (λds S2 cs F2 H2 vs h2 g2 r2=>?_) (hx.step g1)
    have g12:=g1.trans g2
    exact ⟨cs,F2,S2,u :: ds,q,x,g2.sit,.cons (cD g2 r1) r2,by simpa using h2.1,h2.2,hq.step g12,hx.step g12⟩
end
end RV
end
section
namespace RV
open PySem L2 He
section
variable {K:PySem.W.Frag} {C:Addr}
end
section
variable {X:Cx} {W:WX} {o e:Expr} {eo ee:RV.Env->M} {apos cpos:Pos}
end
end RV
end
section
namespace RV
open PySem L2 PySem.Spec PyProof.Rows
def Hf (e:Int×Value):Str:=match e.2 with
  | .str k _=>k
  | _=>Str.empty
def YR (w:World) (e:Int×Value):Prop:=∃ k tk,e=(hashStr w k,Value.str k tk)
structure kU (w:World) (T:List Str) (es:Array (Int×Value)) (t:SetTable):Prop where
  good:∀ e∈es.toList,YR w e
  nd:(es.toList.map Hf).Nodup
  mem:∀ k,k∈es.toList.map Hf↔k∈T
  len:es.size≤T.length
  few:es.size < scanBound
  fits:t.fits es.size=true
  ris:Ris t.place.toList
  led:w.params.followText "set-order"=true∨t.led=true
def nU (w:World) (h:Heap) (a:Addr) (T:List Str):Prop:=∃ o es ep t,h.get? a=some o∧o.ExactSet∧o.data=.set es ep t∧kU w T es t
section
variable {P:Program} {w:World} {h h':Heap} {a:Addr} {T T':List Str} {es:Array (Int×Value)} {t:SetTable}
theorem nU.keep (R:nU w h a T) (k:∀ o,h.get? a=some o->h'.get? a=some o):nU w h' a T:=by
  obtain ⟨o,es,ep,t,ho,r⟩:=R
  exact ⟨o,es,ep,t,k o ho,r⟩
theorem kU.same (R:kU w T es t) (e:∀ k,k∈T↔k∈T') (l:T.length≤T'.length):kU w T' es t:=⟨R.good,R.nd,λk=>(R.mem k).trans (e k),Nat.le_trans R.len l,R.few,R.fits,R.ris,R.led⟩
theorem kU.elems (R:kU w T es t):ElemsOf (PySem.strKind P w) es.toList:=λe he=>by
  obtain ⟨k,tk,rfl⟩:=R.good e he
  exact ⟨⟨k,strKind_is P w k tk,rfl⟩,rfl⟩
theorem kU.has (R:kU w T es t) (k:Str):k∈T↔∃ e∈es.toList,(PySem.strKind P w).is k e.2=true:=by
  rw [← R.mem k,List.mem_map]
  refine exists_congr λe=>and_congr_right λhe=>?_
  obtain ⟨k0,tk,rfl⟩:=R.good e he
  show k0=k↔((k0 == k)=true)
  exact beq_iff_eq.symm
theorem kU.fresh {ho:h.get? a=some {cls:=.type "set",dict:=none,data:=.set #[] 0 (.fresh 0 0 (!w.params.followText "set-order"))}}:nU w h a []:=by
  refine ⟨_,#[],0,_,ho,⟨rfl,rfl,rfl⟩,rfl,λe he=>by simp at he,by simp,λk=>by simp,Nat.le_refl _,by decide,by rfl,List.Pairwise.nil,?_⟩
  show _∨(!w.params.followText "set-order")=true
  cases w.params.followText "set-order"
  · exact .inr rfl
  · exact .inl rfl
end
section
variable {P:Program} {w:World} {A:Around} {E:Value->Shared->Prop} {s:Shared} {a:Addr} {T:List Str}
theorem O0 {h:Heap} {o:Obj} {es es':Array (Int×Value)} {ep:Nat} {t t':SetTable} (ho:h.get? a=some o) (hd:o.data=.set es ep t):
    (h.update a (Obj.putSet es' t')).get? a=some {o with data:=.set es' (ep+1) t'}:=by
  have z:=Heap.get?_update_self (Obj.putSet es' t') ho (by rw [putSet_of es' t' hd]; rfl)
  rwa [putSet_of es' t' hd] at z
theorem Lj {o:Obj} {es es1:Array (Int×Value)} {ep:Nat} {t t2:SetTable} {g:Bool->Sem Unit} {wd:Bool} {R:Option Bool->Shared->Prop}
    (hg:∀ (b:Bool) (s₁:Shared) (Q':Unit->Shared->Prop),Q' () s₁->wpAny (model P w) A (g b) Q' E s₁)
    (ho:s.heap.get? a=some o) (hex:o.ExactSet) (hd:o.data=.set es ep t) (r1:kU w T es1 t2)
    (hR:∀ h',Heap.SameBut a s.heap h'->nU w h' a T->R (some true) {s with heap:=h'}):
    wpAny (model P w) A (do
        storeSet a es1 t2
        if (!wd && t2.tooFull)=true then do
            g (relayAll t2 es1 (SetTable.grown es1.size)).2.2
            storeSet a (relayAll t2 es1 (SetTable.grown es1.size)).1 (relayAll t2 es1 (SetTable.grown es1.size)).2.1
            pure (some true)
          else pure (some true)) R E s:=by
  refine wpAny_bind (wpAny_storeSet_of ho hd ?_ (fits_of_scanBound r1.few))
  have h1:=O0 (es':=es1) (t':=t2) ho hd
  have b1:=Heap.SameBut.update s.heap a (Obj.putSet es1 t2)
  by_cases hc:(!wd && t2.tooFull)=true
  · rw [if_pos hc]
    have z1:=relayAll_perm t2 es1 (SetTable.grown es1.size)
    have z2:=relayAll_fits t2 es1 (SetTable.grown es1.size)
    have z3:=relayAll_ris t2 es1 (SetTable.grown es1.size)
    have z4:=relayAll_led t2 es1 (SetTable.grown es1.size)
    generalize relayAll t2 es1 (SetTable.grown es1.size)=Z at z1 z2 z3 z4 ⊢
    rcases Z with ⟨es2,t3,gave⟩
    dsimp only at z1 z2 z3 z4 ⊢
    have hz:es2.size=es1.size:=by rw [← Array.length_toList,z1.length_eq,Array.length_toList]
    have r2:kU w T es2 t3:=⟨λe he=>r1.good e (z1.mem_iff.mp he),(z1.map Hf).nodup_iff.mpr r1.nd,λk=>(z1.map Hf).mem_iff.trans (r1.mem k),by rw [hz]; exact r1.len,by rw [hz]; exact r1.few,z2,z3,r1.led.imp id λz=>by rw [z4]; exact z⟩
    refine wpAny_bind (hg _ _ _ (wpAny_bind (wpAny_storeSet_of h1 rfl ?_ (fits_of_scanBound r2.few))))
    exact wpAny_pure (hR _ (b1.trans (Heap.SameBut.update _ a _)) ⟨_,es2,_,t3,O0 (es':=es2) (t':=t3) h1 rfl,hex,rfl,r2⟩)
  · rw [if_neg hc]
    exact wpAny_pure (hR _ b1 ⟨_,es1,_,t2,h1,hex,rfl,r1⟩)
theorem Vn {k:Str} {tk:Tok} {Q:Bool->Shared->Prop} (R:nU w s.heap a T) (hn:T.length+1 < scanBound)
    (hQ:∀ b h',Heap.SameBut a s.heap h'->nU w h' a (k :: T)->Q b {s with heap:=h'}):
    wpAny (model P w) A (setAddHashed a (.str k tk) ((PySem.strKind P w).hash k)) Q E s:=by
  obtain ⟨o,es,ep,t,ho,hex,hd,r⟩:=R
  have room:es.size+1 < scanBound:=Nat.lt_of_le_of_lt (Nat.succ_le_succ r.len) hn
  have hkey:=strKind_is P w k tk
  have hsc:(Value.str k tk).scannable=true:=rfl
  have hel:ElemsOf (PySem.strKind P w) es.toList:=r.elems
  unfold setAddHashed setAddHashedIn
  refine wpAny_holding (wpAny_bind (wpAny_setState_of ho hd r.fits ?_))
  dsimp only
  rw [byScan_of hsc r.few hel]
  simp only [↓reduceIte]
  unfold setAddByScan
  refine wpAny_bind (wpAny_bind (wpAny_rule (wpAny_bind (wpAny_setScan_of hkey ho hd r.fits hel ?_))))
  cases hfi:List.findIdx? (λe=>(PySem.strKind P w).is k e.2) es.toList with
  | some j=>
    obtain ⟨hj,pj,_⟩:=List.findIdx?_eq_some_iff_getElem.mp hfi
    have hk:k∈T:=(r.has (P:=P) k).2 ⟨es.toList[j],List.getElem_mem hj,pj⟩
    refine wpAny_pure (wpAny_pure (hQ _ s.heap (Heap.SameBut.refl a s.heap) ⟨o,es,ep,t,ho,hex,hd,r.same (λi=>?_) (Nat.le_succ _)⟩))
    rw [List.mem_cons]
    exact ⟨.inr,λz=>z.elim (λe=>e ▸ hk) id⟩
  | none=>
    have hk:k∉T:=λz=>by
      obtain ⟨e,he,q⟩:=(r.has (P:=P) k).1 z
      have c:=List.findIdx?_eq_none_iff.mp hfi e he
      rw [q] at c
      cases c
    have z1:=layNew_perm t es ((PySem.strKind P w).hash k) (.str k tk)
    have z2:=layNew_fits t es ((PySem.strKind P w).hash k) (.str k tk)
    have z3:=layNew_ris t es ((PySem.strKind P w).hash k) (.str k tk) r.ris
    have z4:=layNew_led t es ((PySem.strKind P w).hash k) (.str k tk)
    dsimp only
    generalize layNew t es ((PySem.strKind P w).hash k) (.str k tk)=Z at z1 z2 z3 z4 ⊢
    rcases Z with ⟨es1,t1,wd,gave⟩
    dsimp only at z1 z2 z3 z4 ⊢
    rw [Array.toList_push] at z1
    have pc:es1.toList.Perm ((hashStr w k,Value.str k tk) :: es.toList):=z1.trans (List.perm_append_singleton _ _)
    have hz:es1.size=es.size+1:=by rw [← Array.length_toList,pc.length_eq,List.length_cons,Array.length_toList]
    have r1:∀ t2:SetTable,t2.fits es1.size=true->Ris t2.place.toList->t2.led=t.led->kU w (k :: T) es1 t2:=λt2 a1 a2 a3=>
      { good:=λe he=>(List.mem_cons.mp (pc.mem_iff.mp he)).elim (λz=>⟨k,tk,z⟩) (r.good e)
        nd:=(pc.map Hf).nodup_iff.mpr (List.nodup_cons.mpr ⟨λz=>hk ((r.mem k).1 z),r.nd⟩)
        mem:=λi=>(pc.map Hf).mem_iff.trans (by
          rw [List.map_cons,List.mem_cons,List.mem_cons,r.mem i]
          rfl)
        len:=by rw [hz]; exact Nat.succ_le_succ r.len
        few:=by rw [hz]; exact room
        fits:=a1
        ris:=a2
        led:=r.led.imp id λz=>by rw [a3]; exact z}
    have gw:∀ (b:Bool) (s₁:Shared) (Q':Unit->Shared->Prop),Q' () s₁->wpAny (model P w) A (match b with | true=>rule "set.scan.the-table-gave-way" | false=>pure ()) Q' E s₁:=λb s₁ Q' q=>by
      cases b
      · exact wpAny_pure q
      · exact wpAny_rule q
    refine wpAny_bind (gw _ _ _ ?_)
    split
    · refine wpAny_bind ?_
      rw [hashByValue_scannable 8 hsc]
      refine wpAny_pure (Lj (T:=k :: T) ?_ ho hex hd (r1 _ ?_ ?_ ?_) λh' sb q=>?_)
      · intro b s₁ Q' q; cases b <;> first | exact wpAny_pure q | exact wpAny_rule q
      · first | (split <;> first | exact z2 | exact SetTable.fits_plain_off z2) | exact z2
      · first | (split <;> exact z3) | exact z3
      · first | (split <;> exact z4) | exact z4
      · exact wpAny_pure (hQ _ h' sb q)
    · refine wpAny_bind (wpAny_pure ?_)
      simp only [↓reduceIte]
      refine Lj (T:=k :: T) ?_ ho hex hd (r1 _ z2 z3 z4) λh' sb q=>?_
      · intro b s₁ Q' q; cases b <;> first | exact wpAny_pure q | exact wpAny_rule q
      · exact wpAny_pure (hQ _ h' sb q)
theorem IQ:∀ (l:List Value),(∀ v∈l,∃ k tk,v=Value.str k tk)->StrsAre l (l.map strOf)
  | [],_=>.nil
  | v :: l,h=>by
    obtain ⟨k,tk,rfl⟩:=h v List.mem_cons_self
    exact .cons k tk (IQ l λu hu=>h u (List.mem_cons_of_mem _ hu))
theorem Qk {Q:Value->Shared->Prop} (R:nU w s.heap a T) (hh:A.handled=none) (h64:∀ l:List Str,l.Nodup->(∀ k,k∈l↔k∈T)->l.length < 64)
    (hQ:∀ s' p (out:Array Value) (c:Nat) (ns:List Str),(∀ b o,s.heap.get? b=some o->s'.heap.get? b=some o)->s'.gens=s.gens->s'.os=s.os->s.heap.objs.size≤p->
      s'.heap.get? p=some (seqObj "list" out c)->StrsAre out.toList ns->sortedS ns=true->ns.Nodup->(∀ k,k∈ns↔k∈T)->ns.length < 64->Q (.ref p) s'):
    wpAny (model P w) A (call (.builtin "sorted") [.ref a]) Q E s:=by
  obtain ⟨o,es,ep,t,ho,hex,hd,r⟩:=R
  refine Calls.call_function_entry kind_sorted plain_sorted entry_sorted (args_sorted1 _) ?_
  unfold Builtin.«sorted»
  refine wpAny_bind (m:=checkCount "sorted" 1 1 _) (wpAny_pure ?_)
  refine wpAny_bind (collect_set (A:=A.in1) hh ⟨o,ho,hex.1,hd⟩ r.fits r.few r.ris r.led λs1 vs k1 hz g1 o1 pm=>?_)
  have hvl:vs.length < 64:=by
    have z:=h64 _ r.nd r.mem
    rw [List.length_map] at z
    rw [pm.length_eq,List.length_map]
    exact z
  have ev:∀ v∈vs,∃ k tk,v=Value.str k tk:=λv hv=>by
    obtain ⟨e,he,q⟩:=List.mem_map.mp (pm.mem_iff.mp hv)
    obtain ⟨k,tk,rfl⟩:=r.good e he
    exact ⟨k,tk,q.symm⟩
  have hI:=IQ vs ev
  have pk:(vs.map strOf).Perm (es.toList.map Hf):=by
    have q:=pm.map strOf
    rw [List.map_map] at q
    refine q.trans (List.Perm.of_eq (List.map_congr_left λe he=>?_))
    obtain ⟨k,tk,rfl⟩:=r.good e he
    rfl
  refine wpAny_bind (wpAny_newList ?_ (by rw [sizeLine_eq]; omega))
  have hoL:(s1.heap.push (seqObj "list" vs.toArray 0)).get? s1.heap.objs.size=some (seqObj "list" vs.toArray 0):=Heap.get?_push_size _ rfl
  refine wpAny_bind (wpAny_holding (wpAny_call_entry slot_list_sort ⟨_,hoL,rfl⟩ entry_list_sort (list_sort_treeK strKind_oneLt hoL hI.keysOf (λv₁ v₂ rest e=>keyKind_strs (ss:=vs.map strOf) (by rw [← e]; exact hI)) hvl λst' hp hs=>?_) (args_list_sort _)))
  obtain ⟨ns,a1,a2,a3⟩:=sorted_out_str hI hp hs
  refine ⟨_,rfl,?_⟩
  obtain ⟨c,hc⟩:=sortedHeap_at (vs:=vs) (out:=(arrOf st').map (·.2)) hoL
  have pn:ns.Perm (es.toList.map Hf):=a2.trans pk
  refine wpAny_pure ⟨_,rfl,hQ _ s1.heap.objs.size _ c ns (λb u e=>?_) g1 o1 hz hc a1 a3 (pn.nodup_iff.mpr r.nd) (λk=>by rw [pn.mem_iff,r.mem k]) ?_⟩
  · have q:=k1 b u e
    have hlt:=Heap.lt_size q
    show (sortedHeap (s1.heap.push (seqObj "list" vs.toArray 0)) s1.heap.objs.size vs _).get? b=some u
    rw [sortedHeap_old (Nat.ne_of_lt hlt) (by rw [size_push']; exact Nat.lt_succ_of_lt hlt)]
    exact Heap.get?_push_of_some _ q
  · rw [pn.length_eq]
    exact h64 _ r.nd r.mem
end
end RV
end
section
namespace RV
open PySem L2 PyProof.Rows PySem.Spec
abbrev Cj (a b:Str):Prop:=a.cps.toList < b.cps.toList
theorem BU (a:Str):¬ Cj a a:=List.lt_irrefl _
theorem Jk {a b c:Str} (h:Cj a b) (h':Cj b c):Cj a c:=List.lt_trans h h'
theorem LA {a b:Str} (h:¬ Cj a b) (n:a≠b):Cj b a:=by
  by_cases q:b.cps.toList < a.cps.toList
  · exact q
  · refine absurd (Str.ext' ?_) n
    exact Array.toList_inj.mp (List.le_antisymm (List.not_lt.mp q) (List.not_lt.mp h))
abbrev Hw (l:List Str):Prop:=l.Pairwise Cj
def yD (k:Str):List Str->List Str
  | []=>[k]
  | x :: l=>if k=x then x :: l else if Cj k x then k :: x :: l else x :: yD k l
def pF:List Str->List Str
  | []=>[]
  | k :: l=>yD k (pF l)
theorem CH {k j:Str}:∀ {l:List Str},j∈yD k l↔j=k∨j∈l
  | []=>by simp [yD]
  | x :: l=>by
    unfold yD
    split
    · rename_i e
      subst e
      simp
    · split
      · simp
      · simp only [List.mem_cons,CH (l:=l)]
        constructor
        · rintro (h | h | h) <;> simp [h]
        · rintro (h | h | h) <;> simp [h]
theorem Jl {k:Str}:∀ {l:List Str},Hw l->Hw (yD k l)
  | [],_=>List.pairwise_singleton _ _
  | x :: l,h=>by
    obtain ⟨h1,h2⟩:=List.pairwise_cons.mp h
    unfold yD
    split
    · exact h
    · rename_i hn
      split
      · rename_i hk
        exact List.pairwise_cons.mpr ⟨λy hy=>(List.mem_cons.mp hy).elim (λe=>e ▸ hk) λz=>Jk hk (h1 y z),h⟩
      · rename_i hk
        exact List.pairwise_cons.mpr ⟨λy hy=>(CH.mp hy).elim (λe=>e ▸ LA hk hn) (h1 y),Jl h2⟩
theorem yr {j:Str}:∀ {l:List Str},j∈pF l↔j∈l
  | []=>Iff.rfl
  | k :: l=>by rw [pF,CH,yr,List.mem_cons]
theorem x8:∀ l:List Str,Hw (pF l)
  | []=>.nil
  | k :: l=>Jl (x8 l)
theorem MP:∀ {l m:List Str},Hw l->Hw m->(∀ k,k∈l↔k∈m)->l=m
  | [],[],_,_,_=>rfl
  | [],y :: m,_,_,h=>absurd ((h y).2 (List.mem_cons_self ..)) (by simp)
  | x :: l,[],_,_,h=>absurd ((h x).1 (List.mem_cons_self ..)) (by simp)
  | x :: l,y :: m,a,b,h=>by
    obtain ⟨a1,a2⟩:=List.pairwise_cons.mp a
    obtain ⟨b1,b2⟩:=List.pairwise_cons.mp b
    have e:x=y:=by
      rcases List.mem_cons.mp ((h x).1 (List.mem_cons_self ..)) with z | z
      · exact z
      rcases List.mem_cons.mp ((h y).2 (List.mem_cons_self ..)) with z2 | z2
      · exact z2.symm
      exact absurd (Jk (a1 y z2) (b1 x z)) (BU _)
    subst e
    congr 1
    refine MP a2 b2 λk=>⟨λz=>?_,λz=>?_⟩
    · rcases List.mem_cons.mp ((h k).1 (List.mem_cons_of_mem _ z)) with q | q
      · exact absurd (q ▸ a1 k z) (BU _)
      · exact q
    · rcases List.mem_cons.mp ((h k).2 (List.mem_cons_of_mem _ z)) with q | q
      · exact absurd (q ▸ b1 k z) (BU _)
      · exact q
theorem GD:∀ (p:Str) (l:List Str),risingS p l=true->(p :: l).Nodup->Hw (p :: l)
  | p,[],_,_=>List.pairwise_singleton _ _
  | p,x :: r,h,nd=>by
    have h':(!ltCps x.cps.toList p.cps.toList && risingS x r)=true:=h
    rw [Bool.and_eq_true] at h'
    obtain ⟨n1,n2⟩:=List.nodup_cons.mp nd
    have A:=GD x r h'.2 n2
    have lt:Cj p x:=by
      have q:ltCps x.cps.toList p.cps.toList=false:=by simpa using h'.1
      rw [ltCps_eq] at q
      exact LA (of_decide_eq_false q) λe=>n1 (e ▸ List.mem_cons_self ..)
    exact List.pairwise_cons.mpr ⟨λy hy=>(List.mem_cons.mp hy).elim (λe=>e ▸ lt) λz=>Jk lt ((List.pairwise_cons.mp A).1 y z),A⟩
theorem MU {l:List Str} (h:sortedS l=true) (nd:l.Nodup):Hw l:=by
  cases l with
  | nil=>exact .nil
  | cons x r=>exact GD x r h nd
theorem Ot {l:List Str} (h:Hw l):l.Nodup:=List.Pairwise.imp (R:=Cj) (S:=(· ≠·)) (λ{a b} z (e:a=b)=>BU b (e ▸ z)) h
theorem Nb {l ks:List Str} (h:sortedS l=true) (nd:l.Nodup) (m:∀ k,k∈l↔k∈ks):l=pF ks:=MP (MU h nd) (x8 ks) λk=>(m k).trans yr.symm
theorem Jj (k:Str):∀ l:List Str,(yD k l).length≤l.length+1
  | []=>Nat.le_refl _
  | x :: l=>by
    unfold yD
    split
    · simp
    · split
      · simp
      · simpa using Jj k l
theorem JP:∀ l:List Str,(pF l).length≤l.length
  | []=>Nat.le_refl _
  | k :: l=>Nat.le_trans (Jj k _) (Nat.succ_le_succ (JP l))
def CC (w:World) (a:Addr) (T:List Str):HO:=.ext λh=>nU w h a T
theorem Mh {w:World} {P:Program} {H:Hp} {h:Heap} {a:Addr} {T:List Str} (R:nU w h a T):ObjOk P w H h a (CC w a T):=by
  have ⟨o,_,_,_,ho,_⟩:=R
  exact ⟨R,⟨o,ho⟩,λh1 h2 p k=>p.keep k⟩
def LJ (w:World):List V->Hp->VK->Prop:=λxs H Q=>∃ (a:Addr) (T:List Str),xs=[V.ref a]∧H a=some (CC w a T)∧(pF T).length < 64∧∀ p,H p=none->Q (.ref p) (upd H p (.lst ((pF T).map V.str)))
section
variable {X:Cx} {W:WX}
theorem Pe (hc:X.calm=true):CallR X (.builtin "sorted") (LJ X.w):=by
  intro pins s σ H vs us Q I r h
  obtain ⟨a,T,rfl,ha,h64,q⟩:=h
  have R:nU X.w s.heap a T:=(I.hok a _ ha).1
  rw [Vals.ref1 r]
  refine Qk R (I.ok.hd hc) (λl nd m=>by rw [((List.perm_ext_iff_of_nodup nd (Ot (x8 T))).mpr λk=>(m k).trans yr.symm).length_eq]; exact h64) λs' p out c ns k g o hp hg hi hs nd hm hl=>?_
  obtain rfl:=Nb hs nd hm
  have hlen:((pF T).map V.str).length≤sizeLine:=by rw [List.length_map,sizeLine_eq]; omega
  have hn:H p=none:=I.hok.fresh hp
  have J:Inv X pins σ (upd H p (.lst ((pF T).map V.str))) {s with heap:=s'.heap,gens:=s'.gens,drawn:=s'.drawn,toks:=s'.toks}:=
    I.call (ch:=[]) (Un.laid k hp hn) (I.hok.laid k hp ⟨hlen,out.toList,c,vals_of_strs hi,hg⟩) (by rw [g]; exact I.bare) (λ_ z=>nomatch z)
  have e:s'={s with heap:=s'.heap,gens:=s'.gens,drawn:=s'.drawn,toks:=s'.toks}:=by
    cases s'; cases s; cases o; rfl
  rw [e]
  exact ⟨.ref p,_,J,rfl,q p hn⟩
def Bu:List D->Option (List Int)
  | []=>some []
  | .int i :: r=>(Bu r).map (i :: ·)
  | _ :: _=>none
theorem J5:∀ {ds:List D} {ns:List Int},Bu ds=some ns->ds=ns.map D.int
  | [],ns,h=>by cases h; rfl
  | d :: ds,ns,h=>by
    cases d with
    | int i=>
      simp only [Bu,Option.map_eq_some_iff] at h
      obtain ⟨m,h1,rfl⟩:=h
      rw [J5 h1]
      rfl
    | _=>cases h
theorem DQ {K:PySem.W.Frag} {as:List Addr} {F:Hp}:∀ {ns:List Int} {xs:List V},aS K as F (ns.map D.int) xs->xs=ns.map V.int
  | [],_,.nil=>rfl
  | i :: ns,_,.cons h r=>by
    cases h
    rw [DQ r]
    rfl
def Fl:WS->List D->Option D:=λS xs=>match xs with
  | [.tup _]=>none
  | [x]=>(br S x).bind λds=>(Bu ds).map λns=>.int ns.sum
  | _=>none
theorem U5 {K:PySem.W.Frag}:RC K (rSum K) Fl:=λas F H S ds d vs I r h Q q=>by
  match ds,h with
  | [],h=>cases h
  | _ :: _ :: _,h=>simp [Fl] at h
  | [x],h=>
    have hn:∀ ys,x≠.tup ys:=by
      rintro ys rfl
      cases h
    have h3:((br S x).bind λds=>(Bu ds).map λns=>D.int ns.sum)=some d:=by
      revert h
      unfold Fl
      cases x <;> first | exact id | exact λh=>absurd rfl (hn _)
    simp only [Option.bind_eq_some_iff,Option.map_eq_some_iff] at h3
    obtain ⟨es,e1,ns,e2,rfl⟩:=h3
    obtain ⟨v,ws,rfl,rv,rn⟩:=r.dG
    obtain rfl:=rn.dR
    obtain ⟨a,xs,rfl,sq,rl⟩:=FW I rv e1 hn
    obtain rfl:=J5 e2
    obtain rfl:=DQ rl
    exact ⟨a,ns,rfl,sq,q F H _ (aW.refl I) (.int _)⟩
def DT (S:WS):D->Option (List (Key×D))
  | .dic kvs=>some kvs
  | .cell k=>match S[k]? with
    | some (.dic kvs)=>some kvs
    | _=>none
  | _=>none
theorem UC {K:PySem.W.Frag} {as:List Addr} {F:Hp} {kvs:List (Key×D)} {vkv:List (Key×V)} (r:f6 K [] F kvs vkv):f6 K as F kvs vkv:=r.mono (Ex.refl _) pre_nil
theorem XH {K:PySem.W.Frag} {as:List Addr} {F H:Hp} {S:WS} {x:D} {v:V} {kvs:List (Key×D)} (I:bU K as F H S) (r:Rp K as F x v) (h:DT S x=some kvs):∃ a vkv,v=.ref a∧H a=some (.dK vkv)∧f6 K as F kvs vkv:=by
  cases x with
  | dic k=>
    cases h
    cases r with
    | dic h1 r1=>exact ⟨_,_,rfl,I.ex _ _ h1,r1⟩
  | cell k=>
    unfold DT at h
    cases hS:S[k]? with
    | none=>simp [hS] at h
    | some c=>
      cases c with
      | dic es=>
        simp only [hS] at h
        cases h
        cases r with
        | cell ha=>
          obtain ⟨z1,ob,z2,z3⟩:=I.cell k _ _ ha hS
          cases ob with
          | dK xs=>exact ⟨_,_,rfl,z2,UC z3⟩
          | _=>exact z3.elim
      | _=>simp [hS] at h
  | _=>cases h
theorem R_ {K:PySem.W.Frag} {as:List Addr} {F:Hp} {d:D} {v:V} {k:Key} (r:Rp K as F d v) (h:qQ d=some k):v=kV k:=by
  cases r with
  | int i=>cases h; rfl
  | str s=>cases h; rfl
  | _=>cases h
def valD (kvs:List (Key×D)) (k:Key):Option D:=match kvs with
  | []=>none
  | kv :: r=>if kv.1=k then some kv.2 else valD r k
theorem f6.val {K:PySem.W.Frag} {as:List Addr} {F:Hp} {k:Key}:∀ {kvs:List (Key×D)} {vkv:List (Key×V)},f6 K as F kvs vkv->(valD kvs k=none∧valV vkv k=none)∨∃ d v,valD kvs k=some d∧valV vkv k=some v∧Rp K as F d v
  | _,_,.nil=>.inl ⟨rfl,rfl⟩
  | _,_,.cons (n:=n) (d:=d) (v:=v) h r=>by
    unfold valD
    by_cases e:n=k
    · refine .inr ⟨d,v,if_pos e,valV_pos e,h⟩
    · rcases r.val (k:=k) with ⟨a,b⟩ | ⟨d',v',a,b,c⟩
      · exact .inl ⟨by simp only [if_neg e]; exact a,(valV_neg e).trans b⟩
      · exact .inr ⟨d',v',by simp only [if_neg e]; exact a,(valV_neg e).trans b,c⟩
def sN:WS->D->D->Option D:=λS x y=>(DT S x).bind λkvs=>(qQ y).bind λk=>valD kvs k
theorem Ga {o i:Expr} {eo ei:RV.Env->M} {pos:Pos} (hu:X.A.units+1 < cLine) (ho:GE X W o eo) (hi:GE X W i ei) (hs:NoSl i:=by exact λ_ _=>rfl):GE X W (.Subscript o i pos) (az sN eo ei):=by
  obtain ⟨to,po,mo⟩:=ho
  obtain ⟨ti,pi,mi⟩:=hi
  refine ⟨_,pe_dget hu po pi hs,λas F H S ρ σ I R q x h Q hq hx=>?_⟩
  refine mo as F H S ρ σ I R _ x h _ (λu S1 bs F1 H1 v1 h1 g1 r1=>?_) hx
  refine mi bs F1 H1 S1 ρ σ g1.sit (R.grow g1) _ x h1 _ (λy S2 cs F2 H2 v2 h2 g2 r2=>?_) (hx.step g1)
  obtain ⟨d,h3,h4⟩:=bT h2
  simp only [sN,Option.bind_eq_some_iff] at h3
  obtain ⟨kvs,e1,k,e2,e3⟩:=h3
  obtain ⟨a,vkv,rfl,ha,rk⟩:=XH g2.sit (cD g2 r1) e1
  obtain rfl:=R_ r2 e2
  rcases rk.val (k:=k) with ⟨z1,z2⟩ | ⟨d',v',z1,z2,z3⟩
  · rw [z1] at e3; cases e3
  · rw [z1] at e3; cases e3
    refine ⟨a,v',rfl,?_,hq _ S2 cs F2 H2 _ h4 (g1.trans g2) z3⟩
    rw [← z2]
    exact DGet.k ha
def Wx (i j:Int) (c:Nat):Nat:=((j - i).toNat+(c - 1)) / c
def steps (i j:Int) (c:Nat):List D:=(List.range (Wx i j c)).map λ(n:Nat)=>D.int (i+(n:Int) * (c:Int))
def Yp (ds:List D) (k:Int->Int->Int->Prop):Prop:=match ds with
  | [.int i,.int j,.int c]=>k i j c
  | _=>False
end
end RV
end
section
namespace RV
open PySem L2 PyProof.Rows PySem.Builtin PySem.Builtin.Float
section
variable {prog:Program} {w:World} {A:Around} {E:Value->Shared->Prop} {s:Shared}
end
section
variable {X:Cx} {W:WX} {e:Expr} {ea:RV.Env->M} {pos p1 p2:Pos} {k:Nat}
end
end RV
namespace RV
open PySem L2
theorem Ju {X:Cx} {k:Nat} (hr:Room k X.A):X.A.units+1 < cLine:=by
  have h:=Rx.units (h:=false) (k:=k) hr
  omega
end RV
namespace RV
open PySem L2
end RV
namespace RV
open PySem L2
theorem Vt {s:Str}:qQ (.str s)=some (Sum.inr s):=rfl
theorem WM {i j c:Int} {k:Int->Int->Int->Prop}:Yp [.int i,.int j,.int c] k=k i j c:=rfl
end RV
end
section
namespace RV
open PySem L2 PySem.W
section
variable {prog:Program} {w:World} {M:Model} {A:Around} {E:Value->Shared->Prop} {s:Shared} {K:PySem.W.Frag} {x C L f g dx:Addr} {h₀:Heap} {m:Str->Option Value} {od:Obj}
end
end RV
end
section
namespace RV
open PySem L2
section
variable {nn:Bool} {X:Cx} {W:WX} {a b o e:Expr} {es:List Expr} {pos apos:Pos} {ea eb:RV.Env->M} {er:RV.Env->ML} {C:Addr} {m:Str} {k j n:Nat} {G:List D->M} {pl:Sem Bool}
end
end RV
end
section
namespace RV
open PySem L2
section
variable {X:Cx} {W:WX} {e o o2:Expr} {pos:Pos} {eo ei eo2 ei2 ee:RV.Env->M}
end
end RV
end
section
namespace RV
open PySem L2 PySem.Spec PyProof.Rows
section
variable {prog:Program} {w:World} {A:Around} {E:Value->Shared->Prop}
end
end RV
namespace RV
open PySem L2
section
variable {X:Cx} {W:WX} {o:Expr} {pos apos:Pos} {ea:RV.Env->M} {C:Addr} {m:Str} {k j:Nat} {G:List D->M} {pl:Sem Bool}
end
end RV
namespace RV
open PySem L2
end RV
end
section
namespace RV
open PySem PySem.Spec PyProof.Rows L2
def cH (m:Bool) (h:Heap) (i l:Addr) (n:Nat):Prop:=match m with
  | true=>h.IsTupleIter i l n
  | false=>h.IsListIter i l n
def dY (m:Bool) (h:Heap) (l:Addr) (xs:Array Value):Prop:=match m with
  | true=>h.IsTuple l xs
  | false=>h.IsList l xs
abbrev jP (m:Bool):String:=match m with
  | true=>"tuple_iterator"
  | false=>"list_iterator"
section
variable {h h':Heap} {m m1 m2:Bool} {a c l:Addr} {n:Nat} {xs ys:Array Value}
theorem cH.eb (x:cH m h a l n) (q:Heap.ExtBut c h h') (ne:a≠c):cH m h' a l n:=by
  cases m
  · exact Heap.IsListIter.extBut x q ne
  · exact Heap.IsTupleIter.extBut x q ne
theorem dY.eb (x:dY m h a xs) (q:Heap.ExtBut c h h') (ne:a≠c):dY m h' a xs:=by
  cases m
  · exact Heap.IsList.extBut x q ne
  · exact Heap.IsTuple.extBut x q ne
theorem cH.at_ (x:cH m h a l n) (e:∀ o,h.get? a=some o->h'.get? a=some o):cH m h' a l n:=by
  cases m
  · exact Heap.IsListIter.at x e
  · exact Heap.IsTupleIter.at x e
theorem cH.obj (x:cH m h a l n):∃ o,h.get? a=some o∧∀ v,o.data≠.cell v:=by
  cases m
  · obtain ⟨o,e,_,d⟩:=x
    exact ⟨o,e,λv q=>by rw [d] at q; cases q⟩
  · obtain ⟨o,e,_,d⟩:=x
    exact ⟨o,e,λv q=>by rw [d] at q; cases q⟩
theorem dY.lt (x:dY m h a xs):a < h.objs.size:=by
  cases m
  · obtain ⟨o,e,_⟩:=x
    exact Heap.lt_size e
  · obtain ⟨o,e,_⟩:=x
    exact Heap.lt_size e
end
section
variable {prog:Program} {w:World} {A:Around} {E:Value->Shared->Prop} {s:Shared} {m m1 m2:Bool}
theorem xU {i l:Addr} {n:Nat} {its:Array Value} {x:Value} {Q:Value->Shared->Prop} (j:cH m s.heap i l n) (jl:dY m s.heap l its) (jx:its[n]? =some x)
    (q:∀ g,cH m g i l (n+1)->Heap.SameBut i s.heap g->Q x {s with heap:=g}):wpAny (model prog w) A (Builtin.SmallTypes.nextOf (.ref i)) Q E s:=by
  cases m
  · exact wpAny_nextOf_list_item j jl jx q
  · exact RZ.nextOf_tuple_item j jl jx q
theorem Bo {i l:Addr} {n:Nat} {its:Array Value} {Q:Value->Shared->Prop} (jh:A.handled=none) (j:cH m s.heap i l n) (jl:dY m s.heap l its) (jx:its[n]? =none)
    (q:∀ g e,Heap.ExtBut i s.heap g->(∃ o,g.get? e=some o∧o.cls=.type "StopIteration")->E (.ref e) {s with heap:=g}):wpAny (model prog w) A (Builtin.SmallTypes.nextOf (.ref i)) Q E s:=by
  cases m
  · exact wpAny_nextOf_list_end jh j jl jx q
  · exact RZ.nextOf_tuple_end jh j jl jx q
theorem PN {z TI TO i1 i2 l1 l2:Addr} {n:Nat} {xs ys:Array Value} {a b:Value} (D:ZipApart z TI TO i1 i2 l1 l2) (jz:IsZip s.heap z TI TO .none) (ji:IsPair s.heap TI (.ref i1) (.ref i2)) (jo:IsPair s.heap TO a b)
    (j1:cH m1 s.heap i1 l1 n) (j2:cH m2 s.heap i2 l2 n) (jl1:dY m1 s.heap l1 xs) (jl2:dY m2 s.heap l2 ys) {Q:Fin->Shared->Prop}
    (qi:∀ x y,xs[n]? =some x->ys[n]? =some y->∀ g,IsZip g z TI TO (rawInt s.heap.objs.size)->IsPair g TO x y->cH m1 g i1 l1 (n+1)->cH m2 g i2 l2 (n+1)->IsPair g s.heap.objs.size x y->g.objs.size=s.heap.objs.size+1->
      (∀ c o,c≠z->c≠TO->c≠i1->c≠i2->s.heap.get? c=some o->g.get? c=some o)->Q (.done (.ret (.ref s.heap.objs.size))) {s with heap:=g})
    (qe:(xs[n]? =none∨ys[n]? =none)->A.handled=none∧∀ g e,(∀ c o,c≠z->c≠TO->c≠i1->c≠i2->s.heap.get? c=some o->g.get? c=some o)->(∃ o,g.get? e=some o∧o.cls=.type "StopIteration")->E (.ref e) {s with heap:=g}):
    wpAny (model prog w) A (Builtin.«zip.__next__» ⟨[.ref z],[]⟩) Q E s:=by
  show wpAny _ _ (field (.ref z) 2 >>= _) _ _ s
  refine wpAny_bind (wpAny_field jz rfl (x:=.bool false) rfl ?_)
  show wpAny _ _ (field (.ref z) 3 >>= _) _ _ s
  refine wpAny_bind (wpAny_field jz rfl (x:=.ref TI) rfl (wpAny_bind (wpAny_seqItems ji rfl ?_)))
  show wpAny _ _ (Builtin.SmallTypes.ownedTupleIsFree (.ref z) >>= _) _ _ s
  refine wpAny_bind ?_
  unfold Builtin.SmallTypes.ownedTupleIsFree
  refine wpAny_bind (wpAny_field jz rfl (x:=.none) rfl (wpAny_pure ?_))
  simp only [if_true]
  refine wpAny_bind (wpAny_rule (wpAny_bind (wpAny_field jz rfl (x:=.ref TO) rfl ?_)))
  refine wpAny_bind (wpAny_setField_rec jz (by simp) λg1 jz1 t1=>?_)
  replace jz1:IsZip g1 z TI TO .ellipsis:=jz1
  have e1:=t1.extBut
  refine wpAny_bind ?_
  simp only [List.zipIdx_cons,List.zipIdx_nil,List.forIn_cons,List.forIn_nil]
  refine wpAny_bind (wpAny_bind (wpAny_onRaise ?_))
  show wpAny _ _ (Builtin.SmallTypes.nextOf (.ref i1) >>= _) _ _ _
  have k1:cH m1 g1 i1 l1 n:=j1.eb e1 D.i1z
  have kl1:dY m1 g1 l1 xs:=jl1.eb e1 D.l1z
  cases hx:xs[n]? with
  | none=>
    obtain ⟨hh,qe⟩:=qe (.inl hx)
    refine wpAny_bind (Bo hh k1 kl1 hx λg2 e t2 he=>?_)
    obtain ⟨oe,he1,he2⟩:=he
    have jz2:IsZip g2 z TI TO .ellipsis:=t2 _ _ D.i1z.symm jz1
    have nez:e≠z:=λq=>by
      rw [q,jz2] at he1
      cases he1
      simp at he2
    exact wpAny_setField_rec jz2 (by simp) λg3 _ t3=>qe g3 e (λc o c1 _ c3 _ q=>t3.extBut _ _ c1 (t2 _ _ c3 (e1 _ _ c1 q))) ⟨oe,t3.extBut _ _ nez he1,he2⟩
  | some x=>
    refine wpAny_bind (xU k1 kl1 hx λg2 u1 t2=>wpAny_pure ?_)
    have e2:=t2.extBut
    have jo2:IsPair g2 TO a b:=e2 _ _ D.TOi1 (e1 _ _ D.TOz jo)
    refine wpAny_bind (wpAny_seqItems jo2 rfl (wpAny_bind (wpAny_updateSeq_pair jo2 λg3 jo3 t3=>?_)))
    replace jo3:IsPair g3 TO x b:=jo3
    have e3:=t3.extBut
    refine wpAny_bind (wpAny_letGo (wpAny_pure (wpAny_bind (wpAny_bind (wpAny_onRaise ?_)))))
    show wpAny _ _ (Builtin.SmallTypes.nextOf (.ref i2) >>= _) _ _ _
    have k2:cH m2 g3 i2 l2 n:=((j2.eb e1 D.i2z).eb e2 D.i12.symm).eb e3 D.TOi2.symm
    have kl2:dY m2 g3 l2 ys:=((jl2.eb e1 D.l2z).eb e2 D.l2i1).eb e3 D.l2TO
    cases hy:ys[n]? with
    | none=>
      obtain ⟨hh,qe⟩:=qe (.inr hy)
      refine wpAny_bind (Bo hh k2 kl2 hy λg4 e t4 he=>?_)
      obtain ⟨oe,he1,he2⟩:=he
      have jz4:IsZip g4 z TI TO .ellipsis:=t4 _ _ D.i2z.symm (e3 _ _ D.TOz.symm (e2 _ _ D.i1z.symm jz1))
      have nez:e≠z:=λq=>by
        rw [q,jz4] at he1
        cases he1
        simp at he2
      exact wpAny_setField_rec jz4 (by simp) λg5 _ t5=>qe g5 e (λc o c1 c2 c3 c4 q=>t5.extBut _ _ c1 (t4 _ _ c4 (e3 _ _ c2 (e2 _ _ c3 (e1 _ _ c1 q))))) ⟨oe,t5.extBut _ _ nez he1,he2⟩
    | some y=>
      refine wpAny_bind (xU k2 kl2 hy λg4 u2 t4=>wpAny_pure ?_)
      have e4:=t4.extBut
      have jo4:IsPair g4 TO x b:=e4 _ _ D.TOi2 jo3
      refine wpAny_bind (wpAny_seqItems jo4 rfl (wpAny_bind (wpAny_updateSeq_pair jo4 λg5 jo5 t5=>?_)))
      replace jo5:IsPair g5 TO x y:=jo5
      have e5:=t5.extBut
      refine wpAny_bind (wpAny_letGo (wpAny_pure (wpAny_pure (wpAny_bind (wpAny_seqItems jo5 rfl (wpAny_bind (wpAny_newTuple ?_)))))))
      have sz:g5.objs.size=s.heap.objs.size:=by rw [t5.1,t4.1,t3.1,t2.1,t1.1]
      have jz5:IsZip g5 z TI TO .ellipsis:=e5 _ _ D.TOz.symm (e4 _ _ D.i2z.symm (e3 _ _ D.TOz.symm (e2 _ _ D.i1z.symm jz1)))
      have up5:∀ c o,c≠z->c≠TO->c≠i1->c≠i2->s.heap.get? c=some o->g5.get? c=some o:=λc o c1 c2 c3 c4 q=>e5 _ _ c2 (e4 _ _ c4 (e3 _ _ c2 (e2 _ _ c3 (e1 _ _ c1 q))))
      have v1:cH m1 g5 i1 l1 (n+1):=((u1.eb e3 D.TOi1.symm).eb e4 D.i12).eb e5 D.TOi1.symm
      have v2:cH m2 g5 i2 l2 (n+1):=u2.eb e5 D.TOi2.symm
      have zlt:z < g5.objs.size:=Heap.lt_size jz5
      show wpAny _ _ (Builtin.SmallTypes.ownedTupleHandOut (.ref z) (.ref g5.objs.size) >>= _) _ _ _
      refine wpAny_bind ?_
      unfold Builtin.SmallTypes.ownedTupleHandOut
      have jz6:IsZip (g5.push {cls:=.type "tuple",data:=.seq #[x,y]}) z TI TO .ellipsis:=Heap.get?_push_of_some _ jz5
      refine wpAny_bind (wpAny_setField_rec jz6 (by simp) λg7 jz7 t7=>?_)
      replace jz7:IsZip g7 z TI TO (rawInt g5.objs.size):=jz7
      refine wpAny_setField_rec jz7 (by simp) λg8 jz8 t8=>?_
      replace jz8:IsZip g8 z TI TO (rawInt g5.objs.size):=jz8
      have up:∀ c o,c≠z->g5.get? c=some o->g8.get? c=some o:=λc o c1 q=>t8.extBut _ _ c1 (t7.extBut _ _ c1 (Heap.get?_push_of_some _ q))
      have jT:IsPair g8 g5.objs.size x y:=t8.extBut _ _ (Nat.ne_of_gt zlt) (t7.extBut _ _ (Nat.ne_of_gt zlt) (Heap.get?_push_size _ rfl))
      have sz8:g8.objs.size=g5.objs.size+1:=by rw [t8.1,t7.1,Heap.size_push]
      rw [sz] at jz8 jT sz8
      refine wpAny_pure ?_
      show Q (.done (.ret (.ref g5.objs.size))) _
      rw [sz]
      exact qi x y hx hy g8 jz8 (up _ _ D.TOz jo5) (v1.at_ λo q=>up _ o D.i1z q) (v2.at_ λo q=>up _ o D.i2z q) jT sz8 λc o c1 c2 c3 c4 q=>up c o c1 (up5 c o c1 c2 c3 c4 q)
theorem L_ {z TI TO i1 i2 l1 l2:Addr} {n:Nat} {xs ys:Array Value} {a b:Value} (D:ZipApart z TI TO i1 i2 l1 l2) (jz:IsZip s.heap z TI TO .none) (ji:IsPair s.heap TI (.ref i1) (.ref i2)) (jo:IsPair s.heap TO a b)
    (j1:cH m1 s.heap i1 l1 n) (j2:cH m2 s.heap i2 l2 n) (jl1:dY m1 s.heap l1 xs) (jl2:dY m2 s.heap l2 ys) {Q:Option Value->Shared->Prop}
    (qi:∀ x y,xs[n]? =some x->ys[n]? =some y->∀ g,IsZip g z TI TO (rawInt s.heap.objs.size)->IsPair g TO x y->cH m1 g i1 l1 (n+1)->cH m2 g i2 l2 (n+1)->IsPair g s.heap.objs.size x y->g.objs.size=s.heap.objs.size+1->
      (∀ c o,c≠z->c≠TO->c≠i1->c≠i2->s.heap.get? c=some o->g.get? c=some o)->Q (some (.ref s.heap.objs.size)) {s with heap:=g})
    (qe:(xs[n]? =none∨ys[n]? =none)->A.handled=none∧∀ g,(∀ c o,c≠z->c≠TO->c≠i1->c≠i2->s.heap.get? c=some o->g.get? c=some o)->Q none {s with heap:=g}):
    wpAny (model prog w) A (pyNext (.ref z)) Q E s:=by
  have jT:s.TypeIs (.ref z) "zip":=⟨_,jz,rfl⟩
  unfold pyNext
  refine wpAny_bind (wpAny_attempt (wpAny_callSpecial?_slot (name:=Str.ofString "__next__") jT F.slot_zip_next (wpAny_call_entry F.slot_zip_next jT F.entry_zip_next
    (PN D jz ji jo j1 j2 jl1 jl2 (λx y hx hy g a1 a2 a3 a4 a5 a6 a7=>⟨_,rfl,wpAny_pure (qi x y hx hy g a1 a2 a3 a4 a5 a6 a7)⟩) λhe=>⟨?_,λg e hk hs=>?_⟩) (F.args_zip_next_1 _))))
  · exact (qe he).1
  · obtain ⟨o,ho,hc⟩:=hs
    exact wpAny_bind (wpAny_isInstance (T:="StopIteration") (b:=true) ⟨o,ho,hc⟩ isSubtype_stop (wpAny_pure ((qe he).2 _ hk)))
theorem iterM {l:Addr} {xs:Array Value} {Q:Value->Shared->Prop} (jl:dY m s.heap l xs) (q:Q (.ref s.heap.objs.size) {s with heap:=s.heap.push {cls:=.type (jP m),data:=.fields #[.ref l,.int 0 0]}}):
    wpAny (model prog w) A (pyIter (.ref l)) Q E s:=by
  cases m
  · exact wpAny_pyIter_list jl q
  · exact wpAny_pyIter_tuple jl q
end
def nN (h:Heap) (m1:Bool) (l1:Addr):Heap:=h.push {cls:=.type (jP m1),data:=.fields #[.ref l1,.int 0 0]}
def pO (h:Heap) (m1 m2:Bool) (l1 l2:Addr):Heap:=(nN h m1 l1).push {cls:=.type (jP m2),data:=.fields #[.ref l2,.int 0 0]}
def sD (h:Heap) (m1 m2:Bool) (l1 l2:Addr):Heap:=(pO h m1 m2 l1 l2).push {cls:=.type "tuple",data:=.seq #[.ref h.objs.size,.ref (nN h m1 l1).objs.size]}
def vt (h:Heap) (m1 m2:Bool) (l1 l2:Addr):Heap:=(sD h m1 m2 l1 l2).push {cls:=.type "tuple",data:=.seq #[.none,.none]}
def yN (h:Heap) (m1 m2:Bool) (l1 l2:Addr):Heap:=(vt h m1 m2 l1 l2).push {cls:=.type "zip",data:=.fields #[.none,.bool false,.bool false,.ref (pO h m1 m2 l1 l2).objs.size,.ref (sD h m1 m2 l1 l2).objs.size]}
theorem dY.push {h:Heap} {m:Bool} {l:Addr} {xs:Array Value} (x:dY m h l xs) (o:Obj):dY m (h.push o) l xs:=by
  cases m
  · exact Heap.IsList.push x o
  · exact Heap.IsTuple.push x o
theorem Wd (m1 m2:Bool) (l1 l2:Addr) (xs ys:Array Value):
    Meets (Builtin.«zip.__new__» ⟨[.type "zip",.ref l1,.ref l2],[]⟩) (λ_ R s=>dY m1 s.heap l1 xs∧dY m2 s.heap l2 ys∧R (.ok (.ret (.ref (vt s.heap m1 m2 l1 l2).objs.size))) {s with heap:=yN s.heap m1 m2 l1 l2}):=
  .of_wp λprog w A R s z=>by
    obtain ⟨hp,g,d,tk,os⟩:=s
    obtain ⟨z1,z2,z⟩:=z
    have hsub:=sub_zip
    have y2:=z2.push {cls:=.type (jP m1),data:=.fields #[.ref l1,.int 0 0]}
    have J1:∀ {A:Around} {E:Value->Shared->Prop} {Q:Value->Shared->Prop},Q (.ref hp.objs.size) ⟨hp.push {cls:=.type (jP m1),data:=.fields #[.ref l1,.int 0 0]},g,d,tk,os⟩->wpAny (model prog w) A (pyIter (.ref l1)) Q E ⟨hp,g,d,tk,os⟩:=λq=>iterM (s:=⟨hp,g,d,tk,os⟩) z1 q
    have J2:∀ {A:Around} {E:Value->Shared->Prop} {Q:Value->Shared->Prop},Q (.ref (nN hp m1 l1).objs.size) ⟨pO hp m1 m2 l1 l2,g,d,tk,os⟩->wpAny (model prog w) A (pyIter (.ref l2)) Q E ⟨hp.push {cls:=.type (jP m1),data:=.fields #[.ref l1,.int 0 0]},g,d,tk,os⟩:=λq=>iterM (s:=⟨hp.push {cls:=.type (jP m1),data:=.fields #[.ref l1,.int 0 0]},g,d,tk,os⟩) y2 q
    wp_walk using J1,J2
    exact ⟨_,rfl,z⟩
section
variable {prog:Program} {w:World} {A:Around} {E:Value->Shared->Prop} {s:Shared} {m1 m2:Bool}
theorem BK {h:Heap} {m:Bool} {a l:Addr} (e:h.get? a=some {cls:=.type (jP m),data:=.fields #[.ref l,.int 0 0]}):cH m h a l 0:=by
  cases m
  · exact ⟨_,e,rfl,rfl⟩
  · exact ⟨_,e,rfl,rfl⟩
theorem OA {l1 l2:Addr} {xs ys:Array Value} {Q:Value->Shared->Prop} (jl1:dY m1 s.heap l1 xs) (jl2:dY m2 s.heap l2 ys)
    (q:∀ g,IsZip g (s.heap.objs.size+4) (s.heap.objs.size+2) (s.heap.objs.size+3) .none->IsPair g (s.heap.objs.size+2) (.ref s.heap.objs.size) (.ref (s.heap.objs.size+1))->IsPair g (s.heap.objs.size+3) .none .none->
      cH m1 g s.heap.objs.size l1 0->cH m2 g (s.heap.objs.size+1) l2 0->(∀ c o,s.heap.get? c=some o->g.get? c=some o)->Q (.ref (s.heap.objs.size+4)) {s with heap:=g}):wpAny (model prog w) A (call (.type "zip") [.ref l1,.ref l2]) Q E s:=by
  refine callType_new F.called_zip (by decide) (F.typeCall_zip_2 _ _) (F.newCall_zip_2 _ _) (λobj=>F.args_object_init_3 obj _ _) F.entry_zip_new (Wd m1 m2 l1 l2 xs ys) ⟨jl1,jl2,?_⟩
  have n1:(nN s.heap m1 l1).objs.size=s.heap.objs.size+1:=Heap.size_push ..
  have n2:(pO s.heap m1 m2 l1 l2).objs.size=s.heap.objs.size+2:=(Heap.size_push ..).trans (congrArg (· +1) n1)
  have n3:(sD s.heap m1 m2 l1 l2).objs.size=s.heap.objs.size+3:=(Heap.size_push ..).trans (congrArg (· +1) n2)
  have n4:(vt s.heap m1 m2 l1 l2).objs.size=s.heap.objs.size+4:=(Heap.size_push ..).trans (congrArg (· +1) n3)
  have p1:∀ {c o},(nN s.heap m1 l1).get? c=some o->(yN s.heap m1 m2 l1 l2).get? c=some o:=λe=>Heap.get?_push_of_some _ (Heap.get?_push_of_some _ (Heap.get?_push_of_some _ (Heap.get?_push_of_some _ e)))
  have g5:(yN s.heap m1 m2 l1 l2).get? (vt s.heap m1 m2 l1 l2).objs.size=some {cls:=.type "zip",data:=.fields #[.none,.bool false,.bool false,.ref (pO s.heap m1 m2 l1 l2).objs.size,.ref (sD s.heap m1 m2 l1 l2).objs.size]}:=Heap.get?_push_size _ rfl
  have g4:(yN s.heap m1 m2 l1 l2).get? (sD s.heap m1 m2 l1 l2).objs.size=some {cls:=.type "tuple",data:=.seq #[.none,.none]}:=Heap.get?_push_of_some _ (Heap.get?_push_size _ rfl)
  have g3:(yN s.heap m1 m2 l1 l2).get? (pO s.heap m1 m2 l1 l2).objs.size=some {cls:=.type "tuple",data:=.seq #[.ref s.heap.objs.size,.ref (nN s.heap m1 l1).objs.size]}:=Heap.get?_push_of_some _ (Heap.get?_push_of_some _ (Heap.get?_push_size _ rfl))
  have g2:(yN s.heap m1 m2 l1 l2).get? (nN s.heap m1 l1).objs.size=some {cls:=.type (jP m2),data:=.fields #[.ref l2,.int 0 0]}:=Heap.get?_push_of_some _ (Heap.get?_push_of_some _ (Heap.get?_push_of_some _ (Heap.get?_push_size _ rfl)))
  have g1:(yN s.heap m1 m2 l1 l2).get? s.heap.objs.size=some {cls:=.type (jP m1),data:=.fields #[.ref l1,.int 0 0]}:=p1 (Heap.get?_push_size _ rfl)
  show _∧_
  rw [n4,n2,n3] at g5
  rw [n3] at g4
  rw [n2,n1] at g3
  rw [n1] at g2
  rw [n4]
  exact ⟨⟨_,g5,rfl⟩,q _ g5 g3 g4 (BK g1) (BK g2) λc o e=>p1 (Heap.get?_push_of_some _ e)⟩
end
def nE (K:PySem.W.Frag) (m:Bool) (H:Hp) (a:Addr) (xs:List V):Prop:=match m with
  | true=>SqT K H a xs
  | false=>SqL K H a xs
def QL (K:PySem.W.Frag) (m1 m2:Bool) (a b:Addr):It:=
  ⟨λi H=>∃ (xs ys:List V) (x y:V),nE K m1 H a xs∧nE K m2 H b ys∧xs[i]? =some x∧ys[i]? =some y,
    λi H v H'=>∃ T x y,v=.ref T∧H T=none∧H'=upd H T (.tup [x,y])∧(∀ xs,nE K m1 H a xs->xs[i]? =some x)∧∀ ys,nE K m2 H b ys->ys[i]? =some y,
    λi H=>∃ xs ys:List V,nE K m1 H a xs∧nE K m2 H b ys∧(xs.length≤i∨ys.length≤i)⟩
section
variable {X:Cx} {pins:List (Addr×Obj)} {σ:L2.St} {H:Hp} {s:Shared} {m:Bool}
theorem rF (I:Inv X pins σ H s) {a:Addr} {xs:List V} (q:nE X.K m H a xs):∃ its,Vals xs its∧dY m s.heap a its.toArray:=by
  cases m
  · obtain ⟨its,rv,p,_⟩:=I.list q
    exact ⟨its,rv,p.isList⟩
  · obtain ⟨its,rv,p,_⟩:=I.tuple q
    exact ⟨its,rv,p⟩
theorem x9 (I:Inv X pins σ H s) {a:Addr} {xs ys:List V} (q:nE X.K m H a xs) (r:nE X.K m H a ys):xs=ys:=by
  cases m
  · exact I.list_inj q r
  · exact I.tuple_inj q r
end
theorem XW {P:Program} {w:World} {K:PySem.W.Frag} {elts:List Expr} {kk:Nat} {tpos:Pos} {m1 m2:Bool} {a b z TI TO i1 i2:Addr} (D:ZipApart z TI TO i1 i2 a b):
    Turn P w K (.Tuple elts kk tpos) (QL K m1 m2 a b) [z,TI,TO,i1,i2] z (λi h=>IsZip h z TI TO .none∧IsPair h TI (.ref i1) (.ref i2)∧(∃ x y,IsPair h TO x y)∧cH m1 h i1 a i∧cH m2 h i2 b i) where
  mem:=by simp
  obj:=λi h st c hc=>by
    obtain ⟨jz,ji,⟨x,y,jo⟩,j1,j2⟩:=st
    simp only [List.mem_cons,List.not_mem_nil,or_false] at hc
    rcases hc with rfl | rfl | rfl | rfl | rfl
    · exact ⟨_,jz,λv q=>nomatch q⟩
    · exact ⟨_,ji,λv q=>nomatch q⟩
    · exact ⟨_,jo,λv q=>nomatch q⟩
    · exact j1.obj
    · exact j2.obj
  keep:=λi h h' st k=>by
    obtain ⟨jz,ji,⟨x,y,jo⟩,j1,j2⟩:=st
    exact ⟨k z (by simp) _ jz,k TI (by simp) _ ji,⟨x,y,k TO (by simp) _ jo⟩,j1.at_ λo q=>k i1 (by simp) o q,j2.at_ λo q=>k i2 (by simp) o q⟩
  item:=  by
    intro X hP hw hK hc i pins s σ H E I hf st hg
    subst hP hw hK
    obtain ⟨jz,ji,⟨x0,y0,jo⟩,j1,j2⟩:=st
    obtain ⟨xs,ys,x,y,qx,qy,hx,hy⟩:=hg
    obtain ⟨its,rv,p⟩:=rF I qx
    obtain ⟨its2,rv2,p2⟩:=rF I qy
    obtain ⟨u,hu,ru⟩:=rv.get hx
    obtain ⟨u2,hu2,ru2⟩:=rv2.get hy
    have zlt:z < s.heap.objs.size:=Heap.lt_size jz
    have hu':its.toArray[i]? =some u:=by simpa using hu
    have hu2':its2.toArray[i]? =some u2:=by simpa using hu2
    refine L_ D jz ji jo j1 j2 p p2 (λx1 y1 hx1 hy1 g z' TO' j1' j2' jT sz up=>?_) λhe=>?_
    · rw [hu'] at hx1
      rw [hu2'] at hy1
      cases hx1
      cases hy1
      refine ⟨_,rfl,wpAny_letOwnedTupleGo_zip (s:={s with heap:=g}) z' λg2 z'' sb=>?_⟩
      have jT2:g2.get? s.heap.objs.size=some {cls:=.type "tuple",data:=.seq #[u,u2]}:=(sb.2 _ (Nat.ne_of_gt zlt)).trans jT
      have new:ObjOk X.prog X.w (upd H s.heap.objs.size (.tup [x,y])) g2 s.heap.objs.size (.tup [x,y]):=⟨by show 2≤sizeLine; decide,[u,u2],.cons ru (.cons ru2 .nil),⟨_,jT2,rfl,_,rfl⟩⟩
      have I1:Inv X pins σ (upd H s.heap.objs.size (.tup [x,y])) {s with heap:=g2}:=
        I.turnedNew (t':=s.toks) (ch:=[z,TI,TO,i1,i2]) (λc o hb q=>by
          simp only [List.mem_cons,List.not_mem_nil,or_false,not_or] at hb
          exact (sb.2 c hb.1).trans (up c o hb.1 hb.2.2.1 hb.2.2.2.1 hb.2.2.2.2 q)) hf (Nat.le_refl _) new
      refine ⟨.ref s.heap.objs.size,_,I1,rfl,⟨_,x,y,rfl,I.hok.fresh (Nat.le_refl _),rfl,λl hl=>by rw [x9 I hl qx]; exact hx,λl hl=>by rw [x9 I hl qy]; exact hy⟩,⟨z'',?_,⟨u,u2,?_⟩,?_,?_⟩,λc hcm=>?_⟩
      · exact (sb.2 _ D.TIz).trans (up _ _ D.TIz D.TITO D.TIi1 D.TIi2 ji)
      · exact (sb.2 _ D.TOz).trans TO'
      · exact j1'.at_ λo q=>(sb.2 _ D.i1z).trans q
      · exact j2'.at_ λo q=>(sb.2 _ D.i2z).trans q
      · have hlt:c < s.heap.objs.size:=by
          simp only [List.mem_cons,List.not_mem_nil,or_false] at hcm
          rcases hcm with rfl | rfl | rfl | rfl | rfl
          · exact zlt
          · exact Heap.lt_size ji
          · exact Heap.lt_size jo
          · obtain ⟨_,e1,_⟩:=j1.obj
            exact Heap.lt_size e1
          · obtain ⟨_,e1,_⟩:=j2.obj
            exact Heap.lt_size e1
        rw [upd_ne (Nat.ne_of_lt hlt)]
        exact (hf c hcm).1
    · rw [hu',hu2'] at he
      rcases he with he | he <;> cases he
  done:=by
    intro X hP hw hK hc i pins s σ H E I hf st hg
    subst hP hw hK
    obtain ⟨jz,ji,⟨x0,y0,jo⟩,j1,j2⟩:=st
    obtain ⟨xs,ys,qx,qy,hend⟩:=hg
    obtain ⟨its,rv,p⟩:=rF I qx
    obtain ⟨its2,rv2,p2⟩:=rF I qy
    have n1:=rv.length
    have n2:=rv2.length
    refine L_ D jz ji jo j1 j2 p p2 (λx1 y1 hx1 hy1=>?_) λ_=>⟨I.ok.hd hc,λg up=>⟨rfl,I.turnedL (t':=s.toks) (ch:=[z,TI,TO,i1,i2]) (λc o hb q=>?_) hf⟩⟩
    · exfalso
      have hx1:=(Array.getElem?_eq_some_iff.mp hx1).1
      have hy1:=(Array.getElem?_eq_some_iff.mp hy1).1
      simp only [List.size_toArray] at hx1 hy1
      omega
    · simp only [List.mem_cons,List.not_mem_nil,or_false,not_or] at hb
      exact up c o hb.1 hb.2.2.1 hb.2.2.2.1 hb.2.2.2.2 q
  self:=λA i s Q E st q=>wpAny_pyIter_zip st.1 q
def W8 (K:PySem.W.Frag) (ta:TA):TI:=λσ H R=>ta σ H λvs H1=>∃ m1 m2 a b xs ys,vs=[.ref a,.ref b]∧nE K m1 H1 a xs∧nE K m2 H1 b ys∧R (QL K m1 m2 a b) H1
theorem Uc {X:Cx} {e e2:Expr} {ta:TA} {p pos tpos:Pos} {elts:List Expr} {kk:Nat} (hg:Gl X "zip") (hm:X.mg "zip"=none) (ha:PA X [e,e2] ta)
    (hs:starEach [e,e2] X.env=(false,eval e X.env) :: starEach [e2] X.env:=by rfl) (hpl:(backTo pos (starEach [e2] X.env)).any (·.1)=false:=by rfl):
    PI X (.Tuple elts kk tpos) (.Call (.Name "zip" p) [e,e2] [] pos) (W8 X.K ta):=by
  refine ⟨λpins s σ H R I h=>?_⟩
  refine Call_ (ld_blt I hg hm PyProof.Rows.boot_zip (PyProof.Rows.callWith_type1 (thn (ha.run pos pins s σ H _ I h) λus s1 hh=>?_) hs hpl))
  obtain ⟨vs,H1,I1,r1,m1,m2,a,b,xs,ys,rfl,qx,qy,q1⟩:=hh
  cases r1 with
  | cons r rr=>
    cases rr with
    | cons r' rr=>
      cases rr
      cases r
      cases r'
      obtain ⟨its,rv,p1⟩:=rF I1 qx
      obtain ⟨its2,rv2,p2⟩:=rF I1 qy
      refine OA p1 p2 λg jz ji jo j1 j2 up=>wpAny_pyIter_zip jz ?_
      refine ⟨s1.heap.objs.size+4,[s1.heap.objs.size+4,s1.heap.objs.size+2,s1.heap.objs.size+3,s1.heap.objs.size,s1.heap.objs.size+1],_,_,H1,rfl,I1.kept (t':=s1.toks) up,XW (PySem.W.ktu_apart s1.heap.objs.size a b p1.lt p2.lt),⟨jz,ji,⟨_,_,jo⟩,j1,j2⟩,λc hcm=>?_,q1⟩
      have hle:s1.heap.objs.size≤c:=by
        simp only [List.mem_cons,List.not_mem_nil,or_false] at hcm
        rcases hcm with z | z | z | z | z
        all_goals (rw [z]; first | exact Nat.le_refl _ | exact Nat.le_add_right _ _)
      exact I1.fpOk hle (I1.hok.fresh hle)
def oE (d:D) (S:WS) (q:Bool->List D->(WS->Prop)->Prop):Prop:=match d with
  | .tup ds=>q true ds cB
  | .lst ds=>q false ds cB
  | .scr ns=>q false (ns.map D.int) cB
  | .cell k=>gx S[k]? λc=>sA c λds=>q false ds (Holds k ds)
  | _=>False
def fS:List D->List D->List D
  | a :: as,b :: bs=>.tup [a,b] :: fS as bs
  | _,_=>[]
theorem uE:∀ {as bs:List D} {i:Nat} {d:D},(fS as bs)[i]? =some d->∃ a b,as[i]? =some a∧bs[i]? =some b∧d=.tup [a,b]
  | a :: as,b :: bs,0,d,h=>by
    unfold fS at h
    cases h
    exact ⟨a,b,rfl,rfl,rfl⟩
  | a :: as,b :: bs,i+1,d,h=>by
    unfold fS at h
    have h2:(fS as bs)[i]? =some d:=by simpa using h
    obtain ⟨x,y,e1,e2,e3⟩:=uE h2
    exact ⟨x,y,by simpa using e1,by simpa using e2,e3⟩
  | [],bs,i,d,h=>by
    unfold fS at h
    simp at h
  | a :: as,[],i,d,h=>by
    unfold fS at h
    simp at h
theorem CI:∀ as bs:List D,(fS as bs).length=min as.length bs.length
  | [],bs=>by simp [fS]
  | a :: as,[]=>by simp [fS]
  | a :: as,b :: bs=>by
    unfold fS
    rw [List.length_cons,CI as bs,List.length_cons,List.length_cons]
    omega
structure BD (K:PySem.W.Frag) (m:Bool) (as:List Addr) (F:Hp) (a:Addr) (ds:List D) (N:WS->Prop):Prop where
  at_:∀ bs F2 H2 S2,bU K bs F2 H2 S2->Ex F F2->Pre as bs->N S2->∃ xs,nE K m H2 a xs∧aS K bs F2 ds xs
theorem wR {K:PySem.W.Frag} {as:List Addr} {F H:Hp} {S:WS} {d:D} {v:V} {q:Bool->List D->(WS->Prop)->Prop} (I:bU K as F H S) (r:Rp K as F d v) (h:oE d S q):
    ∃ a m ds N,v=.ref a∧BD K m as F a ds N∧(∃ xs,nE K m H a xs)∧q m ds N:=by
  cases r with
  | tup hp rl=>exact ⟨_,true,_,cB,rfl,⟨λbs F2 H2 S2 I2 e p _=>⟨_,I2.ex.kT (e.kT hp),rl.mono e p⟩⟩,⟨_,I.ex.kT hp⟩,h⟩
  | lst hp rl=>exact ⟨_,false,_,cB,rfl,⟨λbs F2 H2 S2 I2 e p _=>⟨_,SqL.of (I2.ex _ _ (e _ _ hp)),rl.mono e p⟩⟩,⟨_,SqL.of (I.ex _ _ hp)⟩,h⟩
  | scr hp=>exact ⟨_,false,_,cB,rfl,⟨λbs F2 H2 S2 I2 e p _=>⟨_,I2.ex.tT (e.tT hp),uC _⟩⟩,⟨_,I.ex.tT hp⟩,h⟩
  | cell ha=>
    obtain ⟨c,hS,h2⟩:=bT h
    cases c with
    | lst ds=>
      obtain ⟨_,o,z2,z3⟩:=I.cell _ _ _ ha hS
      cases o with
      | lst xs=>
        refine ⟨_,false,ds,Holds _ ds,rfl,⟨λbs F2 H2 S2 I2 e p hN=>?_⟩,⟨_,SqL.of z2⟩,h2⟩
        obtain ⟨_,o2,y2,y3⟩:=I2.cell _ _ _ (p _ _ ha) hN
        cases o2 with
        | lst ys=>exact ⟨ys,SqL.of y2,aS.mono (Ex.refl _) pre_nil y3⟩
        | _=>exact y3.elim
      | _=>exact z3.elim
    | _=>exact h2.elim
  | _=>exact h.elim
theorem O5 {K:PySem.W.Frag} {as:List Addr} {F:Hp} {m1 m2:Bool} {a b:Addr} {ds es:List D} {N1 N2:WS->Prop} (h1:BD K m1 as F a ds N1) (h2:BD K m2 as F b es N2):Walks K (QL K m1 m2 a b) as F (fS ds es) (λS=>N1 S∧N2 S):=by
  refine ⟨λbs F2 H2 S2 I e p n=>?_,λi hi bs F2 H2 S2 I e p n=>?_,λi d hd bs F2 H2 S2 I e p n x H' y=>?_⟩
  · obtain ⟨xs,q1,r1⟩:=h1.at_ bs F2 H2 S2 I e p n.1
    obtain ⟨ys,q2,r2⟩:=h2.at_ bs F2 H2 S2 I e p n.2
    refine ⟨xs,ys,q1,q2,?_⟩
    rw [CI,← r1.length,← r2.length]
    omega
  · obtain ⟨xs,q1,r1⟩:=h1.at_ bs F2 H2 S2 I e p n.1
    obtain ⟨ys,q2,r2⟩:=h2.at_ bs F2 H2 S2 I e p n.2
    obtain ⟨u,v,e1,e2,_⟩:=uE (List.getElem?_eq_getElem hi)
    obtain ⟨x,hx,_⟩:=r1.get e1
    obtain ⟨y,hy,_⟩:=r2.get e2
    exact ⟨xs,ys,x,y,q1,q2,hx,hy⟩
  · obtain ⟨xs,q1,r1⟩:=h1.at_ bs F2 H2 S2 I e p n.1
    obtain ⟨ys,q2,r2⟩:=h2.at_ bs F2 H2 S2 I e p n.2
    obtain ⟨u,v,e1,e2,rfl⟩:=uE hd
    obtain ⟨x1,hx,rx⟩:=r1.get e1
    obtain ⟨y1,hy,ry⟩:=r2.get e2
    obtain ⟨T,x2,y2,rfl,hT,rfl,z1,z2⟩:=y
    have w1:=z1 xs q1
    have w2:=z2 ys q2
    rw [hx] at w1
    rw [hy] at w2
    cases w1
    cases w2
    have g:=I.grow (o:=.tup [x1,y1]) hT
    exact ⟨_,g,.tup (SqT.of upd_same) (.cons (cD g rx) (.cons (cD g ry) .nil))⟩
def iZip (er:RV.Env->ML):RV.Env->MW:=λρ S q x=>er ρ S (λds S1=>G3 ds λd e=>oE d S1 λ_ xs N1=>oE e S1 λ_ ys N2=>q (fS xs ys) (λS=>N1 S∧N2 S) S1) x
theorem EC {X:Cx} {W:WX} {e e2:Expr} {er:RV.Env->ML} {p pos tpos:Pos} {elts:List Expr} {kk:Nat} (hm:X.mg "zip"=none) (ha:GA X W [e,e2] er) (hg:Gl X "zip":=by rfl)
    (hs:starEach [e,e2] X.env=(false,eval e X.env) :: starEach [e2] X.env:=by rfl) (hpl:(backTo pos (starEach [e2] X.env)).any (·.1)=false:=by rfl):
    GI X W (.Tuple elts kk tpos) (.Call (.Name "zip" p) [e,e2] [] pos) (iZip er):=by
  obtain ⟨t,pa,m⟩:=ha
  refine ⟨_,Uc hg hm pa hs hpl,λas F H S ρ σ I R q x h Q hq hx=>?_⟩
  refine m as F H S ρ σ I R _ x h _ (λds S1 bs F1 H1 vs h1 g r=>?_) hx
  obtain ⟨d1,d2,rfl,h1⟩:=A3 h1
  replace h1:oE d1 S1 λ_ xs N1=>oE d2 S1 λ_ ys N2=>q (fS xs ys) (λS=>N1 S∧N2 S) S1:=h1
  obtain ⟨v1,ws,rfl,r1,rn⟩:=r.dG
  obtain ⟨v2,ws,rfl,r2,rn⟩:=rn.dG
  obtain rfl:=rn.dR
  obtain ⟨a,m1,xs,N1,rfl,st1,⟨us1,qs1⟩,h1⟩:=wR g.sit r1 h1
  obtain ⟨b,m2,ys,N2,rfl,st2,⟨us2,qs2⟩,h1⟩:=wR g.sit r2 h1
  exact ⟨m1,m2,a,b,us1,us2,rfl,qs1,qs2,hq _ _ S1 bs F1 H1 _ h1 g (O5 st1 st2)⟩
end RV
end
section
namespace RV
open PySem PySem.Spec PyProof.Rows L2
def G_ (h:Bool) (X:Cx):Prop:=match h with
  | false=>X.calm=true
  | true=>L2H.HotC X
structure yM (h:Bool) (P:Program) (w:World) (K:PySem.W.Frag) (tg:Expr) (J:It) (fp:List Addr) (it:Addr) (tn:Nat->Heap->Prop):Prop where
  obj:∀ i g,tn i g->∀ b∈fp,∃ o,g.get? b=some o∧∀ v,o.data≠.cell v
  keep:∀ i g g',tn i g->(∀ b∈fp,∀ o,g.get? b=some o->g'.get? b=some o)->tn i g'
  item:∀ (X:Cx),X.prog=P->X.w=w->X.K=K->G_ h X->∀ (i:Nat) (pins:List (Addr×Obj)) (s:Shared) (σ:L2.St) (H:Hp) (E:Value->Shared->Prop),Inv X pins σ H s->(∀ b∈fp,FpOk X pins H b)->tn i s.heap->J.go i H->
    wpAny (model P w) X.A (pyNext (.ref it)) (λr s1=>∃ u,r=some u∧wpAny (model P w) X.A (letOwnedTupleGo tg (.ref it) u) (λ_ s2=>∃ x H',Inv X pins σ H' s2∧RelV x u∧J.yld i H x H'∧tn (i+1) s2.heap∧∀ b∈fp,H' b=none) E s1) E s
  done:∀ (X:Cx),X.prog=P->X.w=w->X.K=K->G_ h X->∀ (i:Nat) (pins:List (Addr×Obj)) (s:Shared) (σ:L2.St) (H:Hp) (E:Value->Shared->Prop),Inv X pins σ H s->(∀ b∈fp,FpOk X pins H b)->tn i s.heap->J.stop i H->
    wpAny (model P w) X.A (pyNext (.ref it)) (λr s1=>r=none∧Inv X pins σ H s1) E s
  self:∀ (A:Around) (i:Nat) (s:Shared) (Q:Value->Shared->Prop) (E:Value->Shared->Prop),tn i s.heap->Q (.ref it) s->wpAny (model P w) A (pyIter (.ref it)) Q E s
theorem yM.calm {P:Program} {w:World} {K:PySem.W.Frag} {tg:Expr} {J:It} {fp:List Addr} {it:Addr} {tn:Nat->Heap->Prop} (T:Turn P w K tg J fp it tn):yM false P w K tg J fp it tn:=⟨T.obj,T.keep,T.item,T.done,T.self⟩
theorem yM.hot {P:Program} {w:World} {K:PySem.W.Frag} {tg:Expr} {J:It} {fp:List Addr} {it:Addr} {tn:Nat->Heap->Prop} (T:L2H.TurnH P w K tg J fp it tn):yM true P w K tg J fp it tn:=⟨T.obj,T.keep,T.item,T.done,T.self⟩
def Yr (h:Bool) (X:Cx) (pins:List (Addr×Obj)) (σ:L2.St) (tg:Expr) (R:It->Hp->Prop) (itv:Value) (s2:Shared):Prop:=
  ∃ (it:Addr) (fp:List Addr) (tn:Nat->Heap->Prop) (J:It) (H':Hp),itv=.ref it∧Inv X pins σ H' s2∧yM h X.prog X.w X.K tg J fp it tn∧tn 0 s2.heap∧(∀ b∈fp,FpOk X pins H' b)∧R J H'
structure GF (h:Bool) (X:Cx) (tg iter:Expr) (wi:TI):Prop where
  run:∀ (pins:List (Addr×Obj)) (s:Shared) (σ:L2.St) (H:Hp) (R:It->Hp->Prop),Inv X pins σ H s->wi σ H R->
    wpAny (model X.prog X.w) X.A (eval iter X.env) (λv s1=>wpAny (model X.prog X.w) X.A (pyIter v) (Yr h X pins σ tg R) X.xe s1) X.xe s
theorem GF.calm {X:Cx} {tg iter:Expr} {wi:TI} (p:PI X tg iter wi):GF false X tg iter wi:=by
  refine ⟨λpins s σ H R I hw=>thn (p.run pins s σ H R I hw) λv s1 q=>thn q λitv s2 q=>?_⟩
  obtain ⟨it,fp,tn,J,H',e,I',T,r⟩:=q
  exact ⟨it,fp,tn,J,H',e,I',.calm T,r⟩
theorem GF.hot {X:Cx} {tg iter:Expr} {wi:TI} (p:L2H.PIH X tg iter wi):GF true X tg iter wi:=by
  refine ⟨λpins s σ H R I hw=>thn (p.run pins s σ H R I hw) λv s1 q=>thn q λitv s2 q=>?_⟩
  obtain ⟨it,fp,tn,J,H',e,I',T,r⟩:=q
  exact ⟨it,fp,tn,J,H',e,I',.hot T,r⟩
def u7 (c:Comprehension) (go:Sem Fin) (e:Expr) (d:Nat) (it acc:Value) (env:PySem.Env):Sem Fin:=do
  standAt c.iter.pos
  let r ← pyNext it
  match r with
  | none=>pure (.done .next)
  | some v=>
    letOwnedTupleGo c.target it v
    assign c.target env v
    let ok ← forIn c.ifs true λx r=>if r=true then do let ok ← isTrue x env (eval x env); pure (ForInStep.yield ok) else pure (ForInStep.yield r)
    if ok=true then go
    else again (.compLoop e d it acc env)
def Aa (c:Comprehension) (e:Expr) (d:Nat) (it acc:Value) (env:PySem.Env):Sem Fin:=do
  let x ← eval c.iter env
  standAt c.iter.pos
  let x ← foldedSetIterable c.iter env x
  let i1 ← holding [x] (pyIter x)
  let _ ← runOwn (.compStart e (d+1) i1 acc env) env
  again (.compLoop e d it acc env)
def Ez (em:Sem Unit) (e:Expr) (d:Nat) (it acc:Value) (env:PySem.Env):Sem Fin:=do
  em
  again (.compLoop e d it acc env)
structure Ls (e:Expr) (gens:List Comprehension) (acc:Value) (env:PySem.Env) (em:Sem Unit):Prop where
  cl:clausesOf e=gens
  dl:∀ (prog:Program) (w:World) (A:Around) (d:Nat) (it:Value) (Q:Fin->Shared->Prop) (E:Value->Shared->Prop) (s:Shared),wpAny (model prog w) A ((compTurn e d it acc env).onRaise (λx=>do noteFrame x env; theTreesLotGoes x)) Q E s->wpAny (model prog w) (A.under (.compLoop e d it acc env)) ((model prog w).den (.compLoop e d it acc env)) Q E s
  ds:∀ (prog:Program) (w:World) (A:Around) (d:Nat) (it:Value) (Q:Fin->Shared->Prop) (E:Value->Shared->Prop) (s:Shared),wpAny (model prog w) A ((compStart e d it acc env).onRaise (λx=>do noteFrame x env; standAt theWindowsPlace)) Q E s->wpAny (model prog w) (A.under (.compStart e d it acc env)) ((model prog w).den (.compStart e d it acc env)) Q E s
  last:∀ (d:Nat) (it:Value) (c:Comprehension),gens[d]? =some c->c.is_async=0->gens[d+1]? =none->compTurn e d it acc env=u7 c (Ez em e d it acc env) e d it acc env
  more:∀ (d:Nat) (it:Value) (c c':Comprehension),gens[d]? =some c->c.is_async=0->gens[d+1]? =some c'->c'.is_async=0->compTurn e d it acc env=u7 c (Aa c' e d it acc env) e d it acc env
section
variable {elt k v:Expr} {gens:List Comprehension} {scope:Scope} {pos:Pos} {acc:Value} {env:PySem.Env}
def We (elt:Expr) (acc:Value) (env:PySem.Env):Sem Unit:=do
  let v ← eval elt env
  standAt elt.pos
  let _ ← call (.builtin "set.add") [acc,v]
def Ss (k v:Expr) (d:Addr) (env:PySem.Env):Sem Unit:=do
  let kv ← eval k env
  let vv ← holding [kv] (eval v env)
  standAt {k.pos with endLine:=v.pos.endLine,endCol:=v.pos.endCol}
  holding [kv,vv] (dictSet d kv vv)
theorem Uw:Ls (.SetComp elt gens scope pos) gens acc env (We elt acc env):=by
  refine ⟨rfl,λ_ _ _ _ _ _ _ _ q=>q,λ_ _ _ _ _ _ _ _ q=>q,λd it c h1 h2 h3=>?_,λd it c c' h1 h2 h3 h4=>?_⟩
  · unfold compTurn u7 Ez
    obtain ⟨t,i,f,a⟩:=c
    obtain rfl:a=0:=h2
    simp only [h1,h3]
    rfl
  · unfold compTurn u7 Aa
    obtain ⟨t,i,f,a⟩:=c
    obtain rfl:a=0:=h2
    obtain ⟨t',i',f',a'⟩:=c'
    obtain rfl:a'=0:=h4
    simp only [h1,h3]
    rfl
theorem Rz {D:Addr}:Ls (.DictComp k v gens scope pos) gens (.ref D) env (Ss k v D env):=by
  refine ⟨rfl,λ_ _ _ _ _ _ _ _ q=>q,λ_ _ _ _ _ _ _ _ q=>q,λd it c h1 h2 h3=>?_,λd it c c' h1 h2 h3 h4=>?_⟩
  · unfold compTurn u7 Ez
    obtain ⟨t,i,f,a⟩:=c
    obtain rfl:a=0:=h2
    simp only [h1,h3]
    rfl
  · unfold compTurn u7 Aa
    obtain ⟨t,i,f,a⟩:=c
    obtain rfl:a=0:=h2
    obtain ⟨t',i',f',a'⟩:=c'
    obtain rfl:a'=0:=h4
    simp only [h1,h3]
    rfl
end
structure Bk where
  wi:TI
  g:TG
  tt:TT
  vs:List Nat
def Bs (l:Bk) (inner:L2.St->Hp->(Hp->Prop)->Prop) (J:It) (σ:L2.St) (H1:Hp) (N:Hp->Prop):Prop:=∃ W:Nat->Nat->Hp->Prop,(∃ m,W 0 m H1)∧∀ i m H,W i m H->
  (J.stop i H∧N H)∨(J.go i H∧∃ Nx:Hp->Prop,(∀ H',Nx H'->∃ m',m' < m∧W (i+1) m' H')∧∀ x H',J.yld i H x H'->l.g x (wipe σ l.vs) H' λσ2 H2=>wipe σ2 l.vs=wipe σ l.vs∧l.tt σ2 H2 λb H3=>if b=true then inner σ2 H3 Nx else Nx H3)
def P7 (em:L2.St->Hp->(Hp->Prop)->Prop):List Bk->L2.St->Hp->(Hp->Prop)->Prop
  | []=>em
  | l :: ls=>λσ H N=>l.wi σ H λJ H1=>Bs l (P7 em ls) J σ H1 N
inductive FN (h:Bool) (B:Cx):List Nat->List Comprehension->List Bk->Prop where
  | nil {vs:List Nat}:FN h B vs [] []
  | cons {vs:List Nat} {tg iter:Expr} {ifs:List Expr} {l:Bk} {cs:List Comprehension} {ls:List Bk}:(∀ i∈l.vs,i∈vs)->GF h B tg iter l.wi->PG B tg l.g->PTs B ifs l.tt->(∀ env x,foldedSetIterable iter env x=pure x)->FN h B l.vs cs ls->FN h B vs (⟨tg,iter,ifs,0⟩ :: cs) (l :: ls)
section
variable {h:Bool} {B:Cx} {e:Expr} {acc:Value} {gens:List Comprehension} {em:Sem Unit}
theorem C3 {α:Type} {t:Sem α} {Q Q':α->Shared->Prop} {M:Model} {A:Around} {E:Value->Shared->Prop} {s:Shared} (hx:B.xe=λ_ _=>False) (q:wpAny M A t Q B.xe s) (hq:∀ a s,Q a s->Q' a s):wpAny M A t Q' E s:=
  wpAny_mono q hq λ_ _ z=>by
    rw [hx] at z
    exact z.elim
theorem AJ {pins:List (Addr×Obj)} {σ:L2.St} {H:Hp} {s:Shared} (I:Inv B pins σ H s) (vs:List Nat):Inv B pins (wipe σ vs) H s:=I.weak (wipe_length _ _) λj v e=>(wipe_some e).1
theorem Q7 {σ:L2.St} {us vs:List Nat} (hv:∀ i∈us,i∈vs) (i:Nat) (v:V) (e:(wipe σ vs)[i]? =some (some v)):(wipe σ us)[i]? =some (some v):=by
  obtain ⟨e1,e2⟩:=wipe_some e
  rw [L2.wipe_out λz=>e2 (hv i z)]
  exact e1
def Sf (B:Cx) (pins:List (Addr×Obj)) (σ:L2.St) (N:Hp->Prop):Result->Shared->Prop:=λr s'=>match r with
  | .ok _=>∃ H',Inv B pins σ H' s'∧N H'
  | .error _=>False
theorem Sx {d:Nat} {c:Comprehension} {l:Bk} {inner:L2.St->Hp->(Hp->Prop)->Prop} {K:Value->Sem Fin} (C:Ls e gens acc B.env em) (eqn:∀ it,compTurn e d it acc B.env=u7 c (K it) e d it acc B.env) (hx:B.xe=λ_ _=>False) (rd:G_ h B) (pg:PG B c.target l.g) (pt:PTs B c.ifs l.tt)
    (go:∀ (it:Value) (pins:List (Addr×Obj)) (s:Shared) (σ2:L2.St) (H2:Hp) (N:Hp->Prop),Inv B pins σ2 H2 s->inner σ2 H2 N->wpAny (model B.prog B.w) B.A (K it) (λf s'=>f=.again (.compLoop e d it acc B.env)∧∃ H',Inv B pins (wipe σ2 l.vs) H' s'∧N H') (λ_ _=>False) s)
    {pins:List (Addr×Obj)} {s:Shared} {σ:L2.St} {H:Hp} {it:Addr} {fp:List Addr} {tn:Nat->Heap->Prop} {J:It} {N:Hp->Prop} (I:Inv B pins (wipe σ l.vs) H s) (T:yM h B.prog B.w B.K c.target J fp it tn) (st:tn 0 s.heap) (hf:∀ b∈fp,FpOk B pins H b) (hl:Bs l inner J σ H N):
    codeAny (model B.prog B.w) B.A (.compLoop e d (.ref it) acc B.env) (Sf B pins (wipe σ l.vs) N) s:=by
  obtain ⟨W,⟨m0,w0⟩,turn⟩:=hl
  have sta:=λb (hb:b∈fp)=>(hf b hb).2
  refine codeAny_loop rfl (λn s'=>∃ i H',Inv B pins (wipe σ l.vs) H' s'∧tn i s'.heap∧(∀ b∈fp,H' b=none)∧W i n H') ?_ m0 ⟨0,H,I,st,λb hb=>(hf b hb).1,w0⟩
  rintro n s5 ⟨i,H5,I5,st5,n5,w5⟩
  refine C.dl _ _ _ _ _ _ _ _ (wpAny_noted ?_)
  rw [eqn]
  unfold u7
  refine wpAny_bind (wpAny_standAt (wpAny_bind ?_))
  rcases turn i n H5 w5 with ⟨stop,qq⟩ | ⟨go',Nx,hNx,step⟩
  · refine thnF (T.done B rfl rfl rfl rd i pins s5 _ H5 (λ_ _=>False) I5 (λb hb=>⟨n5 b hb,sta b hb⟩) st5 stop) λr s6 hh=>?_
    obtain ⟨rfl,I6⟩:=hh
    exact wpAny_pure ⟨H5,I6,qq⟩
  · refine thnF (T.item B rfl rfl rfl rd i pins s5 _ H5 (λ_ _=>False) I5 (λb hb=>⟨n5 b hb,sta b hb⟩) st5 go') λr s6 hh=>?_
    obtain ⟨u,rfl,h6⟩:=hh
    refine wpAny_bind (thnF h6 λ_ s7 hh=>?_)
    obtain ⟨x,H7,I7,r7,y7,st7,n7⟩:=hh
    have I7':=I7.pinned (λb hb=>⟨n7 b hb,sta b hb⟩) (T.obj _ _ st7)
    refine wpAny_bind (C3 hx (pg.run _ s7 _ H7 x u _ I7' r7 (step x H7 y7)) λ_ s8 hh=>?_)
    obtain ⟨σ8,H8,I8,hw8,q8⟩:=hh
    refine wpAny_bind (C3 hx (pt.run _ s8 σ8 H8 _ I8 q8) λb s9 hh=>?_)
    obtain ⟨H9,I9,q9⟩:=hh
    have fin:∀ {s':Shared} {H':Hp},Inv B (pins++pinsAt fp s7.heap) (wipe σ8 l.vs) H' s'->Nx H'->∃ m,m < n∧∃ i H',Inv B pins (wipe σ l.vs) H' s'∧tn i s'.heap∧(∀ b∈fp,H' b=none)∧W i m H':=λ{s' H'} I' nx=>by
      obtain ⟨m',hm,w'⟩:=hNx H' nx
      have pin':∀ b∈fp,∀ o,s7.heap.get? b=some o->s'.heap.get? b=some o∧H' b=none:=λb hb o e=>
        let z:=I'.pin (b,o) (List.mem_append_right _ (List.mem_append_right _ (mem_pinsAt hb e)))
        ⟨z.1,z.2.1⟩
      rw [hw8] at I'
      refine ⟨m',hm,i+1,H',I'.unpinned,T.keep _ _ _ st7 λb hb o e=>(pin' b hb o e).1,λb hb=>?_,w'⟩
      obtain ⟨o,e,_⟩:=T.obj _ _ st7 b hb
      exact (pin' b hb o e).2
    cases b with
    | false=>
      simp only [Bool.false_eq_true,if_false] at q9 ⊢
      exact wpAny_pure ⟨rfl,fin (AJ I9 _) q9⟩
    | true=>
      simp only [if_true] at q9 ⊢
      refine thnF (go (.ref it) _ s9 σ8 H9 Nx I9 q9) λf s10 hh=>?_
      obtain ⟨rfl,H10,I10,nx⟩:=hh
      exact ⟨rfl,fin I10 nx⟩
theorem startB {env:PySem.Env} {d:Nat} {c:Comprehension} {it:Value} {prog:Program} {w:World} {A:Around} {R:Result->Shared->Prop} {s:Shared} (C:Ls e gens acc env em) (hg:gens[d]? =some c) (ha:c.is_async=0)
    (h0:codeAny (model prog w) A (.compLoop e d it acc env) R s) (q:wpAny (model prog w) A (pyIter it) (λit' s'=>codeAny (model prog w) A (.compLoop e d it' acc env) R s') (λ_ _=>False) s):
    codeAny (model prog w) A (.compStart e d it acc env) R s:=by
  refine codeAny_of_tree ?_
  refine C.ds _ _ _ _ _ _ _ _ (wpAny_notedAt ?_)
  unfold compStart
  rw [C.cl,hg]
  obtain ⟨t,i,f,a⟩:=c
  obtain rfl:a=0:=ha
  show wpAny _ _ (ask >>= _) _ _ s
  refine wpAny_bind (wpAny_askSetting (wpAny_ite ?_))
  split
  · first
      | exact wpAny_bind (wpAny_pure (wpAny_pure (And.intro rfl h0)))
      | exact wpAny_pure (And.intro rfl h0)
  · have q':=thnF (E:=notedBy (model prog w) A env λx s'=>R (.error x) s') q λ_ _ z=>z
    first
      | exact wpAny_bind (wpAny_rule (wpAny_bind (wpAny_standAt (wpAny_bind (wpAny_mono q' (λit' s' h'=>wpAny_pure (And.intro rfl h')) λ_ _ x=>x)))))
      | (refine wpAny_bind (wpAny_rule ?_); show wpAny _ _ (standAt i.pos >>= _) _ _ s; exact wpAny_bind (wpAny_standAt (wpAny_bind (wpAny_mono q' (λit' s' h'=>wpAny_pure (And.intro rfl h')) λ_ _ x=>x))))
theorem T8 (C:Ls e gens acc B.env em) (hx:B.xe=λ_ _=>False) (rd:G_ h B) {emT:L2.St->Hp->(Hp->Prop)->Prop}
    (hem:∀ (pins:List (Addr×Obj)) (s:Shared) (σ:L2.St) (H:Hp) (N:Hp->Prop),Inv B pins σ H s->emT σ H N->wpAny (model B.prog B.w) B.A em (λ_ s'=>∃ H',Inv B pins σ H' s'∧N H') (λ_ _=>False) s):
    ∀ (cs:List Comprehension) (ls:List Bk) (d:Nat) (c:Comprehension) (l:Bk),FN h B l.vs cs ls->(∀ k,gens[d+k]? =(c :: cs)[k]?)->c.is_async=0->PG B c.target l.g->PTs B c.ifs l.tt->
    ∀ (pins:List (Addr×Obj)) (s:Shared) (σ:L2.St) (H:Hp) (it:Addr) (fp:List Addr) (tn:Nat->Heap->Prop) (J:It) (N:Hp->Prop),Inv B pins (wipe σ l.vs) H s->yM h B.prog B.w B.K c.target J fp it tn->tn 0 s.heap->(∀ b∈fp,FpOk B pins H b)->Bs l (P7 emT ls) J σ H N->
      codeAny (model B.prog B.w) B.A (.compLoop e d (.ref it) acc B.env) (Sf B pins (wipe σ l.vs) N) s:=by
  intro cs
  induction cs with
  | nil=>
    intro ls d c l hl hg ha pg pt pins s σ H it fp tn J N I T st hf ht
    cases hl
    refine Sx (K:=λit=>Ez em e d it acc B.env) C (λit=>C.last d it c (hg 0) ha (hg 1)) hx rd pg pt (λit pins s σ2 H2 N I q=>?_) I T st hf ht
    unfold Ez
    refine wpAny_bind (thnF (hem pins s σ2 H2 N I q) λ_ s' hh=>?_)
    obtain ⟨H',I',n⟩:=hh
    exact wpAny_pure ⟨rfl,H',AJ I' _,n⟩
  | cons c2 cs ih=>
    intro ls d c l hl hg ha pg pt pins s σ H it fp tn J N I T st hf ht
    cases hl with
    | cons hv pi2 pg2 pt2 hs2 hl2=>
      rename_i tg2 iter2 ifs2 l2 ls2
      refine Sx (K:=λit=>Aa ⟨tg2,iter2,ifs2,0⟩ e d it acc B.env) C (λit=>C.more d it c _ (hg 0) ha (hg 1) rfl) hx rd pg pt (λit pins s σ2 H2 N I q=>?_) I T st hf ht
      unfold Aa
      refine wpAny_bind (C3 hx (pi2.run pins s σ2 H2 _ I q) λxv s1 h1=>?_)
      refine wpAny_bind (wpAny_standAt (wpAny_bind (wpAny_of_eq (hs2 _ xv) (wpAny_bind (wpAny_holding (C3 hx h1 λitv s2 h2=>?_))))))
      obtain ⟨it2,fp2,tn2,J2,H3,rfl,I2,T2,st2,f2,ht2⟩:=h2
      refine wpAny_bind (wpAny_runOwn ?_)
      rw [Around.mark_none]
      have lp:=ih ls2 (d+1) ⟨tg2,iter2,ifs2,0⟩ l2 hl2 (λk=>by rw [Nat.add_right_comm]; exact hg (k+1)) rfl pg2 pt2 pins s2 σ2 H3 it2 fp2 tn2 J2 N (AJ I2 _) T2 st2 f2 ht2
      refine codeAny_mono (startB C (hg 1) rfl lp (T2.self B.A 0 _ _ _ st2 lp)) λr s' hr=>?_
      cases r with
      | error e=>exact hr.elim
      | ok f=>
        obtain ⟨H',I',n⟩:=hr
        have I'':Inv B pins (wipe σ2 l.vs) H' s':=I'.weak (by rw [wipe_length,wipe_length]) λj v e=>Q7 hv j v e
        first
          | exact wpAny_pure ⟨rfl,H',I'',n⟩
          | exact wpAny_bind (wpAny_pure (wpAny_pure ⟨rfl,H',I'',n⟩))
end
end RV
end
section
namespace RV
open PySem PySem.Spec PyProof.Rows L2
abbrev lu (h:Bool) (X:Cx) (s:Shared) (H:Hp) (scope:Scope) (cenv:PySem.Env) (fp:List Addr):Cx:={X.blk s H scope cenv fp with pn:=match h with | false=>[] | true=>X.pn}
section
variable {h:Bool} {X:Cx} {pins:List (Addr×Obj)} {σ:L2.St} {H:Hp} {s:Shared}
theorem NP {scope:Scope} {cenv:PySem.Env} {fp:List Addr} {σ':L2.St} {s':Shared} (I:Inv X pins σ H s) (J:Inv (X.blk s H scope cenv fp) [] σ' H s') (kp:∀ b o,s.heap.get? b=some o->s'.heap.get? b=some o) (hl:cenv.locals=s.heap.objs.size):Inv (lu h X s H scope cenv fp) [] σ' H s':=by
  cases h
  · exact J
  · refine ⟨⟨J.ok.mod,J.ok.kind,J.ok.glob,J.ok.blt,J.ok.above,J.ok.inj,J.ok.has,J.ok.cab,J.ok.hd,J.ok.frames,J.ok.stk,J.ok.exf,J.ok.bs,J.ok.bsz,J.ok.noex,J.ok.exfs,J.ok.funs,J.ok.frf⟩,J.os,J.bare,J.base,J.loc,J.cell,J.free,J.freeC,λp hp=>?_,J.hok,J.len⟩
    have hp':p∈X.pn:=by
      rcases List.mem_append.mp hp with z | z
      · exact z
      · cases z
    obtain ⟨z1,z2,z3,z4,z5⟩:=I.pin p (List.mem_append_left _ hp')
    refine ⟨kp _ _ z1,z2,λe=>?_,λe=>?_,z5⟩
    · have lt:=Heap.lt_size z1
      have e':p.1=cenv.locals:=e
      rw [e',hl] at lt
      exact Nat.lt_irrefl _ lt
    · rcases List.mem_cons.mp (I.stkSub p.1 e) with q | q
      · exact z3 q
      · exact z4 q
theorem S_ {scope:Scope} {cenv:PySem.Env} {fp:List Addr} (r:G_ h X):G_ h (lu h X s H scope cenv fp):=by
  cases h
  · exact r
  · obtain ⟨p,hot,hp⟩:=r
    exact ⟨p,hot,hp⟩
theorem HC {e:Expr} {c:Comprehension} {cs:List Comprehension} {l:Bk} {ls:List Bk} {scope:Scope} {own:List (Str×Nat)} {pos':Pos} {use:Option (Value->Sem Unit)} {Qf:Value->Shared->Prop} {Q:VK} {em:Addr->PySem.Env->Sem Unit} {emT:Addr->L2.St->Hp->(Hp->Prop)->Prop} {o0:Obj} {ob0:Addr->HO} {newAcc:Sem Value}
    (C:∀ D env,Ls e (c :: cs) (.ref D) env (em D env)) (ha:c.is_async=0)
    (hnew:∀ {E:Value->Shared->Prop} {Q':Value->Shared->Prop} {s:Shared},Q' (.ref s.heap.objs.size) {s with heap:=s.heap.push o0}->wpAny (model X.prog X.w) X.A newAcc Q' E s)
    (hob:∀ {pins:List (Addr×Obj)} {σ:L2.St} {H:Hp} {s:Shared},Inv X pins σ H s->ObjOk X.prog X.w (upd H s.heap.objs.size (ob0 s.heap.objs.size)) (s.heap.push o0) s.heap.objs.size (ob0 s.heap.objs.size))
    (rd:G_ h X) (hN:X.N.Nodup) (I:Inv X pins σ H s) (hi:GF h X c.target c.iter l.wi) (ok:BlkOk X.N X.env.scope scope own) (hv:l.vs=own.map (·.2))
    (blk:∀ (s:Shared) (H:Hp) (C:Addr) (cl:List (Str×Addr)) (fp:List Addr),PG (lu h X s H scope (compEnvC scope cl C X.env) fp) c.target l.g∧PTs (lu h X s H scope (compEnvC scope cl C X.env) fp) c.ifs l.tt∧FN h (lu h X s H scope (compEnvC scope cl C X.env) fp) l.vs cs ls∧
      ∀ (D:Addr) (pins:List (Addr×Obj)) (s':Shared) (σ:L2.St) (H':Hp) (N:Hp->Prop),Inv (lu h X s H scope (compEnvC scope cl C X.env) fp) pins σ H' s'->emT D σ H' N->wpAny (model X.prog X.w) X.A (em D (compEnvC scope cl C X.env)) (λ_ s2=>∃ H2,Inv (lu h X s H scope (compEnvC scope cl C X.env) fp) pins σ H2 s2∧N H2) (λ_ _=>False) s')
    (hs:∀ x,foldedSetIterable c.iter X.env x=pure x)
    (hw:l.wi σ H λJ H1=>∀ D,H1 D=none->Bs l (P7 (emT D) ls) J σ (upd H1 D (ob0 D)) (λH'=>Q (.ref D) H'))
    (hRR:∀ D C s' m H',Inv X pins σ H' s'->Q (.ref D) H'->s'.heap.Ns C m->FpOk X pins H' C->compPost (model X.prog X.w) X.A X.xe use Qf (.ref D) C (.ok .next) s'):
    wpAny (model X.prog X.w) X.A (comprehension e scope X.env pos' newAcc false (eval c.iter X.env) use) Qf X.xe s:=by
  have hfree:∀ y∈scope.names,y.2=.free->∃ c,X.env.cells.lookup y.1=some c:=λy hy e=>(ok.free y hy e).elim (λk=>I.ok.has _ (.inl k)) λk=>I.ok.has _ (.inr k)
  refine wpAny_comprehension_free (use:=use) (C 0 X.env).cl hs (closure_ok hfree) ok.kind (λy hy e=>by rw [ok.uniq y hy,e]) (thn (hi.run pins s σ H _ I hw) λxv s1 hx=>thn hx λitv s2 h2=>?_)
  obtain ⟨it,fp,tn,J,H2,rfl,I2,T,st2,f2,q⟩:=h2
  refine hnew (newEnv_comp ?_)
  have ob:=hob I2
  generalize hD:s2.heap.objs.size=D at ob ⊢
  have hDn:H2 D=none:=I2.hok.fresh (Nat.le_of_eq hD)
  have hl:=q D hDn
  generalize hs3:({s2 with heap:=s2.heap.push o0}:Shared)=s3
  have I3:Inv X pins σ (upd H2 D (ob0 D)) s3:=by
    rw [← hs3]
    exact I2.laid (t':=s2.toks) (λb o e=>Heap.get?_push_of_some _ e) (Nat.le_of_eq hD) ob
  have h3:s3.heap=s2.heap.push o0:=by rw [← hs3]
  have f3:∀ b∈fp,FpOk X pins (upd H2 D (ob0 D)) b∧b < s3.heap.objs.size:=λb hb=>by
    obtain ⟨o,e,_⟩:=T.obj _ _ st2 b hb
    have hlt:=Heap.lt_size e
    refine ⟨⟨?_,(f2 b hb).2⟩,by rw [h3,Heap.size_push]; exact Nat.lt_succ_of_lt hlt⟩
    rw [upd_ne (by rw [← hD]; exact Nat.ne_of_lt hlt)]
    exact (f2 b hb).1
  have st3:tn 0 s3.heap:=T.keep _ _ _ st2 λb _ o e=>by rw [h3]; exact Heap.get?_push_of_some _ e
  have I4:=block_start I3 ok hN f3
  obtain ⟨pg,pt,lv,pe⟩:=blk s3 (upd H2 D (ob0 D)) s3.heap.objs.size (cellsFrom (s3.heap.objs.size+1) scope.names (cloFrom X.env.cells scope.names [])) fp
  show codeAny _ _ (.compStart e 0 (.ref it) (.ref D) (compEnvC scope (cellsFrom (s3.heap.objs.size+1) scope.names (cloFrom X.env.cells scope.names [])) s3.heap.objs.size X.env)) (compPost (model X.prog X.w) X.A X.xe use Qf (.ref D) s3.heap.objs.size) {s3 with heap:=pushCells (s3.heap.push {cls:=.type "dict",data:=.dict #[]}) scope.names}
  have I5:=NP (h:=h) I3 I4 (λb o e=>pushCells_keeps _ _ _ _ (Heap.get?_push_of_some _ e)) rfl
  generalize hce:compEnvC scope (cellsFrom (s3.heap.objs.size+1) scope.names (cloFrom X.env.cells scope.names [])) s3.heap.objs.size X.env=ce at I4 I5 pg pt lv pe ⊢
  have cL:ce.locals=s3.heap.objs.size:=by subst hce; rfl
  generalize hs4:({s3 with heap:=pushCells (s3.heap.push {cls:=.type "dict",data:=.dict #[]}) scope.names}:Shared)=s4 at I4 I5 ⊢
  have st4:tn 0 s4.heap:=T.keep _ _ _ st3 λb _ o e=>by rw [← hs4]; exact pushCells_keeps _ _ _ _ (Heap.get?_push_of_some _ e)
  rw [← hv] at I5
  have f5:∀ b∈fp,FpOk (lu h X s3 (upd H2 D (ob0 D)) scope ce fp) [] (upd H2 D (ob0 D)) b:=λb hb=>by
    refine ⟨(f3 b hb).1.1,(I4.ok.exf b hb).1,I4.ok.exfs b hb,.inl hb,λx c e=>(I4.ok.exf b hb).2 x c e,λp hp=>?_⟩
    rcases List.mem_append.mp hp with z | z
    · cases h
      · cases z
      · exact (f3 b hb).1.2.2.2.2.2 p (List.mem_append_left _ z)
    · cases z
  have lp:=T8 (B:=lu h X s3 (upd H2 D (ob0 D)) scope ce fp) (C D ce) rfl (S_ rd) (pe D) cs ls 0 c l lv (λk=>by rw [Nat.zero_add]) ha pg pt [] s4 σ (upd H2 D (ob0 D)) it fp tn J _ I5 T st4 f5 hl
  have lp':codeAny (model X.prog X.w) X.A (.compLoop e 0 (.ref it) (.ref D) ce) (compPost (model X.prog X.w) X.A X.xe use Qf (.ref D) s3.heap.objs.size) s4:=by
    refine codeAny_mono lp λr s' hr=>?_
    cases r with
    | error x=>exact hr.elim
    | ok f=>
      obtain ⟨H6,I6,qq⟩:=hr
      have I7:Inv X pins σ H6 s':=I3.call' (ch:=fp) I6.os I6.base I6.hok I6.bare λb hb=>⟨(f3 b hb).1.2.2.2.1,(f3 b hb).1.2.1,(f3 b hb).1.2.2.2.2.1,(f3 b hb).1.2.2.2.2.2⟩
      have nC:H6 s3.heap.objs.size=none:=by
        have z:H6 ce.locals=none:=I6.free
        rw [cL] at z
        exact z
      obtain ⟨m,hn,_⟩:=I6.loc
      have hn:s'.heap.Ns ce.locals m:=hn
      rw [cL] at hn
      have z:=hRR D s3.heap.objs.size s' m H6 I7 qq hn (I3.fpOk (Nat.le_refl _) nC)
      unfold compPost at z ⊢
      cases use <;> exact z
  exact startB (C D ce) rfl ha lp' (T.self X.A 0 _ _ _ st4 lp')
theorem Kn {Q:VK} {D C:Addr} {s':Shared} {m:Str->Option Value} {H':Hp} (I':Inv X pins σ H' s') (q:Q (.ref D) H') (hn:s'.heap.Ns C m) (f:FpOk X pins H' C):compPost (model X.prog X.w) X.A X.xe none (EP X pins σ Q) (.ref D) C (.ok .next) s':=by
  refine ⟨m,hn,λh'' sb=>?_⟩
  obtain ⟨f0,f1,f2,f3,f4,f5⟩:=f
  exact ⟨.ref D,H',I'.turned (t':=s'.toks) (λb o hb e=>(sb.2 b hb).trans e) f0 f1 f3 f4 f5,rfl,q⟩
end
end RV
end
section
namespace RV
open PySem PySem.Spec PyProof.Rows L2
structure jc where
  mi:RV.Env->MW
  f:D->RV.Env->Option RV.Env
  mc:RV.Env->MB
  us:List Nat
  vs:List Nat
def kO {α:Type} (N:WS->Prop) (l:jc) (inner:RV.Env->WS->α->(α->WS->Prop)->Prop) (ρ:RV.Env):List D->WS->α->(α->WS->Prop)->Prop
  | [],S,a,q=>N S∧q a S
  | d :: ds,S,a,q=>N S∧gx (l.f d (nS ρ l.vs)) λρ1=>l.mc ρ1 S (λb S1=>oR b (inner ρ1 S1 a λa' S2=>kO N l inner ρ ds S2 a' q) (kO N l inner ρ ds S1 a q)) nj
def Ax {α:Type} (em:RV.Env->WS->α->(α->WS->Prop)->Prop):List jc->RV.Env->WS->α->(α->WS->Prop)->Prop
  | [],ρ,S,a,q=>em ρ S a q
  | l :: ls,ρ,S,a,q=>l.mi ρ S (λds N S1=>kO N l (Ax em ls) ρ ds S1 a q) nj
theorem TM {α:Type} {N:WS->Prop} {l:jc} {inner:RV.Env->WS->α->(α->WS->Prop)->Prop} {ρ:RV.Env} {ds:List D} {S:WS} {a:α} {q:α->WS->Prop} (h:kO N l inner ρ ds S a q):N S:=by
  cases ds with
  | nil=>exact h.1
  | cons d ds=>exact h.1
def Yl (K:PySem.W.Frag) (m:RV.Env->MW):TI:=λσ H R=>∃ (as:List Addr) (F:Hp) (S:WS) (ρ:RV.Env) (q:List D->(WS->Prop)->WS->Prop),bU K as F H S∧fT K as F ρ σ∧m ρ S q nj∧∀ ds N S' bs F' H' J,q ds N S'->aW K as F H bs F' H' S'->Walks K J bs F' ds N->R J H'
def jc.lv (K:PySem.W.Frag) (d:jc):Bk:=⟨Yl K d.mi,Pp K d.us d.f,Ll K d.mc,d.vs⟩
structure Sl (h:Bool) (X:Cx) (W:WX) (tg iter:Expr) (m:RV.Env->MW):Prop where
  ex:∃ wi,GF h X tg iter wi∧MI X.K W wi m
theorem GI.g {X:Cx} {W:WX} {tg iter:Expr} {m:RV.Env->MW} (g:GI X W tg iter m):Sl false X W tg iter m:=by
  obtain ⟨wi,p,m⟩:=g
  exact ⟨wi,.calm p,m⟩
theorem Sl.canon {h:Bool} {X:Cx} {tg iter:Expr} {m:RV.Env->MW} (g:Sl h X WF tg iter m):GF h X tg iter (Yl X.K m):=by
  obtain ⟨t,p,m⟩:=g
  refine ⟨λpins s σ H R I w=>?_⟩
  obtain ⟨as,F,S,ρ,q,I',Rr,hm,hq⟩:=w
  exact p.run pins s σ H R I (m as F H S ρ σ I' Rr q nj hm R hq XQ.no)
section
variable {K:PySem.W.Frag} {as:List Addr} {F0 H0:Hp} {D0:Addr} {α:Type} {AR:List Addr->Hp->HO->α->Prop}
structure Pt (K:PySem.W.Frag) (as:List Addr) (F0 H0:Hp) (D0:Addr) (AR:List Addr->Hp->HO->α->Prop) (bs:List Addr) (F1 H1:Hp) (S1:WS) (a:α):Prop where
  g:aW K as F0 H0 bs F1 H1 S1
  f:F1 D0=none
  b:D0∉bs
  at_:∃ o,H1 D0=some o∧AR bs F1 o a
def Ph (AR:List Addr->Hp->HO->α->Prop):Prop:=∀ bs cs F G o a,Ex F G->Pre bs cs->AR bs F o a->AR cs G o a
theorem Pt.step {bs cs:List Addr} {F1 H1 F2 H2:Hp} {S1 S2:WS} {a:α} (m:Ph AR) (p:Pt K as F0 H0 D0 AR bs F1 H1 S1 a) (g:aW K bs F1 H1 cs F2 H2 S2):Pt K as F0 H0 D0 AR cs F2 H2 S2 a:=by
  obtain ⟨o,e,r⟩:=p.at_
  obtain ⟨f4,b4,e4⟩:=AE (o':=o) g e p.f p.b
  exact ⟨p.g.trans g,f4,b4,o,e4,m _ _ _ _ _ _ g.ex g.pre r⟩
theorem Pt.put {bs:List Addr} {F1 H1:Hp} {S1:WS} {a a':α} {o:HO} (h0:H0 D0=none) (p:Pt K as F0 H0 D0 AR bs F1 H1 S1 a) (r:AR bs F1 o a'):Pt K as F0 H0 D0 AR bs F1 (upd H1 D0 o) S1 a':=
  ⟨⟨p.g.sit.other p.f p.b,p.g.pre,p.g.ex,p.g.new,p.g.newc,λa o ha h=>by
    rw [upd_ne (ne_of_none h h0)]
    exact p.g.old a o ha h,λa h=>iO (p.g.there a h)⟩,p.f,p.b,o,upd_same,r⟩
def MD (K:PySem.W.Frag) (as:List Addr) (F0 H0:Hp) (D0:Addr) (AR:List Addr->Hp->HO->α->Prop) (inner:RV.Env->WS->α->(α->WS->Prop)->Prop) (innerT:L2.St->Hp->(Hp->Prop)->Prop):Prop:=
  ∀ (ρ:RV.Env) (σ:L2.St) (bs:List Addr) (F1 H1:Hp) (S1:WS) (a:α) (q:α->WS->Prop) (N:Hp->Prop),Pt K as F0 H0 D0 AR bs F1 H1 S1 a->fT K bs F1 ρ σ->inner ρ S1 a q->
    (∀ a' S' cs F' H',q a' S'->Pt K as F0 H0 D0 AR cs F' H' S' a'->Ex F1 F'->Pre bs cs->N H')->innerT σ H1 N
theorem Mx {l:jc} {inner:RV.Env->WS->α->(α->WS->Prop)->Prop} {innerT:L2.St->Hp->(Hp->Prop)->Prop} (m:Ph AR) (hs:∀ x∈l.us,x∈l.vs) (hin:MD K as F0 H0 D0 AR inner innerT)
    {ρ:RV.Env} {σ:L2.St} {bs:List Addr} {F1 H1:Hp} {S1:WS} {a:α} {q:α->WS->Prop} {N:Hp->Prop} {ds:List D} {N0:WS->Prop} {J:It} (wk:∀ i,(i < ds.length->∀ cs F2 H2 S2,bU K cs F2 H2 S2->Ex F1 F2->Pre bs cs->N0 S2->J.go i H2))
    (wk1:∀ cs F2 H2 S2,bU K cs F2 H2 S2->Ex F1 F2->Pre bs cs->N0 S2->J.stop ds.length H2) (wk2:∀ (i:Nat) (d:D),ds[i]? =some d->∀ cs F2 H2 S2,bU K cs F2 H2 S2->Ex F1 F2->Pre bs cs->N0 S2->∀ x H',J.yld i H2 x H'->∃ F',aW K cs F2 H2 cs F' H' S2∧Rp K cs F' d x)
    (p:Pt K as F0 H0 D0 AR bs F1 H1 S1 a) (R:fT K bs F1 ρ σ) (e:kO N0 l inner ρ ds S1 a q) (hN:∀ a' S' cs F' H',q a' S'->Pt K as F0 H0 D0 AR cs F' H' S' a'->Ex F1 F'->Pre bs cs->N H'):Bs (l.lv K) innerT J σ H1 N:=by
  refine ⟨λi k H=>k=ds.length - i∧i≤ds.length∧∃ cs F2 S2 a2,Pt K as F0 H0 D0 AR cs F2 H S2 a2∧Ex F1 F2∧Pre bs cs∧kO N0 l inner ρ (ds.drop i) S2 a2 q,⟨ds.length,by simp,Nat.zero_le _,bs,F1,S1,a,p,Ex.refl _,Pre.refl _,by simpa using e⟩,?_⟩
  rintro i k H ⟨rfl,hle,cs,F2,S2,a2,p2,e2,r2,h2⟩
  have hN0:=TM h2
  by_cases hlt:i < ds.length
  · refine .inr ⟨wk i hlt cs F2 H S2 p2.g.sit e2 r2 hN0,λH'=>∃ m',m' < ds.length - i∧m'=ds.length - (i+1)∧i+1≤ds.length∧∃ cs F2 S2 a2,Pt K as F0 H0 D0 AR cs F2 H' S2 a2∧Ex F1 F2∧Pre bs cs∧kO N0 l inner ρ (ds.drop (i+1)) S2 a2 q,λH' n=>?_,λx H' y=>?_⟩
    · obtain ⟨m',n1,n2,n3,n4⟩:=n
      exact ⟨m',n1,n2,n3,n4⟩
    · have hd:ds[i]? =some ds[i]:=List.getElem?_eq_getElem hlt
      obtain ⟨F3,g3,rx⟩:=wk2 i ds[i] hd cs F2 H S2 p2.g.sit e2 r2 hN0 x H' y
      rw [List.drop_eq_getElem_cons hlt] at h2
      obtain ⟨ρ2,hf,hm⟩:=bT h2.2
      have p3:=p2.step m g3
      have e3:=e2.trans g3.ex
      have RW:fT K cs F3 (nS ρ l.vs) (wipe σ l.vs):=(R.mono e3 r2).wipe l.vs
      refine ⟨cs,F3,S2,nS ρ l.vs,ds[i],ρ2,g3.sit,RW,rx,hf,λσ2 A2 R2=>⟨Jy A2 hs,?_⟩⟩
      refine ⟨cs,F3,S2,ρ2,_,g3.sit,R2,hm,λpb S4 es F4 H4 h4 g4=>?_⟩
      have p4:=p3.step m g4
      have e4:=e3.trans g4.ex
      have r4:=r2.trans g4.pre
      cases pb with
      | true=>exact hin ρ2 σ2 es F4 H4 S4 a2 _ _ p4 (R2.grow g4) h4 λa' S' es' F' H' hq p' ex pr=>⟨_,by omega,rfl,hlt,es',F',S',a',p',e4.trans ex,r4.trans pr,hq⟩
      | false=>exact ⟨_,by omega,rfl,hlt,es,F4,S4,a2,p4,e4,r4,h4⟩
  · have hi:i=ds.length:=by omega
    subst hi
    rw [List.drop_length] at h2
    exact .inl ⟨wk1 cs F2 H S2 p2.g.sit e2 r2 hN0,hN a2 S2 cs F2 H h2.2 p2 e2 r2⟩
theorem SA {em:RV.Env->WS->α->(α->WS->Prop)->Prop} {emT:L2.St->Hp->(Hp->Prop)->Prop} (m:Ph AR) (he:MD K as F0 H0 D0 AR em emT):∀ ls:List jc,(∀ l∈ls,∀ x∈l.us,x∈l.vs)->MD K as F0 H0 D0 AR (Ax em ls) (P7 emT (ls.map (jc.lv K)))
  | [],_=>he
  | l :: ls,hs=>λρ σ bs F1 H1 S1 a q N p R e hN=>by
    refine ⟨bs,F1,S1,ρ,_,p.g.sit,R,e,λds N0 S2 cs F2 H2 J h2 g2 wk=>?_⟩
    exact Mx m (hs l (List.mem_cons_self ..)) (SA m he ls λl hl=>hs l (List.mem_cons_of_mem _ hl)) (λi hi=>wk.go i hi) wk.stop (λi d hd=>wk.yld i d hd) (p.step m g2) (R.grow g2) h2 λa' S' es F' H' hq p' ex pr=>hN a' S' es F' H' hq p' (g2.ex.trans ex) (g2.pre.trans pr)
end
def subB (us vs:List Nat):Bool:=us.all λx=>vs.contains x
theorem BI {us vs:List Nat} (h:subB us vs=true):∀ x∈us,x∈vs:=λx hx=>by
  have:=List.all_eq_true.mp h x hx
  simpa using this
theorem LY {ls:List jc} (h:(ls.all λl=>subB l.us l.vs)=true):∀ l∈ls,∀ x∈l.us,x∈l.vs:=λl hl=>BI (List.all_eq_true.mp h l hl)
inductive Fe (h:Bool) (B:Cx):List Nat->List Comprehension->List jc->Prop where
  | nil {vs:List Nat}:Fe h B vs [] []
  | cons {vs:List Nat} {tg iter:Expr} {ifs:List Expr} {l:jc} {cs:List Comprehension} {ls:List jc} (hv:subB l.vs vs=true) (hi:Sl h B WF tg iter l.mi) (hg:GG B tg l.us l.f) (ht:Ma B ifs l.mc) (hs:∀ env x,foldedSetIterable iter env x=pure x) (r:Fe h B l.vs cs ls):Fe h B vs (⟨tg,iter,ifs,0⟩ :: cs) (l :: ls)
theorem Fe.lv {h:Bool} {B:Cx}:∀ {vs:List Nat} {cs:List Comprehension} {ls:List jc},Fe h B vs cs ls->FN h B vs cs (ls.map (jc.lv B.K))
  | _,_,_,.nil=>.nil
  | _,_,_,.cons hv hi hg ht hs r=>.cons (l:=jc.lv B.K _) (BI hv) hi.canon hg.canon ht.ex hs r.lv
end RV
end
section
namespace RV
open PySem PySem.Spec PyProof.Rows L2
section
variable {X:Cx} {W:WX} {h:Bool}
def OY {α:Type} (K:PySem.W.Frag) (wi:TI) (l0:jc) (ls:List jc) (emT:Addr->L2.St->Hp->(Hp->Prop)->Prop) (ob0:Addr->HO):TE:=λσ H Q=>wi σ H λJ H1=>∀ D,H1 D=none->Bs (l0.lv K) (P7 (emT D) (ls.map (jc.lv K))) J σ (upd H1 D (ob0 D)) (λH'=>Q (.ref D) H')
theorem Mb {α:Type} {K:PySem.W.Frag} {wi:TI} {l0:jc} {ls:List jc} {em:RV.Env->WS->α->(α->WS->Prop)->Prop} {emT:Addr->L2.St->Hp->(Hp->Prop)->Prop} {ob0:Addr->HO} {AR:Addr->List Addr->Hp->HO->α->Prop} {a0:α} (hi:MI K W wi l0.mi) (m:∀ D,Ph (AR D)) (h0:∀ D bs F,AR D bs F (ob0 D) a0)
    (he:∀ as F0 H0 D,H0 D=none->MD K as F0 H0 D (AR D) em (emT D)) (hs0:∀ x∈l0.us,x∈l0.vs) (hsl:∀ l∈ls,∀ x∈l.us,x∈l.vs) {as:List Addr} {F H:Hp} {S:WS} {ρ:RV.Env} {σ:L2.St} (I:bU K as F H S) (R:fT K as F ρ σ) {q1:α->WS->Prop} {x:Xq}
    (e:l0.mi ρ S (λds N S1=>kO N l0 (Ax em ls) ρ ds S1 a0 q1) x) (hx:XQ K as F H x (WE W σ)) {Qf:VK}
    (hq:∀ D bs F1 H1 S1 cs F' H' S' a',aW K as F H bs F1 H1 S1->H1 D=none->Pt K bs F1 H1 D (AR D) cs F' H' S' a'->q1 a' S'->Qf (.ref D) H'):OY (α:=α) K wi l0 ls emT ob0 σ H Qf:=by
  refine hi as F H S ρ σ I R _ x e _ (λds N S1 bs F1 H1 J h1 g1 wk D hD=>?_) hx
  have fD:F1 D=none:=g1.sit.out hD
  have aD:D∉bs:=λz=>g1.sit.there z hD
  have p:Pt K bs F1 H1 D (AR D) bs F1 (upd H1 D (ob0 D)) S1 a0:=⟨⟨g1.sit.other fD aD,Pre.refl _,Ex.refl _,λ_ h=>.inl h,λ_ h=>.inl h,λa o _ h=>by rw [upd_ne (ne_of_none h hD)]; exact h,λa h=>iO h⟩,fD,aD,_,upd_same,h0 D bs F1⟩
  exact Mx (m D) hs0 (SA (m D) (he bs F1 H1 D hD) ls hsl) (λi hi=>wk.go i hi) wk.stop (λi d hd=>wk.yld i d hd) p (R.grow g1) h1 λa' S' cs F' H' hq1 p' _ _=>hq D bs F1 H1 S1 cs F' H' S' a' g1 hD p' hq1
structure NS (h:Bool) (X:Cx) (scope:Scope) (own:List (Str×Nat)) (tg:Expr) (ifs:List Expr) (cs:List Comprehension) (l0:jc) (ls:List jc):Prop where
  g:∀ (s:Shared) (H:Hp) (C:Addr) (cl:List (Str×Addr)) (fp:List Addr),GG (lu h X s H scope (compEnvC scope cl C X.env) fp) tg l0.us l0.f
  t:∀ (s:Shared) (H:Hp) (C:Addr) (cl:List (Str×Addr)) (fp:List Addr),Ma (lu h X s H scope (compEnvC scope cl C X.env) fp) ifs l0.mc
  r:∀ (s:Shared) (H:Hp) (C:Addr) (cl:List (Str×Addr)) (fp:List Addr),Fe h (lu h X s H scope (compEnvC scope cl C X.env) fp) l0.vs cs ls
theorem QF {pins:List (Addr×Obj)} {σ:L2.St} {H:Hp} {s:Shared} {E:Value->Shared->Prop} {D:Addr} {T:List Str} {k:Str} {u:Value} {Q:Value->Shared->Prop} (I:Inv X pins σ H s) (hD:H D=some (CC X.w D T)) (room:T.length+1 < scanBound) (r:RelV (.str k) u)
    (q:∀ s',Inv X pins σ (upd H D (CC X.w D (k :: T))) s'->Q .none s'):wpAny (model X.prog X.w) X.A (call (.builtin "set.add") [.ref D,u]) Q E s:=by
  have R:nU X.w s.heap D T:=(I.hok D _ hD).1
  obtain ⟨tk,rfl⟩:=r
  have hT:s.TypeIs (.ref D) "set":=by
    obtain ⟨o,_,_,_,ho,hx,_⟩:=R
    exact ⟨o,ho,hx.1⟩
  refine wpAny_call_entry F.slot_set_add hT F.entry_set_add ?_ (F.args_set_add_2 _ _)
  unfold Builtin.«set.add» Builtin.Frozenset.oneOther
  simp only [List.isEmpty_nil,bind_assoc]
  unfold Builtin.Frozenset.addrOf setAdd
  refine wpAny_bind (wpAny_pure ?_)
  try dsimp only
  refine wpAny_bind (wpAny_pure ?_)
  try dsimp only
  refine wpAny_bind (wpAny_holding (wpAny_bind ((PySem.strKind X.prog X.w).pyHash (k:=k) (strKind_is _ _ _ _) ?_)))
  refine Vn (s:={s with toks:=s.toks+1}) R room λb g sb new=>?_
  have he:∃ u,g.get? D=some u:=by
    obtain ⟨o,_,_,_,ho,_⟩:=new
    exact ⟨o,ho⟩
  show wpAny _ _ (ret Value.none) _ _ _
  exact wpAny_pure ⟨_,rfl,q _ (I.write (e:=D) (t':=s.toks+1) (by rw [hD]; trivial) (.inl rfl) (λb u hb hu=>(sb.2 b hb).trans hu) he (Mh new))⟩
def Kr (me:RV.Env->M):RV.Env->WS->List Str->(List Str->WS->Prop)->Prop:=λρ S T q=>me ρ S (λd S1=>Kh d λk=>decide (T.length < 1000)=true∧q (k :: T) S1) nj
def Og (w:World) (te:TE):Addr->L2.St->Hp->(Hp->Prop)->Prop:=λD σ H N=>te σ H λy H'=>∃ k T,y=.str k∧H' D=some (CC w D T)∧T.length+1 < scanBound∧N (upd H' D (CC w D (k :: T)))
def Yh (w:World) (D:Addr):List Addr->Hp->HO->List Str->Prop:=λ_ _ o T=>o=CC w D T
theorem QC {n:Nat} (h:decide (n < 1000)=true):n+1 < scanBound:=Nat.lt_trans (Nat.succ_lt_succ (of_decide_eq_true h)) (by decide)
theorem W9 {w:World} {K:PySem.W.Frag} {me:RV.Env->M} {as:List Addr} {F0 H0:Hp} {D:Addr} (h0:H0 D=none):MD K as F0 H0 D (Yh w D) (Kr me) (Og w (sj K me) D):=λρ σ bs F1 H1 S1 a q N p R e hN=>by
  refine ⟨bs,F1,S1,ρ,_,p.g.sit,R,e,λd S2 cs F2 H2 v h2 g2 r2=>?_⟩
  obtain ⟨k,rfl,h2⟩:=WJ h2
  cases r2
  have p2:=p.step (λ_ _ _ _ _ _ _ _ r=>r) g2
  obtain ⟨o,e2,rfl⟩:=p2.at_
  exact ⟨k,a,rfl,e2,QC h2.1,hN (k :: a) S2 cs F2 _ h2.2 (p2.put h0 rfl) g2.ex g2.pre⟩
def F9 (l0:jc) (ls:List jc) (me:RV.Env->M):RV.Env->M:=λρ S q x=>l0.mi ρ S (λds N S1=>kO N l0 (Ax (Kr me) ls) ρ ds S1 [] λT S2=>decide ((pF T).length < 64)=true∧q (.lst ((pF T).map D.str)) S2) x
theorem Qs {elt tg iter:Expr} {ifs:List Expr} {cs:List Comprehension} {scope:Scope} {own:List (Str×Nat)} {l0:jc} {ls:List jc} {me:RV.Env->M} {p1 p3 p4:Pos} (hc:X.calm=true) (n1:X.mg "sorted"=none) (hN:X.N.Nodup) (hi:GI X W tg iter l0.mi) (ok:BlkOk X.N X.env.scope scope own) (hv:l0.vs=own.map (·.2)) (b:NS false X scope own tg ifs cs l0 ls)
    (be:∀ (s:Shared) (H:Hp) (C:Addr) (cl:List (Str×Addr)) (fp:List Addr),GE (lu false X s H scope (compEnvC scope cl C X.env) fp) WF elt me) (hs0:subB l0.us l0.vs=true:=by rfl) (hsl:(ls.all λl=>subB l.us l.vs)=true:=by rfl) (hs:∀ (x:Value),foldedSetIterable iter X.env x=pure x:=by intro _; rfl) (g1:Gl X "sorted":=by rfl)
    (s3:starEach [.SetComp elt (⟨tg,iter,ifs,0⟩ :: cs) scope p3] X.env=(false,eval (.SetComp elt (⟨tg,iter,ifs,0⟩ :: cs) scope p3) X.env) :: starEach [] X.env:=by rfl) (s4:(backTo p4 (starEach [] X.env)).any (·.1)=false:=by rfl):
    GE X W (.Call (.Name "sorted" p1) [.SetComp elt (⟨tg,iter,ifs,0⟩ :: cs) scope p3] [] p4) (F9 l0 ls me):=by
  obtain ⟨wi,pi,mi⟩:=hi
  have pe:PE X (.SetComp elt (⟨tg,iter,ifs,0⟩ :: cs) scope p3) (OY (α:=List Str) X.K wi l0 ls (Og X.w (sj X.K me)) (λD=>CC X.w D [])):=by
    refine ⟨λpins s σ H Q I hw=>?_⟩
    rw [PpSet.eval_SetComp]
    refine HC (h:=false) (l:=⟨wi,Pp X.K l0.us l0.f,Ll X.K l0.mc,l0.vs⟩) (ls:=ls.map (jc.lv X.K)) (em:=λD env=>We elt (.ref D) env) (emT:=Og X.w (sj X.K me)) (ob0:=λD=>CC X.w D []) (λD env=>Uw) rfl (λq=>PpSet.newSet_ok q) (λI=>?_) hc hN I (.calm pi) ok hv (λs H C cl fp=>⟨(b.g s H C cl fp).canon,(b.t s H C cl fp).ex,(b.r s H C cl fp).lv,λD pins s' σ H' N I q=>?_⟩) hs hw λD C s' m H' I' q hn f=>Kn I' q hn f
    · exact Mh (kU.fresh (ho:=Heap.get?_push_size _ rfl))
    · unfold We
      refine wpAny_bind (C3 (B:=lu false X s H scope (compEnvC scope cl C X.env) fp) rfl ((be s H C cl fp).canon.run pins s' σ H' _ I q) λu s1 hh=>?_)
      obtain ⟨y,H1,I1,r,k,T,rfl,hD,room,n⟩:=hh
      refine wpAny_bind (wpAny_standAt (wpAny_bind (QF (X:=lu false X s H scope (compEnvC scope cl C X.env) fp) I1 hD room r λs2 I2=>wpAny_pure ⟨_,I2,n⟩)))
  refine ⟨_,pe_callB (Pe hc) g1 n1 (by decide+kernel) (pa_cons pe pa_nil s3) (by decide) (by decide) s3 s4,λas F H S ρ σ I R q x e Q hq hx=>?_⟩
  show OY (α:=List Str) X.K wi l0 ls (Og X.w (sj X.K me)) (λD=>CC X.w D []) σ H (λv H'=>LJ X.w [v] H' Q)
  refine Mb (AR:=Yh X.w) (em:=Kr me) mi (λ_ _ _ _ _ _ _ _ _ r=>r) (λ_ _ _=>rfl) (λas F0 H0 D h0=>W9 h0) (BI hs0) (LY hsl) I R e hx λD bs F1 H1 S1 cs F' H' S' T g1 hD p hh=>?_
  obtain ⟨o,e2,rfl⟩:=p.at_
  refine ⟨D,T,rfl,e2,of_decide_eq_true hh.1,λz hz=>?_⟩
  have gB:=p.g.sit.grow (o:=.lst ((pF T).map V.str)) hz
  exact hq _ S' cs _ _ _ hh.2 ((g1.trans p.g).trans gB) (.lst upd_same (CM _))
def CT (mk mv:RV.Env->M):RV.Env->WS->List (Key×D)->(List (Key×D)->WS->Prop)->Prop:=λρ S kvs q=>mk ρ S (λy S1=>mv ρ S1 (λz S2=>gx (qQ y) λk=>small kvs.length=true∧q (vA kvs k z) S2) nj) nj
def IE (tk tv:TE):Addr->L2.St->Hp->(Hp->Prop)->Prop:=λD σ H N=>tk σ H λy H1=>tv σ H1 λz H2=>∃ kvs k,y=kV k∧H2 D=some (.dK kvs)∧kvs.length < sizeLine∧N (upd H2 D (.dK (putK kvs k z)))
def Sk (K:PySem.W.Frag):Addr->List Addr->Hp->HO->List (Key×D)->Prop:=λ_ bs F o kvs=>∃ vkv,o=.dK vkv∧f6 K bs F kvs vkv
theorem N9 {K:PySem.W.Frag} (D:Addr):Ph (Sk K D):=λ_ _ _ _ _ _ e p r=>by
  obtain ⟨vkv,rfl,r⟩:=r
  exact ⟨vkv,rfl,r.mono e p⟩
theorem f6.len {K:PySem.W.Frag} {as:List Addr} {F:Hp}:∀ {kvs:List (Key×D)} {vkv:List (Key×V)},f6 K as F kvs vkv->kvs.length=vkv.length
  | _,_,.nil=>rfl
  | _,_,.cons _ r=>congrArg (· +1) r.len
theorem Q6 {n:Nat} (h:small n=true):n < sizeLine:=Nat.lt_of_le_of_lt (of_decide_eq_true h) (by decide)
theorem Yb {K:PySem.W.Frag} {mk mv:RV.Env->M} {as:List Addr} {F0 H0:Hp} {D:Addr} (h0:H0 D=none):MD K as F0 H0 D (Sk K D) (CT mk mv) (IE (sj K mk) (sj K mv) D):=λρ σ bs F1 H1 S1 a q N p R e hN=>by
  refine ⟨bs,F1,S1,ρ,_,p.g.sit,R,e,λd S2 cs F2 H2 v h2 g2 r2=>?_⟩
  refine ⟨cs,F2,S2,ρ,_,g2.sit,R.grow g2,h2,λd2 S3 es F3 H3 v3 h3 g3 r3=>?_⟩
  obtain ⟨k,ek,h3⟩:=bT h3
  obtain rfl:=R_ r2 ek
  have p3:=(p.step (N9 D) g2).step (N9 D) g3
  obtain ⟨o,e2,vkv,rfl,rk⟩:=p3.at_
  exact ⟨vkv,k,rfl,e2,by rw [← rk.len]; exact Q6 h3.1,hN _ S3 es F3 _ h3.2 (p3.put h0 ⟨_,rfl,rk.put r3⟩) (g2.ex.trans g3.ex) (g2.pre.trans g3.pre)⟩
def Qa (l0:jc) (ls:List jc) (mk mv:RV.Env->M):RV.Env->M:=λρ S q x=>l0.mi ρ S (λds N S1=>kO N l0 (Ax (CT mk mv) ls) ρ ds S1 [] λkvs S2=>q (.dic kvs) S2) x
theorem Yv {B:Cx} {k v:Expr} {mk mv:RV.Env->M} {pins:List (Addr×Obj)} {s':Shared} {σ:L2.St} {H':Hp} {N:Hp->Prop} {D:Addr} (hx:B.xe=λ_ _=>False) (bk:GE B WF k mk) (bv:GE B WF v mv) (I:Inv B pins σ H' s') (q:IE (sj B.K mk) (sj B.K mv) D σ H' N):
    wpAny (model B.prog B.w) B.A (Ss k v D B.env) (λ_ s2=>∃ H2,Inv B pins σ H2 s2∧N H2) (λ_ _=>False) s':=by
  unfold Ss
  refine wpAny_bind (C3 hx (bk.canon.run pins s' σ H' _ I q) λu s1 hh=>?_)
  obtain ⟨y,H1,I1,r,hh⟩:=hh
  refine wpAny_bind (wpAny_holding (C3 hx (bv.canon.run pins s1 σ H1 _ I1 hh) λu2 s2 hh=>?_))
  obtain ⟨z,H2,I2,r2,kvs,ky,rfl,hD,room,n⟩:=hh
  exact wpAny_bind (wpAny_standAt (wpAny_holding (d_dictSet I2 hD room r r2 λs3 I3=>⟨_,I3,n⟩)))
theorem XF {K:PySem.W.Frag} {as bs cs:List Addr} {F H F1 H1 F' H':Hp} {S1 S':WS} {D0:Addr} {a':List (Key×RV.D)} {q:RV.D->WS->Prop} {Q:VK} (hq:NQ K as F H q Q) (g1:aW K as F H bs F1 H1 S1) (hD:H1 D0=none) (p:Pt K bs F1 H1 D0 (Sk K D0) cs F' H' S' a') (hh:q (.dic a') S'):Q (.ref D0) H':=by
  obtain ⟨o,e2,vkv,rfl,rk⟩:=p.at_
  have ex:Ex F' (upd F' D0 (.dK vkv)):=Ex.new p.f
  have gg:=g1.trans p.g
  refine hq _ S' cs (upd F' D0 (.dK vkv)) H' _ hh ⟨gg.sit.freeze p.f p.b e2,gg.pre,gg.ex.trans ex,λa ha=>?_,gg.newc,gg.old,gg.there⟩ (.dic upd_same (rk.mono ex (Pre.refl _)))
  by_cases e:a=D0
  · subst e
    exact .inr (qR (g1.there _) hD)
  · rw [upd_ne e] at ha
    exact gg.new a ha
theorem Wo {k v tg iter:Expr} {ifs:List Expr} {cs:List Comprehension} {scope:Scope} {own:List (Str×Nat)} {l0:jc} {ls:List jc} {mk mv:RV.Env->M} {wi:TI} {pos':Pos} {use:Option (Value->Sem Unit)} {Qf:Value->Shared->Prop} {Q:VK} {pins:List (Addr×Obj)} {s:Shared} {σ:L2.St} {H:Hp} {pos:Pos} (hc:X.calm=true) (hN:X.N.Nodup) (pi:PI X tg iter wi) (ok:BlkOk X.N X.env.scope scope own) (hv:l0.vs=own.map (·.2)) (b:NS false X scope own tg ifs cs l0 ls)
    (bk:∀ (s:Shared) (H:Hp) (C:Addr) (cl:List (Str×Addr)) (fp:List Addr),GE (lu false X s H scope (compEnvC scope cl C X.env) fp) WF k mk) (bv:∀ (s:Shared) (H:Hp) (C:Addr) (cl:List (Str×Addr)) (fp:List Addr),GE (lu false X s H scope (compEnvC scope cl C X.env) fp) WF v mv)
    (hs:∀ (x:Value),foldedSetIterable iter X.env x=pure x) (I:Inv X pins σ H s) (hw:OY (α:=List (Key×D)) X.K wi l0 ls (IE (sj X.K mk) (sj X.K mv)) (λ_=>.dK []) σ H Q) (hRR:∀ D C s' m H',Inv X pins σ H' s'->Q (.ref D) H'->s'.heap.Ns C m->FpOk X pins H' C->compPost (model X.prog X.w) X.A X.xe use Qf (.ref D) C (.ok .next) s'):
    wpAny (model X.prog X.w) X.A (comprehension (.DictComp k v (⟨tg,iter,ifs,0⟩ :: cs) scope pos) scope X.env pos' newDict false (eval iter X.env) use) Qf X.xe s:=by
  refine HC (h:=false) (l:=⟨wi,Pp X.K l0.us l0.f,Ll X.K l0.mc,l0.vs⟩) (ls:=ls.map (jc.lv X.K)) (em:=λD env=>Ss k v D env) (emT:=IE (sj X.K mk) (sj X.K mv)) (ob0:=λ_=>.dK []) (λD env=>Rz) rfl (λq=>wpAny_newObj_type q) (λI=>dk_empty _ I.big) hc hN I (.calm pi) ok hv (λs H C cl fp=>⟨(b.g s H C cl fp).canon,(b.t s H C cl fp).ex,(b.r s H C cl fp).lv,λD pins s' σ H' N I q=>?_⟩) hs hw hRR
  exact Yv (B:=lu false X s H scope (compEnvC scope cl C X.env) fp) rfl (bk s H C cl fp) (bv s H C cl fp) I q
theorem Sm {k v tg iter:Expr} {ifs:List Expr} {cs:List Comprehension} {scope:Scope} {own:List (Str×Nat)} {l0:jc} {ls:List jc} {mk mv:RV.Env->M} {pos:Pos} (hc:X.calm=true) (hN:X.N.Nodup) (hi:GI X W tg iter l0.mi) (ok:BlkOk X.N X.env.scope scope own) (hv:l0.vs=own.map (·.2)) (b:NS false X scope own tg ifs cs l0 ls)
    (bk:∀ (s:Shared) (H:Hp) (C:Addr) (cl:List (Str×Addr)) (fp:List Addr),GE (lu false X s H scope (compEnvC scope cl C X.env) fp) WF k mk) (bv:∀ (s:Shared) (H:Hp) (C:Addr) (cl:List (Str×Addr)) (fp:List Addr),GE (lu false X s H scope (compEnvC scope cl C X.env) fp) WF v mv)
    (hs0:subB l0.us l0.vs=true:=by rfl) (hsl:(ls.all λl=>subB l.us l.vs)=true:=by rfl) (hs:∀ (x:Value),foldedSetIterable iter X.env x=pure x:=by intro _; rfl):
    GE X W (.DictComp k v (⟨tg,iter,ifs,0⟩ :: cs) scope pos) (Qa l0 ls mk mv):=by
  obtain ⟨wi,pi,mi⟩:=hi
  refine ⟨OY (α:=List (Key×D)) X.K wi l0 ls (IE (sj X.K mk) (sj X.K mv)) (λ_=>.dK []),⟨λpins s σ H Q I hw=>?_⟩,λas F H S ρ σ I R q x e Q hq hx=>?_⟩
  · rw [arm_eval_DictComp]
    exact Wo hc hN pi ok hv b bk bv hs I hw λD C s' m H' I' q hn f=>Kn I' q hn f
  · exact Mb (AR:=Sk X.K) (em:=CT mk mv) mi N9 (λ_ _ _=>⟨[],rfl,.nil⟩) (λas F0 H0 D h0=>Yb h0) (BI hs0) (LY hsl) I R e hx λD bs F1 H1 S1 cs F' H' S' a' g1 hD p hh=>XF hq g1 hD p hh
end
end RV
end
section
namespace RV
open PySem PySem.Spec PyProof.Rows L2
def Aw:List Int->Int
  | []=>0
  | [a]=>a
  | a :: l=>min a (Aw l)
theorem Dc:∀ {l:List Int},l≠[]->Aw l∈l
  | [],h=>absurd rfl h
  | [a],_=>List.mem_singleton.mpr rfl
  | a :: b :: l,_=>by
    have ih:=Dc (l:=b :: l) (by simp)
    show min a (Aw (b :: l))∈a :: b :: l
    rcases Int.le_total a (Aw (b :: l)) with z | z
    · rw [Int.min_eq_left z]; exact List.mem_cons_self ..
    · rw [Int.min_eq_right z]; exact List.mem_cons_of_mem _ ih
theorem LS:∀ {l:List Int},∀ y∈l,Aw l≤y
  | [],y,h=>nomatch h
  | [a],y,h=>by rw [List.mem_singleton.mp h]; exact Int.le_refl _
  | a :: b :: l,y,h=>by
    show min a (Aw (b :: l))≤y
    rcases List.mem_cons.mp h with z | z
    · rw [z]; exact Int.min_le_left ..
    · exact Int.le_trans (Int.min_le_right ..) (LS y z)
section
variable {P:Program} {w:World} {K:PySem.W.Frag} {mg:Str->Option Value} {base:Heap}
end
section
variable {X:Cx} {W:WX} {e:Expr} {es:List Expr} {kws:List Keyword} {pos p:Pos} {er ek:RV.Env->ML} {x:Str} {k j n m1:Nat} {ks:List Str} {G:List D->M} {gD:List D->List D->List D} {gd:Md}
end
def Kl (i:Nat) (f:Int->Int->Int) (ee:RV.Env->M):RV.Env->MS:=λρ S k=>gx (look ρ i) λx=>Bf x λa=>ee ρ S (λd S1=>Bf d λb=>k.nx (ρ.set i (some (.int (f a b)))) S1) λe S'=>k.ex e ρ S'
theorem Oo (i:Nat) {X:Cx} {W:WX} {e:Expr} {op:Operator} {f:Int->Int->Int} {x:Str} {pos' pos:Pos} {ee:RV.Env->M} (ho:PIp X op (ipI f)) (hN:X.N.Nodup) (he:GE X W e ee) (hi:X.N[i]? =some x:=by rfl) (hx:Loc X.env.scope x:=by first | exact Or.inl rfl | exact Or.inr rfl)
    (hf:X.fn x=true∨X.env.scope.names.lookup x=some .local:=by first | exact .inl rfl | exact .inr rfl):GS X W (.AugAssign (.Name x pos') op e pos) (Kl i f ee):=by
  obtain ⟨t,p,m⟩:=he
  refine ⟨_,ps_aug hN hi hx p ho hf,λas F H S ρ σ I R k h E q=>?_⟩
  obtain ⟨d,h1,h⟩:=bT h
  obtain ⟨a,rfl,h⟩:=xF h
  obtain ⟨v,h3,h4⟩:=R.at_ i _ (BP h1)
  cases h4
  refine ⟨_,h3,m as F H S ρ σ I R _ _ h _ (λd S1 bs F1 H1 v1 h1 g1 r1=>?_) (q.xq R)⟩
  obtain ⟨b,rfl,h2⟩:=xF h1
  cases r1
  exact ⟨a,b,rfl,rfl,q.nx _ S1 bs F1 H1 _ h2 g1 ((R.grow g1).set (.int _))⟩
def JK:WS->D->Option Int->Option Int->Option D:=λS x lo hi=>match x with
  | .tup _=>none
  | x=>(br S x).map λds=>.lst (cutD ds lo hi)
theorem W7 {K:PySem.W.Frag}:MM K (rSlL K) JK:=λas F H S x d vx lo hi I rx h Q q=>by
  have hn:∀ ys,x≠.tup ys:=by
    rintro ys rfl
    cases h
  have h':(br S x).map (λds=>D.lst (cutD ds lo hi))=some d:=by
    revert h
    unfold JK
    cases x <;> first | exact id | exact λh=>absurd rfl (hn _)
  obtain ⟨ds,h1,rfl⟩:=Option.map_eq_some_iff.mp h'
  obtain ⟨a,xs,rfl,s1,r1⟩:=FW I rx h1 hn
  refine ⟨_,_,rfl,s1,λp hp=>?_⟩
  refine q _ _ _ (I.grow hp) (.lst upd_same ?_)
  unfold cutD cutV
  rw [r1.length]
  exact ((r1.drop _).take _).mono (Ex.new (I.out hp)) (Pre.refl _)
end RV
end
section
namespace RV
open PySem L2
mutual
def mj (n:Nat) (S:WS):D->Option D
  | .cell k=>if k < n then some (.cell k) else match S[k]? with
    | some (.lst ds)=>some (.lst ds)
    | _=>none
  | .tup ds=>(wB n S ds).map .tup
  | .ptu ds=>(wB n S ds).map .ptu
  | .lst ds=>(wB n S ds).map .lst
  | .obj C fs=>(NW n S fs).map (.obj C)
  | .dic kvs=>(frzK n S kvs).map .dic
  | .exc _ _=>none
  | .exv _ _ _ _=>none
  | .clo _ _ _ _ _ _=>none
  | .non=>some .non
  | .bl b=>some (.bl b)
  | .int i=>some (.int i)
  | .str s=>some (.str s)
  | .ty t=>some (.ty t)
  | .adr a=>some (.adr a)
  | .scr ns=>some (.scr ns)
def wB (n:Nat) (S:WS):List D->Option (List D)
  | []=>some []
  | d :: ds=>(mj n S d).bind λe=>(wB n S ds).map λes=>e :: es
def NW (n:Nat) (S:WS):List (Str×D)->Option (List (Str×D))
  | []=>some []
  | (x,d) :: ds=>(mj n S d).bind λe=>(NW n S ds).map λes=>(x,e) :: es
def frzK (n:Nat) (S:WS):List (Key×D)->Option (List (Key×D))
  | []=>some []
  | (x,d) :: ds=>(mj n S d).bind λe=>(frzK n S ds).map λes=>(x,e) :: es
end
def Fv (n:Nat) (d:D) (S:WS) (q:D->WS->Prop):Prop:=if S.length=n then q d S else gx (mj n S d) λd'=>q d' (S.take n)
def HF (n:Nat) (m:Env->MS):List D->M:=λds S q x=>m (aM n ds) S ⟨λ_ S'=>Fv S.length .non S' q,λd S'=>Fv S.length d S' q,λ_ _=>False,λ_ _=>False,λe _ S'=>vU S.length e S' x⟩
section
variable {K:PySem.W.Frag} {as bs:List Addr} {F G H:Hp} {S:WS} {n:Nat}
mutual
theorem Rp.frz (e:Ex F G) (p:∀ k a,k < n->bs[k]? =some a->as[k]? =some a) (c:∀ k a ds,n≤k->bs[k]? =some a->S[k]? =some (.lst ds)->∃ xs,G a=some (.lst xs)∧aS K as G ds xs):∀ {d d':D} {v:V},Rp K bs F d v->mj n S d=some d'->Rp K as G d' v
  | _,_,_,.non,h=>by cases h; exact .non
  | _,_,_,.bl b,h=>by cases h; exact .bl b
  | _,_,_,.int i,h=>by cases h; exact .int i
  | _,_,_,.str s,h=>by cases h; exact .str s
  | _,_,_,.ty t,h=>by cases h; exact .ty t
  | _,_,_,.adr a,h=>by cases h; exact .adr a
  | _,_,_,.scr z,h=>by cases h; exact .scr (e.tT z)
  | _,_,_,.cell (k:=k) z,h=>by
    unfold mj at h
    split at h
    · rename_i hk
      cases h
      exact .cell (p _ _ hk z)
    · rename_i hk
      split at h
      · rename_i ds hS
        cases h
        obtain ⟨xs,g1,g2⟩:=c k _ ds (Nat.le_of_not_lt hk) z hS
        exact .lst g1 g2
      · cases h
  | _,_,_,.tup z r,h=>by
    unfold mj at h
    obtain ⟨es,h1,rfl⟩:=Option.map_eq_some_iff.mp h
    exact .tup (e.kT z) (aS.frz e p c r h1)
  | _,_,_,.lst z r,h=>by
    unfold mj at h
    obtain ⟨es,h1,rfl⟩:=Option.map_eq_some_iff.mp h
    exact .lst (e _ _ z) (aS.frz e p c r h1)
  | _,_,_,.obj z r,h=>by
    unfold mj at h
    obtain ⟨es,h1,rfl⟩:=Option.map_eq_some_iff.mp h
    exact .obj (e _ _ z) (jw.frz e p c r h1)
  | _,_,_,.dic z r,h=>by
    unfold mj at h
    obtain ⟨es,h1,rfl⟩:=Option.map_eq_some_iff.mp h
    exact .dic (e _ _ z) (f6.frz e p c r h1)
  | _,_,_,.exv z r,h=>by cases h
  | _,_,_,.clo z z2 r,h=>by cases h
  | _,_,_,.ptu z r,h=>by
    unfold mj at h
    obtain ⟨es,h1,rfl⟩:=Option.map_eq_some_iff.mp h
    exact .ptu (e.Yj z) (aS.frz e p c r h1)
theorem aS.frz (e:Ex F G) (p:∀ k a,k < n->bs[k]? =some a->as[k]? =some a) (c:∀ k a ds,n≤k->bs[k]? =some a->S[k]? =some (.lst ds)->∃ xs,G a=some (.lst xs)∧aS K as G ds xs):∀ {ds ds':List D} {vs:List V},aS K bs F ds vs->wB n S ds=some ds'->aS K as G ds' vs
  | _,_,_,.nil,h=>by cases h; exact .nil
  | _,_,_,.cons z r,h=>by
    unfold wB at h
    obtain ⟨e1,h1,h2⟩:=Option.bind_eq_some_iff.mp h
    obtain ⟨es,h3,rfl⟩:=Option.map_eq_some_iff.mp h2
    exact .cons (Rp.frz e p c z h1) (aS.frz e p c r h3)
theorem jw.frz (e:Ex F G) (p:∀ k a,k < n->bs[k]? =some a->as[k]? =some a) (c:∀ k a ds,n≤k->bs[k]? =some a->S[k]? =some (.lst ds)->∃ xs,G a=some (.lst xs)∧aS K as G ds xs):∀ {ds ds':List (Str×D)} {vs:List (Str×V)},jw K bs F ds vs->NW n S ds=some ds'->jw K as G ds' vs
  | _,_,_,.nil,h=>by cases h; exact .nil
  | _,_,_,.cons z r,h=>by
    unfold NW at h
    obtain ⟨e1,h1,h2⟩:=Option.bind_eq_some_iff.mp h
    obtain ⟨es,h3,rfl⟩:=Option.map_eq_some_iff.mp h2
    exact .cons (Rp.frz e p c z h1) (jw.frz e p c r h3)
theorem f6.frz (e:Ex F G) (p:∀ k a,k < n->bs[k]? =some a->as[k]? =some a) (c:∀ k a ds,n≤k->bs[k]? =some a->S[k]? =some (.lst ds)->∃ xs,G a=some (.lst xs)∧aS K as G ds xs):∀ {ds ds':List (Key×D)} {vs:List (Key×V)},f6 K bs F ds vs->frzK n S ds=some ds'->f6 K as G ds' vs
  | _,_,_,.nil,h=>by cases h; exact .nil
  | _,_,_,.cons z r,h=>by
    unfold frzK at h
    obtain ⟨e1,h1,h2⟩:=Option.bind_eq_some_iff.mp h
    obtain ⟨es,h3,rfl⟩:=Option.map_eq_some_iff.mp h2
    exact .cons (Rp.frz e p c z h1) (f6.frz e p c r h3)
end
end
section
variable {K:PySem.W.Frag} {as bs:List Addr} {F H F' H':Hp} {S S1:WS} {d:D} {v:V} {q:D->WS->Prop} {Q:VK}
open Classical in
def qU (as bs:List Addr) (F' H':Hp):Hp:=λa=>if F' a=none∧a∈bs∧a∉as then H' a else F' a
theorem Me (I:bU K as F H S) (hq:NQ K as F H q Q) (g:aW K as F H bs F' H' S1) (r:Rp K bs F' d v) (h:Fv S.length d S1 q):Q v H':=by
  have hn:as.length=S.length:=I.len
  unfold Fv at h
  split at h
  · exact hq d S1 bs F' H' v h g r
  · obtain ⟨d',h1,h2⟩:=bT h
    have gd:=g.drop I.nd
    rw [hn] at gd
    have ex:Ex F' (qU as bs F' H'):=λa o e=>by
      unfold qU
      rw [if_neg (λz=>by rw [z.1] at e; cases e)]
      exact e
    have sit:bU K as (qU as bs F' H') H' (S1.take S.length):=by
      refine ⟨gd.sit.len,λa o e=>?_,I.nd,λi p c e1 e2=>?_⟩
      · unfold qU at e
        split at e
        · exact e
        · exact gd.sit.ex a o e
      · obtain ⟨z1,o,z2,z3⟩:=gd.sit.cell i p c e1 e2
        refine ⟨λhh=>?_,o,z2,z3.mono ex⟩
        unfold qU
        rw [if_neg (λz=>z.2.2 (List.mem_of_getElem? e1))]
        exact z1 hh
    refine hq d' _ as (qU as bs F' H') H' v h2 ⟨sit,Pre.refl _,gd.ex.trans ex,λa ha=>?_,λ_ h=>.inl h,gd.old,gd.there⟩ (r.frz ex (λk a hk e=>Dm g.pre k a (by omega) e) (λk a ds hk ha hS=>?_) h1)
    · unfold qU at ha
      split at ha
      · rename_i z
        rcases g.newc a z.2.1 with y | y
        · exact absurd y z.2.2
        · exact .inr y
      · exact gd.new a ha
    · obtain ⟨z1,o,z2,z3⟩:=g.sit.cell k a _ ha hS
      cases o with
      | lst xs=>
        have na:a∉as:=cell_out g.pre g.sit.nd (by omega) ha
        refine ⟨xs,?_,aS.mono ex pre_nil z3⟩
        unfold qU
        rw [if_pos ⟨z1 rfl,List.mem_of_getElem? ha,na⟩]
        exact z2
      | _=>exact z3.elim
theorem UD {K:PySem.W.Frag} {N:List Str} {m:RV.Env->MS} {ts:TS} {n:Nat} {vs:List V} {H:Hp} {Q:VK} {E:XK} (hm:ze K (Gh E) ts m) (h:bh K n (HF N.length m) vs H Q E):
    ts {nx:=λ_ H'=>Q .non H',rt:=Q} (L2.start N vs) H:=by
  obtain ⟨as,F,S,ds,q,x,I,r,hl,e,hq,hx⟩:=h
  exact hm as F H S _ _ I (Bc r) _ e _ ⟨λρ' S' bs F' H' σ' h g R=>Me I hq g .non h,λd S' bs F' H' v h g r=>Me I hq g r h,λ_ _ _ _ _ _ h=>h.elim,λ_ _ _ _ _ _ h=>h.elim,λe ρ' S' bs F' H' σ' cls dd h g R r=>Bw I hx g r h⟩
end
section
variable {P:Program} {w:World} {K:PySem.W.Frag} {mg:Str->Option Value} {base:Heap}
theorem Wb {gd:Md} {x qual:Str} {params:Arguments} {body:List Stmt} {scope:Scope} {dvs:List V} {kws:List (Str×V)} {f:Addr} {fd:FuncData} {N ps:List Str} {k:Nat} {m:RV.Env->MS} (F:FunD K x qual params body scope dvs kws f fd) (S:FnScope N ps scope)
    (hb:BodyOk gd P w K mg base N qual scope f k body m):bf gd P w K mg base (k+1) f fd ps (bh K ps.length (HF N.length m)):=by
  refine Ke F S Gb (λcdv A outer s H vs Q E pp _ hg hr h=>?_)
  obtain ⟨ts,p,hm⟩:=hb cdv A outer s H E pp hg hr MR (passes_of rfl)
  exact ⟨ts,p,UD hm h⟩
end
end RV
end
section
namespace RV
open PySem L2
def Xi (K:PySem.W.Frag):V->V->Hp->VK->Prop:=λo i H Q=>∃ p xs n x,o=.ref p∧i=.int n∧0≤n∧SqL K H p xs∧L2.atI xs n=some x∧Q x H
theorem QH {X:Cx}:PGet X (Xi X.K):=by
  intro pins s σ H o i ov iv Q I rx ry h
  obtain ⟨p,xs,n,z,rfl,rfl,h0,hq,he,q⟩:=h
  cases rx
  obtain ⟨t,rfl⟩:=ry
  obtain ⟨its,r,pl,hz⟩:=I.list hq
  obtain ⟨j,h1,h2,h3,h4,h5⟩:=atI_get he
  obtain ⟨w,ew,rw'⟩:=r.get h2
  have hl:=r.length
  have hn:=line63
  have hj:n.toNat=j:=by
    rw [seqIndex_of h0 h5] at h1
    exact Option.some.inj h1
  exact PyProof.Rows.getItem_listL pl.isList h0 (by omega) (by rw [hj]; simpa using ew) ⟨z,H,I,rw',q⟩
def ye (S:WS):D->D->Option D
  | .cell k,.int i=>match S[k]? with
    | some (.lst ds)=>if 0≤i then L2.atI ds i else none
    | _=>none
  | _,_=>none
def BA (f:Int->Int->Int) (eo ei ee:RV.Env->M):RV.Env->MS:=λρ S k=>eo ρ S (λo S1=>ei ρ S1 (λi S2=>gx (ye S2 o i) λd=>Bf d λa=>ee ρ S2 (λd2 S3=>Bf d2 λb=>gx (iU o i (.int (f a b)) S3) λS'=>k.nx ρ S') λe S'=>k.ex e ρ S') λe S'=>k.ex e ρ S') λe S'=>k.ex e ρ S'
theorem Ly {X:Cx} {W:WX} {o i e:Expr} {eo ei ee:RV.Env->M} {op:Operator} {f:Int->Int->Int} {tpos pos:Pos} (hp:PIp X op (ipI f)) (ho:GE X W o eo) (hi:GE X W i ei) (he:GE X W e ee)
    (ha:∀ ov iv new,augStore i ov iv new=(do holding [new,ov,iv] (setItem ov iv new); release [new,ov,iv] []; pure .next):=by intros; rfl):GS X W (.AugAssign (.Subscript o i tpos) op e pos) (BA f eo ei ee):=by
  obtain ⟨to,po,mo⟩:=ho
  obtain ⟨ti,pi,mi⟩:=hi
  obtain ⟨te,pe,me⟩:=he
  refine ⟨_,ps_augS po pi QH pe hp set_list ha,λas F H S ρ σ I R k h E q=>?_⟩
  refine mo as F H S ρ σ I R _ _ h _ (λu S1 bs F1 H1 v1 h1 g1 r1=>?_) (q.xq R)
  refine mi bs F1 H1 S1 ρ σ g1.sit (R.grow g1) _ _ h1 _ (λy S2 cs F2 H2 v2 h2 g2 r2=>?_) ((q.step g1).xq (R.grow g1))
  have g12:=g1.trans g2
  obtain ⟨d,h3,h4⟩:=bT h2
  obtain ⟨a,rfl,h4⟩:=xF h4
  unfold ye at h3
  split at h3
  · rename_i kk n _
    split at h3
    · rename_i ds hS
      split at h3
      · rename_i h0
        have ru:=cD g2 r1
        obtain ⟨p,xs,rfl,sq,rl⟩:=C7 g2.sit ru (ds:=ds) (by simp [yX,hS])
        cases r2
        obtain ⟨x,hx,rx⟩:=rl.atI h3
        cases rx
        refine ⟨p,xs,n,_,rfl,rfl,h0,sq,hx,?_⟩
        refine me cs F2 H2 S2 ρ σ g2.sit (R.grow g12) _ _ h4 _ (λd2 S3 ls F3 H3 v3 h5 g3 r3=>?_) ((q.step g12).xq (R.grow g12))
        obtain ⟨b,rfl,h5⟩:=xF h5
        cases r3
        obtain ⟨S4,h6,h7⟩:=bT h5
        refine ⟨a,b,rfl,rfl,?_⟩
        refine Dj g3.sit (cD g3 ru) (.int n) (.int _) h6 λH' g4=>?_
        have g:=(g12.trans g3).trans g4
        exact q.nx ρ S4 ls F3 H' σ h7 g (R.grow g)
      · cases h3
    · cases h3
  · cases h3
def Fy (neg:Bool):WS->D->D->Option D:=λ_ x y=>match x,y with
  | .bl a,.bl b=>some (.bl (if neg then !decide (a=b) else decide (a=b)))
  | _,_=>none
theorem F6 {K:PySem.W.Frag}:RO K (λx y H Q=>∃ a b,x=.bl a∧y=.bl b∧Q (.bl (!decide (a=b))) H) (Fy true):=λas F H S x y d vx vy I rx ry h Q q=>by
  unfold Fy at h
  split at h
  · cases h
    cases rx
    cases ry
    exact ⟨_,_,rfl,rfl,keep I q (.bl _)⟩
  · cases h
def Iw:WS->List D->Option D:=λ_ xs=>match xs with
  | [.bl b]=>some (.int (if b then 1 else 0))
  | _=>none
theorem T6 {K:PySem.W.Frag}:RC K (λxs H Q=>(∃ i,xs=[.int i]∧Q (.int i) H)∨∃ k,xs=[.bl k]∧Q (.int (if k then 1 else 0)) H) Iw:=λas F H S ds d vs I r h Q q=>by
  unfold Iw at h
  split at h
  · cases h
    obtain ⟨v,ws,rfl,rv,rn⟩:=r.dG
    obtain rfl:=rn.dR
    cases rv
    exact .inr ⟨_,rfl,keep I q (.int _)⟩
  · cases h
end RV
end
section
namespace RV
open PySem L2
end RV
end
section
namespace RV
open PySem L2
section
variable {X:Cx} {W:WX} {o i e:Expr} {eo ei ee:RV.Env->M} {apos cpos pos:Pos} {K:PySem.W.Frag}
def Fq (eo:RV.Env->M) (er:RV.Env->ML):RV.Env->MS:=λρ S k=>eo ρ S (λo S1=>NK o λj=>Li S1 j λ_=>er ρ S1 (λvs S2=>G3 vs λa d=>Bf a λn=>Li S2 j λds=>(D.clean 0 d=true∧small ds.length=true∧0≤n∧n < 2 ^ 60)∧k.nx ρ (S2.set j (.lst (ds.take n.toNat++[d]++ds.drop n.toNat)))) λe S'=>k.ex e ρ S') λe S'=>k.ex e ρ S'
theorem Qo {er:RV.Env->ML} (ho:GE X W o eo) (he:GA X W [i,e] er) (hs0:swapsWith (.Call (.Attribute o "insert" apos) [i,e] [] cpos) none pos.line X.env=pure false:=by rfl) (hbase:attributeBase o "insert" X.env (eval o X.env)=eval o X.env:=by rfl)
    (hfew:((backTo cpos (starEach [i,e] X.env)).all (λx=>!x.1) && (backToKw cpos (keywordEach [] X.env)).all (λx=>x.1.isSome)
      && decide (([i,e]:List Expr).length+([]:List Keyword).length+(if ([]:List Keyword).isEmpty then 0 else 1) < 30))=true:=by rfl)
    (hline:(apos.endLine == cpos.line)=true:=by rfl) (hs:starEach [i,e] X.env=(false,eval i X.env) :: starEach [e] X.env:=by rfl) (hplain:(backTo cpos (starEach [e] X.env)).any (·.1)=false:=by rfl):
    GS X W (.Expr (.Call (.Attribute o "insert" apos) [i,e] [] cpos) pos) (Fq eo er):=by
  obtain ⟨to,po,mo⟩:=ho
  obtain ⟨ta,pa,ma⟩:=he
  refine ⟨_,ps_expr (pe_bm PySem.F.plainAttrs_list PySem.F.slot_list_insert PySem.F.type_list_insert mt_insert po pa hbase hfew hline hs hplain) hs0,λas F H S ρ σ I R k h E q=>?_⟩
  refine mo as F H S ρ σ I R _ _ h _ (λd1 S1 bs F1 H1 v1 h1 g1 r1=>?_) (q.xq R)
  cases r1 with
  | cell ha=>
    obtain ⟨ds0,hS0,h1⟩:=Dy h1
    obtain ⟨_,o0,z0,z1⟩:=g1.sit.cell _ _ _ ha hS0
    cases o0 with
    | lst xs0=>
      refine ⟨FI z0,?_⟩
      refine ma bs F1 H1 S1 ρ σ g1.sit (R.grow g1) _ _ h1 _ (λvs S2 cs F2 H2 us h2 g2 r2=>?_) ((q.step g1).xq (R.grow g1))
      obtain ⟨a,d2,rfl,h2⟩:=A3 h2
      obtain ⟨n,rfl,h2⟩:=xF h2
      obtain ⟨ds,hS,hc,h2⟩:=Dy h2
      obtain ⟨va,ws,rfl,ra,rs⟩:=r2.dG
      obtain ⟨v2,ws,rfl,rd,rn⟩:=rs.dG
      obtain rfl:=rn.dR
      cases ra
      have ha2:=g2.pre _ _ ha
      obtain ⟨_,o2,y0,y1⟩:=g2.sit.cell _ _ _ ha2 hS
      cases o2 with
      | lst xs=>
        have hl:xs.length < sizeLine:=by
          have e1:ds.length=xs.length:=aS.length y1
          have e2:ds.length≤100000:=of_decide_eq_true hc.2.1
          have e3:(100000:Nat) < sizeLine:=by decide
          omega
        refine ⟨_,xs,n,v2,rfl,rfl,y0,hl,hc.2.2.1,Int.lt_trans hc.2.2.2 (by decide),?_⟩
        have r2':Rp X.K [] F2 d2 v2:=rd.back (λk a hk=>by omega) hc.1
        have g3:=g2.sit.put (c':=.lst (ds.take n.toNat++[d2]++ds.drop n.toNat)) (o:=.lst (xs.take n.toNat++[v2]++xs.drop n.toNat)) ha2 hS rfl rfl (aS.append (aS.append (aS.take _ y1) (.cons r2' .nil)) (aS.drop _ y1))
        have g:=(g1.trans g2).trans g3
        exact q.nx ρ _ cs F2 _ σ h2 g (R.grow g)
      | _=>exact y1.elim
    | _=>exact z1.elim
  | _=>exact h1.elim
end
end RV
end
section
namespace RV
open PySem L2
section
variable {X:Cx} {pos:Pos}
end
end RV
end
section
namespace HotX
open PySem PySem.Spec PyProof.Rows
section
variable {prog:Program} {w:World} {A:Around} {E:Value->Shared->Prop} {s:Shared}
end
end HotX
namespace RV
open PySem PySem.Spec PyProof.Rows L2
theorem Rx.hot {k:Nat} {X:Cx} (z:zN=true) (r:Rx true k X):G_ true X:=by
  obtain ⟨_,p,hp,e1,e2⟩:=r
  exact ⟨p,⟨e1,e2 z⟩,hp⟩
section
variable {X:Cx} {W:WX} {tg a e o:Expr} {ea:RV.Env->M}
end
section
variable (P:Program) (w:World) (K:PySem.W.Frag) (mg:Str->Option Value) (base:Heap)
end
section
variable {X:Cx} {W:WX} {e:Expr} {ea:RV.Env->M} {C:Addr} {k j:Nat} {f:Str} {pos:Pos} {G:List D->M}
end
end RV
end
section
namespace RV
open PySem L2 PySem.W
section
variable {prog:Program} {w:World} {A:Around} {E:Value->Shared->Prop} {s:Shared} {K:PySem.W.Frag} {x C L f:Addr} {h₀:Heap} {m:Str->Option Value} {dx:Addr} {od:Obj}
end
section
variable {X:Cx} {W:WX} {a b:Expr} {ea eb:RV.Env->M} {pos:Pos}
end
end RV
end
section
namespace RV
open PySem L2 PySem.Spec PyProof.Rows
inductive Rv (nz:Bool) (X:Cx):List ExceptHandler->List (Value×Nat×(Addr->Value->Option Addr->TS))->Prop
  | nil:Rv nz X [] []
  | cons {x n:Str} {c:Value} {i:Nat} {ts:Addr->Value->Option Addr->TS} {b0:Stmt} {suite:List Stmt} {np pos':Pos} {hds:List ExceptHandler} {l:List (Value×Nat×(Addr->Value->Option Addr->TS))} (hi:X.N[i]? =some n) (hln:X.env.kindOf n=some .local) (hc:Names X x c)
      (hsu:∀ (a:Addr) (oe:Obj) (cls:Value) (d:Option Addr) (pn:List (Addr×Obj)),Zz nz cls d oe->(∃ vs,oe.data=.fields vs)->PSs (X.suite a ((a,oe) :: pn)) (b0 :: suite) (ts a cls d)) (r:Rv nz X hds l):
      Rv nz X (.ExceptHandler (some (.Name x np)) (some n) (b0 :: suite) pos' :: hds) ((c,i,ts) :: l)
section
variable {X:Cx} {body:List Stmt} {h0:ExceptHandler} {hds:List ExceptHandler} {l:List (Value×Nat×(Addr->Value->Option Addr->TS))} {pos:Pos} {tb:WX->TS}
end
structure Hm where
  c:Value
  L:List Addr
  i:Nat
  m:Addr->Addr->Addr->RV.Env->MS
inductive V6 (X:Cx) (All:List Addr):List ExceptHandler->List Hm->Prop
  | nil:V6 X All [] []
  | cons {x n:Str} {h:Hm} {b0:Stmt} {suite:List Stmt} {np pos':Pos} {hds:List ExceptHandler} {l:List Hm} (hi:X.N[h.i]? =some n) (hln:X.env.kindOf n=some .local) (hc:Names X x h.c) (hL:∀ C∈All,PySem.W.exmOne X.K (.ref C) h.c=some (decide (C∈h.L)))
      (hsu:∀ (a C d:Addr) (oe:Obj) (pn:List (Addr×Obj)),Zz zN (.ref C) (some d) oe->(∃ vs,oe.data=.fields vs)->Cn (X.suite a ((a,oe) :: pn)) WF (b0 :: suite) (h.m a C d)) (r:V6 X All hds l):
      V6 X All (.ExceptHandler (some (.Name x np)) (some n) (b0 :: suite) pos' :: hds) (h :: l)
section
variable {X:Cx} {W:WX} {body:List Stmt} {h0:ExceptHandler} {hds:List ExceptHandler} {pos:Pos} {mb:RV.Env->MS} {All:List Addr} {hs:List Hm}
end
end RV
end
section
namespace RV
end RV
end
section
namespace RV
open PySem L2
variable {nn:Bool}
section
variable {X:Cx} {W:WX} {o e:Expr} {es:List Expr} {pos apos:Pos} {ea:RV.Env->M} {ek:RV.Env->ML} {C:Addr} {m:Str} {G:List D->M} {k j n:Nat}
end
end RV
end
section
namespace RV
open PySem L2 PySem.W PySem.MeetsSeq
section
variable {prog:Program} {w:World} {A:Around} {E:Value->Shared->Prop} {s:Shared}
open AutoSeq1 (wpAny_loadPart')
end
section
variable {X:Cx} {W:WX} {a b:Expr} {ea eb:RV.Env->M} {pos:Pos} {k j:Nat}
def Od (r:R2) (p:Addr) (xs:List V) (x:V):List V->Hp->VK->Prop
  | [],H,Q=>H p=some (.lst xs)∧Q (.bl false) H
  | y :: ys,H,Q=>H p=some (.lst xs)∧r y x H (λv H'=>∃ c,v=.bl c∧(if c=true then Q (.bl true) H' else Od r p xs x ys H' Q))
theorem Od.here {r:R2} {p:Addr} {xs:List V} {x:V} {H:Hp} {Q:VK}:∀ {ys:List V},Od r p xs x ys H Q->H p=some (.lst xs)
  | [],h=>h.1
  | _ :: _,h=>h.1
end
section
variable {X:Cx} {W:WX} {a e:Expr} {es:List Expr} {ea:RV.Env->M} {er:RV.Env->ML} {pos p:Pos} {k j:Nat} {C:Addr} {G:List D->M} {nn:Bool}
end
end RV
end
section
namespace RV
open PySem L2
section
variable {X:Cx} {W:WX} {e:Expr} {ea:RV.Env->M} {p pos p2 pos2:Pos}
def FQ (ea:RV.Env->M):RV.Env->M:=λρ S q x=>ea ρ S (λd S1=>Bf d λj=>(-(2 ^ 62)≤j∧j≤2 ^ 24)∧q (.lst (upto j)) S1) x
theorem G1 {K:PySem.W.Frag} {as:List Addr} {F:Hp}:∀ (l:List Nat),aS K as F (l.map λ(i:Nat)=>D.int (0+(i:Int))) (l.map λ(i:Nat)=>V.int (0+(i:Int)))
  | []=>.nil
  | _ :: l=>.cons (.int _) (G1 l)
theorem PU (hc:X.calm=true) (n1:X.mg "list"=none) (n2:X.mg "range"=none) (ha:GE X W e ea) (g1:Gl X "list":=by rfl) (g2:Gl X "range":=by rfl)
    (s1:starEach [e] X.env=(false,eval e X.env) :: starEach [] X.env:=by rfl) (s2:starEach [.Call (.Name "range" p2) [e] [] pos2] X.env=(false,eval (.Call (.Name "range" p2) [e] [] pos2) X.env) :: starEach [] X.env:=by rfl):
    GE X W (.Call (.Name "list" p) [.Call (.Name "range" p2) [e] [] pos2] [] pos) (FQ ea):=by
  obtain ⟨ta,pa,ma⟩:=ha
  refine ⟨_,pe_listRg hc g1 n1 (prg_1 g2 n2 pa s1) s2,λas F H S ρ σ I R q x h Q hq hx=>?_⟩
  refine ma as F H S ρ σ I R _ x h _ (λu S1 bs F1 H1 v h1 g r=>?_) hx
  cases u with
  | int j=>
    obtain ⟨⟨b1,b2⟩,h1⟩:=h1
    cases r
    refine ⟨j,rfl,⟨by decide,by decide,b1,by omega,by omega⟩,λa hn=>?_⟩
    have hg:=g.sit.grow (o:=.lst (rgV 0 j)) hn
    have er:(rgV 0 j)=(List.range j.toNat).map λ(i:Nat)=>V.int (0+(i:Int)):=by
      unfold rgV
      rw [Int.sub_zero]
    refine hq _ S1 bs _ _ _ h1 (g.trans hg) (.lst upd_same ?_)
    rw [er]
    exact G1 _
  | _=>exact h1.elim
end
section
variable {X:Cx} {W:WX} {e:Expr} {er:RV.Env->ML} {p pos:Pos}
def DR (er:RV.Env->ML):RV.Env->M:=λρ S q x=>er ρ S (λds S1=>gx (qN S1 ds) λd=>M8 d λxs=>D8 .new xs S1 q) x
theorem RD (hm:X.mg "list"=none) (ha:GA X W [e] er) (hg:Gl X "list":=by rfl) (hdb:(("list":Str) == ("__debug__":Str))=false:=by decide) (h1:starEach [e] X.env=(false,eval e X.env) :: starEach [] X.env:=by rfl) (h2:(backTo pos (starEach [] X.env)).any (·.1)=false:=by rfl):
    GE X W (.Call (.Name "list" p) [e] [] pos) (DR er):=by
  obtain ⟨t,pa,m⟩:=ha
  refine ⟨_,pe_callTy call_list_of hg hm (by decide+kernel) pa (by decide) hdb h1 h2,λas F H S ρ σ I R q x h Q hq hx=>?_⟩
  refine m as F H S ρ σ I R _ x h _ (λds S1 bs F1 H1 vs h1 g1 r1=>?_) hx
  obtain ⟨d,e1,h1⟩:=bT h1
  unfold qN at e1
  split at e1
  · rename_i y
    obtain ⟨v,ws,rfl,rv,rn⟩:=r1.dG
    obtain rfl:=rn.dR
    simp only [Option.map_eq_some_iff] at e1
    obtain ⟨xs,e2,rfl⟩:=e1
    obtain ⟨a,ys,rfl,sq,re⟩:=qD g1.sit rv e2
    refine ⟨a,ys,rfl,sq,λl hl=>?_⟩
    have f1:=g1.sit.out hl
    have b1:l∉bs:=λz=>g1.sit.there z hl
    have g2:aW X.K bs F1 H1 bs F1 (upd H1 l (.lst ys)) S1:=⟨g1.sit.other f1 b1,Pre.refl _,Ex.refl _,λ_ h=>.inl h,λ_ h=>.inl h,λc o _ h=>by rw [upd_ne (ne_of_none h hl)]; exact h,λc h=>iO h⟩
    have h3:D8 .new xs S1 q:=h1
    exact NL (hq.step g1) g2 hl f1 b1 upd_same re h3
  · cases e1
end
end RV
end
section
namespace RV
open PySem L2
mutual
def D.vd:D->Option PyData
  | .tup ds=>(D.N3 ds).map PyData.tuple
  | .dic kvs=>(FL kvs).map PyData.dict
  | .non=>some .none
  | .bl b=>some (.bool b)
  | .int i=>some (.int i)
  | .str s=>some (.str s)
  | _=>none
def D.N3:List D->Option (List PyData)
  | []=>some []
  | d :: ds=>(D.vd d).bind λp=>(D.N3 ds).map λps=>p :: ps
end
section
variable {X:Cx} {pins:List (Addr×Obj)} {σ:L2.St} {H:Hp} {s:Shared} {as:List Addr} {F:Hp}
mutual
theorem HE (I:Inv X pins σ H s) (ex:Ex F H):∀ (d:D) (v:V) (u:Value) (p:PyData),Rp X.K as F d v->D.vd d=some p->RelV v u->∃ bs,Reads s.heap u p bs∧sysModules∉bs
  | .non,_,_,_,r,e,ru=>by
    cases r; cases e; cases ru; exact ⟨_,.none,List.not_mem_nil⟩
  | .bl b,_,_,_,r,e,ru=>by
    cases r; cases e; cases ru; exact ⟨_,.bool b,List.not_mem_nil⟩
  | .int i,_,_,_,r,e,ru=>by
    cases r; cases e; obtain ⟨t,rfl⟩:=ru; exact ⟨_,.int i t,List.not_mem_nil⟩
  | .str x,_,_,_,r,e,ru=>by
    cases r; cases e; obtain ⟨t,rfl⟩:=ru; exact ⟨_,.str x t,List.not_mem_nil⟩
  | .tup ds,_,_,_,r,e,ru=>by
    cases r with
    | tup h r=>
      simp only [D.vd,Option.map_eq_some_iff] at e
      obtain ⟨ps,e1,rfl⟩:=e
      cases ru
      obtain ⟨its,rv,⟨o,ho,hc,n,hd⟩,_⟩:=I.tuple (ex.kT h)
      obtain ⟨bs,q1,q2⟩:=E5 I ex ds _ _ _ r e1 rv
      exact ⟨_,Reads.tuple ho hc hd q1,q2⟩
  | .dic kvs,_,_,_,r,e,ru=>by
    cases r with
    | dic h r=>
      simp only [D.vd,Option.map_eq_some_iff] at e
      obtain ⟨ps,ek,rfl⟩:=e
      cases ru
      obtain ⟨_,hsm,us,hkv,o,es,ep,e1,e2,e3,_,e4,_⟩:=dk_of I.hok (ex _ _ h)
      obtain ⟨r1,r2⟩:=Dd (h:=s.heap) r hkv e4 ek
      refine ⟨_,Reads.dict (as:=[]) (bs:=[]) e1 e2.1 e3 r1 r2,λz=>?_⟩
      rw [List.append_nil,List.mem_singleton] at z
      rw [← z] at hsm
      simp at hsm
  | .ty _,_,_,_,_,e,_=>by simp [D.vd] at e
  | .adr _,_,_,_,_,e,_=>by simp [D.vd] at e
  | .cell _,_,_,_,_,e,_=>by simp [D.vd] at e
  | .scr _,_,_,_,_,e,_=>by simp [D.vd] at e
  | .lst _,_,_,_,_,e,_=>by simp [D.vd] at e
  | .obj _ _,_,_,_,_,e,_=>by simp [D.vd] at e
  | .exc _ _,_,_,_,_,e,_=>by simp [D.vd] at e
  | .exv _ _ _ _,_,_,_,_,e,_=>by simp [D.vd] at e
theorem E5 (I:Inv X pins σ H s) (ex:Ex F H):∀ (ds:List D) (vs:List V) (us:List Value) (ps:List PyData),aS X.K as F ds vs->D.N3 ds=some ps->Vals vs us->∃ bs,ReadsAll s.heap us ps bs∧sysModules∉bs
  | [],_,_,_,r,e,ru=>by
    cases r
    cases e
    cases ru
    exact ⟨_,ReadsAll.nil,List.not_mem_nil⟩
  | d :: ds,_,_,_,r,e,ru=>by
    cases r with
    | cons h1 h2=>
      simp only [D.N3,Option.bind_eq_some_iff,Option.map_eq_some_iff] at e
      obtain ⟨p,e1,ps,e2,rfl⟩:=e
      cases ru with
      | cons r1 r2=>
        obtain ⟨as,q1,z1⟩:=HE I ex d _ _ _ h1 e1 r1
        obtain ⟨bs,q2,z2⟩:=E5 I ex ds _ _ _ h2 e2 r2
        exact ⟨_,ReadsAll.cons q1 q2,λz=>(List.mem_append.mp z).elim z1 z2⟩
end
end
def TupAt (K:PySem.W.Frag) (H:Hp) (v:V) (p:PyData):Prop:=∃ (as:List Addr) (F:Hp) (ds:List D) (a:Addr),v=.ref a∧Ex F H∧Rp K as F (.tup ds) v∧D.vd (.tup ds)=some p
def Pz (K:PySem.W.Frag):List V->Hp->VK->Prop:=λxs H Q=>JH K xs H Q∨∃ v p,xs=[v]∧TupAt K H v p∧p.showable=true∧p.depth≤64∧p.shown.length≤sizeLine∧Q (.str p.shown) H
theorem EE {X:Cx} {h:Bool} {k:Nat} (hg:X.A.guards=some []) (hr:Rx h k X):CallR X (.builtin "repr") (Pz X.K):=λpins s σ H xs us Q I rv hh=>by
  rcases hh with hh | ⟨v,p,rfl,⟨as,F,ds,a,rfl,ex,rp,ep⟩,hs,hde,hz,q⟩
  · exact NT hg hr pins s σ H xs us Q I rv hh
  · have hu:=hr.units
    obtain ⟨u,rfl,ru⟩:=vals1 rv
    cases ru
    obtain ⟨bs,rd,hsm⟩:=HE I ex _ _ _ _ rp ep rfl
    refine PySem.repr_of_reads' rd hs (λ_=>hsm) hg (by omega) (λb o e=>e) (λh' u tk hk=>?_) hz
    exact ⟨.str _,H,I.kept hk,⟨u,rfl⟩,q⟩
def Oc (ds:List D):Option D:=(D.vd (.tup ds)).bind λp=>if p.showable=true∧p.depth≤64∧p.shown.length≤sizeLine then some (.str p.shown) else none
def xg:WS->List D->Option D:=λS xs=>match xs with
  | [.tup ds]=>(u9 S [.tup ds]).orElse λ_=>Oc ds
  | xs=>Js S xs
theorem Jw {K:PySem.W.Frag}:RC K (Pz K) xg:=λas F H S ds d vs I r h Q q=>by
  unfold xg at h
  split at h
  · rename_i es
    cases h1:u9 S [.tup es] with
    | some z=>
      rw [h1] at h
      have e:z=d:=by simpa using h
      subst e
      exact .inl (I0 as F H S _ z vs I r h1 Q q)
    | none=>
      rw [h1] at h
      have h:Oc es=some d:=by simpa using h
      unfold Oc at h
      simp only [Option.bind_eq_some_iff] at h
      obtain ⟨p,e1,h2⟩:=h
      split at h2
      · rename_i hh
        cases h2
        obtain ⟨v,ws,rfl,rv,rn⟩:=r.dG
        obtain rfl:=rn.dR
        cases rv with
        | tup z1 z2=>exact .inr ⟨_,p,rfl,⟨as,F,es,_,rfl,I.ex,.tup z1 z2,e1⟩,hh.1,hh.2.1,hh.2.2,keep I q (.str _)⟩
      · cases h2
  · exact .inl (I0 as F H S _ d vs I r h Q q)
end RV
end
section
namespace RV
open PySem PySem.Spec PyProof.Rows L2
theorem dY.at_ {m:Bool} {h g:Heap} {a:Addr} {xs:Array Value} (q:dY m h a xs) (e:∀ o,h.get? a=some o->g.get? a=some o):dY m g a xs:=by
  cases m
  · exact Heap.IsList.at q e
  · obtain ⟨o,h1,h2⟩:=q
    exact ⟨o,e o h1,h2⟩
section
variable {prog:Program} {w:World} {A:Around} {E:Value->Shared->Prop} {s:Shared} {m1 m2:Bool}
end
section
variable {prog:Program} {w:World}
end
section
variable {K:PySem.W.Frag}
end
end RV
end
section
namespace RV
open PySem PySem.Spec PyProof.Rows L2
theorem OS.sq {K:PySem.W.Frag} {F:Hp} {a:Addr} {xs:List V} (h:OS F a xs):SqT K F a xs:=let ⟨o,h1,_⟩:=h; .inl (.inr ⟨o,h1⟩)
section
variable {X:Cx}
inductive J4 (K:PySem.W.Frag) (H:Hp):List V->List Str->List V->Prop where
  | nil:J4 K H [] [] []
  | cons {b:Addr} {k:Str} {y:V} {xs:List V} {ks:List Str} {ys:List V}:SqT K H b [.str k,y]->J4 K H xs ks ys->J4 K H (.ref b :: xs) (k :: ks) (y :: ys)
theorem J4.mono {K:PySem.W.Frag} {F H:Hp} (e:Ex F H):∀ {xs:List V} {ks:List Str} {ys:List V},J4 K F xs ks ys->J4 K H xs ks ys
  | _,_,_,.nil=>.nil
  | _,_,_,.cons h t=>.cons (e.kT h) (J4.mono e t)
end
end RV
end
section
namespace RV
open PySem PySem.Spec PyProof.Rows L2
section
variable {X:Cx} {W:WX} {nn:Bool} {C:Addr} {k j:Nat} {G:List D->M} {a b:Expr} {pos:Pos} {ea eb:RV.Env->M}
end
end RV
end
section
namespace RV
open PySem L2 PySem.W
section
variable {prog:Program} {w:World} {A:Around} {E:Value->Shared->Prop} {s:Shared} {K:PySem.W.Frag} {x C L f dx:Addr} {od:Obj}
end
section
variable {X:Cx} {W:WX} {nn:Bool} {C:Addr} {k j:Nat} {G:List D->M}
end
end RV
end
section
namespace RV
open PySem PyProof.Rows L2
def IX (d:D) (S:WS) (q:List D->(WS->Prop)->Prop):Prop:=match d with
  | .lst ds=>q ds cB
  | .scr ns=>q (ns.map D.int) cB
  | .cell k=>gx S[k]? λc=>sA c λds=>q ds (Holds k ds)
  | _=>False
theorem UG {d:D} {S:WS} {q:List D->(WS->Prop)->Prop} (h:IX d S q):oE d S λm xs N=>m=false∧q xs N:=by
  cases d with
  | lst ds=>exact ⟨rfl,h⟩
  | scr ns=>exact ⟨rfl,h⟩
  | cell k=>
    obtain ⟨c,hS,h2⟩:=bT h
    show gx S[k]? _
    rw [hS]
    cases c with
    | lst ds=>exact ⟨rfl,h2⟩
    | _=>exact h2.elim
  | _=>exact h.elim
theorem KH {K:PySem.W.Frag} {as:List Addr} {F:Hp} {a:Addr} {ds:List D} {N:WS->Prop} (h1:BD K false as F a ds N):Walks K (Ite K a) as F (gS 0 ds) N:=by
  refine ⟨λbs F2 H2 S2 I e p n=>?_,λi hi bs F2 H2 S2 I e p n=>?_,λi d hd bs F2 H2 S2 I e p n x H' y=>?_⟩
  · obtain ⟨xs,q1,r1⟩:=h1.at_ bs F2 H2 S2 I e p n
    refine ⟨xs,q1,?_⟩
    rw [mE,r1.length]
    exact Nat.le_refl _
  · obtain ⟨xs,q1,r1⟩:=h1.at_ bs F2 H2 S2 I e p n
    rw [mE,r1.length] at hi
    exact ⟨xs,xs[i],q1,List.getElem?_eq_getElem hi⟩
  · obtain ⟨xs,q1,r1⟩:=h1.at_ bs F2 H2 S2 I e p n
    obtain ⟨B,yv,rfl,hB,rfl,hy⟩:=y
    rw [C5] at hd
    simp only [Option.map_eq_some_iff] at hd
    obtain ⟨d',hd',rfl⟩:=hd
    obtain ⟨v,hv,rv⟩:=r1.get hd'
    have:=hy xs q1
    rw [hv] at this
    cases this
    have g2:=I.grow (o:=.tup [.int (i:Nat),yv]) hB
    refine ⟨_,g2,.tup (SqT.of upd_same) (.cons ?_ (.cons (rv.mono g2.ex g2.pre) .nil))⟩
    rw [Nat.zero_add]
    exact .int _
def EV (er:RV.Env->ML):RV.Env->MW:=λρ S q x=>er ρ S (λds S1=>G2 ds λd=>IX d S1 λxs N1=>q (gS 0 xs) N1 S1) x
theorem RB {X:Cx} {W:WX} {e:Expr} {er:RV.Env->ML} {p pos tpos:Pos} {elts:List Expr} {kk:Nat} (nm:X.mg "enumerate"=none) (ha:GA X W [e] er) (gl:Gl X "enumerate":=by rfl) (st:starEach [e] X.env=[(false,eval e X.env)]:=by rfl):
    GI X W (.Tuple elts kk tpos) (.Call (.Name "enumerate" p) [e] [] pos) (EV er):=by
  obtain ⟨t,pa,m⟩:=ha
  refine ⟨_,pi_enum gl nm pa st,λas F H S ρ σ I R q x h Q hq hx=>?_⟩
  refine m as F H S ρ σ I R _ x h _ (λds S1 bs F1 H1 vs h1 g r=>?_) hx
  obtain ⟨y,rfl,h1⟩:=Bh h1
  replace h1:IX y S1 λxs N1=>q (gS 0 xs) N1 S1:=h1
  obtain ⟨v,ws,rfl,rv,rn⟩:=r.dG
  obtain rfl:=rn.dR
  obtain ⟨a,m1,xs,N1,rfl,st1,⟨us1,qs1⟩,e1,h1⟩:=wR g.sit rv (UG h1)
  subst e1
  exact ⟨a,us1,rfl,qs1,hq _ _ S1 bs F1 H1 _ h1 g (KH st1)⟩
end RV
end
section
namespace RV
open PySem PyProof.Rows L2 PySem.Spec
section
variable {X:Cx} {W:WX} {o e1 e2:Expr} {ps pos apos:Pos} {eo m1 m2:RV.Env->M} {C:Addr} {m:Str} {k j:Nat} {G:List D->M}
end
end RV
end
section
namespace RV
open PySem PyProof.Rows L2
section
variable {X:Cx} {W:WX} {o e:Expr} {pos apos:Pos} {to te:TE} {eo ee:RV.Env->M}
end
end RV
end
section
namespace RV
open PySem PySem.Spec PyProof.Rows L2
abbrev j6 (h:Heap) (z TI TO:Addr) (f0:Value):Prop:=h.get? z=some {cls:=.type "zip",dict:=none,data:=.fields #[f0,.bool false,.bool true,.ref TI,.ref TO],slots:=#[]}
section
variable {prog:Program} {w:World} {A:Around} {E:Value->Shared->Prop} {s:Shared} {m m1 m2:Bool}
theorem WU {elts:List Expr} {x1} {pos:Pos} {z TI TO T:Addr} {Q:Unit->Shared->Prop} (hz:j6 s.heap z TI TO (rawInt T))
    (hQ:∀ h',j6 h' z TI TO .none->Heap.SameBut z s.heap h'->Q () {s with heap:=h'}):
    wpAny (model prog w) A (letOwnedTupleGo (.Tuple elts x1 pos) (.ref z) (.ref T)) Q E s:=by
  unfold letOwnedTupleGo
  refine wpAny_bind (wpAny_load hz ?_)
  show wpAny _ _ (if (["enumerate","zip","dict_itemiterator","dict_reverseitemiterator","odict_iterator","itertools.zip_longest","itertools.pairwise"].contains "zip" &&
      (#[rawInt T,.bool false,.bool true,.ref TI,.ref TO]:Array Value)[0]? == some (rawInt T))=true then _ else _) Q E s
  rw [if_pos (by simp)]
  refine wpAny_bind (wpAny_rule ?_)
  show wpAny _ _ (setField (.ref z) 0 .none) Q E s
  exact wpAny_setField_rec hz (by simp) λh' hz' hs'=>hQ h' hz' hs'
theorem Sw {z TI TO:Addr} {f0:Value} {Q:Value->Shared->Prop} (hz:j6 s.heap z TI TO f0) (h:Q (.ref z) s):wpAny (model prog w) A (pyIter (.ref z)) Q E s:=by
  have hT:s.TypeIs (.ref z) "zip":=⟨_,hz,rfl⟩
  refine wpAny_pyIter_slot hT F.slot_zip_iter (wpAny_call_entry F.slot_zip_iter hT F.entry_zip_iter ?_ (F.args_zip_iter_1 _))
  show wpAny _ _ (ret (.ref z)) _ _ s
  exact wpAny_pure ⟨_,rfl,"zip",_,hT,F.slot_zip_next.lookup,h⟩
theorem B4 {i l:Addr} {n:Nat} {its:Array Value} {x:Value} {Q:Option Value->Shared->Prop} (j:cH m s.heap i l n) (jl:dY m s.heap l its) (jx:its[n]? =some x)
    (q:∀ g,cH m g i l (n+1)->Heap.SameBut i s.heap g->Q (some x) {s with heap:=g}):wpAny (model prog w) A (Builtin.SmallTypes.nextOrEnd (.ref i)) Q E s:=by
  unfold Builtin.SmallTypes.nextOrEnd
  exact wpAny_bind (wpAny_attempt (xU j jl jx λg a b=>wpAny_pure (q g a b)))
theorem EF {i l:Addr} {n:Nat} {its:Array Value} {Q:Option Value->Shared->Prop} (jh:A.handled=none) (j:cH m s.heap i l n) (jl:dY m s.heap l its) (jx:its[n]? =none)
    (q:∀ g,Heap.ExtBut i s.heap g->Q none {s with heap:=g}):wpAny (model prog w) A (Builtin.SmallTypes.nextOrEnd (.ref i)) Q E s:=by
  unfold Builtin.SmallTypes.nextOrEnd
  refine wpAny_bind (wpAny_attempt (Bo jh j jl jx λg e t he=>?_))
  obtain ⟨o,ho,hc⟩:=he
  exact wpAny_bind (wpAny_isInstance (T:="StopIteration") (b:=true) ⟨o,ho,hc⟩ isSubtype_stop (wpAny_pure (q g t)))
theorem VT {α:Type} {Q:α->Shared->Prop} (hh:A.handled=none)
    (q:∀ g e,(∀ c o,s.heap.get? c=some o->g.get? c=some o)->(∃ o,g.get? e=some o∧o.cls=.type "StopIteration")->E (.ref e) {s with heap:=g}):wpAny (model prog w) A (Builtin.SmallTypes.stopIteration:Sem α) Q E s:=by
  show wpAny _ _ (newExc (.type "StopIteration") [] >>= _) _ _ _
  refine wpAny_bind ?_
  simp only [newExc,newTuple]
  refine wpAny_bind (wpAny_newObj_type ?_ (by size_fits))
  refine wpAny_bind (m:=firstArgMember _ _) (wpAny_of_eq (a:=Value.none) (by first | rfl | (simp only [firstArgMember]; rfl)) ?_)
  refine wpAny_newObj_type ?_ (by size_fits)
  simp only [raiseNew]
  refine wpAny_bind (wpAny_handled ?_)
  rw [hh]
  refine wpAny_bind (wpAny_pure (wpAny_throw ?_))
  exact q _ _ (λc o e=>Heap.get?_push_of_some _ (Heap.get?_push_of_some _ e)) ⟨_,Heap.get?_push_size _ rfl,rfl⟩
theorem Pk {z TI TO i1 i2 l1 l2:Addr} {n:Nat} {xs ys:Array Value} {a b:Value} (D:ZipApart z TI TO i1 i2 l1 l2) (jz:j6 s.heap z TI TO .none) (ji:IsPair s.heap TI (.ref i1) (.ref i2)) (jo:IsPair s.heap TO a b)
    (j1:cH m1 s.heap i1 l1 n) (j2:cH m2 s.heap i2 l2 n) (jl1:dY m1 s.heap l1 xs) (jl2:dY m2 s.heap l2 ys) (hl:xs.size=ys.size) {Q:Fin->Shared->Prop}
    (qi:∀ x y,xs[n]? =some x->ys[n]? =some y->∀ g,j6 g z TI TO (rawInt s.heap.objs.size)->IsPair g TO x y->cH m1 g i1 l1 (n+1)->cH m2 g i2 l2 (n+1)->IsPair g s.heap.objs.size x y->g.objs.size=s.heap.objs.size+1->
      (∀ c o,c≠z->c≠TO->c≠i1->c≠i2->s.heap.get? c=some o->g.get? c=some o)->Q (.done (.ret (.ref s.heap.objs.size))) {s with heap:=g})
    (qe:(xs[n]? =none∨ys[n]? =none)->A.handled=none∧∀ g e,(∀ c o,c≠z->c≠TO->c≠i1->c≠i2->s.heap.get? c=some o->g.get? c=some o)->(∃ o,g.get? e=some o∧o.cls=.type "StopIteration")->E (.ref e) {s with heap:=g}):
    wpAny (model prog w) A (Builtin.«zip.__next__» ⟨[.ref z],[]⟩) Q E s:=by
  show wpAny _ _ (field (.ref z) 2 >>= _) _ _ s
  refine wpAny_bind (wpAny_field jz rfl (x:=.bool true) rfl ?_)
  show wpAny _ _ (field (.ref z) 3 >>= _) _ _ s
  refine wpAny_bind (wpAny_field jz rfl (x:=.ref TI) rfl (wpAny_bind (wpAny_seqItems ji rfl ?_)))
  show wpAny _ _ (Builtin.SmallTypes.ownedTupleIsFree (.ref z) >>= _) _ _ s
  refine wpAny_bind ?_
  unfold Builtin.SmallTypes.ownedTupleIsFree
  refine wpAny_bind (wpAny_field jz rfl (x:=.none) rfl (wpAny_pure ?_))
  simp only [if_true]
  refine wpAny_bind (wpAny_rule (wpAny_bind (wpAny_field jz rfl (x:=.ref TO) rfl ?_)))
  refine wpAny_bind (wpAny_setField_rec jz (by simp) λg1 jz1 t1=>?_)
  replace jz1:j6 g1 z TI TO .ellipsis:=jz1
  have e1:=t1.extBut
  refine wpAny_bind ?_
  simp only [List.zipIdx_cons,List.zipIdx_nil,List.forIn_cons,List.forIn_nil]
  refine wpAny_bind (wpAny_bind (wpAny_onRaise ?_))
  show wpAny _ _ (Builtin.SmallTypes.nextOrEnd (.ref i1)) _ _ _
  have k1:cH m1 g1 i1 l1 n:=j1.eb e1 D.i1z
  have kl1:dY m1 g1 l1 xs:=jl1.eb e1 D.l1z
  cases hx:xs[n]? with
  | none=>
    obtain ⟨hh,qe⟩:=qe (.inl hx)
    have hy:ys[n]? =none:=by
      rw [Array.getElem?_eq_none_iff] at hx ⊢
      omega
    refine EF hh k1 kl1 hx λg2 t2=>?_
    have jz2:j6 g2 z TI TO .ellipsis:=t2 _ _ D.i1z.symm jz1
    dsimp only
    refine wpAny_bind (wpAny_setField_rec jz2 (by simp) λg3 _ t3=>?_)
    refine wpAny_bind ?_
    show wpAny _ _ (forIn [(Value.ref i2,1)] _ _ >>= _) _ _ _
    simp only [List.forIn_cons,List.forIn_nil]
    have e3:=t3.extBut
    have k2:cH m2 g3 i2 l2 n:=((j2.eb e1 D.i2z).eb t2 D.i12.symm).eb e3 D.i2z
    have kl2:dY m2 g3 l2 ys:=((jl2.eb e1 D.l2z).eb t2 D.l2i1).eb e3 D.l2z
    refine wpAny_bind (wpAny_bind (wpAny_bind (EF hh k2 kl2 hy λg4 t4=>?_)))
    refine wpAny_pure (wpAny_pure (wpAny_bind (wpAny_rule (VT hh λg5 e t5 he=>?_))))
    exact qe g5 e (λc o c1 _ c3 c4 q=>t5 _ _ (t4 _ _ c4 (e3 _ _ c1 (t2 _ _ c3 (e1 _ _ c1 q))))) he
  | some x=>
    refine B4 k1 kl1 hx λg2 u1 t2=>?_
    have e2:=t2.extBut
    have jo2:IsPair g2 TO a b:=e2 _ _ D.TOi1 (e1 _ _ D.TOz jo)
    refine wpAny_bind (wpAny_seqItems jo2 rfl (wpAny_bind (wpAny_updateSeq_pair jo2 λg3 jo3 t3=>?_)))
    replace jo3:IsPair g3 TO x b:=jo3
    have e3:=t3.extBut
    refine wpAny_bind (wpAny_letGo (wpAny_pure (wpAny_bind (wpAny_bind (wpAny_onRaise ?_)))))
    show wpAny _ _ (Builtin.SmallTypes.nextOrEnd (.ref i2)) _ _ _
    have k2:cH m2 g3 i2 l2 n:=((j2.eb e1 D.i2z).eb e2 D.i12.symm).eb e3 D.TOi2.symm
    have kl2:dY m2 g3 l2 ys:=((jl2.eb e1 D.l2z).eb e2 D.l2i1).eb e3 D.l2TO
    cases hy:ys[n]? with
    | none=>
      exfalso
      rw [Array.getElem?_eq_none_iff] at hy
      have:=(Array.getElem?_eq_some_iff.mp hx).1
      omega
    | some y=>
      refine B4 k2 kl2 hy λg4 u2 t4=>?_
      have e4:=t4.extBut
      have jo4:IsPair g4 TO x b:=e4 _ _ D.TOi2 jo3
      refine wpAny_bind (wpAny_seqItems jo4 rfl (wpAny_bind (wpAny_updateSeq_pair jo4 λg5 jo5 t5=>?_)))
      replace jo5:IsPair g5 TO x y:=jo5
      have e5:=t5.extBut
      refine wpAny_bind (wpAny_letGo (wpAny_pure (wpAny_pure (wpAny_bind (wpAny_seqItems jo5 rfl (wpAny_bind (wpAny_newTuple ?_)))))))
      have sz:g5.objs.size=s.heap.objs.size:=by rw [t5.1,t4.1,t3.1,t2.1,t1.1]
      have jz5:j6 g5 z TI TO .ellipsis:=e5 _ _ D.TOz.symm (e4 _ _ D.i2z.symm (e3 _ _ D.TOz.symm (e2 _ _ D.i1z.symm jz1)))
      have up5:∀ c o,c≠z->c≠TO->c≠i1->c≠i2->s.heap.get? c=some o->g5.get? c=some o:=λc o c1 c2 c3 c4 q=>e5 _ _ c2 (e4 _ _ c4 (e3 _ _ c2 (e2 _ _ c3 (e1 _ _ c1 q))))
      have v1:cH m1 g5 i1 l1 (n+1):=((u1.eb e3 D.TOi1.symm).eb e4 D.i12).eb e5 D.TOi1.symm
      have v2:cH m2 g5 i2 l2 (n+1):=u2.eb e5 D.TOi2.symm
      have zlt:z < g5.objs.size:=Heap.lt_size jz5
      show wpAny _ _ (Builtin.SmallTypes.ownedTupleHandOut (.ref z) (.ref g5.objs.size) >>= _) _ _ _
      refine wpAny_bind ?_
      unfold Builtin.SmallTypes.ownedTupleHandOut
      have jz6:j6 (g5.push {cls:=.type "tuple",data:=.seq #[x,y]}) z TI TO .ellipsis:=Heap.get?_push_of_some _ jz5
      refine wpAny_bind (wpAny_setField_rec jz6 (by simp) λg7 jz7 t7=>?_)
      replace jz7:j6 g7 z TI TO (rawInt g5.objs.size):=jz7
      refine wpAny_setField_rec jz7 (by simp) λg8 jz8 t8=>?_
      replace jz8:j6 g8 z TI TO (rawInt g5.objs.size):=jz8
      have up:∀ c o,c≠z->g5.get? c=some o->g8.get? c=some o:=λc o c1 q=>t8.extBut _ _ c1 (t7.extBut _ _ c1 (Heap.get?_push_of_some _ q))
      have jT:IsPair g8 g5.objs.size x y:=t8.extBut _ _ (Nat.ne_of_gt zlt) (t7.extBut _ _ (Nat.ne_of_gt zlt) (Heap.get?_push_size _ rfl))
      have sz8:g8.objs.size=g5.objs.size+1:=by rw [t8.1,t7.1,Heap.size_push]
      rw [sz] at jz8 jT sz8
      refine wpAny_pure ?_
      show Q (.done (.ret (.ref g5.objs.size))) _
      rw [sz]
      exact qi x y hx hy g8 jz8 (up _ _ D.TOz jo5) (v1.at_ λo q=>up _ o D.i1z q) (v2.at_ λo q=>up _ o D.i2z q) jT sz8 λc o c1 c2 c3 c4 q=>up c o c1 (up5 c o c1 c2 c3 c4 q)
theorem LZ {z TI TO i1 i2 l1 l2:Addr} {n:Nat} {xs ys:Array Value} {a b:Value} (D:ZipApart z TI TO i1 i2 l1 l2) (jz:j6 s.heap z TI TO .none) (ji:IsPair s.heap TI (.ref i1) (.ref i2)) (jo:IsPair s.heap TO a b)
    (j1:cH m1 s.heap i1 l1 n) (j2:cH m2 s.heap i2 l2 n) (jl1:dY m1 s.heap l1 xs) (jl2:dY m2 s.heap l2 ys) (hl:xs.size=ys.size) {Q:Option Value->Shared->Prop}
    (qi:∀ x y,xs[n]? =some x->ys[n]? =some y->∀ g,j6 g z TI TO (rawInt s.heap.objs.size)->IsPair g TO x y->cH m1 g i1 l1 (n+1)->cH m2 g i2 l2 (n+1)->IsPair g s.heap.objs.size x y->g.objs.size=s.heap.objs.size+1->
      (∀ c o,c≠z->c≠TO->c≠i1->c≠i2->s.heap.get? c=some o->g.get? c=some o)->Q (some (.ref s.heap.objs.size)) {s with heap:=g})
    (qe:(xs[n]? =none∨ys[n]? =none)->A.handled=none∧∀ g,(∀ c o,c≠z->c≠TO->c≠i1->c≠i2->s.heap.get? c=some o->g.get? c=some o)->Q none {s with heap:=g}):
    wpAny (model prog w) A (pyNext (.ref z)) Q E s:=by
  have jT:s.TypeIs (.ref z) "zip":=⟨_,jz,rfl⟩
  unfold pyNext
  refine wpAny_bind (wpAny_attempt (wpAny_callSpecial?_slot (name:=Str.ofString "__next__") jT F.slot_zip_next (wpAny_call_entry F.slot_zip_next jT F.entry_zip_next
    (Pk D jz ji jo j1 j2 jl1 jl2 hl (λx y hx hy g a1 a2 a3 a4 a5 a6 a7=>⟨_,rfl,wpAny_pure (qi x y hx hy g a1 a2 a3 a4 a5 a6 a7)⟩) λhe=>⟨?_,λg e hk hs=>?_⟩) (F.args_zip_next_1 _))))
  · exact (qe he).1
  · obtain ⟨o,ho,hc⟩:=hs
    exact wpAny_bind (wpAny_isInstance (T:="StopIteration") (b:=true) ⟨o,ho,hc⟩ isSubtype_stop (wpAny_pure ((qe he).2 _ hk)))
end
def yf (h:Heap) (m1 m2:Bool) (l1 l2:Addr):Heap:=(vt h m1 m2 l1 l2).push {cls:=.type "zip",data:=.fields #[.none,.bool false,.bool true,.ref (pO h m1 m2 l1 l2).objs.size,.ref (sD h m1 m2 l1 l2).objs.size]}
theorem Ia (a b:Value):checkTypeCall "zip" ⟨[a,b],[(Str.ofString "strict",.bool true)]⟩=pure ():=by kernel_rfl
theorem II (a b:Value):checkBuiltinCall "zip.__new__" ⟨[.type "zip",a,b],[(Str.ofString "strict",.bool true)]⟩=pure ():=by kernel_rfl
theorem HR (obj a b:Value):argsOk "object.__init__" ⟨[obj,a,b],[(Str.ofString "strict",.bool true)]⟩:=by unfold argsOk; kernel_rfl
theorem Wk (m1 m2:Bool) (l1 l2:Addr) (xs ys:Array Value):
    Meets (Builtin.«zip.__new__» ⟨[.type "zip",.ref l1,.ref l2],[(Str.ofString "strict",.bool true)]⟩) (λ_ R s=>dY m1 s.heap l1 xs∧dY m2 s.heap l2 ys∧R (.ok (.ret (.ref (vt s.heap m1 m2 l1 l2).objs.size))) {s with heap:=yf s.heap m1 m2 l1 l2}):=
  .of_wp λprog w A R s z=>by
    obtain ⟨hp,g,d,tk,os⟩:=s
    obtain ⟨z1,z2,z⟩:=z
    have hsub:=sub_zip
    have e2:(Str.ofString "strict" != ("strict":Str))=false:=by decide+kernel
    have y2:=z2.push {cls:=.type (jP m1),data:=.fields #[.ref l1,.int 0 0]}
    have J1:∀ {A:Around} {E:Value->Shared->Prop} {Q:Value->Shared->Prop},Q (.ref hp.objs.size) ⟨hp.push {cls:=.type (jP m1),data:=.fields #[.ref l1,.int 0 0]},g,d,tk,os⟩->wpAny (model prog w) A (pyIter (.ref l1)) Q E ⟨hp,g,d,tk,os⟩:=λq=>iterM (s:=⟨hp,g,d,tk,os⟩) z1 q
    have J2:∀ {A:Around} {E:Value->Shared->Prop} {Q:Value->Shared->Prop},Q (.ref (nN hp m1 l1).objs.size) ⟨pO hp m1 m2 l1 l2,g,d,tk,os⟩->wpAny (model prog w) A (pyIter (.ref l2)) Q E ⟨hp.push {cls:=.type (jP m1),data:=.fields #[.ref l1,.int 0 0]},g,d,tk,os⟩:=λq=>iterM (s:=⟨hp.push {cls:=.type (jP m1),data:=.fields #[.ref l1,.int 0 0]},g,d,tk,os⟩) y2 q
    wp_walk using J1,J2
    exact ⟨_,rfl,z⟩
section
variable {prog:Program} {w:World} {A:Around} {E:Value->Shared->Prop} {s:Shared} {m1 m2:Bool}
theorem OV {l1 l2:Addr} {xs ys:Array Value} {Q:Value->Shared->Prop} (jl1:dY m1 s.heap l1 xs) (jl2:dY m2 s.heap l2 ys)
    (q:∀ g,j6 g (s.heap.objs.size+4) (s.heap.objs.size+2) (s.heap.objs.size+3) .none->IsPair g (s.heap.objs.size+2) (.ref s.heap.objs.size) (.ref (s.heap.objs.size+1))->IsPair g (s.heap.objs.size+3) .none .none->
      cH m1 g s.heap.objs.size l1 0->cH m2 g (s.heap.objs.size+1) l2 0->(∀ c o,s.heap.get? c=some o->g.get? c=some o)->Q (.ref (s.heap.objs.size+4)) {s with heap:=g}):wpAny (model prog w) A (call (.type "zip") [.ref l1,.ref l2] [(Str.ofString "strict",.bool true)]) Q E s:=by
  refine callType_newKw F.called_zip (by decide) (Ia _ _) (II _ _) (λobj=>HR obj _ _) F.entry_zip_new (Wk m1 m2 l1 l2 xs ys) ⟨jl1,jl2,?_⟩
  have n1:(nN s.heap m1 l1).objs.size=s.heap.objs.size+1:=Heap.size_push ..
  have n2:(pO s.heap m1 m2 l1 l2).objs.size=s.heap.objs.size+2:=(Heap.size_push ..).trans (congrArg (· +1) n1)
  have n3:(sD s.heap m1 m2 l1 l2).objs.size=s.heap.objs.size+3:=(Heap.size_push ..).trans (congrArg (· +1) n2)
  have n4:(vt s.heap m1 m2 l1 l2).objs.size=s.heap.objs.size+4:=(Heap.size_push ..).trans (congrArg (· +1) n3)
  have p1:∀ {c o},(nN s.heap m1 l1).get? c=some o->(yf s.heap m1 m2 l1 l2).get? c=some o:=λe=>Heap.get?_push_of_some _ (Heap.get?_push_of_some _ (Heap.get?_push_of_some _ (Heap.get?_push_of_some _ e)))
  have g5:(yf s.heap m1 m2 l1 l2).get? (vt s.heap m1 m2 l1 l2).objs.size=some {cls:=.type "zip",data:=.fields #[.none,.bool false,.bool true,.ref (pO s.heap m1 m2 l1 l2).objs.size,.ref (sD s.heap m1 m2 l1 l2).objs.size]}:=Heap.get?_push_size _ rfl
  have g4:(yf s.heap m1 m2 l1 l2).get? (sD s.heap m1 m2 l1 l2).objs.size=some {cls:=.type "tuple",data:=.seq #[.none,.none]}:=Heap.get?_push_of_some _ (Heap.get?_push_size _ rfl)
  have g3:(yf s.heap m1 m2 l1 l2).get? (pO s.heap m1 m2 l1 l2).objs.size=some {cls:=.type "tuple",data:=.seq #[.ref s.heap.objs.size,.ref (nN s.heap m1 l1).objs.size]}:=Heap.get?_push_of_some _ (Heap.get?_push_of_some _ (Heap.get?_push_size _ rfl))
  have g2:(yf s.heap m1 m2 l1 l2).get? (nN s.heap m1 l1).objs.size=some {cls:=.type (jP m2),data:=.fields #[.ref l2,.int 0 0]}:=Heap.get?_push_of_some _ (Heap.get?_push_of_some _ (Heap.get?_push_of_some _ (Heap.get?_push_size _ rfl)))
  have g1:(yf s.heap m1 m2 l1 l2).get? s.heap.objs.size=some {cls:=.type (jP m1),data:=.fields #[.ref l1,.int 0 0]}:=p1 (Heap.get?_push_size _ rfl)
  show _∧_
  rw [n4,n2,n3] at g5
  rw [n3] at g4
  rw [n2,n1] at g3
  rw [n1] at g2
  rw [n4]
  exact ⟨⟨_,g5,rfl⟩,q _ g5 g3 g4 (BK g1) (BK g2) λc o e=>p1 (Heap.get?_push_of_some _ e)⟩
end
def QA (K:PySem.W.Frag) (m1 m2:Bool) (a b:Addr):It:=
  ⟨λi H=>∃ (xs ys:List V) (x y:V),nE K m1 H a xs∧nE K m2 H b ys∧xs.length=ys.length∧xs[i]? =some x∧ys[i]? =some y,
    λi H v H'=>∃ T x y,v=.ref T∧H T=none∧H'=upd H T (.tup [x,y])∧(∀ xs,nE K m1 H a xs->xs[i]? =some x)∧∀ ys,nE K m2 H b ys->ys[i]? =some y,
    λi H=>∃ xs ys:List V,nE K m1 H a xs∧nE K m2 H b ys∧xs.length=ys.length∧xs.length≤i⟩
theorem XY {P:Program} {w:World} {K:PySem.W.Frag} {elts:List Expr} {kk:Nat} {tpos:Pos} {m1 m2:Bool} {a b z TI TO i1 i2:Addr} (D:ZipApart z TI TO i1 i2 a b):
    Turn P w K (.Tuple elts kk tpos) (QA K m1 m2 a b) [z,TI,TO,i1,i2] z (λi h=>j6 h z TI TO .none∧IsPair h TI (.ref i1) (.ref i2)∧(∃ x y,IsPair h TO x y)∧cH m1 h i1 a i∧cH m2 h i2 b i) where
  mem:=by simp
  obj:=λi h st c hc=>by
    obtain ⟨jz,ji,⟨x,y,jo⟩,j1,j2⟩:=st
    simp only [List.mem_cons,List.not_mem_nil,or_false] at hc
    rcases hc with rfl | rfl | rfl | rfl | rfl
    · exact ⟨_,jz,λv q=>nomatch q⟩
    · exact ⟨_,ji,λv q=>nomatch q⟩
    · exact ⟨_,jo,λv q=>nomatch q⟩
    · exact j1.obj
    · exact j2.obj
  keep:=λi h h' st k=>by
    obtain ⟨jz,ji,⟨x,y,jo⟩,j1,j2⟩:=st
    exact ⟨k z (by simp) _ jz,k TI (by simp) _ ji,⟨x,y,k TO (by simp) _ jo⟩,j1.at_ λo q=>k i1 (by simp) o q,j2.at_ λo q=>k i2 (by simp) o q⟩
  item:=  by
    intro X hP hw hK hc i pins s σ H E I hf st hg
    subst hP hw hK
    obtain ⟨jz,ji,⟨x0,y0,jo⟩,j1,j2⟩:=st
    obtain ⟨xs,ys,x,y,qx,qy,hl,hx,hy⟩:=hg
    obtain ⟨its,rv,p⟩:=rF I qx
    obtain ⟨its2,rv2,p2⟩:=rF I qy
    obtain ⟨u,hu,ru⟩:=rv.get hx
    obtain ⟨u2,hu2,ru2⟩:=rv2.get hy
    have zlt:z < s.heap.objs.size:=Heap.lt_size jz
    have hu':its.toArray[i]? =some u:=by simpa using hu
    have hu2':its2.toArray[i]? =some u2:=by simpa using hu2
    have hsz:its.toArray.size=its2.toArray.size:=by
      have n1:=rv.length
      have n2:=rv2.length
      simp only [List.size_toArray]
      omega
    refine LZ D jz ji jo j1 j2 p p2 hsz (λx1 y1 hx1 hy1 g z' TO' j1' j2' jT sz up=>?_) λhe=>?_
    · rw [hu'] at hx1
      rw [hu2'] at hy1
      cases hx1
      cases hy1
      refine ⟨_,rfl,WU (s:={s with heap:=g}) z' λg2 z'' sb=>?_⟩
      have jT2:g2.get? s.heap.objs.size=some {cls:=.type "tuple",data:=.seq #[u,u2]}:=(sb.2 _ (Nat.ne_of_gt zlt)).trans jT
      have new:ObjOk X.prog X.w (upd H s.heap.objs.size (.tup [x,y])) g2 s.heap.objs.size (.tup [x,y]):=⟨by show 2≤sizeLine; decide,[u,u2],.cons ru (.cons ru2 .nil),⟨_,jT2,rfl,_,rfl⟩⟩
      have I1:Inv X pins σ (upd H s.heap.objs.size (.tup [x,y])) {s with heap:=g2}:=
        I.turnedNew (t':=s.toks) (ch:=[z,TI,TO,i1,i2]) (λc o hb q=>by
          simp only [List.mem_cons,List.not_mem_nil,or_false,not_or] at hb
          exact (sb.2 c hb.1).trans (up c o hb.1 hb.2.2.1 hb.2.2.2.1 hb.2.2.2.2 q)) hf (Nat.le_refl _) new
      refine ⟨.ref s.heap.objs.size,_,I1,rfl,⟨_,x,y,rfl,I.hok.fresh (Nat.le_refl _),rfl,λl hl=>by rw [x9 I hl qx]; exact hx,λl hl=>by rw [x9 I hl qy]; exact hy⟩,⟨z'',?_,⟨u,u2,?_⟩,?_,?_⟩,λc hcm=>?_⟩
      · exact (sb.2 _ D.TIz).trans (up _ _ D.TIz D.TITO D.TIi1 D.TIi2 ji)
      · exact (sb.2 _ D.TOz).trans TO'
      · exact j1'.at_ λo q=>(sb.2 _ D.i1z).trans q
      · exact j2'.at_ λo q=>(sb.2 _ D.i2z).trans q
      · have hlt:c < s.heap.objs.size:=by
          simp only [List.mem_cons,List.not_mem_nil,or_false] at hcm
          rcases hcm with rfl | rfl | rfl | rfl | rfl
          · exact zlt
          · exact Heap.lt_size ji
          · exact Heap.lt_size jo
          · obtain ⟨_,e1,_⟩:=j1.obj
            exact Heap.lt_size e1
          · obtain ⟨_,e1,_⟩:=j2.obj
            exact Heap.lt_size e1
        rw [upd_ne (Nat.ne_of_lt hlt)]
        exact (hf c hcm).1
    · rw [hu',hu2'] at he
      rcases he with he | he <;> cases he
  done:=by
    intro X hP hw hK hc i pins s σ H E I hf st hg
    subst hP hw hK
    obtain ⟨jz,ji,⟨x0,y0,jo⟩,j1,j2⟩:=st
    obtain ⟨xs,ys,qx,qy,hl,hend⟩:=hg
    obtain ⟨its,rv,p⟩:=rF I qx
    obtain ⟨its2,rv2,p2⟩:=rF I qy
    have n1:=rv.length
    have n2:=rv2.length
    have hsz:its.toArray.size=its2.toArray.size:=by
      simp only [List.size_toArray]
      omega
    refine LZ D jz ji jo j1 j2 p p2 hsz (λx1 y1 hx1 hy1=>?_) λ_=>⟨I.ok.hd hc,λg up=>⟨rfl,I.turnedL (t':=s.toks) (ch:=[z,TI,TO,i1,i2]) (λc o hb q=>?_) hf⟩⟩
    · exfalso
      have hx1:=(Array.getElem?_eq_some_iff.mp hx1).1
      simp only [List.size_toArray] at hx1
      omega
    · simp only [List.mem_cons,List.not_mem_nil,or_false,not_or] at hb
      exact up c o hb.1 hb.2.2.1 hb.2.2.2.1 hb.2.2.2.2 q
  self:=λA i s Q E st q=>Sw st.1 q
def Vb (K:PySem.W.Frag) (ta:TA):TI:=λσ H R=>ta σ H λvs H1=>∃ m1 m2 a b xs ys,vs=[.ref a,.ref b]∧nE K m1 H1 a xs∧nE K m2 H1 b ys∧R (QA K m1 m2 a b) H1
theorem EK {M:Model} {A:Around} {E:Value->Shared->Prop} {s:Shared} {env:PySem.Env} {pos:Pos} {T:String} {e:Expr} {rest:List Expr} {kws:List Keyword} {Q:Value->Shared->Prop}
    (h:wpAny M A (spliced (backTo pos (starEach (e :: rest) env))) (λvs s₁=>wpAny M A (evalAll ((backToKw pos (keywordEach kws env)).map (·.2)))
      (λkvs s₂=>wpAny M A (call (.type T) vs (((backToKw pos (keywordEach kws env)).filterMap (·.1)).zip kvs)) Q E s₂) E s₁) E s)
    (he:backTo pos (starEach (e :: rest) env)=(false,eval e env) :: backTo pos (starEach rest env))
    (hplain:(backTo pos (starEach (e :: rest) env)).any (·.1)=false)
    (hall:(backToKw pos (keywordEach kws env)).all (·.1.isSome)=true)
    (hkw:(backToKw pos (keywordEach kws env)).any (·.1.isNone)=false):
    wpAny M A (callWith pos (.type T) [] (backTo pos (starEach (e :: rest) env)) (backToKw pos (keywordEach kws env))) Q E s:=by
  unfold callWith
  rw [he] at h hplain ⊢
  refine wpAny_bind (wpAny_holding (wpAny_mono (evalArgs_kwB (Q:=λa s₂=>wpAny M A (call (.type T) ([]++a.pos) a.kw) Q E s₂) hall h) (λa s₁ h₁=>wpAny_bind (wpAny_standAt ?_)) λ_ _ x=>x))
  simp only [hplain,hkw,Bool.or_false]
  refine wpAny_bind (wpAny_pure ?_)
  exact wpAny_bind (wpAny_mono h₁ (λr s₂ hr=>wpAny_bind (wpAny_holding (wpAny_point (wpAny_pure hr)))) λ_ _ x=>x)
theorem Ub {X:Cx} {e e2:Expr} {ta:TA} {p pos tpos p1 p2:Pos} {j:Nat} {elts:List Expr} {kk:Nat} (hg:Gl X "zip") (hm:X.mg "zip"=none) (ha:PA X [e,e2] ta)
    (hs:starEach [e,e2] X.env=(false,eval e X.env) :: starEach [e2] X.env:=by rfl) (hpl:(backTo pos (starEach [e2] X.env)).any (·.1)=false:=by rfl):
    PI X (.Tuple elts kk tpos) (.Call (.Name "zip" p) [e,e2] [⟨some "strict",.Constant (.bool true) j p1,p2⟩] pos) (Vb X.K ta):=by
  refine ⟨λpins s σ H R I h=>?_⟩
  refine wpAny_Call_Name_kw (ld_blt I hg hm PyProof.Rows.boot_zip (EK (thn (ha.run pos pins s σ H _ I h) λus s1 hh=>?_) (by rw [hs] <;> rfl) (by rw [hs]; exact hpl) rfl rfl))
  obtain ⟨vs,H1,I1,r1,m1,m2,a,b,xs,ys,rfl,qx,qy,q1⟩:=hh
  refine PyProof.Rows.kws_cons (Constant_bool (PyProof.Rows.kws_nil ?_))
  cases r1 with
  | cons r rr=>
    cases rr with
    | cons r' rr=>
      cases rr
      cases r
      cases r'
      obtain ⟨its,rv,p1⟩:=rF I1 qx
      obtain ⟨its2,rv2,p2⟩:=rF I1 qy
      show wpAny _ _ (call (.type "zip") [.ref a,.ref b] [(Str.ofString "strict",.bool true)]) _ _ _
      refine OV p1 p2 λg jz ji jo j1 j2 up=>Sw jz ?_
      refine ⟨s1.heap.objs.size+4,[s1.heap.objs.size+4,s1.heap.objs.size+2,s1.heap.objs.size+3,s1.heap.objs.size,s1.heap.objs.size+1],_,_,H1,rfl,I1.kept (t':=s1.toks) up,XY (PySem.W.ktu_apart s1.heap.objs.size a b p1.lt p2.lt),⟨jz,ji,⟨_,_,jo⟩,j1,j2⟩,λc hcm=>?_,q1⟩
      have hle:s1.heap.objs.size≤c:=by
        simp only [List.mem_cons,List.not_mem_nil,or_false] at hcm
        rcases hcm with z | z | z | z | z
        all_goals (rw [z]; first | exact Nat.le_refl _ | exact Nat.le_add_right _ _)
      exact I1.fpOk hle (I1.hok.fresh hle)
theorem MV {K:PySem.W.Frag} {as:List Addr} {F:Hp} {m1 m2:Bool} {a b:Addr} {ds es:List D} {N1 N2:WS->Prop} (hl:ds.length=es.length) (h1:BD K m1 as F a ds N1) (h2:BD K m2 as F b es N2):Walks K (QA K m1 m2 a b) as F (fS ds es) (λS=>N1 S∧N2 S):=by
  refine ⟨λbs F2 H2 S2 I e p n=>?_,λi hi bs F2 H2 S2 I e p n=>?_,λi d hd bs F2 H2 S2 I e p n x H' y=>?_⟩
  · obtain ⟨xs,q1,r1⟩:=h1.at_ bs F2 H2 S2 I e p n.1
    obtain ⟨ys,q2,r2⟩:=h2.at_ bs F2 H2 S2 I e p n.2
    refine ⟨xs,ys,q1,q2,?_,?_⟩
    · rw [← r1.length,← r2.length]
      exact hl
    · rw [CI,← r1.length,hl]
      omega
  · obtain ⟨xs,q1,r1⟩:=h1.at_ bs F2 H2 S2 I e p n.1
    obtain ⟨ys,q2,r2⟩:=h2.at_ bs F2 H2 S2 I e p n.2
    obtain ⟨u,v,e1,e2,_⟩:=uE (List.getElem?_eq_getElem hi)
    obtain ⟨x,hx,_⟩:=r1.get e1
    obtain ⟨y,hy,_⟩:=r2.get e2
    exact ⟨xs,ys,x,y,q1,q2,by rw [← r1.length,← r2.length]; exact hl,hx,hy⟩
  · obtain ⟨xs,q1,r1⟩:=h1.at_ bs F2 H2 S2 I e p n.1
    obtain ⟨ys,q2,r2⟩:=h2.at_ bs F2 H2 S2 I e p n.2
    obtain ⟨u,v,e1,e2,rfl⟩:=uE hd
    obtain ⟨x1,hx,rx⟩:=r1.get e1
    obtain ⟨y1,hy,ry⟩:=r2.get e2
    obtain ⟨T,x2,y2,rfl,hT,rfl,z1,z2⟩:=y
    have w1:=z1 xs q1
    have w2:=z2 ys q2
    rw [hx] at w1
    rw [hy] at w2
    cases w1
    cases w2
    have g:=I.grow (o:=.tup [x1,y1]) hT
    exact ⟨_,g,.tup (SqT.of upd_same) (.cons (cD g rx) (.cons (cD g ry) .nil))⟩
def BQ (er:RV.Env->ML):RV.Env->MW:=λρ S q x=>er ρ S (λds S1=>G3 ds λd e=>oE d S1 λ_ xs N1=>oE e S1 λ_ ys N2=>xs.length=ys.length∧q (fS xs ys) (λS=>N1 S∧N2 S) S1) x
theorem LV {X:Cx} {W:WX} {e e2:Expr} {er:RV.Env->ML} {p pos tpos p1 p2:Pos} {j:Nat} {elts:List Expr} {kk:Nat} (hm:X.mg "zip"=none) (ha:GA X W [e,e2] er) (hg:Gl X "zip":=by rfl)
    (hs:starEach [e,e2] X.env=(false,eval e X.env) :: starEach [e2] X.env:=by rfl) (hpl:(backTo pos (starEach [e2] X.env)).any (·.1)=false:=by rfl):
    GI X W (.Tuple elts kk tpos) (.Call (.Name "zip" p) [e,e2] [⟨some "strict",.Constant (.bool true) j p1,p2⟩] pos) (BQ er):=by
  obtain ⟨t,pa,m⟩:=ha
  refine ⟨_,Ub hg hm pa hs hpl,λas F H S ρ σ I R q x h Q hq hx=>?_⟩
  refine m as F H S ρ σ I R _ x h _ (λds S1 bs F1 H1 vs h1 g r=>?_) hx
  obtain ⟨d1,d2,rfl,h1⟩:=A3 h1
  replace h1:oE d1 S1 λ_ xs N1=>oE d2 S1 λ_ ys N2=>xs.length=ys.length∧q (fS xs ys) (λS=>N1 S∧N2 S) S1:=h1
  obtain ⟨v1,ws,rfl,r1,rn⟩:=r.dG
  obtain ⟨v2,ws,rfl,r2,rn⟩:=rn.dG
  obtain rfl:=rn.dR
  obtain ⟨a,m1,xs,N1,rfl,st1,⟨us1,qs1⟩,h1⟩:=wR g.sit r1 h1
  obtain ⟨b,m2,ys,N2,rfl,st2,⟨us2,qs2⟩,hl,h1⟩:=wR g.sit r2 h1
  exact ⟨m1,m2,a,b,us1,us2,rfl,qs1,qs2,hq _ _ S1 bs F1 H1 _ h1 g (MV hl st1 st2)⟩
end RV
end
section
namespace RV
open PySem PySem.Spec PyProof.Rows L2
variable {nn:Bool}
structure Yd where
  F:NdefX.NF
  f:Addr
  vs:List V
structure VN (base:Heap) (fr:List Str) (κ:Yd):Prop where
  len:κ.vs.length=fr.length
  all:∀ y c,κ.F.cl.lookup y=some c->∃ v,base.IsCell c v
  inj:∀ x y c,κ.F.cl.lookup x=some c->κ.F.cl.lookup y=some c->x=y
  has:∀ (i:Nat) (y:Str) (v:V),fr[i]? =some y->κ.vs[i]? =some v->∃ c,κ.F.cl.lookup y=some c∧∃ u,RelV v u∧base.IsCell c (some u)
theorem VN.at_ {X:Cx} {pins:List (Addr×Obj)} {σ:L2.St} {H:Hp} {s:Shared} {fr:List Str} {κ:Yd} (h:VN X.base fr κ) (I:Inv X pins σ H s):NdefX.CellsAt κ.F.cl fr (κ.vs.map some) s.heap H:=by
  refine ⟨by rw [List.length_map]; exact h.len,λy c e=>?_,h.inj,λi y e=>?_⟩
  · obtain ⟨v,o,ho,hd⟩:=h.all y c e
    obtain ⟨h1,h2⟩:=I.bs c o ho
    exact ⟨h2,v,o,h1,hd⟩
  · have hl:i < κ.vs.length:=by
      rw [h.len]
      exact (List.getElem?_eq_some_iff.mp e).1
    obtain ⟨c,e1,u,r,o,ho,hd⟩:=h.has i y κ.vs[i] e (List.getElem?_eq_getElem hl)
    refine ⟨c,e1,λv ev=>⟨u,?_,o,(I.bs c o ho).1,hd⟩⟩
    rw [List.getElem?_map,List.getElem?_eq_getElem hl] at ev
    cases ev
    exact r
section
variable {P:Program} {w:World} {K:PySem.W.Frag} {mg:Str->Option Value} {base:Heap}
end
section
variable {X:Cx} {W:WX}
end
section
variable {X:Cx} {W:WX} {pins:List (Addr×Obj)} {σ:L2.St} {H:Hp} {s:Shared}
end
section
variable {X:Cx} {W:WX}
end
section
variable {X:Cx} {W:WX}
end
end RV
end
section
namespace RV
open PySem PySem.Spec PyProof.Rows L2
section
variable {prog:Program} {w:World} {A:Around} {E:Value->Shared->Prop} {s:Shared} {m1 m2:Bool}
structure ZG (xs ys:Array Value) (lo:Addr) (h:Heap) (as:List Addr):Prop where
  rise:as.Pairwise (· < ·)
  above:∀ a∈as,lo < a
  pairs:∀ (j:Nat) (a:Addr),as[j]? =some a->∃ x y,xs[j]? =some x∧ys[j]? =some y∧IsPair h a x y
theorem ZG.there {xs ys:Array Value} {lo:Addr} {h:Heap} {as:List Addr} (g:ZG xs ys lo h as) {a:Addr} (ha:a∈as):a < h.objs.size:=by
  obtain ⟨j,hj⟩:=List.mem_iff_getElem?.mp ha
  obtain ⟨_,_,_,_,e⟩:=g.pairs j a hj
  exact Heap.lt_size e
end
section
variable {prog:Program} {w:World} {A:Around} {s:Shared} {R:Result->Shared->Prop} {m1 m2:Bool} {z TI TO i1 i2 l1 l2 S:Addr} {xs ys:Array Value}
end
section
variable {prog:Program} {w:World} {A:Around} {E:Value->Shared->Prop} {s:Shared} {m1 m2:Bool} {z TI TO i1 i2 l1 l2:Addr} {xs ys:Array Value}
end
section
variable {X:Cx}
end
end RV
end
section
namespace RV
open PySem PySem.Spec PyProof.Rows L2
section
variable {X:Cx} {W:WX} {pos:Pos}
end
section
variable {X:Cx}
end
end RV
end
section
namespace RV
open PySem PySem.Spec PyProof.Rows L2
section
variable {X:Cx} {W:WX} {o e:Expr} {eo ee:RV.Env->M} {apos cpos:Pos} {K:PySem.W.Frag}
end
section
variable {X:Cx} {W:WX} {e:Expr} {ea:RV.Env->M} {p pos p2 pos2:Pos}
end
end RV
end
section
namespace RV
open PySem PySem.Spec PyProof.Rows L2
variable {nn:Bool}
section
variable {X:Cx} {W:WX} {K:PySem.W.Frag}
end
section
variable {X:Cx} {W:WX} {K:PySem.W.Frag}
end
section
variable {prog:Program} {w:World} {A:Around} {E:Value->Shared->Prop} {s:Shared}
end
section
variable {X:Cx} {W:WX} {K:PySem.W.Frag}
end
end RV
end
section
namespace RV
open PySem PySem.Spec PyProof.Rows L2
section
variable {K:PySem.W.Frag}
end
section
variable {X:Cx} {W:WX}
end
section
variable {X:Cx} {W:WX} {o:Expr} {eo:RV.Env->M} {apos cpos:Pos} {K:PySem.W.Frag}
end
section
variable {X:Cx} {W:WX} {e:Expr} {ea:RV.Env->M}
end
section
variable {X:Cx} {W:WX} {o e:Expr} {eo ee:RV.Env->M} {apos cpos pos:Pos}
end
end RV
end
section
namespace RV
open PySem PySem.Spec PyProof.Rows L2
section
variable {P:Program} {w:World} {K:PySem.W.Frag} {mg:Str->Option Value} {base:Heap}
end
end RV
end
section
namespace RV
open PySem PySem.Spec PyProof.Rows L2
section
variable {X:Cx} {W:WX} {e i:Expr} {ea ei:RV.Env->M} {te ti:TE}
end
end RV
end
section
namespace RV
open PySem L2
def pQ (A:Ad):RV.Env->MS:=bC 3 (az qF (aQ intOfD (ai (az cX (az cX (az s_ (ah 3) (eC (.int 48271))) (az qF (aQ intOfD (ai (ah 4) (ao))) (eC (.int 2147483587)))) (eC (.int 13))) (ao))) (eC (.int 2147483629)))
def yp (A:Ad):RV.Env->MS:=aK (bC 2 (oH (cO (az V7 (ah 1) (aQ bQ (ai (ah 0) (ao))))) (az aH (ah 0) (ah 1)) (eC (.int 0)))) (aK (bC 3 (az cX (eC (.int 104729)) (az s_ (eC (.int 7907)) (ah 1)))) (aK (fY (jC (SN JK (ah 0) (Iz) (Ir (eC (.int 4))))) (av 4) (pQ A)) (aK (bC 3 (az qF (aQ intOfD (ai (az cX (az cX (az s_ (ah 3) (eC (.int 69621))) (az qF (aQ intOfD (ai (ah 2) (ao))) (eC (.int 2147483579)))) (eC (.int 5))) (ao))) (eC (.int 2147483629)))) (bu (eNew (ai (ah 3) (ai (oH (cO (az z7 (aQ yE (ai (ah 2) (ao))) (az JV (eC (.int 10)) (eC (.int 18))))) (aQ yE (ai (ah 2) (ao))) (eC (.int 0))) (ai (eC (.int 0)) (ao)))))))))
theorem DJ (A:Ad):∃ g:List D->M,g=Qp 5 (yp A):=⟨_,rfl⟩
def mW (A:Ad):List D->M:=(DJ A).choose
theorem DB (A:Ad):mW A=Qp 5 (yp A):=(DJ A).choose_spec
def AY (A:Ad):RV.Env->MS:=aK (fX (cO (az Mi (az aH (ah 0) (eC (.int 1))) (eC (.int 0)))) (aK (CY 2 (ah 0) (eC (.int 1)) (aQ xj (ai (az aH (ah 0) (eC (.int 1))) (ai (ah 1) (ao))))) (bu (ah 2))) (cS)) (aK (qP (ah 0) (eC (.int 2)) (az cX (az aH (ah 0) (eC (.int 2))) (eC (.int 1)))) (aK (qP (ah 0) (eC (.int 0)) (az qF (aQ intOfD (ai (az cX (az cX (az s_ (az aH (ah 0) (eC (.int 0))) (eC (.int 39373))) (az s_ (az s_ (eC (.int 7)) (az aH (ah 0) (eC (.int 2)))) (az aH (ah 0) (eC (.int 2))))) (eC (.int 101))) (ao))) (eC (.int 2147483629)))) (bu (az qF (aQ intOfD (ai (az N8 (az aH (ah 0) (eC (.int 0))) (eC (.int 64))) (ao))) (ah 1)))))
theorem G7 (A:Ad):∃ g:List D->M,g=aG 3 (AY A):=⟨_,rfl⟩
def bI (A:Ad):List D->M:=(G7 A).choose
theorem Hj (A:Ad):bI A=aG 3 (AY A):=(G7 A).choose_spec
def rD (A:Ad):RV.Env->M:=az aH (ah 3) (eFn 2 (bI A) [] (ai (ah 0) (ai (eC (.int 36)) (ao))))
def zv (A:Ad):RV.Env->M:=az cX (eC (.str "z")) (aQ EM (ai (ah 9) (ao)))
def zo (A:Ad):RV.Env->MB:=cO (az (inD true) (ah 10) (ah 4))
def y_ (A:Ad):RV.Env->M:=ah 10
def r6 (A:Ad):RV.Env->MS:=aK (bC 6 (oH (cO (az kj (eFn 2 (bI A) [] (ai (ah 0) (ai (eC (.int 4)) (ao)))) (eC (.int 0)))) (eFn 2 (bI A) [] (ai (ah 0) (ai (eC (.int 8)) (ao)))) (eFn 2 (bI A) [] (ai (ah 0) (ai (eC (.int 2)) (ao)))))) (aK (bC 7 (az cX (az aH (ah 3) (eFn 2 (bI A) [] (ai (ah 0) (ai (eC (.int 26)) (ao))))) (yt oY (eC (.str "")) (gH .still (jU (ai (ah 6) (ao))) (av 9) (cP) (rD A) [9])))) (aK (fX (cO (az kj (eFn 2 (bI A) [] (ai (ah 0) (ai (eC (.int 5)) (ao)))) (eC (.int 0)))) (bC 7 (az aH (ah 2) (eFn 2 (bI A) [] (ai (ah 0) (ai (eC (.int 10)) (ao)))))) (cS)) (aK (bC 8 (az cX (eu .lst (ai (ah 7) (ao))) (gH .still (jU (ai (ah 1) (ao))) (av 9) (cP) (zv A) [9]))) (iM (ah 4) (az aH (gH .still (jC (ah 8)) (av 10) (zo A) (y_ A) [10]) (eC (.int 0)))))))
def wu (A:Ad):RV.Env->MS:=aK (bC 2 (eu .lst (ai (eC (.str "pipe")) (ai (eC (.str "meter")) (ai (eC (.str "sealed")) (ai (eC (.str "go")) (ai (eC (.str "if")) (ai (eC (.str "vote")) (ai (eC (.str "tell")) (ai (eC (.str "doubt")) (ai (eC (.str "a")) (ai (eC (.str "b")) (ao))))))))))))) (aK (BC (bG 2 (aE (av 3) (aE (av 4) (bH)))) (eu .tup (ai (eC (.str "abcdefghijklmnopqrstuvwxyz0123456789")) (ai (eNew (ao)) (ao))))) (aK (fY (jU (ai (ah 1) (ao))) (av 5) (r6 A)) (bu (ah 4))))
theorem Cy (A:Ad):∃ g:List D->M,g=aG 11 (wu A):=⟨_,rfl⟩
def fK (A:Ad):List D->M:=(Cy A).choose
theorem CD (A:Ad):fK A=aG 11 (wu A):=(Cy A).choose_spec
def rG (A:Ad):RV.Env->MS:=aK (bC 10 (eFn 2 (bI A) [] (ai (ah 0) (ai (ah 3) (ao))))) (iM (ah 7) (eu .tup (ai (az aH (ah 6) (ah 9)) (ai (ah 10) (ai (az qF (aQ intOfD (ai (az cX (az cX (ah 10) (eC (.int 1))) (eFn 2 (bI A) [] (ai (ah 0) (ai (az Np (ah 3) (eC (.int 1))) (ao))))) (ao))) (ah 3)) (ao))))))
def rJ (A:Ad):RV.Env->MS:=aK (bC 13 (oH (dH dN (ah 11)) (ah 9) (eFn 2 (bI A) [] (ai (ah 0) (ai (ah 4) (ao)))))) (iM (ah 8) (eu .tup (ai (az aH (ah 12) (ah 9)) (ai (ah 13) (ai (az kj (eFn 2 (bI A) [] (ai (ah 0) (ai (eC (.int 6)) (ao)))) (eC (.int 0))) (ao))))))
def wh (A:Ad):RV.Env->MS:=aK (yl 3 4 (ai (az cX (eC (.int 2)) (eFn 2 (bI A) [] (ai (ah 0) (ai (eC (.int 3)) (ao))))) (ai (az cX (eC (.int 2)) (eFn 2 (bI A) [] (ai (ah 0) (ai (az Np (ah 1) (eC (.int 1))) (ao))))) (ao)))) (aK (BC (bG 4 (aE (av 5) (aE (av 6) (aE (av 7) (aE (av 8) (bH)))))) (eu .tup (ai (eFn 2 (fK A) [] (ai (ah 0) (ai (ah 3) (ao)))) (ai (eFn 2 (fK A) [] (ai (ah 0) (ai (ah 4) (ao)))) (ai (eNew (ao)) (ai (eNew (ao)) (ao))))))) (aK (fY (jU (ai (ah 4) (ao))) (av 9) (rG A)) (aK (bC 11 (az kj (eFn 2 (bI A) [] (ai (ah 0) (ai (eC (.int 2)) (ao)))) (eC (.int 0)))) (aK (bC 12 (eFn 2 (fK A) [] (ai (ah 0) (ai (oH (dH dN (ah 11)) (aQ yj (ai (ah 2) (ai (ah 4) (ao)))) (eFn 2 (bI A) [] (ai (ah 0) (ai (az cX (ah 2) (eC (.int 1))) (ao))))) (ao))))) (aK (fY (jU (ai (aQ bQ (ai (ah 12) (ao))) (ao))) (av 9) (rJ A)) (bu (eu .lst (ai (ah 5) (ai (ah 7) (ai (ah 8) (ao)))))))))))
theorem Cu (A:Ad):∃ g:List D->M,g=HF 14 (wh A):=⟨_,rfl⟩
def lW (A:Ad):List D->M:=(Cu A).choose
theorem B0 (A:Ad):lW A=HF 14 (wh A):=(Cu A).choose_spec
def q6 (A:Ad):RV.Env->MB:=rO (cO (az (inD false) (az aH (ah 5) (eC (.int 1))) (ah 3))) (cO (az (inD false) (az aH (ah 5) (eC (.int 2))) (ah 3)))
def qV (A:Ad):RV.Env->M:=ah 5
def qY (A:Ad):RV.Env->MB:=cO (az kj (az aH (ah 6) (eC (.int 1))) (ah 2))
def qS (A:Ad):RV.Env->M:=ah 6
def mR (A:Ad):RV.Env->MS:=aK (bC 3 (eu .lst (ai (az aH (az aH (az aH (ah 0) (eC (.int 1))) (ah 2)) (eC (.int 1))) (ai (az aH (az aH (az aH (ah 0) (eC (.int 1))) (ah 2)) (eC (.int 2))) (ao))))) (aK (bC 4 (gH .still (jC (az aH (ah 0) (eC (.int 1)))) (av 5) (q6 A) (qV A) [5])) (fX (rO (cO (az kj (aQ bQ (ai (ah 4) (ao))) (eC (.int 1)))) (cO (az kj (gH .still (jC (az aH (ah 0) (eC (.int 2)))) (av 6) (qY A) (qS A) [6]) (eu .lst (ao))))) (iM (ah 1) (ah 2)) (cS)))
def n_ (A:Ad):RV.Env->MS:=aK (bC 1 (eNew (ao))) (aK (fY (jU (ai (aQ bQ (ai (az aH (ah 0) (eC (.int 1))) (ao))) (ao))) (av 2) (mR A)) (bu (ah 1)))
theorem t9 (A:Ad):∃ g:List D->M,g=aG 7 (n_ A):=⟨_,rfl⟩
def i_ (A:Ad):List D->M:=(t9 A).choose
theorem ud (A:Ad):i_ A=aG 7 (n_ A):=(t9 A).choose_spec
def oh (A:Ad):RV.Env->MS:=Fq (ah 2) (ai (eFn 2 (bI A) [] (ai (ah 0) (ai (az cX (ah 3) (eC (.int 1))) (ao)))) (ai (ah 3) (ao)))
def qv (A:Ad):RV.Env->MS:=aK (bC 2 (eNew (ao))) (aK (fY (jU (ai (ah 1) (ao))) (av 3) (oh A)) (bu (ah 2)))
theorem xC (A:Ad):∃ g:List D->M,g=aG 4 (qv A):=⟨_,rfl⟩
def i8 (A:Ad):List D->M:=(xC A).choose
theorem xN (A:Ad):i8 A=aG 4 (qv A):=(xC A).choose_spec
def zl (A:Ad):RV.Env->MB:=cO (az ni (ah 8) (ah 3))
def yZ (A:Ad):RV.Env->M:=ah 8
def zb (A:Ad):RV.Env->M:=oH (cO (az kj (ah 11) (az aH (az aH (az aH (ah 1) (eC (.int 1))) (ah 3)) (eC (.int 2))))) (az aH (az aH (az aH (ah 1) (eC (.int 1))) (ah 3)) (eC (.int 1))) (ah 11)
def rY (A:Ad):RV.Env->MS:=aK (bC 9 (eu .lst (ai (az aH (az aH (az aH (ah 1) (eC (.int 1))) (ah 8)) (eC (.int 1))) (ai (az aH (az aH (az aH (ah 1) (eC (.int 1))) (ah 8)) (eC (.int 2))) (ao))))) (aK (fX (cO (az z7 (ah 3) (eC (.int 0)))) (bC 9 (gH .still (jC (ah 9)) (av 11) (cP) (zb A) [11])) (cS)) (iM (ah 7) (eu .tup (ai (az aH (ah 5) (ah 8)) (ai (az aH (ah 9) (eC (.int 0))) (ai (az aH (ah 9) (eC (.int 1))) (ao)))))))
def rR (A:Ad):RV.Env->MS:=iM (ah 10) (eu .tup (ai (az aH (az aH (az aH (ah 1) (eC (.int 2))) (ah 8)) (eC (.int 0))) (ai (Lx q7 (ah 6) (az aH (az aH (az aH (ah 1) (eC (.int 2))) (ah 8)) (eC (.int 1)))) (ai (az aH (az aH (az aH (ah 1) (eC (.int 2))) (ah 8)) (eC (.int 2))) (ao)))))
def vS (A:Ad):RV.Env->MS:=aK (bC 2 (eFn 1 (i_ A) [] (ai (ah 1) (ao)))) (aK (bC 3 (oH (rO (cO (az ni (ah 2) (eu .lst (ao)))) (cO (az Mi (aQ bQ (ai (az aH (ah 1) (eC (.int 1))) (ao))) (eC (.int 1))))) (az aH (ah 2) (eFn 2 (bI A) [] (ai (ah 0) (ai (aQ bQ (ai (ah 2) (ao))) (ao))))) (jS QZ (eC (.int 1))))) (aK (yl 4 5 (ai (eFn 2 (fK A) [] (ai (ah 0) (ai (aQ bQ (ai (az aH (ah 1) (eC (.int 0))) (ao))) (ao)))) (ai (eFn 2 (fK A) [] (ai (ah 0) (ai (aQ bQ (ai (az aH (ah 1) (eC (.int 1))) (ao))) (ao)))) (ao)))) (aK (yl 6 7 (ai (gH .still (jC (eFn 2 (i8 A) [] (ai (ah 0) (ai (aQ bQ (ai (az aH (ah 1) (eC (.int 1))) (ao))) (ao))))) (av 8) (zl A) (yZ A) [8]) (ai (eNew (ao)) (ao)))) (aK (fY (jC (ah 6)) (av 8) (rY A)) (aK (bC 10 (eNew (ao))) (aK (fY (jC (eFn 2 (i8 A) [] (ai (ah 0) (ai (aQ bQ (ai (az aH (ah 1) (eC (.int 2))) (ao))) (ao))))) (av 8) (rR A)) (bu (eu .lst (ai (ah 4) (ai (ah 7) (ai (ah 10) (ao))))))))))))
theorem B_ (A:Ad):∃ g:List D->M,g=HF 12 (vS A):=⟨_,rfl⟩
def l8 (A:Ad):List D->M:=(B_ A).choose
theorem Cp (A:Ad):l8 A=HF 12 (vS A):=(B_ A).choose_spec
def Bl (A:Ad):RV.Env->MS:=aK (fX (pJ (j7 (dH dN (aQ (gU (own A) (tab A)) (ai (ah 0) (ai (eC (.ty "str")) (ao)))))) (pJ (j7 (EN IU IU (eC (.int 1)) (aQ bQ (ai (ah 0) (ao))) (eC (.int 8)))) (cO (az (qa true) (az aH (ah 0) (eC (.int 0))) (eC (.str "abcdefghijklmnopqrstuvwxyz")))))) (bu (eC (.bl false))) (cS)) (bu (aQ yb (ai (gH .still (MZ (ah 0)) (av 1) (cP) (Mn (az (qa false) (ah 1) (eC (.str "abcdefghijklmnopqrstuvwxyz"))) (az (qa false) (ah 1) (eC (.str "0123456789")))) [1]) (ao))))
theorem G5 (A:Ad):∃ g:List D->M,g=aG 2 (Bl A):=⟨_,rfl⟩
def oA (A:Ad):List D->M:=(G5 A).choose
theorem GL (A:Ad):oA A=aG 2 (Bl A):=(G5 A).choose_spec
def uq (A:Ad):RV.Env->MS:=fX (j7 (dH dN (eFn 1 (oA A) [] (ai (ah 0) (ao))))) (jM) (cS)
theorem AS (A:Ad):∃ g:List D->M,g=aG 1 (uq A):=⟨_,rfl⟩
def fE (A:Ad):List D->M:=(AS A).choose
theorem zO (A:Ad):fE A=aG 1 (uq A):=(AS A).choose_spec
def v9 (A:Ad):RV.Env->MS:=aK (iS (eFn 1 (fE A) [] (ai (ah 1) (ao)))) (aK (iS (eFn 1 (fE A) [] (ai (ah 2) (ao)))) (aK (iS (eFn 1 (fE A) [] (ai (ah 3) (ao)))) (aK (fX (cO (az kj (ah 3) (ah 2))) (jM) (cS)) (By (A.c "Pipe") "kept" (ah 0) (eu .tup (ai (ah 1) (ai (ah 2) (ai (ah 3) (ao)))))))))
theorem Cq (A:Ad):∃ g:List D->M,g=aG 4 (v9 A):=⟨_,rfl⟩
def lY (A:Ad):List D->M:=(Cq A).choose
theorem Cg (A:Ad):lY A=aG 4 (v9 A):=(Cq A).choose_spec
def tR (A:Ad):RV.Env->MS:=aK (iS (eFn 1 (fE A) [] (ai (ah 1) (ao)))) (aK (iS (eFn 1 (fE A) [] (ai (ah 2) (ao)))) (aK (fX (j7 (dH dN (aQ (gU (own A) (tab A)) (ai (ah 3) (ai (eC (.ty "bool")) (ao)))))) (jM) (cS)) (By (A.c "Meter") "kept" (ah 0) (eu .tup (ai (ah 1) (ai (ah 2) (ai (ah 3) (ao))))))))
theorem Ah (A:Ad):∃ g:List D->M,g=aG 4 (tR A):=⟨_,rfl⟩
def k_ (A:Ad):List D->M:=(Ah A).choose
theorem AL (A:Ad):k_ A=aG 4 (tR A):=(Ah A).choose_spec
def q_ (A:Ad):RV.Env->MS:=aK (bC 1 (yt nD (ah 0) (eC (.str " ")))) (aK (Iu (aK (fX (rO (cO (az kj (aQ bQ (ai (ah 1) (ao))) (eC (.int 4)))) (cO (az kj (az aH (ah 1) (eC (.int 0))) (eC (.str "pipe"))))) (bu (BV .still (A.c "Pipe") 4 (lY A) [] (ai (az aH (ah 1) (eC (.int 1))) (ai (az aH (ah 1) (eC (.int 2))) (ai (az aH (ah 1) (eC (.int 3))) (ao)))))) (cS)) (fX (rO (cO (az (inD false) (aQ bQ (ai (ah 1) (ao))) (eu .tup (ai (eC (.int 3)) (ai (eC (.int 4)) (ao)))))) (cO (az kj (az aH (ah 1) (eC (.int 0))) (eC (.str "meter"))))) (bu (AH .still (A.c "Meter") 4 2 1 (k_ A) (perm [0]) (ai (az aH (ah 1) (eC (.int 1))) (ai (az aH (ah 1) (eC (.int 2))) (ao))) (ai (az kj (aQ bQ (ai (ah 1) (ao))) (eC (.int 4))) (ao)))) (cS)))) (bu (eC .non)))
theorem Hi (A:Ad):∃ g:List D->M,g=aG 2 (q_ A):=⟨_,rfl⟩
def mQ (A:Ad):List D->M:=(Hi A).choose
theorem vh (A:Ad):mQ A=aG 2 (q_ A):=(Hi A).choose_spec
def wG (A:Ad):RV.Env->MS:=bu (az aH (jS (gz (A.c "Pipe") "kept") (ah 0)) (eC (.int 0)))
theorem CA (A:Ad):∃ g:List D->M,g=aG 1 (wG A):=⟨_,rfl⟩
def bE (A:Ad):List D->M:=(CA A).choose
theorem Ce (A:Ad):bE A=aG 1 (wG A):=(CA A).choose_spec
def oQ (A:Ad):RV.Env->MS:=aK (fX (pJ (j7 (dH dN (aQ (gU (own A) (tab A)) (ai (ah 3) (ai (eC (.adr (A.c "Pipe"))) (ao)))))) (pJ (cO (az (inD false) (aX (A.c "Pipe") (bE A) (ah 3)) (ah 1))) (cO (az z7 (ah 2) (eC (.int 12)))))) (jM) (cS)) (iM (ah 1) (aX (A.c "Pipe") (bE A) (ah 3)))
def rH (A:Ad):RV.Env->MS:=aK (fX (pJ (j7 (dH dN (aQ (gU (own A) (tab A)) (ai (ah 0) (ai (eC (.ty "tuple")) (ao)))))) (cO (az kj (aQ bQ (ai (ah 0) (ao))) (eC (.int 0))))) (jM) (cS)) (aK (bC 1 (eNew (ao))) (fY (pP (ai (ah 0) (ao))) (bG 2 (aE (av 2) (aE (av 3) (bH)))) (oQ A)))
theorem zu (A:Ad):∃ g:List D->M,g=aG 4 (rH A):=⟨_,rfl⟩
def kh (A:Ad):List D->M:=(zu A).choose
theorem zg (A:Ad):kh A=aG 4 (rH A):=(zu A).choose_spec
def uB (A:Ad):RV.Env->MS:=bu (az aH (jS (gz (A.c "Meter") "kept") (ah 0)) (eC (.int 0)))
theorem Am (A:Ad):∃ g:List D->M,g=aG 1 (uB A):=⟨_,rfl⟩
def bD (A:Ad):List D->M:=(Am A).choose
theorem A9 (A:Ad):bD A=aG 1 (uB A):=(Am A).choose_spec
def yK (A:Ad):RV.Env->MS:=bu (az aH (jS (gz (A.c "Meter") "kept") (ah 0)) (eC (.int 1)))
theorem DK (A:Ad):∃ g:List D->M,g=aG 1 (yK A):=⟨_,rfl⟩
def cC (A:Ad):List D->M:=(DK A).choose
theorem DH (A:Ad):cC A=aG 1 (yK A):=(DK A).choose_spec
def tY (A:Ad):RV.Env->M:=aX (A.c "Pipe") (bE A) (ah 6)
def oz (A:Ad):RV.Env->MS:=aK (fX (pJ (j7 (dH dN (aQ (gU (own A) (tab A)) (ai (ah 5) (ai (eC (.adr (A.c "Meter"))) (ao)))))) (pJ (cO (az (inD false) (aX (A.c "Meter") (bD A) (ah 5)) (ah 3))) (pJ (cO (az (inD true) (aX (A.c "Meter") (cC A) (ah 5)) (ah 2))) (cO (az z7 (ah 4) (eC (.int 12))))))) (jM) (cS)) (iM (ah 3) (aX (A.c "Meter") (bD A) (ah 5)))
def p_ (A:Ad):RV.Env->MS:=aK (fX (j7 (dH dN (aQ (gU (own A) (tab A)) (ai (ah 0) (ai (eC (.ty "tuple")) (ao)))))) (jM) (cS)) (aK (bC 2 (gH .still (e7 (ah 1)) (av 6) (cP) (tY A) [6])) (aK (bC 3 (eNew (ao))) (fY (pP (ai (ah 0) (ao))) (bG 2 (aE (av 4) (aE (av 5) (bH)))) (oz A))))
theorem wO (A:Ad):∃ g:List D->M,g=aG 7 (p_ A):=⟨_,rfl⟩
def jV (A:Ad):List D->M:=(wO A).choose
theorem wN (A:Ad):jV A=aG 7 (p_ A):=(wO A).choose_spec
def xY (A:Ad):RV.Env->MS:=aK (iS (eFn 1 (kh A) [] (ai (ah 1) (ao)))) (aK (iS (eFn 2 (jV A) [] (ai (ah 2) (ai (ah 1) (ao))))) (aK (By (A.c "Net") "joined" (ah 0) (ah 1)) (By (A.c "Net") "fitted" (ah 0) (ah 2))))
theorem Fg (A:Ad):∃ g:List D->M,g=aG 3 (xY A):=⟨_,rfl⟩
def nc (A:Ad):List D->M:=(Fg A).choose
theorem EX (A:Ad):nc A=aG 3 (xY A):=(Fg A).choose_spec
def uT (A:Ad):RV.Env->MS:=bu (az aH (jS (gz (A.c "Pipe") "kept") (ah 0)) (eC (.int 1)))
theorem zU (A:Ad):∃ g:List D->M,g=aG 1 (uT A):=⟨_,rfl⟩
def dB (A:Ad):List D->M:=(zU A).choose
theorem Ab (A:Ad):dB A=aG 1 (uT A):=(zU A).choose_spec
def yU (A:Ad):RV.Env->MS:=bu (az aH (jS (gz (A.c "Pipe") "kept") (ah 0)) (eC (.int 2)))
theorem E3 (A:Ad):∃ g:List D->M,g=aG 1 (yU A):=⟨_,rfl⟩
def fL (A:Ad):List D->M:=(E3 A).choose
theorem EA (A:Ad):fL A=aG 1 (yU A):=(E3 A).choose_spec
def qt (A:Ad):RV.Env->MS:=bu (az aH (jS (gz (A.c "Meter") "kept") (ah 0)) (eC (.int 2)))
theorem xS (A:Ad):∃ g:List D->M,g=aG 1 (qt A):=⟨_,rfl⟩
def fN (A:Ad):List D->M:=(xS A).choose
theorem xm (A:Ad):fN A=aG 1 (qt A):=(xS A).choose_spec
def vN (A:Ad):RV.Env->MS:=aK (fX (dH dN (aQ (gU (own A) (tab A)) (ai (ah 0) (ai (eC (.adr (A.c "Pipe"))) (ao))))) (bu (Ec (kr (eC (.str "pipe ")) (kr (jS tF (aX (A.c "Pipe") (bE A) (ah 0))) (kr (eC (.str " ")) (kr (jS tF (aX (A.c "Pipe") (dB A) (ah 0))) (kr (eC (.str " ")) (kr (jS tF (aX (A.c "Pipe") (fL A) (ah 0))) (JR))))))))) (cS)) (bu (oH (dH dN (aX (A.c "Meter") (fN A) (ah 0))) (Ec (kr (eC (.str "meter ")) (kr (jS tF (aX (A.c "Meter") (bD A) (ah 0))) (kr (eC (.str " ")) (kr (jS tF (aX (A.c "Meter") (cC A) (ah 0))) (kr (eC (.str " sealed")) (JR))))))) (Ec (kr (eC (.str "meter ")) (kr (jS tF (aX (A.c "Meter") (bD A) (ah 0))) (kr (eC (.str " ")) (kr (jS tF (aX (A.c "Meter") (cC A) (ah 0))) (JR))))))))
theorem Ho (A:Ad):∃ g:List D->M,g=aG 1 (vN A):=⟨_,rfl⟩
def mF (A:Ad):List D->M:=(Ho A).choose
theorem Aq (A:Ad):mF A=aG 1 (vN A):=(Ho A).choose_spec
def AW (A:Ad):RV.Env->MS:=bu (yt oY (eC (.str "\n")) (gH .still (e7 (eu .tup (IA (jS (gz (A.c "Net") "joined") (ah 0)) (IA (jS (gz (A.c "Net") "fitted") (ah 0)) (ao))))) (av 1) (cP) (eFn 1 (mF A) [] (ai (ah 1) (ao))) [1]))
theorem HB (A:Ad):∃ g:List D->M,g=aG 2 (AW A):=⟨_,rfl⟩
def mO (A:Ad):List D->M:=(HB A).choose
theorem G4 (A:Ad):mO A=aG 2 (AW A):=(HB A).choose_spec
def yg (A:Ad):RV.Env->MS:=aK (fX (j7 (dH dN (aQ (gU (own A) (tab A)) (ai (ah 1) (ai (eC (.ty "str")) (ao)))))) (jM) (cS)) (aK (bC 2 (gH .still (jC (yt nD (ah 1) (eC (.str "\n")))) (av 6) (cP) (eFn 1 (mQ A) [] (ai (ah 6) (ao))) [6])) (aK (bC 3 (aQ j4 (ai (gH .still (jC (ah 2)) (av 7) (dH dN (aQ (gU (own A) (tab A)) (ai (ah 7) (ai (eC (.adr (A.c "Pipe"))) (ao))))) (ah 7) [7]) (ao)))) (aK (bC 4 (aQ j4 (ai (gH .still (jC (ah 2)) (av 7) (dH dN (aQ (gU (own A) (tab A)) (ai (ah 7) (ai (eC (.adr (A.c "Meter"))) (ao))))) (ah 7) [7]) (ao)))) (aK (Iu (bC 5 (Jt 0 .still (A.c "Net") 3 (nc A) [] (ai (ah 3) (ai (ah 4) (ao)))))) (aK (fX (cO (az ni (xh (Br (A.c "Net") (mO A)) (ai (ah 5) (ao))) (ah 1))) (jM) (cS)) (bu (ah 5)))))))
theorem EY (A:Ad):∃ g:List D->M,g=aG 8 (yg A):=⟨_,rfl⟩
def kD (A:Ad):List D->M:=(EY A).choose
theorem E_ (A:Ad):kD A=aG 8 (yg A):=(EY A).choose_spec
def tP (A:Ad):RV.Env->MS:=aK (yl 3 4 (ai (az aH (az aH (ah 0) (eC (.int 0))) (az aH (ah 2) (eC (.int 1)))) (ai (az aH (az aH (ah 0) (eC (.int 0))) (az aH (ah 2) (eC (.int 2)))) (ao)))) (iM (ah 1) (az cX (az cX (az cX (az cX (az cX (eC (.str "pipe ")) (az aH (ah 2) (eC (.int 0)))) (eC (.str " "))) (ah 3)) (eC (.str " "))) (ah 4)))
def u0 (A:Ad):RV.Env->MS:=aK (bC 6 (oH (dH dN (az aH (ah 5) (eC (.int 2)))) (eC (.str " sealed")) (eC (.str "")))) (iM (ah 1) (az cX (az cX (az cX (az cX (eC (.str "meter ")) (az aH (ah 5) (eC (.int 0)))) (eC (.str " "))) (az aH (az aH (az aH (ah 0) (eC (.int 1))) (az aH (ah 5) (eC (.int 1)))) (eC (.int 0)))) (ah 6)))
def yP (A:Ad):RV.Env->MS:=aK (bC 1 (eNew (ao))) (aK (fY (jC (az aH (ah 0) (eC (.int 1)))) (av 2) (tP A)) (aK (fY (jC (az aH (ah 0) (eC (.int 2)))) (av 5) (u0 A)) (bu (yt oY (eC (.str "\n")) (ah 1)))))
theorem D7 (A:Ad):∃ g:List D->M,g=aG 7 (yP A):=⟨_,rfl⟩
def kq (A:Ad):List D->M:=(D7 A).choose
theorem D4 (A:Ad):kq A=aG 7 (yP A):=(D7 A).choose_spec
def vY (A:Ad):RV.Env->MS:=fX (j7 (dH dN (aQ (gU (own A) (tab A)) (ai (ah 0) (ai (eC (.adr (A.c "Net"))) (ao)))))) (jM) (cS)
theorem B6 (A:Ad):∃ g:List D->M,g=aG 1 (vY A):=⟨_,rfl⟩
def eB (A:Ad):List D->M:=(B6 A).choose
theorem Ci (A:Ad):eB A=aG 1 (vY A):=(B6 A).choose_spec
def uu (A:Ad):RV.Env->MS:=bu (jS (gz (A.c "Net") "fitted") (ah 0))
theorem Bj (A:Ad):∃ g:List D->M,g=aG 1 (uu A):=⟨_,rfl⟩
def cz (A:Ad):List D->M:=(Bj A).choose
theorem AZ (A:Ad):cz A=aG 1 (uu A):=(Bj A).choose_spec
def vL (A:Ad):RV.Env->M:=aX (A.c "Meter") (bD A) (ah 5)
def vE (A:Ad):RV.Env->M:=aX (A.c "Meter") (bD A) (ah 5)
def u_ (A:Ad):RV.Env->MB:=cO (az (inD true) (ah 6) (ah 3))
def vz (A:Ad):RV.Env->M:=ah 6
def vm (A:Ad):RV.Env->MB:=cO (az (inD true) (ah 6) (ah 2))
def vO (A:Ad):RV.Env->M:=ah 6
def rC (A:Ad):RV.Env->MS:=aK (iS (eFn 1 (eB A) [] (ai (ah 0) (ao)))) (aK (iS (eFn 1 (eB A) [] (ai (ah 1) (ao)))) (aK (BC (bG 2 (aE (av 2) (aE (av 3) (bH)))) (eu .tup (ai (gH .still (e7 (aX (A.c "Net") (cz A) (ah 0))) (av 5) (cP) (vL A) [5]) (ai (gH .still (e7 (aX (A.c "Net") (cz A) (ah 1))) (av 5) (cP) (vE A) [5]) (ao))))) (aK (bC 4 (az cX (gH .still (jC (ah 2)) (av 6) (u_ A) (vz A) [6]) (gH .still (jC (ah 3)) (av 6) (vm A) (vO A) [6]))) (fX (dH dN (ah 4)) (jM) (cS)))))
theorem zp (A:Ad):∃ g:List D->M,g=aG 7 (rC A):=⟨_,rfl⟩
def j_ (A:Ad):List D->M:=(zp A).choose
theorem zB (A:Ad):j_ A=aG 7 (rC A):=(zp A).choose_spec
def v7 (A:Ad):RV.Env->MS:=bu (jS (gz (A.c "Net") "joined") (ah 0))
theorem Cv (A:Ad):∃ g:List D->M,g=aG 1 (v7 A):=⟨_,rfl⟩
def gY (A:Ad):List D->M:=(Cv A).choose
theorem Ck (A:Ad):gY A=aG 1 (v7 A):=(Cv A).choose_spec
def qz (A:Ad):RV.Env->M:=ah 2
def uv (A:Ad):RV.Env->MS:=bu (aQ j4 (ai (F9 ⟨e7 (jS (gz (A.c "Net") "joined") (ah 0)),av 1,cP,[1],[1,2]⟩ [⟨e7 (eu .tup (ai (aX (A.c "Pipe") (dB A) (ah 1)) (ai (aX (A.c "Pipe") (fL A) (ah 1)) (ao)))),av 2,cP,[2],[2]⟩] (qz A)) (ao)))
theorem Au (A:Ad):∃ g:List D->M,g=aG 3 (uv A):=⟨_,rfl⟩
def cW (A:Ad):List D->M:=(Au A).choose
theorem As (A:Ad):cW A=aG 3 (uv A):=(Au A).choose_spec
def tO (A:Ad):RV.Env->M:=ah 3
def u5 (A:Ad):RV.Env->M:=ah 2
def AO (A:Ad):RV.Env->M:=eu .tup (ai (az sN (ah 1) (aX (A.c "Pipe") (dB A) (ah 4))) (ai (az sN (ah 1) (aX (A.c "Pipe") (fL A) (ah 4))) (ao)))
def yW (A:Ad):RV.Env->MS:=aK (bC 1 (Qa ⟨pP (ai (aX (A.c "Net") (cW A) (ah 0)) (ao)),bG 2 (aE (av 2) (aE (av 3) (bH))),cP,[2,3],[2,3]⟩ [] (tO A) (u5 A))) (bu (aQ j4 (ai (gH .still (e7 (jS (gz (A.c "Net") "joined") (ah 0))) (av 4) (cP) (AO A) [4]) (ao))))
theorem Ew (A:Ad):∃ g:List D->M,g=aG 5 (yW A):=⟨_,rfl⟩
def b8 (A:Ad):List D->M:=(Ew A).choose
theorem EJ (A:Ad):b8 A=aG 5 (yW A):=(Ew A).choose_spec
def xo (A:Ad):RV.Env->M:=oH (cO (az kj (ah 8) (ah 6))) (ah 7) (ah 8)
def qG (A:Ad):RV.Env->MS:=fX (dH dN (ah 5)) (aK (BC (bG 2 (aE (av 6) (aE (av 7) (bH)))) (eu .tup (ai (az aH (ah 2) (ah 4)) (ai (az aH (ah 2) (ah 3)) (ao))))) (bC 2 (gH .still (jC (ah 2)) (av 8) (cP) (xo A) [8]))) (cS)
def uM (A:Ad):RV.Env->MS:=aK (bC 2 (FQ (aQ bQ (ai (aX (A.c "Net") (cW A) (ah 0)) (ao))))) (aK (fY (iZip (ai (aX (A.c "Net") (b8 A) (ah 0)) (ai (ah 1) (ao)))) (bG 2 (aE (bG 2 (aE (av 3) (aE (av 4) (bH)))) (aE (av 5) (bH)))) (qG A)) (bu (ah 2)))
theorem AI (A:Ad):∃ g:List D->M,g=aG 9 (uM A):=⟨_,rfl⟩
def jF (A:Ad):List D->M:=(AI A).choose
theorem zY (A:Ad):jF A=aG 9 (uM A):=(AI A).choose_spec
def x_ (A:Ad):RV.Env->MS:=aK (bC 6 (eFn 2 (jF A) [] (ai (ah 0) (ai (ah 2) (ao))))) (iM (ah 2) (Fz (az aH (ah 1) (ah 3)) (az ni (az aH (ah 6) (ah 4)) (az aH (ah 6) (ah 5)))))
def De (A:Ad):RV.Env->MS:=aK (bC 2 (eNew (ao))) (aK (fY (pP (ai (aX (A.c "Net") (b8 A) (ah 0)) (ao))) (bG 2 (aE (av 3) (aE (bG 2 (aE (av 4) (aE (av 5) (bH)))) (bH)))) (x_ A)) (bu (ah 2)))
theorem J7 (A:Ad):∃ g:List D->M,g=aG 7 (De A):=⟨_,rfl⟩
def jK (A:Ad):List D->M:=(J7 A).choose
theorem Jz (A:Ad):jK A=aG 7 (De A):=(J7 A).choose_spec
def tw (A:Ad):RV.Env->MS:=aK (fX (rO (dH dN (az aH (ah 2) (ah 4))) (j7 (dH dN (az aH (ah 2) (ah 5))))) (Kl 3 (λi j=>i+j) (ah 6)) (cS)) (fX (rO (dH dN (az aH (ah 2) (ah 5))) (j7 (dH dN (az aH (ah 2) (ah 4))))) (Kl 3 (λi j=>i - j) (ah 6)) (cS))
def yI (A:Ad):RV.Env->MS:=aK (bC 3 (eC (.int 0))) (aK (fY (iZip (ai (aX (A.c "Net") (b8 A) (ah 0)) (ai (ah 1) (ao)))) (bG 2 (aE (bG 2 (aE (av 4) (aE (av 5) (bH)))) (aE (av 6) (bH)))) (tw A)) (bu (ah 3)))
theorem DS (A:Ad):∃ g:List D->M,g=aG 7 (yI A):=⟨_,rfl⟩
def m7 (A:Ad):List D->M:=(DS A).choose
theorem DA (A:Ad):m7 A=aG 7 (yI A):=(DS A).choose_spec
def EI (A:Ad):RV.Env->M:=eC (.int 0)
def iy (A:Ad):RV.Env->MS:=aK (BA (λi j=>i - j) (ah 2) (ah 3) (ah 5)) (BA (λi j=>i+j) (ah 2) (ah 4) (ah 5))
def mw (A:Ad):RV.Env->M:=az kj (ah 7) (eC (.int 0))
def lS (A:Ad):RV.Env->MS:=aK (bC 2 (gH .new (e7 (aX (A.c "Net") (cW A) (ah 0))) (av 6) (cP) (EI A) [6])) (aK (fY (iZip (ai (aX (A.c "Net") (b8 A) (ah 0)) (ai (ah 1) (ao)))) (bG 2 (aE (bG 2 (aE (av 3) (aE (av 4) (bH)))) (aE (av 5) (bH)))) (iy A)) (bu (aQ yb (ai (gH .still (jC (ah 2)) (av 7) (cP) (mw A) [7]) (ao)))))
theorem zq (A:Ad):∃ g:List D->M,g=aG 8 (lS A):=⟨_,rfl⟩
def fJ (A:Ad):List D->M:=(zq A).choose
theorem nO (A:Ad):fJ A=aG 8 (lS A):=(zq A).choose_spec
def r8 (A:Ad):RV.Env->M:=az (gW false) (ah 9) (eC .non)
def r9 (A:Ad):RV.Env->M:=oH (cO (az (gW false) (ah 9) (eC .non))) (eC (.int 0)) (ah 9)
def rW (A:Ad):RV.Env->M:=Fz (ah 11) (az ni (ah 10) (ah 5))
def rB (A:Ad):RV.Env->M:=az kj (ah 12) (az aH (ah 8) (ah 7))
def lQ (A:Ad):RV.Env->MS:=fX (dH dN (az aH (ah 2) (ah 5))) (aK (bC 8 (eFn 2 (jF A) [] (ai (ah 0) (ai (gH .still (EV (ai (ah 2) (ao))) (bG 2 (aE (av 10) (aE (av 11) (bH)))) (cP) (rW A) [10,11]) (ao))))) (qP (ah 4) (ah 5) (eFn 3 (m7 A) [] (ai (ah 0) (ai (ah 3) (ai (gH .still (jC (ah 8)) (av 12) (cP) (rB A) [12]) (ao))))))) (cS)
def qM (A:Ad):RV.Env->MS:=aK (bC 2 (eFn 2 (jK A) [] (ai (ah 0) (ai (gH .still (jC (ah 1)) (av 9) (cP) (r8 A) [9]) (ao))))) (aK (bC 3 (gH .still (jC (ah 1)) (av 9) (cP) (r9 A) [9])) (aK (bC 4 (DR (ai (ah 3) (ao)))) (aK (fY (pP (ai (aX (A.c "Net") (b8 A) (ah 0)) (ao))) (bG 2 (aE (av 5) (aE (bG 2 (aE (av 6) (aE (av 7) (bH)))) (bH)))) (lQ A)) (bu (oH (dH dN (eFn 2 (fJ A) [] (ai (ah 0) (ai (ah 4) (ao))))) (aQ j4 (ai (ah 4) (ao))) (eC .non))))))
theorem Cr (A:Ad):∃ g:List D->M,g=aG 13 (qM A):=⟨_,rfl⟩
def jd (A:Ad):List D->M:=(Cr A).choose
theorem wC (A:Ad):jd A=aG 13 (qM A):=(Cr A).choose_spec
def Gm (A:Ad):RV.Env->M:=eC (.bl true)
def wW (A:Ad):RV.Env->M:=oH (dH dN (az aH (ah 1) (ah 6))) (eC .non) (aQ Iw (ai (az kj (ah 6) (ah 3)) (ao)))
def qj (A:Ad):RV.Env->MS:=fX (j7 (dH dN (az aH (ah 1) (ah 3)))) (aK (bC 4 (gH .still (jU (ai (aQ bQ (ai (ah 1) (ao))) (ao))) (av 6) (cP) (wW A) [6])) (iM (ah 2) (eu .tup (ai (ah 3) (ai (aQ qN (ai (eFn 2 (jd A) [] (ai (ah 0) (ai (ah 4) (ao)))) (ao))) (ao)))))) (cS)
def uF (A:Ad):RV.Env->MS:=aK (bC 1 (eFn 2 (jK A) [] (ai (ah 0) (ai (gH .still (e7 (aX (A.c "Net") (gY A) (ah 0))) (av 5) (cP) (Gm A) [5]) (ao))))) (aK (bC 2 (eNew (ao))) (aK (fY (jU (ai (aQ bQ (ai (ah 1) (ao))) (ao))) (av 3) (qj A)) (bu (ah 2))))
theorem zM (A:Ad):∃ g:List D->M,g=aG 7 (uF A):=⟨_,rfl⟩
def lg (A:Ad):List D->M:=(zM A).choose
theorem Az (A:Ad):lg A=aG 7 (uF A):=(zM A).choose_spec
def AA (A:Ad):RV.Env->MS:=bu (aQ bQ (ai (jS (gz (A.c "Net") "joined") (ah 0)) (ao)))
theorem HD (A:Ad):∃ g:List D->M,g=aG 1 (AA A):=⟨_,rfl⟩
def mL (A:Ad):List D->M:=(HD A).choose
theorem Hg (A:Ad):mL A=aG 1 (AA A):=(HD A).choose_spec
def pC (A:Ad):RV.Env->MS:=bu (Fz (aQ (gU (own A) (tab A)) (ai (ah 0) (ai (eC (.ty "int")) (ao)))) (Nz (dH dN (aQ (gU (own A) (tab A)) (ai (ah 0) (ai (eC (.ty "bool")) (ao)))))))
theorem A8 (A:Ad):∃ g:List D->M,g=aG 1 (pC A):=⟨_,rfl⟩
def iA (A:Ad):List D->M:=(A8 A).choose
theorem tQ (A:Ad):iA A=aG 1 (pC A):=(A8 A).choose_spec
def AQ (A:Ad):RV.Env->M:=eFn 1 (iA A) [] (ai (ah 2) (ao))
def ya (A:Ad):RV.Env->MS:=aK (fX (pJ (j7 (dH dN (aQ (gU (own A) (tab A)) (ai (ah 1) (ai (eC (.ty "tuple")) (ao)))))) (pJ (cO (az ni (aQ bQ (ai (ah 1) (ao))) (xh (BE (A.c "Net") (mL A)) (ai (ah 0) (ao))))) (j7 (dH dN (aQ yb (ai (gH .still (e7 (ah 1)) (av 2) (cP) (AQ A) [2]) (ao))))))) (bu (eC (.bl false))) (cS)) (bu (eFn 2 (fJ A) [] (ai (ah 0) (ai (ah 1) (ao)))))
theorem DF (A:Ad):∃ g:List D->M,g=aG 3 (ya A):=⟨_,rfl⟩
def mZ (A:Ad):List D->M:=(DF A).choose
theorem DU (A:Ad):mZ A=aG 3 (ya A):=(DF A).choose_spec
def uY (A:Ad):RV.Env->MS:=fX (j7 (dH dN (eFn 2 (mZ A) [] (ai (ah 0) (ai (ah 1) (ao)))))) (jM) (cS)
theorem zK (A:Ad):∃ g:List D->M,g=aG 2 (uY A):=⟨_,rfl⟩
def mH (A:Ad):List D->M:=(zK A).choose
theorem zQ (A:Ad):mH A=aG 2 (uY A):=(zK A).choose_spec
def se (A:Ad):RV.Env->M:=aX (A.c "Pipe") (bE A) (ah 2)
def oX (A:Ad):RV.Env->MS:=bu (Lx q7 (gH .still (e7 (jS (gz (A.c "Net") "joined") (ah 0))) (av 2) (cP) (se A) [2]) (ah 1))
theorem vg (A:Ad):∃ g:List D->M,g=aG 3 (oX A):=⟨_,rfl⟩
def b9 (A:Ad):List D->M:=(vg A).choose
theorem vD (A:Ad):b9 A=aG 3 (oX A):=(vg A).choose_spec
def xJ (A:Ad):RV.Env->M:=az aH (ah 1) (ko (A.c "Net") "number_of" 2 (b9 A) (ah 0) (ai (aX (A.c "Meter") (cC A) (ah 2)) (ao)))
def tN (A:Ad):RV.Env->MS:=bu (aQ j4 (ai (gH .still (e7 (aX (A.c "Net") (cz A) (ah 0))) (av 2) (cP) (xJ A) [2]) (ao)))
theorem z9 (A:Ad):∃ g:List D->M,g=aG 3 (tN A):=⟨_,rfl⟩
def lC (A:Ad):List D->M:=(z9 A).choose
theorem zZ (A:Ad):lC A=aG 3 (tN A):=(z9 A).choose_spec
def rT (A:Ad):RV.Env->MS:=aK (iS (eFn 1 (eB A) [] (ai (ah 0) (ao)))) (aK (iS (eFn 2 (mH A) [] (ai (ah 0) (ai (ah 1) (ao))))) (bu (eFn 2 (lC A) [] (ai (ah 0) (ai (ah 1) (ao))))))
theorem zA (A:Ad):∃ g:List D->M,g=aG 2 (rT A):=⟨_,rfl⟩
def kg (A:Ad):List D->M:=(zA A).choose
theorem zj (A:Ad):kg A=aG 2 (rT A):=(zA A).choose_spec
def uG (A:Ad):RV.Env->M:=aX (A.c "Meter") (bD A) (ah 2)
def ug (A:Ad):RV.Env->M:=ah 3
def yR (A:Ad):RV.Env->MS:=bu (Qa ⟨BQ (ai (aX (A.c "Net") (cz A) (ah 0)) (ai (ah 1) (ao))),bG 2 (aE (av 2) (aE (av 3) (bH))),cP,[2,3],[2,3]⟩ [] (uG A) (ug A))
theorem Fj (A:Ad):∃ g:List D->M,g=aG 4 (yR A):=⟨_,rfl⟩
def ng (A:Ad):List D->M:=(Fj A).choose
theorem D_ (A:Ad):ng A=aG 4 (yR A):=(Fj A).choose_spec
def uP (A:Ad):RV.Env->M:=az sN (ah 3) (aX (A.c "Meter") (bD A) (ah 4))
def qf (A:Ad):RV.Env->MS:=aK (bC 3 (eFn 2 (ng A) [] (ai (ah 0) (ai (eFn 2 (kg A) [] (ai (ah 0) (ai (ah 1) (ao)))) (ao))))) (bu (aQ j4 (ai (gH .still (e7 (aX (A.c "Net") (cz A) (ah 2))) (av 4) (cP) (uP A) [4]) (ao))))
theorem xA (A:Ad):∃ g:List D->M,g=aG 5 (qf A):=⟨_,rfl⟩
def jW (A:Ad):List D->M:=(xA A).choose
theorem wX (A:Ad):jW A=aG 5 (qf A):=(xA A).choose_spec
def sd (A:Ad):RV.Env->M:=eC .non
def nk (A:Ad):RV.Env->MS:=aK (fX (pJ (cO (az (gW false) (ah 5) (eC .non))) (cO (az (inD false) (aX (A.c "Meter") (bD A) (ah 4)) (ah 2)))) (ND) (cS)) (aK (bC 6 (ko (A.c "Net") "number_of" 2 (b9 A) (ah 0) (ai (aX (A.c "Meter") (cC A) (ah 4)) (ao)))) (aK (fX (rO (cO (az (gW true) (az aH (ah 3) (ah 6)) (eC .non))) (cO (az ni (az aH (ah 3) (ah 6)) (ah 5)))) (bu (eC .non)) (cS)) (qP (ah 3) (ah 6) (ah 5))))
def pL (A:Ad):RV.Env->MS:=aK (bC 3 (gH .new (e7 (aX (A.c "Net") (gY A) (ah 0))) (av 7) (cP) (sd A) [7])) (aK (fY (BQ (ai (aX (A.c "Net") (cz A) (ah 0)) (ai (ah 1) (ao)))) (bG 2 (aE (av 4) (aE (av 5) (bH)))) (nk A)) (bu (ah 3)))
theorem vC (A:Ad):∃ g:List D->M,g=aG 8 (pL A):=⟨_,rfl⟩
def jJ (A:Ad):List D->M:=(vC A).choose
theorem vF (A:Ad):jJ A=aG 8 (pL A):=(vC A).choose_spec
def A5 (A:Ad):RV.Env->MS:=aK (bC 3 (eFn 3 (jJ A) [] (ai (ah 2) (ai (eFn 3 (jW A) [] (ai (ah 0) (ai (ah 1) (ai (ah 2) (ao))))) (ai (eu .tup (ao)) (ao)))))) (bu (oH (cO (az (gW false) (ah 3) (eC .non))) (eC .non) (eFn 2 (jd A) [] (ai (ah 2) (ai (ah 3) (ao))))))
theorem Hs (A:Ad):∃ g:List D->M,g=aG 4 (A5 A):=⟨_,rfl⟩
def oF (A:Ad):List D->M:=(Hs A).choose
theorem Hv (A:Ad):oF A=aG 4 (A5 A):=(Hs A).choose_spec
def oq (A:Ad):RV.Env->MS:=aK (bC 7 (aQ j4 (ai (ah 6) (ao)))) (fX (cO (az (gW false) (eFn 3 (oF A) [] (ai (ah 3) (ai (ah 7) (ai (ah 4) (ao))))) (eC .non))) (bu (eu .tup (ai (ah 2) (ai (ah 7) (ao))))) (cS))
def n8 (A:Ad):RV.Env->MS:=fY (jC (eFn 1 (lg A) [] (ai (ah 3) (ao)))) (bG 2 (aE (av 5) (aE (av 6) (bH)))) (oq A)
def qm (A:Ad):RV.Env->MS:=aK (iS (eFn 2 (j_ A) [] (ai (ah 0) (ai (ah 1) (ao))))) (aK (fY (e7 (eu .tup (ai (eu .tup (ai (eC (.int 0)) (ai (ah 0) (ai (ah 1) (ao))))) (ai (eu .tup (ai (eC (.int 1)) (ai (ah 1) (ai (ah 0) (ao))))) (ao))))) (bG 3 (aE (av 2) (aE (av 3) (aE (av 4) (bH))))) (n8 A)) (bu (eC .non)))
theorem xO (A:Ad):∃ g:List D->M,g=aG 8 (qm A):=⟨_,rfl⟩
def gM (A:Ad):List D->M:=(xO A).choose
theorem wU (A:Ad):gM A=aG 8 (qm A):=(xO A).choose_spec
def oU (A:Ad):RV.Env->MS:=bu (az (gW false) (eFn 2 (gM A) [] (ai (ah 0) (ai (ah 1) (ao)))) (eC .non))
theorem ve (A:Ad):∃ g:List D->M,g=aG 2 (oU A):=⟨_,rfl⟩
def fV (A:Ad):List D->M:=(ve A).choose
theorem vG (A:Ad):fV A=aG 2 (oU A):=(ve A).choose_spec
def uH (A:Ad):RV.Env->MS:=fX (cO (az kj (aX (A.c "Pipe") (bE A) (ah 2)) (ah 1))) (bu (ah 2)) (cS)
def yc (A:Ad):RV.Env->MS:=aK (fY (e7 (jS (gz (A.c "Net") "joined") (ah 0))) (av 2) (uH A)) (jM)
theorem Fb (A:Ad):∃ g:List D->M,g=aG 3 (yc A):=⟨_,rfl⟩
def jQ (A:Ad):List D->M:=(Fb A).choose
theorem Er (A:Ad):jQ A=aG 3 (yc A):=(Fb A).choose_spec
def rA (A:Ad):RV.Env->MS:=fX (cO (az kj (aX (A.c "Meter") (bD A) (ah 2)) (ah 1))) (bu (ah 2)) (cS)
def v_ (A:Ad):RV.Env->MS:=aK (fY (e7 (jS (gz (A.c "Net") "fitted") (ah 0))) (av 2) (rA A)) (jM)
theorem Cs (A:Ad):∃ g:List D->M,g=aG 3 (v_ A):=⟨_,rfl⟩
def kI (A:Ad):List D->M:=(Cs A).choose
theorem Cd (A:Ad):kI A=aG 3 (v_ A):=(Cs A).choose_spec
def uJ (A:Ad):RV.Env->MS:=iS (ko (A.c "Net") "pipe" 2 (jQ A) (ah 0) (ai (ah 1) (ao)))
theorem AB (A:Ad):∃ g:List D->M,g=aG 2 (uJ A):=⟨_,rfl⟩
def jA (A:Ad):List D->M:=(AB A).choose
theorem AM (A:Ad):jA A=aG 2 (uJ A):=(AB A).choose_spec
def sr (A:Ad):RV.Env->MB:=cO (az kj (aX (A.c "Meter") (cC A) (ah 2)) (ah 1))
def su (A:Ad):RV.Env->M:=ah 2
def pS (A:Ad):RV.Env->MS:=bu (aQ j4 (ai (gH .still (e7 (jS (gz (A.c "Net") "fitted") (ah 0))) (av 2) (sr A) (su A) [2]) (ao)))
theorem vM (A:Ad):∃ g:List D->M,g=aG 3 (pS A):=⟨_,rfl⟩
def cZ (A:Ad):List D->M:=(vM A).choose
theorem vB (A:Ad):cZ A=aG 3 (pS A):=(vM A).choose_spec
def tX (A:Ad):RV.Env->M:=aX (A.c "Meter") (fN A) (ah 2)
def qk (A:Ad):RV.Env->MS:=bu (aQ J9 (ai (gH .still (e7 (ko (A.c "Net") "meters_at" 2 (cZ A) (ah 0) (ai (ah 1) (ao)))) (av 2) (cP) (tX A) [2]) (ao)))
theorem xx (A:Ad):∃ g:List D->M,g=aG 3 (qk A):=⟨_,rfl⟩
def gO (A:Ad):List D->M:=(xx A).choose
theorem xD (A:Ad):gO A=aG 3 (qk A):=(xx A).choose_spec
def jn (A:Ad):RV.Env->MS:=aK (bC 4 (Mn (az kj (aX (A.c "Pipe") (bE A) (ah 3)) (ah 1)) (ko (A.c "Net") "has_seal" 2 (gO A) (ah 0) (ai (aX (A.c "Pipe") (bE A) (ah 3)) (ao))))) (iM (ah 2) (oH (dH dN (ah 4)) (eC .non) (aQ bQ (ai (ko (A.c "Net") "meters_at" 2 (cZ A) (ah 0) (ai (aX (A.c "Pipe") (bE A) (ah 3)) (ao))) (ao)))))
def nY (A:Ad):RV.Env->MS:=aK (bC 2 (eNew (ao))) (aK (fY (e7 (aX (A.c "Net") (gY A) (ah 0))) (av 3) (jn A)) (bu (ah 2)))
theorem uL (A:Ad):∃ g:List D->M,g=aG 5 (nY A):=⟨_,rfl⟩
def iY (A:Ad):List D->M:=(uL A).choose
theorem uU (A:Ad):iY A=aG 5 (nY A):=(uL A).choose_spec
def Gg (A:Ad):RV.Env->MS:=fX (rO (cO (az (gW true) (az aH (ah 0) (ah 1)) (eC .non))) (pJ (cO (az (gW false) (az aH (ah 0) (ah 2)) (eC .non))) (cO (az Mi (az aH (ah 0) (ah 2)) (az cX (az aH (ah 0) (ah 1)) (ah 3)))))) (qP (ah 0) (ah 2) (az cX (az aH (ah 0) (ah 1)) (ah 3))) (cS)
theorem Mu (A:Ad):∃ g:List D->M,g=aG 4 (Gg A):=⟨_,rfl⟩
def qC (A:Ad):List D->M:=(Mu A).choose
theorem LM (A:Ad):qC A=aG 4 (Gg A):=(Mu A).choose_spec
def HS (A:Ad):RV.Env->M:=eC .non
def rM (A:Ad):RV.Env->MS:=fX (cO (az (gW true) (ah 7) (eC .non))) (aK (iS (eFn 4 (qC A) [] (ai (ah 3) (ai (ah 5) (ai (ah 6) (ai (ah 7) (ao))))))) (iS (eFn 4 (qC A) [] (ai (ah 3) (ai (ah 6) (ai (ah 5) (ai (ah 7) (ao)))))))) (cS)
def rK (A:Ad):RV.Env->MS:=fY (iZip (ai (aX (A.c "Net") (b8 A) (ah 0)) (ai (ah 2) (ao)))) (bG 2 (aE (bG 2 (aE (av 5) (aE (av 6) (bH)))) (aE (av 7) (bH)))) (rM A)
def wD (A:Ad):RV.Env->MS:=aK (bC 3 (gH .new (e7 (aX (A.c "Net") (cW A) (ah 0))) (av 8) (cP) (HS A) [8])) (aK (qP (ah 3) (ah 1) (eC (.int 0))) (aK (fY (jU (ai (aQ bQ (ai (ah 3) (ao))) (ao))) (av 4) (rK A)) (bu (ah 3))))
theorem B9 (A:Ad):∃ g:List D->M,g=aG 9 (wD A):=⟨_,rfl⟩
def lV (A:Ad):List D->M:=(B9 A).choose
theorem Ca (A:Ad):lV A=aG 9 (wD A):=(B9 A).choose_spec
def mD (A:Ad):RV.Env->MS:=bu (eFn 3 (lV A) [] (ai (ah 0) (ai (az aH (az aH (aX (A.c "Net") (b8 A) (ah 0)) (ko (A.c "Net") "number_of" 2 (b9 A) (ah 0) (ai (ah 1) (ao)))) (eC (.int 1))) (ai (eFn 2 (iY A) [] (ai (ah 0) (ai (ah 1) (ao)))) (ao)))))
theorem qX (A:Ad):∃ g:List D->M,g=aG 2 (mD A):=⟨_,rfl⟩
def gK (A:Ad):List D->M:=(qX A).choose
theorem qZ (A:Ad):gK A=aG 2 (mD A):=(qX A).choose_spec
def rQ (A:Ad):RV.Env->MS:=aK (bC 2 (az aH (eFn 2 (gK A) [] (ai (ah 0) (ai (ah 1) (ao)))) (az aH (az aH (aX (A.c "Net") (b8 A) (ah 0)) (ko (A.c "Net") "number_of" 2 (b9 A) (ah 0) (ai (ah 1) (ao)))) (eC (.int 0))))) (aK (fX (pJ (cO (az (gW false) (ah 2) (eC .non))) (dH dN (ko (A.c "Net") "has_seal" 2 (gO A) (ah 0) (ai (ah 1) (ao))))) (bu (eC .non)) (cS)) (bu (az cX (ah 2) (aQ bQ (ai (ko (A.c "Net") "meters_at" 2 (cZ A) (ah 0) (ai (ah 1) (ao))) (ao))))))
theorem zk (A:Ad):∃ g:List D->M,g=aG 3 (rQ A):=⟨_,rfl⟩
def iR (A:Ad):List D->M:=(zk A).choose
theorem zd (A:Ad):iR A=aG 3 (rQ A):=(zk A).choose_spec
def x6 (A:Ad):RV.Env->MS:=aK (iS (eFn 1 (eB A) [] (ai (ah 0) (ao)))) (aK (iS (eFn 2 (jA A) [] (ai (ah 0) (ai (ah 1) (ao))))) (bu (eFn 2 (iR A) [] (ai (ah 0) (ai (ah 1) (ao))))))
theorem EG (A:Ad):∃ g:List D->M,g=aG 2 (x6 A):=⟨_,rfl⟩
def lI (A:Ad):List D->M:=(EG A).choose
theorem Ep (A:Ad):lI A=aG 2 (x6 A):=(EG A).choose_spec
def tZ (A:Ad):RV.Env->MS:=aK (bC 2 (eFn 2 (bI A) [] (ai (ah 0) (ai (az cX (ah 1) (eC (.int 1))) (ao))))) (bu (eu .tup (ai (eFn 2 (bI A) [] (ai (ah 0) (ai (az cX (ah 2) (eC (.int 1))) (ao)))) (ai (ah 2) (ai (eFn 2 (bI A) [] (ai (ah 0) (ai (az cX (ah 1) (eC (.int 1))) (ao)))) (ao))))))
theorem Bb (A:Ad):∃ g:List D->M,g=aG 3 (tZ A):=⟨_,rfl⟩
def lB (A:Ad):List D->M:=(Bb A).choose
theorem Be (A:Ad):lB A=aG 3 (tZ A):=(Bb A).choose_spec
def yG (A:Ad):RV.Env->MS:=bu (Fz (eFn 1 (iA A) [] (ai (ah 0) (ao))) (Jo IU IU (eC (.int 0)) (ah 0) (eC (.int 3))))
theorem Eb (A:Ad):∃ g:List D->M,g=aG 1 (yG A):=⟨_,rfl⟩
def m5 (A:Ad):List D->M:=(Eb A).choose
theorem DI (A:Ad):m5 A=aG 1 (yG A):=(Eb A).choose_spec
def xr (A:Ad):RV.Env->M:=eFn 1 (m5 A) [] (ai (ah 1) (ao))
def uw (A:Ad):RV.Env->MS:=aK (fX (pJ (j7 (dH dN (aQ (gU (own A) (tab A)) (ai (ah 0) (ai (eC (.ty "tuple")) (ao)))))) (pJ (cO (az ni (aQ bQ (ai (ah 0) (ao))) (eC (.int 3)))) (j7 (dH dN (aQ yb (ai (gH .still (e7 (ah 0)) (av 1) (cP) (xr A) [1]) (ao))))))) (bu (eC (.bl false))) (cS)) (bu (az IU (az aH (ah 0) (eC (.int 0))) (az aH (ah 0) (eC (.int 1)))))
theorem A_ (A:Ad):∃ g:List D->M,g=aG 2 (uw A):=⟨_,rfl⟩
def kW (A:Ad):List D->M:=(A_ A).choose
theorem zR (A:Ad):kW A=aG 2 (uw A):=(A_ A).choose_spec
def qI (A:Ad):RV.Env->MS:=fX (j7 (dH dN (eFn 1 (kW A) [] (ai (ah 0) (ao))))) (jM) (cS)
theorem xB (A:Ad):∃ g:List D->M,g=aG 1 (qI A):=⟨_,rfl⟩
def jX (A:Ad):List D->M:=(xB A).choose
theorem xu (A:Ad):jX A=aG 1 (qI A):=(xB A).choose_spec
def FG (A:Ad):RV.Env->MS:=aK (bC 3 (eFn 2 (iR A) [] (ai (ah 0) (ai (ah 1) (ao))))) (bu (Mn (az (gW false) (ah 3) (eC .non)) (az Mi (ah 3) (aQ Fl (ai (aQ qN (ai (ah 2) (ao))) (ao))))))
theorem L7 (A:Ad):∃ g:List D->M,g=aG 4 (FG A):=⟨_,rfl⟩
def sX (A:Ad):List D->M:=(L7 A).choose
theorem Ms (A:Ad):sX A=aG 4 (FG A):=(L7 A).choose_spec
def yH (A:Ad):RV.Env->MS:=aK (iS (eFn 1 (eB A) [] (ai (ah 0) (ao)))) (aK (iS (eFn 2 (jA A) [] (ai (ah 0) (ai (ah 1) (ao))))) (aK (iS (eFn 1 (jX A) [] (ai (ah 2) (ao)))) (bu (eFn 3 (sX A) [] (ai (ah 0) (ai (ah 1) (ai (ah 2) (ao))))))))
theorem DL (A:Ad):∃ g:List D->M,g=aG 3 (yH A):=⟨_,rfl⟩
def lH (A:Ad):List D->M:=(DL A).choose
theorem Et (A:Ad):lH A=aG 3 (yH A):=(DL A).choose_spec
def zw (A:Ad):RV.Env->M:=eu .tup (ai (az aH (ah 6) (eC (.int 0))) (ai (az aH (ah 6) (eC (.int 1))) (ai (eC (.bl false)) (ao))))
def rN (A:Ad):RV.Env->MS:=aK (bC 7 (aX (A.c "Pipe") (bE A) (ko (A.c "Net") "pipe" 2 (jQ A) (ah 3) (ai (aX (A.c "Meter") (cC A) (ko (A.c "Net") "meter" 2 (kI A) (ah 3) (ai (az aH (ah 6) (eC (.int 0))) (ao)))) (ao))))) (aK (bC 8 (aX (A.c "Pipe") (bE A) (ko (A.c "Net") "pipe" 2 (jQ A) (ah 4) (ai (aX (A.c "Meter") (cC A) (ko (A.c "Net") "meter" 2 (kI A) (ah 4) (ai (az aH (ah 6) (eC (.int 0))) (ao)))) (ao))))) (aK (fX (cO (az ni (aQ xg (ai (eFn 2 (lI A) [] (ai (ah 3) (ai (ah 7) (ao)))) (ao))) (aQ xg (ai (eFn 2 (lI A) [] (ai (ah 4) (ai (ah 8) (ao)))) (ao))))) (bu (eC (.bl false))) (cS)) (aK (bC 9 (eFn 2 (lB A) [] (ai (ah 0) (ai (eC (.int 2)) (ao))))) (fX (cO (az ni (eFn 3 (lH A) [] (ai (ah 3) (ai (ah 7) (ai (ah 9) (ao))))) (eFn 3 (lH A) [] (ai (ah 4) (ai (ah 8) (ai (ah 9) (ao))))))) (bu (eC (.bl false))) (cS)))))
def wA (A:Ad):RV.Env->MS:=aK (bC 1 (eFn 3 (lW A) [] (ai (ah 0) (ai (eC (.int 5)) (ai (eC (.int 5)) (ao)))))) (aK (bC 2 (eFn 2 (l8 A) [] (ai (ah 0) (ai (ah 1) (ao))))) (aK (yl 3 4 (ai (OE (A.c "Net") 2 (kD A) (eC (.adr (A.c "Net"))) (ai (eFn 1 (kq A) [] (ai (ah 1) (ao))) (ao))) (ai (OE (A.c "Net") 2 (kD A) (eC (.adr (A.c "Net"))) (ai (eFn 1 (kq A) [] (ai (ah 2) (ao))) (ao))) (ao)))) (aK (fX (pJ (cO (az (Fy true) (eFn 2 (fV A) [] (ai (ah 3) (ai (ah 4) (ao)))) (eC (.bl true)))) (cO (az (Fy true) (eFn 2 (fV A) [] (ai (ah 4) (ai (ah 3) (ao)))) (eC (.bl true))))) (bu (eC (.bl false))) (cS)) (aK (fX (cO (az (gW true) (eFn 2 (gM A) [] (ai (ah 3) (ai (ah 4) (ao)))) (eC .non))) (bu (eC (.bl false))) (cS)) (aK (bC 5 (OE (A.c "Net") 2 (kD A) (eC (.adr (A.c "Net"))) (ai (eFn 1 (kq A) [] (ai (eu .lst (ai (az aH (ah 2) (eC (.int 0))) (ai (az aH (ah 2) (eC (.int 1))) (ai (gH .still (jC (az aH (ah 2) (eC (.int 2)))) (av 6) (cP) (zw A) [6]) (ao))))) (ao))) (ao)))) (aK (fX (cO (az (Fy true) (eFn 2 (fV A) [] (ai (ah 3) (ai (ah 5) (ao)))) (eC (.bl true)))) (bu (eC (.bl false))) (cS)) (aK (fY (jC (az aH (ah 1) (eC (.int 2)))) (av 6) (rN A)) (bu (eC (.bl true))))))))))
theorem B7 (A:Ad):∃ g:List D->M,g=aG 10 (wA A):=⟨_,rfl⟩
def l7 (A:Ad):List D->M:=(B7 A).choose
theorem Ct (A:Ad):l7 A=aG 10 (wA A):=(B7 A).choose_spec
def wo (A:Ad):RV.Env->MS:=fX (j7 (dH dN (eFn 1 (l7 A) [] (ai (eFn 2 (mW A) [] (ai (ah 0) (ai (ah 1) (ao)))) (ao))))) (bu (eC (.bl false))) (cS)
def zT (A:Ad):RV.Env->MS:=aK (fY (jU (ai (aQ ID (ai (eC (.int 2)) (ai (aQ yj (ai (aQ bQ (ai (ah 0) (ao))) (ai (eC (.int 5)) (ao)))) (ao)))) (ao))) (av 1) (wo A)) (bu (eC (.bl true)))
theorem GY (A:Ad):∃ g:List D->M,g=aG 2 (zT A):=⟨_,rfl⟩
def rm (A:Ad):List D->M:=(GY A).choose
theorem GN (A:Ad):rm A=aG 2 (zT A):=(GY A).choose_spec
end RV
end
section
noncomputable section
namespace K85
open PySem L2 RV
structure Txt (K:PySem.W.Frag) (mg:Str->Option Value) (A:Ad):Prop where
  n_abs:mg "abs"=none
  n_all:mg "all"=none
  n_any:mg "any"=none
  n_bool:mg "bool"=none
  n_divmod:mg "divmod"=none
  n_enumerate:mg "enumerate"=none
  n_int:mg "int"=none
  n_isinstance:mg "isinstance"=none
  n_len:mg "len"=none
  n_list:mg "list"=none
  n_max:mg "max"=none
  n_min:mg "min"=none
  n_range:mg "range"=none
  n_repr:mg "repr"=none
  n_sorted:mg "sorted"=none
  n_str:mg "str"=none
  n_sum:mg "sum"=none
  n_tuple:mg "tuple"=none
  n_zip:mg "zip"=none
  g_DIGITS:∃ t,mg "DIGITS"=some (.str "0123456789" t)
  g_LETTERS:∃ t,mg "LETTERS"=some (.str "abcdefghijklmnopqrstuvwxyz" t)
  g_LONGEST_NAME:∃ t,mg "LONGEST_NAME"=some (.int 8 t)
  g_MOST_FAULTS:∃ t,mg "MOST_FAULTS"=some (.int 3 t)
  g_MOST_METERS:∃ t,mg "MOST_METERS"=some (.int 12 t)
  g_MOST_PIPES:∃ t,mg "MOST_PIPES"=some (.int 12 t)
  m_Pipe:mg "Pipe"=some (.ref (A.c "Pipe"))
  m_Meter:mg "Meter"=some (.ref (A.c "Meter"))
  m_Net:mg "Net"=some (.ref (A.c "Net"))
  k_Pipe:nH K (A.c "Pipe")
  k_Meter:nH K (A.c "Meter")
  k_Net:nH K (A.c "Net")
  no_Meter_kept:NoAttr K (A.c "Meter") "kept"
  no_Net_fitted:NoAttr K (A.c "Net") "fitted"
  no_Net_joined:NoAttr K (A.c "Net") "joined"
  no_Pipe_kept:NoAttr K (A.c "Pipe") "kept"
  own:∀ C,own A C=true->nH K C
  kit:∀ t u b,tab A t u=some b->PySem.W.kitOne K t u=some b
theorem l6:FnScope ["_law_script","_law_k","_law_cell","_law_mixed","_law_other_here"] ["_law_script","_law_k"] (defScope iu):=⟨rfl,rfl,rfl,by decide+kernel,rfl,by decide+kernel,by decide+kernel⟩
theorem Ld {nn:Bool} {P:Program} {w:World} {K:PySem.W.Frag} {mg:Str->Option Value} {base:Heap} {A:Ad} {f:Addr} {fd:FuncData} {dfs:List V} {kfs:List (Str×V)} (T:Txt K mg A) (F:FunD K "_law_well" "_law_well" (defArgs iu) (defBody iu) (defScope iu) dfs kfs f fd):
    bf ⟨false,nn,false⟩ P w K mg base 1 f fd ["_law_script","_law_k"] (bh K 2 (mW A)):=by
  rw [DB]
  refine YB F l6 (λcdv Ar outer s H E pp hgd hr tk hp=>?_)
  replace hr:Room 0 (Ar.deeper (PyProof.Rows.envOfC "_law_well" (defScope iu) s.heap.objs.size f cdv)):=hr
  exact aq (a_ 2 l6.nd (gF (aZ op_lt Xv (aa 1) (aR call_len dW T.n_len (by decide+kernel) (af (aa 0) (aj))) (nomark _)) (aI ix_seq aJ (aa 0) (aa 1)) (ge_int)))
    (aq (a_ 3 l6.nd (bN bR bS (ge_int) (bN op_mul w_ (ge_int) (aa 1))))
    (aq (dj hp rfl (dP (Rg sl_list W7 (aa 0) (Tj) (T3 (ge_int)))) (aC 4 l6.nd) (au (a_ 3 l6.nd (bN op_mod sZ (cN call_int1 pX T.n_int (by decide+kernel) (af (bN bR bS (bN bR bS (bN op_mul w_ (aa 3) (ge_int)) (bN op_mod sZ (cN call_int1 pX T.n_int (by decide+kernel) (af (aa 4) (aj))) (ge_int))) (ge_int)) (aj))) (ge_int)))))
    (aq (a_ 3 l6.nd (bN op_mod sZ (cN call_int1 pX T.n_int (by decide+kernel) (af (bN bR bS (bN bR bS (bN op_mul w_ (aa 3) (ge_int)) (bN op_mod sZ (cN call_int1 pX T.n_int (by decide+kernel) (af (aa 2) (aj))) (ge_int))) (ge_int)) (aj))) (ge_int)))
    (au (aP (ki (af (aa 3) (af (gF (aZ op_ge Ip (aR call_abs Qu T.n_abs (by decide+kernel) (af (aa 2) (aj))) (bN op_pow WI (ge_int) (ge_int)) (nomark _)) (aR call_abs Qu T.n_abs (by decide+kernel) (af (aa 2) (aj))) (ge_int)) (af (ge_int) (aj))))))))))
theorem D9:FnScope ["_law_well_here","_law_many","_law_digit"] ["_law_well_here","_law_many"] (defScope jg):=⟨rfl,rfl,rfl,by decide+kernel,rfl,by decide+kernel,by decide+kernel⟩
theorem Nv {nn:Bool} {P:Program} {w:World} {K:PySem.W.Frag} {mg:Str->Option Value} {base:Heap} {A:Ad} {f:Addr} {fd:FuncData} {dfs:List V} {kfs:List (Str×V)} (T:Txt K mg A) (F:FunD K "_law_dip" "_law_dip" (defArgs jg) (defBody jg) (defScope jg) dfs kfs f fd):
    bf ⟨false,nn,false⟩ P w K mg base 1 f fd ["_law_well_here","_law_many"] (bh K 2 (bI A)):=by
  rw [Hj]
  refine bJ F D9 (λcdv Ar outer s H E pp hgd hr tk hp=>?_)
  replace hr:Room 0 (Ar.deeper (PyProof.Rows.envOfC "_law_dip" (defScope jg) s.heap.objs.size f cdv)):=hr
  exact aq (b6 (aZ op_gt IC (aI ix_seq aJ (aa 0) (ge_int)) (ge_int) (nomark _)) (aq (NJ 2 rfl D9.nd (aR call_divmodW Pb T.n_divmod (by decide+kernel) (af (aI ix_seq aJ (aa 0) (ge_int)) (af (aa 1) (aj)))) (aa 0) (ge_int))
    (au (aP (aa 2)))) (bB))
    (aq (ql (bN bR bS (aI ix_seq aJ (aa 0) (ge_int)) (ge_int)) (aa 0) (ge_int))
    (aq (ql (bN op_mod sZ (cN call_int1 pX T.n_int (by decide+kernel) (af (bN bR bS (bN bR bS (bN op_mul w_ (aI ix_seq aJ (aa 0) (ge_int)) (ge_int)) (bN op_mul w_ (bN op_mul w_ (ge_int) (aI ix_seq aJ (aa 0) (ge_int))) (aI ix_seq aJ (aa 0) (ge_int)))) (ge_int)) (aj))) (ge_int)) (aa 0) (ge_int))
    (au (aP (bN op_mod sZ (cN call_int1 pX T.n_int (by decide+kernel) (af (bN op_fdiv Ua (aI ix_seq aJ (aa 0) (ge_int)) (ge_int)) (aj))) (aa 1))))))
theorem cM:FnScope ["_law_well_here","_law_many","_law_words","_law_signs","_law_found","_law_k","_law_size","_law_word","_law_spare","_law_j","_law_one"] ["_law_well_here","_law_many"] (defScope fZ):=⟨rfl,rfl,rfl,by decide+kernel,rfl,by decide+kernel,by decide+kernel⟩
theorem IY {nn:Bool} {P:Program} {w:World} {K:PySem.W.Frag} {mg:Str->Option Value} {base:Heap} {A:Ad} {f:Addr} {fd:FuncData} {dfs:List V} {kfs:List (Str×V)} (T:Txt K mg A) (F:FunD K "_law_names" "_law_names" (defArgs fZ) (defBody fZ) (defScope fZ) dfs kfs f fd) (c_dip_k23:Fc P w K mg base ⟨false,nn,false⟩ "_law_dip" 1 2 (bI A)):
    bf ⟨false,nn,false⟩ P w K mg base 2 f fd ["_law_well_here","_law_many"] (bh K 2 (fK A)):=by
  rw [CD]
  refine bJ F cM (λcdv Ar outer s H E pp hgd hr tk hp=>?_)
  replace hr:Room 1 (Ar.deeper (PyProof.Rows.envOfC "_law_names" (defScope fZ) s.heap.objs.size f cdv)):=hr
  exact aq (a_ 2 cM.nd (pq (af (ge_str) (af (ge_str) (af (ge_str) (af (ge_str) (af (ge_str) (af (ge_str) (af (ge_str) (af (ge_str) (af (ge_str) (af (ge_str) (aj)))))))))))))
    (aq (ES (fP (af (ge_str) (af (ki (aj)) (aj)))) (eK rfl (aU (aC 3 cM.nd) (aU (aC 4 cM.nd) (dh)))))
    (aq (dj hp rfl (je T.n_range (af (aa 1) (aj))) (aC 5 cM.nd) (aq (a_ 6 cM.nd (gF (aZ (fR hr) fO (aB (h:=false) tk c_dip_k23 aV hr (af (aa 0) (af (ge_int) (aj)))) (ge_int) (nomark _)) (aB (h:=false) tk c_dip_k23 aV hr (af (aa 0) (af (ge_int) (aj)))) (aB (h:=false) tk c_dip_k23 aV hr (af (aa 0) (af (ge_int) (aj))))))
    (aq (a_ 7 cM.nd (bN bR bS (aI ix_seq aJ (aa 3) (aB (h:=false) tk c_dip_k23 aV hr (af (aa 0) (af (ge_int) (aj))))) (FE (ge_str) (fM (own:=[("_law_j",9)]) rfl cM.nd (je T.n_range (af (aa 6) (aj))) (blkOk_by (by rfl)) (λ_ _ _ _ _=>aC 9 cM.nd) (λ_ _ _ _ _=>bV) (λ_ _ _ _ _=>aI ix_seq aJ (aa 3) (aB (h:=false) E6 c_dip_k23 aV hr (af (aa 0) (af (ge_int) (aj)))))))))
    (aq (b6 (aZ (fR hr) fO (aB (h:=false) tk c_dip_k23 aV hr (af (aa 0) (af (ge_int) (aj)))) (ge_int) (nomark _)) (au (a_ 7 cM.nd (aI ix_seq aJ (aa 2) (aB (h:=false) tk c_dip_k23 aV hr (af (aa 0) (af (ge_int) (aj))))))) (bB))
    (aq (a_ 8 cM.nd (bN bR bS (pq (af (aa 7) (aj))) (fM (own:=[("_law_j",9)]) rfl cM.nd (je T.n_range (af (aa 1) (aj))) (blkOk_by (by rfl)) (λ_ _ _ _ _=>aC 9 cM.nd) (λ_ _ _ _ _=>bV) (λ_ _ _ _ _=>bN bR bS (ge_str) (cN Nk RG T.n_str (by decide+kernel) (af (aa 9) (aj)))))))
    (au (gJ (aa 4) (aI ix_seq aJ (fM (own:=[("_law_one",10)]) rfl cM.nd (dP (aa 8)) (blkOk_by (by rfl)) (λ_ _ _ _ _=>aC 10 cM.nd) (λ_ _ _ _ _=>mY (aZ op_notIn_seq qL (aa 10) (aa 4) (by rfl))) (λ_ _ _ _ _=>aa 10)) (ge_int)))))))))
    (au (aP (aa 4)))))
theorem d7:FnScope ["_law_well_here","_law_most","_law_more","_law_count","_law_size","_law_places","_law_titles","_law_pipes","_law_gauges","_law_k","_law_start","_law_even","_law_names_here","_law_at"] ["_law_well_here","_law_most","_law_more"] (defScope f_):=⟨rfl,rfl,rfl,by decide+kernel,rfl,by decide+kernel,by decide+kernel⟩
theorem JB {nn:Bool} {P:Program} {w:World} {K:PySem.W.Frag} {mg:Str->Option Value} {base:Heap} {A:Ad} {f:Addr} {fd:FuncData} {dfs:List V} {kfs:List (Str×V)} (T:Txt K mg A) (F:FunD K "_law_model" "_law_model" (defArgs f_) (defBody f_) (defScope f_) dfs kfs f fd) (c_dip_k23:Fc P w K mg base ⟨false,nn,false⟩ "_law_dip" 1 2 (bI A)) (c_names_k23:Fc P w K mg base ⟨false,nn,false⟩ "_law_names" 2 2 (fK A)):
    bf ⟨false,nn,false⟩ P w K mg base 3 f fd ["_law_well_here","_law_most","_law_more"] (bh K 3 (lW A)):=by
  rw [B0]
  refine Wb F d7 (λcdv Ar outer s H E pp hgd hr tk hp=>?_)
  replace hr:Room 2 (Ar.deeper (PyProof.Rows.envOfC "_law_model" (defScope f_) s.heap.objs.size f cdv)):=hr
  exact aq (xE 3 4 rfl d7.nd (af (bN bR bS (ge_int) (aB (h:=false) tk c_dip_k23 aV hr (af (aa 0) (af (ge_int) (aj))))) (af (bN bR bS (ge_int) (aB (h:=false) tk c_dip_k23 aV hr (af (aa 0) (af (bN op_sub Qm (aa 1) (ge_int)) (aj))))) (aj))))
    (aq (ES (fP (af (aB (h:=false) tk c_names_k23 aV hr (af (aa 0) (af (aa 3) (aj)))) (af (aB (h:=false) tk c_names_k23 aV hr (af (aa 0) (af (aa 4) (aj)))) (af (ki (aj)) (af (ki (aj)) (aj)))))) (eK rfl (aU (aC 5 d7.nd) (aU (aC 6 d7.nd) (aU (aC 7 d7.nd) (aU (aC 8 d7.nd) (dh)))))))
    (aq (dj hp rfl (je T.n_range (af (aa 4) (aj))) (aC 9 d7.nd) (aq (a_ 10 d7.nd (aB (h:=false) tk c_dip_k23 aV hr (af (aa 0) (af (aa 3) (aj)))))
    (au (gJ (aa 7) (fP (af (aI ix_seq aJ (aa 6) (aa 9)) (af (aa 10) (af (bN op_mod sZ (cN call_int1 pX T.n_int (by decide+kernel) (af (bN bR bS (bN bR bS (aa 10) (ge_int)) (aB (h:=false) tk c_dip_k23 aV hr (af (aa 0) (af (bN op_sub Qm (aa 3) (ge_int)) (aj))))) (aj))) (aa 3)) (aj)))))))))
    (aq (a_ 11 d7.nd (jN (fR hr) fO (aB (h:=false) tk c_dip_k23 aV hr (af (aa 0) (af (ge_int) (aj)))) (ge_int) (nomark _)))
    (aq (a_ 12 d7.nd (aB (h:=false) tk c_names_k23 aV hr (af (aa 0) (af (gF (bZ tru_ok bW (aa 11)) (aR (call_min2 rfl) MF T.n_min (by decide+kernel) (af (aa 2) (af (aa 4) (aj)))) (aB (h:=false) tk c_dip_k23 aV hr (af (aa 0) (af (bN bR bS (aa 2) (ge_int)) (aj))))) (aj)))))
    (aq (dj hp rfl (je T.n_range (af (aR call_len dW T.n_len (by decide+kernel) (af (aa 12) (aj))) (aj))) (aC 9 d7.nd) (aq (a_ 13 d7.nd (gF (bZ tru_ok bW (aa 11)) (aa 9) (aB (h:=false) tk c_dip_k23 aV hr (af (aa 0) (af (aa 4) (aj))))))
    (au (gJ (aa 8) (fP (af (aI ix_seq aJ (aa 12) (aa 9)) (af (aa 13) (af (jN (fR hr) fO (aB (h:=false) tk c_dip_k23 aV hr (af (aa 0) (af (ge_int) (aj)))) (ge_int) (nomark _)) (aj)))))))))
    (au (aP (pq (af (aa 5) (af (aa 7) (af (aa 8) (aj))))))))))))
theorem eF:FnScope ["_law_model_here","_law_found","_law_k","_law_ends","_law_beside","_law_one","_law_gauge"] ["_law_model_here"] (defScope cK):=⟨rfl,rfl,rfl,by decide+kernel,rfl,by decide+kernel,by decide+kernel⟩
theorem BZ {nn:Bool} {P:Program} {w:World} {K:PySem.W.Frag} {mg:Str->Option Value} {base:Heap} {A:Ad} {f:Addr} {fd:FuncData} {dfs:List V} {kfs:List (Str×V)} (T:Txt K mg A) (F:FunD K "_law_shrinkable" "_law_shrinkable" (defArgs cK) (defBody cK) (defScope cK) dfs kfs f fd):
    bf ⟨false,nn,false⟩ P w K mg base 1 f fd ["_law_model_here"] (bh K 1 (i_ A)):=by
  rw [ud]
  refine bJ F eF (λcdv Ar outer s H E pp hgd hr tk hp=>?_)
  replace hr:Room 0 (Ar.deeper (PyProof.Rows.envOfC "_law_shrinkable" (defScope cK) s.heap.objs.size f cdv)):=hr
  exact aq (a_ 1 eF.nd (ki (aj)))
    (aq (dj hp rfl (je T.n_range (af (aR call_len dW T.n_len (by decide+kernel) (af (aI ix_seq aJ (aa 0) (ge_int)) (aj))) (aj))) (aC 2 eF.nd) (aq (a_ 3 eF.nd (pq (af (aI ix_seq aJ (aI ix_seq aJ (aI ix_seq aJ (aa 0) (ge_int)) (aa 2)) (ge_int)) (af (aI ix_seq aJ (aI ix_seq aJ (aI ix_seq aJ (aa 0) (ge_int)) (aa 2)) (ge_int)) (aj)))))
    (aq (kH 4 (own:=[("_law_one",5)]) rfl eF.nd (dP (aI ix_seq aJ (aa 0) (ge_int))) (blkOk_by (by rfl)) (λ_ _ _ _ _=>aC 5 eF.nd) (λ_ _ _ _ _=>mY (GW.gt (oW (aZ op_in_seq qL (aI ix_seq aJ (aa 5) (ge_int)) (aa 3) (by rfl)) (mX (aZ op_in_seq qL (aI ix_seq aJ (aa 5) (ge_int)) (aa 3) (by rfl)))))) (λ_ _ _ _ _=>aa 5) (sw_true rfl rfl rfl (by decide+kernel)))
    (au (b6 (GW.gt (oW (aZ (fR hr) fO (aR call_len dW T.n_len (by decide+kernel) (af (aa 4) (aj))) (ge_int) (nomark _)) (mX (aZ (fR hr) fO (fM (own:=[("_law_gauge",6)]) rfl eF.nd (dP (aI ix_seq aJ (aa 0) (ge_int))) (blkOk_by (by rfl)) (λ_ _ _ _ _=>aC 6 eF.nd) (λ_ _ _ _ _=>mY (aZ (fR hr) fO (aI ix_seq aJ (aa 6) (ge_int)) (aa 2) (nomark _))) (λ_ _ _ _ _=>aa 6)) (pq (aj)) (nomark _))))) (au (gJ (aa 1) (aa 2))) (bB))))))
    (au (aP (aa 1))))
theorem pK:FnScope ["_law_well_here","_law_many","_law_found","_law_k"] ["_law_well_here","_law_many"] (defScope dD):=⟨rfl,rfl,rfl,by decide+kernel,rfl,by decide+kernel,by decide+kernel⟩
theorem Fd {nn:Bool} {P:Program} {w:World} {K:PySem.W.Frag} {mg:Str->Option Value} {base:Heap} {A:Ad} {f:Addr} {fd:FuncData} {dfs:List V} {kfs:List (Str×V)} (T:Txt K mg A) (F:FunD K "_law_shuffled" "_law_shuffled" (defArgs dD) (defBody dD) (defScope dD) dfs kfs f fd) (c_dip_k23:Fc P w K mg base ⟨false,nn,false⟩ "_law_dip" 1 2 (bI A)):
    bf ⟨false,nn,false⟩ P w K mg base 2 f fd ["_law_well_here","_law_many"] (bh K 2 (i8 A)):=by
  rw [xN]
  refine bJ F pK (λcdv Ar outer s H E pp hgd hr tk hp=>?_)
  replace hr:Room 1 (Ar.deeper (PyProof.Rows.envOfC "_law_shuffled" (defScope dD) s.heap.objs.size f cdv)):=hr
  exact aq (a_ 2 pK.nd (ki (aj)))
    (aq (dj hp rfl (je T.n_range (af (aa 1) (aj))) (aC 3 pK.nd) (au (Qo (aa 2) (af (aB (h:=false) tk c_dip_k23 aV hr (af (aa 0) (af (bN bR bS (aa 3) (ge_int)) (aj)))) (af (aa 3) (aj))))))
    (au (aP (aa 2))))
theorem dQ:FnScope ["_law_well_here","_law_model_here","_law_some","_law_gone","_law_places","_law_titles","_law_kept","_law_pipes","_law_k","_law_ends","_law_gauges","_law_one"] ["_law_well_here","_law_model_here"] (defScope gi):=⟨rfl,rfl,rfl,by decide+kernel,rfl,by decide+kernel,by decide+kernel⟩
theorem J_ {nn:Bool} {P:Program} {w:World} {K:PySem.W.Frag} {mg:Str->Option Value} {base:Heap} {A:Ad} {f:Addr} {fd:FuncData} {dfs:List V} {kfs:List (Str×V)} (T:Txt K mg A) (F:FunD K "_law_other" "_law_other" (defArgs gi) (defBody gi) (defScope gi) dfs kfs f fd) (c_dip_k23:Fc P w K mg base ⟨false,nn,false⟩ "_law_dip" 1 2 (bI A)) (c_names_k23:Fc P w K mg base ⟨false,nn,false⟩ "_law_names" 2 2 (fK A)) (c_shrinkable_k85:Fc P w K mg base ⟨false,nn,false⟩ "_law_shrinkable" 1 1 (i_ A)) (c_shuffled_k85:Fc P w K mg base ⟨false,nn,false⟩ "_law_shuffled" 2 2 (i8 A)):
    bf ⟨false,nn,false⟩ P w K mg base 3 f fd ["_law_well_here","_law_model_here"] (bh K 2 (l8 A)):=by
  rw [Cp]
  refine Wb F dQ (λcdv Ar outer s H E pp hgd hr tk hp=>?_)
  replace hr:Room 2 (Ar.deeper (PyProof.Rows.envOfC "_law_other" (defScope gi) s.heap.objs.size f cdv)):=hr
  exact aq (a_ 2 dQ.nd (aB (h:=false) tk c_shrinkable_k85 aV hr (af (aa 1) (aj))))
    (aq (a_ 3 dQ.nd (gF (GW.gt (oW (aZ (ny hr) nA (aa 2) (pq (aj)) (nomark _)) (mX (aZ op_gt IC (aR call_len dW T.n_len (by decide+kernel) (af (aI ix_seq aJ (aa 1) (ge_int)) (aj))) (ge_int) (nomark _))))) (aI ix_seq aJ (aa 2) (aB (h:=false) tk c_dip_k23 aV hr (af (aa 0) (af (aR call_len dW T.n_len (by decide+kernel) (af (aa 2) (aj))) (aj))))) (W2 un_neg VM (ge_int))))
    (aq (xE 4 5 rfl dQ.nd (af (aB (h:=false) tk c_names_k23 aV hr (af (aa 0) (af (aR call_len dW T.n_len (by decide+kernel) (af (aI ix_seq aJ (aa 1) (ge_int)) (aj))) (aj)))) (af (aB (h:=false) tk c_names_k23 aV hr (af (aa 0) (af (aR call_len dW T.n_len (by decide+kernel) (af (aI ix_seq aJ (aa 1) (ge_int)) (aj))) (aj)))) (aj))))
    (aq (xE 6 7 rfl dQ.nd (af (fM (own:=[("_law_k",8)]) rfl dQ.nd (dP (aB (h:=false) tk c_shuffled_k85 aV hr (af (aa 0) (af (aR call_len dW T.n_len (by decide+kernel) (af (aI ix_seq aJ (aa 1) (ge_int)) (aj))) (aj))))) (blkOk_by (by rfl)) (λ_ _ _ _ _=>aC 8 dQ.nd) (λ_ _ _ _ _=>mY (aZ (ny hr) nA (aa 8) (aa 3) (nomark _))) (λ_ _ _ _ _=>aa 8)) (af (ki (aj)) (aj))))
    (aq (dj hp rfl (dP (aa 6)) (aC 8 dQ.nd) (aq (a_ 9 dQ.nd (pq (af (aI ix_seq aJ (aI ix_seq aJ (aI ix_seq aJ (aa 1) (ge_int)) (aa 8)) (ge_int)) (af (aI ix_seq aJ (aI ix_seq aJ (aI ix_seq aJ (aa 1) (ge_int)) (aa 8)) (ge_int)) (aj)))))
    (aq (b6 (aZ op_ge Ip (aa 3) (ge_int) (nomark _)) (au (kH 9 (own:=[("_law_one",11)]) rfl dQ.nd (dP (aa 9)) (blkOk_by (by rfl)) (λ_ _ _ _ _=>aC 11 dQ.nd) (λ_ _ _ _ _=>bV) (λ_ _ _ _ _=>gF (aZ (fR hr) fO (aa 11) (aI ix_seq aJ (aI ix_seq aJ (aI ix_seq aJ (aa 1) (ge_int)) (aa 3)) (ge_int)) (nomark _)) (aI ix_seq aJ (aI ix_seq aJ (aI ix_seq aJ (aa 1) (ge_int)) (aa 3)) (ge_int)) (aa 11)) (sw_true rfl rfl rfl (by decide+kernel)))) (bB))
    (au (gJ (aa 7) (fP (af (aI ix_seq aJ (aa 5) (aa 8)) (af (aI ix_seq aJ (aa 9) (ge_int)) (af (aI ix_seq aJ (aa 9) (ge_int)) (aj))))))))))
    (aq (a_ 10 dQ.nd (ki (aj)))
    (aq (dj hp rfl (dP (aB (h:=false) tk c_shuffled_k85 aV hr (af (aa 0) (af (aR call_len dW T.n_len (by decide+kernel) (af (aI ix_seq aJ (aa 1) (ge_int)) (aj))) (aj))))) (aC 8 dQ.nd) (au (gJ (aa 10) (fP (af (aI ix_seq aJ (aI ix_seq aJ (aI ix_seq aJ (aa 1) (ge_int)) (aa 8)) (ge_int)) (af (JN (aa 6) (aI ix_seq aJ (aI ix_seq aJ (aI ix_seq aJ (aa 1) (ge_int)) (aa 8)) (ge_int))) (af (aI ix_seq aJ (aI ix_seq aJ (aI ix_seq aJ (aa 1) (ge_int)) (aa 8)) (ge_int)) (aj))))))))
    (au (aP (pq (af (aa 4) (af (aa 7) (af (aa 10) (aj)))))))))))))
theorem yq:FnScope ["value","sign"] ["value"] (defScope jD):=⟨rfl,rfl,rfl,by decide+kernel,rfl,by decide+kernel,by decide+kernel⟩
theorem M5 {nn:Bool} {P:Program} {w:World} {K:PySem.W.Frag} {mg:Str->Option Value} {base:Heap} {A:Ad} {f:Addr} {fd:FuncData} {dfs:List V} {kfs:List (Str×V)} (T:Txt K mg A) (F:FunD K "is_name" "is_name" (defArgs jD) (defBody jD) (defScope jD) dfs kfs f fd):
    bf ⟨false,nn,false⟩ P w K mg base 1 f fd ["value"] (bh K 1 (oA A)):=by
  rw [GL]
  refine bJ F yq (λcdv Ar outer s H E pp hgd hr tk hp=>?_)
  replace hr:Room 0 (Ar.deeper (PyProof.Rows.envOfC "is_name" (defScope jD) s.heap.objs.size f cdv)):=hr
  exact aq (b6 (GW.gt (kQ (gQ (bZ tru_ok bW (aR call_isi (j5 T.own T.kit) T.n_isinstance (by decide+kernel) (af (aa 0) (af (sG T.n_str (by decide+kernel)) (aj)))))) (kQ (gQ (Ry op_le op_le ro_le ro_le (ge_int) (aR call_len dW T.n_len (by decide+kernel) (af (aa 0) (aj))) (BH T.g_LONGEST_NAME))) (nB (aZ op_notIn_sign P0 (aI ix_seq aJ (aa 0) (ge_int)) (FU T.g_LETTERS) (by rfl)))))) (au (aP (kR))) (bB))
    (au (aP (aR (cr_all rfl) DX T.n_all (by decide+kernel) (af (fM (own:=[("sign",1)]) rfl yq.nd (VA (aa 0)) (blkOk_by (by rfl)) (λ_ _ _ _ _=>aC 1 yq.nd) (λ_ _ _ _ _=>bV) (λ_ _ _ _ _=>NZ (jN op_in_sign Py (aa 1) (FU T.g_LETTERS) (by rfl)) (uo (jN op_in_sign Py (aa 1) (FU T.g_DIGITS) (by rfl))))) (aj)))))
theorem Ib:FnScope ["value"] ["value"] (defScope fq):=⟨rfl,rfl,rfl,by decide+kernel,rfl,by decide+kernel,by decide+kernel⟩
theorem H_ {nn:Bool} {P:Program} {w:World} {K:PySem.W.Frag} {mg:Str->Option Value} {base:Heap} {A:Ad} {f:Addr} {fd:FuncData} {dfs:List V} {kfs:List (Str×V)} (T:Txt K mg A) (F:FunD K "check_name" "check_name" (defArgs fq) (defBody fq) (defScope fq) dfs kfs f fd) (c_is_name:Fc P w K mg base ⟨false,nn,false⟩ "is_name" 1 1 (oA A)):
    bf ⟨false,nn,false⟩ P w K mg base 2 f fd ["value"] (bh K 1 (fE A)):=by
  rw [zO]
  refine bJ F Ib (λcdv Ar outer s H E pp hgd hr tk hp=>?_)
  replace hr:Room 1 (Ar.deeper (PyProof.Rows.envOfC "check_name" (defScope fq) s.heap.objs.size f cdv)):=hr
  exact au (b6 (gQ (bZ tru_ok bW (aB (h:=false) tk c_is_name aV hr (af (aa 0) (aj))))) (au (gE)) (bB))
theorem Km:FnScope ["self","name","start","end"] ["self","name","start","end"] (defScope gk):=⟨rfl,rfl,rfl,by decide+kernel,rfl,by decide+kernel,by decide+kernel⟩
theorem JJ {nn:Bool} {P:Program} {w:World} {K:PySem.W.Frag} {mg:Str->Option Value} {base:Heap} {A:Ad} {f:Addr} {fd:FuncData} {dfs:List V} {kfs:List (Str×V)} (T:Txt K mg A) (F:FunD K "__init__" "Pipe.__init__" (defArgs gk) (defBody gk) (defScope gk) dfs kfs f fd) (c_check_name:Fc P w K mg base ⟨false,nn,false⟩ "check_name" 2 1 (fE A)):
    bf ⟨false,nn,false⟩ P w K mg base 3 f fd ["self","name","start","end"] (bh K 4 (lY A)):=by
  rw [Cg]
  refine bJ F Km (λcdv Ar outer s H E pp hgd hr tk hp=>?_)
  replace hr:Room 2 (Ar.deeper (PyProof.Rows.envOfC "Pipe.__init__" (defScope gk) s.heap.objs.size f cdv)):=hr
  exact aq (eW (aB (h:=false) tk c_check_name aV hr (af (aa 1) (aj))))
    (aq (eW (aB (h:=false) tk c_check_name aV hr (af (aa 2) (aj))))
    (aq (eW (aB (h:=false) tk c_check_name aV hr (af (aa 3) (aj))))
    (aq (b6 (aZ (fR hr) fO (aa 3) (aa 2) (nomark _)) (au (gE)) (bB))
    (au (E4 T.k_Pipe.cl T.no_Pipe_kept (aa 0) (fP (af (aa 1) (af (aa 2) (af (aa 3) (aj))))))))))
theorem HU:FnScope ["self","name","at","sealed"] ["self","name","at","sealed"] (defScope fc):=⟨rfl,rfl,rfl,by decide+kernel,rfl,by decide+kernel,by decide+kernel⟩
theorem HX {nn:Bool} {P:Program} {w:World} {K:PySem.W.Frag} {mg:Str->Option Value} {base:Heap} {A:Ad} {f:Addr} {fd:FuncData} {dfs:List V} {kfs:List (Str×V)} (T:Txt K mg A) (F:FunD K "__init__" "Meter.__init__" (defArgs fc) (defBody fc) (defScope fc) dfs kfs f fd) (c_check_name:Fc P w K mg base ⟨false,nn,false⟩ "check_name" 2 1 (fE A)):
    bf ⟨false,nn,false⟩ P w K mg base 3 f fd ["self","name","at","sealed"] (bh K 4 (k_ A)):=by
  rw [AL]
  refine bJ F HU (λcdv Ar outer s H E pp hgd hr tk hp=>?_)
  replace hr:Room 2 (Ar.deeper (PyProof.Rows.envOfC "Meter.__init__" (defScope fc) s.heap.objs.size f cdv)):=hr
  exact aq (eW (aB (h:=false) tk c_check_name aV hr (af (aa 1) (aj))))
    (aq (eW (aB (h:=false) tk c_check_name aV hr (af (aa 2) (aj))))
    (aq (b6 (gQ (bZ tru_ok bW (aR call_isi (j5 T.own T.kit) T.n_isinstance (by decide+kernel) (af (aa 3) (af (sG T.n_bool (by decide+kernel)) (aj)))))) (au (gE)) (bB))
    (au (E4 T.k_Meter.cl T.no_Meter_kept (aa 0) (fP (af (aa 1) (af (aa 2) (af (aa 3) (aj)))))))))
theorem DG:FnScope ["line","words"] ["line"] (defScope jt):=⟨rfl,rfl,rfl,by decide+kernel,rfl,by decide+kernel,by decide+kernel⟩
theorem Nd {nn:Bool} {P:Program} {w:World} {K:PySem.W.Frag} {mg:Str->Option Value} {base:Heap} {A:Ad} {f:Addr} {fd:FuncData} {dfs:List V} {kfs:List (Str×V)} (T:Txt K mg A) (F:FunD K "item_of" "item_of" (defArgs jt) (defBody jt) (defScope jt) dfs kfs f fd) (mk_Meter_2_sealed:Su P w K mg base nn "Meter" (A.c "Meter") 3 4 2 ["sealed"] (k_ A) (perm [0])) (mk_Pipe_3:Mc P w K mg base nn "Pipe" (A.c "Pipe") 3 4 (lY A) []):
    bf ⟨false,nn,false⟩ P w K mg base 5 f fd ["line"] (bh K 1 (mQ A)):=by
  rw [vh]
  refine bJ F DG (λcdv Ar outer s H E pp hgd hr tk hp=>?_)
  replace hr:Room 4 (Ar.deeper (PyProof.Rows.envOfC "item_of" (defScope jt) s.heap.objs.size f cdv)):=hr
  exact aq (a_ 1 DG.nd (Jd (aa 0) (ge_str)))
    (aq (Eu (aq (b6 (GW.gt (oW (aZ (fR hr) fO (aR call_len dW T.n_len (by decide+kernel) (af (aa 1) (aj))) (ge_int) (nomark _)) (mX (aZ (fR hr) fO (aI ix_seq aJ (aa 1) (ge_int)) (ge_str) (nomark _))))) (au (aP (RA E6 mk_Pipe_3 hr (af (aI ix_seq aJ (aa 1) (ge_int)) (af (aI ix_seq aJ (aa 1) (ge_int)) (af (aI ix_seq aJ (aa 1) (ge_int)) (aj))))))) (bB))
    (au (b6 (GW.gt (oW (aZ op_in_seq qL (aR call_len dW T.n_len (by decide+kernel) (af (aa 1) (aj))) (fP (af (ge_int) (af (ge_int) (aj)))) (by rfl)) (mX (aZ (fR hr) fO (aI ix_seq aJ (aa 1) (ge_int)) (ge_str) (nomark _))))) (au (aP (Qi (ks:=["sealed"]) E6 mk_Meter_2_sealed hr (af (aI ix_seq aJ (aa 1) (ge_int)) (af (aI ix_seq aJ (aa 1) (ge_int)) (aj))) (Ue (jN (fR hr) fO (aR call_len dW T.n_len (by decide+kernel) (af (aa 1) (aj))) (ge_int) (nomark _)) (VQ))))) (bB)))))
    (au (aP (ff))))
theorem Jf:FnScope ["self"] ["self"] (defScope gp):=⟨rfl,rfl,rfl,by decide+kernel,rfl,by decide+kernel,by decide+kernel⟩
theorem J0 {nn:Bool} {P:Program} {w:World} {K:PySem.W.Frag} {mg:Str->Option Value} {base:Heap} {A:Ad} {f:Addr} {fd:FuncData} {dfs:List V} {kfs:List (Str×V)} (T:Txt K mg A) (F:FunD K "name" "Pipe.name" (defArgs gp) (defBody gp) (defScope gp) dfs kfs f fd):
    bf ⟨false,nn,false⟩ P w K mg base 1 f fd ["self"] (bh K 1 (bE A)):=by
  rw [Ce]
  refine bJ F Jf (λcdv Ar outer s H E pp hgd hr tk hp=>?_)
  replace hr:Room 0 (Ar.deeper (PyProof.Rows.envOfC "Pipe.name" (defScope gp) s.heap.objs.size f cdv)):=hr
  exact au (aP (aI ix_seq aJ (jE T.k_Pipe.cl T.no_Pipe_kept (aa 0)) (ge_int)))
theorem m_:FnScope ["pipes","names","index","pipe"] ["pipes"] (defScope dX):=⟨rfl,rfl,rfl,by decide+kernel,rfl,by decide+kernel,by decide+kernel⟩
theorem Gz {nn:Bool} {P:Program} {w:World} {K:PySem.W.Frag} {mg:Str->Option Value} {base:Heap} {A:Ad} {f:Addr} {fd:FuncData} {dfs:List V} {kfs:List (Str×V)} (T:Txt K mg A) (F:FunD K "check_pipes" "check_pipes" (defArgs dX) (defBody dX) (defScope dX) dfs kfs f fd) (c_Pipe_name:Pc P w K mg base nn (A.c "Pipe") "name" 1 (bE A)):
    bf ⟨false,nn,false⟩ P w K mg base 3 f fd ["pipes"] (bh K 1 (kh A)):=by
  rw [zg]
  refine bJ F m_ (λcdv Ar outer s H E pp hgd hr tk hp=>?_)
  replace hr:Room 2 (Ar.deeper (PyProof.Rows.envOfC "check_pipes" (defScope dX) s.heap.objs.size f cdv)):=hr
  exact aq (b6 (GW.gt (kQ (gQ (bZ tru_ok bW (aR call_isi (j5 T.own T.kit) T.n_isinstance (by decide+kernel) (af (aa 0) (af (sG T.n_tuple (by decide+kernel)) (aj)))))) (nB (aZ (fR hr) fO (aR call_len dW T.n_len (by decide+kernel) (af (aa 0) (aj))) (ge_int) (nomark _))))) (au (gE)) (bB))
    (aq (a_ 1 m_.nd (ki (aj)))
    (au (dj hp rfl (uf T.n_enumerate (af (aa 0) (aj))) (eK rfl (aU (aC 2 m_.nd) (aU (aC 3 m_.nd) (dh)))) (aq (b6 (GW.gt (kQ (gQ (bZ tru_ok bW (aR call_isi (j5 T.own T.kit) T.n_isinstance (by decide+kernel) (af (aa 3) (af (m9 T.m_Pipe) (aj)))))) (kQ (aZ op_in_seq qL (aO c_Pipe_name hr (aa 3)) (aa 1) (by rfl)) (nB (aZ op_ge Ip (aa 2) (BH T.g_MOST_PIPES) (nomark _)))))) (au (gE)) (bB))
    (au (gJ (aa 1) (aO c_Pipe_name hr (aa 3))))))))
theorem Ig:FnScope ["self"] ["self"] (defScope fF):=⟨rfl,rfl,rfl,by decide+kernel,rfl,by decide+kernel,by decide+kernel⟩
theorem HH {nn:Bool} {P:Program} {w:World} {K:PySem.W.Frag} {mg:Str->Option Value} {base:Heap} {A:Ad} {f:Addr} {fd:FuncData} {dfs:List V} {kfs:List (Str×V)} (T:Txt K mg A) (F:FunD K "name" "Meter.name" (defArgs fF) (defBody fF) (defScope fF) dfs kfs f fd):
    bf ⟨false,nn,false⟩ P w K mg base 1 f fd ["self"] (bh K 1 (bD A)):=by
  rw [A9]
  refine bJ F Ig (λcdv Ar outer s H E pp hgd hr tk hp=>?_)
  replace hr:Room 0 (Ar.deeper (PyProof.Rows.envOfC "Meter.name" (defScope fF) s.heap.objs.size f cdv)):=hr
  exact au (aP (aI ix_seq aJ (jE T.k_Meter.cl T.no_Meter_kept (aa 0)) (ge_int)))
theorem KS:FnScope ["self"] ["self"] (defScope iB):=⟨rfl,rfl,rfl,by decide+kernel,rfl,by decide+kernel,by decide+kernel⟩
theorem KP {nn:Bool} {P:Program} {w:World} {K:PySem.W.Frag} {mg:Str->Option Value} {base:Heap} {A:Ad} {f:Addr} {fd:FuncData} {dfs:List V} {kfs:List (Str×V)} (T:Txt K mg A) (F:FunD K "at" "Meter.at" (defArgs iB) (defBody iB) (defScope iB) dfs kfs f fd):
    bf ⟨false,nn,false⟩ P w K mg base 1 f fd ["self"] (bh K 1 (cC A)):=by
  rw [DH]
  refine bJ F KS (λcdv Ar outer s H E pp hgd hr tk hp=>?_)
  replace hr:Room 0 (Ar.deeper (PyProof.Rows.envOfC "Meter.at" (defScope iB) s.heap.objs.size f cdv)):=hr
  exact au (aP (aI ix_seq aJ (jE T.k_Meter.cl T.no_Meter_kept (aa 0)) (ge_int)))
theorem jG:FnScope ["meters","pipes","places","names","index","meter","pipe"] ["meters","pipes"] (defScope dJ):=⟨rfl,rfl,rfl,by decide+kernel,rfl,by decide+kernel,by decide+kernel⟩
theorem EL {nn:Bool} {P:Program} {w:World} {K:PySem.W.Frag} {mg:Str->Option Value} {base:Heap} {A:Ad} {f:Addr} {fd:FuncData} {dfs:List V} {kfs:List (Str×V)} (T:Txt K mg A) (F:FunD K "check_meters" "check_meters" (defArgs dJ) (defBody dJ) (defScope dJ) dfs kfs f fd) (c_Pipe_name:Pc P w K mg base nn (A.c "Pipe") "name" 1 (bE A)) (c_Meter_name:Pc P w K mg base nn (A.c "Meter") "name" 1 (bD A)) (c_Meter_at:Pc P w K mg base nn (A.c "Meter") "at" 1 (cC A)):
    bf ⟨false,nn,false⟩ P w K mg base 3 f fd ["meters","pipes"] (bh K 2 (jV A)):=by
  rw [wN]
  refine bJ F jG (λcdv Ar outer s H E pp hgd hr tk hp=>?_)
  replace hr:Room 2 (Ar.deeper (PyProof.Rows.envOfC "check_meters" (defScope dJ) s.heap.objs.size f cdv)):=hr
  exact aq (b6 (gQ (bZ tru_ok bW (aR call_isi (j5 T.own T.kit) T.n_isinstance (by decide+kernel) (af (aa 0) (af (sG T.n_tuple (by decide+kernel)) (aj)))))) (au (gE)) (bB))
    (aq (kH 2 (own:=[("pipe",6)]) rfl jG.nd (fQ (aa 1)) (blkOk_by (by rfl)) (λ_ _ _ _ _=>aC 6 jG.nd) (λ_ _ _ _ _=>bV) (λ_ _ _ _ _=>aO c_Pipe_name hr (aa 6)) (sw_true rfl rfl rfl (by decide+kernel)))
    (aq (a_ 3 jG.nd (ki (aj)))
    (au (dj hp rfl (uf T.n_enumerate (af (aa 0) (aj))) (eK rfl (aU (aC 4 jG.nd) (aU (aC 5 jG.nd) (dh)))) (aq (b6 (GW.gt (kQ (gQ (bZ tru_ok bW (aR call_isi (j5 T.own T.kit) T.n_isinstance (by decide+kernel) (af (aa 5) (af (m9 T.m_Meter) (aj)))))) (kQ (aZ op_in_seq qL (aO c_Meter_name hr (aa 5)) (aa 3) (by rfl)) (kQ (aZ op_notIn_seq qL (aO c_Meter_at hr (aa 5)) (aa 2) (by rfl)) (nB (aZ op_ge Ip (aa 4) (BH T.g_MOST_METERS) (nomark _))))))) (au (gE)) (bB))
    (au (gJ (aa 3) (aO c_Meter_name hr (aa 5)))))))))
theorem KJ:FnScope ["self","pipes","meters"] ["self","pipes","meters"] (defScope ir):=⟨rfl,rfl,rfl,by decide+kernel,rfl,by decide+kernel,by decide+kernel⟩
theorem KD {nn:Bool} {P:Program} {w:World} {K:PySem.W.Frag} {mg:Str->Option Value} {base:Heap} {A:Ad} {f:Addr} {fd:FuncData} {dfs:List V} {kfs:List (Str×V)} (T:Txt K mg A) (F:FunD K "__init__" "Net.__init__" (defArgs ir) (defBody ir) (defScope ir) dfs kfs f fd) (c_check_pipes:Fc P w K mg base ⟨false,nn,false⟩ "check_pipes" 3 1 (kh A)) (c_check_meters:Fc P w K mg base ⟨false,nn,false⟩ "check_meters" 3 2 (jV A)):
    bf ⟨false,nn,false⟩ P w K mg base 4 f fd ["self","pipes","meters"] (bh K 3 (nc A)):=by
  rw [EX]
  refine bJ F KJ (λcdv Ar outer s H E pp hgd hr tk hp=>?_)
  replace hr:Room 3 (Ar.deeper (PyProof.Rows.envOfC "Net.__init__" (defScope ir) s.heap.objs.size f cdv)):=hr
  exact aq (eW (aB (h:=false) tk c_check_pipes aV hr (af (aa 1) (aj))))
    (aq (eW (aB (h:=false) tk c_check_meters aV hr (af (aa 2) (af (aa 1) (aj)))))
    (aq (E4 T.k_Net.cl T.no_Net_joined (aa 0) (aa 1))
    (au (E4 T.k_Net.cl T.no_Net_fitted (aa 0) (aa 2)))))
theorem HL:FnScope ["self"] ["self"] (defScope e8):=⟨rfl,rfl,rfl,by decide+kernel,rfl,by decide+kernel,by decide+kernel⟩
theorem Io {nn:Bool} {P:Program} {w:World} {K:PySem.W.Frag} {mg:Str->Option Value} {base:Heap} {A:Ad} {f:Addr} {fd:FuncData} {dfs:List V} {kfs:List (Str×V)} (T:Txt K mg A) (F:FunD K "start" "Pipe.start" (defArgs e8) (defBody e8) (defScope e8) dfs kfs f fd):
    bf ⟨false,nn,false⟩ P w K mg base 1 f fd ["self"] (bh K 1 (dB A)):=by
  rw [Ab]
  refine bJ F HL (λcdv Ar outer s H E pp hgd hr tk hp=>?_)
  replace hr:Room 0 (Ar.deeper (PyProof.Rows.envOfC "Pipe.start" (defScope e8) s.heap.objs.size f cdv)):=hr
  exact au (aP (aI ix_seq aJ (jE T.k_Pipe.cl T.no_Pipe_kept (aa 0)) (ge_int)))
theorem K8:FnScope ["self"] ["self"] (defScope iJ):=⟨rfl,rfl,rfl,by decide+kernel,rfl,by decide+kernel,by decide+kernel⟩
theorem KU {nn:Bool} {P:Program} {w:World} {K:PySem.W.Frag} {mg:Str->Option Value} {base:Heap} {A:Ad} {f:Addr} {fd:FuncData} {dfs:List V} {kfs:List (Str×V)} (T:Txt K mg A) (F:FunD K "end" "Pipe.end" (defArgs iJ) (defBody iJ) (defScope iJ) dfs kfs f fd):
    bf ⟨false,nn,false⟩ P w K mg base 1 f fd ["self"] (bh K 1 (fL A)):=by
  rw [EA]
  refine bJ F K8 (λcdv Ar outer s H E pp hgd hr tk hp=>?_)
  replace hr:Room 0 (Ar.deeper (PyProof.Rows.envOfC "Pipe.end" (defScope iJ) s.heap.objs.size f cdv)):=hr
  exact au (aP (aI ix_seq aJ (jE T.k_Pipe.cl T.no_Pipe_kept (aa 0)) (ge_int)))
theorem DM:FnScope ["self"] ["self"] (defScope dI):=⟨rfl,rfl,rfl,by decide+kernel,rfl,by decide+kernel,by decide+kernel⟩
theorem DO {nn:Bool} {P:Program} {w:World} {K:PySem.W.Frag} {mg:Str->Option Value} {base:Heap} {A:Ad} {f:Addr} {fd:FuncData} {dfs:List V} {kfs:List (Str×V)} (T:Txt K mg A) (F:FunD K "sealed" "Meter.sealed" (defArgs dI) (defBody dI) (defScope dI) dfs kfs f fd):
    bf ⟨false,nn,false⟩ P w K mg base 1 f fd ["self"] (bh K 1 (fN A)):=by
  rw [xm]
  refine bJ F DM (λcdv Ar outer s H E pp hgd hr tk hp=>?_)
  replace hr:Room 0 (Ar.deeper (PyProof.Rows.envOfC "Meter.sealed" (defScope dI) s.heap.objs.size f cdv)):=hr
  exact au (aP (aI ix_seq aJ (jE T.k_Meter.cl T.no_Meter_kept (aa 0)) (ge_int)))
theorem NN:FnScope ["item"] ["item"] (defScope jq):=⟨rfl,rfl,rfl,by decide+kernel,rfl,by decide+kernel,by decide+kernel⟩
theorem M3 {nn:Bool} {P:Program} {w:World} {K:PySem.W.Frag} {mg:Str->Option Value} {base:Heap} {A:Ad} {f:Addr} {fd:FuncData} {dfs:List V} {kfs:List (Str×V)} (T:Txt K mg A) (F:FunD K "line_of" "line_of" (defArgs jq) (defBody jq) (defScope jq) dfs kfs f fd) (c_Pipe_name:Pc P w K mg base nn (A.c "Pipe") "name" 1 (bE A)) (c_Meter_name:Pc P w K mg base nn (A.c "Meter") "name" 1 (bD A)) (c_Meter_at:Pc P w K mg base nn (A.c "Meter") "at" 1 (cC A)) (c_Pipe_start:Pc P w K mg base nn (A.c "Pipe") "start" 1 (dB A)) (c_Pipe_end:Pc P w K mg base nn (A.c "Pipe") "end" 1 (fL A)) (c_Meter_sealed:Pc P w K mg base nn (A.c "Meter") "sealed" 1 (fN A)):
    bf ⟨false,nn,false⟩ P w K mg base 3 f fd ["item"] (bh K 1 (mF A)):=by
  rw [Aq]
  refine bJ F NN (λcdv Ar outer s H E pp hgd hr tk hp=>?_)
  replace hr:Room 2 (Ar.deeper (PyProof.Rows.envOfC "line_of" (defScope jq) s.heap.objs.size f cdv)):=hr
  exact aq (b6 (bZ tru_ok bW (aR call_isi (j5 T.own T.kit) T.n_isinstance (by decide+kernel) (af (aa 0) (af (m9 T.m_Pipe) (aj))))) (au (aP (Bm (i7 (ge_str) (i7 (tL (aO c_Pipe_name hr (aa 0))) (i7 (ge_str) (i7 (tL (aO c_Pipe_start hr (aa 0))) (i7 (ge_str) (i7 (tL (aO c_Pipe_end hr (aa 0))) (JF)))))))))) (bB))
    (au (aP (gF (bZ tru_ok bW (aO c_Meter_sealed hr (aa 0))) (Bm (i7 (ge_str) (i7 (tL (aO c_Meter_name hr (aa 0))) (i7 (ge_str) (i7 (tL (aO c_Meter_at hr (aa 0))) (i7 (ge_str) (JF))))))) (Bm (i7 (ge_str) (i7 (tL (aO c_Meter_name hr (aa 0))) (i7 (ge_str) (i7 (tL (aO c_Meter_at hr (aa 0))) (JF)))))))))
theorem xW:FnScope ["self","item"] ["self"] (defScope jj):=⟨rfl,rfl,rfl,by decide+kernel,rfl,by decide+kernel,by decide+kernel⟩
theorem Oh {nn:Bool} {P:Program} {w:World} {K:PySem.W.Frag} {mg:Str->Option Value} {base:Heap} {A:Ad} {f:Addr} {fd:FuncData} {dfs:List V} {kfs:List (Str×V)} (T:Txt K mg A) (F:FunD K "__str__" "Net.__str__" (defArgs jj) (defBody jj) (defScope jj) dfs kfs f fd) (c_line_of:Fc P w K mg base ⟨false,nn,false⟩ "line_of" 3 1 (mF A)):
    bf ⟨false,nn,false⟩ P w K mg base 4 f fd ["self"] (bh K 1 (mO A)):=by
  rw [G4]
  refine bJ F xW (λcdv Ar outer s H E pp hgd hr tk hp=>?_)
  replace hr:Room 3 (Ar.deeper (PyProof.Rows.envOfC "Net.__str__" (defScope jj) s.heap.objs.size f cdv)):=hr
  exact au (aP (FE (ge_str) (fM (own:=[("item",1)]) rfl xW.nd (fQ (fP (MN (jE T.k_Net.cl T.no_Net_joined (aa 0)) (MN (jE T.k_Net.cl T.no_Net_fitted (aa 0)) (aj))))) (blkOk_by (by rfl)) (λ_ _ _ _ _=>aC 1 xW.nd) (λ_ _ _ _ _=>bV) (λ_ _ _ _ _=>aB (h:=false) E6 c_line_of aV hr (af (aa 1) (aj))))))
theorem gX:FnScope ["cls","text","items","pipes","meters","net","line","item"] ["cls","text"] (defScope iL):=⟨rfl,rfl,rfl,by decide+kernel,rfl,by decide+kernel,by decide+kernel⟩
theorem K9 {nn:Bool} {P:Program} {w:World} {K:PySem.W.Frag} {mg:Str->Option Value} {base:Heap} {A:Ad} {f:Addr} {fd:FuncData} {dfs:List V} {kfs:List (Str×V)} (T:Txt K mg A) (F:FunD K "read" "Net.read" (defArgs iL) (defBody iL) (defScope iL) dfs kfs f fd) (c_item_of:Fc P w K mg base ⟨false,nn,false⟩ "item_of" 5 1 (mQ A)) (c_Net_str:Sc P w K mg base nn (A.c "Net") "__str__" 4 1 (mO A)) (mk_Net_2:Mc P w K mg base nn "Net" (A.c "Net") 4 3 (nc A) []):
    bf ⟨false,nn,false⟩ P w K mg base 7 f fd ["cls","text"] (bh K 2 (kD A)):=by
  rw [E_]
  refine bJ F gX (λcdv Ar outer s H E pp hgd hr tk hp=>?_)
  replace hr:Room 6 (Ar.deeper (PyProof.Rows.envOfC "Net.read" (defScope iL) s.heap.objs.size f cdv)):=hr
  exact aq (b6 (gQ (bZ tru_ok bW (aR call_isi (j5 T.own T.kit) T.n_isinstance (by decide+kernel) (af (aa 1) (af (sG T.n_str (by decide+kernel)) (aj)))))) (au (gE)) (bB))
    (aq (kH 2 (own:=[("line",6)]) rfl gX.nd (dP (Jd (aa 1) (ge_str))) (blkOk_by (by rfl)) (λ_ _ _ _ _=>aC 6 gX.nd) (λ_ _ _ _ _=>bV) (λ_ _ _ _ _=>aB (h:=false) E6 c_item_of aV hr (af (aa 6) (aj))) (sw_true rfl rfl rfl (by decide+kernel)))
    (aq (a_ 3 gX.nd (cN call_tuple_of lJ T.n_tuple (by decide+kernel) (af (fM (own:=[("item",7)]) rfl gX.nd (dP (aa 2)) (blkOk_by (by rfl)) (λ_ _ _ _ _=>aC 7 gX.nd) (λ_ _ _ _ _=>mY (bZ tru_ok bW (aR call_isi (j5 T.own T.kit) T.n_isinstance (by decide+kernel) (af (aa 7) (af (m9 T.m_Pipe) (aj)))))) (λ_ _ _ _ _=>aa 7)) (aj))))
    (aq (a_ 4 gX.nd (cN call_tuple_of lJ T.n_tuple (by decide+kernel) (af (fM (own:=[("item",7)]) rfl gX.nd (dP (aa 2)) (blkOk_by (by rfl)) (λ_ _ _ _ _=>aC 7 gX.nd) (λ_ _ _ _ _=>mY (bZ tru_ok bW (aR call_isi (j5 T.own T.kit) T.n_isinstance (by decide+kernel) (af (aa 7) (af (m9 T.m_Meter) (aj)))))) (λ_ _ _ _ _=>aa 7)) (aj))))
    (aq (Eu (au (a_ 5 gX.nd (OH 0 E6 mk_Net_2 hr (af (aa 3) (af (aa 4) (aj)))))))
    (aq (b6 (aZ (ny hr) nA (Nf (Oj c_Net_str hr) Ui T.n_str (by decide+kernel) (af (aa 5) (aj))) (aa 1) (nomark _)) (au (gE)) (bB))
    (au (aP (aa 5))))))))
theorem lU:FnScope ["_law_model_here","_law_lines","_law_one","_law_begin","_law_finish","_law_gauge","_law_seal"] ["_law_model_here"] (defScope iI):=⟨rfl,rfl,rfl,by decide+kernel,rfl,by decide+kernel,by decide+kernel⟩
theorem K0 {nn:Bool} {P:Program} {w:World} {K:PySem.W.Frag} {mg:Str->Option Value} {base:Heap} {A:Ad} {f:Addr} {fd:FuncData} {dfs:List V} {kfs:List (Str×V)} (T:Txt K mg A) (F:FunD K "_law_text" "_law_text" (defArgs iI) (defBody iI) (defScope iI) dfs kfs f fd):
    bf ⟨false,nn,false⟩ P w K mg base 1 f fd ["_law_model_here"] (bh K 1 (kq A)):=by
  rw [D4]
  refine bJ F lU (λcdv Ar outer s H E pp hgd hr tk hp=>?_)
  replace hr:Room 0 (Ar.deeper (PyProof.Rows.envOfC "_law_text" (defScope iI) s.heap.objs.size f cdv)):=hr
  exact aq (a_ 1 lU.nd (ki (aj)))
    (aq (dj hp rfl (dP (aI ix_seq aJ (aa 0) (ge_int))) (aC 2 lU.nd) (aq (xE 3 4 rfl lU.nd (af (aI ix_seq aJ (aI ix_seq aJ (aa 0) (ge_int)) (aI ix_seq aJ (aa 2) (ge_int))) (af (aI ix_seq aJ (aI ix_seq aJ (aa 0) (ge_int)) (aI ix_seq aJ (aa 2) (ge_int))) (aj))))
    (au (gJ (aa 1) (bN bR bS (bN bR bS (bN bR bS (bN bR bS (bN bR bS (ge_str) (aI ix_seq aJ (aa 2) (ge_int))) (ge_str)) (aa 3)) (ge_str)) (aa 4))))))
    (aq (dj hp rfl (dP (aI ix_seq aJ (aa 0) (ge_int))) (aC 5 lU.nd) (aq (a_ 6 lU.nd (gF (bZ tru_ok bW (aI ix_seq aJ (aa 5) (ge_int))) (ge_str) (ge_str)))
    (au (gJ (aa 1) (bN bR bS (bN bR bS (bN bR bS (bN bR bS (ge_str) (aI ix_seq aJ (aa 5) (ge_int))) (ge_str)) (aI ix_seq aJ (aI ix_seq aJ (aI ix_seq aJ (aa 0) (ge_int)) (aI ix_seq aJ (aa 5) (ge_int))) (ge_int))) (aa 6))))))
    (au (aP (FE (ge_str) (aa 1))))))
theorem Kw:FnScope ["value"] ["value"] (defScope gb):=⟨rfl,rfl,rfl,by decide+kernel,rfl,by decide+kernel,by decide+kernel⟩
theorem IF {nn:Bool} {P:Program} {w:World} {K:PySem.W.Frag} {mg:Str->Option Value} {base:Heap} {A:Ad} {f:Addr} {fd:FuncData} {dfs:List V} {kfs:List (Str×V)} (T:Txt K mg A) (F:FunD K "check_net" "check_net" (defArgs gb) (defBody gb) (defScope gb) dfs kfs f fd):
    bf ⟨false,nn,false⟩ P w K mg base 1 f fd ["value"] (bh K 1 (eB A)):=by
  rw [Ci]
  refine bJ F Kw (λcdv Ar outer s H E pp hgd hr tk hp=>?_)
  replace hr:Room 0 (Ar.deeper (PyProof.Rows.envOfC "check_net" (defScope gb) s.heap.objs.size f cdv)):=hr
  exact au (b6 (gQ (bZ tru_ok bW (aR call_isi (j5 T.own T.kit) T.n_isinstance (by decide+kernel) (af (aa 0) (af (m9 T.m_Net) (aj)))))) (au (gE)) (bB))
theorem Ie:FnScope ["self"] ["self"] (defScope e9):=⟨rfl,rfl,rfl,by decide+kernel,rfl,by decide+kernel,by decide+kernel⟩
theorem HV {nn:Bool} {P:Program} {w:World} {K:PySem.W.Frag} {mg:Str->Option Value} {base:Heap} {A:Ad} {f:Addr} {fd:FuncData} {dfs:List V} {kfs:List (Str×V)} (T:Txt K mg A) (F:FunD K "meters" "Net.meters" (defArgs e9) (defBody e9) (defScope e9) dfs kfs f fd):
    bf ⟨false,nn,false⟩ P w K mg base 1 f fd ["self"] (bh K 1 (cz A)):=by
  rw [AZ]
  refine bJ F Ie (λcdv Ar outer s H E pp hgd hr tk hp=>?_)
  replace hr:Room 0 (Ar.deeper (PyProof.Rows.envOfC "Net.meters" (defScope e9) s.heap.objs.size f cdv)):=hr
  exact au (aP (jE T.k_Net.cl T.no_Net_fitted (aa 0)))
theorem cV:FnScope ["net","other","names","others","single","meter","name"] ["net","other"] (defScope dZ):=⟨rfl,rfl,rfl,by decide+kernel,rfl,by decide+kernel,by decide+kernel⟩
theorem Gx {nn:Bool} {P:Program} {w:World} {K:PySem.W.Frag} {mg:Str->Option Value} {base:Heap} {A:Ad} {f:Addr} {fd:FuncData} {dfs:List V} {kfs:List (Str×V)} (T:Txt K mg A) (F:FunD K "check_names" "check_names" (defArgs dZ) (defBody dZ) (defScope dZ) dfs kfs f fd) (c_Meter_name:Pc P w K mg base nn (A.c "Meter") "name" 1 (bD A)) (c_check_net:Fc P w K mg base ⟨false,nn,false⟩ "check_net" 1 1 (eB A)) (c_Net_meters:Pc P w K mg base nn (A.c "Net") "meters" 1 (cz A)):
    bf ⟨false,nn,false⟩ P w K mg base 3 f fd ["net","other"] (bh K 2 (j_ A)):=by
  rw [zB]
  refine bJ F cV (λcdv Ar outer s H E pp hgd hr tk hp=>?_)
  replace hr:Room 2 (Ar.deeper (PyProof.Rows.envOfC "check_names" (defScope dZ) s.heap.objs.size f cdv)):=hr
  exact aq (eW (aB (h:=false) tk c_check_net aV hr (af (aa 0) (aj))))
    (aq (eW (aB (h:=false) tk c_check_net aV hr (af (aa 1) (aj))))
    (aq (ES (fP (af (fM (own:=[("meter",5)]) rfl cV.nd (fQ (aO c_Net_meters hr (aa 0))) (blkOk_by (by rfl)) (λ_ _ _ _ _=>aC 5 cV.nd) (λ_ _ _ _ _=>bV) (λ_ _ _ _ _=>aO c_Meter_name hr (aa 5))) (af (fM (own:=[("meter",5)]) rfl cV.nd (fQ (aO c_Net_meters hr (aa 1))) (blkOk_by (by rfl)) (λ_ _ _ _ _=>aC 5 cV.nd) (λ_ _ _ _ _=>bV) (λ_ _ _ _ _=>aO c_Meter_name hr (aa 5))) (aj)))) (eK rfl (aU (aC 2 cV.nd) (aU (aC 3 cV.nd) (dh)))))
    (aq (a_ 4 cV.nd (bN bR bS (fM (own:=[("name",6)]) rfl cV.nd (dP (aa 2)) (blkOk_by (by rfl)) (λ_ _ _ _ _=>aC 6 cV.nd) (λ_ _ _ _ _=>mY (aZ op_notIn_seq qL (aa 6) (aa 3) (by rfl))) (λ_ _ _ _ _=>aa 6)) (fM (own:=[("name",6)]) rfl cV.nd (dP (aa 3)) (blkOk_by (by rfl)) (λ_ _ _ _ _=>aC 6 cV.nd) (λ_ _ _ _ _=>mY (aZ op_notIn_seq qL (aa 6) (aa 2) (by rfl))) (λ_ _ _ _ _=>aa 6))))
    (au (b6 (bZ tru_ok bW (aa 4)) (au (gE)) (bB))))))
theorem Jq:FnScope ["self"] ["self"] (defScope f7):=⟨rfl,rfl,rfl,by decide+kernel,rfl,by decide+kernel,by decide+kernel⟩
theorem Ka {nn:Bool} {P:Program} {w:World} {K:PySem.W.Frag} {mg:Str->Option Value} {base:Heap} {A:Ad} {f:Addr} {fd:FuncData} {dfs:List V} {kfs:List (Str×V)} (T:Txt K mg A) (F:FunD K "pipes" "Net.pipes" (defArgs f7) (defBody f7) (defScope f7) dfs kfs f fd):
    bf ⟨false,nn,false⟩ P w K mg base 1 f fd ["self"] (bh K 1 (gY A)):=by
  rw [Ck]
  refine bJ F Jq (λcdv Ar outer s H E pp hgd hr tk hp=>?_)
  replace hr:Room 0 (Ar.deeper (PyProof.Rows.envOfC "Net.pipes" (defScope f7) s.heap.objs.size f cdv)):=hr
  exact au (aP (jE T.k_Net.cl T.no_Net_joined (aa 0)))
theorem nI:FnScope ["self","pipe","place"] ["self"] (defScope e_):=⟨rfl,rfl,rfl,by decide+kernel,rfl,by decide+kernel,by decide+kernel⟩
theorem HK {nn:Bool} {P:Program} {w:World} {K:PySem.W.Frag} {mg:Str->Option Value} {base:Heap} {A:Ad} {f:Addr} {fd:FuncData} {dfs:List V} {kfs:List (Str×V)} (T:Txt K mg A) (F:FunD K "places" "Net.places" (defArgs e_) (defBody e_) (defScope e_) dfs kfs f fd) (c_Pipe_start:Pc P w K mg base nn (A.c "Pipe") "start" 1 (dB A)) (c_Pipe_end:Pc P w K mg base nn (A.c "Pipe") "end" 1 (fL A)):
    bf ⟨false,nn,false⟩ P w K mg base 3 f fd ["self"] (bh K 1 (cW A)):=by
  rw [As]
  refine bJ F nI (λcdv Ar outer s H E pp hgd hr tk hp=>?_)
  replace hr:Room 2 (Ar.deeper (PyProof.Rows.envOfC "Net.places" (defScope e_) s.heap.objs.size f cdv)):=hr
  exact au (aP (cN call_tuple_of lJ T.n_tuple (by decide+kernel) (af (Qs (own:=[("pipe",1),("place",2)]) (l0:=⟨e7 (jS (gz (A.c "Net") "joined") (ah 0)),av 1,cP,[1],[1,2]⟩) (ls:=[⟨e7 (eu .tup (ai (aX (A.c "Pipe") (dB A) (ah 1)) (ai (aX (A.c "Pipe") (fL A) (ah 1)) (ao)))),av 2,cP,[2],[2]⟩]) rfl T.n_sorted nI.nd (fQ (jE T.k_Net.cl T.no_Net_joined (aa 0))) (blkOk_by (by rfl)) rfl ⟨λ_ _ _ _ _=>aC 1 nI.nd,λ_ _ _ _ _=>bV,λ_ _ _ _ _=>.cons rfl (by refine GI.g ?_; (try dsimp only); exact fQ (fP (af (aO c_Pipe_start hr (aa 1)) (af (aO c_Pipe_end hr (aa 1)) (aj))))) (aC 2 nI.nd) (bV) (λ_ _=>rfl) (Fe.nil)⟩ (λ_ _ _ _ _=>aa 2)) (aj))))
theorem kL:FnScope ["self","at","number","place","pipe"] ["self"] (defScope iH):=⟨rfl,rfl,rfl,by decide+kernel,rfl,by decide+kernel,by decide+kernel⟩
theorem KQ {nn:Bool} {P:Program} {w:World} {K:PySem.W.Frag} {mg:Str->Option Value} {base:Heap} {A:Ad} {f:Addr} {fd:FuncData} {dfs:List V} {kfs:List (Str×V)} (T:Txt K mg A) (F:FunD K "ends" "Net.ends" (defArgs iH) (defBody iH) (defScope iH) dfs kfs f fd) (c_Pipe_start:Pc P w K mg base nn (A.c "Pipe") "start" 1 (dB A)) (c_Pipe_end:Pc P w K mg base nn (A.c "Pipe") "end" 1 (fL A)) (c_Net_places:Pc P w K mg base nn (A.c "Net") "places" 3 (cW A)):
    bf ⟨false,nn,false⟩ P w K mg base 5 f fd ["self"] (bh K 1 (b8 A)):=by
  rw [EJ]
  refine bJ F kL (λcdv Ar outer s H E pp hgd hr tk hp=>?_)
  replace hr:Room 4 (Ar.deeper (PyProof.Rows.envOfC "Net.ends" (defScope iH) s.heap.objs.size f cdv)):=hr
  exact aq (a_ 1 kL.nd (Sm (own:=[("number",2),("place",3)]) (l0:=⟨pP (ai (aX (A.c "Net") (cW A) (ah 0)) (ao)),bG 2 (aE (av 2) (aE (av 3) (bH))),cP,[2,3],[2,3]⟩) (ls:=[]) rfl kL.nd (uf T.n_enumerate (af (aO c_Net_places hr (aa 0)) (aj))) (blkOk_by (by rfl)) rfl ⟨λ_ _ _ _ _=>eK rfl (aU (aC 2 kL.nd) (aU (aC 3 kL.nd) (dh))),λ_ _ _ _ _=>bV,λ_ _ _ _ _=>Fe.nil⟩ (λ_ _ _ _ _=>aa 3) (λ_ _ _ _ _=>aa 2)))
    (au (aP (cN call_tuple_of lJ T.n_tuple (by decide+kernel) (af (fM (own:=[("pipe",4)]) rfl kL.nd (fQ (jE T.k_Net.cl T.no_Net_joined (aa 0))) (blkOk_by (by rfl)) (λ_ _ _ _ _=>aC 4 kL.nd) (λ_ _ _ _ _=>bV) (λ_ _ _ _ _=>fP (af (Ga (Ju hr) (aa 1) (aO c_Pipe_start hr (aa 4))) (af (Ga (Ju hr) (aa 1) (aO c_Pipe_end hr (aa 4))) (aj))))) (aj)))))
theorem gq:FnScope ["net","keep","marks","start","end","kept","old","new","mark"] ["net","keep"] (defScope fC):=⟨rfl,rfl,rfl,by decide+kernel,rfl,by decide+kernel,by decide+kernel⟩
theorem HW {nn:Bool} {P:Program} {w:World} {K:PySem.W.Frag} {mg:Str->Option Value} {base:Heap} {A:Ad} {f:Addr} {fd:FuncData} {dfs:List V} {kfs:List (Str×V)} (T:Txt K mg A) (F:FunD K "components" "components" (defArgs fC) (defBody fC) (defScope fC) dfs kfs f fd) (c_Net_places:Pc P w K mg base nn (A.c "Net") "places" 3 (cW A)) (c_Net_ends:Pc P w K mg base nn (A.c "Net") "ends" 5 (b8 A)):
    bf ⟨false,nn,false⟩ P w K mg base 7 f fd ["net","keep"] (bh K 2 (jF A)):=by
  rw [zY]
  refine bJ F gq (λcdv Ar outer s H E pp hgd hr tk hp=>?_)
  replace hr:Room 6 (Ar.deeper (PyProof.Rows.envOfC "components" (defScope fC) s.heap.objs.size f cdv)):=hr
  exact aq (a_ 2 gq.nd (PU rfl T.n_list T.n_range (aR call_len dW T.n_len (by decide+kernel) (af (aO c_Net_places hr (aa 0)) (aj)))))
    (aq (dj hp rfl (EC T.n_zip (af (aO c_Net_ends hr (aa 0)) (af (aa 1) (aj)))) (eK rfl (aU (eK rfl (aU (aC 3 gq.nd) (aU (aC 4 gq.nd) (dh)))) (aU (aC 5 gq.nd) (dh)))) (au (b6 (bZ tru_ok bW (aa 5)) (aq (ES (fP (af (aI ix_seq aJ (aa 2) (aa 4)) (af (aI ix_seq aJ (aa 2) (aa 3)) (aj)))) (eK rfl (aU (aC 6 gq.nd) (aU (aC 7 gq.nd) (dh)))))
    (au (kH 2 (own:=[("mark",8)]) rfl gq.nd (dP (aa 2)) (blkOk_by (by rfl)) (λ_ _ _ _ _=>aC 8 gq.nd) (λ_ _ _ _ _=>bV) (λ_ _ _ _ _=>gF (aZ (fR hr) fO (aa 8) (aa 6) (nomark _)) (aa 7) (aa 8)) (sw_true rfl rfl rfl (by decide+kernel))))) (bB))))
    (au (aP (aa 2))))
theorem oK:FnScope ["net","keep","chosen","index","start","end","marks"] ["net","keep"] (defScope j3):=⟨rfl,rfl,rfl,by decide+kernel,rfl,by decide+kernel,by decide+kernel⟩
theorem OP {nn:Bool} {P:Program} {w:World} {K:PySem.W.Frag} {mg:Str->Option Value} {base:Heap} {A:Ad} {f:Addr} {fd:FuncData} {dfs:List V} {kfs:List (Str×V)} (T:Txt K mg A) (F:FunD K "forest" "forest" (defArgs j3) (defBody j3) (defScope j3) dfs kfs f fd) (c_Net_ends:Pc P w K mg base nn (A.c "Net") "ends" 5 (b8 A)) (c_components:Fc P w K mg base ⟨false,nn,false⟩ "components" 7 2 (jF A)):
    bf ⟨false,nn,false⟩ P w K mg base 8 f fd ["net","keep"] (bh K 2 (jK A)):=by
  rw [Jz]
  refine bJ F oK (λcdv Ar outer s H E pp hgd hr tk hp=>?_)
  replace hr:Room 7 (Ar.deeper (PyProof.Rows.envOfC "forest" (defScope j3) s.heap.objs.size f cdv)):=hr
  exact aq (a_ 2 oK.nd (ki (aj)))
    (aq (dj hp rfl (uf T.n_enumerate (af (aO c_Net_ends hr (aa 0)) (aj))) (eK rfl (aU (aC 3 oK.nd) (aU (eK rfl (aU (aC 4 oK.nd) (aU (aC 5 oK.nd) (dh)))) (dh)))) (aq (a_ 6 oK.nd (aB (h:=false) tk c_components aV hr (af (aa 0) (af (aa 2) (aj)))))
    (au (gJ (aa 2) (Ff (aI ix_seq aJ (aa 1) (aa 3)) (uo (jN (ny hr) nA (aI ix_seq aJ (aa 6) (aa 4)) (aI ix_seq aJ (aa 6) (aa 5)) (nomark _))))))))
    (au (aP (aa 2))))
theorem kK:FnScope ["net","numbers","inside","total","start","end","number"] ["net","numbers","inside"] (defScope iG):=⟨rfl,rfl,rfl,by decide+kernel,rfl,by decide+kernel,by decide+kernel⟩
theorem K2 {nn:Bool} {P:Program} {w:World} {K:PySem.W.Frag} {mg:Str->Option Value} {base:Heap} {A:Ad} {f:Addr} {fd:FuncData} {dfs:List V} {kfs:List (Str×V)} (T:Txt K mg A) (F:FunD K "sent_out" "sent_out" (defArgs iG) (defBody iG) (defScope iG) dfs kfs f fd) (c_Net_ends:Pc P w K mg base nn (A.c "Net") "ends" 5 (b8 A)):
    bf ⟨false,nn,false⟩ P w K mg base 7 f fd ["net","numbers","inside"] (bh K 3 (m7 A)):=by
  rw [DA]
  refine bJ F kK (λcdv Ar outer s H E pp hgd hr tk hp=>?_)
  replace hr:Room 6 (Ar.deeper (PyProof.Rows.envOfC "sent_out" (defScope iG) s.heap.objs.size f cdv)):=hr
  exact aq (a_ 3 kK.nd (ge_int))
    (aq (dj hp rfl (EC T.n_zip (af (aO c_Net_ends hr (aa 0)) (af (aa 1) (aj)))) (eK rfl (aU (eK rfl (aU (aC 4 kK.nd) (aU (aC 5 kK.nd) (dh)))) (aU (aC 6 kK.nd) (dh)))) (aq (b6 (GW.gt (oW (bZ tru_ok bW (aI ix_seq aJ (aa 2) (aa 4))) (mX (gQ (bZ tru_ok bW (aI ix_seq aJ (aa 2) (aa 5))))))) (au (Oo 3 ip_add kK.nd (aa 6))) (bB))
    (au (b6 (GW.gt (oW (bZ tru_ok bW (aI ix_seq aJ (aa 2) (aa 5))) (mX (gQ (bZ tru_ok bW (aI ix_seq aJ (aa 2) (aa 4))))))) (au (Oo 3 ip_sub kK.nd (aa 6))) (bB)))))
    (au (aP (aa 3))))
theorem gI:FnScope ["net","numbers","totals","start","end","number","place","total"] ["net","numbers"] (defScope d8):=⟨rfl,rfl,rfl,by decide+kernel,rfl,by decide+kernel,by decide+kernel⟩
theorem Gf {nn:Bool} {P:Program} {w:World} {K:PySem.W.Frag} {mg:Str->Option Value} {base:Heap} {A:Ad} {f:Addr} {fd:FuncData} {dfs:List V} {kfs:List (Str×V)} (T:Txt K mg A) (F:FunD K "is_balanced" "is_balanced" (defArgs d8) (defBody d8) (defScope d8) dfs kfs f fd) (c_Net_places:Pc P w K mg base nn (A.c "Net") "places" 3 (cW A)) (c_Net_ends:Pc P w K mg base nn (A.c "Net") "ends" 5 (b8 A)):
    bf ⟨false,nn,false⟩ P w K mg base 7 f fd ["net","numbers"] (bh K 2 (fJ A)):=by
  rw [nO]
  refine bJ F gI (λcdv Ar outer s H E pp hgd hr tk hp=>?_)
  replace hr:Room 6 (Ar.deeper (PyProof.Rows.envOfC "is_balanced" (defScope d8) s.heap.objs.size f cdv)):=hr
  exact aq (kH 2 (own:=[("place",6)]) rfl gI.nd (fQ (aO c_Net_places hr (aa 0))) (blkOk_by (by rfl)) (λ_ _ _ _ _=>aC 6 gI.nd) (λ_ _ _ _ _=>bV) (λ_ _ _ _ _=>ge_int) (sw_true rfl rfl rfl (by decide+kernel)))
    (aq (dj hp rfl (EC T.n_zip (af (aO c_Net_ends hr (aa 0)) (af (aa 1) (aj)))) (eK rfl (aU (eK rfl (aU (aC 3 gI.nd) (aU (aC 4 gI.nd) (dh)))) (aU (aC 5 gI.nd) (dh)))) (aq (Ly ip_sub (aa 2) (aa 3) (aa 5))
    (au (Ly ip_add (aa 2) (aa 4) (aa 5)))))
    (au (aP (aR (cr_all rfl) DX T.n_all (by decide+kernel) (af (fM (own:=[("total",7)]) rfl gI.nd (dP (aa 2)) (blkOk_by (by rfl)) (λ_ _ _ _ _=>aC 7 gI.nd) (λ_ _ _ _ _=>bV) (λ_ _ _ _ _=>jN (fR hr) fO (aa 7) (ge_int) (nomark _))) (aj))))))
theorem cA:FnScope ["net","known","tree","numbers","found","index","start","end","marks","number","other","kept","mark"] ["net","known"] (defScope f9):=⟨rfl,rfl,rfl,by decide+kernel,rfl,by decide+kernel,by decide+kernel⟩
theorem IK {nn:Bool} {P:Program} {w:World} {K:PySem.W.Frag} {mg:Str->Option Value} {base:Heap} {A:Ad} {f:Addr} {fd:FuncData} {dfs:List V} {kfs:List (Str×V)} (T:Txt K mg A) (F:FunD K "completed" "completed" (defArgs f9) (defBody f9) (defScope f9) dfs kfs f fd) (c_Net_ends:Pc P w K mg base nn (A.c "Net") "ends" 5 (b8 A)) (c_components:Fc P w K mg base ⟨false,nn,false⟩ "components" 7 2 (jF A)) (c_forest:Fc P w K mg base ⟨false,nn,false⟩ "forest" 8 2 (jK A)) (c_sent_out:Fc P w K mg base ⟨false,nn,false⟩ "sent_out" 7 3 (m7 A)) (c_is_balanced:Fc P w K mg base ⟨false,nn,false⟩ "is_balanced" 7 2 (fJ A)):
    bf ⟨false,nn,false⟩ P w K mg base 9 f fd ["net","known"] (bh K 2 (jd A)):=by
  rw [wC]
  refine bJ F cA (λcdv Ar outer s H E pp hgd hr tk hp=>?_)
  replace hr:Room 8 (Ar.deeper (PyProof.Rows.envOfC "completed" (defScope f9) s.heap.objs.size f cdv)):=hr
  exact aq (a_ 2 cA.nd (aB (h:=false) tk c_forest aV hr (af (aa 0) (af (fM (own:=[("number",9)]) rfl cA.nd (dP (aa 1)) (blkOk_by (by rfl)) (λ_ _ _ _ _=>aC 9 cA.nd) (λ_ _ _ _ _=>bV) (λ_ _ _ _ _=>jN op_isN oO (aa 9) (ff) (nomark _))) (aj)))))
    (aq (kH 3 (own:=[("number",9)]) rfl cA.nd (dP (aa 1)) (blkOk_by (by rfl)) (λ_ _ _ _ _=>aC 9 cA.nd) (λ_ _ _ _ _=>bV) (λ_ _ _ _ _=>gF (aZ op_isN oO (aa 9) (ff) (nomark _)) (ge_int) (aa 9)) (sw_true rfl rfl rfl (by decide+kernel)))
    (aq (a_ 4 cA.nd (RD T.n_list (af (aa 3) (aj))))
    (aq (dj hp rfl (uf T.n_enumerate (af (aO c_Net_ends hr (aa 0)) (aj))) (eK rfl (aU (aC 5 cA.nd) (aU (eK rfl (aU (aC 6 cA.nd) (aU (aC 7 cA.nd) (dh)))) (dh)))) (au (b6 (bZ tru_ok bW (aI ix_seq aJ (aa 2) (aa 5))) (aq (a_ 8 cA.nd (aB (h:=false) tk c_components aV hr (af (aa 0) (af (fM (own:=[("other",10),("kept",11)]) rfl cA.nd (RB T.n_enumerate (af (aa 2) (aj))) (blkOk_by (by rfl)) (λ_ _ _ _ _=>eK rfl (aU (aC 10 cA.nd) (aU (aC 11 cA.nd) (dh)))) (λ_ _ _ _ _=>bV) (λ_ _ _ _ _=>Ff (aa 11) (uo (jN (ny hr) nA (aa 10) (aa 5) (nomark _))))) (aj)))))
    (au (ql (aB (h:=false) tk c_sent_out aV hr (af (aa 0) (af (aa 3) (af (fM (own:=[("mark",12)]) rfl cA.nd (dP (aa 8)) (blkOk_by (by rfl)) (λ_ _ _ _ _=>aC 12 cA.nd) (λ_ _ _ _ _=>bV) (λ_ _ _ _ _=>jN (fR hr) fO (aa 12) (aI ix_seq aJ (aa 8) (aa 7)) (nomark _))) (aj))))) (aa 4) (aa 5)))) (bB))))
    (au (aP (gF (bZ tru_ok bW (aB (h:=false) tk c_is_balanced aV hr (af (aa 0) (af (aa 4) (aj))))) (cN call_tuple_of lJ T.n_tuple (by decide+kernel) (af (aa 4) (aj))) (ff)))))))
theorem iP:FnScope ["net","tree","found","index","known","pipe","other"] ["net"] (defScope fj):=⟨rfl,rfl,rfl,by decide+kernel,rfl,by decide+kernel,by decide+kernel⟩
theorem Ik {nn:Bool} {P:Program} {w:World} {K:PySem.W.Frag} {mg:Str->Option Value} {base:Heap} {A:Ad} {f:Addr} {fd:FuncData} {dfs:List V} {kfs:List (Str×V)} (T:Txt K mg A) (F:FunD K "ring_flows" "ring_flows" (defArgs fj) (defBody fj) (defScope fj) dfs kfs f fd) (c_Net_pipes:Pc P w K mg base nn (A.c "Net") "pipes" 1 (gY A)) (c_forest:Fc P w K mg base ⟨false,nn,false⟩ "forest" 8 2 (jK A)) (c_completed:Fc P w K mg base ⟨false,nn,false⟩ "completed" 9 2 (jd A)):
    bf ⟨false,nn,false⟩ P w K mg base 10 f fd ["net"] (bh K 1 (lg A)):=by
  rw [Az]
  refine bJ F iP (λcdv Ar outer s H E pp hgd hr tk hp=>?_)
  replace hr:Room 9 (Ar.deeper (PyProof.Rows.envOfC "ring_flows" (defScope fj) s.heap.objs.size f cdv)):=hr
  exact aq (a_ 1 iP.nd (aB (h:=false) tk c_forest aV hr (af (aa 0) (af (fM (own:=[("pipe",5)]) rfl iP.nd (fQ (aO c_Net_pipes hr (aa 0))) (blkOk_by (by rfl)) (λ_ _ _ _ _=>aC 5 iP.nd) (λ_ _ _ _ _=>bV) (λ_ _ _ _ _=>kR)) (aj)))))
    (aq (a_ 2 iP.nd (ki (aj)))
    (aq (dj hp rfl (je T.n_range (af (aR call_len dW T.n_len (by decide+kernel) (af (aa 1) (aj))) (aj))) (aC 3 iP.nd) (au (b6 (gQ (bZ tru_ok bW (aI ix_seq aJ (aa 1) (aa 3)))) (aq (kH 4 (own:=[("other",6)]) rfl iP.nd (je T.n_range (af (aR call_len dW T.n_len (by decide+kernel) (af (aa 1) (aj))) (aj))) (blkOk_by (by rfl)) (λ_ _ _ _ _=>aC 6 iP.nd) (λ_ _ _ _ _=>bV) (λ_ _ _ _ _=>gF (bZ tru_ok bW (aI ix_seq aJ (aa 1) (aa 6))) (ff) (cN call_int1 T6 T.n_int (by decide+kernel) (af (jN (fR hr) fO (aa 6) (aa 3) (nomark _)) (aj)))) (sw_true rfl rfl rfl (by decide+kernel)))
    (au (gJ (aa 2) (fP (af (aa 3) (af (cN call_list_of Mq T.n_list (by decide+kernel) (af (aB (h:=false) tk c_completed aV hr (af (aa 0) (af (aa 4) (aj)))) (aj))) (aj))))))) (bB))))
    (au (aP (aa 2)))))
theorem NX:FnScope ["self"] ["self"] (defScope jy):=⟨rfl,rfl,rfl,by decide+kernel,rfl,by decide+kernel,by decide+kernel⟩
theorem Nr {nn:Bool} {P:Program} {w:World} {K:PySem.W.Frag} {mg:Str->Option Value} {base:Heap} {A:Ad} {f:Addr} {fd:FuncData} {dfs:List V} {kfs:List (Str×V)} (T:Txt K mg A) (F:FunD K "__len__" "Net.__len__" (defArgs jy) (defBody jy) (defScope jy) dfs kfs f fd):
    bf ⟨false,nn,false⟩ P w K mg base 1 f fd ["self"] (bh K 1 (mL A)):=by
  rw [Hg]
  refine bJ F NX (λcdv Ar outer s H E pp hgd hr tk hp=>?_)
  replace hr:Room 0 (Ar.deeper (PyProof.Rows.envOfC "Net.__len__" (defScope jy) s.heap.objs.size f cdv)):=hr
  exact au (aP (aR call_len dW T.n_len (by decide+kernel) (af (jE T.k_Net.cl T.no_Net_joined (aa 0)) (aj))))
theorem HY:FnScope ["value"] ["value"] (defScope fB):=⟨rfl,rfl,rfl,by decide+kernel,rfl,by decide+kernel,by decide+kernel⟩
theorem Il {nn:Bool} {P:Program} {w:World} {K:PySem.W.Frag} {mg:Str->Option Value} {base:Heap} {A:Ad} {f:Addr} {fd:FuncData} {dfs:List V} {kfs:List (Str×V)} (T:Txt K mg A) (F:FunD K "is_integer" "is_integer" (defArgs fB) (defBody fB) (defScope fB) dfs kfs f fd):
    bf ⟨false,nn,false⟩ P w K mg base 1 f fd ["value"] (bh K 1 (iA A)):=by
  rw [tQ]
  refine bJ F HY (λcdv Ar outer s H E pp hgd hr tk hp=>?_)
  replace hr:Room 0 (Ar.deeper (PyProof.Rows.envOfC "is_integer" (defScope fB) s.heap.objs.size f cdv)):=hr
  exact au (aP (Ff (aR call_isi (j5 T.own T.kit) T.n_isinstance (by decide+kernel) (af (aa 0) (af (sG T.n_int (by decide+kernel)) (aj)))) (uo (Tc tru_ok bW (aR call_isi (j5 T.own T.kit) T.n_isinstance (by decide+kernel) (af (aa 0) (af (sG T.n_bool (by decide+kernel)) (aj))))))))
theorem wF:FnScope ["net","value","part"] ["net","value"] (defScope ig):=⟨rfl,rfl,rfl,by decide+kernel,rfl,by decide+kernel,by decide+kernel⟩
theorem KG {nn:Bool} {P:Program} {w:World} {K:PySem.W.Frag} {mg:Str->Option Value} {base:Heap} {A:Ad} {f:Addr} {fd:FuncData} {dfs:List V} {kfs:List (Str×V)} (T:Txt K mg A) (F:FunD K "has_flow" "has_flow" (defArgs ig) (defBody ig) (defScope ig) dfs kfs f fd) (c_is_balanced:Fc P w K mg base ⟨false,nn,false⟩ "is_balanced" 7 2 (fJ A)) (c_Net_len:Sc P w K mg base nn (A.c "Net") "__len__" 1 1 (mL A)) (c_is_integer:Fc P w K mg base ⟨false,nn,false⟩ "is_integer" 1 1 (iA A)):
    bf ⟨false,nn,false⟩ P w K mg base 8 f fd ["net","value"] (bh K 2 (mZ A)):=by
  rw [DU]
  refine bJ F wF (λcdv Ar outer s H E pp hgd hr tk hp=>?_)
  replace hr:Room 7 (Ar.deeper (PyProof.Rows.envOfC "has_flow" (defScope ig) s.heap.objs.size f cdv)):=hr
  exact aq (b6 (GW.gt (kQ (gQ (bZ tru_ok bW (aR call_isi (j5 T.own T.kit) T.n_isinstance (by decide+kernel) (af (aa 1) (af (sG T.n_tuple (by decide+kernel)) (aj)))))) (kQ (aZ (ny hr) nA (aR call_len dW T.n_len (by decide+kernel) (af (aa 1) (aj))) (Po (Pq c_Net_len hr) Um T.n_len (by decide+kernel) (af (aa 0) (aj))) (nomark _)) (nB (gQ (bZ tru_ok bW (aR (cr_all rfl) DX T.n_all (by decide+kernel) (af (fM (own:=[("part",2)]) rfl wF.nd (fQ (aa 1)) (blkOk_by (by rfl)) (λ_ _ _ _ _=>aC 2 wF.nd) (λ_ _ _ _ _=>bV) (λ_ _ _ _ _=>aB (h:=false) E6 c_is_integer aV hr (af (aa 2) (aj)))) (aj))))))))) (au (aP (kR))) (bB))
    (au (aP (aB (h:=false) tk c_is_balanced aV hr (af (aa 0) (af (aa 1) (aj))))))
theorem HJ:FnScope ["net","value"] ["net","value"] (defScope fk):=⟨rfl,rfl,rfl,by decide+kernel,rfl,by decide+kernel,by decide+kernel⟩
theorem Ih {nn:Bool} {P:Program} {w:World} {K:PySem.W.Frag} {mg:Str->Option Value} {base:Heap} {A:Ad} {f:Addr} {fd:FuncData} {dfs:List V} {kfs:List (Str×V)} (T:Txt K mg A) (F:FunD K "check_flow" "check_flow" (defArgs fk) (defBody fk) (defScope fk) dfs kfs f fd) (c_has_flow:Fc P w K mg base ⟨false,nn,false⟩ "has_flow" 8 2 (mZ A)):
    bf ⟨false,nn,false⟩ P w K mg base 9 f fd ["net","value"] (bh K 2 (mH A)):=by
  rw [zQ]
  refine bJ F HJ (λcdv Ar outer s H E pp hgd hr tk hp=>?_)
  replace hr:Room 8 (Ar.deeper (PyProof.Rows.envOfC "check_flow" (defScope fk) s.heap.objs.size f cdv)):=hr
  exact au (b6 (gQ (bZ tru_ok bW (aB (h:=false) tk c_has_flow aV hr (af (aa 0) (af (aa 1) (aj)))))) (au (gE)) (bB))
theorem nX:FnScope ["self","name","pipe"] ["self","name"] (defScope dc):=⟨rfl,rfl,rfl,by decide+kernel,rfl,by decide+kernel,by decide+kernel⟩
theorem Dw {nn:Bool} {P:Program} {w:World} {K:PySem.W.Frag} {mg:Str->Option Value} {base:Heap} {A:Ad} {f:Addr} {fd:FuncData} {dfs:List V} {kfs:List (Str×V)} (T:Txt K mg A) (F:FunD K "number_of" "Net.number_of" (defArgs dc) (defBody dc) (defScope dc) dfs kfs f fd) (c_Pipe_name:Pc P w K mg base nn (A.c "Pipe") "name" 1 (bE A)):
    bf ⟨false,nn,false⟩ P w K mg base 3 f fd ["self","name"] (bh K 2 (b9 A)):=by
  rw [vD]
  refine bJ F nX (λcdv Ar outer s H E pp hgd hr tk hp=>?_)
  replace hr:Room 2 (Ar.deeper (PyProof.Rows.envOfC "Net.number_of" (defScope dc) s.heap.objs.size f cdv)):=hr
  exact au (aP (JN (fM (own:=[("pipe",2)]) rfl nX.nd (fQ (jE T.k_Net.cl T.no_Net_joined (aa 0))) (blkOk_by (by rfl)) (λ_ _ _ _ _=>aC 2 nX.nd) (λ_ _ _ _ _=>bV) (λ_ _ _ _ _=>aO c_Pipe_name hr (aa 2))) (aa 1)))
theorem rq:FnScope ["net","flow","meter"] ["net","flow"] (defScope fh):=⟨rfl,rfl,rfl,by decide+kernel,rfl,by decide+kernel,by decide+kernel⟩
theorem Ic {nn:Bool} {P:Program} {w:World} {K:PySem.W.Frag} {mg:Str->Option Value} {base:Heap} {A:Ad} {f:Addr} {fd:FuncData} {dfs:List V} {kfs:List (Str×V)} (T:Txt K mg A) (F:FunD K "shown_with" "shown_with" (defArgs fh) (defBody fh) (defScope fh) dfs kfs f fd) (c_Meter_at:Pc P w K mg base nn (A.c "Meter") "at" 1 (cC A)) (c_Net_meters:Pc P w K mg base nn (A.c "Net") "meters" 1 (cz A)) (c_Net_number_of:Mt P w K mg base nn (A.c "Net") "number_of" 3 2 (b9 A)):
    bf ⟨false,nn,false⟩ P w K mg base 4 f fd ["net","flow"] (bh K 2 (lC A)):=by
  rw [zZ]
  refine bJ F rq (λcdv Ar outer s H E pp hgd hr tk hp=>?_)
  replace hr:Room 3 (Ar.deeper (PyProof.Rows.envOfC "shown_with" (defScope fh) s.heap.objs.size f cdv)):=hr
  exact au (aP (cN call_tuple_of lJ T.n_tuple (by decide+kernel) (af (fM (own:=[("meter",2)]) rfl rq.nd (fQ (aO c_Net_meters hr (aa 0))) (blkOk_by (by rfl)) (λ_ _ _ _ _=>aC 2 rq.nd) (λ_ _ _ _ _=>bV) (λ_ _ _ _ _=>aI ix_seq aJ (aa 1) (jH E6 c_Net_number_of hr (aa 0) (af (aO c_Meter_at hr (aa 2)) (aj))))) (aj))))
theorem FF:FnScope ["net","flow"] ["net","flow"] (defScope d9):=⟨rfl,rfl,rfl,by decide+kernel,rfl,by decide+kernel,by decide+kernel⟩
theorem FY {nn:Bool} {P:Program} {w:World} {K:PySem.W.Frag} {mg:Str->Option Value} {base:Heap} {A:Ad} {f:Addr} {fd:FuncData} {dfs:List V} {kfs:List (Str×V)} (T:Txt K mg A) (F:FunD K "readings_of" "readings_of" (defArgs d9) (defBody d9) (defScope d9) dfs kfs f fd) (c_check_net:Fc P w K mg base ⟨false,nn,false⟩ "check_net" 1 1 (eB A)) (c_check_flow:Fc P w K mg base ⟨false,nn,false⟩ "check_flow" 9 2 (mH A)) (c_shown_with:Fc P w K mg base ⟨false,nn,false⟩ "shown_with" 4 2 (lC A)):
    bf ⟨false,nn,false⟩ P w K mg base 10 f fd ["net","flow"] (bh K 2 (kg A)):=by
  rw [zj]
  refine bJ F FF (λcdv Ar outer s H E pp hgd hr tk hp=>?_)
  replace hr:Room 9 (Ar.deeper (PyProof.Rows.envOfC "readings_of" (defScope d9) s.heap.objs.size f cdv)):=hr
  exact aq (eW (aB (h:=false) tk c_check_net aV hr (af (aa 0) (aj))))
    (aq (eW (aB (h:=false) tk c_check_flow aV hr (af (aa 0) (af (aa 1) (aj)))))
    (au (aP (aB (h:=false) tk c_shown_with aV hr (af (aa 0) (af (aa 1) (aj)))))))
theorem qK:FnScope ["net","readings","meter","reading"] ["net","readings"] (defScope iK):=⟨rfl,rfl,rfl,by decide+kernel,rfl,by decide+kernel,by decide+kernel⟩
theorem KL {nn:Bool} {P:Program} {w:World} {K:PySem.W.Frag} {mg:Str->Option Value} {base:Heap} {A:Ad} {f:Addr} {fd:FuncData} {dfs:List V} {kfs:List (Str×V)} (T:Txt K mg A) (F:FunD K "by_names" "by_names" (defArgs iK) (defBody iK) (defScope iK) dfs kfs f fd) (c_Meter_name:Pc P w K mg base nn (A.c "Meter") "name" 1 (bD A)) (c_Net_meters:Pc P w K mg base nn (A.c "Net") "meters" 1 (cz A)):
    bf ⟨false,nn,false⟩ P w K mg base 3 f fd ["net","readings"] (bh K 2 (ng A)):=by
  rw [D_]
  refine bJ F qK (λcdv Ar outer s H E pp hgd hr tk hp=>?_)
  replace hr:Room 2 (Ar.deeper (PyProof.Rows.envOfC "by_names" (defScope iK) s.heap.objs.size f cdv)):=hr
  exact au (aP (Sm (own:=[("meter",2),("reading",3)]) (l0:=⟨BQ (ai (aX (A.c "Net") (cz A) (ah 0)) (ai (ah 1) (ao))),bG 2 (aE (av 2) (aE (av 3) (bH))),cP,[2,3],[2,3]⟩) (ls:=[]) rfl qK.nd (LV T.n_zip (af (aO c_Net_meters hr (aa 0)) (af (aa 1) (aj)))) (blkOk_by (by rfl)) rfl ⟨λ_ _ _ _ _=>eK rfl (aU (aC 2 qK.nd) (aU (aC 3 qK.nd) (dh))),λ_ _ _ _ _=>bV,λ_ _ _ _ _=>Fe.nil⟩ (λ_ _ _ _ _=>aO c_Meter_name hr (aa 2)) (λ_ _ _ _ _=>aa 3)))
theorem mq:FnScope ["net","flow","other","told","meter"] ["net","flow","other"] (defScope dF):=⟨rfl,rfl,rfl,by decide+kernel,rfl,by decide+kernel,by decide+kernel⟩
theorem EH {nn:Bool} {P:Program} {w:World} {K:PySem.W.Frag} {mg:Str->Option Value} {base:Heap} {A:Ad} {f:Addr} {fd:FuncData} {dfs:List V} {kfs:List (Str×V)} (T:Txt K mg A) (F:FunD K "carried_over" "carried_over" (defArgs dF) (defBody dF) (defScope dF) dfs kfs f fd) (c_Meter_name:Pc P w K mg base nn (A.c "Meter") "name" 1 (bD A)) (c_Net_meters:Pc P w K mg base nn (A.c "Net") "meters" 1 (cz A)) (c_readings_of:Fc P w K mg base ⟨false,nn,false⟩ "readings_of" 10 2 (kg A)) (c_by_names:Fc P w K mg base ⟨false,nn,false⟩ "by_names" 3 2 (ng A)):
    bf ⟨false,nn,false⟩ P w K mg base 11 f fd ["net","flow","other"] (bh K 3 (jW A)):=by
  rw [wX]
  refine bJ F mq (λcdv Ar outer s H E pp hgd hr tk hp=>?_)
  replace hr:Room 10 (Ar.deeper (PyProof.Rows.envOfC "carried_over" (defScope dF) s.heap.objs.size f cdv)):=hr
  exact aq (a_ 3 mq.nd (aB (h:=false) tk c_by_names aV hr (af (aa 0) (af (aB (h:=false) tk c_readings_of aV hr (af (aa 0) (af (aa 1) (aj)))) (aj)))))
    (au (aP (cN call_tuple_of lJ T.n_tuple (by decide+kernel) (af (fM (own:=[("meter",4)]) rfl mq.nd (fQ (aO c_Net_meters hr (aa 2))) (blkOk_by (by rfl)) (λ_ _ _ _ _=>aC 4 mq.nd) (λ_ _ _ _ _=>bV) (λ_ _ _ _ _=>Ga (Ju hr) (aa 3) (aO c_Meter_name hr (aa 4)))) (aj)))))
theorem i9:FnScope ["net","readings","out","found","meter","reading","index","pipe"] ["net","readings","out"] (defScope cY):=⟨rfl,rfl,rfl,by decide+kernel,rfl,by decide+kernel,by decide+kernel⟩
theorem Dh {nn:Bool} {P:Program} {w:World} {K:PySem.W.Frag} {mg:Str->Option Value} {base:Heap} {A:Ad} {f:Addr} {fd:FuncData} {dfs:List V} {kfs:List (Str×V)} (T:Txt K mg A) (F:FunD K "known_numbers" "known_numbers" (defArgs cY) (defBody cY) (defScope cY) dfs kfs f fd) (c_Meter_name:Pc P w K mg base nn (A.c "Meter") "name" 1 (bD A)) (c_Meter_at:Pc P w K mg base nn (A.c "Meter") "at" 1 (cC A)) (c_Net_meters:Pc P w K mg base nn (A.c "Net") "meters" 1 (cz A)) (c_Net_pipes:Pc P w K mg base nn (A.c "Net") "pipes" 1 (gY A)) (c_Net_number_of:Mt P w K mg base nn (A.c "Net") "number_of" 3 2 (b9 A)):
    bf ⟨false,nn,false⟩ P w K mg base 4 f fd ["net","readings","out"] (bh K 3 (jJ A)):=by
  rw [vF]
  refine bJ F i9 (λcdv Ar outer s H E pp hgd hr tk hp=>?_)
  replace hr:Room 3 (Ar.deeper (PyProof.Rows.envOfC "known_numbers" (defScope cY) s.heap.objs.size f cdv)):=hr
  exact aq (kH 3 (own:=[("pipe",7)]) rfl i9.nd (fQ (aO c_Net_pipes hr (aa 0))) (blkOk_by (by rfl)) (λ_ _ _ _ _=>aC 7 i9.nd) (λ_ _ _ _ _=>bV) (λ_ _ _ _ _=>ff) (sw_true rfl rfl rfl (by decide+kernel)))
    (aq (dj hp rfl (LV T.n_zip (af (aO c_Net_meters hr (aa 0)) (af (aa 1) (aj)))) (eK rfl (aU (aC 4 i9.nd) (aU (aC 5 i9.nd) (dh)))) (aq (b6 (GW.gt (kQ (aZ op_isN oO (aa 5) (ff) (nomark _)) (nB (aZ op_in_seq qL (aO c_Meter_name hr (aa 4)) (aa 2) (by rfl))))) (au (Lb)) (bB))
    (aq (a_ 6 i9.nd (jH tk c_Net_number_of hr (aa 0) (af (aO c_Meter_at hr (aa 4)) (aj))))
    (aq (b6 (GW.gt (oW (aZ op_notN BL (aI ix_seq aJ (aa 3) (aa 6)) (ff) (nomark _)) (mX (aZ (ny hr) nA (aI ix_seq aJ (aa 3) (aa 6)) (aa 5) (nomark _))))) (au (aP (ff))) (bB))
    (au (ql (aa 5) (aa 3) (aa 6)))))))
    (au (aP (aa 3))))
theorem EU:FnScope ["net","flow","other","numbers"] ["net","flow","other"] (defScope jk):=⟨rfl,rfl,rfl,by decide+kernel,rfl,by decide+kernel,by decide+kernel⟩
theorem Na {nn:Bool} {P:Program} {w:World} {K:PySem.W.Frag} {mg:Str->Option Value} {base:Heap} {A:Ad} {f:Addr} {fd:FuncData} {dfs:List V} {kfs:List (Str×V)} (T:Txt K mg A) (F:FunD K "partner" "partner" (defArgs jk) (defBody jk) (defScope jk) dfs kfs f fd) (c_completed:Fc P w K mg base ⟨false,nn,false⟩ "completed" 9 2 (jd A)) (c_carried_over:Fc P w K mg base ⟨false,nn,false⟩ "carried_over" 11 3 (jW A)) (c_known_numbers:Fc P w K mg base ⟨false,nn,false⟩ "known_numbers" 4 3 (jJ A)):
    bf ⟨false,nn,false⟩ P w K mg base 12 f fd ["net","flow","other"] (bh K 3 (oF A)):=by
  rw [Hv]
  refine bJ F EU (λcdv Ar outer s H E pp hgd hr tk hp=>?_)
  replace hr:Room 11 (Ar.deeper (PyProof.Rows.envOfC "partner" (defScope jk) s.heap.objs.size f cdv)):=hr
  exact aq (a_ 3 EU.nd (aB (h:=false) tk c_known_numbers aV hr (af (aa 2) (af (aB (h:=false) tk c_carried_over aV hr (af (aa 0) (af (aa 1) (af (aa 2) (aj))))) (af (fP (aj)) (aj))))))
    (au (aP (gF (aZ op_isN oO (aa 3) (ff) (nomark _)) (ff) (aB (h:=false) tk c_completed aV hr (af (aa 2) (af (aa 3) (aj)))))))
theorem ie:FnScope ["net","other","which","mine","mate","chord","numbers","flow"] ["net","other"] (defScope dz):=⟨rfl,rfl,rfl,by decide+kernel,rfl,by decide+kernel,by decide+kernel⟩
theorem Em {nn:Bool} {P:Program} {w:World} {K:PySem.W.Frag} {mg:Str->Option Value} {base:Heap} {A:Ad} {f:Addr} {fd:FuncData} {dfs:List V} {kfs:List (Str×V)} (T:Txt K mg A) (F:FunD K "parting_flow" "parting_flow" (defArgs dz) (defBody dz) (defScope dz) dfs kfs f fd) (c_check_names:Fc P w K mg base ⟨false,nn,false⟩ "check_names" 3 2 (j_ A)) (c_ring_flows:Fc P w K mg base ⟨false,nn,false⟩ "ring_flows" 10 1 (lg A)) (c_partner:Fc P w K mg base ⟨false,nn,false⟩ "partner" 12 3 (oF A)):
    bf ⟨false,nn,false⟩ P w K mg base 13 f fd ["net","other"] (bh K 2 (gM A)):=by
  rw [wU]
  refine bJ F ie (λcdv Ar outer s H E pp hgd hr tk hp=>?_)
  replace hr:Room 12 (Ar.deeper (PyProof.Rows.envOfC "parting_flow" (defScope dz) s.heap.objs.size f cdv)):=hr
  exact aq (eW (aB (h:=false) tk c_check_names aV hr (af (aa 0) (af (aa 1) (aj)))))
    (aq (dj hp rfl (fQ (fP (af (fP (af (ge_int) (af (aa 0) (af (aa 1) (aj))))) (af (fP (af (ge_int) (af (aa 1) (af (aa 0) (aj))))) (aj))))) (eK rfl (aU (aC 2 ie.nd) (aU (aC 3 ie.nd) (aU (aC 4 ie.nd) (dh))))) (au (dj hp rfl (dP (aB (h:=false) tk c_ring_flows aV hr (af (aa 3) (aj)))) (eK rfl (aU (aC 5 ie.nd) (aU (aC 6 ie.nd) (dh)))) (aq (a_ 7 ie.nd (cN call_tuple_of lJ T.n_tuple (by decide+kernel) (af (aa 6) (aj))))
    (au (b6 (aZ op_isN oO (aB (h:=false) tk c_partner aV hr (af (aa 3) (af (aa 7) (af (aa 4) (aj))))) (ff) (nomark _)) (au (aP (fP (af (aa 2) (af (aa 7) (aj)))))) (bB)))))))
    (au (aP (ff))))
theorem CN:FnScope ["net","other"] ["net","other"] (defScope dg):=⟨rfl,rfl,rfl,by decide+kernel,rfl,by decide+kernel,by decide+kernel⟩
theorem CL {nn:Bool} {P:Program} {w:World} {K:PySem.W.Frag} {mg:Str->Option Value} {base:Heap} {A:Ad} {f:Addr} {fd:FuncData} {dfs:List V} {kfs:List (Str×V)} (T:Txt K mg A) (F:FunD K "same_readings" "same_readings" (defArgs dg) (defBody dg) (defScope dg) dfs kfs f fd) (c_parting_flow:Fc P w K mg base ⟨false,nn,false⟩ "parting_flow" 13 2 (gM A)):
    bf ⟨false,nn,false⟩ P w K mg base 14 f fd ["net","other"] (bh K 2 (fV A)):=by
  rw [vG]
  refine bJ F CN (λcdv Ar outer s H E pp hgd hr tk hp=>?_)
  replace hr:Room 13 (Ar.deeper (PyProof.Rows.envOfC "same_readings" (defScope dg) s.heap.objs.size f cdv)):=hr
  exact au (aP (jN op_isN oO (aB (h:=false) tk c_parting_flow aV hr (af (aa 0) (af (aa 1) (aj)))) (ff) (nomark _)))
theorem Cz:FnScope ["self","name","pipe"] ["self","name"] (defScope iF):=⟨rfl,rfl,rfl,by decide+kernel,rfl,by decide+kernel,by decide+kernel⟩
theorem K5 {nn:Bool} {P:Program} {w:World} {K:PySem.W.Frag} {mg:Str->Option Value} {base:Heap} {A:Ad} {f:Addr} {fd:FuncData} {dfs:List V} {kfs:List (Str×V)} (T:Txt K mg A) (F:FunD K "pipe" "Net.pipe" (defArgs iF) (defBody iF) (defScope iF) dfs kfs f fd) (c_Pipe_name:Pc P w K mg base nn (A.c "Pipe") "name" 1 (bE A)):
    bf ⟨false,nn,false⟩ P w K mg base 3 f fd ["self","name"] (bh K 2 (jQ A)):=by
  rw [Er]
  refine bJ F Cz (λcdv Ar outer s H E pp hgd hr tk hp=>?_)
  replace hr:Room 2 (Ar.deeper (PyProof.Rows.envOfC "Net.pipe" (defScope iF) s.heap.objs.size f cdv)):=hr
  exact aq (dj hp rfl (fQ (jE T.k_Net.cl T.no_Net_joined (aa 0))) (aC 2 Cz.nd) (au (b6 (aZ (fR hr) fO (aO c_Pipe_name hr (aa 2)) (aa 1) (nomark _)) (au (aP (aa 2))) (bB))))
    (au (gE))
theorem Aj:FnScope ["self","name","meter"] ["self","name"] (defScope gj):=⟨rfl,rfl,rfl,by decide+kernel,rfl,by decide+kernel,by decide+kernel⟩
theorem JG {nn:Bool} {P:Program} {w:World} {K:PySem.W.Frag} {mg:Str->Option Value} {base:Heap} {A:Ad} {f:Addr} {fd:FuncData} {dfs:List V} {kfs:List (Str×V)} (T:Txt K mg A) (F:FunD K "meter" "Net.meter" (defArgs gj) (defBody gj) (defScope gj) dfs kfs f fd) (c_Meter_name:Pc P w K mg base nn (A.c "Meter") "name" 1 (bD A)):
    bf ⟨false,nn,false⟩ P w K mg base 3 f fd ["self","name"] (bh K 2 (kI A)):=by
  rw [Cd]
  refine bJ F Aj (λcdv Ar outer s H E pp hgd hr tk hp=>?_)
  replace hr:Room 2 (Ar.deeper (PyProof.Rows.envOfC "Net.meter" (defScope gj) s.heap.objs.size f cdv)):=hr
  exact aq (dj hp rfl (fQ (jE T.k_Net.cl T.no_Net_fitted (aa 0))) (aC 2 Aj.nd) (au (b6 (aZ (fR hr) fO (aO c_Meter_name hr (aa 2)) (aa 1) (nomark _)) (au (aP (aa 2))) (bB))))
    (au (gE))
theorem HQ:FnScope ["net","value"] ["net","value"] (defScope fH):=⟨rfl,rfl,rfl,by decide+kernel,rfl,by decide+kernel,by decide+kernel⟩
theorem HM {nn:Bool} {P:Program} {w:World} {K:PySem.W.Frag} {mg:Str->Option Value} {base:Heap} {A:Ad} {f:Addr} {fd:FuncData} {dfs:List V} {kfs:List (Str×V)} (T:Txt K mg A) (F:FunD K "check_pipe" "check_pipe" (defArgs fH) (defBody fH) (defScope fH) dfs kfs f fd) (c_Net_pipe:Mt P w K mg base nn (A.c "Net") "pipe" 3 2 (jQ A)):
    bf ⟨false,nn,false⟩ P w K mg base 4 f fd ["net","value"] (bh K 2 (jA A)):=by
  rw [AM]
  refine bJ F HQ (λcdv Ar outer s H E pp hgd hr tk hp=>?_)
  replace hr:Room 3 (Ar.deeper (PyProof.Rows.envOfC "check_pipe" (defScope fH) s.heap.objs.size f cdv)):=hr
  exact au (eW (jH tk c_Net_pipe hr (aa 0) (af (aa 1) (aj))))
theorem ou:FnScope ["self","name","meter"] ["self","name"] (defScope c_):=⟨rfl,rfl,rfl,by decide+kernel,rfl,by decide+kernel,by decide+kernel⟩
theorem C6 {nn:Bool} {P:Program} {w:World} {K:PySem.W.Frag} {mg:Str->Option Value} {base:Heap} {A:Ad} {f:Addr} {fd:FuncData} {dfs:List V} {kfs:List (Str×V)} (T:Txt K mg A) (F:FunD K "meters_at" "Net.meters_at" (defArgs c_) (defBody c_) (defScope c_) dfs kfs f fd) (c_Meter_at:Pc P w K mg base nn (A.c "Meter") "at" 1 (cC A)):
    bf ⟨false,nn,false⟩ P w K mg base 3 f fd ["self","name"] (bh K 2 (cZ A)):=by
  rw [vB]
  refine bJ F ou (λcdv Ar outer s H E pp hgd hr tk hp=>?_)
  replace hr:Room 2 (Ar.deeper (PyProof.Rows.envOfC "Net.meters_at" (defScope c_) s.heap.objs.size f cdv)):=hr
  exact au (aP (cN call_tuple_of lJ T.n_tuple (by decide+kernel) (af (fM (own:=[("meter",2)]) rfl ou.nd (fQ (jE T.k_Net.cl T.no_Net_fitted (aa 0))) (blkOk_by (by rfl)) (λ_ _ _ _ _=>aC 2 ou.nd) (λ_ _ _ _ _=>mY (aZ (fR hr) fO (aO c_Meter_at hr (aa 2)) (aa 1) (nomark _))) (λ_ _ _ _ _=>aa 2)) (aj))))
theorem pH:FnScope ["self","name","meter"] ["self","name"] (defScope dM):=⟨rfl,rfl,rfl,by decide+kernel,rfl,by decide+kernel,by decide+kernel⟩
theorem EB {nn:Bool} {P:Program} {w:World} {K:PySem.W.Frag} {mg:Str->Option Value} {base:Heap} {A:Ad} {f:Addr} {fd:FuncData} {dfs:List V} {kfs:List (Str×V)} (T:Txt K mg A) (F:FunD K "has_seal" "Net.has_seal" (defArgs dM) (defBody dM) (defScope dM) dfs kfs f fd) (c_Meter_sealed:Pc P w K mg base nn (A.c "Meter") "sealed" 1 (fN A)) (c_Net_meters_at:Mt P w K mg base nn (A.c "Net") "meters_at" 3 2 (cZ A)):
    bf ⟨false,nn,false⟩ P w K mg base 4 f fd ["self","name"] (bh K 2 (gO A)):=by
  rw [xD]
  refine bJ F pH (λcdv Ar outer s H E pp hgd hr tk hp=>?_)
  replace hr:Room 3 (Ar.deeper (PyProof.Rows.envOfC "Net.has_seal" (defScope dM) s.heap.objs.size f cdv)):=hr
  exact au (aP (aR (cr_any rfl) UW T.n_any (by decide+kernel) (af (fM (own:=[("meter",2)]) rfl pH.nd (fQ (jH tk c_Net_meters_at hr (aa 0) (af (aa 1) (aj)))) (blkOk_by (by rfl)) (λ_ _ _ _ _=>aC 2 pH.nd) (λ_ _ _ _ _=>bV) (λ_ _ _ _ _=>aO c_Meter_sealed hr (aa 2))) (aj))))
theorem kP:FnScope ["net","pipe","found","other","shut"] ["net","pipe"] (defScope cJ):=⟨rfl,rfl,rfl,by decide+kernel,rfl,by decide+kernel,by decide+kernel⟩
theorem BY {nn:Bool} {P:Program} {w:World} {K:PySem.W.Frag} {mg:Str->Option Value} {base:Heap} {A:Ad} {f:Addr} {fd:FuncData} {dfs:List V} {kfs:List (Str×V)} (T:Txt K mg A) (F:FunD K "lengths_beside" "lengths_beside" (defArgs cJ) (defBody cJ) (defScope cJ) dfs kfs f fd) (c_Pipe_name:Pc P w K mg base nn (A.c "Pipe") "name" 1 (bE A)) (c_Net_pipes:Pc P w K mg base nn (A.c "Net") "pipes" 1 (gY A)) (c_Net_meters_at:Mt P w K mg base nn (A.c "Net") "meters_at" 3 2 (cZ A)) (c_Net_has_seal:Mt P w K mg base nn (A.c "Net") "has_seal" 4 2 (gO A)):
    bf ⟨false,nn,false⟩ P w K mg base 5 f fd ["net","pipe"] (bh K 2 (iY A)):=by
  rw [uU]
  refine bJ F kP (λcdv Ar outer s H E pp hgd hr tk hp=>?_)
  replace hr:Room 4 (Ar.deeper (PyProof.Rows.envOfC "lengths_beside" (defScope cJ) s.heap.objs.size f cdv)):=hr
  exact aq (a_ 2 kP.nd (ki (aj)))
    (aq (dj hp rfl (fQ (aO c_Net_pipes hr (aa 0))) (aC 3 kP.nd) (aq (a_ 4 kP.nd (NZ (jN (fR hr) fO (aO c_Pipe_name hr (aa 3)) (aa 1) (nomark _)) (uo (jH tk c_Net_has_seal hr (aa 0) (af (aO c_Pipe_name hr (aa 3)) (aj))))))
    (au (gJ (aa 2) (gF (bZ tru_ok bW (aa 4)) (ff) (aR call_len dW T.n_len (by decide+kernel) (af (jH tk c_Net_meters_at hr (aa 0) (af (aO c_Pipe_name hr (aa 3)) (aj))) (aj))))))))
    (au (aP (aa 2))))
theorem Q8:FnScope ["found","start","end","length"] ["found","start","end","length"] (defScope k8):=⟨rfl,rfl,rfl,by decide+kernel,rfl,by decide+kernel,by decide+kernel⟩
theorem RE {nn:Bool} {P:Program} {w:World} {K:PySem.W.Frag} {mg:Str->Option Value} {base:Heap} {A:Ad} {f:Addr} {fd:FuncData} {dfs:List V} {kfs:List (Str×V)} (T:Txt K mg A) (F:FunD K "lower" "lower" (defArgs k8) (defBody k8) (defScope k8) dfs kfs f fd):
    bf ⟨false,nn,false⟩ P w K mg base 1 f fd ["found","start","end","length"] (bh K 4 (qC A)):=by
  rw [LM]
  refine bJ F Q8 (λcdv Ar outer s H E pp hgd hr tk hp=>?_)
  replace hr:Room 0 (Ar.deeper (PyProof.Rows.envOfC "lower" (defScope k8) s.heap.objs.size f cdv)):=hr
  exact au (b6 (GW.gt (oW (aZ op_notN BL (aI ix_seq aJ (aa 0) (aa 1)) (ff) (nomark _)) (mX (GW.gt (kQ (aZ op_isN oO (aI ix_seq aJ (aa 0) (aa 2)) (ff) (nomark _)) (nB (aZ op_gt IC (aI ix_seq aJ (aa 0) (aa 2)) (bN bR bS (aI ix_seq aJ (aa 0) (aa 1)) (aa 3)) (nomark _)))))))) (au (ql (bN bR bS (aI ix_seq aJ (aa 0) (aa 1)) (aa 3)) (aa 0) (aa 2))) (bB))
theorem jZ:FnScope ["net","source","lengths","found","turn","start","end","length","place"] ["net","source","lengths"] (defScope gm):=⟨rfl,rfl,rfl,by decide+kernel,rfl,by decide+kernel,by decide+kernel⟩
theorem Kf {nn:Bool} {P:Program} {w:World} {K:PySem.W.Frag} {mg:Str->Option Value} {base:Heap} {A:Ad} {f:Addr} {fd:FuncData} {dfs:List V} {kfs:List (Str×V)} (T:Txt K mg A) (F:FunD K "distances" "distances" (defArgs gm) (defBody gm) (defScope gm) dfs kfs f fd) (c_Net_places:Pc P w K mg base nn (A.c "Net") "places" 3 (cW A)) (c_Net_ends:Pc P w K mg base nn (A.c "Net") "ends" 5 (b8 A)) (c_lower:Fc P w K mg base ⟨false,nn,false⟩ "lower" 1 4 (qC A)):
    bf ⟨false,nn,false⟩ P w K mg base 7 f fd ["net","source","lengths"] (bh K 3 (lV A)):=by
  rw [Ca]
  refine bJ F jZ (λcdv Ar outer s H E pp hgd hr tk hp=>?_)
  replace hr:Room 6 (Ar.deeper (PyProof.Rows.envOfC "distances" (defScope gm) s.heap.objs.size f cdv)):=hr
  exact aq (kH 3 (own:=[("place",8)]) rfl jZ.nd (fQ (aO c_Net_places hr (aa 0))) (blkOk_by (by rfl)) (λ_ _ _ _ _=>aC 8 jZ.nd) (λ_ _ _ _ _=>bV) (λ_ _ _ _ _=>ff) (sw_true rfl rfl rfl (by decide+kernel)))
    (aq (ql (ge_int) (aa 3) (aa 1))
    (aq (dj hp rfl (je T.n_range (af (aR call_len dW T.n_len (by decide+kernel) (af (aa 3) (aj))) (aj))) (aC 4 jZ.nd) (au (dj hp rfl (EC T.n_zip (af (aO c_Net_ends hr (aa 0)) (af (aa 2) (aj)))) (eK rfl (aU (eK rfl (aU (aC 5 jZ.nd) (aU (aC 6 jZ.nd) (dh)))) (aU (aC 7 jZ.nd) (dh)))) (au (b6 (aZ op_notN BL (aa 7) (ff) (nomark _)) (aq (eW (aB (h:=false) tk c_lower aV hr (af (aa 3) (af (aa 5) (af (aa 6) (af (aa 7) (aj)))))))
    (au (eW (aB (h:=false) tk c_lower aV hr (af (aa 3) (af (aa 6) (af (aa 5) (af (aa 7) (aj))))))))) (bB))))))
    (au (aP (aa 3)))))
theorem zF:FnScope ["net","pipe"] ["net","pipe"] (defScope bY):=⟨rfl,rfl,rfl,by decide+kernel,rfl,by decide+kernel,by decide+kernel⟩
theorem zE {nn:Bool} {P:Program} {w:World} {K:PySem.W.Frag} {mg:Str->Option Value} {base:Heap} {A:Ad} {f:Addr} {fd:FuncData} {dfs:List V} {kfs:List (Str×V)} (T:Txt K mg A) (F:FunD K "distances_beside" "distances_beside" (defArgs bY) (defBody bY) (defScope bY) dfs kfs f fd) (c_Net_ends:Pc P w K mg base nn (A.c "Net") "ends" 5 (b8 A)) (c_Net_number_of:Mt P w K mg base nn (A.c "Net") "number_of" 3 2 (b9 A)) (c_lengths_beside:Fc P w K mg base ⟨false,nn,false⟩ "lengths_beside" 5 2 (iY A)) (c_distances:Fc P w K mg base ⟨false,nn,false⟩ "distances" 7 3 (lV A)):
    bf ⟨false,nn,false⟩ P w K mg base 8 f fd ["net","pipe"] (bh K 2 (gK A)):=by
  rw [qZ]
  refine bJ F zF (λcdv Ar outer s H E pp hgd hr tk hp=>?_)
  replace hr:Room 7 (Ar.deeper (PyProof.Rows.envOfC "distances_beside" (defScope bY) s.heap.objs.size f cdv)):=hr
  exact au (aP (aB (h:=false) tk c_distances aV hr (af (aa 0) (af (aI ix_seq aJ (aI ix_seq aJ (aO c_Net_ends hr (aa 0)) (jH tk c_Net_number_of hr (aa 0) (af (aa 1) (aj)))) (ge_int)) (af (aB (h:=false) tk c_lengths_beside aV hr (af (aa 0) (af (aa 1) (aj)))) (aj))))))
theorem xK:FnScope ["net","pipe","far"] ["net","pipe"] (defScope d_):=⟨rfl,rfl,rfl,by decide+kernel,rfl,by decide+kernel,by decide+kernel⟩
theorem F7 {nn:Bool} {P:Program} {w:World} {K:PySem.W.Frag} {mg:Str->Option Value} {base:Heap} {A:Ad} {f:Addr} {fd:FuncData} {dfs:List V} {kfs:List (Str×V)} (T:Txt K mg A) (F:FunD K "strength_of" "strength_of" (defArgs d_) (defBody d_) (defScope d_) dfs kfs f fd) (c_Net_ends:Pc P w K mg base nn (A.c "Net") "ends" 5 (b8 A)) (c_Net_number_of:Mt P w K mg base nn (A.c "Net") "number_of" 3 2 (b9 A)) (c_Net_meters_at:Mt P w K mg base nn (A.c "Net") "meters_at" 3 2 (cZ A)) (c_Net_has_seal:Mt P w K mg base nn (A.c "Net") "has_seal" 4 2 (gO A)) (c_distances_beside:Fc P w K mg base ⟨false,nn,false⟩ "distances_beside" 8 2 (gK A)):
    bf ⟨false,nn,false⟩ P w K mg base 9 f fd ["net","pipe"] (bh K 2 (iR A)):=by
  rw [zd]
  refine bJ F xK (λcdv Ar outer s H E pp hgd hr tk hp=>?_)
  replace hr:Room 8 (Ar.deeper (PyProof.Rows.envOfC "strength_of" (defScope d_) s.heap.objs.size f cdv)):=hr
  exact aq (a_ 2 xK.nd (aI ix_seq aJ (aB (h:=false) tk c_distances_beside aV hr (af (aa 0) (af (aa 1) (aj)))) (aI ix_seq aJ (aI ix_seq aJ (aO c_Net_ends hr (aa 0)) (jH tk c_Net_number_of hr (aa 0) (af (aa 1) (aj)))) (ge_int))))
    (aq (b6 (GW.gt (kQ (aZ op_isN oO (aa 2) (ff) (nomark _)) (nB (bZ tru_ok bW (jH tk c_Net_has_seal hr (aa 0) (af (aa 1) (aj))))))) (au (aP (ff))) (bB))
    (au (aP (bN bR bS (aa 2) (aR call_len dW T.n_len (by decide+kernel) (af (jH tk c_Net_meters_at hr (aa 0) (af (aa 1) (aj))) (aj)))))))
theorem K3:FnScope ["net","pipe"] ["net","pipe"] (defScope iD):=⟨rfl,rfl,rfl,by decide+kernel,rfl,by decide+kernel,by decide+kernel⟩
theorem Le {nn:Bool} {P:Program} {w:World} {K:PySem.W.Frag} {mg:Str->Option Value} {base:Heap} {A:Ad} {f:Addr} {fd:FuncData} {dfs:List V} {kfs:List (Str×V)} (T:Txt K mg A) (F:FunD K "strength" "strength" (defArgs iD) (defBody iD) (defScope iD) dfs kfs f fd) (c_check_net:Fc P w K mg base ⟨false,nn,false⟩ "check_net" 1 1 (eB A)) (c_check_pipe:Fc P w K mg base ⟨false,nn,false⟩ "check_pipe" 4 2 (jA A)) (c_strength_of:Fc P w K mg base ⟨false,nn,false⟩ "strength_of" 9 2 (iR A)):
    bf ⟨false,nn,false⟩ P w K mg base 10 f fd ["net","pipe"] (bh K 2 (lI A)):=by
  rw [Ep]
  refine bJ F K3 (λcdv Ar outer s H E pp hgd hr tk hp=>?_)
  replace hr:Room 9 (Ar.deeper (PyProof.Rows.envOfC "strength" (defScope iD) s.heap.objs.size f cdv)):=hr
  exact aq (eW (aB (h:=false) tk c_check_net aV hr (af (aa 0) (aj))))
    (aq (eW (aB (h:=false) tk c_check_pipe aV hr (af (aa 0) (af (aa 1) (aj)))))
    (au (aP (aB (h:=false) tk c_strength_of aV hr (af (aa 0) (af (aa 1) (aj)))))))
theorem yY:FnScope ["_law_well_here","_law_most","_law_noticed"] ["_law_well_here","_law_most"] (defScope fu):=⟨rfl,rfl,rfl,by decide+kernel,rfl,by decide+kernel,by decide+kernel⟩
theorem Ii {nn:Bool} {P:Program} {w:World} {K:PySem.W.Frag} {mg:Str->Option Value} {base:Heap} {A:Ad} {f:Addr} {fd:FuncData} {dfs:List V} {kfs:List (Str×V)} (T:Txt K mg A) (F:FunD K "_law_faults" "_law_faults" (defArgs fu) (defBody fu) (defScope fu) dfs kfs f fd) (c_dip_k23:Fc P w K mg base ⟨false,nn,false⟩ "_law_dip" 1 2 (bI A)):
    bf ⟨false,nn,false⟩ P w K mg base 2 f fd ["_law_well_here","_law_most"] (bh K 2 (lB A)):=by
  rw [Be]
  refine bJ F yY (λcdv Ar outer s H E pp hgd hr tk hp=>?_)
  replace hr:Room 1 (Ar.deeper (PyProof.Rows.envOfC "_law_faults" (defScope fu) s.heap.objs.size f cdv)):=hr
  exact aq (a_ 2 yY.nd (aB (h:=false) tk c_dip_k23 aV hr (af (aa 0) (af (bN bR bS (aa 1) (ge_int)) (aj)))))
    (au (aP (fP (af (aB (h:=false) tk c_dip_k23 aV hr (af (aa 0) (af (bN bR bS (aa 2) (ge_int)) (aj)))) (af (aa 2) (af (aB (h:=false) tk c_dip_k23 aV hr (af (aa 0) (af (bN bR bS (aa 1) (ge_int)) (aj)))) (aj)))))))
theorem KN:FnScope ["value"] ["value"] (defScope iz):=⟨rfl,rfl,rfl,by decide+kernel,rfl,by decide+kernel,by decide+kernel⟩
theorem K1 {nn:Bool} {P:Program} {w:World} {K:PySem.W.Frag} {mg:Str->Option Value} {base:Heap} {A:Ad} {f:Addr} {fd:FuncData} {dfs:List V} {kfs:List (Str×V)} (T:Txt K mg A) (F:FunD K "is_small" "is_small" (defArgs iz) (defBody iz) (defScope iz) dfs kfs f fd) (c_is_integer:Fc P w K mg base ⟨false,nn,false⟩ "is_integer" 1 1 (iA A)):
    bf ⟨false,nn,false⟩ P w K mg base 2 f fd ["value"] (bh K 1 (m5 A)):=by
  rw [DI]
  refine bJ F KN (λcdv Ar outer s H E pp hgd hr tk hp=>?_)
  replace hr:Room 1 (Ar.deeper (PyProof.Rows.envOfC "is_small" (defScope iz) s.heap.objs.size f cdv)):=hr
  exact au (aP (Ff (aB (h:=false) tk c_is_integer aV hr (af (aa 0) (aj))) (uo (RJ op_le op_le ro_le ro_le (ge_int) (aa 0) (BH T.g_MOST_FAULTS)))))
theorem rX:FnScope ["value","part"] ["value"] (defScope fG):=⟨rfl,rfl,rfl,by decide+kernel,rfl,by decide+kernel,by decide+kernel⟩
theorem Im {nn:Bool} {P:Program} {w:World} {K:PySem.W.Frag} {mg:Str->Option Value} {base:Heap} {A:Ad} {f:Addr} {fd:FuncData} {dfs:List V} {kfs:List (Str×V)} (T:Txt K mg A) (F:FunD K "are_faults" "are_faults" (defArgs fG) (defBody fG) (defScope fG) dfs kfs f fd) (c_is_small:Fc P w K mg base ⟨false,nn,false⟩ "is_small" 2 1 (m5 A)):
    bf ⟨false,nn,false⟩ P w K mg base 3 f fd ["value"] (bh K 1 (kW A)):=by
  rw [zR]
  refine bJ F rX (λcdv Ar outer s H E pp hgd hr tk hp=>?_)
  replace hr:Room 2 (Ar.deeper (PyProof.Rows.envOfC "are_faults" (defScope fG) s.heap.objs.size f cdv)):=hr
  exact aq (b6 (GW.gt (kQ (gQ (bZ tru_ok bW (aR call_isi (j5 T.own T.kit) T.n_isinstance (by decide+kernel) (af (aa 0) (af (sG T.n_tuple (by decide+kernel)) (aj)))))) (kQ (aZ (ny hr) nA (aR call_len dW T.n_len (by decide+kernel) (af (aa 0) (aj))) (ge_int) (nomark _)) (nB (gQ (bZ tru_ok bW (aR (cr_all rfl) DX T.n_all (by decide+kernel) (af (fM (own:=[("part",1)]) rfl rX.nd (fQ (aa 0)) (blkOk_by (by rfl)) (λ_ _ _ _ _=>aC 1 rX.nd) (λ_ _ _ _ _=>bV) (λ_ _ _ _ _=>aB (h:=false) E6 c_is_small aV hr (af (aa 1) (aj)))) (aj))))))))) (au (aP (kR))) (bB))
    (au (aP (jN op_le ro_le (aI ix_seq aJ (aa 0) (ge_int)) (aI ix_seq aJ (aa 0) (ge_int)) (nomark _))))
theorem DW:FnScope ["value"] ["value"] (defScope dO):=⟨rfl,rfl,rfl,by decide+kernel,rfl,by decide+kernel,by decide+kernel⟩
theorem Ei {nn:Bool} {P:Program} {w:World} {K:PySem.W.Frag} {mg:Str->Option Value} {base:Heap} {A:Ad} {f:Addr} {fd:FuncData} {dfs:List V} {kfs:List (Str×V)} (T:Txt K mg A) (F:FunD K "check_faults" "check_faults" (defArgs dO) (defBody dO) (defScope dO) dfs kfs f fd) (c_are_faults:Fc P w K mg base ⟨false,nn,false⟩ "are_faults" 3 1 (kW A)):
    bf ⟨false,nn,false⟩ P w K mg base 4 f fd ["value"] (bh K 1 (jX A)):=by
  rw [xu]
  refine bJ F DW (λcdv Ar outer s H E pp hgd hr tk hp=>?_)
  replace hr:Room 3 (Ar.deeper (PyProof.Rows.envOfC "check_faults" (defScope dO) s.heap.objs.size f cdv)):=hr
  exact au (b6 (gQ (bZ tru_ok bW (aB (h:=false) tk c_are_faults aV hr (af (aa 0) (aj))))) (au (gE)) (bB))
theorem Jh:FnScope ["net","pipe","faults","found"] ["net","pipe","faults"] (defScope kX):=⟨rfl,rfl,rfl,by decide+kernel,rfl,by decide+kernel,by decide+kernel⟩
theorem Q_ {nn:Bool} {P:Program} {w:World} {K:PySem.W.Frag} {mg:Str->Option Value} {base:Heap} {A:Ad} {f:Addr} {fd:FuncData} {dfs:List V} {kfs:List (Str×V)} (T:Txt K mg A) (F:FunD K "tells" "tells" (defArgs kX) (defBody kX) (defScope kX) dfs kfs f fd) (c_strength_of:Fc P w K mg base ⟨false,nn,false⟩ "strength_of" 9 2 (iR A)):
    bf ⟨false,nn,false⟩ P w K mg base 10 f fd ["net","pipe","faults"] (bh K 3 (sX A)):=by
  rw [Ms]
  refine bJ F Jh (λcdv Ar outer s H E pp hgd hr tk hp=>?_)
  replace hr:Room 9 (Ar.deeper (PyProof.Rows.envOfC "tells" (defScope kX) s.heap.objs.size f cdv)):=hr
  exact aq (a_ 3 Jh.nd (aB (h:=false) tk c_strength_of aV hr (af (aa 0) (af (aa 1) (aj)))))
    (au (aP (NZ (jN op_isN oO (aa 3) (ff) (nomark _)) (uo (jN op_gt IC (aa 3) (aR (cr_sum rfl) U5 T.n_sum (by decide+kernel) (af (cN call_list_of Mq T.n_list (by decide+kernel) (af (aa 2) (aj))) (aj))) (nomark _))))))
theorem KY:FnScope ["net","pipe","faults"] ["net","pipe","faults"] (defScope iw):=⟨rfl,rfl,rfl,by decide+kernel,rfl,by decide+kernel,by decide+kernel⟩
theorem KC {nn:Bool} {P:Program} {w:World} {K:PySem.W.Frag} {mg:Str->Option Value} {base:Heap} {A:Ad} {f:Addr} {fd:FuncData} {dfs:List V} {kfs:List (Str×V)} (T:Txt K mg A) (F:FunD K "can_tell" "can_tell" (defArgs iw) (defBody iw) (defScope iw) dfs kfs f fd) (c_check_net:Fc P w K mg base ⟨false,nn,false⟩ "check_net" 1 1 (eB A)) (c_check_pipe:Fc P w K mg base ⟨false,nn,false⟩ "check_pipe" 4 2 (jA A)) (c_check_faults:Fc P w K mg base ⟨false,nn,false⟩ "check_faults" 4 1 (jX A)) (c_tells:Fc P w K mg base ⟨false,nn,false⟩ "tells" 10 3 (sX A)):
    bf ⟨false,nn,false⟩ P w K mg base 11 f fd ["net","pipe","faults"] (bh K 3 (lH A)):=by
  rw [Et]
  refine bJ F KY (λcdv Ar outer s H E pp hgd hr tk hp=>?_)
  replace hr:Room 10 (Ar.deeper (PyProof.Rows.envOfC "can_tell" (defScope iw) s.heap.objs.size f cdv)):=hr
  exact aq (eW (aB (h:=false) tk c_check_net aV hr (af (aa 0) (aj))))
    (aq (eW (aB (h:=false) tk c_check_pipe aV hr (af (aa 0) (af (aa 1) (aj)))))
    (aq (eW (aB (h:=false) tk c_check_faults aV hr (af (aa 2) (aj))))
    (au (aP (aB (h:=false) tk c_tells aV hr (af (aa 0) (af (aa 1) (af (aa 2) (aj)))))))))
theorem fz:FnScope ["_law_well_here","_law_model_here","_law_twin","_law_one","_law_two","_law_plain","_law_gauge","_law_first","_law_second","_law_bounds"] ["_law_well_here"] (defScope gc):=⟨rfl,rfl,rfl,by decide+kernel,rfl,by decide+kernel,by decide+kernel⟩
theorem I_ {nn:Bool} {P:Program} {w:World} {K:PySem.W.Frag} {mg:Str->Option Value} {base:Heap} {A:Ad} {f:Addr} {fd:FuncData} {dfs:List V} {kfs:List (Str×V)} (T:Txt K mg A) (F:FunD K "_law_right" "_law_right" (defArgs gc) (defBody gc) (defScope gc) dfs kfs f fd) (c_model_k23:Fc P w K mg base ⟨false,nn,false⟩ "_law_model" 3 3 (lW A)) (c_other_k85:Fc P w K mg base ⟨false,nn,false⟩ "_law_other" 3 2 (l8 A)) (c_Pipe_name:Pc P w K mg base nn (A.c "Pipe") "name" 1 (bE A)) (c_Meter_at:Pc P w K mg base nn (A.c "Meter") "at" 1 (cC A)) (c_Net_read:Cm P w K mg base nn (A.c "Net") "read" 7 2 (kD A)) (c_text_k23:Fc P w K mg base ⟨false,nn,false⟩ "_law_text" 1 1 (kq A)) (c_parting_flow:Fc P w K mg base ⟨false,nn,false⟩ "parting_flow" 13 2 (gM A)) (c_same_readings:Fc P w K mg base ⟨false,nn,false⟩ "same_readings" 14 2 (fV A)) (c_Net_pipe:Mt P w K mg base nn (A.c "Net") "pipe" 3 2 (jQ A)) (c_Net_meter:Mt P w K mg base nn (A.c "Net") "meter" 3 2 (kI A)) (c_strength:Fc P w K mg base ⟨false,nn,false⟩ "strength" 10 2 (lI A)) (c_faults_k26:Fc P w K mg base ⟨false,nn,false⟩ "_law_faults" 2 2 (lB A)) (c_can_tell:Fc P w K mg base ⟨false,nn,false⟩ "can_tell" 11 3 (lH A)):
    bf ⟨true,nn,false⟩ P w K mg base 15 f fd ["_law_well_here"] (bh K 1 (l7 A)):=by
  rw [Ct]
  refine bJ F fz (λcdv Ar outer s H E pp hgd hr tk hp=>?_)
  replace hr:Room 14 (Ar.deeper (PyProof.Rows.envOfC "_law_right" (defScope gc) s.heap.objs.size f cdv)):=hr
  have hgd0:=hgd rfl
  exact aq (a_ 1 fz.nd (aB (h:=false) tk c_model_k23 aV hr (af (aa 0) (af (ge_int) (af (ge_int) (aj))))))
    (aq (a_ 2 fz.nd (aB (h:=false) tk c_other_k85 aV hr (af (aa 0) (af (aa 1) (aj)))))
    (aq (xE 3 4 rfl fz.nd (af (Df tk c_Net_read hr (m9 T.m_Net) (af (aB (h:=false) tk c_text_k23 aV hr (af (aa 1) (aj))) (aj))) (af (Df tk c_Net_read hr (m9 T.m_Net) (af (aB (h:=false) tk c_text_k23 aV hr (af (aa 2) (aj))) (aj))) (aj))))
    (aq (b6 (GW.gt (kQ (aZ op_isnot_bl F6 (aB (h:=false) tk c_same_readings aV hr (af (aa 3) (af (aa 4) (aj)))) (kR) (nomark _)) (nB (aZ op_isnot_bl F6 (aB (h:=false) tk c_same_readings aV hr (af (aa 4) (af (aa 3) (aj)))) (kR) (nomark _))))) (au (aP (kR))) (bB))
    (aq (b6 (aZ op_notN BL (aB (h:=false) tk c_parting_flow aV hr (af (aa 3) (af (aa 4) (aj)))) (ff) (nomark _)) (au (aP (kR))) (bB))
    (aq (a_ 5 fz.nd (Df tk c_Net_read hr (m9 T.m_Net) (af (aB (h:=false) tk c_text_k23 aV hr (af (pq (af (aI ix_seq aJ (aa 2) (ge_int)) (af (aI ix_seq aJ (aa 2) (ge_int)) (af (fM (own:=[("_law_gauge",6)]) rfl fz.nd (dP (aI ix_seq aJ (aa 2) (ge_int))) (blkOk_by (by rfl)) (λ_ _ _ _ _=>aC 6 fz.nd) (λ_ _ _ _ _=>bV) (λ_ _ _ _ _=>fP (af (aI ix_seq aJ (aa 6) (ge_int)) (af (aI ix_seq aJ (aa 6) (ge_int)) (af (kR) (aj)))))) (aj))))) (aj))) (aj))))
    (aq (b6 (aZ op_isnot_bl F6 (aB (h:=false) tk c_same_readings aV hr (af (aa 3) (af (aa 5) (aj)))) (kR) (nomark _)) (au (aP (kR))) (bB))
    (aq (dj hp rfl (dP (aI ix_seq aJ (aa 1) (ge_int))) (aC 6 fz.nd) (aq (a_ 7 fz.nd (aO c_Pipe_name hr (jH tk c_Net_pipe hr (aa 3) (af (aO c_Meter_at hr (jH tk c_Net_meter hr (aa 3) (af (aI ix_seq aJ (aa 6) (ge_int)) (aj)))) (aj)))))
    (aq (a_ 8 fz.nd (aO c_Pipe_name hr (jH tk c_Net_pipe hr (aa 4) (af (aO c_Meter_at hr (jH tk c_Net_meter hr (aa 4) (af (aI ix_seq aJ (aa 6) (ge_int)) (aj)))) (aj)))))
    (aq (b6 (aZ (ny hr) nA (aR (EE (h:=false) hgd0 hr) Jw T.n_repr (by decide+kernel) (af (aB (h:=false) tk c_strength aV hr (af (aa 3) (af (aa 7) (aj)))) (aj))) (aR (EE (h:=false) hgd0 hr) Jw T.n_repr (by decide+kernel) (af (aB (h:=false) tk c_strength aV hr (af (aa 4) (af (aa 8) (aj)))) (aj))) (nomark _)) (au (aP (kR))) (bB))
    (aq (a_ 9 fz.nd (aB (h:=false) tk c_faults_k26 aV hr (af (aa 0) (af (ge_int) (aj)))))
    (au (b6 (aZ (ny hr) nA (aB (h:=false) tk c_can_tell aV hr (af (aa 3) (af (aa 7) (af (aa 9) (aj))))) (aB (h:=false) tk c_can_tell aV hr (af (aa 4) (af (aa 8) (af (aa 9) (aj))))) (nomark _)) (au (aP (kR))) (bB))))))))
    (au (aP (kR))))))))))
theorem E8:FnScope ["_law_script","_law_k"] ["_law_script"] (defScope jB):=⟨rfl,rfl,rfl,by decide+kernel,rfl,by decide+kernel,by decide+kernel⟩
theorem M7 {nn:Bool} {P:Program} {w:World} {K:PySem.W.Frag} {mg:Str->Option Value} {base:Heap} {A:Ad} {f:Addr} {fd:FuncData} {dfs:List V} {kfs:List (Str×V)} (T:Txt K mg A) (F:FunD K "law" "law" (defArgs jB) (defBody jB) (defScope jB) dfs kfs f fd) (c_well_k23:Fc P w K mg base ⟨false,nn,false⟩ "_law_well" 1 2 (mW A)) (c_right_k85:Fc P w K mg base ⟨true,nn,false⟩ "_law_right" 15 1 (l7 A)):
    bf ⟨true,nn,false⟩ P w K mg base 16 f fd ["_law_script"] (bh K 1 (rm A)):=by
  rw [GN]
  refine bJ F E8 (λcdv Ar outer s H E pp hgd hr tk hp=>?_)
  replace hr:Room 15 (Ar.deeper (PyProof.Rows.envOfC "law" (defScope jB) s.heap.objs.size f cdv)):=hr
  have hgd0:=hgd rfl
  exact aq (dj hp rfl (je T.n_range (af (aR (call_max2 rfl) SR T.n_max (by decide+kernel) (af (ge_int) (af (aR (call_min2 rfl) MF T.n_min (by decide+kernel) (af (aR call_len dW T.n_len (by decide+kernel) (af (aa 0) (aj))) (af (ge_int) (aj)))) (aj)))) (aj))) (aC 1 E8.nd) (au (b6 (gQ (bZ tru_ok bW (aB (h:=false) tk c_right_k85 hgd hr (af (aB (h:=false) tk c_well_k23 aV hr (af (aa 0) (af (aa 1) (aj)))) (aj))))) (au (aP (kR))) (bB))))
    (au (aP (kR)))
end K85
end
section
namespace K85
open PySem L2 RV
theorem facts {P:Program} {w:World} {K:PySem.W.Frag} {h:Heap} {mg:Str->Option Value} {f:Addr} (X:K.In h) (G:h.Ns mainGlobals mg) (hfa:mg ("law":Str)=some (.ref f)) (c:He5.SaysA fa fn K) (cx:GR K=true):
    ∃ fd:FuncData,(∀ (s:Shared) (v:Value),BindsTo s fd ⟨[v],[]⟩ [("_law_script",v)])∧∀ base:Heap,K.In base->base.Ns mainGlobals mg->bf ⟨true,false,false⟩ P w K mg base 16 f fd ["_law_script"] (bh K 1 (rm (ad K))):=by
  have kk_Pipe:nH K ((ad K).c "Pipe"):=CZ (He.cls_ok (c.fact 49 (f:=.cls "Pipe") rfl)) (eT cx 0 rfl)
  have kk_Meter:nH K ((ad K).c "Meter"):=CZ (He.cls_ok (c.fact 52 (f:=.cls "Meter") rfl)) (eT cx 4 rfl)
  have kk_Net:nH K ((ad K).c "Net"):=CZ (He.cls_ok (c.fact 55 (f:=.cls "Net") rfl)) (eT cx 8 rfl)
  have T:Txt K mg (ad K):=
    { n_abs:=He.free_ok X G (c.fact 61 (f:=.free "abs") rfl)
      n_all:=He.free_ok X G (c.fact 62 (f:=.free "all") rfl)
      n_any:=He.free_ok X G (c.fact 63 (f:=.free "any") rfl)
      n_bool:=He.free_ok X G (c.fact 64 (f:=.free "bool") rfl)
      n_divmod:=He.free_ok X G (c.fact 65 (f:=.free "divmod") rfl)
      n_enumerate:=He.free_ok X G (c.fact 66 (f:=.free "enumerate") rfl)
      n_int:=He.free_ok X G (c.fact 67 (f:=.free "int") rfl)
      n_isinstance:=He.free_ok X G (c.fact 68 (f:=.free "isinstance") rfl)
      n_len:=He.free_ok X G (c.fact 69 (f:=.free "len") rfl)
      n_list:=He.free_ok X G (c.fact 70 (f:=.free "list") rfl)
      n_max:=He.free_ok X G (c.fact 71 (f:=.free "max") rfl)
      n_min:=He.free_ok X G (c.fact 72 (f:=.free "min") rfl)
      n_range:=He.free_ok X G (c.fact 73 (f:=.free "range") rfl)
      n_repr:=He.free_ok X G (c.fact 74 (f:=.free "repr") rfl)
      n_sorted:=He.free_ok X G (c.fact 75 (f:=.free "sorted") rfl)
      n_str:=He.free_ok X G (c.fact 76 (f:=.free "str") rfl)
      n_sum:=He.free_ok X G (c.fact 77 (f:=.free "sum") rfl)
      n_tuple:=He.free_ok X G (c.fact 78 (f:=.free "tuple") rfl)
      n_zip:=He.free_ok X G (c.fact 79 (f:=.free "zip") rfl)
      g_DIGITS:=He.str_ok X G (c.fact 80 (f:=.str "DIGITS" "0123456789") rfl)
      g_LETTERS:=He.str_ok X G (c.fact 81 (f:=.str "LETTERS" "abcdefghijklmnopqrstuvwxyz") rfl)
      g_LONGEST_NAME:=He.int_ok X G (c.fact 82 (f:=.int "LONGEST_NAME" 8) rfl)
      g_MOST_FAULTS:=He.int_ok X G (c.fact 83 (f:=.int "MOST_FAULTS" 3) rfl)
      g_MOST_METERS:=He.int_ok X G (c.fact 84 (f:=.int "MOST_METERS" 12) rfl)
      g_MOST_PIPES:=He.int_ok X G (c.fact 85 (f:=.int "MOST_PIPES" 12) rfl)
      m_Pipe:=He.glo_ok X G (c.fact 48 (f:=.glo "Pipe") rfl)
      m_Meter:=He.glo_ok X G (c.fact 51 (f:=.glo "Meter") rfl)
      m_Net:=He.glo_ok X G (c.fact 54 (f:=.glo "Net") rfl)
      k_Pipe:=kk_Pipe
      k_Meter:=kk_Meter
      k_Net:=kk_Net
      no_Meter_kept:=He.noat_ok (c.fact 57 (f:=.noat "Meter" "kept") rfl)
      no_Net_fitted:=He.noat_ok (c.fact 58 (f:=.noat "Net" "fitted") rfl)
      no_Net_joined:=He.noat_ok (c.fact 59 (f:=.noat "Net" "joined") rfl)
      no_Pipe_kept:=He.noat_ok (c.fact 60 (f:=.noat "Pipe" "kept") rfl)
      own:=U6 (λn hn=>by
        simp only [ad,List.mem_cons,List.mem_nil_iff,or_false] at hn
        rcases hn with rfl | rfl | rfl
        all_goals first | exact kk_Pipe | exact kk_Meter | exact kk_Net)
      kit:=UE (eT cx 24 rfl)}
  obtain ⟨fd_well_k23,F0_well_k23⟩:=c.def_ 0 (d:=yJ) rfl
  have F_well_k23:FunD K "_law_well" "_law_well" (defArgs iu) (defBody iu) (defScope iu) [] [] (yJ.at_ K) fd_well_k23:=F0_well_k23
  have b_well_k23:Binds K fd_well_k23 ["_law_script","_law_k"] []:=F_well_k23.bindsN λ_ _ _ _ _ _ us hl=>match us,hl with | [_,_],_=>rfl
  obtain ⟨fd_dip_k23,F0_dip_k23⟩:=c.def_ 1 (d:=Ao) rfl
  have F_dip_k23:FunD K "_law_dip" "_law_dip" (defArgs jg) (defBody jg) (defScope jg) [] [] (Ao.at_ K) fd_dip_k23:=F0_dip_k23
  have b_dip_k23:Binds K fd_dip_k23 ["_law_well_here","_law_many"] []:=F_dip_k23.bindsN λ_ _ _ _ _ _ us hl=>match us,hl with | [_,_],_=>rfl
  obtain ⟨fd_names_k23,F0_names_k23⟩:=c.def_ 2 (d:=wK) rfl
  have F_names_k23:FunD K "_law_names" "_law_names" (defArgs fZ) (defBody fZ) (defScope fZ) [] [] (wK.at_ K) fd_names_k23:=F0_names_k23
  have b_names_k23:Binds K fd_names_k23 ["_law_well_here","_law_many"] []:=F_names_k23.bindsN λ_ _ _ _ _ _ us hl=>match us,hl with | [_,_],_=>rfl
  obtain ⟨fd_model_k23,F0_model_k23⟩:=c.def_ 3 (d:=vQ) rfl
  have F_model_k23:FunD K "_law_model" "_law_model" (defArgs f_) (defBody f_) (defScope f_) [] [] (vQ.at_ K) fd_model_k23:=F0_model_k23
  have b_model_k23:Binds K fd_model_k23 ["_law_well_here","_law_most","_law_more"] []:=F_model_k23.bindsN λ_ _ _ _ _ _ us hl=>match us,hl with | [_,_,_],_=>rfl
  obtain ⟨fd_shrinkable_k85,F0_shrinkable_k85⟩:=c.def_ 4 (d:=n6) rfl
  have F_shrinkable_k85:FunD K "_law_shrinkable" "_law_shrinkable" (defArgs cK) (defBody cK) (defScope cK) [] [] (n6.at_ K) fd_shrinkable_k85:=F0_shrinkable_k85
  have b_shrinkable_k85:Binds K fd_shrinkable_k85 ["_law_model_here"] []:=F_shrinkable_k85.bindsN λ_ _ _ _ _ _ us hl=>match us,hl with | [_],_=>rfl
  obtain ⟨fd_shuffled_k85,F0_shuffled_k85⟩:=c.def_ 5 (d:=qd) rfl
  have F_shuffled_k85:FunD K "_law_shuffled" "_law_shuffled" (defArgs dD) (defBody dD) (defScope dD) [] [] (qd.at_ K) fd_shuffled_k85:=F0_shuffled_k85
  have b_shuffled_k85:Binds K fd_shuffled_k85 ["_law_well_here","_law_many"] []:=F_shuffled_k85.bindsN λ_ _ _ _ _ _ us hl=>match us,hl with | [_,_],_=>rfl
  obtain ⟨fd_other_k85,F0_other_k85⟩:=c.def_ 6 (d:=wj) rfl
  have F_other_k85:FunD K "_law_other" "_law_other" (defArgs gi) (defBody gi) (defScope gi) [] [] (wj.at_ K) fd_other_k85:=F0_other_k85
  have b_other_k85:Binds K fd_other_k85 ["_law_well_here","_law_model_here"] []:=F_other_k85.bindsN λ_ _ _ _ _ _ us hl=>match us,hl with | [_,_],_=>rfl
  obtain ⟨fd_is_name,F0_is_name⟩:=c.def_ 7 (d:=A4) rfl
  have F_is_name:FunD K "is_name" "is_name" (defArgs jD) (defBody jD) (defScope jD) [] [] (A4.at_ K) fd_is_name:=F0_is_name
  have b_is_name:Binds K fd_is_name ["value"] []:=F_is_name.bindsN λ_ _ _ _ _ _ us hl=>match us,hl with | [_],_=>rfl
  obtain ⟨fd_check_name,F0_check_name⟩:=c.def_ 8 (d:=uS) rfl
  have F_check_name:FunD K "check_name" "check_name" (defArgs fq) (defBody fq) (defScope fq) [] [] (uS.at_ K) fd_check_name:=F0_check_name
  have b_check_name:Binds K fd_check_name ["value"] []:=F_check_name.bindsN λ_ _ _ _ _ _ us hl=>match us,hl with | [_],_=>rfl
  obtain ⟨fd_Pipe_init,F0_Pipe_init⟩:=c.def_ 9 (d:=wg) rfl
  have F_Pipe_init:FunD K "__init__" "Pipe.__init__" (defArgs gk) (defBody gk) (defScope gk) [] [] (wg.at_ K) fd_Pipe_init:=F0_Pipe_init
  have b_Pipe_init:Binds K fd_Pipe_init ["self","name","start","end"] []:=F_Pipe_init.bindsN λ_ _ _ _ _ _ us hl=>match us,hl with | [_,_,_,_],_=>rfl
  obtain ⟨fd_Meter_init,F0_Meter_init⟩:=c.def_ 10 (d:=uh) rfl
  have F_Meter_init:FunD K "__init__" "Meter.__init__" (defArgs fc) (defBody fc) (defScope fc) [] [("sealed",.bl false)] (uh.at_ K) fd_Meter_init:=F0_Meter_init
  obtain ⟨fd_item_of,F0_item_of⟩:=c.def_ 11 (d:=Bp) rfl
  have F_item_of:FunD K "item_of" "item_of" (defArgs jt) (defBody jt) (defScope jt) [] [] (Bp.at_ K) fd_item_of:=F0_item_of
  have b_item_of:Binds K fd_item_of ["line"] []:=F_item_of.bindsN λ_ _ _ _ _ _ us hl=>match us,hl with | [_],_=>rfl
  obtain ⟨fd_Pipe_name,F0_Pipe_name⟩:=c.def_ 12 (d:=wL) rfl
  have F_Pipe_name:FunD K "name" "Pipe.name" (defArgs gp) (defBody gp) (defScope gp) [] [] (wL.at_ K) fd_Pipe_name:=F0_Pipe_name
  have b_Pipe_name:Binds K fd_Pipe_name ["self"] []:=F_Pipe_name.bindsN λ_ _ _ _ _ _ us hl=>match us,hl with | [_],_=>rfl
  obtain ⟨fd_check_pipes,F0_check_pipes⟩:=c.def_ 13 (d:=rZ) rfl
  have F_check_pipes:FunD K "check_pipes" "check_pipes" (defArgs dX) (defBody dX) (defScope dX) [] [] (rZ.at_ K) fd_check_pipes:=F0_check_pipes
  have b_check_pipes:Binds K fd_check_pipes ["pipes"] []:=F_check_pipes.bindsN λ_ _ _ _ _ _ us hl=>match us,hl with | [_],_=>rfl
  obtain ⟨fd_Meter_name,F0_Meter_name⟩:=c.def_ 14 (d:=tE) rfl
  have F_Meter_name:FunD K "name" "Meter.name" (defArgs fF) (defBody fF) (defScope fF) [] [] (tE.at_ K) fd_Meter_name:=F0_Meter_name
  have b_Meter_name:Binds K fd_Meter_name ["self"] []:=F_Meter_name.bindsN λ_ _ _ _ _ _ us hl=>match us,hl with | [_],_=>rfl
  obtain ⟨fd_Meter_at,F0_Meter_at⟩:=c.def_ 15 (d:=yO) rfl
  have F_Meter_at:FunD K "at" "Meter.at" (defArgs iB) (defBody iB) (defScope iB) [] [] (yO.at_ K) fd_Meter_at:=F0_Meter_at
  have b_Meter_at:Binds K fd_Meter_at ["self"] []:=F_Meter_at.bindsN λ_ _ _ _ _ _ us hl=>match us,hl with | [_],_=>rfl
  obtain ⟨fd_check_meters,F0_check_meters⟩:=c.def_ 16 (d:=qE) rfl
  have F_check_meters:FunD K "check_meters" "check_meters" (defArgs dJ) (defBody dJ) (defScope dJ) [] [] (qE.at_ K) fd_check_meters:=F0_check_meters
  have b_check_meters:Binds K fd_check_meters ["meters","pipes"] []:=F_check_meters.bindsN λ_ _ _ _ _ _ us hl=>match us,hl with | [_,_],_=>rfl
  obtain ⟨fd_Net_init,F0_Net_init⟩:=c.def_ 17 (d:=yL) rfl
  have F_Net_init:FunD K "__init__" "Net.__init__" (defArgs ir) (defBody ir) (defScope ir) [.ref (He.dflAt ("Net",some "__init__") 0 K)] [] (yL.at_ K) fd_Net_init:=F0_Net_init
  obtain ⟨dz_Net_init,vz_Net_init,b0_Net_init⟩:=F_Net_init.binds1 (ps:=["self","pipes","meters"]) 3 1 (by simp) (by simp) λ_ _ _ _ _ _ _ us its hu hi=>match us,hu,its,hi with | [_,_,_],_,[_],_=>⟨_,rfl,rfl⟩
  have b_Net_init:Binds K fd_Net_init ["self","pipes","meters"] []:=by cases vz_Net_init; exact b0_Net_init
  obtain ⟨fd_Pipe_start,F0_Pipe_start⟩:=c.def_ 18 (d:=uQ) rfl
  have F_Pipe_start:FunD K "start" "Pipe.start" (defArgs e8) (defBody e8) (defScope e8) [] [] (uQ.at_ K) fd_Pipe_start:=F0_Pipe_start
  have b_Pipe_start:Binds K fd_Pipe_start ["self"] []:=F_Pipe_start.bindsN λ_ _ _ _ _ _ us hl=>match us,hl with | [_],_=>rfl
  obtain ⟨fd_Pipe_end,F0_Pipe_end⟩:=c.def_ 19 (d:=yd) rfl
  have F_Pipe_end:FunD K "end" "Pipe.end" (defArgs iJ) (defBody iJ) (defScope iJ) [] [] (yd.at_ K) fd_Pipe_end:=F0_Pipe_end
  have b_Pipe_end:Binds K fd_Pipe_end ["self"] []:=F_Pipe_end.bindsN λ_ _ _ _ _ _ us hl=>match us,hl with | [_],_=>rfl
  obtain ⟨fd_Meter_sealed,F0_Meter_sealed⟩:=c.def_ 20 (d:=qu) rfl
  have F_Meter_sealed:FunD K "sealed" "Meter.sealed" (defArgs dI) (defBody dI) (defScope dI) [] [] (qu.at_ K) fd_Meter_sealed:=F0_Meter_sealed
  have b_Meter_sealed:Binds K fd_Meter_sealed ["self"] []:=F_Meter_sealed.bindsN λ_ _ _ _ _ _ us hl=>match us,hl with | [_],_=>rfl
  obtain ⟨fd_line_of,F0_line_of⟩:=c.def_ 21 (d:=AX) rfl
  have F_line_of:FunD K "line_of" "line_of" (defArgs jq) (defBody jq) (defScope jq) [] [] (AX.at_ K) fd_line_of:=F0_line_of
  have b_line_of:Binds K fd_line_of ["item"] []:=F_line_of.bindsN λ_ _ _ _ _ _ us hl=>match us,hl with | [_],_=>rfl
  obtain ⟨fd_Net_str,F0_Net_str⟩:=c.def_ 22 (d:=Av) rfl
  have F_Net_str:FunD K "__str__" "Net.__str__" (defArgs jj) (defBody jj) (defScope jj) [] [] (Av.at_ K) fd_Net_str:=F0_Net_str
  have b_Net_str:Binds K fd_Net_str ["self"] []:=F_Net_str.bindsN λ_ _ _ _ _ _ us hl=>match us,hl with | [_],_=>rfl
  obtain ⟨fd_Net_read,F0_Net_read⟩:=c.def_ 23 (d:=yh) rfl
  have F_Net_read:FunD K "read" "Net.read" (defArgs iL) (defBody iL) (defScope iL) [] [] (yh.at_ K) fd_Net_read:=F0_Net_read
  have b_Net_read:Binds K fd_Net_read ["cls","text"] []:=F_Net_read.bindsN λ_ _ _ _ _ _ us hl=>match us,hl with | [_,_],_=>rfl
  obtain ⟨fd_text_k23,F0_text_k23⟩:=c.def_ 24 (d:=yz) rfl
  have F_text_k23:FunD K "_law_text" "_law_text" (defArgs iI) (defBody iI) (defScope iI) [] [] (yz.at_ K) fd_text_k23:=F0_text_k23
  have b_text_k23:Binds K fd_text_k23 ["_law_model_here"] []:=F_text_k23.bindsN λ_ _ _ _ _ _ us hl=>match us,hl with | [_],_=>rfl
  obtain ⟨fd_check_net,F0_check_net⟩:=c.def_ 25 (d:=we) rfl
  have F_check_net:FunD K "check_net" "check_net" (defArgs gb) (defBody gb) (defScope gb) [] [] (we.at_ K) fd_check_net:=F0_check_net
  have b_check_net:Binds K fd_check_net ["value"] []:=F_check_net.bindsN λ_ _ _ _ _ _ us hl=>match us,hl with | [_],_=>rfl
  obtain ⟨fd_Net_meters,F0_Net_meters⟩:=c.def_ 26 (d:=tW) rfl
  have F_Net_meters:FunD K "meters" "Net.meters" (defArgs e9) (defBody e9) (defScope e9) [] [] (tW.at_ K) fd_Net_meters:=F0_Net_meters
  have b_Net_meters:Binds K fd_Net_meters ["self"] []:=F_Net_meters.bindsN λ_ _ _ _ _ _ us hl=>match us,hl with | [_],_=>rfl
  obtain ⟨fd_check_names,F0_check_names⟩:=c.def_ 27 (d:=rL) rfl
  have F_check_names:FunD K "check_names" "check_names" (defArgs dZ) (defBody dZ) (defScope dZ) [] [] (rL.at_ K) fd_check_names:=F0_check_names
  have b_check_names:Binds K fd_check_names ["net","other"] []:=F_check_names.bindsN λ_ _ _ _ _ _ us hl=>match us,hl with | [_,_],_=>rfl
  obtain ⟨fd_Net_pipes,F0_Net_pipes⟩:=c.def_ 28 (d:=wm) rfl
  have F_Net_pipes:FunD K "pipes" "Net.pipes" (defArgs f7) (defBody f7) (defScope f7) [] [] (wm.at_ K) fd_Net_pipes:=F0_Net_pipes
  have b_Net_pipes:Binds K fd_Net_pipes ["self"] []:=F_Net_pipes.bindsN λ_ _ _ _ _ _ us hl=>match us,hl with | [_],_=>rfl
  obtain ⟨fd_Net_places,F0_Net_places⟩:=c.def_ 29 (d:=uK) rfl
  have F_Net_places:FunD K "places" "Net.places" (defArgs e_) (defBody e_) (defScope e_) [] [] (uK.at_ K) fd_Net_places:=F0_Net_places
  have b_Net_places:Binds K fd_Net_places ["self"] []:=F_Net_places.bindsN λ_ _ _ _ _ _ us hl=>match us,hl with | [_],_=>rfl
  obtain ⟨fd_Net_ends,F0_Net_ends⟩:=c.def_ 30 (d:=yo) rfl
  have F_Net_ends:FunD K "ends" "Net.ends" (defArgs iH) (defBody iH) (defScope iH) [] [] (yo.at_ K) fd_Net_ends:=F0_Net_ends
  have b_Net_ends:Binds K fd_Net_ends ["self"] []:=F_Net_ends.bindsN λ_ _ _ _ _ _ us hl=>match us,hl with | [_],_=>rfl
  obtain ⟨fd_components,F0_components⟩:=c.def_ 31 (d:=uW) rfl
  have F_components:FunD K "components" "components" (defArgs fC) (defBody fC) (defScope fC) [] [] (uW.at_ K) fd_components:=F0_components
  have b_components:Binds K fd_components ["net","keep"] []:=F_components.bindsN λ_ _ _ _ _ _ us hl=>match us,hl with | [_,_],_=>rfl
  obtain ⟨fd_forest,F0_forest⟩:=c.def_ 32 (d:=Dk) rfl
  have F_forest:FunD K "forest" "forest" (defArgs j3) (defBody j3) (defScope j3) [] [] (Dk.at_ K) fd_forest:=F0_forest
  have b_forest:Binds K fd_forest ["net","keep"] []:=F_forest.bindsN λ_ _ _ _ _ _ us hl=>match us,hl with | [_,_],_=>rfl
  obtain ⟨fd_sent_out,F0_sent_out⟩:=c.def_ 33 (d:=yu) rfl
  have F_sent_out:FunD K "sent_out" "sent_out" (defArgs iG) (defBody iG) (defScope iG) [] [] (yu.at_ K) fd_sent_out:=F0_sent_out
  have b_sent_out:Binds K fd_sent_out ["net","numbers","inside"] []:=F_sent_out.bindsN λ_ _ _ _ _ _ us hl=>match us,hl with | [_,_,_],_=>rfl
  obtain ⟨fd_is_balanced,F0_is_balanced⟩:=c.def_ 34 (d:=rV) rfl
  have F_is_balanced:FunD K "is_balanced" "is_balanced" (defArgs d8) (defBody d8) (defScope d8) [] [] (rV.at_ K) fd_is_balanced:=F0_is_balanced
  have b_is_balanced:Binds K fd_is_balanced ["net","numbers"] []:=F_is_balanced.bindsN λ_ _ _ _ _ _ us hl=>match us,hl with | [_,_],_=>rfl
  obtain ⟨fd_completed,F0_completed⟩:=c.def_ 35 (d:=wc) rfl
  have F_completed:FunD K "completed" "completed" (defArgs f9) (defBody f9) (defScope f9) [] [] (wc.at_ K) fd_completed:=F0_completed
  have b_completed:Binds K fd_completed ["net","known"] []:=F_completed.bindsN λ_ _ _ _ _ _ us hl=>match us,hl with | [_,_],_=>rfl
  obtain ⟨fd_ring_flows,F0_ring_flows⟩:=c.def_ 36 (d:=tM) rfl
  have F_ring_flows:FunD K "ring_flows" "ring_flows" (defArgs fj) (defBody fj) (defScope fj) [] [] (tM.at_ K) fd_ring_flows:=F0_ring_flows
  have b_ring_flows:Binds K fd_ring_flows ["net"] []:=F_ring_flows.bindsN λ_ _ _ _ _ _ us hl=>match us,hl with | [_],_=>rfl
  obtain ⟨fd_Net_len,F0_Net_len⟩:=c.def_ 37 (d:=Ag) rfl
  have F_Net_len:FunD K "__len__" "Net.__len__" (defArgs jy) (defBody jy) (defScope jy) [] [] (Ag.at_ K) fd_Net_len:=F0_Net_len
  have b_Net_len:Binds K fd_Net_len ["self"] []:=F_Net_len.bindsN λ_ _ _ _ _ _ us hl=>match us,hl with | [_],_=>rfl
  obtain ⟨fd_is_integer,F0_is_integer⟩:=c.def_ 38 (d:=tV) rfl
  have F_is_integer:FunD K "is_integer" "is_integer" (defArgs fB) (defBody fB) (defScope fB) [] [] (tV.at_ K) fd_is_integer:=F0_is_integer
  have b_is_integer:Binds K fd_is_integer ["value"] []:=F_is_integer.bindsN λ_ _ _ _ _ _ us hl=>match us,hl with | [_],_=>rfl
  obtain ⟨fd_has_flow,F0_has_flow⟩:=c.def_ 39 (d:=xV) rfl
  have F_has_flow:FunD K "has_flow" "has_flow" (defArgs ig) (defBody ig) (defScope ig) [] [] (xV.at_ K) fd_has_flow:=F0_has_flow
  have b_has_flow:Binds K fd_has_flow ["net","value"] []:=F_has_flow.bindsN λ_ _ _ _ _ _ us hl=>match us,hl with | [_,_],_=>rfl
  obtain ⟨fd_check_flow,F0_check_flow⟩:=c.def_ 40 (d:=uR) rfl
  have F_check_flow:FunD K "check_flow" "check_flow" (defArgs fk) (defBody fk) (defScope fk) [] [] (uR.at_ K) fd_check_flow:=F0_check_flow
  have b_check_flow:Binds K fd_check_flow ["net","value"] []:=F_check_flow.bindsN λ_ _ _ _ _ _ us hl=>match us,hl with | [_,_],_=>rfl
  obtain ⟨fd_Net_number_of,F0_Net_number_of⟩:=c.def_ 41 (d:=pN) rfl
  have F_Net_number_of:FunD K "number_of" "Net.number_of" (defArgs dc) (defBody dc) (defScope dc) [] [] (pN.at_ K) fd_Net_number_of:=F0_Net_number_of
  have b_Net_number_of:Binds K fd_Net_number_of ["self","name"] []:=F_Net_number_of.bindsN λ_ _ _ _ _ _ us hl=>match us,hl with | [_,_],_=>rfl
  obtain ⟨fd_shown_with,F0_shown_with⟩:=c.def_ 42 (d:=uA) rfl
  have F_shown_with:FunD K "shown_with" "shown_with" (defArgs fh) (defBody fh) (defScope fh) [] [] (uA.at_ K) fd_shown_with:=F0_shown_with
  have b_shown_with:Binds K fd_shown_with ["net","flow"] []:=F_shown_with.bindsN λ_ _ _ _ _ _ us hl=>match us,hl with | [_,_],_=>rfl
  obtain ⟨fd_readings_of,F0_readings_of⟩:=c.def_ 43 (d:=rS) rfl
  have F_readings_of:FunD K "readings_of" "readings_of" (defArgs d9) (defBody d9) (defScope d9) [] [] (rS.at_ K) fd_readings_of:=F0_readings_of
  have b_readings_of:Binds K fd_readings_of ["net","flow"] []:=F_readings_of.bindsN λ_ _ _ _ _ _ us hl=>match us,hl with | [_,_],_=>rfl
  obtain ⟨fd_by_names,F0_by_names⟩:=c.def_ 44 (d:=xX) rfl
  have F_by_names:FunD K "by_names" "by_names" (defArgs iK) (defBody iK) (defScope iK) [] [] (xX.at_ K) fd_by_names:=F0_by_names
  have b_by_names:Binds K fd_by_names ["net","readings"] []:=F_by_names.bindsN λ_ _ _ _ _ _ us hl=>match us,hl with | [_,_],_=>rfl
  obtain ⟨fd_carried_over,F0_carried_over⟩:=c.def_ 45 (d:=pZ) rfl
  have F_carried_over:FunD K "carried_over" "carried_over" (defArgs dF) (defBody dF) (defScope dF) [] [] (pZ.at_ K) fd_carried_over:=F0_carried_over
  have b_carried_over:Binds K fd_carried_over ["net","flow","other"] []:=F_carried_over.bindsN λ_ _ _ _ _ _ us hl=>match us,hl with | [_,_,_],_=>rfl
  obtain ⟨fd_known_numbers,F0_known_numbers⟩:=c.def_ 46 (d:=pI) rfl
  have F_known_numbers:FunD K "known_numbers" "known_numbers" (defArgs cY) (defBody cY) (defScope cY) [] [] (pI.at_ K) fd_known_numbers:=F0_known_numbers
  have b_known_numbers:Binds K fd_known_numbers ["net","readings","out"] []:=F_known_numbers.bindsN λ_ _ _ _ _ _ us hl=>match us,hl with | [_,_,_],_=>rfl
  obtain ⟨fd_partner,F0_partner⟩:=c.def_ 47 (d:=zW) rfl
  have F_partner:FunD K "partner" "partner" (defArgs jk) (defBody jk) (defScope jk) [] [] (zW.at_ K) fd_partner:=F0_partner
  have b_partner:Binds K fd_partner ["net","flow","other"] []:=F_partner.bindsN λ_ _ _ _ _ _ us hl=>match us,hl with | [_,_,_],_=>rfl
  obtain ⟨fd_parting_flow,F0_parting_flow⟩:=c.def_ 48 (d:=qo) rfl
  have F_parting_flow:FunD K "parting_flow" "parting_flow" (defArgs dz) (defBody dz) (defScope dz) [] [] (qo.at_ K) fd_parting_flow:=F0_parting_flow
  have b_parting_flow:Binds K fd_parting_flow ["net","other"] []:=F_parting_flow.bindsN λ_ _ _ _ _ _ us hl=>match us,hl with | [_,_],_=>rfl
  obtain ⟨fd_same_readings,F0_same_readings⟩:=c.def_ 49 (d:=oV) rfl
  have F_same_readings:FunD K "same_readings" "same_readings" (defArgs dg) (defBody dg) (defScope dg) [] [] (oV.at_ K) fd_same_readings:=F0_same_readings
  have b_same_readings:Binds K fd_same_readings ["net","other"] []:=F_same_readings.bindsN λ_ _ _ _ _ _ us hl=>match us,hl with | [_,_],_=>rfl
  obtain ⟨fd_Net_pipe,F0_Net_pipe⟩:=c.def_ 50 (d:=yV) rfl
  have F_Net_pipe:FunD K "pipe" "Net.pipe" (defArgs iF) (defBody iF) (defScope iF) [] [] (yV.at_ K) fd_Net_pipe:=F0_Net_pipe
  have b_Net_pipe:Binds K fd_Net_pipe ["self","name"] []:=F_Net_pipe.bindsN λ_ _ _ _ _ _ us hl=>match us,hl with | [_,_],_=>rfl
  obtain ⟨fd_Net_meter,F0_Net_meter⟩:=c.def_ 51 (d:=wJ) rfl
  have F_Net_meter:FunD K "meter" "Net.meter" (defArgs gj) (defBody gj) (defScope gj) [] [] (wJ.at_ K) fd_Net_meter:=F0_Net_meter
  have b_Net_meter:Binds K fd_Net_meter ["self","name"] []:=F_Net_meter.bindsN λ_ _ _ _ _ _ us hl=>match us,hl with | [_,_],_=>rfl
  obtain ⟨fd_check_pipe,F0_check_pipe⟩:=c.def_ 52 (d:=tS) rfl
  have F_check_pipe:FunD K "check_pipe" "check_pipe" (defArgs fH) (defBody fH) (defScope fH) [] [] (tS.at_ K) fd_check_pipe:=F0_check_pipe
  have b_check_pipe:Binds K fd_check_pipe ["net","value"] []:=F_check_pipe.bindsN λ_ _ _ _ _ _ us hl=>match us,hl with | [_,_],_=>rfl
  obtain ⟨fd_Net_meters_at,F0_Net_meters_at⟩:=c.def_ 53 (d:=pM) rfl
  have F_Net_meters_at:FunD K "meters_at" "Net.meters_at" (defArgs c_) (defBody c_) (defScope c_) [] [] (pM.at_ K) fd_Net_meters_at:=F0_Net_meters_at
  have b_Net_meters_at:Binds K fd_Net_meters_at ["self","name"] []:=F_Net_meters_at.bindsN λ_ _ _ _ _ _ us hl=>match us,hl with | [_,_],_=>rfl
  obtain ⟨fd_Net_has_seal,F0_Net_has_seal⟩:=c.def_ 54 (d:=qh) rfl
  have F_Net_has_seal:FunD K "has_seal" "Net.has_seal" (defArgs dM) (defBody dM) (defScope dM) [] [] (qh.at_ K) fd_Net_has_seal:=F0_Net_has_seal
  have b_Net_has_seal:Binds K fd_Net_has_seal ["self","name"] []:=F_Net_has_seal.bindsN λ_ _ _ _ _ _ us hl=>match us,hl with | [_,_],_=>rfl
  obtain ⟨fd_lengths_beside,F0_lengths_beside⟩:=c.def_ 55 (d:=nW) rfl
  have F_lengths_beside:FunD K "lengths_beside" "lengths_beside" (defArgs cJ) (defBody cJ) (defScope cJ) [] [] (nW.at_ K) fd_lengths_beside:=F0_lengths_beside
  have b_lengths_beside:Binds K fd_lengths_beside ["net","pipe"] []:=F_lengths_beside.bindsN λ_ _ _ _ _ _ us hl=>match us,hl with | [_,_],_=>rfl
  obtain ⟨fd_lower,F0_lower⟩:=c.def_ 56 (d:=GC) rfl
  have F_lower:FunD K "lower" "lower" (defArgs k8) (defBody k8) (defScope k8) [] [] (GC.at_ K) fd_lower:=F0_lower
  have b_lower:Binds K fd_lower ["found","start","end","length"] []:=F_lower.bindsN λ_ _ _ _ _ _ us hl=>match us,hl with | [_,_,_,_],_=>rfl
  obtain ⟨fd_distances,F0_distances⟩:=c.def_ 57 (d:=wH) rfl
  have F_distances:FunD K "distances" "distances" (defArgs gm) (defBody gm) (defScope gm) [] [] (wH.at_ K) fd_distances:=F0_distances
  have b_distances:Binds K fd_distances ["net","source","lengths"] []:=F_distances.bindsN λ_ _ _ _ _ _ us hl=>match us,hl with | [_,_,_],_=>rfl
  obtain ⟨fd_distances_beside,F0_distances_beside⟩:=c.def_ 58 (d:=mJ) rfl
  have F_distances_beside:FunD K "distances_beside" "distances_beside" (defArgs bY) (defBody bY) (defScope bY) [] [] (mJ.at_ K) fd_distances_beside:=F0_distances_beside
  have b_distances_beside:Binds K fd_distances_beside ["net","pipe"] []:=F_distances_beside.bindsN λ_ _ _ _ _ _ us hl=>match us,hl with | [_,_],_=>rfl
  obtain ⟨fd_strength_of,F0_strength_of⟩:=c.def_ 59 (d:=rE) rfl
  have F_strength_of:FunD K "strength_of" "strength_of" (defArgs d_) (defBody d_) (defScope d_) [] [] (rE.at_ K) fd_strength_of:=F0_strength_of
  have b_strength_of:Binds K fd_strength_of ["net","pipe"] []:=F_strength_of.bindsN λ_ _ _ _ _ _ us hl=>match us,hl with | [_,_],_=>rfl
  obtain ⟨fd_strength,F0_strength⟩:=c.def_ 60 (d:=yQ) rfl
  have F_strength:FunD K "strength" "strength" (defArgs iD) (defBody iD) (defScope iD) [] [] (yQ.at_ K) fd_strength:=F0_strength
  have b_strength:Binds K fd_strength ["net","pipe"] []:=F_strength.bindsN λ_ _ _ _ _ _ us hl=>match us,hl with | [_,_],_=>rfl
  obtain ⟨fd_faults_k26,F0_faults_k26⟩:=c.def_ 61 (d:=tD) rfl
  have F_faults_k26:FunD K "_law_faults" "_law_faults" (defArgs fu) (defBody fu) (defScope fu) [] [] (tD.at_ K) fd_faults_k26:=F0_faults_k26
  have b_faults_k26:Binds K fd_faults_k26 ["_law_well_here","_law_most"] []:=F_faults_k26.bindsN λ_ _ _ _ _ _ us hl=>match us,hl with | [_,_],_=>rfl
  obtain ⟨fd_is_small,F0_is_small⟩:=c.def_ 62 (d:=yC) rfl
  have F_is_small:FunD K "is_small" "is_small" (defArgs iz) (defBody iz) (defScope iz) [] [] (yC.at_ K) fd_is_small:=F0_is_small
  have b_is_small:Binds K fd_is_small ["value"] []:=F_is_small.bindsN λ_ _ _ _ _ _ us hl=>match us,hl with | [_],_=>rfl
  obtain ⟨fd_are_faults,F0_are_faults⟩:=c.def_ 63 (d:=uz) rfl
  have F_are_faults:FunD K "are_faults" "are_faults" (defArgs fG) (defBody fG) (defScope fG) [] [] (uz.at_ K) fd_are_faults:=F0_are_faults
  have b_are_faults:Binds K fd_are_faults ["value"] []:=F_are_faults.bindsN λ_ _ _ _ _ _ us hl=>match us,hl with | [_],_=>rfl
  obtain ⟨fd_check_faults,F0_check_faults⟩:=c.def_ 64 (d:=pV) rfl
  have F_check_faults:FunD K "check_faults" "check_faults" (defArgs dO) (defBody dO) (defScope dO) [] [] (pV.at_ K) fd_check_faults:=F0_check_faults
  have b_check_faults:Binds K fd_check_faults ["value"] []:=F_check_faults.bindsN λ_ _ _ _ _ _ us hl=>match us,hl with | [_],_=>rfl
  obtain ⟨fd_tells,F0_tells⟩:=c.def_ 65 (d:=Gj) rfl
  have F_tells:FunD K "tells" "tells" (defArgs kX) (defBody kX) (defScope kX) [] [] (Gj.at_ K) fd_tells:=F0_tells
  have b_tells:Binds K fd_tells ["net","pipe","faults"] []:=F_tells.bindsN λ_ _ _ _ _ _ us hl=>match us,hl with | [_,_,_],_=>rfl
  obtain ⟨fd_can_tell,F0_can_tell⟩:=c.def_ 66 (d:=yS) rfl
  have F_can_tell:FunD K "can_tell" "can_tell" (defArgs iw) (defBody iw) (defScope iw) [] [] (yS.at_ K) fd_can_tell:=F0_can_tell
  have b_can_tell:Binds K fd_can_tell ["net","pipe","faults"] []:=F_can_tell.bindsN λ_ _ _ _ _ _ us hl=>match us,hl with | [_,_,_],_=>rfl
  obtain ⟨fd_right_k85,F0_right_k85⟩:=c.def_ 67 (d:=wM) rfl
  have F_right_k85:FunD K "_law_right" "_law_right" (defArgs gc) (defBody gc) (defScope gc) [] [] (wM.at_ K) fd_right_k85:=F0_right_k85
  have b_right_k85:Binds K fd_right_k85 ["_law_well_here"] []:=F_right_k85.bindsN λ_ _ _ _ _ _ us hl=>match us,hl with | [_],_=>rfl
  obtain ⟨fd_law_k85,F0_law_k85⟩:=c.def_ 68 (d:=AG) rfl
  have F_law_k85:FunD K "law" "law" (defArgs jB) (defBody jB) (defScope jB) [] [] (AG.at_ K) fd_law_k85:=F0_law_k85
  have b_law_k85:Binds K fd_law_k85 ["_law_script"] []:=F_law_k85.bindsN λ_ _ _ _ _ _ us hl=>match us,hl with | [_],_=>rfl
  have e:=hfa.symm.trans (He.glo_ok X G (c.fact 47 (f:=.glo "law") rfl))
  cases e
  have bA:=FunD.bindsA (ps:=["_law_script"]) F_law_k85 λ_ _ _ _ _ _ us hl=>match us,hl with | [_],_=>rfl
  refine ⟨fd_law_k85,λs v=>bA s [v] rfl,λbase _ _=>?_⟩
  have ok0_well_k23:=Ld (nn:=false) (P:=P) (w:=w) (base:=base) T F_well_k23
  have c_well_k23:Fc P w K mg base ⟨false,false,false⟩ "_law_well" 1 2 (mW (ad K)):=⟨_,fd_well_k23,["_law_script","_law_k"],ok0_well_k23,b_well_k23,F_well_k23.kp,He.glo_ok X G (c.fact 0 (f:=.glo "_law_well") rfl)⟩
  have ok0_dip_k23:=Nv (nn:=false) (P:=P) (w:=w) (base:=base) T F_dip_k23
  have c_dip_k23:Fc P w K mg base ⟨false,false,false⟩ "_law_dip" 1 2 (bI (ad K)):=⟨_,fd_dip_k23,["_law_well_here","_law_many"],ok0_dip_k23,b_dip_k23,F_dip_k23.kp,He.glo_ok X G (c.fact 1 (f:=.glo "_law_dip") rfl)⟩
  have ok0_names_k23:=IY (nn:=false) (P:=P) (w:=w) (base:=base) T F_names_k23 c_dip_k23
  have c_names_k23:Fc P w K mg base ⟨false,false,false⟩ "_law_names" 2 2 (fK (ad K)):=⟨_,fd_names_k23,["_law_well_here","_law_many"],ok0_names_k23,b_names_k23,F_names_k23.kp,He.glo_ok X G (c.fact 2 (f:=.glo "_law_names") rfl)⟩
  have ok0_model_k23:=JB (nn:=false) (P:=P) (w:=w) (base:=base) T F_model_k23 c_dip_k23 c_names_k23
  have c_model_k23:Fc P w K mg base ⟨false,false,false⟩ "_law_model" 3 3 (lW (ad K)):=⟨_,fd_model_k23,["_law_well_here","_law_most","_law_more"],ok0_model_k23,b_model_k23,F_model_k23.kp,He.glo_ok X G (c.fact 3 (f:=.glo "_law_model") rfl)⟩
  have ok0_shrinkable_k85:=BZ (nn:=false) (P:=P) (w:=w) (base:=base) T F_shrinkable_k85
  have c_shrinkable_k85:Fc P w K mg base ⟨false,false,false⟩ "_law_shrinkable" 1 1 (i_ (ad K)):=⟨_,fd_shrinkable_k85,["_law_model_here"],ok0_shrinkable_k85,b_shrinkable_k85,F_shrinkable_k85.kp,He.glo_ok X G (c.fact 4 (f:=.glo "_law_shrinkable") rfl)⟩
  have ok0_shuffled_k85:=Fd (nn:=false) (P:=P) (w:=w) (base:=base) T F_shuffled_k85 c_dip_k23
  have c_shuffled_k85:Fc P w K mg base ⟨false,false,false⟩ "_law_shuffled" 2 2 (i8 (ad K)):=⟨_,fd_shuffled_k85,["_law_well_here","_law_many"],ok0_shuffled_k85,b_shuffled_k85,F_shuffled_k85.kp,He.glo_ok X G (c.fact 5 (f:=.glo "_law_shuffled") rfl)⟩
  have ok0_other_k85:=J_ (nn:=false) (P:=P) (w:=w) (base:=base) T F_other_k85 c_dip_k23 c_names_k23 c_shrinkable_k85 c_shuffled_k85
  have c_other_k85:Fc P w K mg base ⟨false,false,false⟩ "_law_other" 3 2 (l8 (ad K)):=⟨_,fd_other_k85,["_law_well_here","_law_model_here"],ok0_other_k85,b_other_k85,F_other_k85.kp,He.glo_ok X G (c.fact 6 (f:=.glo "_law_other") rfl)⟩
  have ok0_is_name:=M5 (nn:=false) (P:=P) (w:=w) (base:=base) T F_is_name
  have c_is_name:Fc P w K mg base ⟨false,false,false⟩ "is_name" 1 1 (oA (ad K)):=⟨_,fd_is_name,["value"],ok0_is_name,b_is_name,F_is_name.kp,He.glo_ok X G (c.fact 7 (f:=.glo "is_name") rfl)⟩
  have ok0_check_name:=H_ (nn:=false) (P:=P) (w:=w) (base:=base) T F_check_name c_is_name
  have c_check_name:Fc P w K mg base ⟨false,false,false⟩ "check_name" 2 1 (fE (ad K)):=⟨_,fd_check_name,["value"],ok0_check_name,b_check_name,F_check_name.kp,He.glo_ok X G (c.fact 8 (f:=.glo "check_name") rfl)⟩
  have ok0_Pipe_init:=JJ (nn:=false) (P:=P) (w:=w) (base:=base) T F_Pipe_init c_check_name
  have mk_Pipe_3:Mc P w K mg base false "Pipe" ((ad K).c "Pipe") 3 4 (lY (ad K)) []:=⟨_,fd_Pipe_init,["self","name","start","end"],[],[],He.mkr_ok (c.fact 50 (f:=.mkr "Pipe") rfl),ok0_Pipe_init,b_Pipe_init,.nil,λ_ _=>.nil,T.m_Pipe⟩
  have ok0_Meter_init:=HX (nn:=false) (P:=P) (w:=w) (base:=base) T F_Meter_init c_check_name
  have mk_Meter_2_sealed:Su P w K mg base false "Meter" ((ad K).c "Meter") 3 4 2 ["sealed"] (k_ (ad K)) (perm [0]):=Vs 2 ["sealed"] [0] F_Meter_init (He.mkr_ok (c.fact 53 (f:=.mkr "Meter") rfl)) ok0_Meter_init T.m_Meter λ_ _ _ _ _ _ us ws hu hw=>match us,hu,ws,hw with | [_,_,_],_,[_],_=>rfl
  have ok0_item_of:=Nd (nn:=false) (P:=P) (w:=w) (base:=base) T F_item_of mk_Meter_2_sealed mk_Pipe_3
  have c_item_of:Fc P w K mg base ⟨false,false,false⟩ "item_of" 5 1 (mQ (ad K)):=⟨_,fd_item_of,["line"],ok0_item_of,b_item_of,F_item_of.kp,He.glo_ok X G (c.fact 9 (f:=.glo "item_of") rfl)⟩
  have ok0_Pipe_name:=J0 (nn:=false) (P:=P) (w:=w) (base:=base) T F_Pipe_name
  have c_Pipe_name:Pc P w K mg base false ((ad K).c "Pipe") "name" 1 (bE (ad K)):=⟨_,_,fd_Pipe_name,["self"],T.k_Pipe.cl,kN (eT cx 1 rfl),ok0_Pipe_name,b_Pipe_name⟩
  have ok0_check_pipes:=Gz (nn:=false) (P:=P) (w:=w) (base:=base) T F_check_pipes c_Pipe_name
  have c_check_pipes:Fc P w K mg base ⟨false,false,false⟩ "check_pipes" 3 1 (kh (ad K)):=⟨_,fd_check_pipes,["pipes"],ok0_check_pipes,b_check_pipes,F_check_pipes.kp,He.glo_ok X G (c.fact 10 (f:=.glo "check_pipes") rfl)⟩
  have ok0_Meter_name:=HH (nn:=false) (P:=P) (w:=w) (base:=base) T F_Meter_name
  have c_Meter_name:Pc P w K mg base false ((ad K).c "Meter") "name" 1 (bD (ad K)):=⟨_,_,fd_Meter_name,["self"],T.k_Meter.cl,kN (eT cx 5 rfl),ok0_Meter_name,b_Meter_name⟩
  have ok0_Meter_at:=KP (nn:=false) (P:=P) (w:=w) (base:=base) T F_Meter_at
  have c_Meter_at:Pc P w K mg base false ((ad K).c "Meter") "at" 1 (cC (ad K)):=⟨_,_,fd_Meter_at,["self"],T.k_Meter.cl,kN (eT cx 6 rfl),ok0_Meter_at,b_Meter_at⟩
  have ok0_check_meters:=EL (nn:=false) (P:=P) (w:=w) (base:=base) T F_check_meters c_Pipe_name c_Meter_name c_Meter_at
  have c_check_meters:Fc P w K mg base ⟨false,false,false⟩ "check_meters" 3 2 (jV (ad K)):=⟨_,fd_check_meters,["meters","pipes"],ok0_check_meters,b_check_meters,F_check_meters.kp,He.glo_ok X G (c.fact 11 (f:=.glo "check_meters") rfl)⟩
  have ok0_Net_init:=KD (nn:=false) (P:=P) (w:=w) (base:=base) T F_Net_init c_check_pipes c_check_meters
  have mk_Net_2:Mc P w K mg base false "Net" ((ad K).c "Net") 4 3 (nc (ad K)) []:=⟨_,fd_Net_init,["self","pipes","meters"],[],[],He.mkr_ok (c.fact 56 (f:=.mkr "Net") rfl),ok0_Net_init,b_Net_init,.nil,λ_ _=>.nil,T.m_Net⟩
  have ok0_Pipe_start:=Io (nn:=false) (P:=P) (w:=w) (base:=base) T F_Pipe_start
  have c_Pipe_start:Pc P w K mg base false ((ad K).c "Pipe") "start" 1 (dB (ad K)):=⟨_,_,fd_Pipe_start,["self"],T.k_Pipe.cl,kN (eT cx 2 rfl),ok0_Pipe_start,b_Pipe_start⟩
  have ok0_Pipe_end:=KU (nn:=false) (P:=P) (w:=w) (base:=base) T F_Pipe_end
  have c_Pipe_end:Pc P w K mg base false ((ad K).c "Pipe") "end" 1 (fL (ad K)):=⟨_,_,fd_Pipe_end,["self"],T.k_Pipe.cl,kN (eT cx 3 rfl),ok0_Pipe_end,b_Pipe_end⟩
  have ok0_Meter_sealed:=DO (nn:=false) (P:=P) (w:=w) (base:=base) T F_Meter_sealed
  have c_Meter_sealed:Pc P w K mg base false ((ad K).c "Meter") "sealed" 1 (fN (ad K)):=⟨_,_,fd_Meter_sealed,["self"],T.k_Meter.cl,kN (eT cx 7 rfl),ok0_Meter_sealed,b_Meter_sealed⟩
  have ok0_line_of:=M3 (nn:=false) (P:=P) (w:=w) (base:=base) T F_line_of c_Pipe_name c_Meter_name c_Meter_at c_Pipe_start c_Pipe_end c_Meter_sealed
  have c_line_of:Fc P w K mg base ⟨false,false,false⟩ "line_of" 3 1 (mF (ad K)):=⟨_,fd_line_of,["item"],ok0_line_of,b_line_of,F_line_of.kp,He.glo_ok X G (c.fact 12 (f:=.glo "line_of") rfl)⟩
  have ok0_Net_str:=Oh (nn:=false) (P:=P) (w:=w) (base:=base) T F_Net_str c_line_of
  have c_Net_str:Sc P w K mg base false ((ad K).c "Net") "__str__" 4 1 (mO (ad K)):=R9 (eT cx 21 rfl) ok0_Net_str b_Net_str
  have ok0_Net_read:=K9 (nn:=false) (P:=P) (w:=w) (base:=base) T F_Net_read c_item_of c_Net_str mk_Net_2
  have c_Net_read:Cm P w K mg base false ((ad K).c "Net") "read" 7 2 (kD (ad K)):=Xl (eT cx 9 rfl) (eT cx 10 rfl) ok0_Net_read b_Net_read
  have ok0_text_k23:=K0 (nn:=false) (P:=P) (w:=w) (base:=base) T F_text_k23
  have c_text_k23:Fc P w K mg base ⟨false,false,false⟩ "_law_text" 1 1 (kq (ad K)):=⟨_,fd_text_k23,["_law_model_here"],ok0_text_k23,b_text_k23,F_text_k23.kp,He.glo_ok X G (c.fact 13 (f:=.glo "_law_text") rfl)⟩
  have ok0_check_net:=IF (nn:=false) (P:=P) (w:=w) (base:=base) T F_check_net
  have c_check_net:Fc P w K mg base ⟨false,false,false⟩ "check_net" 1 1 (eB (ad K)):=⟨_,fd_check_net,["value"],ok0_check_net,b_check_net,F_check_net.kp,He.glo_ok X G (c.fact 14 (f:=.glo "check_net") rfl)⟩
  have ok0_Net_meters:=HV (nn:=false) (P:=P) (w:=w) (base:=base) T F_Net_meters
  have c_Net_meters:Pc P w K mg base false ((ad K).c "Net") "meters" 1 (cz (ad K)):=⟨_,_,fd_Net_meters,["self"],T.k_Net.cl,kN (eT cx 12 rfl),ok0_Net_meters,b_Net_meters⟩
  have ok0_check_names:=Gx (nn:=false) (P:=P) (w:=w) (base:=base) T F_check_names c_Meter_name c_check_net c_Net_meters
  have c_check_names:Fc P w K mg base ⟨false,false,false⟩ "check_names" 3 2 (j_ (ad K)):=⟨_,fd_check_names,["net","other"],ok0_check_names,b_check_names,F_check_names.kp,He.glo_ok X G (c.fact 15 (f:=.glo "check_names") rfl)⟩
  have ok0_Net_pipes:=Ka (nn:=false) (P:=P) (w:=w) (base:=base) T F_Net_pipes
  have c_Net_pipes:Pc P w K mg base false ((ad K).c "Net") "pipes" 1 (gY (ad K)):=⟨_,_,fd_Net_pipes,["self"],T.k_Net.cl,kN (eT cx 11 rfl),ok0_Net_pipes,b_Net_pipes⟩
  have ok0_Net_places:=HK (nn:=false) (P:=P) (w:=w) (base:=base) T F_Net_places c_Pipe_start c_Pipe_end
  have c_Net_places:Pc P w K mg base false ((ad K).c "Net") "places" 3 (cW (ad K)):=⟨_,_,fd_Net_places,["self"],T.k_Net.cl,kN (eT cx 13 rfl),ok0_Net_places,b_Net_places⟩
  have ok0_Net_ends:=KQ (nn:=false) (P:=P) (w:=w) (base:=base) T F_Net_ends c_Pipe_start c_Pipe_end c_Net_places
  have c_Net_ends:Pc P w K mg base false ((ad K).c "Net") "ends" 5 (b8 (ad K)):=⟨_,_,fd_Net_ends,["self"],T.k_Net.cl,kN (eT cx 14 rfl),ok0_Net_ends,b_Net_ends⟩
  have ok0_components:=HW (nn:=false) (P:=P) (w:=w) (base:=base) T F_components c_Net_places c_Net_ends
  have c_components:Fc P w K mg base ⟨false,false,false⟩ "components" 7 2 (jF (ad K)):=⟨_,fd_components,["net","keep"],ok0_components,b_components,F_components.kp,He.glo_ok X G (c.fact 16 (f:=.glo "components") rfl)⟩
  have ok0_forest:=OP (nn:=false) (P:=P) (w:=w) (base:=base) T F_forest c_Net_ends c_components
  have c_forest:Fc P w K mg base ⟨false,false,false⟩ "forest" 8 2 (jK (ad K)):=⟨_,fd_forest,["net","keep"],ok0_forest,b_forest,F_forest.kp,He.glo_ok X G (c.fact 17 (f:=.glo "forest") rfl)⟩
  have ok0_sent_out:=K2 (nn:=false) (P:=P) (w:=w) (base:=base) T F_sent_out c_Net_ends
  have c_sent_out:Fc P w K mg base ⟨false,false,false⟩ "sent_out" 7 3 (m7 (ad K)):=⟨_,fd_sent_out,["net","numbers","inside"],ok0_sent_out,b_sent_out,F_sent_out.kp,He.glo_ok X G (c.fact 18 (f:=.glo "sent_out") rfl)⟩
  have ok0_is_balanced:=Gf (nn:=false) (P:=P) (w:=w) (base:=base) T F_is_balanced c_Net_places c_Net_ends
  have c_is_balanced:Fc P w K mg base ⟨false,false,false⟩ "is_balanced" 7 2 (fJ (ad K)):=⟨_,fd_is_balanced,["net","numbers"],ok0_is_balanced,b_is_balanced,F_is_balanced.kp,He.glo_ok X G (c.fact 19 (f:=.glo "is_balanced") rfl)⟩
  have ok0_completed:=IK (nn:=false) (P:=P) (w:=w) (base:=base) T F_completed c_Net_ends c_components c_forest c_sent_out c_is_balanced
  have c_completed:Fc P w K mg base ⟨false,false,false⟩ "completed" 9 2 (jd (ad K)):=⟨_,fd_completed,["net","known"],ok0_completed,b_completed,F_completed.kp,He.glo_ok X G (c.fact 20 (f:=.glo "completed") rfl)⟩
  have ok0_ring_flows:=Ik (nn:=false) (P:=P) (w:=w) (base:=base) T F_ring_flows c_Net_pipes c_forest c_completed
  have c_ring_flows:Fc P w K mg base ⟨false,false,false⟩ "ring_flows" 10 1 (lg (ad K)):=⟨_,fd_ring_flows,["net"],ok0_ring_flows,b_ring_flows,F_ring_flows.kp,He.glo_ok X G (c.fact 21 (f:=.glo "ring_flows") rfl)⟩
  have ok0_Net_len:=Nr (nn:=false) (P:=P) (w:=w) (base:=base) T F_Net_len
  have c_Net_len:Sc P w K mg base false ((ad K).c "Net") "__len__" 1 1 (mL (ad K)):=R9 (eT cx 20 rfl) ok0_Net_len b_Net_len
  have ok0_is_integer:=Il (nn:=false) (P:=P) (w:=w) (base:=base) T F_is_integer
  have c_is_integer:Fc P w K mg base ⟨false,false,false⟩ "is_integer" 1 1 (iA (ad K)):=⟨_,fd_is_integer,["value"],ok0_is_integer,b_is_integer,F_is_integer.kp,He.glo_ok X G (c.fact 22 (f:=.glo "is_integer") rfl)⟩
  have ok0_has_flow:=KG (nn:=false) (P:=P) (w:=w) (base:=base) T F_has_flow c_is_balanced c_Net_len c_is_integer
  have c_has_flow:Fc P w K mg base ⟨false,false,false⟩ "has_flow" 8 2 (mZ (ad K)):=⟨_,fd_has_flow,["net","value"],ok0_has_flow,b_has_flow,F_has_flow.kp,He.glo_ok X G (c.fact 23 (f:=.glo "has_flow") rfl)⟩
  have ok0_check_flow:=Ih (nn:=false) (P:=P) (w:=w) (base:=base) T F_check_flow c_has_flow
  have c_check_flow:Fc P w K mg base ⟨false,false,false⟩ "check_flow" 9 2 (mH (ad K)):=⟨_,fd_check_flow,["net","value"],ok0_check_flow,b_check_flow,F_check_flow.kp,He.glo_ok X G (c.fact 24 (f:=.glo "check_flow") rfl)⟩
  have ok0_Net_number_of:=Dw (nn:=false) (P:=P) (w:=w) (base:=base) T F_Net_number_of c_Pipe_name
  have c_Net_number_of:Mt P w K mg base false ((ad K).c "Net") "number_of" 3 2 (b9 (ad K)):=Ey kk_Net.cl (eT cx 17 rfl) ok0_Net_number_of b_Net_number_of
  have ok0_shown_with:=Ic (nn:=false) (P:=P) (w:=w) (base:=base) T F_shown_with c_Meter_at c_Net_meters c_Net_number_of
  have c_shown_with:Fc P w K mg base ⟨false,false,false⟩ "shown_with" 4 2 (lC (ad K)):=⟨_,fd_shown_with,["net","flow"],ok0_shown_with,b_shown_with,F_shown_with.kp,He.glo_ok X G (c.fact 25 (f:=.glo "shown_with") rfl)⟩
  have ok0_readings_of:=FY (nn:=false) (P:=P) (w:=w) (base:=base) T F_readings_of c_check_net c_check_flow c_shown_with
  have c_readings_of:Fc P w K mg base ⟨false,false,false⟩ "readings_of" 10 2 (kg (ad K)):=⟨_,fd_readings_of,["net","flow"],ok0_readings_of,b_readings_of,F_readings_of.kp,He.glo_ok X G (c.fact 26 (f:=.glo "readings_of") rfl)⟩
  have ok0_by_names:=KL (nn:=false) (P:=P) (w:=w) (base:=base) T F_by_names c_Meter_name c_Net_meters
  have c_by_names:Fc P w K mg base ⟨false,false,false⟩ "by_names" 3 2 (ng (ad K)):=⟨_,fd_by_names,["net","readings"],ok0_by_names,b_by_names,F_by_names.kp,He.glo_ok X G (c.fact 27 (f:=.glo "by_names") rfl)⟩
  have ok0_carried_over:=EH (nn:=false) (P:=P) (w:=w) (base:=base) T F_carried_over c_Meter_name c_Net_meters c_readings_of c_by_names
  have c_carried_over:Fc P w K mg base ⟨false,false,false⟩ "carried_over" 11 3 (jW (ad K)):=⟨_,fd_carried_over,["net","flow","other"],ok0_carried_over,b_carried_over,F_carried_over.kp,He.glo_ok X G (c.fact 28 (f:=.glo "carried_over") rfl)⟩
  have ok0_known_numbers:=Dh (nn:=false) (P:=P) (w:=w) (base:=base) T F_known_numbers c_Meter_name c_Meter_at c_Net_meters c_Net_pipes c_Net_number_of
  have c_known_numbers:Fc P w K mg base ⟨false,false,false⟩ "known_numbers" 4 3 (jJ (ad K)):=⟨_,fd_known_numbers,["net","readings","out"],ok0_known_numbers,b_known_numbers,F_known_numbers.kp,He.glo_ok X G (c.fact 29 (f:=.glo "known_numbers") rfl)⟩
  have ok0_partner:=Na (nn:=false) (P:=P) (w:=w) (base:=base) T F_partner c_completed c_carried_over c_known_numbers
  have c_partner:Fc P w K mg base ⟨false,false,false⟩ "partner" 12 3 (oF (ad K)):=⟨_,fd_partner,["net","flow","other"],ok0_partner,b_partner,F_partner.kp,He.glo_ok X G (c.fact 30 (f:=.glo "partner") rfl)⟩
  have ok0_parting_flow:=Em (nn:=false) (P:=P) (w:=w) (base:=base) T F_parting_flow c_check_names c_ring_flows c_partner
  have c_parting_flow:Fc P w K mg base ⟨false,false,false⟩ "parting_flow" 13 2 (gM (ad K)):=⟨_,fd_parting_flow,["net","other"],ok0_parting_flow,b_parting_flow,F_parting_flow.kp,He.glo_ok X G (c.fact 31 (f:=.glo "parting_flow") rfl)⟩
  have ok0_same_readings:=CL (nn:=false) (P:=P) (w:=w) (base:=base) T F_same_readings c_parting_flow
  have c_same_readings:Fc P w K mg base ⟨false,false,false⟩ "same_readings" 14 2 (fV (ad K)):=⟨_,fd_same_readings,["net","other"],ok0_same_readings,b_same_readings,F_same_readings.kp,He.glo_ok X G (c.fact 32 (f:=.glo "same_readings") rfl)⟩
  have ok0_Net_pipe:=K5 (nn:=false) (P:=P) (w:=w) (base:=base) T F_Net_pipe c_Pipe_name
  have c_Net_pipe:Mt P w K mg base false ((ad K).c "Net") "pipe" 3 2 (jQ (ad K)):=Ey kk_Net.cl (eT cx 15 rfl) ok0_Net_pipe b_Net_pipe
  have ok0_Net_meter:=JG (nn:=false) (P:=P) (w:=w) (base:=base) T F_Net_meter c_Meter_name
  have c_Net_meter:Mt P w K mg base false ((ad K).c "Net") "meter" 3 2 (kI (ad K)):=Ey kk_Net.cl (eT cx 16 rfl) ok0_Net_meter b_Net_meter
  have ok0_check_pipe:=HM (nn:=false) (P:=P) (w:=w) (base:=base) T F_check_pipe c_Net_pipe
  have c_check_pipe:Fc P w K mg base ⟨false,false,false⟩ "check_pipe" 4 2 (jA (ad K)):=⟨_,fd_check_pipe,["net","value"],ok0_check_pipe,b_check_pipe,F_check_pipe.kp,He.glo_ok X G (c.fact 33 (f:=.glo "check_pipe") rfl)⟩
  have ok0_Net_meters_at:=C6 (nn:=false) (P:=P) (w:=w) (base:=base) T F_Net_meters_at c_Meter_at
  have c_Net_meters_at:Mt P w K mg base false ((ad K).c "Net") "meters_at" 3 2 (cZ (ad K)):=Ey kk_Net.cl (eT cx 18 rfl) ok0_Net_meters_at b_Net_meters_at
  have ok0_Net_has_seal:=EB (nn:=false) (P:=P) (w:=w) (base:=base) T F_Net_has_seal c_Meter_sealed c_Net_meters_at
  have c_Net_has_seal:Mt P w K mg base false ((ad K).c "Net") "has_seal" 4 2 (gO (ad K)):=Ey kk_Net.cl (eT cx 19 rfl) ok0_Net_has_seal b_Net_has_seal
  have ok0_lengths_beside:=BY (nn:=false) (P:=P) (w:=w) (base:=base) T F_lengths_beside c_Pipe_name c_Net_pipes c_Net_meters_at c_Net_has_seal
  have c_lengths_beside:Fc P w K mg base ⟨false,false,false⟩ "lengths_beside" 5 2 (iY (ad K)):=⟨_,fd_lengths_beside,["net","pipe"],ok0_lengths_beside,b_lengths_beside,F_lengths_beside.kp,He.glo_ok X G (c.fact 34 (f:=.glo "lengths_beside") rfl)⟩
  have ok0_lower:=RE (nn:=false) (P:=P) (w:=w) (base:=base) T F_lower
  have c_lower:Fc P w K mg base ⟨false,false,false⟩ "lower" 1 4 (qC (ad K)):=⟨_,fd_lower,["found","start","end","length"],ok0_lower,b_lower,F_lower.kp,He.glo_ok X G (c.fact 35 (f:=.glo "lower") rfl)⟩
  have ok0_distances:=Kf (nn:=false) (P:=P) (w:=w) (base:=base) T F_distances c_Net_places c_Net_ends c_lower
  have c_distances:Fc P w K mg base ⟨false,false,false⟩ "distances" 7 3 (lV (ad K)):=⟨_,fd_distances,["net","source","lengths"],ok0_distances,b_distances,F_distances.kp,He.glo_ok X G (c.fact 36 (f:=.glo "distances") rfl)⟩
  have ok0_distances_beside:=zE (nn:=false) (P:=P) (w:=w) (base:=base) T F_distances_beside c_Net_ends c_Net_number_of c_lengths_beside c_distances
  have c_distances_beside:Fc P w K mg base ⟨false,false,false⟩ "distances_beside" 8 2 (gK (ad K)):=⟨_,fd_distances_beside,["net","pipe"],ok0_distances_beside,b_distances_beside,F_distances_beside.kp,He.glo_ok X G (c.fact 37 (f:=.glo "distances_beside") rfl)⟩
  have ok0_strength_of:=F7 (nn:=false) (P:=P) (w:=w) (base:=base) T F_strength_of c_Net_ends c_Net_number_of c_Net_meters_at c_Net_has_seal c_distances_beside
  have c_strength_of:Fc P w K mg base ⟨false,false,false⟩ "strength_of" 9 2 (iR (ad K)):=⟨_,fd_strength_of,["net","pipe"],ok0_strength_of,b_strength_of,F_strength_of.kp,He.glo_ok X G (c.fact 38 (f:=.glo "strength_of") rfl)⟩
  have ok0_strength:=Le (nn:=false) (P:=P) (w:=w) (base:=base) T F_strength c_check_net c_check_pipe c_strength_of
  have c_strength:Fc P w K mg base ⟨false,false,false⟩ "strength" 10 2 (lI (ad K)):=⟨_,fd_strength,["net","pipe"],ok0_strength,b_strength,F_strength.kp,He.glo_ok X G (c.fact 39 (f:=.glo "strength") rfl)⟩
  have ok0_faults_k26:=Ii (nn:=false) (P:=P) (w:=w) (base:=base) T F_faults_k26 c_dip_k23
  have c_faults_k26:Fc P w K mg base ⟨false,false,false⟩ "_law_faults" 2 2 (lB (ad K)):=⟨_,fd_faults_k26,["_law_well_here","_law_most"],ok0_faults_k26,b_faults_k26,F_faults_k26.kp,He.glo_ok X G (c.fact 40 (f:=.glo "_law_faults") rfl)⟩
  have ok0_is_small:=K1 (nn:=false) (P:=P) (w:=w) (base:=base) T F_is_small c_is_integer
  have c_is_small:Fc P w K mg base ⟨false,false,false⟩ "is_small" 2 1 (m5 (ad K)):=⟨_,fd_is_small,["value"],ok0_is_small,b_is_small,F_is_small.kp,He.glo_ok X G (c.fact 41 (f:=.glo "is_small") rfl)⟩
  have ok0_are_faults:=Im (nn:=false) (P:=P) (w:=w) (base:=base) T F_are_faults c_is_small
  have c_are_faults:Fc P w K mg base ⟨false,false,false⟩ "are_faults" 3 1 (kW (ad K)):=⟨_,fd_are_faults,["value"],ok0_are_faults,b_are_faults,F_are_faults.kp,He.glo_ok X G (c.fact 42 (f:=.glo "are_faults") rfl)⟩
  have ok0_check_faults:=Ei (nn:=false) (P:=P) (w:=w) (base:=base) T F_check_faults c_are_faults
  have c_check_faults:Fc P w K mg base ⟨false,false,false⟩ "check_faults" 4 1 (jX (ad K)):=⟨_,fd_check_faults,["value"],ok0_check_faults,b_check_faults,F_check_faults.kp,He.glo_ok X G (c.fact 43 (f:=.glo "check_faults") rfl)⟩
  have ok0_tells:=Q_ (nn:=false) (P:=P) (w:=w) (base:=base) T F_tells c_strength_of
  have c_tells:Fc P w K mg base ⟨false,false,false⟩ "tells" 10 3 (sX (ad K)):=⟨_,fd_tells,["net","pipe","faults"],ok0_tells,b_tells,F_tells.kp,He.glo_ok X G (c.fact 44 (f:=.glo "tells") rfl)⟩
  have ok0_can_tell:=KC (nn:=false) (P:=P) (w:=w) (base:=base) T F_can_tell c_check_net c_check_pipe c_check_faults c_tells
  have c_can_tell:Fc P w K mg base ⟨false,false,false⟩ "can_tell" 11 3 (lH (ad K)):=⟨_,fd_can_tell,["net","pipe","faults"],ok0_can_tell,b_can_tell,F_can_tell.kp,He.glo_ok X G (c.fact 45 (f:=.glo "can_tell") rfl)⟩
  have ok0_right_k85:=I_ (nn:=false) (P:=P) (w:=w) (base:=base) T F_right_k85 c_model_k23 c_other_k85 c_Pipe_name c_Meter_at c_Net_read c_text_k23 c_parting_flow c_same_readings c_Net_pipe c_Net_meter c_strength c_faults_k26 c_can_tell
  have c_right_k85:Fc P w K mg base ⟨true,false,false⟩ "_law_right" 15 1 (l7 (ad K)):=⟨_,fd_right_k85,["_law_well_here"],ok0_right_k85,b_right_k85,F_right_k85.kp,He.glo_ok X G (c.fact 46 (f:=.glo "_law_right") rfl)⟩
  exact M7 T F_law_k85 c_well_k23 c_right_k85
end K85
end
section
namespace RV
open PySem L2
theorem qw {α:Type} {a:α} {k:α->Prop}:gx (some a) k=k a:=rfl
theorem VZ {b:Bool} {k:Bool->Prop}:Sv (.bl b) k=k b:=rfl
theorem Kg {p q:Prop}:oR true p q=p:=rfl
theorem JU {p q:Prop}:oR false p q=q:=rfl
theorem Ur {b:Bool} {p q:Prop} (h1:b=true->p) (h2:b=false->q):oR b p q:=by
  cases b
  · exact h2 rfl
  · exact h1 rfl
theorem iX {c:Prop} [Decidable c] {p q:Prop} (h1:c->p) (h2:¬ c->q):oR (decide c) p q:=Ur (λh=>h1 (of_decide_eq_true h)) (λh=>h2 (of_decide_eq_false h))
theorem Ea {d:Option D} {r:Env}:look (d :: r) 0=d:=rfl
theorem XJ {a0 a1:Option D} {r:Env}:look (a0 :: a1 :: r) 1=a1:=rfl
theorem X0 {a0 a1 a2:Option D} {r:Env}:look (a0 :: a1 :: a2 :: r) 2=a2:=rfl
theorem XG {a0 a1 a2 a3:Option D} {r:Env}:look (a0 :: a1 :: a2 :: a3 :: r) 3=a3:=rfl
theorem Xa {a0 a1 a2 a3 a4:Option D} {r:Env}:look (a0 :: a1 :: a2 :: a3 :: a4 :: r) 4=a4:=rfl
theorem Xe {a0 a1 a2 a3 a4 a5:Option D} {r:Env}:look (a0 :: a1 :: a2 :: a3 :: a4 :: a5 :: r) 5=a5:=rfl
theorem Xm {a0 a1 a2 a3 a4 a5 a6:Option D} {r:Env}:look (a0 :: a1 :: a2 :: a3 :: a4 :: a5 :: a6 :: r) 6=a6:=rfl
theorem Xz {a0 a1 a2 a3 a4 a5 a6 a7:Option D} {r:Env}:look (a0 :: a1 :: a2 :: a3 :: a4 :: a5 :: a6 :: a7 :: r) 7=a7:=rfl
theorem W4 {a0 a1 a2 a3 a4 a5 a6 a7 a8:Option D} {r:Env}:look (a0 :: a1 :: a2 :: a3 :: a4 :: a5 :: a6 :: a7 :: a8 :: r) 8=a8:=rfl
theorem X8 {a0 a1 a2 a3 a4 a5 a6 a7 a8 a9:Option D} {r:Env}:look (a0 :: a1 :: a2 :: a3 :: a4 :: a5 :: a6 :: a7 :: a8 :: a9 :: r) 9=a9:=rfl
theorem VR {a0 a1 a2 a3 a4 a5 a6 a7 a8 a9 a10:Option D} {r:Env}:look (a0 :: a1 :: a2 :: a3 :: a4 :: a5 :: a6 :: a7 :: a8 :: a9 :: a10 :: r) 10=a10:=rfl
theorem WK {a0 a1 a2 a3 a4 a5 a6 a7 a8 a9 a10 a11:Option D} {r:Env}:look (a0 :: a1 :: a2 :: a3 :: a4 :: a5 :: a6 :: a7 :: a8 :: a9 :: a10 :: a11 :: r) 11=a11:=rfl
theorem Wq {a0 a1 a2 a3 a4 a5 a6 a7 a8 a9 a10 a11 a12:Option D} {r:Env}:look (a0 :: a1 :: a2 :: a3 :: a4 :: a5 :: a6 :: a7 :: a8 :: a9 :: a10 :: a11 :: a12 :: r) 12=a12:=rfl
theorem Wi {a0 a1 a2 a3 a4 a5 a6 a7 a8 a9 a10 a11 a12 a13:Option D} {r:Env}:look (a0 :: a1 :: a2 :: a3 :: a4 :: a5 :: a6 :: a7 :: a8 :: a9 :: a10 :: a11 :: a12 :: a13 :: r) 13=a13:=rfl
theorem ay {m1 m2:Env->MS} {ρ:Env} {S:WS} {k:Kt} (h:∀ N:Env->WS->Prop,(N=λρ' S'=>m2 ρ' S' k)->m1 ρ S ⟨N,k.rt,k.bk,k.ct,k.ex⟩):aK m1 m2 ρ S k:=h _ rfl
theorem XT {i:Int} {k:Int->Prop}:Bf (.int i) k=k i:=rfl
theorem X7 {i:Str} {k:Str->Prop}:Kh (.str i) k=k i:=rfl
theorem U0 {i:List D} {k:List D->Prop}:Ji (.tup i) k=k i:=rfl
theorem Wt {i:Nat} {k:Nat->Prop}:NK (.cell i) k=k i:=rfl
theorem YE {a:D} {k:D->Prop}:G2 [a] k=k a:=rfl
theorem Rn {a b:D} {k:D->D->Prop}:G3 [a,b] k=k a b:=rfl
theorem YG {a b c:D} {k:D->D->D->Prop}:YL [a,b,c] k=k a b c:=rfl
theorem Fp {ds:List D} {k:List D->Prop}:sA (.lst ds) k=k ds:=rfl
theorem Wn {C:Addr} {fs:List (Str×D)} {k:Addr->List (Str×D)->Prop}:Jv (.ob C fs) k=k C fs:=rfl
theorem Ug {ds:List D} {S:WS} {q:List D->(WS->Prop)->WS->Prop}:onSeq (.lst ds) S q=q ds cB S:=rfl
theorem TF {ns:List Int} {S:WS} {q:List D->(WS->Prop)->WS->Prop}:onSeq (.scr ns) S q=q (ns.map D.int) cB S:=rfl
theorem UP {i:Nat} {S:WS} {q:List D->(WS->Prop)->WS->Prop}:onSeq (.cell i) S q=gx S[i]? λc=>sA c λds=>q ds (Holds i ds) S:=rfl
theorem M_ {ds:List D} {S:WS} {q:D->WS->Prop}:D8 .still ds S q=q (.lst ds) S:=rfl
theorem Si {ds:List D} {S:WS} {q:D->WS->Prop}:D8 .new ds S q=(D.cg 0 ds=true∧q (.cell S.length) (S++[.lst ds])):=rfl
theorem XU {C:Addr} {fs:List (Str×D)} {n:Nat} {S:WS} {q:D->WS->Prop}:WR .still C fs n S q=q (.obj C fs) (S.take n):=rfl
theorem XM {C:Addr} {fs:List (Str×D)} {n:Nat} {S:WS} {q:D->WS->Prop}:WR .new C fs n S q=q (.cell n) (S.take n++[.ob C fs]):=rfl
theorem UZ {n:Nat} {g:List D->Env->Option Env} {ds:List D} {ρ:Env}:bG n g (.tup ds) ρ=if ds.length=n then g ds ρ else none:=rfl
theorem Rb {f:D->Env->Option Env} {g:List D->Env->Option Env} {d:D} {r:List D} {ρ:Env}:aE f g (d :: r) ρ=(f d ρ).bind λρ'=>g r ρ':=rfl
theorem Uj {ρ:Env}:bH [] ρ=some ρ:=rfl
theorem X6 {S:WS}:cB S=True:=rfl
theorem QV {C C':Addr} {S:WS} {fs:List (Str×D)}:qc C S (.obj C' fs)=(C'=C):=rfl
theorem Ul {neg:Bool} {S:WS}:gW neg S .non .non=some (.bl (!neg)):=rfl
theorem Uy {S:WS} {b:Bool}:dN S (.bl b)=some b:=rfl
theorem TN:small 0=true:=rfl
theorem TH:small 1=true:=rfl
theorem Tq:small 2=true:=rfl
theorem T5:small 3=true:=rfl
theorem TY:small 4=true:=rfl
theorem S8:small 5=true:=rfl
theorem Tt:small 6=true:=rfl
theorem T9:small 7=true:=rfl
theorem UO:small 8=true:=rfl
theorem aA {n:Nat} (h:n≤100000):small n=true:=decide_eq_true h
theorem pY {S:WS} {i j:Int} (h:nR i j=true):s_ S (.int i) (.int j)=some (.int (i * j)):=if_pos h
theorem Q9 {S:WS} {i j:Int} (h:D5 i j=true):JV S (.int i) (.int j)=some (.int (i ^ j.toNat)):=if_pos h
theorem oj {S:WS} {i j:Int} (h:0 < j):qF S (.int i) (.int j)=some (.int (i % j)):=if_pos (decide_eq_true h)
theorem PV {S:WS} {i j:Int} (h:Oe i j=true):N8 S (.int i) (.int j)=some (.int (i / j)):=if_pos h
theorem UQ {S:WS} {i j:Int}:V7 S (.int i) (.int j)=some (.bl (decide (i < j))):=rfl
theorem UN {S:WS} {i j:Int}:IU S (.int i) (.int j)=some (.bl (decide (i≤j))):=rfl
theorem UA {S:WS} {i j:Int}:Mi S (.int i) (.int j)=some (.bl (decide (j < i))):=rfl
theorem L8 {S:WS} {i j:Int}:z7 S (.int i) (.int j)=some (.bl (decide (j≤i))):=rfl
theorem RP {S:WS} {i j:Int}:Np S (.int i) (.int j)=some (.int (i - j)):=rfl
theorem QE {S:WS} {i j:Int}:cX S (.int i) (.int j)=some (.int (i+j)):=rfl
theorem gG {S:WS} {a b:Str} (h:small (a.length+b.length)=true):cX S (.str a) (.str b)=some (.str (a++b)):=if_pos h
theorem Rf {S:WS} {a b:List D} (h:small (a.length+b.length)=true):cX S (.lst a) (.lst b)=some (.lst (a++b)):=if_pos h
theorem OG {S:WS} {i:Int}:intOfD S [.int i]=some (.int i):=rfl
theorem QM {S:WS} {i:Int}:yE S [.int i]=some (.int (if i < 0 then -i else i)):=rfl
theorem T_ {S:WS} {i j:Int}:kj S (.int i) (.int j)=some (.bl (decide (i=j))):=rfl
theorem LG {S:WS} {i j:Int}:ni S (.int i) (.int j)=some (.bl (!decide (i=j))):=rfl
theorem TZ {S:WS} {i j:Str}:kj S (.str i) (.str j)=some (.bl (decide (i=j))):=rfl
theorem TX {S:WS} {i j:Str}:ni S (.str i) (.str j)=some (.bl (!decide (i=j))):=rfl
theorem UX {S:WS} {i j:Bool}:kj S (.bl i) (.bl j)=some (.bl (decide (i=j))):=rfl
theorem WZ {S:WS} {i j:Bool}:ni S (.bl i) (.bl j)=some (.bl (!decide (i=j))):=rfl
theorem Fo {i j:Int} (h:0≤i) (h1:i < 18446744073709551616):nR i j=true:=decide_eq_true (.inl ⟨by omega,by simpa using h1⟩)
theorem FA {i j:Int} (h:0≤j) (h1:j < 18446744073709551616):nR i j=true:=decide_eq_true (.inr ⟨by omega,by simpa using h1⟩)
theorem C_ {S:WS} {d:D} {q:D->WS->Prop}:fin S.length d S q=q d S:=if_pos rfl
theorem Qq {S:WS} {d:D} {x:Xq}:vU S.length d S x=x d S:=if_pos rfl
theorem atI_nat {α:Type} {xs:List α} {i:Int} (h0:0≤i) (h1:i < xs.length):atI xs i=xs[i.toNat]? :=by
  unfold atI ixN
  rw [if_pos h0,if_pos h1,Option.bind_some]
structure W where
  a:Int
  b:Int
  c:Int
def W.d (w:W):Cell:=.lst [.int w.a,.int w.b,.int w.c]
structure Good (n:Int) (w:W):Prop where
  a0:0≤w.a
  a1:w.a < 2147483629
  b0:0≤w.b
  c0:0≤w.c
  c1:w.c≤n
theorem Good.mono {n m:Int} {w:W} (h:Good n w) (e:n≤m):Good m w:=⟨h.a0,h.a1,h.b0,h.c0,by have:=h.c1; omega⟩
def st (S:WS) (k:Nat) (w:W) (T:WS):WS:=S.set k w.d++T
section
variable {S T:WS} {k:Nat} {w w':W} {c c':Cell} {r:WS} {d:D} {q:D->WS->Prop}
theorem AD:(st S k w T).length=S.length+T.length:=by simp [st]
theorem WY:st S k w T++r=st S k w (T++r):=by simp [st]
theorem Yc (hk:k < S.length):(st S k w T)[k]? =some w.d:=by
  unfold st
  rw [List.getElem?_append_left (by simpa using hk)]
  simp [hk]
theorem Kc (hk:k < S.length) {x y z:Int}:(st S k w T).set k (.lst [.int x,.int y,.int z])=st S k ⟨x,y,z⟩ T:=by
  unfold st W.d
  rw [List.set_append_left _ _ (by simpa using hk)]
  simp
theorem lO:(st S k w (T++c :: r))[S.length+T.length]? =some c:=by
  unfold st
  rw [← List.append_assoc,List.getElem?_append_right (by simp)]
  simp
theorem xy:(st S k w (T++c :: r)).set (S.length+T.length) c'=st S k w (T++c' :: r):=by
  unfold st
  rw [← List.append_assoc,List.set_append_right _ _ (by simp)]
  simp
theorem AF {b:Cell}:(st S k w (T++b :: c :: r))[S.length+T.length+1]? =some c:=by
  unfold st
  rw [← List.append_assoc,List.getElem?_append_right (by simp)]
  have:S.length+T.length+1 - (List.set S k w.d++T).length=1:=by simp
  rw [this]
  rfl
theorem L6 {b:Cell}:(st S k w (T++b :: c :: r)).set (S.length+T.length+1) c'=st S k w (T++b :: c' :: r):=by
  unfold st
  rw [← List.append_assoc,List.set_append_right _ _ (by simp)]
  have:S.length+T.length+1 - (List.set S k w.d++T).length=1:=by simp
  rw [this]
  simp
theorem Vq:fin (S.length+T.length) d (st S k w T) q=q d (st S k w T):=if_pos AD
theorem SY (h:D.clean (S.length+T.length) d=true) (hn:∀ i,d≠.cell i):fin (S.length+T.length) d (st S k w (T++c :: r)) q=q d (st S k w T):=by
  have hl:¬ (st S k w (T++c :: r)).length=S.length+T.length:=by
    rw [AD]
    simp
  have ht:(st S k w (T++c :: r)).take (S.length+T.length)=st S k w T:=by
    unfold st
    rw [← List.append_assoc,List.take_append_of_le_length (by simp),List.take_of_length_le (by simp)]
  unfold fin
  rw [if_neg hl]
  split
  · exact absurd rfl (hn _)
  · rw [ht,h]
    simp
theorem LU {ds:List D}:fin (S.length+T.length) (.cell (S.length+T.length)) (st S k w (T++.lst ds :: r)) q=q (.lst ds) (st S k w T):=by
  have hl:¬ (st S k w (T++.lst ds :: r)).length=S.length+T.length:=by
    rw [AD]
    simp
  have ht:(st S k w (T++.lst ds :: r)).take (S.length+T.length)=st S k w T:=by
    unfold st
    rw [← List.append_assoc,List.take_append_of_le_length (by simp),List.take_of_length_le (by simp)]
  unfold fin
  rw [if_neg hl]
  simp only [Nat.lt_irrefl,if_false,lO,qw,Fp,ht]
end
section
variable {S:WS} {c c':Cell} {r:WS} {d:D} {q:D->WS->Prop}
theorem bF:(S++c :: r)[S.length]? =some c:=by simp
theorem cU:(S++c :: r).set S.length c'=S++c' :: r:=by simp
theorem lZ (h:D.clean S.length d=true) (hn:∀ i,d≠.cell i):fin S.length d (S++c :: r) q=q d S:=by
  have hl:¬ (S++c :: r).length=S.length:=by simp
  unfold fin
  rw [if_neg hl]
  split
  · exact absurd rfl (hn _)
  · rw [h]
    simp
theorem pW {ds:List D}:fin S.length (.cell S.length) (S++.lst ds :: r) q=q (.lst ds) S:=by
  have hl:¬ (S++Cell.lst ds :: r).length=S.length:=by simp
  unfold fin
  rw [if_neg hl]
  simp [gx,sA]
end
theorem u6 {S:WS} {c c':Cell} {d:D} {q:D->WS->Prop}:fin (S++[c']).length d (S++[c]) q=q d (S++[c]):=if_pos (by simp)
theorem Ku {α:Type} {a:α} {l:List α}:atI (a :: l) 0=some a:=by
  unfold atI ixN
  simp
theorem C4 {S r:WS}:(S++r).take S.length=S:=by simp
section
variable {N:WS->Prop} {f:D->Env->Option Env} {mb:Env->MS} {mc:Env->MB} {me:Env->M} {ρ:Env} {S:WS} {k:Kt}
theorem uX {d:D} {ds:List D}:cE N f mb (d :: ds) ρ S k=(N S∧gx (f d ρ) λρ1=>mb ρ1 S ⟨λρ2 S2=>cE N f mb ds ρ2 S2 k,k.rt,k.nx,λρ2 S2=>cE N f mb ds ρ2 S2 k,k.ex⟩):=rfl
theorem qH {N:WS->Prop} {i:Nat} {mb:RV.Env->MS} {ρ:RV.Env} {S:WS} {d:D} {ds:List D} {kt:Kt} (hN:N S) (h:mb (ρ.set i (some d)) S ⟨λρ2 S2=>cE N (av i) mb ds ρ2 S2 kt,kt.rt,kt.nx,λρ2 S2=>cE N (av i) mb ds ρ2 S2 kt,kt.ex⟩):cE N (av i) mb (d :: ds) ρ S kt:=⟨hN,h⟩
theorem lE {N:WS->Prop} {i:Nat} {mb:RV.Env->MS} {ρ:RV.Env} {S:WS} {d:D} {ds:List D} {kt:Kt} (hN:N S) (h:∀ F:RV.Env->WS->Prop,(F=λρ2 S2=>cE N (av i) mb ds ρ2 S2 kt)->mb (ρ.set i (some d)) S ⟨F,kt.rt,kt.nx,F,kt.ex⟩):cE N (av i) mb (d :: ds) ρ S kt:=⟨hN,h _ rfl⟩
theorem nM {α:Type} {inj:α->D} {p:α->Bool} {g:α->D} {q:List D->WS->Prop}:∀ (xs:List α) (acc:List D),N S->(∀ a∈xs,∃ ρ1,f (inj a) ρ=some ρ1∧(∀ q x,mc ρ1 S q x=q (p a) S)∧(p a=true->∀ q x,me ρ1 S q x=q (g a) S))->
    pT N f mc me ρ (xs.map inj) acc S q=q (acc++(xs.filter p).map g) S
  | [],acc,hN,_=>by simp [pT,hN]
  | a :: xs,acc,hN,hs=>by
    obtain ⟨ρ1,h1,h2,h3⟩:=hs a (List.mem_cons_self ..)
    have ih:=λacc=>nM (q:=q) xs acc hN (λb hb=>hs b (List.mem_cons_of_mem _ hb))
    rw [List.map_cons]
    unfold pT
    rw [h1,qw,h2]
    cases hp:p a with
    | true=>
      rw [Kg,h3 hp,ih]
      simp [hN,hp]
    | false=>
      rw [JU,ih]
      simp [hN,hp]
theorem Uh {α:Type} {inj:α->D} {p:α->Bool} {g:α->D} {q:List D->WS->Prop} (xs:List α) (acc:List D) (hN:N S) (hs:∀ a∈xs,∃ ρ1,f (inj a) ρ=some ρ1∧(∀ q x,mc ρ1 S q x=q (p a) S)∧(p a=true->∀ q x,me ρ1 S q x=q (g a) S))
    (h:q (acc++(xs.filter p).map g) S):pT N f mc me ρ (xs.map inj) acc S q:=by
  rw [nM xs acc hN hs]
  exact h
theorem bM {α:Type} {inj:α->D} {g:α->D} {q:List D->WS->Prop} (xs:List α) (hN:N S) (h:∀ a∈xs,∃ ρ1,f (inj a) ρ=some ρ1∧∀ q x,me ρ1 S q x=q (g a) S):pT N f cP me ρ (xs.map inj) [] S q=q (xs.map g) S:=by
  rw [nM (p:=λ_=>true) (g:=g) xs [] hN (λa ha=>by
    obtain ⟨ρ1,h1,h2⟩:=h a ha
    exact ⟨ρ1,h1,λ_ _=>rfl,λ_=>h2⟩),List.nil_append,List.filter_eq_self.mpr λ_ _=>rfl]
theorem Oz {α:Type} {inj:α->D} {g:α->D} {q:List D->WS->Prop} (xs:List α) (hN:N S) (h:∀ a∈xs,∃ ρ1,f (inj a) ρ=some ρ1∧∀ q x,me ρ1 S q x=q (g a) S) (hq:q (xs.map g) S):pT N f cP me ρ (xs.map inj) [] S q:=
  Uh (p:=λ_=>true) xs [] hN (λa ha=>by
    obtain ⟨ρ1,h1,h2⟩:=h a ha
    exact ⟨ρ1,h1,λ_ _=>rfl,λ_=>h2⟩) (by rw [List.nil_append,List.filter_eq_self.mpr λ_ _=>rfl]; exact hq)
end
theorem Ai {α:Type} {p:α->Bool}:∀ xs:List α,rj (xs.map λa=>D.bl (p a))=some (xs.map p)
  | []=>rfl
  | a :: xs=>by simp [rj,Ai xs]
theorem uy {α:Type} {S:WS} {p:α->Bool} {xs:List α}:yb S [.lst (xs.map λa=>D.bl (p a))]=some (.bl (xs.all p)):=by
  simp [yb,Ai,Function.comp_def]
theorem QO {α:Type} {S:WS} {p:α->Bool} {xs:List α}:J9 S [.lst (xs.map λa=>D.bl (p a))]=some (.bl (xs.any p)):=by
  simp [J9,Ai,Function.comp_def]
end RV
end
section
namespace RV
open PySem L2
def FO:Str:="abcdefghijklmnopqrstuvwxyz"
def digits:Str:="0123456789"
def signs:Str:="abcdefghijklmnopqrstuvwxyz0123456789"
def isLt (c:Nat):Bool:=decide (c∈FO.cps.toList)
def lK (c:Nat):Bool:=decide (c∈digits.cps.toList)
def Ek:List Nat->Bool
  | []=>false
  | c :: r=>isLt c && (decide (r.length≤7) && r.all λx=>isLt x || lK x)
def Nm (s:Str):Prop:=Ek s.cps.toList=true
theorem signs_at {i:Nat} (h:i < 36):∃ c,signs.cps.toList[i]? =some c∧(isLt c || lK c)=true∧(i < 26->isLt c=true):=by
  have:∀ i:Fin 36,(match signs.cps.toList[i.val]? with
    | some c=>(isLt c || lK c) && (decide (26≤i.val) || isLt c)
    | none=>false)=true:=by decide+kernel
  have t:=this ⟨i,h⟩
  simp only at t
  split at t
  · rename_i c e
    simp only [Bool.and_eq_true,Bool.or_eq_true,decide_eq_true_eq] at t
    exact ⟨c,e,by simpa using t.1,λhi=>by rcases t.2 with z | z; omega; exact z⟩
  · cases t
theorem Oq {r:Int} (h0:0≤r) (h:r < 36):∃ c,atI signs.cps.toList r=some c∧(isLt c || lK c)=true∧(r < 26->isLt c=true):=by
  obtain ⟨c,e,h1,h2⟩:=signs_at (i:=r.toNat) (by omega)
  refine ⟨c,?_,h1,λz=>h2 (by omega)⟩
  unfold atI ixN
  rw [if_pos h0,if_pos (show r < ((signs.cps.toList.length:Nat):Int) from h),Option.bind_some]
  exact e
theorem mV (a b:Str):(a++b).cps.toList=a.cps.toList++b.cps.toList:=by
  show (a.cps++b.cps).toList=_
  simp
theorem oG (a:Str):a.length=a.cps.toList.length:=by
  show a.cps.size=_
  simp
theorem iT {s:Str} (h:Nm s):1≤s.length∧s.length≤8:=by
  rw [oG]
  unfold Nm Ek at h
  split at h
  · cases h
  · rename_i c r e
    simp only [Bool.and_eq_true,decide_eq_true_eq] at h
    rw [e]
    simp
    omega
def words:List D:=[.str "pipe",.str "meter",.str "sealed",.str "self",.str "net",.str "tell",.str "if",.str "a"]
theorem US {c:Nat} (h:(isLt c || lK c)=true):c < 128:=by
  simp only [Bool.or_eq_true,isLt,lK,decide_eq_true_eq] at h
  have h1:∀ c∈FO.cps.toList,c < 128:=by decide+kernel
  have h2:∀ c∈digits.cps.toList,c < 128:=by decide+kernel
  rcases h with h | h
  · exact h1 c h
  · exact h2 c h
theorem PF {s:Str} (h:Nm s):∀ c∈s.cps.toList,(isLt c || lK c)=true:=by
  unfold Nm Ek at h
  split at h
  · cases h
  · rename_i a r e
    rw [e]
    simp only [Bool.and_eq_true,decide_eq_true_eq,List.all_eq_true] at h
    intro c hc
    rcases List.mem_cons.mp hc with z | z
    · subst z
      rw [h.1]
      rfl
    · exact h.2.2 c z
theorem JM {s:Str} (h:Nm s):PyData.strOk s=true:=by
  unfold PyData.strOk
  rw [← Array.all_toList,List.all_eq_true]
  intro c hc
  exact decide_eq_true (Nat.lt_trans (US (PF h c hc)) (by decide))
theorem qB {s:Str} (h:Nm s):small s.length=true:=decide_eq_true (by have:=(iT h).2; omega)
theorem Mp:∀ ts:List Str,D.Ac (ts.map D.str)=some (ts.map PyData.str)
  | []=>rfl
  | t :: ts=>by simp [D.Ac,D.py,Mp ts]
theorem JE:∀ ts:List Str,(∀ t∈ts,PyData.strOk t=true)->PyData.canLayAll0 (ts.map PyData.str)=true
  | [],_=>rfl
  | t :: ts,h=>by simp [PyData.canLayAll0,PyData.canLay0,h t (List.mem_cons_self ..),JE ts λu hu=>h u (List.mem_cons_of_mem _ hu)]
theorem DY:∀ ts:List Str,PyData.depthAll (ts.map PyData.str)=0
  | []=>rfl
  | t :: ts=>by simp [PyData.depthAll,PyData.depth,DY ts]
theorem KW {ts:List Str} (h:∀ t∈ts,PyData.strOk t=true):SeqAt.shaped (.list (ts.map PyData.str))=true:=by
  simp [SeqAt.shaped,PyData.canLay0,JE ts h,PyData.depth,DY]
theorem ne_nil {S:WS} {ts:List Str} (h:∀ t∈ts,PyData.strOk t=true):ni S (.lst (ts.map D.str)) (.lst [])=some (.bl (!ts.isEmpty)):=by
  have h2:SeqAt.shaped (.list [])=true:=rfl
  unfold ni qO oN
  simp only [kY,CB,D.py,Mp,D.Ac,Option.map_some,Option.bind_some,KW h,h2,and_self,if_true,Option.orElse]
  cases ts <;> rfl
theorem JW {α:Type} [DecidableEq α]:∀ (l ts:List α),l.Nodup->(∀ x∈l,x∈ts)->l.length≤ts.length
  | [],_,_,_=>Nat.zero_le _
  | x :: l,ts,hn,h=>by
    have hx:=h x (List.mem_cons_self ..)
    have hn2:=List.nodup_cons.mp hn
    have:=JW l (ts.erase x) hn2.2 λy hy=>(List.mem_erase_of_ne (λe:y=x=>hn2.1 (e ▸ hy))).mpr (h y (List.mem_cons_of_mem _ hy))
    rw [List.length_erase_of_mem hx] at this
    have:0 < ts.length:=List.length_pos_of_mem hx
    simp only [List.length_cons]
    omega
theorem BF {a b:Str} (h:a.cps.toList=b.cps.toList):a=b:=by
  obtain ⟨⟨x⟩⟩:=a
  obtain ⟨⟨y⟩⟩:=b
  have:x=y:=h
  rw [this]
theorem wY {S:WS} {x:D} {neg:Bool} {t:Str} {ts:List Str} (h:br S x=some (ts.map D.str)):inD neg S (.str t) x=some (.bl (if neg then decide (t∉ts) else decide (t∈ts))):=by
  have h1:(ts.map D.str).all kF=true:=by
    rw [List.all_eq_true]
    intro x hx
    obtain ⟨u,_,rfl⟩:=List.mem_map.mp hx
    rfl
  have h2:((ts.map D.str).any λy=>n9 y (.str t))=decide (t∈ts):=by
    rw [Bool.eq_iff_iff,List.any_eq_true,decide_eq_true_eq]
    constructor
    · rintro ⟨x,hx,e⟩
      obtain ⟨u,hu,rfl⟩:=List.mem_map.mp hx
      have:u=t:=eq_of_beq (show (u == t)=true from e)
      exact this ▸ hu
    · exact λh=>⟨.str t,List.mem_map.mpr ⟨t,h,rfl⟩,(beq_self_eq_true t:(t == t)=true)⟩
  simp only [inD,h,Option.bind_some,kF,h1,and_self,if_true,h2]
  cases neg <;> simp
theorem cG {s t:Str}:(s++t).length=s.length+t.length:=by
  rw [oG,mV,List.length_append,oG,oG]
theorem MC {c:Nat}:Str.length ⟨#[c]⟩=1:=rfl
inductive vP (S:WS):D->List Str->Prop where
  | lst {ts:List Str}:vP S (.lst (ts.map D.str)) ts
  | cell {j:Nat} {ts:List Str}:S[j]? =some (.lst (ts.map D.str))->vP S (.cell j) ts
section
variable {S:WS} {x:D} {ts:List Str}
theorem vP.items (h:vP S x ts):br S x=some (ts.map D.str):=by
  cases h with
  | lst=>rfl
  | cell h=>simp only [br,h]
theorem vP.ne (h:vP S x ts) (hs:∀ t∈ts,Nm t):ni S x (.lst [])=some (.bl (!ts.isEmpty)):=by
  have e:=ne_nil (S:=S) (ts:=ts) λt ht=>JM (hs t ht)
  cases h with
  | lst=>exact e
  | cell h=>
    unfold ni qO oN at e ⊢
    simp only [kY,CB,D.py,h,Bx,yX] at e ⊢
    exact e
theorem vP.len (h:vP S x ts):bQ S [x]=some (.int (ts.length:Nat)):=by
  cases h with
  | lst=>simp [bQ,br]
  | cell h=>simp [bQ,br,h]
theorem vP.ix (h:vP S x ts) {r:Int} {d:D} (hd:atI (ts.map D.str) r=some d):aH S x (.int r)=some d:=by
  cases h with
  | lst=>simp only [aH,hd]
  | cell h=>simp only [aH,h,hd]
end
end RV
end
section
namespace RV
def aL (g:Nat->Int):Nat->Int
  | 0=>0
  | m+1=>aL g m+g m
section
variable {g h:Nat->Int} {m n:Nat}
theorem aY:∀ {m:Nat},(∀ i,i < m->g i=h i)->aL g m=aL h m
  | 0,_=>rfl
  | m+1,e=>by
    unfold aL
    rw [aY λi hi=>e i (by omega),e m (by omega)]
theorem eG:∀ {m:Nat},(∀ i,i < m->g i=0)->aL g m=0
  | 0,_=>rfl
  | m+1,e=>by
    unfold aL
    rw [eG λi hi=>e i (by omega),e m (by omega)]
    rfl
theorem lN:∀ {m:Nat},aL (λi=>g i+h i) m=aL g m+aL h m
  | 0=>rfl
  | m+1=>by
    unfold aL
    rw [lN]
    omega
theorem t6:∀ {m:Nat},aL (λi=>g i - h i) m=aL g m - aL h m
  | 0=>rfl
  | m+1=>by
    unfold aL
    rw [t6]
    omega
theorem sQ:∀ {m:Nat},(∀ i,i < m->g i≤h i)->aL g m≤aL h m
  | 0,_=>Int.le_refl _
  | m+1,e=>by
    unfold aL
    have h1:=sQ λi hi=>e i (Nat.lt_succ_of_lt hi)
    have h2:=e m (by omega)
    omega
theorem gA {j:Nat} {c:Int}:∀ {m:Nat},aL (λi=>if i=j then c else 0) m=if j < m then c else 0
  | 0=>by simp [aL]
  | m + 1=>by
    unfold aL
    rw [gA]
    by_cases h1:j < m
    · rw [if_pos h1,if_neg (by omega),if_pos (by omega)]
      omega
    · by_cases h2:m=j
      · rw [if_neg h1,if_pos h2,if_pos (by omega)]
        omega
      · rw [if_neg h1,if_neg h2,if_neg (by omega)]
        omega
theorem vf {f:Nat->Nat->Int}:∀ {m:Nat},aL (λi=>aL (λj=>f i j) n) m=aL (λj=>aL (λi=>f i j) m) n
  | 0=>by
    show (0:Int)=aL (λj=>aL (λi=>f i j) 0) n
    exact (eG λ_ _=>rfl).symm
  | m+1=>by
    show aL (λi=>aL (λj=>f i j) n) m+aL (λj=>f m j) n=_
    rw [vf,← lN]
    rfl
theorem El {c:Int}:∀ {m:Nat},aL (λ_=>c) m=c * (m:Nat)
  | 0=>by simp [aL]
  | m+1=>by
    unfold aL
    rw [El,Int.natCast_succ,Int.mul_add]
    omega
theorem GH {a b:Nat}:∀ m:Nat,aL (λk=>if a≤k∧k < b then 1 else 0) m≤((min m b - a:Nat):Int)
  | 0=>by simp [aL]
  | m +1=>by
    have ih:=GH (a:=a) (b:=b) m
    show aL (λk=>if a≤k∧k < b then 1 else 0) m+(if a≤m∧m < b then 1 else 0)≤_
    by_cases h:a≤m∧m < b
    · rw [if_pos h]
      omega
    · rw [if_neg h]
      omega
theorem J8 {a b m:Nat}:aL (λk=>if a≤k∧k < b then 1 else 0) m≤((b - a:Nat):Int):=by
  have:=GH (a:=a) (b:=b) m
  omega
end
structure Gr where
  m:Nat
  s:Nat->Nat
  t:Nat->Nat
  l:Nat->Option Nat
def Gr.JX (G:Gr) (i:Nat) (b:Bool) (u v c:Nat):Prop:=i < G.m∧G.l i=some c∧(if b then G.s i=u∧G.t i=v else G.s i=v∧G.t i=u)
inductive Way (G:Gr) (o:Nat):Nat->List Nat->List (Nat×Bool)->Nat->Prop where
  | nil:Way G o o [o] [] 0
  | snoc {u v i c a:Nat} {b:Bool} {vs:List Nat} {st:List (Nat×Bool)}:Way G o u vs st a->G.JX i b u v c->v∉vs->Way G o v (v :: vs) ((i,b) :: st) (a+c)
section
variable {G:Gr} {o u v i c a:Nat} {b:Bool} {vs:List Nat} {st:List (Nat×Bool)}
theorem Way.cut (w:Way G o u vs st a) (h:v∈vs):∃ vs' st' a',Way G o v vs' st' a'∧a'≤a:=by
  induction w with
  | nil=>
    rw [List.mem_singleton] at h
    subst h
    exact ⟨_,_,_,.nil,Nat.le_refl _⟩
  | snoc w ar hv ih=>
    rcases List.mem_cons.mp h with rfl | h
    · exact ⟨_,_,_,.snoc w ar hv,Nat.le_refl _⟩
    · obtain ⟨vs',st',a',w',e⟩:=ih h
      exact ⟨vs',st',a',w',by omega⟩
theorem Way.on (w:Way G o u vs st a) (ar:G.JX i b u v c):∃ vs' st' a',Way G o v vs' st' a'∧a'≤a+c:=by
  by_cases h:v∈vs
  · obtain ⟨vs',st',a',w',e⟩:=w.cut h
    exact ⟨vs',st',a',w',by omega⟩
  · exact ⟨_,_,_,.snoc w ar h,Nat.le_refl _⟩
theorem Way.head (w:Way G o u vs st a):u∈vs:=by
  cases w with
  | nil=>exact List.mem_singleton.mpr rfl
  | snoc=>exact List.mem_cons_self ..
theorem Way.nd (w:Way G o u vs st a):vs.Nodup:=by
  induction w with
  | nil=>simp
  | snoc _ _ hv ih=>exact List.nodup_cons.mpr ⟨hv,ih⟩
theorem Way.len (w:Way G o u vs st a):vs.length=st.length+1:=by
  induction w with
  | nil=>rfl
  | snoc _ _ _ ih=>simp only [List.length_cons,ih]
theorem Way.lt {n:Nat} (w:Way G o u vs st a) (ho:o < n) (hn:∀ i,i < G.m->G.s i < n∧G.t i < n):∀ x∈vs,x < n:=by
  induction w with
  | nil=>
    intro x hx
    rw [List.mem_singleton] at hx
    omega
  | snoc _ ar _ ih=>
    intro x hx
    rcases List.mem_cons.mp hx with rfl | hx
    · obtain ⟨h1,_,h3⟩:=ar
      have:=hn _ h1
      split at h3
      · omega
      · omega
    · exact ih x hx
theorem RN {n:Nat}:∀ {l:List Nat},l.Nodup->(∀ x∈l,x < n)->l.length≤n:=λ{l} h1 h2=>by
  have:∀ (n:Nat) (l:List Nat),l.Nodup->(∀ x∈l,x < n)->l.length≤n:=λn=>by
    induction n with
    | zero=>
      intro l _ h
      cases l with
      | nil=>exact Nat.le_refl _
      | cons a l=>exact absurd (h a (List.mem_cons_self ..)) (by omega)
    | succ n ih=>
      intro l nd h
      have h1:=ih (l.erase n) (nd.erase n) λx hx=>by
        have hx':=(nd.mem_erase_iff).mp hx
        have:=h x hx'.2
        omega
      by_cases hm:n∈l
      · rw [List.length_erase_of_mem hm] at h1
        omega
      · rw [List.erase_of_not_mem hm] at h1
        omega
  exact this n l h1 h2
theorem Way.ends (w:Way G o u vs st a):∀ j d,(j,d)∈st->j < G.m∧G.s j∈vs∧G.t j∈vs∧∃ c,G.l j=some c:=by
  induction w with
  | nil=>intro j d h; cases h
  | snoc w ar hv ih=>
    intro j d h
    rcases List.mem_cons.mp h with e | h
    · cases e
      obtain ⟨h1,h2,h3⟩:=ar
      have hu:=w.head
      split at h3
      · obtain ⟨rfl,rfl⟩:=h3
        exact ⟨h1,List.mem_cons_of_mem _ hu,List.mem_cons_self ..,_,h2⟩
      · obtain ⟨rfl,rfl⟩:=h3
        exact ⟨h1,List.mem_cons_self ..,List.mem_cons_of_mem _ hu,_,h2⟩
    · obtain ⟨h1,h2,h3,h4⟩:=ih j d h
      exact ⟨h1,List.mem_cons_of_mem _ h2,List.mem_cons_of_mem _ h3,h4⟩
def sg (b:Bool):Int:=if b then 1 else -1
def along:List (Nat×Bool)->Nat->Int
  | [],_=>0
  | (j,b) :: st,i=>along st i+if i=j then sg b else 0
def bL (G:Gr) (f:Nat->Int) (x:Nat):Int:=aL (λi=>(if G.t i=x then f i else 0) - (if G.s i=x then f i else 0)) G.m
theorem m6 {f g:Nat->Int} {x:Nat}:bL G (λi=>f i+g i) x=bL G f x+bL G g x:=by
  unfold bL
  rw [← lN]
  refine aY λi _=>?_
  dsimp only
  split <;> split <;> omega
theorem sW {x j:Nat} {c:Int} (hj:j < G.m):bL G (λi=>if i=j then c else 0) x=(if G.t j=x then c else 0) - (if G.s j=x then c else 0):=by
  unfold bL
  rw [aY (h:=λi=>if i=j then (if G.t j=x then c else 0) - (if G.s j=x then c else 0) else 0),gA,if_pos hj]
  intro i _
  by_cases e:i=j
  · subst e
    simp
  · simp [e]
theorem Dg {i:Nat}:∀ {st:List (Nat×Bool)},(∀ d,(i,d)∉st)->along st i=0
  | [],_=>rfl
  | (j,b) :: st,h=>by
    unfold along
    rw [Dg λd hd=>h d (List.mem_cons_of_mem _ hd),if_neg (λe=>h b (by rw [e]; exact List.mem_cons_self ..))]
    rfl
theorem Way.bL (w:Way G o u vs st a) (x:Nat):bL G (along st) x=(if u=x then 1 else 0) - (if o=x then 1 else 0):=by
  induction w with
  | nil=>
    unfold RV.bL
    rw [eG λi _=>by simp [along]]
    omega
  | snoc w ar hv ih=>
    rename_i u v i c a b vs st
    have e:along ((i,b) :: st)=λk=>along st k+if k=i then sg b else 0:=rfl
    rw [e,m6,ih,sW ar.1]
    obtain ⟨_,_,h3⟩:=ar
    cases b with
    | true=>
      obtain ⟨rfl,rfl⟩:=h3
      simp only [sg,if_true]
      omega
    | false=>
      obtain ⟨rfl,rfl⟩:=h3
      simp only [sg,Bool.false_eq_true,if_false]
      split <;> split <;> split <;> omega
theorem Way.unit (w:Way G o u vs st a) (j:Nat):along st j=0∨along st j=1∨along st j= -1:=by
  induction w with
  | nil=>exact .inl rfl
  | snoc w ar hv ih=>
    rename_i u v i c a b vs st
    unfold along
    by_cases e:j=i
    · subst e
      rw [if_pos rfl,Dg λd hd=>?_]
      · cases b <;> simp [sg]
      · obtain ⟨_,h1,h2,_⟩:=w.ends j d hd
        obtain ⟨_,_,h3⟩:=ar
        split at h3
        · exact hv (h3.2 ▸ h2)
        · exact hv (h3.1 ▸ h1)
    · rw [if_neg e]
      simpa using ih
theorem Way.Gp (w:Way G o u vs st a) {j:Nat} (h:G.l j=none):along st j=0:=Dg λd hd=>by
  obtain ⟨_,_,_,c,e⟩:=w.ends j d hd
  rw [h] at e
  cases e
def cost (f:Nat->Int) (wt:Nat->Nat) (m:Nat):Int:=aL (λi=>if f i≠0 then (wt i:Int) else 0) m
theorem Way.cost {wt:Nat->Nat} (hw:∀ i c,G.l i=some c->wt i=c) (w:Way G o u vs st a):RV.cost (along st) wt G.m≤a:=by
  induction w with
  | nil=>
    unfold RV.cost
    rw [eG λi _=>by simp [along]]
    simp
  | snoc w ar hv ih=>
    rename_i u v i c a b vs st
    have h1:RV.cost (along ((i,b) :: st)) wt G.m≤aL (λk=>(if along st k≠0 then (wt k:Int) else 0)+(if k=i then (c:Int) else 0)) G.m:=by
      refine sQ λk _=>?_
      by_cases e:k=i
      · subst e
        rw [if_pos rfl,hw _ _ ar.2.1]
        have hc:(0:Int)≤(c:Int):=Int.natCast_nonneg c
        split
        · split
          · omega
          · omega
        · split
          · omega
          · omega
      · have:along ((i,b) :: st) k=along st k:=by
          show along st k+(if k=i then sg b else 0)=along st k
          rw [if_neg e]
          omega
        rw [this,if_neg e]
        omega
    rw [lN,gA,if_pos ar.1] at h1
    unfold RV.cost at ih h1 ⊢
    omega
end
def cutS (G:Gr) (f:Nat->Int) (S:Nat->Bool):Int:=aL (λi=>(if S (G.t i) then f i else 0) - (if S (G.s i) then f i else 0)) G.m
theorem Qx {G:Gr} {n:Nat} {f:Nat->Int} {S:Nat->Bool} (hn:∀ i,i < G.m->G.s i < n∧G.t i < n) (h:∀ x,x < n->bL G f x=0):RV.cutS G f S=0:=by
  have e:RV.cutS G f S=aL (λx=>if S x then bL G f x else 0) n:=by
    have e1:∀ (y:Nat) (c:Int),y < n->aL (λx=>if S x=true∧y=x then c else 0) n=if S y then c else 0:=λy c hy=>by
      rw [aY (h:=λx=>if x=y then (if S y then c else 0) else 0),gA,if_pos hy]
      intro x _
      by_cases e:x=y
      · subst e
        simp
      · have:¬ (S x=true∧y=x):=λz=>e z.2.symm
        rw [if_neg this,if_neg e]
    have e2:aL (λx=>if S x then bL G f x else 0) n=aL (λx=>aL (λi=>(if S x=true∧G.t i=x then f i else 0) - (if S x=true∧G.s i=x then f i else 0)) G.m) n:=by
      refine aY λx _=>?_
      unfold bL
      cases S x with
      | true=>simp
      | false=>
        simp only [Bool.false_eq_true,if_false,false_and,Int.sub_zero]
        exact (eG λ_ _=>rfl).symm
    rw [e2,vf]
    refine aY λi hi=>?_
    rw [t6,e1 _ _ (hn i hi).2,e1 _ _ (hn i hi).1]
  rw [e]
  refine eG λx hx=>?_
  rw [h x hx]
  simp
def V9 (G:Gr) (d:Nat->Option Nat):Prop:=∀ i b u v c a,G.JX i b u v c->d u=some a->∃ a',d v=some a'∧a'≤a+c
theorem Rl {G:Gr} {n p:Nat} {f:Nat->Int} {d:Nat->Option Nat} {wt:Nat->Nat} (hn:∀ i,i < G.m->G.s i < n∧G.t i < n) (hf:∀ x,x < n->bL G f x=0) (hp:p < G.m) (lp:G.l p=none) (fp:f p=1) (hs:∀ i,i < G.m->i≠p->f i≠0->G.l i=some (wt i)) (hd:V9 G d) (h0:d (G.t p)=some 0):
    ∃ far,d (G.s p)=some far∧(far:Int)+wt p≤cost f wt G.m:=by
  have cross:∀ S:Nat->Bool,S (G.t p)=true->S (G.s p)=false->∃ i,i < G.m∧i≠p∧f i≠0∧S (G.s i)≠S (G.t i):=λS s1 s2=>by
    refine Classical.byContradiction λhno=>?_
    have z:=Qx (S:=S) hn hf
    unfold RV.cutS at z
    rw [aY (h:=λi=>if i=p then 1 else 0),gA,if_pos hp] at z
    · exact absurd z (by decide)
    · intro i hi
      by_cases e:i=p
      · subst e
        rw [s1,s2,fp]
        simp
      · rw [if_neg e]
        by_cases h1:f i=0
        · rw [h1]
          simp
        · have:S (G.s i)=S (G.t i):=Classical.byContradiction λh2=>hno ⟨i,hi,e,h1,h2⟩
          rw [this]
          omega
  have arcs:∀ i,i < G.m->i≠p->f i≠0->G.JX i true (G.s i) (G.t i) (wt i)∧G.JX i false (G.t i) (G.s i) (wt i):=λi h1 h2 h3=>⟨⟨h1,hs i h1 h2 h3,rfl,rfl⟩,h1,hs i h1 h2 h3,rfl,rfl⟩
  cases hfar:d (G.s p) with
  | none=>
    exfalso
    obtain ⟨i,h1,h2,h3,h4⟩:=cross (λx=>(d x).isSome) (by simp [h0]) (by simp [hfar])
    obtain ⟨a1,a2⟩:=arcs i h1 h2 h3
    cases e1:d (G.s i) with
    | none=>
      cases e2:d (G.t i) with
      | none=>simp [e1,e2] at h4
      | some a=>
        obtain ⟨a',z,_⟩:=hd _ _ _ _ _ _ a2 e2
        rw [e1] at z
        cases z
    | some a=>
      obtain ⟨a',z,_⟩:=hd _ _ _ _ _ _ a1 e1
      simp [e1,z] at h4
  | some far=>
    refine ⟨far,rfl,?_⟩
    let dd:Nat->Nat:=λx=>(d x).getD (far+1)
    let cr:Nat->Nat->Int:=λk i=>if i≠p∧f i≠0∧decide (dd (G.s i)≤k)≠decide (dd (G.t i)≤k) then 1 else 0
    have c0:∀ k i,0≤cr k i:=λk i=>by
      show 0≤(if _ then _ else _:Int)
      split <;> omega
    have h1:∀ k,k < far->1≤aL (cr k) G.m:=λk hk=>by
      obtain ⟨i,q1,q2,q3,q4⟩:=cross (λx=>decide (dd x≤k)) (by simp [dd,h0]) (by simp [dd,hfar]; omega)
      have:aL (λj=>if j=i then (1:Int) else 0) G.m≤aL (cr k) G.m:=sQ λj _=>by
        by_cases e:j=i
        · subst e
          rw [if_pos rfl]
          show 1≤(if _ then _ else _:Int)
          rw [if_pos ⟨q2,q3,q4⟩]
          omega
        · rw [if_neg e]
          exact c0 k j
      rw [gA,if_pos q1] at this
      exact this
    have h2 : ∀ i,i < G.m->aL (λk=>cr k i) far≤if i≠p∧f i≠0 then (wt i:Int) else 0:=λi hi=>by
      by_cases e:i≠p∧f i≠0
      · rw [if_pos e]
        obtain ⟨a1,a2⟩:=arcs i hi e.1 e.2
        have bound:∀ x y:Nat,dd x≤dd y->(∀ a,d x=some a->∃ a',d y=some a'∧a'≤a+wt i)->(∀ k,k < far->(decide (dd x≤k)≠decide (dd y≤k)↔dd x≤k∧k < dd y))∧(dd x < far->dd y - dd x≤wt i):=λx y hxy hh=>by
          refine ⟨λk _=>?_,λhx=>?_⟩
          · constructor
            · intro z
              by_cases z1:dd x≤k
              · by_cases z2:dd y≤k
                · simp [z1,z2] at z
                · omega
              · have:¬ dd y≤k:=by omega
                simp [z1,this] at z
            · intro z
              have z2:¬ dd y≤k:=by omega
              simp [z.1,z2]
          · cases ex:d x with
            | none=>
              have:dd x=far+1:=by simp [dd,ex]
              omega
            | some a=>
              obtain ⟨a',z,hle⟩:=hh a ex
              have z1:dd x=a:=by simp [dd,ex]
              have z2:dd y=a':=by simp [dd,z]
              omega
        have fin:∀ x y:Nat,dd x≤dd y->(∀ a,d x=some a->∃ a',d y=some a'∧a'≤a+wt i)->(∀ k,cr k i=if decide (dd x≤k)≠decide (dd y≤k) then 1 else 0)->aL (λk=>cr k i) far≤(wt i:Int):=λx y hxy hh hc=>by
          obtain ⟨b1,b2⟩:=bound x y hxy hh
          rw [aY (h:=λk=>if dd x≤k∧k < dd y then 1 else 0)]
          · by_cases hx:dd x < far
            · have:=J8 (a:=dd x) (b:=dd y) (m:=far)
              have:=b2 hx
              omega
            · rw [eG λk hk=>by rw [if_neg (by omega)]]
              exact Int.natCast_nonneg _
          · intro k hk
            rw [hc k]
            by_cases z:dd x≤k∧k < dd y
            · rw [if_pos ((b1 k hk).2 z),if_pos z]
            · rw [if_neg (λq=>z ((b1 k hk).1 q)),if_neg z]
        rcases Nat.le_total (dd (G.s i)) (dd (G.t i)) with le | le
        · refine fin _ _ le (λa ha=>hd _ _ _ _ _ _ a1 ha) λk=>?_
          show (if _ then _ else _:Int)=_
          simp only [ne_eq,e.1,not_false_eq_true,e.2,true_and]
        · refine fin _ _ le (λa ha=>hd _ _ _ _ _ _ a2 ha) λk=>?_
          show (if _ then _ else _:Int)=_
          have:(decide (dd (G.s i)≤k)≠decide (dd (G.t i)≤k))↔(decide (dd (G.t i)≤k)≠decide (dd (G.s i)≤k)):=ne_comm
          simp only [ne_eq,e.1,not_false_eq_true,e.2,true_and] at this ⊢
          simp only [this]
      · rw [if_neg e]
        rw [eG λk _=>?_]
        · exact Int.le_refl _
        · show (if _ then _ else _:Int)=0
          rw [if_neg λz=>e ⟨z.1,z.2.1⟩]
    have s1:(far:Int)≤aL (λk=>aL (cr k) G.m) far:=by
      have:=sQ (g:=λ_=>1) (h:=λk=>aL (cr k) G.m) (m:=far) h1
      rw [El] at this
      omega
    have s2:aL (λk=>aL (cr k) G.m) far≤aL (λi=>if i≠p∧f i≠0 then (wt i:Int) else 0) G.m:=by
      rw [show aL (λk=>aL (cr k) G.m) far=aL (λi=>aL (λk=>cr k i) far) G.m from vf (f:=cr)]
      exact sQ h2
    have s3:aL (λi=>if i≠p∧f i≠0 then (wt i:Int) else 0) G.m+wt p=cost f wt G.m:=by
      have:=gA (j:=p) (c:=(wt p:Int)) (m:=G.m)
      rw [if_pos hp] at this
      rw [← this,← lN]
      refine aY λi _=>?_
      by_cases e:i=p
      · subst e
        simp [fp]
      · simp [e]
    omega
end RV
end
section
namespace RV
abbrev Dl:=List (Option Nat)
def iQ (d:Dl) (i:Nat):Option Nat:=match d[i]? with
  | some o=>o
  | none=>none
def pU (d:Dl) (u v c:Nat):Dl:=match iQ d u with
  | none=>d
  | some a=>match iQ d v with
    | none=>d.set v (some (a+c))
    | some b=>if a+c < b then d.set v (some (a+c)) else d
abbrev Es:=List (Nat×Nat×Option Nat)
def stepF (d:Dl) (e:Nat×Nat×Option Nat):Dl:=match e.2.2 with
  | none=>d
  | some c=>pU (pU d e.1 e.2.1 c) e.2.1 e.1 c
def roundF (es:Es) (d:Dl):Dl:=es.foldl stepF d
def Lm (es:Es):Nat->Dl->Dl
  | 0,d=>d
  | k+1,d=>Lm es k (roundF es d)
def bq (es:Es):Gr:=⟨es.length,λi=>(es.getD i (0,0,none)).1,λi=>(es.getD i (0,0,none)).2.1,λi=>(es.getD i (0,0,none)).2.2⟩
section
variable {d d':Dl} {u v c a b i:Nat} {es:Es} {o n:Nat}
theorem sS (hv:v < d.length) {x:Option Nat}:iQ (d.set v x) i=if i=v then x else iQ d i:=by
  unfold iQ
  by_cases e:i=v
  · subst e
    rw [List.getElem?_set_self hv,if_pos rfl]
  · rw [List.getElem?_set_ne (λz=>e z.symm),if_neg e]
def r_ (d' d:Dl):Prop:=d'.length=d.length∧∀ v a,iQ d v=some a->∃ a',iQ d' v=some a'∧a'≤a
theorem r_.refl (d:Dl):r_ d d:=⟨rfl,λv a h=>⟨a,h,Nat.le_refl _⟩⟩
theorem r_.trans {d'':Dl} (h:r_ d'' d') (h':r_ d' d):r_ d'' d:=⟨h.1.trans h'.1,λv a e=>by
  obtain ⟨a1,e1,l1⟩:=h'.2 v a e
  obtain ⟨a2,e2,l2⟩:=h.2 v a1 e1
  exact ⟨a2,e2,Nat.le_trans l2 l1⟩⟩
theorem GB (h:¬ v < d.length) {x:Option Nat}:d.set v x=d:=List.set_eq_of_length_le (Nat.le_of_not_lt h)
theorem sY:r_ (pU d u v c) d:=by
  unfold pU
  cases e1:iQ d u with
  | none=>exact r_.refl _
  | some a=>
    dsimp only
    by_cases hv:v < d.length
    · cases e2:iQ d v with
      | none=>
        refine ⟨List.length_set,λi x h=>⟨x,?_,Nat.le_refl _⟩⟩
        rw [sS hv,if_neg (λz=>by rw [z,e2] at h; cases h)]
        exact h
      | some b=>
        dsimp only
        split
        · rename_i hlt
          refine ⟨List.length_set,λi x h=>?_⟩
          rw [sS hv]
          by_cases z:i=v
          · subst z
            rw [e2] at h
            cases h
            exact ⟨_,if_pos rfl,Nat.le_of_lt hlt⟩
          · exact ⟨x,by rw [if_neg z]; exact h,Nat.le_refl _⟩
        · exact r_.refl _
    · cases e2:iQ d v with
      | none=>
        dsimp only
        rw [GB hv]
        exact r_.refl _
      | some b=>
        dsimp only
        split
        · rw [GB hv]
          exact r_.refl _
        · exact r_.refl _
theorem JT (hv:v < d.length) (hu:iQ d u=some a):∃ b,iQ (pU d u v c) v=some b∧b≤a+c:=by
  unfold pU
  rw [hu]
  dsimp only
  cases e2:iQ d v with
  | none=>exact ⟨_,by dsimp only; rw [sS hv,if_pos rfl],Nat.le_refl _⟩
  | some b=>
    dsimp only
    split
    · exact ⟨_,by rw [sS hv,if_pos rfl],Nat.le_refl _⟩
    · exact ⟨b,e2,by omega⟩
theorem Rc {e:Nat×Nat×Option Nat}:r_ (stepF d e) d:=by
  unfold stepF
  split
  · exact r_.refl _
  · exact sY.trans sY
theorem ow:∀ {es:Es} {d:Dl},r_ (es.foldl stepF d) d
  | [],d=>r_.refl d
  | e :: es,d=>(ow (es:=es)).trans Rc
def xM (G:Gr) (o:Nat) (d:Dl):Prop:=∀ v a,iQ d v=some a->∃ vs st a',Way G o v vs st a'∧a'≤a
theorem JY {G:Gr} {b:Bool} (ar:G.JX i b u v c) (w:xM G o d):xM G o (pU d u v c):=by
  unfold pU
  cases e1:iQ d u with
  | none=>exact w
  | some a=>
    have new:xM G o (d.set v (some (a+c))):=λx y h=>by
      by_cases hv:v < d.length
      · rw [sS hv] at h
        split at h
        · rename_i z
          subst z
          cases h
          obtain ⟨vs,st,a',w',l⟩:=w u a e1
          obtain ⟨vs2,st2,a2,w2,l2⟩:=w'.on ar
          exact ⟨vs2,st2,a2,w2,by omega⟩
        · exact w x y h
      · rw [GB hv] at h
        exact w x y h
    dsimp only
    cases e2:iQ d v with
    | none=>exact new
    | some b=>
      dsimp only
      split
      · exact new
      · exact w
theorem sF {e:Nat×Nat×Option Nat} (h:es[i]? =some e):i < (bq es).m∧(bq es).s i=e.1∧(bq es).t i=e.2.1∧(bq es).l i=e.2.2:=by
  have hl:=(List.getElem?_eq_some_iff.mp h).1
  refine ⟨hl,?_,?_,?_⟩ <;> simp [bq,List.getD_eq_getElem?_getD,h]
theorem OO {e:Nat×Nat×Option Nat} (h:es[i]? =some e) (w:xM (bq es) o d):xM (bq es) o (stepF d e):=by
  obtain ⟨h1,h2,h3,h4⟩:=sF h
  unfold stepF
  split
  · exact w
  · rename_i c hc
    rw [hc] at h4
    exact JY (i:=i) (b:=false) ⟨h1,h4,h2,h3⟩ (JY (i:=i) (b:=true) ⟨h1,h4,h2,h3⟩ w)
theorem Nq (w:xM (bq es) o d):xM (bq es) o (roundF es d):=by
  have go:∀ (r:Es) (d:Dl),(∀ e∈r,∃ i,es[i]? =some e)->xM (bq es) o d->xM (bq es) o (r.foldl stepF d):=λr=>by
    induction r with
    | nil=>exact λ_ _ w=>w
    | cons e r ih=>
      intro d h w
      obtain ⟨i,hi⟩:=h e (List.mem_cons_self ..)
      exact ih _ (λe he=>h e (List.mem_cons_of_mem _ he)) (OO hi w)
  exact go es d (λe he=>List.getElem?_of_mem he) w
def Up (G:Gr) (o k:Nat) (d:Dl):Prop:=∀ v vs st a,Way G o v vs st a->st.length≤k->∃ b,iQ d v=some b∧b≤a
theorem O8 {k:Nat} (hn:∀ e∈es,e.1 < d.length∧e.2.1 < d.length) (h:Up (bq es) o k d):Up (bq es) o (k+1) (roundF es d):=λv vs st a w hl=>by
  cases w with
  | nil=>
    obtain ⟨b,e,l⟩:=h _ _ _ _ .nil (Nat.zero_le _)
    obtain ⟨b',e',l'⟩:=(ow (es:=es) (d:=d)).2 _ _ e
    exact ⟨b',e',by omega⟩
  | snoc w ar hv=>
    rename_i u i c a b vs st
    simp only [List.length_cons] at hl
    obtain ⟨a0,e0,l0⟩:=h _ _ _ _ w (by omega)
    obtain ⟨h1,h2,h3⟩:=ar
    have hi:es[i]? =some es[i]:=List.getElem?_eq_getElem h1
    obtain ⟨_,g1,g2,g3⟩:=sF hi
    have hmem:es[i]∈es:=List.getElem_mem _
    have hb:=hn _ hmem
    have he:es=es.take i++es[i] :: es.drop (i+1):=by
      rw [← List.drop_eq_getElem_cons h1,List.take_append_drop]
    unfold roundF
    rw [he,List.foldl_append,List.foldl_cons]
    have L1:=ow (es:=es.take i) (d:=d)
    generalize (es.take i).foldl stepF d=d1 at L1 ⊢
    obtain ⟨a1,e1,l1⟩:=L1.2 _ _ e0
    have hit:∃ b,iQ (stepF d1 es[i]) v=some b∧b≤a1+c:=by
      rw [h2] at g3
      unfold stepF
      rw [← g3]
      dsimp only
      cases b with
      | true=>
        obtain ⟨rfl,rfl⟩:=h3
        rw [g1] at e1
        rw [g2]
        obtain ⟨b,z1,z2⟩:=JT (d:=d1) (u:=es[i].1) (v:=es[i].2.1) (c:=c) (by rw [L1.1]; exact hb.2) e1
        obtain ⟨b',z3,z4⟩:=(sY (d:=pU d1 es[i].1 es[i].2.1 c) (u:=es[i].2.1) (v:=es[i].1) (c:=c)).2 _ _ z1
        exact ⟨b',z3,by omega⟩
      | false=>
        obtain ⟨rfl,rfl⟩:=h3
        rw [g2] at e1
        rw [g1]
        obtain ⟨b,z1,z2⟩:=(sY (d:=d1) (u:=es[i].1) (v:=es[i].2.1) (c:=c)).2 _ _ e1
        obtain ⟨b',z3,z4⟩:=JT (d:=pU d1 es[i].1 es[i].2.1 c) (u:=es[i].2.1) (v:=es[i].1) (c:=c) (by rw [sY.1,L1.1]; exact hb.1) z1
        exact ⟨b',z3,by omega⟩
    obtain ⟨b2,z1,z2⟩:=hit
    obtain ⟨b3,z3,z4⟩:=(ow (es:=es.drop (i+1)) (d:=stepF d1 es[i])).2 _ _ z1
    exact ⟨b3,z3,by omega⟩
theorem Mv:∀ {k:Nat} {d:Dl},(Lm es k d).length=d.length
  | 0,d=>rfl
  | k+1,d=>(Mv (k:=k)).trans ow.1
theorem Mr:∀ {k:Nat} {d:Dl},xM (bq es) o d->xM (bq es) o (Lm es k d)
  | 0,d,w=>w
  | k+1,d,w=>Mr (k:=k) (Nq w)
theorem Qh:∀ {k j:Nat} {d:Dl},(∀ e∈es,e.1 < d.length∧e.2.1 < d.length)->Up (bq es) o j d->Up (bq es) o (j+k) (Lm es k d)
  | 0,j,d,_,h=>h
  | k+1,j,d,hn,h=>by
    have:=Qh (k:=k) (j:=j+1) (d:=roundF es d) (λe he=>by rw [show (roundF es d).length=d.length from ow.1]; exact hn e he) (O8 hn h)
    rw [show j+(k+1)=j+1+k by omega]
    exact this
def kB (es:Es) (n o:Nat):Dl:=Lm es n ((List.replicate n none).set o (some 0))
theorem Jc (ho:o < n):iQ ((List.replicate n (none:Option Nat)).set o (some 0)) i=if i=o then some 0 else none:=by
  rw [sS (by simpa using ho)]
  by_cases e:i=o
  · simp [e]
  · rw [if_neg e,if_neg e]
    unfold iQ
    by_cases h:i < n
    · simp [h]
    · simp [h]
theorem Du (ho:o < n) (hn:∀ e∈es,e.1 < n∧e.2.1 < n):(kB es n o).length=n∧V9 (bq es) (iQ (kB es n o))∧xM (bq es) o (kB es n o)∧iQ (kB es n o) o=some 0:=by
  have hlen:(kB es n o).length=n:=by
    unfold kB
    rw [Mv]
    simp
  have hw:xM (bq es) o (kB es n o):=Mr λv a h=>by
    rw [Jc ho] at h
    split at h
    · rename_i e
      subst e
      cases h
      exact ⟨_,_,_,.nil,Nat.le_refl _⟩
    · cases h
  have hu:Up (bq es) o n (kB es n o):=by
    have:=Qh (es:=es) (o:=o) (k:=n) (j:=0) (d:=(List.replicate n (none:Option Nat)).set o (some 0)) (by simpa using hn) λv vs st a w hl=>by
      cases w with
      | nil=>exact ⟨0,by rw [Jc ho,if_pos rfl],Nat.le_refl _⟩
      | snoc=>simp at hl
    rw [Nat.zero_add] at this
    exact this
  have hG:∀ i,i < (bq es).m->(bq es).s i < n∧(bq es).t i < n:=λi hi=>by
    have h:es[i]? =some es[i]:=List.getElem?_eq_getElem hi
    obtain ⟨_,h2,h3,_⟩:=sF h
    rw [h2,h3]
    exact hn _ (List.getElem_mem _)
  have hs:∀ {v vs st a},Way (bq es) o v vs st a->st.length≤n:=λ{v vs st a} w=>by
    have h1:=RN w.nd (w.lt ho hG)
    have h2:=w.len
    omega
  refine ⟨hlen,λi b u v c a ar hd=>?_,hw,?_⟩
  · obtain ⟨vs,st,a1,w,l⟩:=hw _ _ hd
    obtain ⟨vs2,st2,a2,w2,l2⟩:=w.on ar
    obtain ⟨a',e,l3⟩:=hu _ _ _ _ w2 (hs w2)
    exact ⟨a',e,by omega⟩
  · obtain ⟨b,e,l⟩:=hu _ _ _ _ .nil (Nat.zero_le _)
    rw [e]
    congr
    omega
end
structure Kz (G:Gr) (n p:Nat) (sealed:Nat->Bool) (f:Nat->Int):Prop where
  z:∀ x,x < n->bL G f x=0
  p:f p=1
  s:∀ i,i < G.m->sealed i=true->f i=0
section
variable {es:Es} {n p:Nat} {wt:Nat->Nat} {sealed:Nat->Bool}
theorem z_ (hn:∀ e∈es,e.1 < n∧e.2.1 < n) (hp:p < es.length) (hl:∀ i,i < es.length->(bq es).l i=if i=p∨sealed i=true then none else some (wt i)) {f:Nat->Int} (hf:Kz (bq es) n p sealed f):
    sealed p=false∧∃ far,iQ (kB es n ((bq es).t p)) ((bq es).s p)=some far∧(far:Int)+wt p≤cost f wt es.length:=by
  have hG:∀ i,i < (bq es).m->(bq es).s i < n∧(bq es).t i < n:=λi hi=>by
    obtain ⟨_,h2,h3,_⟩:=sF (List.getElem?_eq_getElem hi)
    rw [h2,h3]
    exact hn _ (List.getElem_mem _)
  obtain ⟨_,h1,_,h3⟩:=Du (es:=es) (n:=n) (o:=(bq es).t p) (hG p hp).2 hn
  refine ⟨?_,Rl hG hf.z hp (by rw [hl p hp,if_pos (.inl rfl)]) hf.p (λi hi hne hfi=>?_) h1 h3⟩
  · cases e:sealed p with
    | false=>rfl
    | true=>
      have:=hf.s p hp e
      rw [hf.p] at this
      cases this
  · rw [hl i hi,if_neg]
    rintro (z | z)
    · exact hne z
    · exact hfi (hf.s i hi z)
theorem CF (hn:∀ e∈es,e.1 < n∧e.2.1 < n) (hp:p < es.length) (hl:∀ i,i < es.length->(bq es).l i=if i=p∨sealed i=true then none else some (wt i)) (hs:sealed p=false) {far:Nat} (hd:iQ (kB es n ((bq es).t p)) ((bq es).s p)=some far):
    ∃ f,Kz (bq es) n p sealed f∧(∀ i,f i=0∨f i=1∨f i= -1)∧cost f wt es.length≤(far:Int)+wt p:=by
  have hG:∀ i,i < (bq es).m->(bq es).s i < n∧(bq es).t i < n:=λi hi=>by
    obtain ⟨_,h2,h3,_⟩:=sF (List.getElem?_eq_getElem hi)
    rw [h2,h3]
    exact hn _ (List.getElem_mem _)
  obtain ⟨_,_,h2,_⟩:=Du (es:=es) (n:=n) (o:=(bq es).t p) (hG p hp).2 hn
  obtain ⟨vs,st,a,w,le⟩:=h2 _ _ hd
  have hsh:along st p=0:=w.Gp (by rw [hl p hp,if_pos (.inl rfl)])
  refine ⟨λi=>along st i+if i=p then 1 else 0,⟨λx _=>?_,by rw [hsh]; simp,λi hi hz=>?_⟩,λi=>?_,?_⟩
  · rw [m6,w.bL,sW hp]
    omega
  · have hne:i≠p:=λe=>by rw [e,hs] at hz; cases hz
    rw [w.Gp (by rw [hl i hi,if_pos (.inr hz)]),if_neg hne]
    rfl
  · show (along st i+if i=p then 1 else 0)=0∨(along st i+if i=p then 1 else 0)=1∨(along st i+if i=p then 1 else 0)= -1
    by_cases e:i=p
    · subst e
      rw [hsh]
      simp
    · rw [if_neg e]
      simpa using w.unit i
  ·
    have hw:∀ i c,(bq es).l i=some c->(λi=>((bq es).l i).getD 0) i=c:=λi c e=>by simp [e]
    have c1:=w.cost hw
    have c2 :cost (λi=>along st i+if i=p then 1 else 0) wt es.length≤aL (λi=>(if along st i≠0 then ((((bq es).l i).getD 0:Nat):Int) else 0)+if i=p then (wt p:Int) else 0) es.length:=by
      refine sQ λi hi=>?_
      show (if (along st i+if i=p then 1 else 0)≠0 then (wt i:Int) else 0)≤_
      by_cases e:i=p
      · subst e
        rw [hsh,if_pos rfl,if_pos rfl,if_pos (by decide),if_neg (by decide)]
        omega
      · rw [if_neg e,if_neg e]
        by_cases z:along st i=0
        · simp [z]
        · have hl':=hl i hi
          by_cases q:i=p∨sealed i=true
          · rw [if_pos q] at hl'
            exact absurd (w.Gp hl') z
          · rw [if_neg q] at hl'
            have z':¬ along st i+0=0:=by simpa using z
            rw [if_pos z',if_pos z,hl']
            simp
    rw [lN,gA,if_pos hp] at c2
    have c1':aL (λi=>if along st i≠0 then ((((bq es).l i).getD 0:Nat):Int) else 0) es.length≤a:=c1
    omega
end
end RV
end
section
local macro_rules | `(tactic| simp? [$xs,*]) => `(tactic| try simp -implicitDefEqProofs only [_root_.RV.ah,_root_.RV.eC,_root_.RV.az,_root_.RV.jS,_root_.RV.ao,_root_.RV.ai,_root_.RV.eu,_root_.RV.aQ,_root_.RV.eFn,_root_.RV.cO,_root_.RV.VZ,_root_.RV.dH,_root_.RV.Nz,_root_.RV.rO,_root_.RV.pJ,_root_.RV.j7,_root_.RV.Fz,_root_.RV.Mn,_root_.RV.oH,_root_.RV.EN,_root_.RV.Kg,_root_.RV.JU,_root_.RV.cS,_root_.RV.aK,_root_.RV.bu,_root_.RV.iS,_root_.RV.bC,_root_.RV.fX,_root_.RV.Vi,_root_.RV.ND,_root_.RV.BC,_root_.RV.yl,_root_.RV.qP,_root_.RV.CY,_root_.RV.iM,_root_.RV.Li,_root_.RV.XT,_root_.RV.X7,_root_.RV.U0,_root_.RV.Wt,_root_.RV.YE,_root_.RV.Rn,_root_.RV.YG,_root_.RV.Fp,_root_.RV.Wn,_root_.RV.Ug,_root_.RV.TF,_root_.RV.UP,_root_.RV.M_,_root_.RV.Si,_root_.RV.XU,_root_.RV.XM,_root_.RV.VP,_root_.RV.By,_root_.RV.Se,_root_.RV.aX,_root_.RV.QV,_root_.RV.BV,_root_.RV.AH,_root_.RV.Jt,_root_.RV.gH,_root_.RV.eNew,_root_.RV.SN,_root_.RV.Iz,_root_.RV.Ir,_root_.RV.xh,_root_.RV.OE,_root_.RV.yt,_root_.RV.JR,_root_.RV.kr,_root_.RV.Ec,_root_.RV.IA,_root_.RV.Iu,_root_.RV.fY,_root_.RV.jU,_root_.RV.jC,_root_.RV.e7,_root_.RV.MZ,_root_.RV.pP,_root_.RV.av,_root_.RV.UZ,_root_.RV.Rb,_root_.RV.Uj,_root_.RV.X6,_root_.RV.qw,_root_.RV.Ea,_root_.RV.XJ,_root_.RV.X0,_root_.RV.XG,_root_.RV.Xa,_root_.RV.Xe,_root_.RV.Xm,_root_.RV.Xz,_root_.RV.W4,_root_.RV.X8,_root_.RV.VR,_root_.RV.WK,_root_.RV.Wq,_root_.RV.Wi,_root_.RV.cP,_root_.RV.nS,List.set_cons_zero,List.set_cons_succ,List.length_cons,List.length_nil,List.append_nil,List.nil_append,List.cons_append,List.append_assoc,Nat.zero_add,Nat.reduceAdd,Nat.reduceSub,Nat.reduceEqDiff,Nat.reduceLT,Nat.reduceLeDiff,Int.reduceNeg,true_and,and_true,and_self,if_true,if_false,Bool.not_true,Bool.not_false,Bool.false_eq_true,reduceIte,reduceCtorEq,decide_true,decide_false,_root_.RV.UQ,_root_.RV.UN,_root_.RV.UA,_root_.RV.L8,_root_.RV.RP,_root_.RV.QE,_root_.RV.OG,_root_.RV.QM,_root_.RV.T_,_root_.RV.TZ,_root_.RV.TX,_root_.RV.LG,_root_.RV.Ul,_root_.RV.Uy,_root_.RV.UX,_root_.RV.WZ,Option.map_some,Option.bind_some,_root_.RV.TN,_root_.RV.TH,_root_.RV.Tq,_root_.RV.T5,_root_.RV.TY,_root_.RV.S8,_root_.RV.Tt,_root_.RV.T9,_root_.RV.UO,_root_.RV.Xx,_root_.RV.Lx,_root_.RV.V_,_root_.RV.Xn,_root_.RV.Jo,_root_.RV.ko,_root_.RV.Vt,_root_.RV.WM,_root_.RV.Qq,_root_.RV.WY,_root_.RV.AD,_root_.RV.Vq,_root_.RV.SY,_root_.RV.C_,ite_self,$xs,*])
section
namespace RV
open PySem L2
theorem qT {S:WS} {k:Nat} {ds:List D} {i:Int} (h:S[k]? =some (.lst ds)):aH S (.cell k) (.int i)=atI ds i:=by simp only [aH,h]
theorem gZ {S:WS} {k:Nat} {ds:List D} {i:Int} {d:D} (h:S[k]? =some (.lst ds)) (hc:D.clean 0 d=true):iU (.cell k) (.int i) d S=(ixN ds.length i).map λj=>S.set k (.lst (ds.set j d)):=by simp only [iU,h,hc,if_true]
theorem jL (n:Nat):upto ((n:Nat):Int)=(List.range n).map λ(i:Nat)=>D.int (i:Int):=by
  unfold upto
  rw [Int.toNat_natCast]
  refine List.map_congr_left λi _=>?_
  rw [Int.zero_add]
section
variable {A:Ad} {S T:WS} {k:Nat} {n m:Int} {w:W} {q:D->WS->Prop} {x:Xq}
theorem kZ (hk:k < S.length) (g:Good n w) (hm:0 < m) (hm2:m < 1000000000000000000000000000000000000000000000000000000000000) (hn:n < 1000000000000000000) (h:∀ d w',0≤d->d < m->Good (n+1) w'->q (.int d) (st S k w' T)):bI A [.cell k,.int m] (st S k w T) q x:=by
  obtain ⟨a,b,c⟩:=w
  obtain ⟨a0,a1,b0,c0,c1⟩:=g
  simp only at a0 a1 b0 c0 c1
  have at_:∀ w:W,(st S k w T)[k]? =some (.lst [.int w.a,.int w.b,.int w.c]):=λw=>Yc hk
  have i0:∀ (w:W),aH (st S k w T) (.cell k) (.int 0)=some (.int w.a):=λw=>by rw [qT (at_ w)]; rfl
  have i1:∀ (w:W),aH (st S k w T) (.cell k) (.int 1)=some (.int w.b):=λw=>by rw [qT (at_ w)]; rfl
  have i2:∀ (w:W),aH (st S k w T) (.cell k) (.int 2)=some (.int w.c):=λw=>by rw [qT (at_ w)]; rfl
  have s0:∀ (w:W) (v:Int),iU (.cell k) (.int 0) (.int v) (st S k w T)=some (st S k ⟨v,w.b,w.c⟩ T):=λw v=>by rw [gZ (at_ w) rfl]; exact congrArg some (Kc hk)
  have s1:∀ (w:W) (v:Int),iU (.cell k) (.int 1) (.int v) (st S k w T)=some (st S k ⟨w.a,v,w.c⟩ T):=λw v=>by rw [gZ (at_ w) rfl]; exact congrArg some (Kc hk)
  have s2:∀ (w:W) (v:Int),iU (.cell k) (.int 2) (.int v) (st S k w T)=some (st S k ⟨w.a,w.b,v⟩ T):=λw v=>by rw [gZ (at_ w) rfl]; exact congrArg some (Kc hk)
  have hd:Nj m=true:=decide_eq_true ⟨hm,Nat.lt_of_lt_of_le (m:=1000000000000000000000000000000000000000000000000000000000000) (by omega) (by decide+kernel)⟩
  have dm:∀ S (v:Int),xj S [.int v,.int m]=some (.tup [.int (v / m),.int (v % m)]):=λS v=>by simp only [xj,hd,if_true]
  rw [Hj]
  unfold aG aM
  simp only [List.map_cons,List.map_nil,List.length_cons,List.length_nil,Nat.reduceAdd,Nat.reduceSub,List.replicate,List.cons_append,List.nil_append,List.append_nil,Nat.zero_add]
  unfold AY
  refine ay λN_ hN_=>?_
  simp? [i1]
  refine iX (λhb=>?_) (λhb=>?_)
  · simp? [i1,dm,s1]
    exact h _ _ (Int.emod_nonneg _ (by omega)) (Int.emod_lt_of_pos _ hm) ⟨a0,a1,Int.ediv_nonneg b0 (by omega),by show 0≤c; omega,by show c≤n+1; omega⟩
  · subst hN_
    refine ay λN_ hN_=>?_
    simp? [i2,s2]
    subst hN_
    refine ay λN_ hN_=>?_
    have e1:nR a 39373=true:=Fo a0 (by omega)
    have e2:nR 7 (c+1)=true:=Fo (by omega) (by omega)
    have e3:nR (7 * (c+1)) (c+1)=true:=FA (by omega) (by omega)
    simp? [i0,i2,pY e1,pY e2,pY e3,oj (show (0:Int) < 2147483629 by decide),s0]
    subst hN_
    have y1:0≤(a * 39373+7 * (c+1) * (c+1)+101) % 2147483629:=Int.emod_nonneg _ (by omega)
    have y2:(a * 39373+7 * (c+1) * (c+1)+101) % 2147483629 < 2147483629:=Int.emod_lt_of_pos _ (by omega)
    generalize (a * 39373+7 * (c+1) * (c+1)+101) % 2147483629=y at y1 y2
    simp? [i0,PV (show Oe y 64=true from rfl),oj hm]
    exact h _ _ (Int.emod_nonneg _ (by omega)) (Int.emod_lt_of_pos _ hm) ⟨y1,y2,by show 0≤b; omega,by show 0≤c+1; omega,by show c+1≤n+1; omega⟩
theorem XC {S:WS} {ns:List Int} {i:Int} (h0:0≤i) (h1:i < 1000000) (h:∀ w:W,Good 0 w->q (.cell S.length) (S++[w.d])):mW A [.scr ns,.int i] S q x:=by
  have hpw:D5 10 18=true:=by decide+kernel
  have he:((10:Int) ^ (18:Int).toNat)=1000000000000000000:=by decide+kernel
  have e1:nR 7907 i=true:=Fo (by omega) (by omega)
  have ln:bQ S [.scr ns]=some (.int (ns.length:Int)):=by simp [bQ,br]
  have sl:∃ ms:List Int,JK S (.scr ns) none (some 4)=some (.lst (ms.map D.int)):=by
    have:∃ ms:List Int,cutD (ns.map D.int) none (some 4)=ms.map D.int:=by
      unfold cutD
      exact ⟨_,by rw [← List.map_drop,← List.map_take]⟩
    obtain ⟨ms,e⟩:=this
    exact ⟨ms,by rw [← e]; rfl⟩
  obtain ⟨ms,sl⟩:=sl
  rw [DB]
  unfold Qp aM
  simp only [List.map_cons,List.map_nil,List.length_cons,List.length_nil,Nat.reduceAdd,Nat.reduceSub,List.replicate,List.cons_append,List.nil_append]
  unfold yp
  have last:∀ (v mx:Int) (o:Option D),(aK (bC 3 (az qF (aQ intOfD (ai (az cX (az cX (az s_ (ah 3) (eC (.int 69621))) (az qF (aQ intOfD (ai (ah 2) (ao))) (eC (.int 2147483579)))) (eC (.int 5))) (ao))) (eC (.int 2147483629)))) (bu (eNew (ai (ah 3) (ai (oH (cO (az z7 (aQ yE (ai (ah 2) (ao))) (az JV (eC (.int 10)) (eC (.int 18))))) (aQ yE (ai (ah 2) (ao))) (eC (.int 0))) (ai (eC (.int 0)) (ao))))))) [some (.scr ns),some (.int i),some (.int v),some (.int mx),o] S
      ⟨λ_ _=>False,λd S'=>CJ S.length d S' q,λ_ _=>False,λ_ _=>False,λe _ S'=>vU S.length e S' x⟩:=λv mx o=>by
    have fn:∀ c:Cell,CJ S.length (.cell S.length) (S++[c]) q=q (.cell S.length) (S++[c]):=λc=>by simp [CJ,gx]
    have e3:nR mx 69621=true:=FA (by decide) (by decide)
    refine ay λN_ hN_=>?_
    simp? [pY e3,oj (show (0:Int) < 2147483579 by decide),oj (show (0:Int) < 2147483629 by decide)]
    subst hN_
    have y1:0≤(mx * 69621+v % 2147483579+5) % 2147483629:=Int.emod_nonneg _ (by omega)
    have y2:(mx * 69621+v % 2147483579+5) % 2147483629 < 2147483629:=Int.emod_lt_of_pos _ (by omega)
    generalize (mx * 69621+v % 2147483579+5) % 2147483629=y at y1 y2
    simp? [Q9 hpw,he]
    refine iX (λhv=>?_) (λhv=>?_)
    · simp? [fn,D.cg,D.clean,Bool.and_self]
      exact h ⟨y,if v < 0 then -v else v,0⟩ ⟨y1,y2,by show 0≤(if v < 0 then -v else v); split <;> omega,Int.le_refl _,Int.le_refl _⟩
    · simp? [fn,D.cg,D.clean,Bool.and_self]
      exact h ⟨y,0,0⟩ ⟨y1,y2,Int.le_refl _,Int.le_refl _,Int.le_refl _⟩
  have rest:∀ v:Int,(aK (bC 3 (az cX (eC (.int 104729)) (az s_ (eC (.int 7907)) (ah 1)))) (aK (fY (jC (SN JK (ah 0) (Iz) (Ir (eC (.int 4))))) (av 4) (pQ A)) (aK (bC 3 (az qF (aQ intOfD (ai (az cX (az cX (az s_ (ah 3) (eC (.int 69621))) (az qF (aQ intOfD (ai (ah 2) (ao))) (eC (.int 2147483579)))) (eC (.int 5))) (ao))) (eC (.int 2147483629)))) (bu (eNew (ai (ah 3) (ai (oH (cO (az z7 (aQ yE (ai (ah 2) (ao))) (az JV (eC (.int 10)) (eC (.int 18))))) (aQ yE (ai (ah 2) (ao))) (eC (.int 0))) (ai (eC (.int 0)) (ao))))))))) [some (.scr ns),some (.int i),some (.int v),none,none] S
      ⟨λ_ _=>False,λd S'=>CJ S.length d S' q,λ_ _=>False,λ_ _=>False,λe _ S'=>vU S.length e S' x⟩:=λv=>by
    refine ay λN_ hN_=>?_
    simp? [pY e1]
    subst hN_
    refine ay λN_ hN_=>?_
    simp? [sl]
    have go:∀ (ms:List Int) (mx:Int) (o:Option D) (k:Kt),(∀ mx o,k.nx [some (.scr ns),some (.int i),some (.int v),some (.int mx),o] S)->
        cE cB (av 4) (pQ A) (ms.map D.int) [some (.scr ns),some (.int i),some (.int v),some (.int mx),o] S k:=λms=>by
      induction ms with
      | nil=>
        intro mx o k hk
        exact ⟨trivial,hk _ _⟩
      | cons m ms ih=>
        intro mx o k hk
        have e3:nR mx 48271=true:=FA (by decide) (by decide)
        rw [List.map_cons,uX]
        unfold pQ
        simp? [pY e3,oj (show (0:Int) < 2147483587 by decide),oj (show (0:Int) < 2147483629 by decide)]
        exact ih _ _ k hk
    refine go ms _ none _ λmx o=>?_
    subst hN_
    exact last v mx o
  refine ay λN_ hN_=>?_
  simp? [ln]
  refine iX (λhi=>?_) (λhi=>?_)
  · have ha:atI ns i=some (ns[i.toNat]'(by omega)):=by
      rw [atI_nat h0 hi]
      exact List.getElem?_eq_getElem _
    have hx:aH S (.scr ns) (.int i)=some (.int (ns[i.toNat]'(by omega))):=by simp only [aH,ha,Option.map_some]
    simp? [hx]
    subst hN_
    exact rest _
  · simp? []
    subst hN_
    exact rest _
theorem GV {S:WS} {r:Int} (h0:0≤r) (h:r < 36):∃ c,aH S (.str "abcdefghijklmnopqrstuvwxyz0123456789") (.int r)=some (.str ⟨#[c]⟩)∧(isLt c || lK c)=true∧(r < 26->isLt c=true):=by
  obtain ⟨c,hc,h1,h2⟩:=Oq h0 h
  have sg:("abcdefghijklmnopqrstuvwxyz0123456789":Str)=signs:=rfl
  have hss:small signs.length=true:=by decide+kernel
  exact ⟨c,by simp only [aH,sg,hss,if_true,hc,Option.map_some],h1,h2⟩
def uV:List D:=[.str "pipe",.str "meter",.str "sealed",.str "go",.str "if",.str "vote",.str "tell",.str "doubt",.str "a",.str "b"]
theorem PL {r:Int} (h0:0≤r) (h:r < 10):∃ s,atI uV r=some (.str s)∧Nm s:=by
  have:r=0∨r=1∨r=2∨r=3∨r=4∨r=5∨r=6∨r=7∨r=8∨r=9:=by omega
  rcases this with e | e | e | e | e | e | e | e | e | e <;> subst e <;> exact ⟨_,rfl,by unfold Nm; decide+kernel⟩
def tH (j:Nat):Str:=("z":Str)++(toString (j:Int):String)
theorem L4:(∀ j:Fin 13,Ek (tH j.val).cps.toList=true)∧((List.range 13).map tH).Nodup:=by decide+kernel
theorem OD {j:Nat} (h:j < 13):Nm (tH j):=L4.1 ⟨j,h⟩
theorem UM {j:Nat} (h:j < 13):(tH j).length≤8:=(iT (OD h)).2
theorem Vg {m:Nat} (h:m≤13):((List.range m).map tH).Nodup:=by
  have h2:(List.range m).map tH=((List.range 13).map tH).take m:=by
    rw [← List.map_take,List.take_range,Nat.min_eq_left h]
  rw [h2]
  exact L4.2.sublist (List.take_sublist _ _)
theorem W0 {S:WS} {j:Nat} (h:j < 13):EM S [.int (j:Int)]=some (.str (toString (j:Int):String)):=by
  have:∀ j:Fin 13,((j.val:Nat):Int).natAbs.log2 < 1920:=by decide+kernel
  simp only [EM,this ⟨j,h⟩,if_true]
theorem La {t:Str} {done:List Str} {m:Nat} (ht:Nm t) (hm:m≤13) (hl:done.length < m):∃ z l,(t :: (List.range m).map tH).filter (λz=>decide (z∉done))=z :: l∧Nm z∧z∉done:=by
  cases e:(t :: (List.range m).map tH).filter (λz=>decide (z∉done)) with
  | nil=>
    exfalso
    rw [List.filter_eq_nil_iff] at e
    have:=JW _ done (Vg hm) λx hx=>by simpa using e x (List.mem_cons_of_mem _ hx)
    rw [List.length_map,List.length_range] at this
    omega
  | cons z l=>
    have hz:z∈(t :: (List.range m).map tH).filter (λz=>decide (z∉done)):=by rw [e]; exact List.mem_cons_self ..
    obtain ⟨h1,h2⟩:=List.mem_filter.mp hz
    refine ⟨z,l,rfl,?_,of_decide_eq_true h2⟩
    rcases List.mem_cons.mp h1 with rfl | h1
    · exact ht
    · obtain ⟨j,hj,rfl⟩:=List.mem_map.mp h1
      exact OD (by have:=List.mem_range.mp hj; omega)
theorem W6 {S:WS} {c:Nat} {cs:List Nat} {r:Str} (h:r.cps.toList=cs) (hl:cs.length≤7) (hc:isLt c=true) (ha:∀ x∈cs,(isLt x || lK x)=true):Nm (⟨#[c]⟩++r):=by
  unfold Nm
  rw [mV,h]
  show (isLt c && (decide (cs.length≤7) && cs.all λx=>isLt x || lK x))=true
  rw [hc,decide_eq_true hl,List.all_eq_true.mpr ha]
  rfl
theorem join_one (cs:List Nat):(Txt.join "" (cs.map λc=>(⟨#[c]⟩:Str))).cps.toList=cs:=by
  rw [TL.join_eq]
  induction cs with
  | nil=>rfl
  | cons c cs ih=>
    cases cs with
    | nil=>rfl
    | cons c' cs=>
      show ((⟨#[c]⟩:Str)++("":Str)++Str.join "" ((c' :: cs).map λc=>(⟨#[c]⟩:Str))).cps.toList=_
      rw [mV,mV,ih]
      rfl
theorem YM {S:WS} {t:Str} {j:Nat} {done:List Str} (h:S[j]? =some (.lst (done.map D.str))):inD true S (.str t) (.cell j)=some (.bl (decide (t∉done))):=by
  rw [wY (ts:=done) (by simp only [br,h])]
  rfl
theorem zJ {mm:Nat} (hk:k < S.length) (g:Good n w) (hn:n < 100000000000000) (hm:mm≤13) (h:∀ (ts:List Str) w',(∀ t∈ts,Nm t)->ts.Nodup->ts.length=mm->Good (n+200) w'->q (.lst (ts.map D.str)) (st S k w' T)):
    fK A [.cell k,.int (mm:Nat)] (st S k w T) q x:=by
  rw [CD]
  unfold aG aM
  simp only [List.map_cons,List.map_nil,List.length_cons,List.length_nil,Nat.reduceAdd,Nat.reduceSub,List.replicate,List.cons_append,List.nil_append,List.append_nil,Nat.zero_add]
  unfold wu
  refine ay λN_ hN_=>?_
  simp? [show small 10=true from rfl,show small 9=true from rfl]
  subst hN_
  refine ay λN_ hN_=>?_
  simp? [D.cg]
  subst hN_
  refine ay λN_ hN_=>?_
  simp? []
  refine ⟨⟨by omega,by omega⟩,?_⟩
  rw [jL]
  have go : ∀ (js:List Nat) (done:List Str) (o5 o6 o7 o8 o9 o10:Option D) (n:Int) (w:W) (kt:Kt),Good n w->n < 100000000000000+15 * done.length->(∀ t∈done,Nm t)->done.Nodup->done.length+js.length=mm->
      (∀ (ts:List Str) (w':W) (o5 o6 o7 o8 o9 o10:Option D),(∀ t∈ts,Nm t)->ts.Nodup->ts.length=mm->Good (n+15 * js.length) w'->kt.nx [some (.cell k),some (.int (mm:Nat)),some (.lst uV),some (.str "abcdefghijklmnopqrstuvwxyz0123456789"),some (.cell (S.length+T.length)),o5,o6,o7,o8,o9,o10] (st S k w' (T++[.lst (ts.map D.str)])))->
      cE cB (av 5) (r6 A) (js.map λ(i:Nat)=>D.int (i:Int)) [some (.cell k),some (.int (mm:Nat)),some (.lst uV),some (.str "abcdefghijklmnopqrstuvwxyz0123456789"),some (.cell (S.length+T.length)),o5,o6,o7,o8,o9,o10] (st S k w (T++[.lst (done.map D.str)])) kt:=λjs=>by
    induction js with
    | nil=>
      intro done o5 o6 o7 o8 o9 o10 n w kt g hn h1 h2 h3 hk
      refine ⟨trivial,hk _ _ _ _ _ _ _ _ h1 h2 (by simpa using h3) (g.mono (by simp))⟩
    | cons j js ih=>
      intro done o5 o6 o7 o8 o9 o10 n w kt g hn h1 h2 h3 hkt
      simp only [List.length_cons] at h3
      refine qH trivial ?_
      unfold r6
      refine ay λN_ hN_=>?_
      simp? []
      refine kZ hk g (by omega) (by omega) (by omega) λd w1 d0 d1 g1=>?_
      have sized:∀ (sz:Int) (w2:W),0≤sz->sz < 8->Good (n+2) w2->N_ ([some (.cell k),some (.int (mm:Nat)),some (.lst uV),some (.str "abcdefghijklmnopqrstuvwxyz0123456789"),some (.cell (S.length+T.length)),some (.int (j:Int)),some (.int sz),o7,o8,o9,o10]) (st S k w2 (T++[.lst (done.map D.str)])):=λsz w2 z0 z1 g2=>by
        subst hN_
        refine ay λN_ hN_=>?_
        simp? []
        refine kZ hk g2 (by omega) (by omega) (by omega) λd3 w3 d30 d31 g3=>?_
        obtain ⟨c,hc,_,hl⟩:=GV (S:=st S k w3 (T++[.lst (done.map D.str)])) d30 (by omega)
        simp? [hc]
        refine ⟨⟨by omega,by omega⟩,?_⟩
        obtain ⟨zz,rfl⟩:∃ zz:Nat,sz=(zz:Nat):=⟨sz.toNat,by omega⟩
        rw [jL]
        refine ⟨aA (by simp; omega),?_⟩
        have lcs:∀ (js:List Nat) (cs:List Nat) (n:Int) (w:W) (Q:List D->WS->Prop),Good n w->n < 200000000000000+cs.length->cs.length+js.length≤7->(∀ x∈cs,(isLt x || lK x)=true)->(∀ (cs':List Nat) (w':W),(∀ x∈cs',(isLt x || lK x)=true)->cs'.length≤7->Good (n+js.length) w'->Q (cs'.map λc=>D.str ⟨#[c]⟩) (st S k w' (T++[.lst (done.map D.str)])))->
            pT cB (av 9) cP (rD A) [some (.cell k),some (.int (mm:Nat)),some (.lst uV),some (.str "abcdefghijklmnopqrstuvwxyz0123456789"),some (.cell (S.length+T.length)),some (.int (j:Int)),some (.int (zz:Nat)),o7,o8,none,o10] (js.map λ(i:Nat)=>D.int (i:Int)) (cs.map λc=>D.str ⟨#[c]⟩) (st S k w (T++[.lst (done.map D.str)])) Q:=λjs=>by
          induction js with
          | nil=>
            intro cs n w Q g hn hl hc hQ
            exact ⟨trivial,hQ cs w hc (by simpa using hl) (g.mono (by simp))⟩
          | cons i js ih=>
            intro cs n w Q g hn hl hc hQ
            simp only [List.length_cons] at hl
            rw [List.map_cons]
            unfold pT
            unfold rD
            simp? []
            refine kZ hk g (by omega) (by omega) (by omega) λd w2 d0 d1 g2=>?_
            obtain ⟨c,hc1,hc2,_⟩:=GV (S:=st S k w2 (T++[.lst (done.map D.str)])) d0 d1
            simp? [hc1]
            have e:(cs.map λc=>D.str ⟨#[c]⟩)++[D.str ⟨#[c]⟩]=(cs++[c]).map λc=>D.str ⟨#[c]⟩:=by simp
            rw [e]
            refine ih (cs++[c]) (n+1) w2 Q g2 (by simp; omega) (by simp; omega) (λx hx=>?_) λcs' w' a b g'=>hQ cs' w' a b (g'.mono (by simp only [List.length_cons]; omega))
            rcases List.mem_append.mp hx with z | z
            · exact hc x z
            · rw [List.mem_singleton] at z
              subst z
              exact hc2
        refine lcs (List.range zz) [] (n+2+1) w3 _ g3 (by simp; omega) (by simp; omega) (by simp) λcs w4 hcs hcl g4=>?_
        have hj :oY (st S k w4 (T++[.lst (done.map D.str)])) (.str "") (.lst (cs.map λc=>D.str ⟨#[c]⟩))=some (.str (Txt.join "" (cs.map λc=>(⟨#[c]⟩:Str)))):=by
          have hstr:sL (cs.map λc=>D.str ⟨#[c]⟩)=some (cs.map λc=>(⟨#[c]⟩:Str)):=by
            have:∀ xs:List Nat,sL (xs.map λc=>D.str ⟨#[c]⟩)=some (xs.map λc=>(⟨#[c]⟩:Str)):=λxs=>by
              induction xs with
              | nil=>rfl
              | cons a xs ih=>simp [sL,ih]
            exact this cs
          have hsum:((cs.map λc=>(⟨#[c]⟩:Str)).map (·.length)).sum=cs.length:=by
            have:∀ xs:List Nat,((xs.map λc=>(⟨#[c]⟩:Str)).map (·.length)).sum=xs.length:=λxs=>by
              induction xs with
              | nil=>rfl
              | cons a xs ih=>
                simp only [List.map_cons,List.sum_cons,List.length_cons,ih,MC]
                omega
            exact this cs
          have hb:((cs.map λc=>(⟨#[c]⟩:Str)).map (·.length)).sum+(cs.map λc=>(⟨#[c]⟩:Str)).length * ("":Str).length≤100000:=by
            rw [hsum,show ("":Str).length=0 from rfl]
            omega
          simp only [oY,onStr,br,Option.bind_some,hstr,hb,if_true]
        have hnm:Nm (⟨#[c]⟩++Txt.join "" (cs.map λc=>(⟨#[c]⟩:Str))):=W6 (S:=S) (join_one cs) hcl (hl d31) hcs
        have hjl:(Txt.join "" (cs.map λc=>(⟨#[c]⟩:Str))).length≤7:=by
          rw [oG,join_one]
          exact hcl
        have hsm:small (Str.length ⟨#[c]⟩+(Txt.join "" (cs.map λc=>(⟨#[c]⟩:Str))).length)=true:=aA (by rw [MC]; omega)
        simp? [M_,hj,gG hsm]
        subst hN_
        generalize (⟨#[c]⟩++Txt.join "" (cs.map λc=>(⟨#[c]⟩:Str)):Str)=word at hnm
        refine ay λN_ hN_=>?_
        have fin:∀ (word:Str) (w5:W),Nm word->Good (n+13) w5->N_ [some (.cell k),some (.int (mm:Nat)),some (.lst uV),some (.str "abcdefghijklmnopqrstuvwxyz0123456789"),some (.cell (S.length+T.length)),some (.int (j:Int)),some (.int (zz:Nat)),some (.str word),o8,o9,o10] (st S k w5 (T++[.lst (done.map D.str)])):=λword w5 hw g5=>by
          subst hN_
          refine ay λN_ hN_=>?_
          simp? []
          refine ⟨⟨by omega,by omega⟩,?_⟩
          rw [jL]
          refine ⟨aA (by simp; omega),?_⟩
          rw [bM (g:=λj:Nat=>D.str (tH j)) _ trivial (λi hi=>?_)]
          rotate_left
          · refine ⟨_,rfl,λq x=>?_⟩
            have hi':i < 13:=by have:=List.mem_range.mp hi; omega
            have hz:=UM hi'
            unfold tH at hz
            rw [cG] at hz
            unfold zv
            simp? [W0 hi',gG (aA (n:=("z":Str).length+Str.length (toString (i:Int):String)) (by omega))]
            rfl
          simp? [Rf (aA (n:=[D.str word].length+((List.range mm).map λj:Nat=>D.str (tH j)).length) (by simp; omega))]
          subst hN_
          have esp:D.str word :: (List.range mm).map (λj:Nat=>D.str (tH j))=(word :: (List.range mm).map tH).map D.str:=by simp [Function.comp_def]
          rw [esp]
          obtain ⟨z,l,e1,e2,e3⟩:=La (done:=done) (m:=mm) hw hm (by omega)
          simp? [lO]
          refine ⟨aA (by simp; omega),?_⟩
          rw [nM (p:=λz:Str=>decide (z∉done)) (g:=D.str) _ _ trivial (λa ha=>?_)]
          rotate_left
          · refine ⟨_,rfl,λq x=>?_,λhp q x=>?_⟩
            · unfold zo
              simp? [YM (S:=st S k w5 (T++[.lst (done.map D.str)])) (j:=S.length+T.length) lO]
            · unfold y_
              simp? []
          rw [e1]
          have hx:∀ (S:WS) (l:List D),aH S (.lst (D.str z :: l)) (.int 0)=some (.str z):=λS l=>by simp only [aH,Ku]
          simp? [List.map_cons,hx,lO,xy,D.clean,aA (n:=(done.map D.str).length) (by simp; omega)]
          have e4:done.map D.str++[D.str z]=(done++[z]).map D.str:=by simp
          rw [e4]
          refine ih (done++[z]) _ _ _ _ _ _ (n+13) w5 kt g5 (by simp; omega) (λt ht=>?_) ?_ (by simp; omega) λts w' a b c d e f t1 t2 t3 g'=>hkt ts w' a b c d e f t1 t2 t3 (g'.mono (by simp only [List.length_cons]; omega))
          · rcases List.mem_append.mp ht with q | q
            · exact h1 t q
            · rw [List.mem_singleton] at q
              subst q
              exact e2
          · rw [List.nodup_append]
            refine ⟨h2,by simp,λa ha b hb=>?_⟩
            rw [List.mem_singleton] at hb
            subst hb
            exact λe=>e3 (e ▸ ha)
        simp? []
        refine kZ hk g4 (by omega) (by omega) (by simp; omega) λd5 w5 d50 d51 g5=>?_
        refine iX (λhd=>?_) (λhd=>?_)
        · simp? []
          refine kZ hk g5 (by omega) (by omega) (by simp; omega) λd6 w6 d60 d61 g6=>?_
          obtain ⟨s,hs,ns⟩:=PL d60 d61
          have hx:aH (st S k w6 (T++[.lst (done.map D.str)])) (.lst uV) (.int d6)=some (.str s):=by simp only [aH,hs]
          simp? [hx]
          exact fin s w6 ns (g6.mono (by simp; omega))
        · simp? []
          exact fin word w5 hnm (g5.mono (by simp; omega))
      simp? []
      refine iX (λhd=>?_) (λhd=>?_)
      · refine kZ hk g1 (by omega) (by omega) (by omega) λd2 w2 d20 d21 g2=>?_
        exact sized d2 w2 d20 d21 (g2.mono (by omega))
      · refine kZ hk g1 (by omega) (by omega) (by omega) λd2 w2 d20 d21 g2=>?_
        exact sized d2 w2 d20 (by omega) (g2.mono (by omega))
  refine go (List.range mm) [] none none none none none none n w _ g (by simpa using hn) (by simp) (by simp) (by simp) λts w' o5 o6 o7 o8 o9 o10 h1 h2 h3 g'=>?_
  subst hN_
  simp? []
  rw [LU]
  exact h ts w' h1 h2 h3 (g'.mono (by simp; omega))
end
end RV
end
section
namespace RV
open PySem L2
abbrev b7:=Str×Nat×Nat
abbrev b_:=Str×Nat×Bool
def cF (p:b7):D:=.tup [.str p.1,.int (p.2.1:Nat),.int (p.2.2:Nat)]
def dU (g:b_):D:=.tup [.str g.1,.int (g.2.1:Nat),.bl g.2.2]
def cu (ps:List Str) (pp:List b7) (gg:List b_):D:=.lst [.lst (ps.map D.str),.lst (pp.map cF),.lst (gg.map dU)]
structure bK (most more:Nat) (ps:List Str) (pp:List b7) (gg:List b_):Prop where
  pn:∀ p∈ps,Nm p
  pd:ps.Nodup
  pl:2≤ps.length
  ph:ps.length≤4
  nn:∀ r∈pp,Nm r.1
  nd:(pp.map (·.1)).Nodup
  nl:1≤pp.length
  nh:pp.length≤most
  en:∀ r∈pp,r.2.1 < ps.length∧r.2.2 < ps.length∧r.2.1≠r.2.2
  gn:∀ g∈gg,Nm g.1
  gd:(gg.map (·.1)).Nodup
  gh:gg.length≤more
  ga:∀ g∈gg,g.2.1 < pp.length
theorem mS {α:Type} {xs:List α} {j:Nat} (h:j < xs.length):atI xs (j:Int)=xs[j]? :=by
  rw [atI_nat (by omega) (by omega),Int.toNat_natCast]
theorem En {S:WS} {xs:List D} {j:Nat} (h:j < xs.length):aH S (.lst xs) (.int (j:Int))=xs[j]? :=by
  simp only [aH]
  exact mS h
theorem ix_tup {S:WS} {xs:List D} {j:Nat} (h:j < xs.length):aH S (.tup xs) (.int (j:Int))=xs[j]? :=by
  simp only [aH]
  exact mS h
theorem Lw {S T:WS} {k:Nat} {w:W} {q:D->WS->Prop} {d d':D} {r:WS} {c:Cell} (h:mj (S.length+T.length) (st S k w (T++c :: r)) d=some d'):Fv (S.length+T.length) d (st S k w (T++c :: r)) q=q d' (st S k w T):=by
  have hl:¬ (st S k w (T++c :: r)).length=S.length+T.length:=by
    rw [AD]
    simp
  have ht:(st S k w (T++c :: r)).take (S.length+T.length)=st S k w T:=by
    unfold st
    rw [← List.append_assoc,List.take_append_of_le_length (by simp),List.take_of_length_le (by simp)]
  unfold Fv
  rw [if_neg hl,h,qw,ht]
theorem Af {n:Nat} {S:WS}:∀ ts:List Str,wB n S (ts.map D.str)=some (ts.map D.str)
  | []=>rfl
  | t :: ts=>by
    rw [List.map_cons]
    unfold wB
    rw [Af ts]
    rfl
section
variable {A:Ad} {S T:WS} {k:Nat} {n:Int} {w:W} {q:D->WS->Prop} {x:Xq}
theorem nv (n:Nat):List.range n=List.range' 0 n:=List.range_eq_range'
theorem Vz {most more:Nat} (hk:k < S.length) (g:Good n w) (hn:n < 10000000000000) (hm:2≤most) (hm2:most≤12) (hm3:more≤12) (h:∀ ps pp gg w',bK most more ps pp gg->Good (n+1000) w'->q (cu ps pp gg) (st S k w' T)):
    lW A [.cell k,.int (most:Nat),.int (more:Nat)] (st S k w T) q x:=by
  rw [B0]
  unfold HF aM
  simp only [List.map_cons,List.map_nil,List.length_cons,List.length_nil,Nat.reduceAdd,Nat.reduceSub,List.replicate,List.cons_append,List.nil_append,List.append_nil,Nat.zero_add]
  unfold wh
  refine ay λN_ hN_=>?_
  simp? []
  refine kZ hk g (by omega) (by omega) (by omega) λd1 w1 d10 d11 g1=>?_
  simp? []
  refine kZ hk g1 (by omega) (by omega) (by omega) λd2 w2 d20 d21 g2=>?_
  obtain ⟨e1,rfl⟩:∃ e:Nat,d1=(e:Nat):=⟨d1.toNat,by omega⟩
  obtain ⟨e2,rfl⟩:∃ e:Nat,d2=(e:Nat):=⟨d2.toNat,by omega⟩
  have c1:(2:Int)+(e1:Nat)=((2+e1:Nat):Int):=by omega
  have c2:(2:Int)+(e2:Nat)=((2+e2:Nat):Int):=by omega
  simp? [c1,c2]
  subst hN_
  have b1:2+e1≤4:=by omega
  have b2:2+e2≤most:=by omega
  have b3:2≤2+e1:=by omega
  have b4:2≤2+e2:=by omega
  generalize 2+e1=count at b1 b3
  generalize 2+e2=size at b2 b4
  refine ay λN_ hN_=>?_
  simp? []
  refine zJ hk g2 (by omega) (by omega) λps w3 p1 p2 p3 g3=>?_
  simp? []
  refine zJ hk g3 (by omega) (by omega) λts w4 t1 t2 t3 g4=>?_
  simp? [D.cg,List.length_append]
  subst hN_
  refine ay λN_ hN_=>?_
  simp? []
  refine ⟨⟨by omega,by omega⟩,?_⟩
  rw [jL,nv]
  have go : ∀ (r j:Nat) (pp:List b7) (o9 o10:Option D) (n:Int) (w:W) (kt:Kt),j+r=size->pp.length=j->pp.map (·.1)=ts.take j->Good n w->n < 20000000000000+2 * j->(∀ r∈pp,r.2.1 < count∧r.2.2 < count∧r.2.1≠r.2.2)->
      (∀ (pp:List b7) (w':W) (o9 o10:Option D),pp.map (·.1)=ts->(∀ r∈pp,r.2.1 < count∧r.2.2 < count∧r.2.1≠r.2.2)->Good (n+2 * r) w'->kt.nx [some (.cell k),some (.int (most:Nat)),some (.int (more:Nat)),some (.int (count:Nat)),some (.int (size:Nat)),some (.lst (ps.map D.str)),some (.lst (ts.map D.str)),some (.cell (S.length+T.length)),some (.cell (S.length+T.length+1)),o9,o10,none,none,none] (st S k w' (T++[.lst (pp.map cF),.lst []])))->
      cE cB (av 9) (rG A) ((List.range' j r).map λ(i:Nat)=>D.int (i:Int)) [some (.cell k),some (.int (most:Nat)),some (.int (more:Nat)),some (.int (count:Nat)),some (.int (size:Nat)),some (.lst (ps.map D.str)),some (.lst (ts.map D.str)),some (.cell (S.length+T.length)),some (.cell (S.length+T.length+1)),o9,o10,none,none,none] (st S k w (T++[.lst (pp.map cF),.lst []])) kt:=λr=>by
    induction r with
    | zero=>
      intro j pp o9 o10 n w kt h1 h2 h3 g hn he hk
      refine ⟨trivial,hk pp w o9 o10 ?_ he (g.mono (by simp))⟩
      rw [h3,List.take_of_length_le (by omega)]
    | succ r ih=>
      intro j pp o9 o10 n w kt h1 h2 h3 g hn he hkt
      rw [List.range'_succ,List.map_cons]
      refine qH trivial ?_
      unfold rG
      refine ay λN_ hN_=>?_
      simp? []
      refine kZ hk g (by omega) (by omega) (by omega) λd w1 d0 d1 g1=>?_
      subst hN_
      have hj:j < ts.length:=by omega
      have hix:∀ S:WS,aH S (.lst (ts.map D.str)) (.int (j:Int))=some (.str ts[j]):=λS=>by
        rw [En (by rw [List.length_map]; exact hj),List.getElem?_map,List.getElem?_eq_getElem hj]
        rfl
      simp? [hix,lO]
      refine kZ hk g1 (by omega) (by omega) (by omega) λd' w2 d0' d1' g2=>?_
      obtain ⟨a,rfl⟩:∃ e:Nat,d=(e:Nat):=⟨d.toNat,by omega⟩
      obtain ⟨b,rfl⟩:∃ e:Nat,d'=(e:Nat):=⟨d'.toNat,by omega⟩
      have em:((a:Int)+1+(b:Int)) % (count:Int)=(((a+1+b) % count:Nat):Int):=by
        rw [Int.natCast_emod,Int.natCast_add,Int.natCast_add]
        rfl
      simp? [oj (show (0:Int) < (count:Int) by omega),em,lO,xy,D.clean,D.cg,Bool.and_self,aA (n:=(pp.map cF).length) (by simp; omega)]
      have e4:pp.map cF++[D.tup [.str ts[j],.int (a:Nat),.int ((a+1+b) % count:Nat)]]=(pp++[(ts[j],a,(a+1+b) % count)]).map cF:=by simp [cF]
      rw [e4]
      refine ih (j+1) (pp++[(ts[j],a,(a+1+b) % count)]) _ _ (n+2) w2 kt (by omega) (by simp; omega) ?_ (g2.mono (by omega)) (by omega) (λz hz=>?_) λpp' w' o9 o10 q1 q2 g'=>hkt pp' w' o9 o10 q1 q2 (g'.mono (by omega))
      · rw [List.map_append,h3,List.take_succ_eq_append_getElem hj]
        rfl
      · rcases List.mem_append.mp hz with z1 | z1
        · exact he z z1
        · rw [List.mem_singleton] at z1
          subst z1
          refine ⟨by show a < count; omega,Nat.mod_lt _ (by omega),?_⟩
          show a≠(a+1+b) % count
          intro e
          by_cases hlt:a+1+b < count
          · rw [Nat.mod_eq_of_lt hlt] at e
            omega
          · have:(a+1+b) % count=a+1+b - count:=by
              rw [Nat.mod_eq_sub_mod (by omega),Nat.mod_eq_of_lt (by omega)]
            omega
  refine go size 0 [] none none _ w4 _ (by omega) rfl rfl g4 (by omega) (by simp) λpp w5 o9 o10 q1 q2 g5=>?_
  dsimp only
  subst hN_
  have hpl:pp.length=size:=by
    have:=congrArg List.length q1
    rw [List.length_map] at this
    omega
  refine ay λN_ hN_=>?_
  simp? []
  refine kZ hk g5 (by omega) (by omega) (by omega) λdv w6 dv0 dv1 g6=>?_
  simp? []
  subst hN_
  refine ay λN_ hN_=>?_
  have named:∀ (mm:Nat) (w7:W),mm≤more->(dv=0->mm≤size)->Good (n+2+400+40+1) w7->fK A [.cell k,.int (mm:Nat)] (st S k w7 (T++[.lst (pp.map cF),.lst []])) (λd S'=>N_ [some (.cell k),some (.int (most:Nat)),some (.int (more:Nat)),some (.int (count:Nat)),some (.int (size:Nat)),some (.lst (ps.map D.str)),some (.lst (ts.map D.str)),some (.cell (S.length+T.length)),some (.cell (S.length+T.length+1)),o9,o10,some (.bl (decide (dv=0))),some d,none] S')
      (λe S'=>vU (S.length+T.length) e S' x):=λmm w7 hmm hsz g7=>by
    refine zJ hk g7 (by omega) (by omega) λgs w8 s1 s2 s3 g8=>?_
    subst hN_
    have hgl:bQ (st S k w8 (T++[.lst (pp.map cF),.lst []])) [.lst (gs.map D.str)]=some (.int (gs.length:Nat)):=by simp [bQ,br]
    refine ay λN_ hN_=>?_
    simp? [hgl]
    refine ⟨⟨by omega,by omega⟩,?_⟩
    rw [jL,nv]
    have go2:∀ (r j:Nat) (gg:List b_) (o9 o13:Option D) (n:Int) (w:W) (kt:Kt),j+r=mm->gg.length=j->gg.map (·.1)=gs.take j->Good n w->n < 30000000000000+2 * j->(∀ r∈gg,r.2.1 < size)->
        (∀ (gg:List b_) (w':W) (o9 o13:Option D),gg.map (·.1)=gs->(∀ r∈gg,r.2.1 < size)->Good (n+2 * r) w'->kt.nx [some (.cell k),some (.int (most:Nat)),some (.int (more:Nat)),some (.int (count:Nat)),some (.int (size:Nat)),some (.lst (ps.map D.str)),some (.lst (ts.map D.str)),some (.cell (S.length+T.length)),some (.cell (S.length+T.length+1)),o9,o10,some (.bl (decide (dv=0))),some (.lst (gs.map D.str)),o13] (st S k w' (T++[.lst (pp.map cF),.lst (gg.map dU)])))->
        cE cB (av 9) (rJ A) ((List.range' j r).map λ(i:Nat)=>D.int (i:Int)) [some (.cell k),some (.int (most:Nat)),some (.int (more:Nat)),some (.int (count:Nat)),some (.int (size:Nat)),some (.lst (ps.map D.str)),some (.lst (ts.map D.str)),some (.cell (S.length+T.length)),some (.cell (S.length+T.length+1)),o9,o10,some (.bl (decide (dv=0))),some (.lst (gs.map D.str)),o13] (st S k w (T++[.lst (pp.map cF),.lst (gg.map dU)])) kt:=λr=>by
      induction r with
      | zero=>
        intro j gg o9 o13 n w kt h1 h2 h3 g hn he hk
        refine ⟨trivial,hk gg w o9 o13 ?_ he (g.mono (by simp))⟩
        rw [h3,List.take_of_length_le (by omega)]
      | succ r ih=>
        intro j gg o9 o13 n w kt h1 h2 h3 g hn he hkt
        rw [List.range'_succ,List.map_cons]
        refine qH trivial ?_
        unfold rJ
        have hj:j < gs.length:=by omega
        have hix:∀ S:WS,aH S (.lst (gs.map D.str)) (.int (j:Int))=some (.str gs[j]):=λS=>by
          rw [En (by rw [List.length_map]; exact hj),List.getElem?_map,List.getElem?_eq_getElem hj]
          rfl
        refine ay λN_ hN_=>?_
        have put:∀ (a:Nat) (w2:W),a < size->Good (n+1) w2->N_ [some (.cell k),some (.int (most:Nat)),some (.int (more:Nat)),some (.int (count:Nat)),some (.int (size:Nat)),some (.lst (ps.map D.str)),some (.lst (ts.map D.str)),some (.cell (S.length+T.length)),some (.cell (S.length+T.length+1)),some (.int (j:Int)),o10,some (.bl (decide (dv=0))),some (.lst (gs.map D.str)),some (.int (a:Int))] (st S k w2 (T++[.lst (pp.map cF),.lst (gg.map dU)])):=λa w2 ha g2=>by
          subst hN_
          simp? [hix,AF]
          refine kZ hk g2 (by omega) (by omega) (by omega) λd' w3 d0' d1' g3=>?_
          simp? [AF,L6,D.clean,D.cg,Bool.and_self,aA (n:=(gg.map dU).length) (by simp; omega)]
          have e4:gg.map dU++[D.tup [.str gs[j],.int (a:Nat),.bl (decide (d'=0))]]=(gg++[(gs[j],a,decide (d'=0))]).map dU:=by simp [dU]
          rw [e4]
          refine ih (j+1) (gg++[(gs[j],a,decide (d'=0))]) _ _ (n+2) w3 kt (by omega) (by simp; omega) ?_ (g3.mono (by omega)) (by omega) (λz hz=>?_) λgg' w' o9 o13 q1 q2 g'=>hkt gg' w' o9 o13 q1 q2 (g'.mono (by omega))
          · rw [List.map_append,h3,List.take_succ_eq_append_getElem hj]
            rfl
          · rcases List.mem_append.mp hz with z1 | z1
            · exact he z z1
            · rw [List.mem_singleton] at z1
              subst z1
              exact ha
        simp? []
        refine iX (λhd=>?_) (λhd=>?_)
        · exact put j w (by have:=hsz hd; omega) (g.mono (by omega))
        · refine kZ hk g (by omega) (by omega) (by omega) λd w1 d0 d1 g1=>?_
          obtain ⟨a,rfl⟩:∃ e:Nat,d=(e:Nat):=⟨d.toNat,by omega⟩
          exact put a w1 (by omega) g1
    rw [s3]
    refine go2 mm 0 [] o9 none _ w8 _ (by omega) rfl rfl g8 (by omega) (by simp) λgg w9 o9 o13 y1 y2 g9=>?_
    dsimp only
    subst hN_
    simp? [aA (n:=3) (by omega)]
    have hfr:mj (S.length+T.length) (st S k w9 (T++[.lst (pp.map cF),.lst (gg.map dU)])) (.lst [.lst (ps.map D.str),.cell (S.length+T.length),.cell (S.length+T.length+1)])=some (cu ps pp gg):=by
      unfold mj
      simp only [wB,mj,Af,Nat.lt_irrefl,if_false,lO,AF,show ¬ (S.length+T.length+1 < S.length+T.length) from by omega,Option.map_some,Option.bind_some]
      rfl
    rw [Lw hfr]
    refine h ps pp gg w9 ⟨p1,p2,by omega,by omega,λr hr=>?_,by rw [q1]; exact t2,by omega,by omega,λr hr=>by rw [p3]; exact q2 r hr,λz hz=>?_,by rw [y1]; exact s2,?_,λz hz=>by rw [hpl]; exact y2 z hz⟩ (g9.mono (by omega))
    · exact t1 _ (by rw [← q1]; exact List.mem_map.mpr ⟨r,hr,rfl⟩)
    · exact s1 _ (by rw [← y1]; exact List.mem_map.mpr ⟨z,hz,rfl⟩)
    · have:=congrArg List.length y1
      rw [List.length_map] at this
      omega
  simp? []
  refine iX (λhd=>?_) (λhd=>?_)
  · have hmin:∀ S:WS,yj S [.int (more:Nat),.int (size:Nat)]=some (.int (min more size:Nat)):=λS=>by
      simp only [yj]
      congr 2
      split <;> omega
    simp? [hmin]
    exact named (min more size) w6 (Nat.min_le_left ..) (λ_=>Nat.min_le_right ..) (g6.mono (by omega))
  · refine kZ hk g6 (by omega) (by omega) (by omega) λd w7 d0 d1 g7=>?_
    obtain ⟨a,rfl⟩:∃ e:Nat,d=(e:Nat):=⟨d.toNat,by omega⟩
    simp? []
    exact named a w7 (by omega) (λz=>absurd z hd) (g7.mono (by omega))
end
end RV
end
section
namespace RV
open PySem L2
section
variable {A:Ad} {S:WS} {x c:D} {t u:Value} {m n:String} {fs:List (Str×D)}
theorem xG (h1:Bv (own A) x=some t) (h2:Wu c=some u) (h3:t∈kinds A) (h4:u∈clss A):gU (own A) (tab A) S [x,c]=some (.bl (sub A t u)):=by
  simp only [gU,h1,h2,Option.bind_some,tab,NB,h3,h4,and_self,if_true,Option.map_some]
theorem QB (h:m∈A.here):own A (A.c m)=true:=List.any_eq_true.mpr ⟨m,h,beq_self_eq_true _⟩
theorem P_ (h:m∈A.here):Bv (own A) (.obj (A.c m) fs)=some (.ref (A.c m)):=by simp only [Bv,QB h,if_true]
theorem Pj (h:m∈A.here):Value.ref (A.c m)∈kinds A:=List.mem_append_right _ (List.mem_map.mpr ⟨m,h,rfl⟩)
theorem RQ (h:m∈A.here):Value.ref (A.c m)∈clss A:=List.mem_append_right _ (List.mem_map.mpr ⟨m,h,rfl⟩)
theorem xw (h:m∈A.here) (h':n∈A.here):gU (own A) (tab A) S [.obj (A.c m) fs,.adr (A.c n)]=some (.bl (decide (A.c m=A.c n))):=by
  rw [xG (P_ h) rfl (Pj h) (RQ h')]
  simp [sub]
theorem L5 {s:Str}:gU (own A) (tab A) S [.str s,.ty "str"]=some (.bl true):=by
  rw [xG (t:=.type "str") (u:=.type "str") rfl rfl (by simp [kinds]) (by simp [clss])]
  simp [sub]
theorem BW {ds:List D}:gU (own A) (tab A) S [.tup ds,.ty "tuple"]=some (.bl true):=by
  rw [xG (t:=.type "tuple") (u:=.type "tuple") rfl rfl (by simp [kinds]) (by simp [clss])]
  simp [sub]
theorem Ri {b:Bool}:gU (own A) (tab A) S [.bl b,.ty "bool"]=some (.bl true):=by
  rw [xG (t:=.type "bool") (u:=.type "bool") rfl rfl (by simp [kinds]) (by simp [clss])]
  simp [sub]
end
structure gT (A:Ad):Prop where
  p:"Pipe"∈A.here
  m:"Meter"∈A.here
  n:"Net"∈A.here
  pm:A.c "Pipe"≠A.c "Meter"
  pn:A.c "Pipe"≠A.c "Net"
  mn:A.c "Meter"≠A.c "Net"
section
variable {A:Ad} {S:WS} {q:D->WS->Prop} {x:Xq} {s a b c:Str} {f:Bool}
def Wr (s:Str):Bool:=Ek s.cps.toList
theorem Cw {neg:Bool} {ch:Nat}:qa neg S (.str ⟨#[ch]⟩) (.str "abcdefghijklmnopqrstuvwxyz")=some (.bl (if neg then !isLt ch else isLt ch)):=by
  cases neg <;> simp [qa,isLt,FO]
theorem N5 {neg:Bool} {ch:Nat}:qa neg S (.str ⟨#[ch]⟩) (.str "0123456789")=some (.bl (if neg then !lK ch else lK ch)):=by
  cases neg <;> simp [qa,lK,digits]
theorem P4 (hs:small s.length=true):oA A [.str s] S q x=q (.bl (Wr s)) S:=by
  have hln:bQ S [.str s]=some (.int (s.length:Nat)):=by simp only [bQ,hs,if_true]
  have hlc:∀ q:List D->WS->Prop,pT cB (av 1) cP (Mn (az (qa false) (ah 1) (eC (.str "abcdefghijklmnopqrstuvwxyz"))) (az (qa false) (ah 1) (eC (.str "0123456789")))) [some (.str s),none] (s.cps.toList.map λc=>D.str ⟨#[c]⟩) [] S q=q (s.cps.toList.map λc=>D.bl (isLt c || lK c)) S:=λq=>by
    refine bM _ trivial λc hc=>⟨_,rfl,λq x=>?_⟩
    simp? [Cw,N5]
    cases isLt c <;> rfl
  have hsm:small (s.cps.toList.map λc=>D.str ⟨#[c]⟩).length=true:=by rw [List.length_map,← oG]; exact hs
  rw [GL]
  unfold aG aM
  simp only [List.map_cons,List.map_nil,List.length_cons,List.length_nil,Nat.reduceAdd,Nat.reduceSub,List.replicate,List.cons_append,List.nil_append,List.append_nil,Nat.zero_add]
  unfold Bl
  simp? [L5,hln,hsm,hlc,uy]
  unfold Wr
  rcases hc:s.cps.toList with _ | ⟨ch,r⟩
  · have h0:s.length=0:=by rw [oG,hc]; rfl
    simp? [show decide ((1:Int)≤((s.length:Nat):Int))=false from decide_eq_false (by omega)]
    simp [Ek]
  · have h1:s.length=r.length+1:=by rw [oG,hc]; rfl
    have h0:aH S (.str s) (.int 0)=some (.str ⟨#[ch]⟩):=by
      simp only [aH,hs,if_true,hc,Ku,Option.map_some]
    simp? [show decide ((1:Int)≤((s.length:Nat):Int))=true from decide_eq_true (by omega),h0,Cw]
    by_cases h8:s.length≤8
    · simp? [show decide (((s.length:Nat):Int)≤8)=true from decide_eq_true (by omega)]
      cases hl:isLt ch
      · simp? []
        simp [Ek,hl]
      · simp? []
        have:decide (r.length≤7)=true:=decide_eq_true (by omega)
        simp [Ek,hl,this]
    · simp? [show decide (((s.length:Nat):Int)≤8)=false from decide_eq_false (by omega)]
      have:decide (r.length≤7)=false:=decide_eq_false (by omega)
      simp [Ek,this]
theorem mG (h:Nm s):fE A [.str s] S q x=q .non S:=by
  have e:Wr s=true:=h
  rw [zO]
  unfold aG aM
  simp only [List.map_cons,List.map_nil,List.length_cons,List.length_nil,Nat.reduceAdd,Nat.reduceSub,List.replicate,List.cons_append,List.nil_append,List.append_nil,Nat.zero_add]
  unfold uq
  simp? [P4 (qB h),e]
def pB (A:Ad) (a b c:Str):D:=.obj (A.c "Pipe") [("kept",.tup [.str a,.str b,.str c])]
def mP (A:Ad) (a b:Str) (f:Bool):D:=.obj (A.c "Meter") [("kept",.tup [.str a,.str b,.bl f])]
theorem Ks (ha:Nm a) (hb:Nm b) (hc:Nm c) (h:c≠b):vp .still (A.c "Pipe") 4 (lY A) [.str a,.str b,.str c] S q x=q (pB A a b c) S:=by
  unfold vp
  rw [Cg]
  unfold aG aM
  simp only [List.map_cons,List.map_nil,List.length_cons,List.length_nil,Nat.reduceAdd,Nat.reduceSub,List.replicate,List.cons_append,List.nil_append,List.append_nil,Nat.zero_add]
  unfold v9
  have cl:D.clean 0 (.tup [.str a,.str b,.str c])=true:=rfl
  have e:decide (c=b)=false:=decide_eq_false h
  simp? [mG ha,mG hb,mG hc,e,bF,cU,cl,putD,u6,C4,Nat.lt_irrefl,show (0:Nat) < 1000 from by decide]
  rfl
theorem zm (ha:Nm a) (hb:Nm b):vp .still (A.c "Meter") 4 (k_ A) [.str a,.str b,.bl f] S q x=q (mP A a b f) S:=by
  unfold vp
  rw [AL]
  unfold aG aM
  simp only [List.map_cons,List.map_nil,List.length_cons,List.length_nil,Nat.reduceAdd,Nat.reduceSub,List.replicate,List.cons_append,List.nil_append,List.append_nil,Nat.zero_add]
  unfold tR
  have cl:D.clean 0 (.tup [.str a,.str b,.bl f])=true:=rfl
  simp? [mG ha,mG hb,Ri,bF,cU,cl,putD,u6,C4,show (0:Nat) < 1000 from by decide]
  rfl
theorem Lf {d:D}:List.lookup ("kept":Str) [(("kept":Str),d)]=some d:=by simp [List.lookup]
theorem CK:gz (A.c "Pipe") "kept" S (pB A a b c)=some (.tup [.str a,.str b,.str c]):=by simp only [gz,pB,if_true,Lf]
theorem A6:gz (A.c "Meter") "kept" S (mP A a b f)=some (.tup [.str a,.str b,.bl f]):=by simp only [gz,mP,if_true,Lf]
theorem Wj {a b c:D}:aH S (.tup [a,b,c]) (.int 0)=some a:=rfl
theorem VS {a b c:D}:aH S (.tup [a,b,c]) (.int 1)=some b:=rfl
theorem Va {a b c:D}:aH S (.tup [a,b,c]) (.int 2)=some c:=rfl
theorem Vl:bE A [pB A a b c] S q x=q (.str a) S:=by
  rw [Ce]
  unfold aG aM
  simp only [List.map_cons,List.map_nil,List.length_cons,List.length_nil,Nat.reduceAdd,Nat.reduceSub,List.replicate,List.cons_append,List.nil_append,List.append_nil,Nat.zero_add]
  unfold wG
  simp? [CK,Wj]
theorem Td:dB A [pB A a b c] S q x=q (.str b) S:=by
  rw [Ab]
  unfold aG aM
  simp only [List.map_cons,List.map_nil,List.length_cons,List.length_nil,Nat.reduceAdd,Nat.reduceSub,List.replicate,List.cons_append,List.nil_append,List.append_nil,Nat.zero_add]
  unfold uT
  simp? [CK,VS]
theorem Xo:fL A [pB A a b c] S q x=q (.str c) S:=by
  rw [EA]
  unfold aG aM
  simp only [List.map_cons,List.map_nil,List.length_cons,List.length_nil,Nat.reduceAdd,Nat.reduceSub,List.replicate,List.cons_append,List.nil_append,List.append_nil,Nat.zero_add]
  unfold yU
  simp? [CK,Va]
theorem VI:bD A [mP A a b f] S q x=q (.str a) S:=by
  rw [A9]
  unfold aG aM
  simp only [List.map_cons,List.map_nil,List.length_cons,List.length_nil,Nat.reduceAdd,Nat.reduceSub,List.replicate,List.cons_append,List.nil_append,List.append_nil,Nat.zero_add]
  unfold uB
  simp? [A6,Wj]
theorem Yy:cC A [mP A a b f] S q x=q (.str b) S:=by
  rw [DH]
  unfold aG aM
  simp only [List.map_cons,List.map_nil,List.length_cons,List.length_nil,Nat.reduceAdd,Nat.reduceSub,List.replicate,List.cons_append,List.nil_append,List.append_nil,Nat.zero_add]
  unfold yK
  simp? [A6,VS]
theorem QG:fN A [mP A a b f] S q x=q (.bl f) S:=by
  rw [xm]
  unfold aG aM
  simp only [List.map_cons,List.map_nil,List.length_cons,List.length_nil,Nat.reduceAdd,Nat.reduceSub,List.replicate,List.cons_append,List.nil_append,List.append_nil,Nat.zero_add]
  unfold qt
  simp? [A6,Va]
theorem Wa:qc (A.c "Pipe") S (pB A a b c)=True:=by simp [qc,pB]
theorem Wl:qc (A.c "Meter") S (mP A a b f)=True:=by simp [qc,mP]
end
end RV
end
section
namespace RV
open PySem L2
abbrev LR:=Str×Str×Str
abbrev FR:=Str×Str×Bool
def pv (A:Ad) (r:LR):D:=pB A r.1 r.2.1 r.2.2
def mv (A:Ad) (r:FR):D:=mP A r.1 r.2.1 r.2.2
def aN (A:Ad) (rs:List LR) (fs:List FR):D:=.obj (A.c "Net") [("joined",.tup (rs.map (pv A))),("fitted",.tup (fs.map (mv A)))]
structure vq (r:LR):Prop where
  n:Nm r.1
  s:Nm r.2.1
  e:Nm r.2.2
  ne:r.2.2≠r.2.1
structure bw (rs:List LR):Prop where
  rows:∀ r∈rs,vq r
  nd:(rs.map (·.1)).Nodup
  lo:1≤rs.length
  hi:rs.length≤12
structure bO (rs:List LR) (fs:List FR):Prop where
  n:∀ f∈fs,Nm f.1
  at_:∀ f∈fs,f.2.1∈rs.map (·.1)
  nd:(fs.map (·.1)).Nodup
  hi:fs.length≤12
structure vj (rs:List LR):Prop where
  rows:∀ r∈rs,vq r
  lo:1≤rs.length
  hi:rs.length≤14
structure sM (rs:List LR) (fs:List FR):Prop where
  n:∀ f∈fs,Nm f.1
  at_:∀ f∈fs,f.2.1∈rs.map (·.1)
  hi:fs.length≤14
theorem bw.w {rs:List LR} (h:bw rs):vj rs:=⟨h.rows,h.lo,by have:=h.hi; omega⟩
theorem bO.w {rs:List LR} {fs:List FR} (h:bO rs fs):sM rs fs:=⟨h.n,h.at_,by have:=h.hi; omega⟩
theorem sM.Nu {rs:List LR} {fs:List FR} (h:sM rs fs) (l:vj rs) {f:FR} (hf:f∈fs):Nm f.2.1:=by
  obtain ⟨r,hr,e⟩:=List.mem_map.mp (h.at_ f hf)
  rw [← e]
  exact (l.rows r hr).n
theorem bO.Nu {rs:List LR} {fs:List FR} (h:bO rs fs) (l:bw rs) {f:FR} (hf:f∈fs):Nm f.2.1:=by
  obtain ⟨r,hr,e⟩:=List.mem_map.mp (h.at_ f hf)
  rw [← e]
  exact (l.rows r hr).n
section
variable {A:Ad} {S:WS} {q:D->WS->Prop} {x:Xq} {rs:List LR} {fs:List FR} {r:LR} {f:FR} {a b:D}
theorem IW (hA:gT A):gU (own A) (tab A) S [pv A r,.adr (A.c "Pipe")]=some (.bl true):=by simp only [pv,pB,xw hA.p hA.p,decide_true]
theorem WN (hA:gT A):gU (own A) (tab A) S [pv A r,.adr (A.c "Meter")]=some (.bl false):=by simp only [pv,pB,xw hA.p hA.m,decide_eq_false hA.pm]
theorem Pw (hA:gT A):gU (own A) (tab A) S [mv A f,.adr (A.c "Meter")]=some (.bl true):=by simp only [mv,mP,xw hA.m hA.m,decide_true]
theorem OC (hA:gT A):gU (own A) (tab A) S [mv A f,.adr (A.c "Pipe")]=some (.bl false):=by simp only [mv,mP,xw hA.m hA.p,decide_eq_false hA.pm.symm]
theorem Wz (hA:gT A):gU (own A) (tab A) S [aN A rs fs,.adr (A.c "Net")]=some (.bl true):=by simp only [aN,xw hA.n hA.n,decide_true]
theorem nK:qc (A.c "Pipe") S (pv A r)=True:=Wa
theorem mU:qc (A.c "Meter") S (mv A f)=True:=Wl
theorem eZ:qc (A.c "Net") S (aN A rs fs)=True:=by simp [qc,aN]
theorem lX:bE A [pv A r] S q x=q (.str r.1) S:=Vl
theorem CW:dB A [pv A r] S q x=q (.str r.2.1) S:=Td
theorem Ky:fL A [pv A r] S q x=q (.str r.2.2) S:=Xo
theorem oJ:bD A [mv A f] S q x=q (.str f.1) S:=VI
theorem yw:cC A [mv A f] S q x=q (.str f.2.1) S:=Yy
theorem Hy:fN A [mv A f] S q x=q (.bl f.2.2) S:=QG
theorem tU {ds:List D}:bQ S [.tup ds]=some (.int (ds.length:Nat)):=rfl
theorem gv {α:Type} {g:α->D} {n:Nat} {xs:List α} (h:∀ a∈xs,D.clean n (g a)=true):D.cg n (xs.map g)=true:=by
  induction xs with
  | nil=>rfl
  | cons a xs ih=>simp [D.cg,h a (List.mem_cons_self ..),ih λb hb=>h b (List.mem_cons_of_mem _ hb)]
theorem M9 {n:Nat}:D.clean n (.tup (rs.map (pv A)))=true:=by
  unfold D.clean
  exact gv λ_ _=>rfl
theorem NO {n:Nat}:D.clean n (.tup (fs.map (mv A)))=true:=by
  unfold D.clean
  exact gv λ_ _=>rfl
theorem jf:¬ (("joined":Str)="fitted"):=by decide+kernel
theorem XA {d:D}:putD "joined" d []=[(("joined":Str),d)]:=rfl
theorem XS {d e:D}:putD "fitted" e [(("joined":Str),d)]=[(("joined":Str),d),(("fitted":Str),e)]:=by
  unfold putD
  rw [if_neg jf]
  rfl
theorem FH (hA:gT A) (h:bw rs) (hq:q .non S):kh A [.tup (rs.map (pv A))] S q x:=by
  have hl:1≤(rs.map (pv A)).length:=by rw [List.length_map]; exact h.lo
  rw [zg]
  unfold aG aM
  simp only [List.map_cons,List.map_nil,List.length_cons,List.length_nil,Nat.reduceAdd,Nat.reduceSub,List.replicate,List.cons_append,List.nil_append,List.append_nil,Nat.zero_add]
  unfold rH
  refine ay λN_ hN_=>?_
  simp? [BW,tU,show decide ((((rs.map (pv A)).length:Nat):Int)=0)=false from decide_eq_false (by omega)]
  subst hN_
  refine ay λN_ hN_=>?_
  simp? [D.cg]
  subst hN_
  simp? []
  have go:∀ (rest:List LR) (done:List Str) (o2 o3:Option D) (kt:Kt),(done++rest.map (·.1)).Nodup->done.length+rest.length≤12->(∀ o2 o3,kt.nx [some (.tup (rs.map (pv A))),some (.cell S.length),o2,o3] (S++[.lst ((done++rest.map (·.1)).map D.str)]))->
      cE cB (bG 2 (aE (av 2) (aE (av 3) (bH)))) (oQ A)
        (gS done.length (rest.map (pv A))) [some (.tup (rs.map (pv A))),some (.cell S.length),o2,o3] (S++[.lst (done.map D.str)]) kt:=λrest=>by
    induction rest with
    | nil=>
      intro done o2 o3 kt nd hl hk
      have:=hk o2 o3
      rw [List.map_nil,List.append_nil] at this
      exact ⟨trivial,this⟩
    | cons r rest ih=>
      intro done o2 o3 kt nd hl hk
      simp only [List.length_cons] at hl
      have hno:r.1∉done:=λz=>by
        rw [List.nodup_append] at nd
        exact nd.2.2 r.1 z r.1 (by simp) rfl
      have hin:inD false (S++[.lst (done.map D.str)]) (.str r.1) (.cell S.length)=some (.bl false):=by
        rw [wY (ts:=done) (by simp [br])]
        simp [hno]
      have hge:decide ((12:Int)≤((done.length:Nat):Int))=false:=decide_eq_false (by omega)
      have hsm:small (done.map D.str).length=true:=aA (by simp; omega)
      have ih':=ih (done++[r.1]) (some (.int (done.length:Nat))) (some (pv A r)) kt (by simpa using nd) (by simp; omega) (λo2 o3=>by simpa using hk o2 o3)
      rw [List.map_append,List.length_append] at ih'
      rw [List.map_cons,gS,uX]
      unfold oQ
      simp? [IW hA,nK,lX,hin,hge,bF,cU,D.clean,hsm]
      exact ih'
  refine go rs [] none none _ (by simpa using h.nd) (by simpa using h.hi) λo2 o3=>?_
  simp? []
  rw [lZ rfl (λi h=>by cases h)]
  exact hq
theorem E7 (hA:gT A) (hL:bw rs) (h:bO rs fs) (hq:q .non S):jV A [.tup (fs.map (mv A)),.tup (rs.map (pv A))] S q x:=by
  have hs:small (rs.map (pv A)).length=true:=aA (by rw [List.length_map]; have:=hL.hi; omega)
  rw [wN]
  unfold aG aM
  simp only [List.map_cons,List.map_nil,List.length_cons,List.length_nil,Nat.reduceAdd,Nat.reduceSub,List.replicate,List.cons_append,List.nil_append,List.append_nil,Nat.zero_add]
  unfold p_
  refine ay λN_ hN_=>?_
  simp? [BW]
  subst hN_
  refine ay λN_ hN_=>?_
  simp? [hs]
  refine Oz (g:=λr:LR=>D.str r.1) _ trivial (λr hr=>⟨_,rfl,λq x=>?_⟩) ?_
  · unfold tY
    simp? [nK,lX]
  subst hN_
  refine ay λN_ hN_=>?_
  simp? [D.cg]
  subst hN_
  simp? []
  have go:∀ (rest:List FR) (done:List Str) (o2 o3 o6:Option D) (kt:Kt),(∀ f∈rest,f.2.1∈rs.map (·.1))->(done++rest.map (·.1)).Nodup->done.length+rest.length≤12->(∀ o2 o3,kt.nx [some (.tup (fs.map (mv A))),some (.tup (rs.map (pv A))),some (.lst (rs.map λr=>D.str r.1)),some (.cell S.length),o2,o3,o6] (S++[.lst ((done++rest.map (·.1)).map D.str)]))->
      cE cB (bG 2 (aE (av 4) (aE (av 5) (bH)))) (oz A)
        (gS done.length (rest.map (mv A))) [some (.tup (fs.map (mv A))),some (.tup (rs.map (pv A))),some (.lst (rs.map λr=>D.str r.1)),some (.cell S.length),o2,o3,o6] (S++[.lst (done.map D.str)]) kt:=λrest=>by
    induction rest with
    | nil=>
      intro done o2 o3 o6 kt ha nd hl hk
      have:=hk o2 o3
      rw [List.map_nil,List.append_nil] at this
      exact ⟨trivial,this⟩
    | cons r rest ih=>
      intro done o2 o3 o6 kt ha nd hl hk
      simp only [List.length_cons] at hl
      have hno:r.1∉done:=λz=>by
        rw [List.nodup_append] at nd
        exact nd.2.2 r.1 z r.1 (by simp) rfl
      have hin:inD false (S++[.lst (done.map D.str)]) (.str r.1) (.cell S.length)=some (.bl false):=by
        rw [wY (ts:=done) (by simp [br])]
        simp [hno]
      have hat:inD true (S++[.lst (done.map D.str)]) (.str r.2.1) (.lst (rs.map λr=>D.str r.1))=some (.bl false):=by
        rw [wY (ts:=rs.map (·.1)) (by simp [br])]
        have z:=ha r (List.mem_cons_self ..)
        simp only [z,not_true,decide_false,if_true]
      have hge:decide ((12:Int)≤((done.length:Nat):Int))=false:=decide_eq_false (by omega)
      have hsm:small (done.map D.str).length=true:=aA (by simp; omega)
      have ih':=ih (done++[r.1]) (some (.int (done.length:Nat))) (some (mv A r)) o6 kt (λf hf=>ha f (List.mem_cons_of_mem _ hf)) (by simpa using nd) (by simp; omega) (λo2 o3=>by simpa using hk o2 o3)
      rw [List.map_append,List.length_append] at ih'
      rw [List.map_cons,gS,uX]
      unfold oz
      simp? [Pw hA,mU,oJ,yw,hin,hat,hge,bF,cU,D.clean,hsm]
      exact ih'
  refine go fs [] none none none _ h.at_ (by simpa using h.nd) (by simpa using h.hi) λo2 o3=>?_
  simp? []
  rw [lZ rfl (λi h=>by cases h)]
  exact hq
theorem VB (hA:gT A) (hL:bw rs) (h:bO rs fs) (hq:q (aN A rs fs) S):vp .still (A.c "Net") 3 (nc A) [.tup (rs.map (pv A)),.tup (fs.map (mv A))] S q x:=by
  refine ⟨rfl,?_⟩
  rw [EX]
  unfold aG aM
  simp only [List.map_cons,List.map_nil,List.length_cons,List.length_nil,Nat.reduceAdd,Nat.reduceSub,List.replicate,List.cons_append,List.nil_append,List.append_nil,Nat.zero_add]
  unfold xY
  refine ay λN_ hN_=>?_
  simp? []
  refine FH hA hL ?_
  subst hN_
  refine ay λN_ hN_=>?_
  simp? []
  refine E7 hA hL h ?_
  subst hN_
  refine ay λN_ hN_=>?_
  simp? [bF,cU,M9,XA,show (0:Nat) < 1000 from by decide]
  subst hN_
  simp? [bF,cU,NO,XS,u6,C4,show (1:Nat) < 1000 from by decide]
  exact hq
end
end RV
end
section
namespace RV
open PySem L2
section
variable {A:Ad} {S:WS} {q:D->WS->Prop} {x:Xq} {rs:List LR} {fs:List FR} {r:LR} {f:FR} {a b:D}
def eY (r:LR):Str:=Txt.join " " ["pipe",r.1,r.2.1,r.2.2]
def eU (f:FR):Str:=Txt.join " " ([("meter":Str),f.1,f.2.1]++if f.2.2 then [("sealed":Str)] else [])
theorem yy:eY r="pipe "++r.1++" "++r.2.1++" "++r.2.2:=by
  unfold eY
  rw [TL.join_eq]
  refine BF ?_
  show (("pipe":Str)++(" ":Str)++(r.1++(" ":Str)++(r.2.1++(" ":Str)++r.2.2))).cps.toList=_
  simp only [mV,show ("pipe ":Str).cps.toList=("pipe":Str).cps.toList++(" ":Str).cps.toList from rfl,List.append_assoc]
theorem tK:eU f="meter "++f.1++" "++f.2.1++(if f.2.2 then (" sealed":Str) else ""):=by
  unfold eU
  rw [TL.join_eq]
  refine BF ?_
  cases f.2.2 with
  | true=>
    show (("meter":Str)++(" ":Str)++(f.1++(" ":Str)++(f.2.1++(" ":Str)++("sealed":Str)))).cps.toList=_
    simp only [if_true,mV,show ("meter ":Str).cps.toList=("meter":Str).cps.toList++(" ":Str).cps.toList from rfl,show (" sealed":Str).cps.toList=(" ":Str).cps.toList++("sealed":Str).cps.toList from rfl,List.append_assoc]
  | false=>
    show (("meter":Str)++(" ":Str)++(f.1++(" ":Str)++f.2.1)).cps.toList=_
    simp only [Bool.false_eq_true,if_false,mV,show ("meter ":Str).cps.toList=("meter":Str).cps.toList++(" ":Str).cps.toList from rfl,show ("":Str).cps.toList=[] from rfl,List.append_assoc,List.append_nil]
theorem L3 {s:Str}:Str.empty++s=s:=BF (by rw [mV]; rfl)
theorem Tn {s:Str}:s++("":Str)=s:=BF (by rw [mV]; exact List.append_nil _)
theorem om:("pipe ":Str).length=5:=by decide+kernel
theorem lF:("meter ":Str).length=6:=by decide+kernel
theorem k9:(" ":Str).length=1:=by decide+kernel
theorem ym:(" sealed":Str).length=7:=by decide+kernel
theorem wV {s:Str} (h:small s.length=true):tF S (.str s)=some (.str s):=by simp only [tF,h,if_true]
theorem Lp:Str.empty.length=0:=rfl
theorem U9 (hA:gT A) (h:vq r):mF A [pv A r] S q x=q (.str (eY r)) S:=by
  have l1:=(iT h.n).2
  have l2:=(iT h.s).2
  have l3:=(iT h.e).2
  rw [Aq]
  unfold aG aM
  simp only [List.map_cons,List.map_nil,List.length_cons,List.length_nil,Nat.reduceAdd,Nat.reduceSub,List.replicate,List.cons_append,List.nil_append,List.append_nil,Nat.zero_add]
  unfold vN
  simp? [IW hA,nK,lX,CW,Ky,wV (qB h.n),wV (qB h.s),wV (qB h.e),L3,cG,om,k9,Lp]
  rw [aA (by omega),aA (by omega),aA (by omega),aA (by omega),aA (by omega),yy]
  simp only [true_and]
theorem Vj (hA:gT A) (h1:Nm f.1) (h2:Nm f.2.1):mF A [mv A f] S q x=q (.str (eU f)) S:=by
  have l1:=(iT h1).2
  have l2:=(iT h2).2
  rw [tK]
  rw [Aq]
  unfold aG aM
  simp only [List.map_cons,List.map_nil,List.length_cons,List.length_nil,Nat.reduceAdd,Nat.reduceSub,List.replicate,List.cons_append,List.nil_append,List.append_nil,Nat.zero_add]
  unfold vN
  simp? [OC hA,mU,oJ,yw,Hy,wV (qB h1),wV (qB h2),L3,cG,lF,k9,ym,Lp]
  cases f.2.2 with
  | true=>
    simp? []
    rw [aA (by omega),aA (by omega),aA (by omega),aA (by omega)]
    simp only [true_and]
  | false=>
    simp? [Tn]
    rw [aA (by omega),aA (by omega),aA (by omega)]
    simp only [true_and]
def jI (rs:List LR) (fs:List FR):Str:=Txt.join "\n" (rs.map eY++fs.map eU)
theorem Hu (h:vq r):(eY r).length≤40:=by
  rw [yy]
  simp only [cG,om,k9]
  have l1:=(iT h.n).2
  have l2:=(iT h.s).2
  have l3:=(iT h.e).2
  omega
theorem G0 (h1:Nm f.1) (h2:Nm f.2.1):(eU f).length≤40:=by
  rw [tK]
  have l1:=(iT h1).2
  have l2:=(iT h2).2
  cases f.2.2
  · simp only [cG,lF,k9,Bool.false_eq_true,if_false,show ("":Str).length=0 from rfl]
    omega
  · simp only [cG,lF,k9,if_true,ym]
    omega
theorem Pa {xs:List Str} (h:∀ s∈xs,s.length≤40):(xs.map (·.length)).sum≤40 * xs.length:=by
  induction xs with
  | nil=>simp
  | cons a xs ih=>
    have h1:=h a (List.mem_cons_self ..)
    have h2:=ih λs hs=>h s (List.mem_cons_of_mem _ hs)
    simp only [List.map_cons,List.sum_cons,List.length_cons]
    omega
theorem Om {xs:List Str}:sL (xs.map D.str)=some xs:=by
  induction xs with
  | nil=>rfl
  | cons a xs ih=>simp [sL,ih]
theorem Ov {x:D} {sep:Str} {xs:List Str} (hi:br S x=some (xs.map D.str)) (h:(xs.map (·.length)).sum+xs.length * sep.length≤100000):oY S (.str sep) x=some (.str (Txt.join sep xs)):=by
  simp only [oY,onStr,hi,Option.bind_some,Om,h,if_true]
theorem EZ (hL:vj rs) (hF:sM rs fs):∀ s∈rs.map eY++fs.map eU,s.length≤40:=λs hs=>by
  rcases List.mem_append.mp hs with h | h
  · obtain ⟨r,hr,rfl⟩:=List.mem_map.mp h
    exact Hu (hL.rows r hr)
  · obtain ⟨f,hf,rfl⟩:=List.mem_map.mp h
    exact G0 (hF.n f hf) (hF.Nu hL hf)
theorem Pu:("\n":Str).length=1:=by decide+kernel
theorem K4 (hL:vj rs) (hF:sM rs fs) {x:D} (hi:br S x=some ((rs.map eY++fs.map eU).map D.str)):oY S (.str "\n") x=some (.str (jI rs fs)):=by
  refine Ov hi ?_
  have h1:=Pa (EZ hL hF)
  have h2:=hL.hi
  have h3:=hF.hi
  rw [Pu]
  simp only [List.length_append,List.length_map] at h1 ⊢
  omega
theorem ER (hL:bw rs) (hF:bO rs fs) {x:D} (hi:br S x=some ((rs.map eY++fs.map eU).map D.str)):oY S (.str "\n") x=some (.str (jI rs fs)):=K4 hL.w hF.w hi
theorem YO:List.lookup ("fitted":Str) [(("joined":Str),a),(("fitted":Str),b)]=some b:=by
  have h:(("fitted":Str) == "joined")=false:=by decide+kernel
  simp [List.lookup,h]
theorem YT:List.lookup ("joined":Str) [(("joined":Str),a),(("fitted":Str),b)]=some a:=by simp [List.lookup]
theorem lM:gz (A.c "Net") "joined" S (aN A rs fs)=some (.tup (rs.map (pv A))):=by simp only [gz,aN,if_true,YT]
theorem sJ:gz (A.c "Net") "fitted" S (aN A rs fs)=some (.tup (fs.map (mv A))):=by simp only [gz,aN,if_true,YO]
theorem zX:gY A [aN A rs fs] S q x=q (.tup (rs.map (pv A))) S:=by
  rw [Ck]
  unfold aG aM
  simp only [List.map_cons,List.map_nil,List.length_cons,List.length_nil,Nat.reduceAdd,Nat.reduceSub,List.replicate,List.cons_append,List.nil_append,List.append_nil,Nat.zero_add]
  unfold v7
  simp? [lM]
theorem m8:cz A [aN A rs fs] S q x=q (.tup (fs.map (mv A))) S:=by
  rw [AZ]
  unfold aG aM
  simp only [List.map_cons,List.map_nil,List.length_cons,List.length_nil,Nat.reduceAdd,Nat.reduceSub,List.replicate,List.cons_append,List.nil_append,List.append_nil,Nat.zero_add]
  unfold uu
  simp? [sJ]
theorem UJ:mL A [aN A rs fs] S q x=q (.int (rs.length:Nat)) S:=by
  rw [Hg]
  unfold aG aM
  simp only [List.map_cons,List.map_nil,List.length_cons,List.length_nil,Nat.reduceAdd,Nat.reduceSub,List.replicate,List.cons_append,List.nil_append,List.append_nil,Nat.zero_add]
  unfold AA
  simp? [lM,tU,List.length_map]
theorem To (hA:gT A) (hL:bw rs) (hF:bO rs fs):mO A [aN A rs fs] S q x=q (.str (jI rs fs)) S:=by
  have h1:small (rs.map (pv A)++fs.map (mv A)).length=true:=aA (by
    have:=hL.hi
    have:=hF.hi
    simp only [List.length_append,List.length_map]
    omega)
  have e:rs.map (pv A)++fs.map (mv A)=(rs.map Sum.inl++fs.map Sum.inr).map (λz:LR ⊕ FR=>match z with | .inl r=>pv A r | .inr f=>mv A f):=by simp [Function.comp_def]
  have e2:(rs.map Sum.inl++fs.map Sum.inr).map (λz:LR ⊕ FR=>match z with | .inl r=>D.str (eY r) | .inr f=>D.str (eU f))=(rs.map eY++fs.map eU).map D.str:=by simp [Function.comp_def]
  rw [G4]
  unfold aG aM
  simp only [List.map_cons,List.map_nil,List.length_cons,List.length_nil,Nat.reduceAdd,Nat.reduceSub,List.replicate,List.cons_append,List.nil_append,List.append_nil,Nat.zero_add]
  unfold AW
  simp? [lM,sJ,br,h1]
  rw [e,bM (g:=λz:LR ⊕ FR=>match z with | .inl r=>D.str (eY r) | .inr f=>D.str (eU f)) _ trivial,e2]
  · simp? [ER hL hF (x:=.lst ((rs.map eY++fs.map eU).map D.str)) rfl]
  · rintro (r | f) hz
    · refine ⟨_,rfl,λq x=>?_⟩
      have hr:r∈rs:=by simpa using hz
      simp? [U9 hA (hL.rows r hr)]
    · refine ⟨_,rfl,λq x=>?_⟩
      have hf:f∈fs:=by simpa using hz
      simp? [Vj hA (hF.n f hf) (hF.Nu hL hf)]
end
end RV
end
section
namespace RV
open PySem L2
section
variable {A:Ad} {S:WS} {q:D->WS->Prop} {x:Xq} {rs:List LR} {fs:List FR} {r:LR} {f:FR} {a b:D}
theorem qJ {s:Str} {c:Nat} (h:Nm s) (hc:(isLt c || lK c)=false):c∉TL.tl s:=λz=>by
  have:=PF h c z
  rw [hc] at this
  cases this
theorem JZ:(isLt 32 || lK 32)=false:=by decide+kernel
theorem Je:(isLt 10 || lK 10)=false:=by decide+kernel
theorem Ut:32∉TL.tl ("pipe":Str):=by decide+kernel
theorem QN:32∉TL.tl ("meter":Str):=by decide+kernel
theorem O6:32∉TL.tl ("sealed":Str):=by decide+kernel
theorem PD:(" ":Str).length≠0:=by decide+kernel
theorem VF:("\n":Str).length≠0:=by decide+kernel
def An (f:FR):List Str:=[("meter":Str),f.1,f.2.1]++if f.2.2 then [("sealed":Str)] else []
theorem Tf (h:vq r):nD S (.str (eY r)) (.str " ")=some (.lst [.str "pipe",.str r.1,.str r.2.1,.str r.2.2]):=by
  have hs:small (eY r).length=true:=aA (by have:=Hu h; omega)
  have e:Txt.split (eY r) " "=[("pipe":Str),r.1,r.2.1,r.2.2]:=by
    unfold eY
    refine TL.split_join (s:=32) (S:=[]) rfl (by decide+kernel) (by simp) λp hp=>?_
    simp only [List.mem_cons,List.not_mem_nil,or_false] at hp
    rcases hp with z | z | z | z <;> subst z
    · exact Ut
    · exact qJ h.n JZ
    · exact qJ h.s JZ
    · exact qJ h.e JZ
  simp only [nD,onStr,hs,PD,ne_eq,not_false_eq_true,and_self,if_true,e,List.map_cons,List.map_nil]
theorem Tu (h1:Nm f.1) (h2:Nm f.2.1):nD S (.str (eU f)) (.str " ")=some (.lst ((An f).map D.str)):=by
  have hs:small (eU f).length=true:=aA (by have:=G0 h1 h2; omega)
  have e:Txt.split (eU f) " "=An f:=by
    unfold eU An
    refine TL.split_join (s:=32) (S:=[]) rfl (by decide+kernel) (by simp) λp hp=>?_
    rcases List.mem_append.mp hp with hp | hp
    · simp only [List.mem_cons,List.not_mem_nil,or_false] at hp
      rcases hp with z | z | z <;> subst z
      · exact QN
      · exact qJ h1 JZ
      · exact qJ h2 JZ
    · split at hp
      · simp only [List.mem_cons,List.not_mem_nil,or_false] at hp
        subst hp
        exact O6
      · cases hp
  simp only [nD,onStr,hs,PD,ne_eq,not_false_eq_true,and_self,if_true,e]
theorem SE:decide (("meter":Str)="pipe")=false:=by decide+kernel
theorem Xd:decide (("pipe":Str)="pipe")=true:=by decide+kernel
theorem RX:decide (("meter":Str)="meter")=true:=by decide+kernel
theorem VU {a b c d:D}:aH S (.lst [a,b,c,d]) (.int 0)=some a:=rfl
theorem Ww {a b c d:D}:aH S (.lst [a,b,c,d]) (.int 1)=some b:=rfl
theorem U_ {a b c d:D}:aH S (.lst [a,b,c,d]) (.int 2)=some c:=rfl
theorem Yt {a b c d:D}:aH S (.lst [a,b,c,d]) (.int 3)=some d:=rfl
theorem YA {a b c:D}:aH S (.lst [a,b,c]) (.int 0)=some a:=rfl
theorem YC {a b c:D}:aH S (.lst [a,b,c]) (.int 1)=some b:=rfl
theorem Yn {a b c:D}:aH S (.lst [a,b,c]) (.int 2)=some c:=rfl
theorem WA {a b c d:D}:bQ S [.lst [a,b,c,d]]=some (.int 4):=rfl
theorem Yq {a b c:D}:bQ S [.lst [a,b,c]]=some (.int 3):=rfl
theorem Vh:inD false S (.int 4) (.tup [.int 3,.int 4])=some (.bl true):=rfl
theorem WO:inD false S (.int 3) (.tup [.int 3,.int 4])=some (.bl true):=rfl
theorem Yi:decide ((4:Int)=4)=true:=rfl
theorem YQ:decide ((3:Int)=4)=false:=rfl
theorem R6 {α:Type} {us:List α} {w:α}:perm [0] us [w]=us++[w]:=rfl
theorem V8 (h:vq r):mQ A [.str (eY r)] S q x=q (pv A r) S:=by
  rw [vh]
  unfold aG aM
  simp only [List.map_cons,List.map_nil,List.length_cons,List.length_nil,Nat.reduceAdd,Nat.reduceSub,List.replicate,List.cons_append,List.nil_append,List.append_nil,Nat.zero_add]
  unfold q_
  simp? [Tf h,WA,Yi,VU,Ww,U_,Yt,Xd,Ks h.n h.s h.e h.ne]
  rfl
theorem Vf (h1:Nm f.1) (h2:Nm f.2.1):mQ A [.str (eU f)] S q x=q (mv A f) S:=by
  obtain ⟨a,b,c⟩:=f
  have sp:=Tu (S:=S) (f:=(a,b,c)) h1 h2
  cases c with
  | true=>
    have e:(An (a,b,true)).map D.str=[.str "meter",.str a,.str b,.str "sealed"]:=rfl
    rw [e] at sp
    rw [vh]
    unfold aG aM
    simp only [List.map_cons,List.map_nil,List.length_cons,List.length_nil,Nat.reduceAdd,Nat.reduceSub,List.replicate,List.cons_append,List.nil_append,List.append_nil,Nat.zero_add]
    unfold q_
    simp? [sp,WA,Yi,VU,Ww,U_,SE,Vh,RX,R6,zm h1 h2]
    rfl
  | false=>
    have e:(An (a,b,false)).map D.str=[.str "meter",.str a,.str b]:=rfl
    rw [e] at sp
    rw [vh]
    unfold aG aM
    simp only [List.map_cons,List.map_nil,List.length_cons,List.length_nil,Nat.reduceAdd,Nat.reduceSub,List.replicate,List.cons_append,List.nil_append,List.append_nil,Nat.zero_add]
    unfold q_
    simp? [sp,Yq,YQ,YA,YC,Yn,SE,WO,RX,R6,zm h1 h2]
    rfl
end
end RV
end
section
namespace RV
open PySem L2
structure kM (k w:Nat) (p:PyData):Prop where
  sh:p.showable=true
  nd:p.hasDict=false
  dp:p.depth≤k
  ls:p.leavesShort 60=true
  wt:p.weight≤w
section
variable {k w:Nat} {xs:List PyData}
structure Dz (k w:Nat) (xs:List PyData):Prop where
  sh:PyData.showableAll xs=true
  nd:PyData.hasDictAll xs=false
  dp:PyData.depthAll xs≤k
  ls:PyData.leavesShortAll 60 xs=true
  wt:PyData.weightAll xs≤(w+1) * xs.length
theorem Dz.of:∀ {xs:List PyData},(∀ x∈xs,kM k w x)->Dz k w xs
  | [],_=>⟨rfl,rfl,Nat.zero_le _,rfl,Nat.zero_le _⟩
  | x :: xs,h=>by
    have a:=h x (List.mem_cons_self ..)
    have b:=Dz.of λy hy=>h y (List.mem_cons_of_mem _ hy)
    refine ⟨?_,?_,?_,?_,?_⟩
    · simp [PyData.showableAll,a.sh,b.sh]
    · simp [PyData.hasDictAll,a.nd,b.nd]
    · have:=a.dp
      have:=b.dp
      simp only [PyData.depthAll]
      omega
    · simp [PyData.leavesShortAll,a.ls,b.ls]
    · have h1:=a.wt
      have h2:=b.wt
      simp only [PyData.weightAll,List.length_cons,Nat.mul_succ]
      omega
theorem kM.list (h:∀ x∈xs,kM k w x):kM (k+1) ((w+1) * xs.length) (.list xs):=by
  have a:=Dz.of h
  refine ⟨?_,?_,?_,?_,?_⟩
  · simpa only [PyData.showable] using a.sh
  · simpa only [PyData.hasDict] using a.nd
  · have:=a.dp
    simp only [PyData.depth]
    omega
  · simpa only [PyData.leavesShort] using a.ls
  · simpa only [PyData.weight] using a.wt
theorem kM.tuple (h:∀ x∈xs,kM k w x):kM (k+1) ((w+1) * xs.length) (.tuple xs):=by
  have a:=Dz.of h
  refine ⟨?_,?_,?_,?_,?_⟩
  · simpa only [PyData.showable] using a.sh
  · simpa only [PyData.hasDict] using a.nd
  · have:=a.dp
    simp only [PyData.depth]
    omega
  · simpa only [PyData.leavesShort] using a.ls
  · simpa only [PyData.weight] using a.wt
theorem kM.mono {k' w':Nat} {p:PyData} (h:kM k w p) (hk:k≤k') (hw:w≤w'):kM k' w' p:=⟨h.sh,h.nd,Nat.le_trans h.dp hk,h.ls,Nat.le_trans h.wt hw⟩
theorem kM.bool {b:Bool}:kM k w (.bool b):=⟨rfl,rfl,Nat.zero_le _,rfl,Nat.zero_le _⟩
theorem kM.str {s:Str} (hs:PyData.strOk s=true) (hl:s.length≤w):kM k w (.str s):=by
  refine ⟨rfl,rfl,Nat.zero_le _,?_,hl⟩
  unfold PyData.strOk at hs
  rw [← Array.all_toList,List.all_eq_true] at hs
  simp only [PyData.leavesShort,List.all_eq_true]
  intro c hc
  have:=of_decide_eq_true (hs c hc)
  exact decide_eq_true (Nat.lt_of_lt_of_le this (by decide))
theorem kM.nm {s:Str} (h:Nm s):kM k 8 (.str s):=kM.str (JM h) (iT h).2
theorem S6 {S:WS} {d:D} {p:PyData} (hp:D.py d=some p) (h:kM k w p) (hk:k≤64) (hw:w≤200000):u9 S [d]=some (.str p.shown):=by
  have h1:=PyData.shown_le 60 (by decide) p h.ls
  have h2:p.shown.length≤sizeLine:=by
    have e:sizeLine=16777216:=by decide
    have:=h.wt
    omega
  have h3:p.depth≤64:=Nat.le_trans h.dp hk
  simp only [u9,hp,Option.bind_some,h.sh,h.nd,h2,h3,and_self,if_true]
end
end RV
end
section
namespace RV
open PySem L2
section
variable {A:Ad} {S:WS} {q:D->WS->Prop} {x:Xq} {rs:List LR} {fs:List FR} {r:LR} {f:FR} {a b:D}
def zs (rs:List LR) (fs:List FR):List (LR ⊕ FR):=rs.map Sum.inl++fs.map Sum.inr
def sH:LR ⊕ FR->Str
  | .inl r=>eY r
  | .inr f=>eU f
def uZ (A:Ad):LR ⊕ FR->D
  | .inl r=>pv A r
  | .inr f=>mv A f
theorem T4:(zs rs fs).map sH=rs.map eY++fs.map eU:=by simp [zs,Function.comp_def,sH]
theorem Yz:((zs rs fs).filter Sum.isLeft).map (uZ A)=rs.map (pv A):=by
  have h1:(rs.map (Sum.inl (β:=FR))).filter Sum.isLeft=rs.map Sum.inl:=List.filter_eq_self.mpr λz hz=>by
    obtain ⟨r,_,rfl⟩:=List.mem_map.mp hz
    rfl
  have h2:(fs.map (Sum.inr (α:=LR))).filter Sum.isLeft=[]:=List.filter_eq_nil_iff.mpr λz hz=>by
    obtain ⟨r,_,rfl⟩:=List.mem_map.mp hz
    simp
  simp [zs,List.filter_append,h1,h2,Function.comp_def,uZ]
theorem YH:((zs rs fs).filter Sum.isRight).map (uZ A)=fs.map (mv A):=by
  have h1:(rs.map (Sum.inl (β:=FR))).filter Sum.isRight=[]:=List.filter_eq_nil_iff.mpr λz hz=>by
    obtain ⟨r,_,rfl⟩:=List.mem_map.mp hz
    simp
  have h2:(fs.map (Sum.inr (α:=LR))).filter Sum.isRight=fs.map Sum.inr:=List.filter_eq_self.mpr λz hz=>by
    obtain ⟨r,_,rfl⟩:=List.mem_map.mp hz
    rfl
  simp [zs,List.filter_append,h1,h2,Function.comp_def,uZ]
theorem Pd (hL:vj rs) (hF:sM rs fs) {z:LR ⊕ FR} (hz:z∈zs rs fs):(∃ r,z=.inl r∧vq r)∨∃ f,z=.inr f∧Nm f.1∧Nm f.2.1:=by
  rcases List.mem_append.mp hz with h | h
  · obtain ⟨r,hr,rfl⟩:=List.mem_map.mp h
    exact .inl ⟨r,rfl,hL.rows r hr⟩
  · obtain ⟨f,hf,rfl⟩:=List.mem_map.mp h
    exact .inr ⟨f,rfl,hF.n f hf,hF.Nu hL hf⟩
theorem XO (hL:bw rs) (hF:bO rs fs) {z:LR ⊕ FR} (hz:z∈zs rs fs):(∃ r,z=.inl r∧vq r)∨∃ f,z=.inr f∧Nm f.1∧Nm f.2.1:=Pd hL.w hF.w hz
theorem WD (hL:bw rs) (hF:bO rs fs):(zs rs fs).length≤24:=by
  have:=hL.hi
  have:=hF.hi
  simp only [zs,List.length_append,List.length_map]
  omega
theorem XX:10∉TL.tl ("pipe ":Str)∧10∉TL.tl (" ":Str)∧10∉TL.tl ("meter ":Str)∧10∉TL.tl (" sealed":Str)∧10∉TL.tl ("":Str):=by decide+kernel
theorem oZ {a b:Str} {c:Nat} (ha:c∉TL.tl a) (hb:c∉TL.tl b):c∉TL.tl (a++b):=by
  rw [TL.tl_append]
  simp [ha,hb]
theorem Q3 (hL:vj rs) (hF:sM rs fs) {z:LR ⊕ FR} (hz:z∈zs rs fs):10∉TL.tl (sH z):=by
  obtain ⟨l1,l2,l3,l4,l5⟩:=XX
  rcases Pd hL hF hz with ⟨r,rfl,h⟩ | ⟨f,rfl,h1,h2⟩
  · show 10∉TL.tl (eY r)
    rw [yy]
    exact oZ (oZ (oZ (oZ (oZ l1 (qJ h.n Je)) l2) (qJ h.s Je)) l2) (qJ h.e Je)
  · show 10∉TL.tl (eU f)
    rw [tK]
    refine oZ (oZ (oZ (oZ l3 (qJ h1 Je)) l2) (qJ h2 Je)) ?_
    cases f.2.2
    · exact l5
    · exact l4
theorem NH:jI rs fs=Txt.join "\n" ((zs rs fs).map sH):=by rw [T4]; rfl
theorem Q4 {sep:Str}:∀ {xs:List Str},(Txt.join sep xs).length≤(xs.map (·.length)).sum+xs.length * sep.length:=by
  intro xs
  rw [TL.join_eq]
  induction xs with
  | nil=>exact Nat.zero_le _
  | cons a xs ih=>
    cases xs with
    | nil=>
      show a.length≤_
      simp
    | cons b xs=>
      show (a++sep++Str.join sep (b :: xs)).length≤_
      rw [cG,cG]
      simp only [List.map_cons,List.sum_cons,List.length_cons,Nat.succ_mul] at ih ⊢
      omega
theorem IL (hL:vj rs) (hF:sM rs fs):(jI rs fs).length≤1200:=by
  have h0:=Q4 (sep:="\n") (xs:=rs.map eY++fs.map eU)
  have h1:=Pa (EZ hL hF)
  have h2:=hL.hi
  have h3:=hF.hi
  rw [Pu] at h0
  unfold jI
  simp only [List.length_append,List.length_map] at h0 h1
  omega
theorem N4 (hL:vj rs) (hF:sM rs fs):nD S (.str (jI rs fs)) (.str "\n")=some (.lst ((zs rs fs).map λz=>.str (sH z))):=by
  have hs:small (jI rs fs).length=true:=aA (by have:=IL hL hF; omega)
  have e:Txt.split (jI rs fs) "\n"=(zs rs fs).map sH:=by
    rw [NH]
    refine TL.split_join (s:=10) (S:=[]) rfl (by decide+kernel) ?_ λp hp=>?_
    · have:=hL.lo
      intro h
      have:=congrArg List.length h
      simp [zs] at this
      rw [this.1] at hL
      exact absurd hL.lo (by simp)
    · obtain ⟨z,hz,rfl⟩:=List.mem_map.mp hp
      exact Q3 hL hF hz
  simp only [nD,onStr,hs,VF,ne_eq,not_false_eq_true,and_self,if_true,e,List.map_map]
  rfl
theorem O3 (hL:bw rs) (hF:bO rs fs):nD S (.str (jI rs fs)) (.str "\n")=some (.lst ((zs rs fs).map λz=>.str (sH z))):=N4 hL.w hF.w
theorem qW {ds:List D}:j4 S [.lst ds]=some (.tup ds):=rfl
theorem UL (hA:gT A) (hL:bw rs) (hF:bO rs fs):Br (A.c "Net") (mO A) [aN A rs fs] S q x=q (.str (jI rs fs)) S:=by
  unfold Br
  simp? [eZ,To hA hL hF]
theorem len_own (hL:bw rs):BE (A.c "Net") (mL A) [aN A rs fs] S q x=q (.int (rs.length:Nat)) S:=by
  unfold BE
  have:=hL.hi
  simp? [eZ,UJ,show (0≤((rs.length:Nat):Int)∧((rs.length:Nat):Int) < 2 ^ 62)=True from by simp; omega]
theorem FT (hA:gT A) (hL:bw rs) (hF:bO rs fs) (hq:q (aN A rs fs) S):kD A [.adr (A.c "Net"),.str (jI rs fs)] S q x:=by
  have h24:small (zs rs fs).length=true:=aA (by have:=WD hL hF; omega)
  rw [E_]
  unfold aG aM
  simp only [List.map_cons,List.map_nil,List.length_cons,List.length_nil,Nat.reduceAdd,Nat.reduceSub,List.replicate,List.cons_append,List.nil_append,List.append_nil,Nat.zero_add]
  unfold yg
  refine ay λN_ hN_=>?_
  simp? [L5]
  subst hN_
  refine ay λN_ hN_=>?_
  simp? [O3 hL hF,List.length_map,h24]
  rw [bM (g:=uZ A) _ trivial (λz hz=>?_)]
  rotate_left
  · refine ⟨_,rfl,λq x=>?_⟩
    rcases XO hL hF hz with ⟨r,rfl,h⟩ | ⟨f,rfl,h1,h2⟩
    · simp? [sH,V8 h]
      rfl
    · simp? [sH,Vf h1 h2]
      rfl
  simp? []
  subst hN_
  refine ay λN_ hN_=>?_
  simp? [List.length_map,h24]
  rw [nM (p:=Sum.isLeft) (g:=uZ A) _ _ trivial (λz hz=>?_)]
  rotate_left
  · refine ⟨_,rfl,λq x=>?_,λhp q x=>?_⟩
    · rcases z with r | f
      · simp? [uZ,IW hA,Sum.isLeft]
      · simp? [uZ,OC hA,Sum.isLeft]
    · simp? []
  simp? [Yz,qW]
  subst hN_
  refine ay λN_ hN_=>?_
  simp? [List.length_map,h24]
  rw [nM (p:=Sum.isRight) (g:=uZ A) _ _ trivial (λz hz=>?_)]
  rotate_left
  · refine ⟨_,rfl,λq x=>?_,λhp q x=>?_⟩
    · rcases z with r | f
      · simp? [uZ,WN hA,Sum.isRight]
      · simp? [uZ,Pw hA,Sum.isRight]
    · simp? []
  simp? [YH,qW]
  subst hN_
  refine ay λN_ hN_=>?_
  simp? []
  refine VB hA hL hF ?_
  subst hN_
  simp? [UL hA hL hF]
  exact hq
end
end RV
end
section
namespace RV
open PySem L2
def cI (ps:List Str) (pp:List b7):List LR:=pp.map λr=>(r.1,ps.getD r.2.1 "",ps.getD r.2.2 "")
def cQ (pp:List b7) (gg:List b_):List FR:=gg.map λg=>(g.1,(pp.getD g.2.1 ("",0,0)).1,g.2.2)
section
variable {A:Ad} {S:WS} {q:D->WS->Prop} {x:Xq} {most more:Nat} {ps:List Str} {pp:List b7} {gg:List b_} {r:b7} {g:b_}
theorem iZ {α:Type} {xs:List α} {i:Nat} {z:α} (h:i < xs.length):xs.getD i z=xs[i]:=by
  rw [List.getD_eq_getElem?_getD,List.getElem?_eq_getElem h]
  rfl
theorem getD_mem {α:Type} {xs:List α} {i:Nat} {z:α} (h:i < xs.length):xs.getD i z∈xs:=by
  rw [iZ h]
  exact List.getElem_mem _
theorem getD_inj {α:Type} {xs:List α} {i j:Nat} {z:α} (nd:xs.Nodup) (hi:i < xs.length) (hj:j < xs.length) (e:xs.getD i z=xs.getD j z):i=j:=by
  rw [iZ hi,iZ hj] at e
  have lt:∀ i j (hi:i < xs.length) (hj:j < xs.length),i < j->xs[i]≠xs[j]:=λi j hi hj hij=>List.pairwise_iff_getElem.mp nd i j hi hj hij
  rcases Nat.lt_trichotomy i j with h | h | h
  · exact absurd e (lt i j hi hj h)
  · exact h
  · exact absurd e.symm (lt j i hj hi h)
theorem bK.laid (h:bK most more ps pp gg) (hm:most≤12):bw (cI ps pp) where
  rows r hr:=by
    obtain ⟨p,hp,rfl⟩:=List.mem_map.mp hr
    obtain ⟨h1,h2,h3⟩:=h.en p hp
    exact ⟨h.nn p hp,h.pn _ (getD_mem h1),h.pn _ (getD_mem h2),λe=>h3 (getD_inj h.pd h2 h1 e).symm⟩
  nd:=by
    have:(cI ps pp).map (·.1)=pp.map (·.1):=by simp [cI,Function.comp_def]
    rw [this]
    exact h.nd
  lo:=by
    have:=h.nl
    rw [cI,List.length_map]
    omega
  hi:=by
    have:=h.nh
    rw [cI,List.length_map]
    omega
theorem bK.fits (h:bK most more ps pp gg) (hm:more≤12):bO (cI ps pp) (cQ pp gg) where
  n f hf:=by
    obtain ⟨p,hp,rfl⟩:=List.mem_map.mp hf
    exact h.gn p hp
  at_ f hf:=by
    obtain ⟨p,hp,rfl⟩:=List.mem_map.mp hf
    have:(cI ps pp).map (·.1)=pp.map (·.1):=by simp [cI,Function.comp_def]
    rw [this]
    exact List.mem_map.mpr ⟨_,getD_mem (h.ga p hp),rfl⟩
  nd:=by
    have:(cQ pp gg).map (·.1)=gg.map (·.1):=by simp [cQ,Function.comp_def]
    rw [this]
    exact h.gd
  hi:=by
    have:=h.gh
    rw [cQ,List.length_map]
    omega
theorem IG:aH S (cu ps pp gg) (.int 0)=some (.lst (ps.map D.str)):=rfl
theorem rP:aH S (cu ps pp gg) (.int 1)=some (.lst (pp.map cF)):=rfl
theorem FP:aH S (cu ps pp gg) (.int 2)=some (.lst (gg.map dU)):=rfl
theorem Rm:aH S (cF r) (.int 0)=some (.str r.1):=rfl
theorem Yw:aH S (cF r) (.int 1)=some (.int (r.2.1:Nat)):=rfl
theorem Yo:aH S (cF r) (.int 2)=some (.int (r.2.2:Nat)):=rfl
theorem VJ:aH S (dU g) (.int 0)=some (.str g.1):=rfl
theorem U8:aH S (dU g) (.int 1)=some (.int (g.2.1:Nat)):=rfl
theorem V1:aH S (dU g) (.int 2)=some (.bl g.2.2):=rfl
theorem jO {α:Type} {f:α->D} {xs:List α} {i:Nat} {z:α} (h:i < xs.length):aH S (.lst (xs.map f)) (.int (i:Int))=some (f (xs.getD i z)):=by
  rw [En (by rw [List.length_map]; exact h),List.getElem?_map,List.getElem?_eq_getElem h,iZ h]
  rfl
theorem SV {α:Type} {f:α->D} {xs:List α} {i:Nat} {z:α} (h:i < xs.length):aH S (.tup (xs.map f)) (.int (i:Int))=some (f (xs.getD i z)):=by
  rw [ix_tup (by rw [List.length_map]; exact h),List.getElem?_map,List.getElem?_eq_getElem h,iZ h]
  rfl
theorem Oi (h:bK most more ps pp gg) (hm:most≤12) (hm2:more≤12) (hq:q (.str (jI (cI ps pp) (cQ pp gg))) S):kq A [cu ps pp gg] S q x:=by
  have hL:=h.laid hm
  have hF:=h.fits hm2
  have sp:small pp.length=true:=aA (by have:=h.nh; omega)
  have sg:small gg.length=true:=aA (by have:=h.gh; omega)
  rw [D4]
  unfold aG aM
  simp only [List.map_cons,List.map_nil,List.length_cons,List.length_nil,Nat.reduceAdd,Nat.reduceSub,List.replicate,List.cons_append,List.nil_append,List.append_nil,Nat.zero_add]
  unfold yP
  have go1:∀ (r:List b7) (done:List Str) (o2 o3 o4:Option D) (kt:Kt),(∀ z∈r,z∈pp)->done.length+r.length≤12->
      (∀ o2 o3 o4,kt.nx [some (cu ps pp gg),some (.cell S.length),o2,o3,o4,none,none] (S++[.lst ((done++(cI ps r).map eY).map D.str)]))->
      cE cB (av 2) (tP A) (r.map cF) [some (cu ps pp gg),some (.cell S.length),o2,o3,o4,none,none] (S++[.lst (done.map D.str)]) kt:=λr=>by
    induction r with
    | nil=>
      intro done o2 o3 o4 kt _ _ hk
      have:=hk o2 o3 o4
      rw [show done++(cI ps []).map eY=done by simp [cI]] at this
      exact ⟨trivial,this⟩
    | cons r rest ih=>
      intro done o2 o3 o4 kt hz hl hk
      simp only [List.length_cons] at hl
      have hr:=hz r (List.mem_cons_self ..)
      obtain ⟨e1,e2,e3⟩:=h.en r hr
      have n1:=iT (h.nn r hr)
      have n2:=iT (h.pn (ps.getD r.2.1 "") (getD_mem e1))
      have n3:=iT (h.pn (ps.getD r.2.2 "") (getD_mem e2))
      have s1:small (("pipe ":Str).length+r.1.length)=true:=aA (by rw [om]; omega)
      have s2:small ((("pipe ":Str)++r.1).length+(" ":Str).length)=true:=aA (by rw [cG,om,k9]; omega)
      have s3:small ((("pipe ":Str)++r.1++" ").length+(ps.getD r.2.1 "").length)=true:=aA (by rw [cG,cG,om,k9]; omega)
      have s4:small ((("pipe ":Str)++r.1++" "++ps.getD r.2.1 "").length+(" ":Str).length)=true:=aA (by rw [cG,cG,cG,om,k9]; omega)
      have s5:small ((("pipe ":Str)++r.1++" "++ps.getD r.2.1 ""++" ").length+(ps.getD r.2.2 "").length)=true:=aA (by rw [cG,cG,cG,cG,om,k9]; omega)
      have hsm:small (done.map D.str).length=true:=aA (by simp; omega)
      have e4:done++(cI ps (r :: rest)).map eY=done++[eY (r.1,ps.getD r.2.1 "",ps.getD r.2.2 "")]++(cI ps rest).map eY:=by simp [cI]
      rw [e4] at hk
      have ih':=ih (done++[eY (r.1,ps.getD r.2.1 "",ps.getD r.2.2 "")]) (some (cF r)) (some (.str (ps.getD r.2.1 ""))) (some (.str (ps.getD r.2.2 ""))) kt (λz hz'=>hz z (List.mem_cons_of_mem _ hz')) (by simp; omega) hk
      rw [List.map_cons,uX]
      unfold tP
      simp? [IG,Rm,Yw,Yo,jO (z:=("":Str)) e1,jO (z:=("":Str)) e2,gG s1,gG s2,gG s3,gG s4,gG s5,bF,cU,D.clean,hsm]
      rw [yy,List.map_append] at ih'
      exact ih'
  have go2:∀ (r:List b_) (done:List Str) (o2 o3 o4 o5 o6:Option D) (kt:Kt),(∀ z∈r,z∈gg)->done.length+r.length≤24->
      (∀ o5 o6,kt.nx [some (cu ps pp gg),some (.cell S.length),o2,o3,o4,o5,o6] (S++[.lst ((done++(cQ pp r).map eU).map D.str)]))->
      cE cB (av 5) (u0 A) (r.map dU) [some (cu ps pp gg),some (.cell S.length),o2,o3,o4,o5,o6] (S++[.lst (done.map D.str)]) kt:=λr=>by
    induction r with
    | nil=>
      intro done o2 o3 o4 o5 o6 kt _ _ hk
      have:=hk o5 o6
      rw [show done++(cQ pp []).map eU=done by simp [cQ]] at this
      exact ⟨trivial,this⟩
    | cons r rest ih=>
      intro done o2 o3 o4 o5 o6 kt hz hl hk
      simp only [List.length_cons] at hl
      have hr:=hz r (List.mem_cons_self ..)
      have e1:=h.ga r hr
      have n1:=iT (h.gn r hr)
      have n2:=iT (h.nn (pp.getD r.2.1 ("",0,0)) (getD_mem e1))
      have s1:small (("meter ":Str).length+r.1.length)=true:=aA (by rw [lF]; omega)
      have s2:small ((("meter ":Str)++r.1).length+(" ":Str).length)=true:=aA (by rw [cG,lF,k9]; omega)
      have s3:small ((("meter ":Str)++r.1++" ").length+(pp.getD r.2.1 ("",0,0)).1.length)=true:=aA (by rw [cG,cG,lF,k9]; omega)
      have s4:small ((("meter ":Str)++r.1++" "++(pp.getD r.2.1 ("",0,0)).1).length+(" sealed":Str).length)=true:=aA (by rw [cG,cG,cG,lF,k9,ym]; omega)
      have s5:small ((("meter ":Str)++r.1++" "++(pp.getD r.2.1 ("",0,0)).1).length+("":Str).length)=true:=aA (by rw [cG,cG,cG,lF,k9,show ("":Str).length=0 from rfl]; omega)
      have hsm:small (done.map D.str).length=true:=aA (by simp; omega)
      have e4:done++(cQ pp (r :: rest)).map eU=done++[eU (r.1,(pp.getD r.2.1 ("",0,0)).1,r.2.2)]++(cQ pp rest).map eU:=by simp [cQ]
      rw [e4] at hk
      rw [List.map_cons,uX]
      unfold u0
      cases hb:r.2.2 with
      | true=>
        rw [hb] at hk
        have ih':=ih (done++[eU (r.1,(pp.getD r.2.1 ("",0,0)).1,true)]) o2 o3 o4 (some (dU r)) (some (.str " sealed")) kt (λz hz'=>hz z (List.mem_cons_of_mem _ hz')) (by simp; omega) hk
        rw [tK,List.map_append] at ih'
        simp? [rP,VJ,U8,V1,hb,jO (z:=(("",0,0):b7)) e1,Rm,gG s1,gG s2,gG s3,gG s4,bF,cU,D.clean,hsm]
        exact ih'
      | false=>
        rw [hb] at hk
        have ih':=ih (done++[eU (r.1,(pp.getD r.2.1 ("",0,0)).1,false)]) o2 o3 o4 (some (dU r)) (some (.str "")) kt (λz hz'=>hz z (List.mem_cons_of_mem _ hz')) (by simp; omega) hk
        rw [tK,List.map_append] at ih'
        simp? [rP,VJ,U8,V1,hb,jO (z:=(("",0,0):b7)) e1,Rm,gG s1,gG s2,gG s3,gG s5,bF,cU,D.clean,hsm]
        exact ih'
  have hl1:(cI ps pp).length≤12:=hL.hi
  refine ay λN_ hN_=>?_
  simp? [D.cg]
  subst hN_
  refine ay λN_ hN_=>?_
  simp? [rP]
  refine go1 pp [] none none none _ (λz hz=>hz) (by have:=h.nh; simp; omega) λo2 o3 o4=>?_
  dsimp only
  subst hN_
  refine ay λN_ hN_=>?_
  simp? [FP]
  refine go2 gg _ o2 o3 o4 none none _ (λz hz=>hz) (by have:=h.gh; simp; omega) λo5 o6=>?_
  dsimp only
  subst hN_
  have hj:oY (S++[.lst (((cI ps pp).map eY++(cQ pp gg).map eU).map D.str)]) (.str "\n") (.cell S.length)=some (.str (jI (cI ps pp) (cQ pp gg))):=ER hL hF (by simp [br])
  simp? [hj]
  rw [lZ rfl (λi h=>by cases h)]
  exact hq
end
end RV
end
section
namespace RV
open PySem L2
theorem ON {α:Type} {N:WS->Prop} {f:D->RV.Env->Option RV.Env} {mc:RV.Env->MB} {me:RV.Env->M} {ρ:RV.Env} {S:WS} {inj:α->D} {p:α->Bool} {g:α->D} {q:List D->WS->Prop}:∀ (xs:List α) (acc:List D),N S->(∀ a∈xs,∃ ρ1,f (inj a) ρ=some ρ1∧(∀ (q:Bool->WS->Prop) x,q (p a) S->mc ρ1 S q x)∧(p a=true->∀ (q:D->WS->Prop) x,q (g a) S->me ρ1 S q x))->
    q (acc++(xs.filter p).map g) S->pT N f mc me ρ (xs.map inj) acc S q
  | [],acc,hN,_,h=>⟨hN,by simpa using h⟩
  | a :: xs,acc,hN,hs,h=>by
    obtain ⟨ρ1,h1,h2,h3⟩:=hs a (List.mem_cons_self ..)
    have ih:=λacc h=>ON (q:=q) xs acc hN (λb hb=>hs b (List.mem_cons_of_mem _ hb)) h
    rw [List.map_cons]
    unfold pT
    rw [h1,qw]
    refine ⟨hN,h2 _ _ ?_⟩
    cases hp:p a with
    | true=>
      rw [Kg]
      refine h3 hp _ _ (ih _ ?_)
      rw [List.filter_cons_of_pos hp] at h
      simpa using h
    | false=>
      rw [JU]
      refine ih _ ?_
      rw [List.filter_cons_of_neg (by simp [hp])] at h
      exact h
def fW (pp:List b7):Gr:=⟨pp.length,λi=>(pp.getD i ("",0,0)).2.1,λi=>(pp.getD i ("",0,0)).2.2,λ_=>none⟩
def vec (v:List Int):Nat->Int:=λi=>v.getD i 0
theorem put2 {F:Nat->Int} {a b y:Nat} {c:Int} (e:a≠b):F y+((if b=y then c else 0) - (if a=y then c else 0))=(if y=b then (if b=a then F a - c else F b)+c else if y=a then F a - c else F y):=by
  by_cases z1:y=b
  · subst z1
    rw [if_pos rfl,if_pos rfl,if_neg e,if_neg (λz=>e z.symm)]
    omega
  · rw [if_neg z1,if_neg (λz=>z1 z.symm)]
    by_cases z2:y=a
    · subst z2
      rw [if_pos rfl,if_pos rfl]
      omega
    · rw [if_neg z2,if_neg (λz=>z2 z.symm)]
      omega
def Iv (n:Nat) (pp:List b7) (v:List Int):Bool:=!((List.range n).any λx=>!decide (bL (fW pp) (vec v) x=0))
theorem Jp {n:Nat} {pp:List b7} {v:List Int}:Iv n pp v=true↔∀ x,x < n->bL (fW pp) (vec v) x=0:=by
  unfold Iv
  rw [Bool.not_eq_true',List.any_eq_false]
  constructor
  · intro h x hx
    have:=h x (List.mem_range.mpr hx)
    simpa using this
  · intro h x hx
    rw [h x (List.mem_range.mp hx)]
    simp
def SO (vs:List (List Int)):List (List Int):=vs.map (· ++[-1])++vs.map (· ++[0])++vs.map (· ++[1])
def FZ:Nat->List (List Int)
  | 0=>[[]]
  | k+1=>SO (FZ k)
def NG (a:Int):Prop:=a= -1∨a=0∨a=1
theorem Dr:∀ {k:Nat} {v:List Int},v∈FZ k↔v.length=k∧∀ a∈v,NG a
  | 0,v=>by
    simp only [FZ,List.mem_singleton,List.length_eq_zero_iff]
    constructor
    · rintro rfl
      exact ⟨rfl,λa h=>by cases h⟩
    · exact λh=>h.1
  | k + 1,v=>by
    simp only [FZ,SO,List.mem_append,List.mem_map]
    constructor
    · rintro ((⟨u,hu,rfl⟩ | ⟨u,hu,rfl⟩) | ⟨u,hu,rfl⟩) <;>
      · obtain ⟨h1,h2⟩:=Dr.mp hu
        refine ⟨by simp [h1],λa ha=>?_⟩
        rcases List.mem_append.mp ha with z | z
        · exact h2 a z
        · rw [List.mem_singleton] at z
          subst z
          simp [NG]
    · rintro ⟨h1,h2⟩
      have hne:v≠[]:=λe=>by rw [e] at h1; cases h1
      have hs:=List.dropLast_concat_getLast hne
      have hu:v.dropLast∈FZ k:=Dr.mpr ⟨by rw [List.length_dropLast,h1]; rfl,λa ha=>h2 a (List.dropLast_subset _ ha)⟩
      rcases h2 _ (List.getLast_mem hne) with e | e | e
      · exact .inl (.inl ⟨_,hu,by rw [← e]; exact hs⟩)
      · exact .inl (.inr ⟨_,hu,by rw [← e]; exact hs⟩)
      · exact .inr ⟨_,hu,by rw [← e]; exact hs⟩
def pR (n:Nat) (pp:List b7):List (List Int):=(FZ pp.length).filter (Iv n pp)
section
variable {A:Ad} {S:WS} {q:D->WS->Prop} {x:Xq} {most more:Nat} {ps:List Str} {pp:List b7} {gg:List b_} {r:b7} {g:b_} {v:List Int}
theorem map_set {α β:Type} {f:α->β} {xs:List α} {i:Nat} {a:α}:(xs.map f).set i (f a)=(xs.set i a).map f:=(List.map_set ..).symm
end
end RV
end
section
namespace RV
open PySem L2
def yF (gg:List b_) (v:List Int):Bool:=gg.any λg=>g.2.2 && !decide (vec v g.2.1=0)
def zS (gg:List b_) (v:List Int):Int:=((gg.filter λg=>!decide (vec v g.2.1=0)).length:Nat)
def Ds (gg:List b_) (fl:List (List Int)) (i:Nat):List Int:=(fl.filter λv=>decide (vec v i=1) && !yF gg v).map (zS gg)
def bP:Option Int->D
  | none=>.non
  | some i=>.int i
def Gq (gg:List b_) (fl:List (List Int)) (i:Nat):Option Int:=if Ds gg fl i=[] then none else some (Aw (Ds gg fl i))
section
variable {A:Ad} {S:WS} {q:D->WS->Prop} {x:Xq} {most more:Nat} {ps:List Str} {pp:List b7} {gg:List b_} {r:b7} {g:b_} {v:List Int}
end
end RV
end
section
namespace RV
open PySem L2
def Co:List LR->List Str->List Str
  | [],T=>T
  | r :: rs,T=>Co rs (r.2.2 :: r.2.1 :: T)
theorem LN {k:Str}:∀ {rs:List LR} {T:List Str},k∈Co rs T↔k∈T∨∃ r∈rs,k=r.2.1∨k=r.2.2
  | [],T=>by simp [Co]
  | r :: rs,T=>by
    unfold Co
    rw [LN]
    simp only [List.mem_cons,exists_eq_or_imp]
    constructor
    · rintro ((h | h | h) | h) <;> simp [h]
    · rintro (h | (h | h) | h) <;> simp [h]
theorem Mg:∀ {rs:List LR} {T:List Str},(Co rs T).length=T.length+2 * rs.length
  | [],T=>by simp [Co]
  | r :: rs,T=>by
    unfold Co
    rw [Mg]
    simp only [List.length_cons]
    omega
def ak (rs:List LR):List Str:=pF (Co rs [])
theorem h_ {k:Str} {rs:List LR}:k∈ak rs↔∃ r∈rs,k=r.2.1∨k=r.2.2:=by
  unfold ak
  rw [yr,LN]
  simp
theorem Ln {rs:List LR}:(ak rs).Nodup:=Ot (x8 _)
theorem j8 {rs:List LR} (h:rs.length≤12):(ak rs).length≤24:=by
  have h1:=JP (Co rs [])
  have h2:=Mg (rs:=rs) (T:=[])
  unfold ak
  simp only [List.length_nil] at h2
  omega
def pos (p:Str):List Str->Nat
  | []=>0
  | a :: l=>if a=p then 0 else pos p l+1
theorem pA {p:Str}:∀ {l:List Str},p∈l->pos p l < l.length
  | [],h=>by cases h
  | a :: l,h=>by
    unfold pos
    by_cases e:a=p
    · rw [if_pos e]
      simp
    · rw [if_neg e]
      rcases List.mem_cons.mp h with h | h
      · exact absurd h.symm e
      · have:=pA h
        simp only [List.length_cons]
        omega
theorem sP {p:Str}:∀ {l:List Str},p∈l->l.getD (pos p l) ""=p
  | [],h=>by cases h
  | a :: l,h=>by
    unfold pos
    by_cases e:a=p
    · rw [if_pos e]
      exact e
    · rw [if_neg e]
      rcases List.mem_cons.mp h with h | h
      · exact absurd h.symm e
      · have:=sP h
        simpa [List.getD_eq_getElem?_getD] using this
theorem BG {p r:Str} {l:List Str} (hp:p∈l) (hr:r∈l) (e:pos p l=pos r l):p=r:=by
  rw [← sP hp,← sP hr,e]
def t_:Nat->List Str->List (Key×D)
  | _,[]=>[]
  | j,p :: ps=>(.inr p,.int (j:Nat)) :: t_ (j+1) ps
theorem My {p:Str}:∀ {ps:List Str} {j:Nat},t_ j (ps++[p])=t_ j ps++[(.inr p,.int ((j+ps.length:Nat):Int))]
  | [],j=>rfl
  | a :: ps,j=>by
    simp only [List.cons_append,t_,My (ps:=ps),List.length_cons]
    rw [show j+1+ps.length=j+(ps.length+1) by omega]
theorem P6 {p:Str}:∀ {ps:List Str} {j:Nat},p∉ps->((t_ j ps).any λkv=>decide (kv.1=.inr p))=false
  | [],j,_=>rfl
  | a :: ps,j,h=>by
    simp only [t_,List.any_cons,P6 (j:=j+1) (λz=>h (List.mem_cons_of_mem _ z)),Bool.or_false]
    exact decide_eq_false λz=>h (by cases z; exact List.mem_cons_self ..)
theorem LL {p:Str}:∀ {ps:List Str} {j:Nat},p∈ps->valD (t_ j ps) (.inr p)=some (.int ((j+pos p ps:Nat):Int))
  | [],j,h=>by cases h
  | a :: ps,j,h=>by
    unfold t_ valD pos
    by_cases e:a=p
    · subst e
      simp
    · rw [if_neg (λz=>e (by cases z; rfl)),if_neg e]
      rcases List.mem_cons.mp h with h | h
      · exact absurd h.symm e
      · rw [LL h]
        congr 3
        omega
theorem L0:∀ {ps:List Str} {j:Nat},(t_ j ps).length=ps.length
  | [],j=>rfl
  | a :: ps,j=>by simp [t_,L0]
theorem Ak {α:Type} {N:WS->Prop} {l:jc} {inner:RV.Env->WS->α->(α->WS->Prop)->Prop} {ρ:RV.Env} {d:D} {ds:List D} {S:WS} {a:α} {q:α->WS->Prop} (h:∀ F:α->WS->Prop,(F=λa' S2=>kO N l inner ρ ds S2 a' q)->(N S∧gx (l.f d (nS ρ l.vs)) λρ1=>l.mc ρ1 S (λb S1=>oR b (inner ρ1 S1 a F) (F a S1)) nj)):kO N l inner ρ (d :: ds) S a q:=h _ rfl
def eV (P:List Str) (r:LR):D:=.tup [.int (pos r.2.1 P:Nat),.int (pos r.2.2 P:Nat)]
section
variable {A:Ad} {S:WS} {q:D->WS->Prop} {x:Xq} {rs:List LR} {fs:List FR} {r:LR} {f:FR} {nm:Str}
theorem lP {m:Str} (h:m≠"joined") (h2:m≠"fitted"):mC (A.c "Net") m S (aN A rs fs):=by
  have e1:(m == "joined")=false:=by simpa using h
  have e2:(m == "fitted")=false:=by simpa using h2
  simp [mC,aN,List.lookup,e1,e2]
theorem Lo {P:List Str} {p:Str} (h:p∈P):sN S (.dic (t_ 0 P)) (.str p)=some (.int (pos p P:Nat)):=by
  simp [sN,DT,qQ,LL h]
theorem oS (hA:gT A) (hq:q .non S):eB A [aN A rs fs] S q x:=by
  rw [Ci]
  unfold aG aM
  simp only [List.map_cons,List.map_nil,List.length_cons,List.length_nil,Nat.reduceAdd,Nat.reduceSub,List.replicate,List.cons_append,List.nil_append,List.append_nil,Nat.zero_add]
  unfold vY
  simp? [Wz hA]
  exact hq
theorem sR (hL:bw rs) (hq:q (.tup ((ak rs).map D.str)) S):cW A [aN A rs fs] S q x:=by
  have hi:=hL.hi
  rw [As]
  unfold aG aM
  simp only [List.map_cons,List.map_nil,List.length_cons,List.length_nil,Nat.reduceAdd,Nat.reduceSub,List.replicate,List.cons_append,List.nil_append,List.append_nil,Nat.zero_add]
  unfold uv
  simp? [F9,lM]
  have go:∀ (rest:List LR) (T:List Str) (q:List Str->WS->Prop),T.length+2 * rest.length≤24->q (Co rest T) S->
      kO cB ⟨e7 (jS (gz (A.c "Net") "joined") (ah 0)),av 1,cP,[1],[1,2]⟩ (Ax (Kr (qz A)) [⟨e7 (eu .tup (ai (aX (A.c "Pipe") (dB A) (ah 1)) (ai (aX (A.c "Pipe") (fL A) (ah 1)) (ao)))),av 2,cP,[2],[2]⟩]) [some (aN A rs fs),none,none] (rest.map (pv A)) S T q:=λrest=>by
    induction rest with
    | nil=>
      intro T q _ h
      exact ⟨trivial,h⟩
    | cons r rest ih=>
      intro T q hl h
      simp only [List.length_cons] at hl
      have ih':=ih (r.2.2 :: r.2.1 :: T) q (by simp; omega) h
      rw [List.map_cons]
      refine Ak λF hF=>?_
      have c1:decide (T.length < 1000)=true:=decide_eq_true (by omega)
      have c2:decide (T.length+1 < 1000)=true:=decide_eq_true (by omega)
      simp? [Ax,kO,Kr,qz,nK,CW,Ky,c1,c2]
      rw [hF]
      exact ih'
  refine go rs [] _ (by simp; omega) ?_
  have hP:=j8 hi
  refine ⟨decide_eq_true (show (ak rs).length < 64 by omega),?_⟩
  simp? [qW]
  exact hq
theorem o_ (hL:bw rs) (hq:q (.tup (rs.map (eV (ak rs)))) S):b8 A [aN A rs fs] S q x:=by
  have hi:=hL.hi
  have hP:=j8 hi
  rw [EJ]
  unfold aG aM
  simp only [List.map_cons,List.map_nil,List.length_cons,List.length_nil,Nat.reduceAdd,Nat.reduceSub,List.replicate,List.cons_append,List.nil_append,List.append_nil,Nat.zero_add]
  unfold yW
  refine ay λN_ hN_=>?_
  simp? [Qa,eZ]
  refine sR hL ?_
  simp? []
  have go:∀ (rest done:List Str) (q:List (Key×D)->WS->Prop),done++rest=ak rs->q (t_ 0 (ak rs)) S->
      kO cB ⟨pP (ai (aX (A.c "Net") (cW A) (ah 0)) (ao)),bG 2 (aE (av 2) (aE (av 3) (bH))),cP,[2,3],[2,3]⟩ (Ax (CT (tO A) (u5 A)) []) [some (aN A rs fs),none,none,none,none] (gS done.length (rest.map D.str)) S (t_ 0 done) q:=λrest=>by
    induction rest with
    | nil=>
      intro done q e h
      rw [List.append_nil] at e
      subst e
      exact ⟨trivial,h⟩
    | cons p rest ih=>
      intro done q e h
      have hno:p∉done:=λz=>by
        have nd:=Ln (rs:=rs)
        rw [← e,List.nodup_append] at nd
        exact nd.2.2 p z p (by simp) rfl
      have hlen:done.length≤24:=by
        have:=congrArg List.length e
        rw [List.length_append] at this
        omega
      have ih':=ih (done++[p]) q (by simpa using e) h
      rw [My,List.length_append] at ih'
      rw [List.map_cons,gS]
      refine Ak λF hF=>?_
      have hp:vA (t_ 0 done) (.inr p) (.int (done.length:Nat))=t_ 0 done++[(.inr p,.int (done.length:Nat))]:=by
        unfold vA
        rw [P6 hno]
        simp
      rw [Nat.zero_add] at ih'
      simp? [Ax,CT,tO,u5,qQ,L0,aA (n:=done.length) (by omega),hp]
      rw [hF]
      exact ih'
  refine go (ak rs) [] _ rfl ?_
  simp? []
  subst hN_
  simp? [lM,List.length_map,aA (n:=rs.length) (by omega)]
  rw [bM (inj:=pv A) (g:=eV (ak rs)) _ trivial (λr hr=>⟨_,rfl,λq x=>by
    unfold AO
    simp? [nK,CW,Ky,Lo (h_.mpr ⟨r,hr,.inl rfl⟩),Lo (h_.mpr ⟨r,hr,.inr rfl⟩)]
    rfl⟩)]
  simp? [qW]
  exact hq
theorem QS {i:Nat} (hL:bw rs) (hi:i < rs.length) (hn:rs[i].1=nm) (hq:q (.int (i:Nat)) S):b9 A [aN A rs fs,.str nm] S q x:=by
  have h12:=hL.hi
  have hx:q7 (rs.map λr=>D.str r.1) (.str nm)=some (.int (i:Nat)):=by
    have f1:(rs.map λr=>D.str r.1).all kF=true:=by simp [kF]
    have f2:(rs.map λr=>D.str r.1).findIdx? (λy=>n9 y (.str nm))=some i:=by
      rw [List.findIdx?_eq_some_iff_getElem]
      refine ⟨by simpa using hi,?_,λj hj=>?_⟩
      · rw [List.getElem_map,hn]
        simp [n9]
      · rw [List.getElem_map]
        have p:=List.pairwise_iff_getElem.mp hL.nd j i (by simp; omega) (by simpa using hi) hj
        rw [List.getElem_map,List.getElem_map,hn] at p
        simpa [n9] using p
    unfold q7
    rw [f1,f2]
    rfl
  rw [vD]
  unfold aG aM
  simp only [List.map_cons,List.map_nil,List.length_cons,List.length_nil,Nat.reduceAdd,Nat.reduceSub,List.replicate,List.cons_append,List.nil_append,List.append_nil,Nat.zero_add]
  unfold oX
  simp? [lM,List.length_map,aA (n:=rs.length) (by omega)]
  rw [bM (inj:=pv A) (g:=λr:LR=>D.str r.1) _ trivial (λr hr=>⟨_,rfl,λq x=>by
    unfold se
    simp? [nK,lX]⟩)]
  simp? [hx]
  exact hq
theorem MT (hr:r∈rs) (hL:bw rs) (hq:q (pv A r) S):jQ A [aN A rs fs,.str r.1] S q x:=by
  rw [Er]
  unfold aG aM
  simp only [List.map_cons,List.map_nil,List.length_cons,List.length_nil,Nat.reduceAdd,Nat.reduceSub,List.replicate,List.cons_append,List.nil_append,List.append_nil,Nat.zero_add]
  unfold yc
  refine ay λN_ hN_=>?_
  simp? [lM]
  have go : ∀ (rest:List LR) (o2:Option D) (kt:Kt),r∈rest->(rest.map (·.1)).Nodup->(∀ S',kt.rt (pv A r) S'=fin S.length (pv A r) S' q)->
      cE cB (av 2) (uH A) (rest.map (pv A)) [some (aN A rs fs),some (.str r.1),o2] S kt:=λrest=>by
    induction rest with
    | nil=>intro o2 kt h; cases h
    | cons a rest ih=>
      intro o2 kt h nd hk
      rw [List.map_cons]
      refine qH trivial ?_
      unfold uH
      simp? [nK,lX]
      refine iX (λh1=>?_) (λh1=>?_)
      · have:a=r:=by
          rcases List.mem_cons.mp h with e | e
          · exact e.symm
          · rw [List.map_cons,List.nodup_cons] at nd
            exact absurd (List.mem_map.mpr ⟨r,e,h1.symm⟩) nd.1
        subst this
        simp? [hk]
        exact hq
      · simp? []
        refine ih _ kt ?_ ?_ hk
        · rcases List.mem_cons.mp h with e | e
          · exact absurd (by rw [e]) h1
          · exact e
        · rw [List.map_cons,List.nodup_cons] at nd
          exact nd.2
  exact go rs none _ hr hL.nd λS'=>rfl
theorem Cb (hr:r∈rs) (hL:bw rs) (hq:q .non S):jA A [aN A rs fs,.str r.1] S q x:=by
  rw [AM]
  unfold aG aM
  simp only [List.map_cons,List.map_nil,List.length_cons,List.length_nil,Nat.reduceAdd,Nat.reduceSub,List.replicate,List.cons_append,List.nil_append,List.append_nil,Nat.zero_add]
  unfold uJ
  simp? [lP (A:=A) (S:=S) (rs:=rs) (fs:=fs) (m:="pipe") (by decide+kernel) (by decide+kernel)]
  refine MT hr hL ?_
  simp? []
  exact hq
def uc (fs:List FR) (nm:Str):List FR:=fs.filter λf=>decide (f.2.1=nm)
def mK (fs:List FR) (nm:Str):Bool:=(uc fs nm).any (·.2.2)
theorem x7 (hF:bO rs fs) (hq:q (.tup ((uc fs nm).map (mv A))) S):cZ A [aN A rs fs,.str nm] S q x:=by
  have hi:=hF.hi
  rw [vB]
  unfold aG aM
  simp only [List.map_cons,List.map_nil,List.length_cons,List.length_nil,Nat.reduceAdd,Nat.reduceSub,List.replicate,List.cons_append,List.nil_append,List.append_nil,Nat.zero_add]
  unfold pS
  simp? [sJ,List.length_map,aA (n:=fs.length) (by omega)]
  rw [nM (inj:=mv A) (p:=λf:FR=>decide (f.2.1=nm)) (g:=mv A) _ _ trivial (λf hf=>⟨_,rfl,λq x=>by
    unfold sr
    simp? [mU,yw],λ_ q x=>by
    unfold su
    simp? []⟩)]
  simp? [qW]
  exact hq
theorem Hh (hF:bO rs fs) (hq:q (.bl (mK fs nm)) S):gO A [aN A rs fs,.str nm] S q x:=by
  have hi:=hF.hi
  have hl:(uc fs nm).length≤fs.length:=List.length_filter_le ..
  rw [xD]
  unfold aG aM
  simp only [List.map_cons,List.map_nil,List.length_cons,List.length_nil,Nat.reduceAdd,Nat.reduceSub,List.replicate,List.cons_append,List.nil_append,List.append_nil,Nat.zero_add]
  unfold qk
  simp? [lP (A:=A) (S:=S) (rs:=rs) (fs:=fs) (m:="meters_at") (by decide+kernel) (by decide+kernel)]
  refine x7 hF ?_
  simp? [List.length_map,aA (n:=(uc fs nm).length) (by omega)]
  rw [bM (inj:=mv A) (g:=λf:FR=>D.bl f.2.2) _ trivial (λf hf=>⟨_,rfl,λq x=>by
    unfold tX
    simp? [mU,Hy]⟩)]
  simp? [QO]
  exact hq
end
end RV
end
section
namespace RV
open PySem L2
def iW:Option Nat->D
  | none=>.non
  | some a=>.int (a:Nat)
def uO (fs:List FR) (nm:Str) (r:LR):Option Nat:=if r.1=nm∨mK fs r.1=true then none else some (uc fs r.1).length
def X5 (rs:List LR) (fs:List FR) (nm:Str):D:=.lst (rs.map λr=>iW (uO fs nm r))
def y9 (P:List Str) (rs:List LR) (fs:List FR) (nm:Str):Es:=rs.map λr=>(pos r.2.1 P,pos r.2.2 P,uO fs nm r)
def Mz (P:List Str) (rs:List LR) (ln:LR->Option Nat):Es:=rs.map λr=>(pos r.2.1 P,pos r.2.2 P,ln r)
def ly (d:Dl):Cell:=.lst (d.map iW)
section
variable {A:Ad} {S:WS} {q:D->WS->Prop} {x:Xq} {rs:List LR} {fs:List FR} {r:LR} {f:FR} {nm:Str} {d:Dl} {u v c i:Nat}
theorem gR {N:WS->Prop} {f:D->RV.Env->Option RV.Env} {mb:RV.Env->MS} {ρ:RV.Env} {S:WS} {d:D} {ds:List D} {kt:Kt} (h:∀ F:RV.Env->WS->Prop,(F=λρ2 S2=>cE N f mb ds ρ2 S2 kt)->(N S∧gx (f d ρ) λρ1=>mb ρ1 S ⟨F,kt.rt,kt.nx,F,kt.ex⟩)):cE N f mb (d :: ds) ρ S kt:=h _ rfl
theorem Q5:iW none=.non:=rfl
theorem Nn {a:Nat}:iW (some a)=.int (a:Nat):=rfl
theorem qb {neg:Bool} {i:Int}:gW neg S (.int i) .non=some (.bl neg):=by cases neg <;> rfl
theorem Rk (hL:bw rs) (hF:bO rs fs) (hq:q (X5 rs fs nm) S):iY A [aN A rs fs,.str nm] S q x:=by
  have h12:=hL.hi
  have m1:∀ S,mC (A.c "Net") "has_seal" S (aN A rs fs):=λS=>lP (by decide+kernel) (by decide+kernel)
  have m2:∀ S,mC (A.c "Net") "meters_at" S (aN A rs fs):=λS=>lP (by decide+kernel) (by decide+kernel)
  rw [uU]
  unfold aG aM
  simp only [List.map_cons,List.map_nil,List.length_cons,List.length_nil,Nat.reduceAdd,Nat.reduceSub,List.replicate,List.cons_append,List.nil_append,List.append_nil,Nat.zero_add]
  unfold nY
  refine ay λN_ hN_=>?_
  simp? [D.cg]
  subst hN_
  refine ay λN_ hN_=>?_
  simp? [eZ,zX]
  have go :∀ (rest done:List LR) (o3 o4:Option D) (kt:Kt),done.length+rest.length≤12->
      (∀ o3 o4,kt.nx [some (aN A rs fs),some (.str nm),some (.cell S.length),o3,o4] (S++[.lst ((done++rest).map λr=>iW (uO fs nm r))]))->
      cE cB (av 3) (jn A) (rest.map (pv A)) [some (aN A rs fs),some (.str nm),some (.cell S.length),o3,o4] (S++[.lst (done.map λr=>iW (uO fs nm r))]) kt:=λrest=>by
    induction rest with
    | nil=>
      intro done o3 o4 kt _ hk
      rw [List.append_nil] at hk
      exact ⟨trivial,hk o3 o4⟩
    | cons r rest ih=>
      intro done o3 o4 kt hl hk
      simp only [List.length_cons] at hl
      have e4:done++r :: rest=done++[r]++rest:=by simp
      rw [e4] at hk
      have sm:small (done.map λr=>iW (uO fs nm r)).length=true:=aA (by simp; omega)
      have sm':small done.length=true:=aA (by omega)
      have ih':=λo4=>ih (done++[r]) (some (pv A r)) o4 kt (by simp; omega) hk
      rw [List.map_append] at ih'
      rw [List.map_cons]
      refine qH trivial ?_
      unfold jn
      have hcl:∀ o:Option Nat,D.clean 0 (iW o)=true:=λo=>by cases o <;> rfl
      have Gp:uO fs nm r=none->∀ N:RV.Env->WS->Prop,(N=λρ' S'=>(iM (ah 2) (oH (dH dN (ah 4)) (eC .non) (aQ bQ (ai (ko (A.c "Net") "meters_at" 2 (cZ A) (ah 0) (ai (aX (A.c "Pipe") (bE A) (ah 3)) (ao))) (ao))))) ρ' S' ⟨λρ2 S2=>cE cB (av 3) (jn A) (rest.map (pv A)) ρ2 S2 kt,kt.rt,kt.nx,λρ2 S2=>cE cB (av 3) (jn A) (rest.map (pv A)) ρ2 S2 kt,kt.ex⟩)->
          N [some (aN A rs fs),some (.str nm),some (.cell S.length),some (pv A r),some (.bl true)] (S++[.lst (done.map λr=>iW (uO fs nm r))]):=λe N hN=>by
        subst hN
        simp? [bF,cU,D.clean,sm]
        have:=ih' (some (.bl true))
        rw [List.map_cons,e] at this
        exact this
      refine ay λN_ hN_=>?_
      simp? [nK,lX]
      refine iX (λh1=>?_) (λh1=>?_)
      · simp? []
        exact Gp (if_pos (.inl h1)) _ hN_
      · simp? [m1,nK,lX]
        refine Hh hF ?_
        cases hs:mK fs r.1 with
        | true=>exact Gp (if_pos (.inr hs)) _ hN_
        | false=>
          subst hN_
          simp? [m2,nK,lX,bF]
          refine x7 hF ?_
          simp? [tU,List.length_map,bF,cU,D.clean,sm']
          have:=ih' (some (.bl false))
          rw [List.map_cons,show uO fs nm r=some (uc fs r.1).length from if_neg (by rintro (z | z); exact h1 z; rw [hs] at z; cases z)] at this
          exact this
  refine go rs [] none none _ (by simpa using h12) λo3 o4=>?_
  dsimp only
  subst hN_
  simp? []
  rw [pW]
  exact hq
theorem R7 (h:i < d.length):aH (S++[ly d]) (.cell S.length) (.int (i:Int))=some (iW (iQ d i)):=by
  unfold ly
  rw [qT (ds:=d.map iW) bF,mS (by simpa using h),List.getElem?_map]
  unfold iQ
  rw [List.getElem?_eq_getElem h]
  rfl
theorem OZ {o:Option Nat} (h:i < d.length):iU (.cell S.length) (.int (i:Int)) (iW o) (S++[ly d])=some (S++[ly (d.set i o)]):=by
  have hc:D.clean 0 (iW o)=true:=by cases o <;> rfl
  unfold ly
  rw [gZ (ds:=d.map iW) bF hc]
  unfold ixN
  rw [if_pos (by omega),if_pos (by simp; omega),Option.map_some,cU,Int.toNat_natCast,map_set]
theorem OF (hu:u < d.length) (hv:v < d.length) (hq:q .non (S++[ly (pU d u v c)])):qC A [.cell S.length,.int (u:Nat),.int (v:Nat),.int (c:Nat)] (S++[ly d]) q x:=by
  rw [LM]
  unfold aG aM
  simp only [List.map_cons,List.map_nil,List.length_cons,List.length_nil,Nat.reduceAdd,Nat.reduceSub,List.replicate,List.cons_append,List.nil_append,List.append_nil,Nat.zero_add]
  unfold Gg
  simp? [R7 hu,R7 hv]
  unfold pU at hq
  cases e1:iQ d u with
  | none=>
    rw [e1] at hq
    simp? [iW]
    exact hq
  | some a=>
    rw [e1] at hq
    dsimp only at hq
    have st:∀ S:WS,iU (.cell S.length) (.int (v:Int)) (.int ((a:Int)+(c:Int))) (S++[ly d])=some (S++[ly (d.set v (some (a+c)))]):=λS=>by
      have:=OZ (S:=S) (o:=some (a+c)) hv
      rw [show iW (some (a+c))=.int ((a:Int)+(c:Int)) from by simp [iW]] at this
      exact this
    cases e2:iQ d v with
    | none=>
      rw [e2] at hq
      simp? [iW,qb,st,u6]
      exact hq
    | some b=>
      rw [e2] at hq
      dsimp only at hq
      simp? [iW,qb]
      refine iX (λh1=>?_) (λh1=>?_)
      · rw [if_pos (by omega)] at hq
        simp? [st,u6]
        exact hq
      · rw [if_neg (by omega)] at hq
        simp? []
        exact hq
theorem yx:(pU d u v c).length=d.length:=sY.1
theorem zip_map {f g:LR->D}:∀ rs:List LR,fS (rs.map f) (rs.map g)=rs.map λr=>.tup [f r,g r]
  | []=>rfl
  | r :: rs=>by
    simp only [List.map_cons,fS,zip_map rs]
theorem NI {o:Nat} {ln:LR->Option Nat} (hL:bw rs) (ho:o < (ak rs).length) (hq:q (.lst ((kB (Mz (ak rs) rs ln) (ak rs).length o).map iW)) S):lV A [aN A rs fs,.int (o:Nat),.lst (rs.map λr=>iW (ln r))] S q x:=by
  have h12:=hL.hi
  have hP:=j8 h12
  rw [Ca]
  unfold aG aM
  simp only [List.map_cons,List.map_nil,List.length_cons,List.length_nil,Nat.reduceAdd,Nat.reduceSub,List.replicate,List.cons_append,List.nil_append,List.append_nil,Nat.zero_add]
  unfold wD
  refine ay λN_ hN_=>?_
  simp? [eZ]
  refine sR hL ?_
  simp? [List.length_map,aA (n:=(ak rs).length) (by omega)]
  rw [bM (inj:=D.str) (g:=λ_:Str=>D.non) _ trivial (λa ha=>⟨_,rfl,λq x=>rfl⟩)]
  simp? [gv (g:=λ_:Str=>D.non) (n:=0) (xs:=ak rs) (λ_ _=>rfl)]
  subst hN_
  have e0:Cell.lst ((ak rs).map λ_=>D.non)=ly (List.replicate (ak rs).length none):=by
    unfold ly
    rw [List.map_replicate,List.map_const']
    rfl
  rw [e0]
  refine ay λN_ hN_=>?_
  have st:=OZ (S:=S) (i:=o) (o:=some 0) (d:=List.replicate (ak rs).length none) (by simpa using ho)
  rw [show iW (some 0)=.int 0 from rfl] at st
  simp? [st]
  subst hN_
  have hlen:∀ d:Dl,bQ (S++[ly d]) [.cell S.length]=some (.int (d.length:Nat)):=λd=>by
    have:(S++[ly d])[S.length]? =some (.lst (d.map iW)):=bF
    have e:br (S++[ly d]) (.cell S.length)=some (d.map iW):=by simp only [br,this]
    show ((br (S++[ly d]) (.cell S.length)).map λds=>D.int (ds.length:Nat))=_
    rw [e,Option.map_some,List.length_map]
  refine ay λN_ hN_=>?_
  simp? [hlen,List.length_set,List.length_replicate]
  refine ⟨⟨by omega,by omega⟩,?_⟩
  rw [jL]
  have inner:∀ (N:WS->Prop),(∀ S,N S)->∀ (rest:List LR) (d:Dl) (o5 o6 o7:Option D) (k4:D) (kt:Kt),(∀ r∈rest,r∈rs)->d.length=(ak rs).length->
      (∀ (d':Dl) o5 o6 o7,d'=(Mz (ak rs) rest ln).foldl stepF d->kt.nx [some (aN A rs fs),some (.int (o:Nat)),some (.lst (rs.map λr=>iW (ln r))),some (.cell S.length),some k4,o5,o6,o7,none] (S++[ly d']))->
      cE N (bG 2 (aE (bG 2 (aE (av 5) (aE (av 6) (bH)))) (aE (av 7) (bH)))) (rM A) (rest.map λr=>.tup [eV (ak rs) r,iW (ln r)]) [some (aN A rs fs),some (.int (o:Nat)),some (.lst (rs.map λr=>iW (ln r))),some (.cell S.length),some k4,o5,o6,o7,none] (S++[ly d]) kt:=λN hN rest=>by
    induction rest with
    | nil=>
      intro d o5 o6 o7 k4 kt _ _ hk
      exact ⟨hN _,hk d o5 o6 o7 rfl⟩
    | cons r rest ih=>
      intro d o5 o6 o7 k4 kt hz hd hk
      have hr:=hz r (List.mem_cons_self ..)
      have p1:pos r.2.1 (ak rs) < d.length:=by rw [hd]; exact pA (h_.mpr ⟨r,hr,.inl rfl⟩)
      have p2:pos r.2.2 (ak rs) < d.length:=by rw [hd]; exact pA (h_.mpr ⟨r,hr,.inr rfl⟩)
      have ih':=λd' hd' h=>ih d' (some (.int (pos r.2.1 (ak rs):Nat))) (some (.int (pos r.2.2 (ak rs):Nat))) (some (iW (ln r))) k4 kt (λr hr=>hz r (List.mem_cons_of_mem _ hr)) hd' h
      rw [List.map_cons]
      refine gR λF hF=>?_
      unfold rM
      unfold eV
      cases e:ln r with
      | none=>
        rw [e] at ih'
        simp? [hN,Q5]
        rw [hF]
        refine ih' d hd λd' o5 o6 o7 h=>hk d' o5 o6 o7 ?_
        rw [h]
        simp [Mz,stepF,e]
      | some c=>
        rw [e] at ih'
        simp? [hN,Nn,qb]
        refine OF p1 p2 ?_
        simp? []
        refine OF (by rw [yx]; exact p2) (by rw [yx]; exact p1) ?_
        simp? []
        rw [hF]
        refine ih' _ (by rw [yx,yx]; exact hd) λd' o5 o6 o7 h=>hk d' o5 o6 o7 ?_
        rw [h]
        simp [Mz,stepF,e]
  have outer:∀ (ks:List Nat) (d:Dl) (o4 o5 o6 o7:Option D) (kt:Kt),d.length=(ak rs).length->
      (∀ o4 o5 o6 o7,kt.nx [some (aN A rs fs),some (.int (o:Nat)),some (.lst (rs.map λr=>iW (ln r))),some (.cell S.length),o4,o5,o6,o7,none] (S++[ly (Lm (Mz (ak rs) rs ln) ks.length d)]))->
      cE cB (av 4) (rK A) (ks.map λ(i:Nat)=>D.int (i:Int)) [some (aN A rs fs),some (.int (o:Nat)),some (.lst (rs.map λr=>iW (ln r))),some (.cell S.length),o4,o5,o6,o7,none] (S++[ly d]) kt:=λks=>by
    induction ks with
    | nil=>
      intro d o4 o5 o6 o7 kt _ hk
      exact ⟨trivial,hk o4 o5 o6 o7⟩
    | cons k ks ih=>
      intro d o4 o5 o6 o7 kt hd hk
      rw [List.map_cons]
      refine lE trivial λF hF=>?_
      unfold rK
      simp? [iZip,eZ]
      refine o_ hL ?_
      simp? [oE,zip_map]
      refine inner _ (λ_=>by first | trivial | exact ⟨trivial,trivial⟩) rs d o5 o6 o7 _ _ (λr hr=>hr) hd λd' o5' o6' o7' h=>?_
      subst h
      rw [hF]
      exact ih _ _ _ _ _ kt (by rw [show ((Mz (ak rs) rs ln).foldl stepF d).length=d.length from ow.1]; exact hd) hk
  refine outer (List.range (ak rs).length) _ none none none none _ (by simp) λo4 o5 o6 o7=>?_
  dsimp only
  subst hN_
  rw [List.length_range]
  simp? []
  unfold ly
  rw [pW]
  exact hq
end
end RV
end
section
namespace RV
open PySem L2
def BR (rs:List LR) (fs:List FR) (r:LR):Dl:=kB (y9 (ak rs) rs fs r.1) (ak rs).length (pos r.2.2 (ak rs))
def l_ (rs:List LR) (fs:List FR) (r:LR):Option Nat:=match iQ (BR rs fs r) (pos r.2.1 (ak rs)) with
  | none=>none
  | some far=>if mK fs r.1 then none else some (far+(uc fs r.1).length)
section
variable {A:Ad} {S:WS} {q:D->WS->Prop} {x:Xq} {rs:List LR} {fs:List FR} {r:LR} {f:FR} {nm:Str}
theorem Ml {i:Nat} (hi:i < rs.length) {P:List Str}:aH S (.tup (rs.map (eV P))) (.int (i:Int))=some (eV P rs[i]):=by
  rw [SV (z:=rs[i]) hi,iZ hi]
theorem X4 {P:List Str}:aH S (eV P r) (.int 0)=some (.int (pos r.2.1 P:Nat)):=rfl
theorem end_1 {P:List Str}:aH S (eV P r) (.int 1)=some (.int (pos r.2.2 P:Nat)):=rfl
theorem sC (hr:r∈rs):pos r.2.1 (ak rs) < (ak rs).length:=pA (h_.mpr ⟨r,hr,.inl rfl⟩)
theorem nQ (hr:r∈rs):pos r.2.2 (ak rs) < (ak rs).length:=pA (h_.mpr ⟨r,hr,.inr rfl⟩)
theorem Ef {P:List Str} (hP:P=ak rs):∀ e∈y9 P rs fs nm,e.1 < P.length∧e.2.1 < P.length:=λe he=>by
  obtain ⟨r,hr,rfl⟩:=List.mem_map.mp he
  subst hP
  exact ⟨sC hr,nQ hr⟩
theorem Pr (hr:r∈rs):(BR rs fs r).length=(ak rs).length:=(Du (nQ hr) (Ef rfl)).1
theorem BX (hr:r∈rs) (hL:bw rs) (hF:bO rs fs) (hq:q (.lst ((BR rs fs r).map iW)) S):gK A [aN A rs fs,.str r.1] S q x:=by
  obtain ⟨i,hi,rfl⟩:=List.mem_iff_getElem.mp hr
  have m1:∀ S,mC (A.c "Net") "number_of" S (aN A rs fs):=λS=>lP (by decide+kernel) (by decide+kernel)
  rw [qZ]
  unfold aG aM
  simp only [List.map_cons,List.map_nil,List.length_cons,List.length_nil,Nat.reduceAdd,Nat.reduceSub,List.replicate,List.cons_append,List.nil_append,List.append_nil,Nat.zero_add]
  unfold mD
  simp? [eZ]
  refine o_ hL ?_
  simp? [m1]
  refine QS hL hi rfl ?_
  simp? [Ml hi,end_1]
  refine Rk hL hF ?_
  simp? []
  refine NI hL (nQ hr) ?_
  simp? []
  exact hq
theorem U4 {d:Dl} {i:Nat} (h:i < d.length):aH S (.lst (d.map iW)) (.int (i:Int))=some (iW (iQ d i)):=by
  rw [En (by simpa using h),List.getElem?_map]
  unfold iQ
  rw [List.getElem?_eq_getElem h]
  rfl
theorem AV (hr:r∈rs) (hL:bw rs) (hF:bO rs fs) (hq:q (iW (l_ rs fs r)) S):iR A [aN A rs fs,.str r.1] S q x:=by
  obtain ⟨i,hi,e⟩:=List.mem_iff_getElem.mp hr
  have m1:∀ S,mC (A.c "Net") "number_of" S (aN A rs fs):=λS=>lP (by decide+kernel) (by decide+kernel)
  have m2:∀ S,mC (A.c "Net") "has_seal" S (aN A rs fs):=λS=>lP (by decide+kernel) (by decide+kernel)
  have m3:∀ S,mC (A.c "Net") "meters_at" S (aN A rs fs):=λS=>lP (by decide+kernel) (by decide+kernel)
  have hs:pos r.2.1 (ak rs) < (BR rs fs r).length:=by rw [Pr hr]; exact sC hr
  rw [zd]
  unfold aG aM
  simp only [List.map_cons,List.map_nil,List.length_cons,List.length_nil,Nat.reduceAdd,Nat.reduceSub,List.replicate,List.cons_append,List.nil_append,List.append_nil,Nat.zero_add]
  unfold rQ
  refine ay λN_ hN_=>?_
  simp? []
  refine BX hr hL hF ?_
  simp? [eZ]
  refine o_ hL ?_
  simp? [m1]
  refine QS hL hi (by rw [e]) ?_
  simp? [Ml hi,e,X4,U4 hs]
  subst hN_
  unfold l_ at hq
  cases hd:iQ (BR rs fs r) (pos r.2.1 (ak rs)) with
  | none=>
    rw [hd] at hq
    refine ay λN_ hN_=>?_
    simp? [Q5]
    exact hq
  | some far=>
    rw [hd] at hq
    dsimp only at hq
    refine ay λN_ hN_=>?_
    simp? [Nn,qb,m2]
    refine Hh hF ?_
    cases hs:mK fs r.1 with
    | true=>
      rw [hs,if_pos rfl] at hq
      simp? []
      exact hq
    | false=>
      rw [hs,if_neg (by decide)] at hq
      simp? []
      subst hN_
      simp? [m3]
      refine x7 hF ?_
      simp? [tU,List.length_map]
      rw [Nn,Int.natCast_add] at hq
      exact hq
theorem VH (hA:gT A) (hr:r∈rs) (hL:bw rs) (hF:bO rs fs) (hq:q (iW (l_ rs fs r)) S):lI A [aN A rs fs,.str r.1] S q x:=by
  rw [Ep]
  unfold aG aM
  simp only [List.map_cons,List.map_nil,List.length_cons,List.length_nil,Nat.reduceAdd,Nat.reduceSub,List.replicate,List.cons_append,List.nil_append,List.append_nil,Nat.zero_add]
  unfold x6
  refine ay λN_ hN_=>?_
  simp? []
  refine oS hA ?_
  subst hN_
  refine ay λN_ hN_=>?_
  simp? []
  refine Cb hr hL ?_
  subst hN_
  simp? []
  refine AV hr hL hF ?_
  simp? []
  exact hq
end
end RV
end
section
namespace RV
open PySem L2
theorem z8 {f:Nat->Int} {m:Nat}:∀ {gg:List b_},(∀ g∈gg,g.2.1 < m)->aL (λi=>if f i≠0 then (((gg.filter λg=>decide (g.2.1=i)).length:Nat):Int) else 0) m=((gg.filter λg=>!decide (f g.2.1=0)).length:Nat)
  | [],_=>by
    rw [eG λi _=>by simp]
    rfl
  | g :: gg,h=>by
    have hg:=h g (List.mem_cons_self ..)
    have ih:=z8 (f:=f) (m:=m) (gg:=gg) λg hg=>h g (List.mem_cons_of_mem _ hg)
    have e:aL (λi=>if f i≠0 then ((((g :: gg).filter λg=>decide (g.2.1=i)).length:Nat):Int) else 0) m=aL (λi=>(if i=g.2.1 then (if f g.2.1≠0 then 1 else 0) else 0)+if f i≠0 then (((gg.filter λg=>decide (g.2.1=i)).length:Nat):Int) else 0) m:=by
      refine aY λi _=>?_
      by_cases z:g.2.1=i
      · subst z
        rw [List.filter_cons_of_pos (by simp),if_pos rfl,List.length_cons]
        by_cases y:f g.2.1=0
        · simp [y]
        · rw [if_pos y,if_pos y,if_pos y]
          omega
      · rw [List.filter_cons_of_neg (by simp [z]),if_neg (c:=i=g.2.1) (λw=>z w.symm)]
        omega
    rw [e,lN,ih,gA,if_pos hg]
    by_cases y:f g.2.1=0
    · rw [List.filter_cons_of_neg (by simp [y]),if_neg (by simp [y])]
      omega
    · rw [List.filter_cons_of_pos (by simp [y]),if_pos y,List.length_cons]
      omega
section
variable {most more:Nat} {ps:List Str} {pp:List b7} {gg:List b_} {v:List Int} {nm:Str} {p i:Nat} {f:Nat->Int}
def ju (ps:List Str) (pp:List b7) (gg:List b_) (nm:Str):Es:=y9 (ak (cI ps pp)) (cI ps pp) (cQ pp gg) nm
def kG (ps:List Str) (pp:List b7):List Str:=ak (cI ps pp)
def uN (ps:List Str) (pp:List b7) (y:Nat):Nat:=pos (ps.getD y "") (kG ps pp)
def zP:b7:=("",0,0)
theorem Sj:(fW pp).s i=(pp.getD i zP).2.1:=rfl
theorem R8:(fW pp).t i=(pp.getD i zP).2.2:=rfl
theorem Eh (hi:i < pp.length):(cI ps pp)[i]? =some ((pp.getD i zP).1,ps.getD (pp.getD i zP).2.1 "",ps.getD (pp.getD i zP).2.2 ""):=by
  unfold cI
  rw [List.getElem?_map,List.getElem?_eq_getElem hi,iZ hi]
  rfl
theorem oM:(ju ps pp gg nm).length=pp.length:=by simp [ju,y9,cI]
theorem NY (hi:i < pp.length):(ju ps pp gg nm)[i]? =some (uN ps pp (pp.getD i zP).2.1,uN ps pp (pp.getD i zP).2.2,uO (cQ pp gg) nm ((pp.getD i zP).1,ps.getD (pp.getD i zP).2.1 "",ps.getD (pp.getD i zP).2.2 "")):=by
  unfold ju y9
  rw [List.getElem?_map,Eh hi]
  rfl
theorem Ws (hi:i < pp.length):(bq (ju ps pp gg nm)).s i=uN ps pp ((fW pp).s i):=(sF (NY hi)).2.1
theorem VO (hi:i < pp.length):(bq (ju ps pp gg nm)).t i=uN ps pp ((fW pp).t i):=(sF (NY hi)).2.2.1
theorem Ko:(bq (ju ps pp gg nm)).m=pp.length:=oM
def Used (pp:List b7) (y:Nat):Prop:=∃ i,i < pp.length∧((fW pp).s i=y∨(fW pp).t i=y)
theorem FJ (hu:Used pp y):ps.getD y ""∈kG ps pp:=by
  obtain ⟨i,hi,h⟩:=hu
  refine h_.mpr ⟨_,List.mem_of_getElem? (Eh hi),?_⟩
  rw [Sj,R8] at h
  rcases h with h | h
  · exact .inl (by rw [h])
  · exact .inr (by rw [h])
theorem Gv {y:Nat} (h:bK most more ps pp gg) (hu:Used pp y):y < ps.length:=by
  obtain ⟨i,hi,hy⟩:=hu
  have:=h.en (pp.getD i zP) (getD_mem hi)
  rw [Sj,R8] at hy
  rcases hy with hy | hy <;> omega
theorem LP {y z:Nat} (h:bK most more ps pp gg) (hy:Used pp y) (hz:Used pp z) (e:uN ps pp y=uN ps pp z):y=z:=
  getD_inj h.pd (Gv h hy) (Gv h hz) (BG (FJ hy) (FJ hz) e)
theorem Wf {y:Nat} (hy:Used pp y):uN ps pp y < (kG ps pp).length:=pA (FJ hy)
theorem Vw {x:Nat} (h:bK most more ps pp gg) (hx:x < (kG ps pp).length):∃ y,Used pp y∧uN ps pp y=x:=by
  have hm:(kG ps pp).getD x ""∈kG ps pp:=getD_mem hx
  obtain ⟨r,hr,e⟩:=h_.mp hm
  obtain ⟨i,hi,e1⟩:=List.mem_iff_getElem.mp hr
  have hi':i < pp.length:=by simpa [cI] using hi
  have e2:(cI ps pp)[i]? =some r:=by rw [List.getElem?_eq_getElem hi,e1]
  rw [Eh hi'] at e2
  cases e2
  have back:∀ y,(kG ps pp).getD x ""=ps.getD y ""->uN ps pp y=x:=λy z=>by
    unfold uN
    rw [← z]
    exact getD_inj Ln (pA hm) hx (sP hm)
  rcases e with e | e
  · exact ⟨_,⟨i,hi',.inl rfl⟩,back _ e⟩
  · exact ⟨_,⟨i,hi',.inr rfl⟩,back _ e⟩
theorem MH {y:Nat} (h:bK most more ps pp gg) (hy:Used pp y):bL (bq (ju ps pp gg nm)) f (uN ps pp y)=bL (fW pp) f y:=by
  unfold bL
  rw [Ko]
  refine aY λi hi=>?_
  have us:Used pp ((fW pp).s i):=⟨i,hi,.inl rfl⟩
  have ut:Used pp ((fW pp).t i):=⟨i,hi,.inr rfl⟩
  rw [Ws hi,VO hi]
  have d1:(uN ps pp ((fW pp).t i)=uN ps pp y)=((fW pp).t i=y):=propext ⟨LP h ut hy,λe=>by rw [e]⟩
  have d2:(uN ps pp ((fW pp).s i)=uN ps pp y)=((fW pp).s i=y):=propext ⟨LP h us hy,λe=>by rw [e]⟩
  simp only [d1,d2]
theorem Uv {y:Nat} (hy:¬ Used pp y):bL (fW pp) f y=0:=by
  unfold bL
  refine eG λi hi=>?_
  rw [if_neg λe=>hy ⟨i,hi,.inr e⟩,if_neg λe=>hy ⟨i,hi,.inl e⟩]
  rfl
theorem ur (h:bK most more ps pp gg):(∀ y,y < ps.length->bL (fW pp) f y=0)↔∀ x,x < (kG ps pp).length->bL (bq (ju ps pp gg nm)) f x=0:=by
  constructor
  · intro a x hx
    obtain ⟨y,hy,rfl⟩:=Vw h hx
    rw [MH h hy]
    exact a y (Gv h hy)
  · intro a y _
    by_cases hy:Used pp y
    · rw [← MH (nm:=nm) h hy]
      exact a _ (Wf hy)
    · exact Uv hy
def g_ (pp:List b7) (i:Nat):Str:=(pp.getD i zP).1
theorem IJ {j:Nat} (h:bK most more ps pp gg) (hi:i < pp.length) (hj:j < pp.length) (e:g_ pp i=g_ pp j):i=j:=by
  have e1:∀ k,k < pp.length->(pp.map (·.1)).getD k ("":Str)=g_ pp k:=λk hk=>by
    unfold g_
    rw [iZ (by simpa using hk),iZ hk,List.getElem_map]
  exact getD_inj (z:=("":Str)) h.nd (by simpa using hi) (by simpa using hj) (by rw [e1 i hi,e1 j hj,e])
def z6 (pp:List b7) (gg:List b_) (i:Nat):Nat:=(uc (cQ pp gg) (g_ pp i)).length
def pD (pp:List b7) (gg:List b_) (i:Nat):Bool:=mK (cQ pp gg) (g_ pp i)
theorem Ox (h:bK most more ps pp gg) (hi:i < pp.length):uc (cQ pp gg) (g_ pp i)=(gg.filter λg=>decide (g.2.1=i)).map λg=>(g.1,(pp.getD g.2.1 ("",0,0)).1,g.2.2):=by
  unfold uc cQ
  rw [List.filter_map]
  congr 1
  refine List.filter_congr λg hg=>?_
  show decide (g_ pp g.2.1=g_ pp i)=decide (g.2.1=i)
  have:(g_ pp g.2.1=g_ pp i)=(g.2.1=i):=propext ⟨IJ h (h.ga g hg) hi,λe=>by rw [e]⟩
  simp only [this]
theorem OW (h:bK most more ps pp gg) (hi:i < pp.length):z6 pp gg i=(gg.filter λg=>decide (g.2.1=i)).length:=by
  unfold z6
  rw [Ox h hi,List.length_map]
theorem JS (h:bK most more ps pp gg):cost (vec v) (z6 pp gg) pp.length=zS gg v:=by
  unfold zS
  rw [← z8 h.ga]
  unfold cost
  refine aY λi hi=>?_
  rw [OW h hi]
theorem vH (h:bK most more ps pp gg) (hi:i < pp.length):pD pp gg i=true↔∃ g∈gg,g.2.1=i∧g.2.2=true:=by
  unfold pD mK
  rw [Ox h hi]
  simp only [List.any_map,List.any_eq_true,List.mem_filter,decide_eq_true_eq,Function.comp]
  constructor
  · rintro ⟨g,⟨h1,h2⟩,h3⟩
    exact ⟨g,h1,h2,h3⟩
  · rintro ⟨g,h1,h2,h3⟩
    exact ⟨g,⟨h1,h2⟩,h3⟩
theorem G6 (h:bK most more ps pp gg):yF gg v=false↔∀ i,i < pp.length->pD pp gg i=true->vec v i=0:=by
  unfold yF
  rw [List.any_eq_false]
  constructor
  · intro a i hi hs
    obtain ⟨g,hg,rfl,h2⟩:=(vH h hi).mp hs
    have:=a g hg
    simpa [h2] using this
  · intro a g hg
    cases e:g.2.2 with
    | false=>simp
    | true=>
      have:=a _ (h.ga g hg) ((vH h (h.ga g hg)).mpr ⟨g,hg,rfl,e⟩)
      simp [this]
theorem Qy (h:bK most more ps pp gg) (hp:p < pp.length):∀ i,i < (ju ps pp gg (g_ pp p)).length->(bq (ju ps pp gg (g_ pp p))).l i=if i=p∨pD pp gg i=true then none else some (z6 pp gg i):=λi hi=>by
  rw [oM] at hi
  rw [(sF (NY hi)).2.2.2]
  unfold uO
  have e:(g_ pp i=g_ pp p)=(i=p):=propext ⟨IJ h hi hp,λe=>by rw [e]⟩
  show (if g_ pp i=g_ pp p∨pD pp gg i=true then none else some (z6 pp gg i))=_
  simp only [e]
theorem TU (h:bK most more ps pp gg) (hk:Iv ps.length pp v=true) (h1:vec v p=1) (h2:yF gg v=false):Kz (bq (ju ps pp gg nm)) (kG ps pp).length p (pD pp gg) (vec v) where
  z:=(ur h).mp (Jp.mp hk)
  p:=h1
  s i hi:=(G6 h).mp h2 i (by rw [← Ko (ps:=ps) (pp:=pp) (gg:=gg) (nm:=nm)]; exact hi)
def rowAt (ps:List Str) (pp:List b7) (p:Nat):LR:=((pp.getD p zP).1,ps.getD (pp.getD p zP).2.1 "",ps.getD (pp.getD p zP).2.2 "")
theorem Lu (hp:p < pp.length):rowAt ps pp p∈cI ps pp:=List.mem_of_getElem? (Eh hp)
theorem Gi (hp:p < pp.length):iQ (BR (cI ps pp) (cQ pp gg) (rowAt ps pp p)) (pos (rowAt ps pp p).2.1 (ak (cI ps pp)))=iQ (kB (ju ps pp gg (g_ pp p)) (kG ps pp).length ((bq (ju ps pp gg (g_ pp p))).t p)) ((bq (ju ps pp gg (g_ pp p))).s p):=by
  rw [Ws hp,VO hp]
  rfl
theorem WB (h:bK most more ps pp gg) (hp:p < pp.length):Gq gg (pR ps.length pp) p=(l_ (cI ps pp) (cQ pp gg) (rowAt ps pp p)).map λ(a:Nat)=>(a:Int):=by
  have hn:∀ e∈ju ps pp gg (g_ pp p),e.1 < (kG ps pp).length∧e.2.1 < (kG ps pp).length:=Ef rfl
  have hp':p < (ju ps pp gg (g_ pp p)).length:=by rw [oM]; exact hp
  have hl:=Qy h hp
  have low:∀ v∈pR ps.length pp,vec v p=1->yF gg v=false->pD pp gg p=false∧∃ far,iQ (kB (ju ps pp gg (g_ pp p)) (kG ps pp).length ((bq (ju ps pp gg (g_ pp p))).t p)) ((bq (ju ps pp gg (g_ pp p))).s p)=some far∧(far:Int)+z6 pp gg p≤zS gg v:=λv hv h1 h2=>by
    have:=z_ hn hp' hl (TU h (List.mem_filter.mp hv).2 h1 h2)
    rw [oM,JS h] at this
    exact this
  have memC:∀ {a:Int},a∈Ds gg (pR ps.length pp) p->∃ v∈pR ps.length pp,vec v p=1∧yF gg v=false∧zS gg v=a:=λ{a} ha=>by
    obtain ⟨v,hv,e⟩:=List.mem_map.mp ha
    obtain ⟨h1,h2⟩:=List.mem_filter.mp hv
    simp only [Bool.and_eq_true,decide_eq_true_eq,Bool.not_eq_true'] at h2
    exact ⟨v,h1,h2.1,h2.2,e⟩
  have none_:(pD pp gg p=true∨iQ (kB (ju ps pp gg (g_ pp p)) (kG ps pp).length ((bq (ju ps pp gg (g_ pp p))).t p)) ((bq (ju ps pp gg (g_ pp p))).s p)=none)->Gq gg (pR ps.length pp) p=none:=λz=>by
    unfold Gq
    refine if_pos ?_
    cases e:Ds gg (pR ps.length pp) p with
    | nil=>rfl
    | cons a l=>
      obtain ⟨v,hv,h1,h2,_⟩:=memC (a:=a) (by rw [e]; exact List.mem_cons_self ..)
      obtain ⟨y1,far,y2,_⟩:=low v hv h1 h2
      rcases z with z | z
      · rw [y1] at z
        cases z
      · rw [y2] at z
        cases z
  unfold l_
  rw [Gi hp]
  cases hd:iQ (kB (ju ps pp gg (g_ pp p)) (kG ps pp).length ((bq (ju ps pp gg (g_ pp p))).t p)) ((bq (ju ps pp gg (g_ pp p))).s p) with
  | none=>exact none_ (.inr hd)
  | some far=>
    dsimp only
    cases hs:mK (cQ pp gg) (rowAt ps pp p).1 with
    | true=>
      rw [if_pos rfl]
      exact none_ (.inl hs)
    | false=>
      rw [if_neg (by decide),Option.map_some]
      obtain ⟨f,hf,hu,hc⟩:=CF hn hp' hl (show pD pp gg p=false from hs) hd
      rw [oM] at hc
      have ev:∀ i,i < pp.length->vec ((List.range pp.length).map f) i=f i:=λi hi=>by
        unfold vec
        rw [iZ (by simpa using hi),List.getElem_map,List.getElem_range]
      have en:∀ (G:Gr) (y:Nat),G.m=pp.length->bL G (vec ((List.range pp.length).map f)) y=bL G f y:=λG y hm=>by
        unfold bL
        rw [hm]
        refine aY λi hi=>?_
        rw [ev i hi]
      have hv:(List.range pp.length).map f∈pR ps.length pp:=by
        refine List.mem_filter.mpr ⟨Dr.mpr ⟨by simp,λa ha=>?_⟩,Jp.mpr λy hy=>?_⟩
        · obtain ⟨i,_,rfl⟩:=List.mem_map.mp ha
          rcases hu i with z | z | z <;> simp [NG,z]
        · rw [en _ _ rfl]
          exact (ur (nm:=g_ pp p) h).mpr hf.z y hy
      have hv1:vec ((List.range pp.length).map f) p=1:=by rw [ev p hp]; exact hf.p
      have hv2:yF gg ((List.range pp.length).map f)=false:=(G6 h).mpr λi hi z=>by
        rw [ev i hi]
        exact hf.s i (by rw [Ko]; exact hi) z
      have hv3:zS gg ((List.range pp.length).map f)≤(far:Int)+z6 pp gg p:=by
        rw [← JS h]
        refine Int.le_trans (Int.le_of_eq ?_) hc
        unfold cost
        exact aY λi hi=>by rw [ev i hi]
      have hin:zS gg ((List.range pp.length).map f)∈Ds gg (pR ps.length pp) p:=List.mem_map.mpr ⟨_,List.mem_filter.mpr ⟨hv,by simp [hv1,hv2]⟩,rfl⟩
      have hne:Ds gg (pR ps.length pp) p≠[]:=λz=>by rw [z] at hin; cases hin
      unfold Gq
      rw [if_neg hne]
      have m1:=LS _ hin
      obtain ⟨w,hw,w1,w2,w3⟩:=memC (Dc hne)
      obtain ⟨_,far',y2,y3⟩:=low w hw w1 w2
      rw [hd] at y2
      cases y2
      have e:(((uc (cQ pp gg) (rowAt ps pp p).1).length:Nat):Int)=z6 pp gg p:=rfl
      rw [Int.natCast_add,e]
      refine congrArg some ?_
      omega
end
end RV
end
section
namespace RV
section
variable {es:Es} {n o p:Nat} {u v c a i:Nat} {b:Bool} {vs:List Nat} {st:List (Nat×Bool)}
structure JL (es:Es) (d:Nat->Option Nat) (p here:Nat) (f:Nat->Int):Prop where
  z:∀ x,bL (bq es) f x=(if (bq es).t p=x then 1 else 0) - (if here=x then 1 else 0)
  one:f p=1
  un:∀ i,f i=0∨f i=1∨f i= -1
  up:∀ i,i≠p->f i≠0->i < es.length∧(∃ c,(bq es).l i=some c)∧∃ x y h,d ((bq es).s i)=some x∧d ((bq es).t i)=some y∧d here=some h∧h≤x∧h≤y
  cst:∃ h y,d here=some h∧d ((bq es).s p)=some y∧cost f (λi=>((bq es).l i).getD 0) es.length+h=y
theorem JL.step {d:Nat->Option Nat} {here there:Nat} {f:Nat->Int} {x:Nat} (w:JL es d p here f) (lp:(bq es).l p=none) (ar:(bq es).JX i b there here c) (hc:0 < c) (hd:d there=some x) (e:∃ h,d here=some h∧x+c=h):
    f i=0∧JL es d p there (λk=>if k=i then sg b else f k):=by
  obtain ⟨h,eh,exc⟩:=e
  obtain ⟨a1,a2,a3⟩:=ar
  have nip:i≠p:=λz=>by rw [z,lp] at a2; cases a2
  have hi0:f i=0:=Classical.byContradiction λhne=>by
    obtain ⟨_,_,x1,y1,h1,e1,e2,e3,l1,l2⟩:=w.up i nip hne
    rw [eh] at e3
    cases e3
    cases b with
    | true=>
      obtain ⟨q1,q2⟩:=a3
      rw [q1,hd] at e1
      cases e1
      omega
    | false=>
      obtain ⟨q1,q2⟩:=a3
      rw [q2,hd] at e2
      cases e2
      omega
  have ef:(λk=>if k=i then sg b else f k)=λk=>f k+if k=i then sg b else 0:=by
    funext k
    by_cases z:k=i
    · subst z
      rw [if_pos rfl,if_pos rfl,hi0]
      omega
    · rw [if_neg z,if_neg z]
      omega
  refine ⟨hi0,?_,?_,λk=>?_,λk k1 k2=>?_,?_⟩
  · intro y
    rw [ef,m6,w.z,sW a1]
    cases b with
    | true=>
      obtain ⟨q1,q2⟩:=a3
      rw [q1,q2]
      simp only [sg,if_true]
      omega
    | false=>
      obtain ⟨q1,q2⟩:=a3
      rw [q1,q2]
      simp only [sg,Bool.false_eq_true,if_false]
      split <;> split <;> split <;> omega
  · show (if p=i then sg b else f p)=1
    rw [if_neg (λz=>nip z.symm)]
    exact w.one
  · show (if k=i then sg b else f k)=0∨(if k=i then sg b else f k)=1∨(if k=i then sg b else f k)= -1
    by_cases z:k=i
    · rw [if_pos z]
      cases b <;> simp [sg]
    · rw [if_neg z]
      exact w.un k
  · by_cases z:k=i
    · subst z
      refine ⟨a1,⟨c,a2⟩,?_⟩
      cases b with
      | true=>
        obtain ⟨q1,q2⟩:=a3
        exact ⟨x,h,x,by rw [q1]; exact hd,by rw [q2]; exact eh,hd,Nat.le_refl _,by omega⟩
      | false=>
        obtain ⟨q1,q2⟩:=a3
        exact ⟨h,x,x,by rw [q1]; exact eh,by rw [q2]; exact hd,hd,by omega,Nat.le_refl _⟩
    · have k2':f k≠0:=by
        rw [if_neg z] at k2
        exact k2
      obtain ⟨u1,u2,x1,y1,h1,e1,e2,e3,l1,l2⟩:=w.up k k1 k2'
      rw [eh] at e3
      cases e3
      exact ⟨u1,u2,x1,y1,x,e1,e2,hd,by omega,by omega⟩
  · obtain ⟨h1,y,e1,e2,e3⟩:=w.cst
    rw [eh] at e1
    cases e1
    refine ⟨x,y,hd,e2,?_⟩
    have:cost (λk=>if k=i then sg b else f k) (λi=>((bq es).l i).getD 0) es.length=cost f (λi=>((bq es).l i).getD 0) es.length+c:=by
      unfold cost
      rw [aY (h:=λk=>(if f k≠0 then ((((bq es).l k).getD 0:Nat):Int) else 0)+if k=i then (c:Int) else 0),lN,gA,if_pos (show i < es.length from a1)]
      intro k _
      dsimp only
      by_cases z:k=i
      · subst z
        have hs:sg b≠0:=by cases b <;> decide
        simp [hs,hi0,a2]
      · simp [z]
    rw [this]
    omega
end
end RV
end
section
namespace RV
open PySem L2
def zL:LR:=("","","")
def bx (m:Nat) (f:Nat->Int):List D:=(List.range m).map λi=>D.int (f i)
theorem iN {m:Nat} {f:Nat->Int}:(bx m f).length=m:=by simp [bx]
theorem sV {m i:Nat} {f:Nat->Int} (h:i < m):(bx m f)[i]? =some (.int (f i)):=by
  unfold bx
  rw [List.getElem?_map,List.getElem?_range h]
  rfl
theorem xQ {m i:Nat} {f:Nat->Int} {a:Int} (h:i < m):(bx m f).set i (.int a)=bx m λk=>if k=i then a else f k:=by
  refine List.ext_getElem? λk=>?_
  rw [List.getElem?_set]
  by_cases hk:k < m
  · rw [sV (f:=λk=>if k=i then a else f k) hk]
    by_cases e:i=k
    · subst e
      rw [if_pos rfl,if_pos (by rw [iN]; exact h),if_pos rfl]
    · rw [if_neg e,sV hk,if_neg (λz=>e z.symm)]
  · rw [List.getElem?_eq_none (by rw [iN]; omega),if_neg (by omega),List.getElem?_eq_none (by rw [iN]; omega)]
theorem uI {α:Type} {f g:α->D}:∀ rs:List α,fS (rs.map f) (rs.map g)=rs.map λr=>.tup [f r,g r]
  | []=>rfl
  | r :: rs=>by
    simp only [List.map_cons,fS,uI rs]
theorem map_range {α:Type} {β:Type} {f:α->β} {xs:List α} {z:α}:xs.map f=(List.range xs.length).map λi=>f (xs.getD i z):=by
  refine List.ext_getElem (by simp) λi h1 h2=>?_
  have hi:i < xs.length:=by simpa using h1
  rw [List.getElem_map,List.getElem_map,List.getElem_range,iZ hi]
section
variable {A:Ad} {S:WS} {q:D->WS->Prop} {x:Xq} {rs:List LR} {fs:List FR} {r:LR} {nm:Str} {p:Nat} {f:Nat->Int}
end
end RV
end
section
namespace RV
open PySem L2
theorem Tg {A:Ad} (hA:RH A ["Pipe","Meter","Net"]):gT A:=by
  have hn:=hA.nd
  simp only [List.map_cons,List.map_nil,List.nodup_cons,List.mem_cons,List.not_mem_nil,or_false,not_or] at hn
  exact ⟨by rw [hA.here]; simp,by rw [hA.here]; simp,by rw [hA.here]; simp,hn.1.1,hn.1.2,hn.2.1⟩
theorem QU {ns:List Int} {c:Nat} (hc:2≤c):∃ j:Nat,j≤c∧(if (if (c:Int) < (ns.length:Nat) then (c:Int) else (ns.length:Nat)) > 2 then (if (c:Int) < (ns.length:Nat) then (c:Int) else (ns.length:Nat)) else 2)=((j:Nat):Int):=by
  refine ⟨(if (if (c:Int) < (ns.length:Nat) then (c:Int) else (ns.length:Nat)) > 2 then (if (c:Int) < (ns.length:Nat) then (c:Int) else (ns.length:Nat)) else 2).toNat,?_,?_⟩ <;> split <;> split at * <;> omega
def SJ:Option Int->PyData
  | none=>.none
  | some i=>.int i
theorem Qv {o:Option Int}:D.py (bP o)=some (SJ o):=by cases o <;> rfl
theorem RL:∀ i:Fin 100,(PyData.int (i.val:Nat)).showable=true∧(PyData.int (i.val:Nat)).leavesShort 60=true∧(PyData.int (i.val:Nat)).weight≤300:=by decide+kernel
theorem kM.opt {k:Nat} {o:Option Int} (h:∀ a,o=some a->0≤a∧a < 100):kM k 300 (SJ o):=by
  cases o with
  | none=>exact ⟨rfl,rfl,Nat.zero_le _,rfl,Nat.zero_le _⟩
  | some a=>
    obtain ⟨h0,h1⟩:=h a rfl
    obtain ⟨n,rfl⟩:∃ n:Nat,a=(n:Nat):=⟨a.toNat,by omega⟩
    obtain ⟨e1,e2,e3⟩:=RL ⟨n,by omega⟩
    exact ⟨e1,rfl,Nat.zero_le _,e2,e3⟩
section
variable {A:Ad} {S T:WS} {k:Nat} {n:Int} {w:W} {q:D->WS->Prop} {x:Xq} {most more:Nat} {ps:List Str} {pp:List b7} {gg:List b_} {fl:List (List Int)}
theorem Tr {c:W}:S++[c.d]=st (S++[c.d]) S.length c []:=by
  unfold st
  rw [List.append_nil,List.set_append_right _ _ (Nat.le_refl _)]
  simp
theorem XD {i j:Int}:yj S [.int i,.int j]=some (.int (if j < i then j else i)):=rfl
theorem Xr {i j:Int}:ID S [.int i,.int j]=some (.int (if j > i then j else i)):=rfl
theorem UH {ns:List Int}:bQ S [.scr ns]=some (.int (ns.length:Nat)):=by simp [bQ,br]
theorem Wv {o:Option Nat}:iW o=bP (o.map λ(a:Nat)=>(a:Int)):=by cases o <;> rfl
theorem U7:bQ S [.lst (pp.map cF)]=some (.int (pp.length:Nat)):=by simp [bQ,br]
end
end RV
end
section
namespace RV
open PySem L2
structure N6 (f:Int×Int×Int):Prop where
  a0:0≤f.1
  ab:f.1≤f.2.1
  b3:f.2.1≤3
  c0:0≤f.2.2
  c3:f.2.2≤3
def CP (f:Int×Int×Int):D:=.tup [.int f.1,.int f.2.1,.int f.2.2]
def Nl (f:Int×Int×Int):Int:=f.1+f.2.1+f.2.2
def R5 (o:Option Int) (s:Int):Bool:=match o with
  | none=>true
  | some a=>decide (s < a)
section
variable {A:Ad} {S T:WS} {k:Nat} {n:Int} {w:W} {q:D->WS->Prop} {x:Xq} {rs:List LR} {fs:List FR} {r:LR} {f:Int×Int×Int} {i:Int}
theorem IS:gU (own A) (tab A) S [.int i,.ty "int"]=some (.bl true):=by
  rw [xG (t:=.type "int") (u:=.type "int") rfl rfl (by simp [kinds]) (by simp [clss])]
  simp [sub]
theorem GZ:gU (own A) (tab A) S [.int i,.ty "bool"]=some (.bl false):=by
  rw [xG (t:=.type "int") (u:=.type "bool") rfl rfl (by simp [kinds]) (by simp [clss])]
  congr 2
theorem A7 (h0:0≤i) (h3:i≤3):m5 A [.int i] S q x=q (.bl true) S:=by
  have e:∀ q:D->WS->Prop,∀ x,iA A [.int i] S q x=q (.bl true) S:=λq x=>by
    rw [tQ]
    unfold aG aM
    simp only [List.map_cons,List.map_nil,List.length_cons,List.length_nil,Nat.reduceAdd,Nat.reduceSub,List.replicate,List.cons_append,List.nil_append,List.append_nil,Nat.zero_add]
    unfold pC
    simp? [IS,GZ]
  rw [DI]
  unfold aG aM
  simp only [List.map_cons,List.map_nil,List.length_cons,List.length_nil,Nat.reduceAdd,Nat.reduceSub,List.replicate,List.cons_append,List.nil_append,List.append_nil,Nat.zero_add]
  unfold yG
  simp? [e,show decide ((0:Int)≤i)=true from decide_eq_true h0,show decide (i≤3)=true from decide_eq_true h3]
theorem Ij (h:N6 f) (hq:q .non S):jX A [CP f] S q x:=by
  obtain ⟨a,b,c⟩:=f
  obtain ⟨a0,ab,b3,c0,c3⟩:=h
  dsimp only at a0 ab b3 c0 c3
  have e:∀ q:D->WS->Prop,∀ x,kW A [CP (a,b,c)] S q x=q (.bl true) S:=λq x=>by
    have i1:aH S (.tup [.int a,.int b,.int c]) (.int 0)=some (.int a):=rfl
    have i2:aH S (.tup [.int a,.int b,.int c]) (.int 1)=some (.int b):=rfl
    have l3:bQ S [.tup [.int a,.int b,.int c]]=some (.int 3):=rfl
    have al:yb S [.lst [.bl true,.bl true,.bl true]]=some (.bl true):=rfl
    rw [zR]
    unfold aG aM
    simp only [List.map_cons,List.map_nil,List.length_cons,List.length_nil,Nat.reduceAdd,Nat.reduceSub,List.replicate,List.cons_append,List.nil_append,List.append_nil,Nat.zero_add]
    unfold uw
    unfold xr
    unfold CP
    simp? [BW,l3,pT,A7 a0 (show a≤3 by omega),A7 (show 0≤b by omega) b3,A7 c0 c3,al,i1,i2,show decide (a≤b)=true from decide_eq_true ab]
  rw [xu]
  unfold aG aM
  simp only [List.map_cons,List.map_nil,List.length_cons,List.length_nil,Nat.reduceAdd,Nat.reduceSub,List.replicate,List.cons_append,List.nil_append,List.append_nil,Nat.zero_add]
  unfold qI
  simp? [e]
  exact hq
theorem Tv:Fl S [.lst [.int f.1,.int f.2.1,.int f.2.2]]=some (.int (Nl f)):=by
  simp [Fl,br,Bu,Nl]
  omega
theorem VW (hr:r∈rs) (hL:bw rs) (hF:bO rs fs) (hq:q (.bl (R5 ((l_ rs fs r).map λ(a:Nat)=>(a:Int)) (Nl f))) S):sX A [aN A rs fs,.str r.1,CP f] S q x:=by
  have hl:qN S [CP f]=some (.lst [.int f.1,.int f.2.1,.int f.2.2]):=rfl
  rw [Ms]
  unfold aG aM
  simp only [List.map_cons,List.map_nil,List.length_cons,List.length_nil,Nat.reduceAdd,Nat.reduceSub,List.replicate,List.cons_append,List.nil_append,List.append_nil,Nat.zero_add]
  unfold FG
  refine ay λN_ hN_=>?_
  simp? []
  refine AV hr hL hF ?_
  subst hN_
  cases hs:l_ rs fs r with
  | none=>
    rw [hs] at hq
    simp? [Q5]
    exact hq
  | some a=>
    rw [hs] at hq
    simp? [Nn,qb,hl,Tv]
    exact hq
theorem G9 (hA:gT A) (hr:r∈rs) (hL:bw rs) (hF:bO rs fs) (hf:N6 f) (hq:q (.bl (R5 ((l_ rs fs r).map λ(a:Nat)=>(a:Int)) (Nl f))) S):lH A [aN A rs fs,.str r.1,CP f] S q x:=by
  rw [Et]
  unfold aG aM
  simp only [List.map_cons,List.map_nil,List.length_cons,List.length_nil,Nat.reduceAdd,Nat.reduceSub,List.replicate,List.cons_append,List.nil_append,List.append_nil,Nat.zero_add]
  unfold yH
  refine ay λN_ hN_=>?_
  simp? []
  refine oS hA ?_
  subst hN_
  refine ay λN_ hN_=>?_
  simp? []
  refine Cb hr hL ?_
  subst hN_
  refine ay λN_ hN_=>?_
  simp? []
  refine Ij hf ?_
  subst hN_
  simp? []
  refine VW hr hL hF ?_
  simp? []
  exact hq
theorem Te {i:Nat} {gg:List b_} {fl:List (List Int)} {a:Int} (h:Gq gg fl i=some a):a≤(gg.length:Nat):=by
  unfold Gq at h
  split at h
  · cases h
  · rename_i hne
    cases h
    have hm:=Dc hne
    generalize Aw (Ds gg fl i)=a at hm
    obtain ⟨v,_,e⟩:=List.mem_map.mp hm
    rw [← e]
    unfold zS
    have:=List.length_filter_le (λg:b_=>!decide (vec v g.2.1=0)) gg
    omega
end
end RV
end
section
namespace RV
open PySem L2
section
variable {A:Ad} {S:WS} {q:D->WS->Prop} {x:Xq} {rs:List LR} {fs:List FR} {r:LR} {nm:Str} {p:Nat} {f:Nat->Int}
end
end RV
end
section
namespace RV
open PySem L2
section
variable {A:Ad} {S:WS} {q:D->WS->Prop} {x:Xq} {rs:List LR} {fs:List FR} {r:LR} {nm:Str} {p:Nat} {f:Nat->Int} {m:Nat}
structure YN (rs:List LR) (fs:List FR) (p:Nat) (r:LR) (f:Nat->Int):Prop where
  th:Kz (bq (y9 (ak rs) rs fs r.1)) (ak rs).length p (λi=>mK fs (rs.getD i zL).1) f
  un:∀ i,f i=0∨f i=1∨f i= -1
  st:∃ c,l_ rs fs r=some c∧cost f (λi=>(uc fs (rs.getD i zL).1).length) rs.length=(c:Int)
theorem Vm {i:Nat} (hi:i < rs.length):(y9 (ak rs) rs fs nm)[i]? =some (pos (rs.getD i zL).2.1 (ak rs),pos (rs.getD i zL).2.2 (ak rs),uO fs nm (rs.getD i zL)):=by
  unfold y9
  rw [List.getElem?_map,List.getElem?_eq_getElem hi,iZ hi]
  rfl
theorem Ti:(y9 (ak rs) rs fs nm).length=rs.length:=by simp [y9]
theorem IM {k:Nat} {ds:List D} {i:Int} (h:S[k]? =some (.lst ds)) (h0:0≤i):ye S (.cell k) (.int i)=L2.atI ds i:=by
  simp only [ye,h,h0,if_true]
def gy (rs:List LR) (f:Nat->Int) (y i:Nat):Int:=(if pos (rs.getD i zL).2.2 (ak rs)=y then f i else 0) - (if pos (rs.getD i zL).2.1 (ak rs)=y then f i else 0)
theorem V5 {y:Nat}:bL (bq (y9 (ak rs) rs fs nm)) f y=aL (gy rs f y) rs.length:=by
  unfold bL
  rw [show (bq (y9 (ak rs) rs fs nm)).m=rs.length from Ti]
  refine aY λi hi=>?_
  obtain ⟨_,b1,b2,_⟩:=sF (Vm (fs:=fs) (nm:=nm) hi)
  rw [b1,b2]
  rfl
theorem Pn (hL:bw rs) (hz:∀ y,y < (ak rs).length->aL (gy rs f y) rs.length=0) (hq:q (.bl true) S):fJ A [aN A rs fs,.tup (bx rs.length f)] S q x:=by
  have h12:=hL.hi
  have hP:=j8 h12
  rw [nO]
  unfold aG aM
  simp only [List.map_cons,List.map_nil,List.length_cons,List.length_nil,Nat.reduceAdd,Nat.reduceSub,List.replicate,List.cons_append,List.nil_append,List.append_nil,Nat.zero_add]
  unfold lS
  refine ay λN_ hN_=>?_
  simp? [eZ]
  refine sR hL ?_
  simp? [List.length_map,aA (n:=(ak rs).length) (by omega)]
  rw [bM (inj:=D.str) (g:=λ_:Str=>D.int 0) _ trivial (λa ha=>⟨_,rfl,λq x=>rfl⟩)]
  simp? [gv (g:=λ_:Str=>D.int 0) (n:=0) (xs:=ak rs) (λ_ _=>rfl)]
  subst hN_
  have e0:((ak rs).map λ_=>D.int 0)=bx (ak rs).length λy=>aL (gy rs f y) 0:=by
    unfold bx
    refine List.ext_getElem (by simp) λi _ _=>?_
    simp [aL]
  rw [e0]
  refine ay λN_ hN_=>?_
  simp? [iZip,eZ]
  refine o_ hL ?_
  have ez:fS (rs.map (eV (ak rs))) (bx rs.length f)=(List.range' 0 rs.length).map λi=>.tup [eV (ak rs) (rs.getD i zL),.int (f i)]:=by
    rw [map_range (f:=eV (ak rs)) (z:=zL)]
    unfold bx
    rw [uI,nv]
  simp? [oE,ez]
  have go:∀ (N:WS->Prop),(∀ S,N S)->∀ (r j:Nat) (o3 o4 o5:Option D) (kt:Kt),j+r=rs.length->
      (∀ o3 o4 o5,kt.nx [some (aN A rs fs),some (.tup (bx rs.length f)),some (.cell S.length),o3,o4,o5,none,none] (S++[.lst (bx (ak rs).length λy=>aL (gy rs f y) (j+r))]))->
      cE N (bG 2 (aE (bG 2 (aE (av 3) (aE (av 4) (bH)))) (aE (av 5) (bH)))) (iy A) ((List.range' j r).map λi=>.tup [eV (ak rs) (rs.getD i zL),.int (f i)]) [some (aN A rs fs),some (.tup (bx rs.length f)),some (.cell S.length),o3,o4,o5,none,none] (S++[.lst (bx (ak rs).length λy=>aL (gy rs f y) j)]) kt:=λN hN r=>by
    induction r with
    | zero=>
      intro j o3 o4 o5 kt _ hk
      exact ⟨hN _,hk o3 o4 o5⟩
    | succ r ih=>
      intro j o3 o4 o5 kt hj hk
      have hlt:j < rs.length:=by omega
      have hmem:rs.getD j zL∈rs:=getD_mem hlt
      have p1:pos (rs.getD j zL).2.1 (ak rs) < (ak rs).length:=sC hmem
      have p2:pos (rs.getD j zL).2.2 (ak rs) < (ak rs).length:=nQ hmem
      have pne:pos (rs.getD j zL).2.1 (ak rs)≠pos (rs.getD j zL).2.2 (ak rs):=λe=>(hL.rows _ hmem).ne (BG (h_.mpr ⟨_,hmem,.inr rfl⟩) (h_.mpr ⟨_,hmem,.inl rfl⟩) e.symm)
      have gt:∀ (g:Nat->Int) (y:Nat),y < (ak rs).length->ye (S++[.lst (bx (ak rs).length g)]) (.cell S.length) (.int (y:Int))=some (.int (g y)):=λg y hy=>by
        rw [IM (ds:=bx (ak rs).length g) bF (by omega),mS (by rw [iN]; exact hy),sV hy]
      have st:∀ (g:Nat->Int) (y:Nat) (a:Int),y < (ak rs).length->iU (.cell S.length) (.int (y:Int)) (.int a) (S++[.lst (bx (ak rs).length g)])=some (S++[.lst (bx (ak rs).length λk=>if k=y then a else g k)]):=λg y a hy=>by
        rw [gZ (ds:=bx (ak rs).length g) bF rfl]
        unfold ixN
        rw [if_pos (by omega),if_pos (by rw [iN]; omega),Option.map_some,cU,Int.toNat_natCast,xQ hy]
      rw [List.range'_succ,List.map_cons]
      refine gR λF hF=>?_
      unfold iy BA
      unfold eV
      simp? [hN,gt _ _ p1,st _ _ _ p1]
      simp? [gt _ _ p2,st _ _ _ p2]
      rw [hF]
      rw [show j+(r+1)=j+1+r by omega] at hk
      have ih':=λo3 o4 o5=>ih (j+1) o3 o4 o5 kt (by omega) hk
      have ef:(λy=>aL (gy rs f y) (j+1))=λk=>if k=pos (rs.getD j zL).2.2 (ak rs) then (if pos (rs.getD j zL).2.2 (ak rs)=pos (rs.getD j zL).2.1 (ak rs) then aL (gy rs f (pos (rs.getD j zL).2.1 (ak rs))) j - f j else aL (gy rs f (pos (rs.getD j zL).2.2 (ak rs))) j)+f j else if k=pos (rs.getD j zL).2.1 (ak rs) then aL (gy rs f (pos (rs.getD j zL).2.1 (ak rs))) j - f j else aL (gy rs f k) j:=by
        funext y
        exact put2 (F:=λy=>aL (gy rs f y) j) (y:=y) (c:=f j) pne
      rw [ef] at ih'
      exact ih' _ _ _
  refine go _ (λ_=>by first | trivial | exact ⟨trivial,trivial⟩) rs.length 0 none none none _ (by omega) λo3 o4 o5=>?_
  dsimp only
  subst hN_
  rw [Nat.zero_add]
  simp? [bF,iN,aA (n:=(ak rs).length) (by omega)]
  unfold bx
  rw [bM (inj:=λy=>D.int (aL (gy rs f y) rs.length)) (g:=λy=>D.bl (decide (aL (gy rs f y) rs.length=0))) _ (by simp [Holds]) (λa ha=>⟨_,rfl,λq x=>by
    unfold mw
    simp? []⟩)]
  simp? [uy]
  rw [lZ rfl (λi h=>by cases h)]
  have al:((List.range (ak rs).length).all λy=>decide (aL (gy rs f y) rs.length=0))=true:=by
    rw [List.all_eq_true]
    intro y hy
    exact decide_eq_true (hz y (List.mem_range.mp hy))
  rw [al]
  exact hq
theorem KR {i:Int}:iA A [.int i] S q x=q (.bl true) S:=by
  rw [tQ]
  unfold aG aM
  simp only [List.map_cons,List.map_nil,List.length_cons,List.length_nil,Nat.reduceAdd,Nat.reduceSub,List.replicate,List.cons_append,List.nil_append,List.append_nil,Nat.zero_add]
  unfold pC
  simp? [IS,GZ]
theorem PB (hL:bw rs) (hz:∀ y,y < (ak rs).length->aL (gy rs f y) rs.length=0) (hq:q (.bl true) S):mZ A [aN A rs fs,.tup (bx rs.length f)] S q x:=by
  have h12:=hL.hi
  rw [DU]
  unfold aG aM
  simp only [List.map_cons,List.map_nil,List.length_cons,List.length_nil,Nat.reduceAdd,Nat.reduceSub,List.replicate,List.cons_append,List.nil_append,List.append_nil,Nat.zero_add]
  unfold ya
  refine ay λN_ hN_=>?_
  simp? [BW,tU,iN,len_own hL,aA (n:=rs.length) (by omega),decide_true]
  unfold bx
  rw [bM (inj:=λi=>D.int (f i)) (g:=λ_:Nat=>D.bl ((λ_=>true) ())) _ trivial (λa ha=>⟨_,rfl,λq x=>by
    unfold AQ
    simp? [KR]⟩)]
  rw [uy (p:=λ_:Nat=>true)]
  simp? [List.all_eq_true.mpr (λ(y:Nat) (_:y∈List.range rs.length)=>(rfl:(λ_:Nat=>true) y=true))]
  subst hN_
  simp? []
  refine Pn hL hz ?_
  simp? []
  exact hq
end
end RV
end
section
namespace RV
open PySem L2
section
variable {a c s:Int} {zs:List Int}
end
def zG:b_:=("",0,false)
def Ys (gg:List b_) (F:Nat->Int) (k:Nat):Int:=F (gg.getD k zG).2.1
end RV
end
section
namespace RV
open PySem L2
def bX (k:Nat):D:=.int (k:Nat)
section
variable {A:Ad} {S:WS} {q:D->WS->Prop} {x:Xq} {most more:Nat} {ps:List Str} {pp:List b7} {gg:List b_} {F:Nat->Int} {R:List (Option Int)}
theorem LK {neg:Bool} {o:Option Int}:gW neg S (bP o) .non=some (.bl (if neg then o.isSome else o.isNone)):=by
  cases o <;> cases neg <;> rfl
structure YW (gg:List b_) (F:Nat->Int) (R:List (Option Int)):Prop where
  len:R.length=gg.length
  seal_:∀ k,k < gg.length->(gg.getD k zG).2.2=true->R.getD k none=some (Ys gg F k)
end
end RV
end
section
namespace RV
section
variable {G:Gr} {K K' T:Nat->Bool} {f g h:Nat->Int} {u v w n j e c:Nat} {mk:List Nat}
theorem zV {a:Nat->Int} {k:Int}:∀ {m:Nat},aL (λi=>k * a i) m=k * aL a m
  | 0=>by simp [aL]
  | m+1=>by
    unfold aL
    rw [zV,Int.mul_add]
theorem Lq {x:Nat}:bL G (λi=>- f i) x= - bL G f x:=by
  have h1:=m6 (G:=G) (f:=f) (g:=λi=>- f i) (x:=x)
  have h2:bL G (λi=>f i+ - f i) x=0:=by
    unfold bL
    refine eG λi _=>?_
    dsimp only
    split <;> split <;> omega
  omega
theorem Rj {x:Nat}:bL G (λ_=>0) x=0:=by
  unfold bL
  refine eG λi _=>?_
  split <;> split <;> rfl
def jm (G:Gr) (K:Nat->Bool) (u v:Nat):Prop:=∃ t:Nat->Int,(∀ i,t i≠0->i < G.m∧K i=true)∧∀ x,bL G t x=(if v=x then 1 else 0) - (if u=x then 1 else 0)
theorem jm.refl (u:Nat):jm G K u u:=⟨λ_=>0,λi h=>absurd rfl h,λx=>by rw [Rj]; omega⟩
theorem jm.symm (p:jm G K u v):jm G K v u:=by
  obtain ⟨t,h1,h2⟩:=p
  exact ⟨λi=>- t i,λi z=>h1 i (λe=>z (by dsimp only; rw [e]; rfl)),λx=>by rw [Lq,h2]; omega⟩
theorem jm.trans (p:jm G K u v) (r:jm G K v w):jm G K u w:=by
  obtain ⟨t,h1,h2⟩:=p
  obtain ⟨s,k1,k2⟩:=r
  refine ⟨λi=>t i+s i,λi z=>?_,λx=>by rw [m6,h2,k2]; omega⟩
  by_cases e:t i=0
  · exact k1 i (λe2=>z (by dsimp only; rw [e,e2]; rfl))
  · exact h1 i e
theorem jm.mono (p:jm G K u v) (h:∀ i,i < G.m->K i=true->K' i=true):jm G K' u v:=by
  obtain ⟨t,h1,h2⟩:=p
  exact ⟨t,λi z=>⟨(h1 i z).1,h i (h1 i z).1 (h1 i z).2⟩,h2⟩
theorem jm.one (hj:j < G.m) (hk:K j=true):jm G K (G.s j) (G.t j):=by
  refine ⟨λi=>if i=j then 1 else 0,λi z=>?_,λx=>sW hj⟩
  by_cases e:i=j
  · subst e
    exact ⟨hj,hk⟩
  · exact absurd (if_neg e) z
theorem CQ (hn:∀ i,i < G.m->G.s i < n∧G.t i < n):aL (λx=>h x * bL G f x) n=aL (λi=>f i * (h (G.t i) - h (G.s i))) G.m:=by
  have one:∀ (y:Nat) (k:Int),y < n->aL (λx=>h x * (if y=x then k else 0)) n=h y * k:=λy k hy=>by
    rw [aY (h:=λx=>if x=y then h y * k else 0),gA,if_pos hy]
    intro x _
    by_cases e:y=x
    · subst e
      simp
    · have e':¬ x=y:=λz=>e z.symm
      simp [e,e']
  have e1:aL (λx=>h x * bL G f x) n=aL (λx=>aL (λi=>h x * ((if G.t i=x then f i else 0) - (if G.s i=x then f i else 0))) G.m) n:=aY λx _=>by
    unfold bL
    rw [← zV]
  rw [e1,vf]
  refine aY λi hi=>?_
  have e2:(λx=>h x * ((if G.t i=x then f i else 0) - (if G.s i=x then f i else 0)))=λx=>h x * (if G.t i=x then f i else 0) - h x * (if G.s i=x then f i else 0):=by
    funext x
    rw [Int.mul_sub]
  rw [e2,t6,one _ _ (hn i hi).2,one _ _ (hn i hi).1,← Int.sub_mul,Int.mul_comm]
theorem jm.flat (hn:∀ i,i < G.m->G.s i < n∧G.t i < n) (hu:u < n) (hv:v < n) (p:jm G K u v) (hf:∀ i,i < G.m->K i=true->h (G.s i)=h (G.t i)):h u=h v:=by
  obtain ⟨t,h1,h2⟩:=p
  have e:=CQ (h:=h) (f:=t) hn
  rw [eG (g:=λi=>t i * (h (G.t i) - h (G.s i))) λi hi=>?_] at e
  · have one:∀ y:Nat,y < n->aL (λx=>h x * (if y=x then 1 else 0)) n=h y:=λy hy=>by
      rw [aY (h:=λx=>if x=y then h y else 0),gA,if_pos hy]
      intro x _
      by_cases e:y=x
      · subst e
        simp
      · have e':¬ x=y:=λz=>e z.symm
        simp [e,e']
    have e2:(λx=>h x * bL G t x)=λx=>h x * (if v=x then 1 else 0) - h x * (if u=x then 1 else 0):=by
      funext x
      rw [h2,Int.mul_sub]
    rw [e2,t6,one _ hv,one _ hu] at e
    omega
  · by_cases z:t i=0
    · rw [z,Int.zero_mul]
    · obtain ⟨_,hk⟩:=h1 i z
      rw [hf i hi hk,Int.sub_self,Int.mul_zero]
def Cf (mk:List Nat) (a b:Nat):List Nat:=mk.map λm=>if m=mk.getD b 0 then mk.getD a 0 else m
theorem MK {a b:Nat}:(Cf mk a b).length=mk.length:=by simp [Cf]
theorem Vv {a b x:Nat} (hx:x < mk.length):(Cf mk a b).getD x 0=if mk.getD x 0=mk.getD b 0 then mk.getD a 0 else mk.getD x 0:=by
  unfold Cf
  rw [List.getD_eq_getElem?_getD,List.getElem?_map,List.getElem?_eq_getElem hx,Option.map_some,Option.getD_some]
  have e:mk.getD x 0=mk[x]:=by rw [List.getD_eq_getElem?_getD,List.getElem?_eq_getElem hx,Option.getD_some]
  rw [e]
structure i6 (G:Gr) (n:Nat) (K:Nat->Bool) (j:Nat) (mk:List Nat):Prop where
  len:mk.length=n
  same:∀ i,i < j->i < G.m->K i=true->mk.getD (G.s i) 0=mk.getD (G.t i) 0
  join:∀ u v,u < n->v < n->mk.getD u 0=mk.getD v 0->jm G (λi=>K i && decide (i < j)) u v
theorem i6.start:i6 G n K 0 (List.range n):=⟨by simp,λi h=>absurd h (by omega),λu v hu hv e=>by
  rw [List.getD_eq_getElem?_getD,List.getD_eq_getElem?_getD,List.getElem?_range hu,List.getElem?_range hv,Option.getD_some,Option.getD_some] at e
  subst e
  exact jm.refl u⟩
theorem i6.skip (h:i6 G n K j mk) (hj:K j=false):i6 G n K (j+1) mk:=by
  refine ⟨h.len,λi hi hm hk=>?_,λu v hu hv e=>(h.join u v hu hv e).mono λi _ z=>?_⟩
  · by_cases e:i=j
    · subst e
      rw [hj] at hk
      cases hk
    · exact h.same i (by omega) hm hk
  · simp only [Bool.and_eq_true,decide_eq_true_eq] at z ⊢
    exact ⟨z.1,by omega⟩
theorem i6.step (hn:∀ i,i < G.m->G.s i < n∧G.t i < n) (h:i6 G n K j mk) (hj:K j=true) (hm:j < G.m):i6 G n K (j+1) (Cf mk (G.s j) (G.t j)):=by
  have hat:∀ x,x < n->(Cf mk (G.s j) (G.t j)).getD x 0=if mk.getD x 0=mk.getD (G.t j) 0 then mk.getD (G.s j) 0 else mk.getD x 0:=λx hx=>Vv (by rw [h.len]; exact hx)
  have up:∀ u v,jm G (λi=>K i && decide (i < j)) u v->jm G (λi=>K i && decide (i < j+1)) u v:=λu v p=>p.mono λi _ z=>by
    simp only [Bool.and_eq_true,decide_eq_true_eq] at z ⊢
    exact ⟨z.1,by omega⟩
  have ed:jm G (λi=>K i && decide (i < j+1)) (G.s j) (G.t j):=jm.one hm (by simp [hj])
  have hs:=(hn j hm).1
  have ht:=(hn j hm).2
  refine ⟨by rw [MK,h.len],λi hi hmi hk=>?_,λu v hu hv e=>?_⟩
  · rw [hat _ (hn i hmi).1,hat _ (hn i hmi).2]
    by_cases e:i=j
    · subst e
      rw [if_pos (rfl:mk.getD (G.t i) 0=mk.getD (G.t i) 0)]
      split
      · rfl
      · rfl
    · rw [h.same i (by omega) hmi hk]
  · rw [hat _ hu,hat _ hv] at e
    by_cases e1:mk.getD u 0=mk.getD (G.t j) 0
    · by_cases e2:mk.getD v 0=mk.getD (G.t j) 0
      · exact up _ _ (h.join u v hu hv (e1.trans e2.symm))
      · rw [if_pos e1,if_neg e2] at e
        exact ((up _ _ (h.join u _ hu ht e1)).trans ed.symm).trans (up _ _ (h.join _ v hs hv e))
    · by_cases e2:mk.getD v 0=mk.getD (G.t j) 0
      · rw [if_neg e1,if_pos e2] at e
        exact ((up _ _ (h.join u _ hu hs e)).trans ed).trans (up _ _ (h.join _ v ht hv e2.symm))
      · rw [if_neg e1,if_neg e2] at e
        exact up _ _ (h.join u v hu hv e)
theorem i6.iff (hn:∀ i,i < G.m->G.s i < n∧G.t i < n) (h:i6 G n K j mk) (hu:u < n) (hv:v < n):mk.getD u 0=mk.getD v 0↔jm G (λi=>K i && decide (i < j)) u v:=by
  refine ⟨h.join u v hu hv,λp=>?_⟩
  have:=p.flat (h:=λx=>((mk.getD x 0:Nat):Int)) hn hu hv λi hi hk=>by
    simp only [Bool.and_eq_true,decide_eq_true_eq] at hk
    show ((mk.getD (G.s i) 0:Nat):Int)=((mk.getD (G.t i) 0:Nat):Int)
    rw [h.same i hk.2 hi hk.1]
  exact Int.ofNat.inj this
theorem i6.more (h:i6 G n K j mk) (hk:∀ i,j≤i->K i=false) {j':Nat} (hj:j≤j'):i6 G n K j' mk:=by
  refine ⟨h.len,λi hi hm hki=>?_,λu v hu hv e=>(h.join u v hu hv e).mono λi _ z=>?_⟩
  · by_cases e:i < j
    · exact h.same i e hm hki
    · rw [hk i (by omega)] at hki
      cases hki
  · simp only [Bool.and_eq_true,decide_eq_true_eq] at z ⊢
    exact ⟨z.1,by omega⟩
theorem i6.congr (h:i6 G n K j mk) (e:∀ i,i < j->K i=K' i):i6 G n K' j mk:=by
  refine ⟨h.len,λi hi hm hki=>h.same i hi hm (by rw [e i hi]; exact hki),λu v hu hv ee=>(h.join u v hu hv ee).mono λi _ z=>?_⟩
  simp only [Bool.and_eq_true,decide_eq_true_eq] at z ⊢
  exact ⟨by rw [← e i z.2]; exact z.1,z.2⟩
def Tree (G:Gr) (K T:Nat->Bool):Prop:=∀ j,j < G.m->(T j=true↔K j=true∧¬ jm G (λi=>T i && decide (i < j)) (G.s j) (G.t j))
theorem Tree.span (t:Tree G K T) (hj:j < G.m) (hk:K j=true):jm G T (G.s j) (G.t j):=by
  by_cases e:T j=true
  · exact jm.one hj e
  · have:jm G (λi=>T i && decide (i < j)) (G.s j) (G.t j):=by
      refine Classical.byContradiction λz=>e ((t j hj).mpr ⟨hk,z⟩)
    exact this.mono λi _ z=>by
      simp only [Bool.and_eq_true] at z
      exact z.1
theorem Tree.kept (t:Tree G K T) (hj:j < G.m) (hk:T j=true):K j=true:=((t j hj).mp hk).1
theorem Tree.height (t:Tree G K T) (he:e < G.m) (hT:T e=true):∃ h:Nat->Int,h (G.t e)=h (G.s e)+1∧∀ i,i < G.m->T i=true->i≠e->h (G.s i)=h (G.t i):=by
  have go : ∀ j,j≤G.m->∀ e,e < j->T e=true->∃ h:Nat->Int,h (G.t e)=h (G.s e)+1∧∀ i,i < j->T i=true->i≠e->h (G.s i)=h (G.t i):=λj=>by
    induction j with
    | zero=>intro _ e h; omega
    | succ j ih=>
      intro hj e hej hTe
      by_cases hTj:T j=true
      · have sep:=((t j (by omega)).mp hTj).2
        have hc:∃ k:Nat->Int,k (G.s j)=0∧k (G.t j)=1∧∀ i,i < j->T i=true->k (G.s i)=k (G.t i):=by
          refine ⟨λx=>@ite _ (jm G (λi=>T i && decide (i < j)) (G.s j) x) (Classical.propDecidable _) 0 1,if_pos (jm.refl _),if_neg sep,λi hi hTi=>?_⟩
          have ed:jm G (λi=>T i && decide (i < j)) (G.s i) (G.t i):=jm.one (by omega) (by simp [hTi,hi])
          by_cases z:jm G (λi=>T i && decide (i < j)) (G.s j) (G.s i)
          · dsimp only
            rw [if_pos z,if_pos (z.trans ed)]
          · dsimp only
            rw [if_neg z,if_neg (λz2=>z (z2.trans ed.symm))]
        obtain ⟨k,k1,k2,k3⟩:=hc
        by_cases e1:e=j
        · subst e1
          exact ⟨k,by omega,λi hi hTi hne=>k3 i (by omega) hTi⟩
        · obtain ⟨h,h1,h2⟩:=ih (by omega) e (by omega) hTe
          refine ⟨λx=>h x - (h (G.t j) - h (G.s j)) * k x,?_,λi hi hTi hne=>?_⟩
          · have:=k3 e (by omega) hTe
            dsimp only
            rw [this,h1]
            omega
          · dsimp only
            by_cases e2:i=j
            · subst e2
              rw [k1,k2,Int.mul_zero,Int.mul_one]
              omega
            · rw [k3 i (by omega) hTi,h2 i (by omega) hTi hne]
      · obtain ⟨h,h1,h2⟩:=ih (by omega) e (by
          by_cases z:e=j
          · subst z
            exact absurd hTe hTj
          · omega) hTe
        exact ⟨h,h1,λi hi hTi hne=>h2 i (by
          by_cases z:i=j
          · subst z
            exact absurd hTi hTj
          · omega) hTi hne⟩
  exact go G.m (Nat.le_refl _) e he hT
theorem Tree.zero (hn:∀ i,i < G.m->G.s i < n∧G.t i < n) (t:Tree G K T) (hf:∀ x,x < n->bL G f x=0) (h0:∀ i,i < G.m->T i=false->f i=0):∀ i,i < G.m->f i=0:=λe he=>by
  cases hT:T e with
  | false=>exact h0 e he hT
  | true=>
    obtain ⟨h,h1,h2⟩:=t.height he hT
    have z:=CQ (h:=h) (f:=f) hn
    rw [eG (g:=λx=>h x * bL G f x) (λx hx=>by rw [hf x hx,Int.mul_zero])] at z
    rw [aY (h:=λi=>if i=e then f e else 0),gA,if_pos he] at z
    · exact z.symm
    · intro i hi
      by_cases ei:i=e
      · subst ei
        rw [if_pos rfl,h1,show h (G.s i)+1 - h (G.s i)=1 by omega,Int.mul_one]
      · rw [if_neg ei]
        cases hTi:T i with
        | false=>rw [h0 i hi hTi,Int.zero_mul]
        | true=>rw [h2 i hi hTi ei,Int.sub_self,Int.mul_zero]
theorem Tree.cut (hn:∀ i,i < G.m->G.s i < n∧G.t i < n) (t:Tree G K T) (he:e < G.m) (hT:T e=true):¬ jm G (λi=>T i && !decide (i=e)) (G.s e) (G.t e):=λp=>by
  obtain ⟨h,h1,h2⟩:=t.height he hT
  have:=p.flat (h:=h) hn (hn e he).1 (hn e he).2 λi hi hk=>by
    simp only [Bool.and_eq_true,Bool.not_eq_true',decide_eq_false_iff_not] at hk
    exact h2 i hi hk.1 hk.2
  omega
def ind (b:Bool):Int:=if b then 1 else 0
def yi (G:Gr) (g:Nat->Int) (I:Nat->Bool):Int:=aL (λi=>g i * (ind (I (G.s i)) - ind (I (G.t i)))) G.m
theorem Tree.val (hn:∀ i,i < G.m->G.s i < n∧G.t i < n) (t:Tree G K T) (hf:∀ x,x < n->bL G f x=0) (he:e < G.m) (hT:T e=true) (hm:i6 G n (λi=>T i && !decide (i=e)) G.m mk)
    (hg:∀ i,i < G.m->g i=if T i then 0 else f i):f e=yi G g (λx=>decide (mk.getD x 0=mk.getD (G.t e) 0)):=by
  have hne:mk.getD (G.s e) 0≠mk.getD (G.t e) 0:=λz=>t.cut hn he hT ((hm.join _ _ (hn e he).1 (hn e he).2 z).mono λi hi zi=>by
    simp only [Bool.and_eq_true] at zi ⊢
    exact zi.1)
  have z:=CQ (h:=λx=>ind (decide (mk.getD x 0=mk.getD (G.t e) 0))) (f:=f) hn
  rw [eG (g:=λx=>ind (decide (mk.getD x 0=mk.getD (G.t e) 0)) * bL G f x) (λx hx=>by rw [hf x hx,Int.mul_zero])] at z
  have e2:aL (λi=>f i * (ind (decide (mk.getD (G.t i) 0=mk.getD (G.t e) 0)) - ind (decide (mk.getD (G.s i) 0=mk.getD (G.t e) 0)))) G.m=aL (λi=>(if i=e then f e else 0) - g i * (ind (decide (mk.getD (G.s i) 0=mk.getD (G.t e) 0)) - ind (decide (mk.getD (G.t i) 0=mk.getD (G.t e) 0)))) G.m:=aY λi hi=>by
    rw [hg i hi]
    by_cases ei:i=e
    · subst ei
      rw [if_pos rfl,hT,if_pos rfl,Int.zero_mul,decide_eq_true (rfl:mk.getD (G.t i) 0=mk.getD (G.t i) 0),decide_eq_false hne]
      simp [ind]
    · rw [if_neg ei]
      cases hTi:T i with
      | true=>
        rw [hm.same i hi hi (by simp [hTi,ei]),Int.sub_self,Int.mul_zero,if_pos rfl,Int.zero_mul]
        rfl
      | false=>
        rw [if_neg (by decide),Int.zero_sub,← Int.mul_neg,Int.neg_sub]
  rw [e2,t6,gA,if_pos he] at z
  simp only [yi]
  omega
structure CG (G:Gr) (n:Nat) (T:Nat->Bool) (c:Nat) (f:Nat->Int):Prop where
  fl:∀ x,x < n->bL G f x=0
  one:f c=1
  out:∀ i,T i=false->i≠c->f i=0
  un:∀ i,f i=0∨f i=1∨f i= -1
theorem Tree.ring (hn:∀ i,i < G.m->G.s i < n∧G.t i < n) (t:Tree G K T) (hc:c < G.m) (hk:K c=true) (hT:T c=false) (hM:∀ K:Nat->Bool,∃ mk,i6 G n K G.m mk):∃ f,CG G n T c f:=by
  obtain ⟨p,h1,h2⟩:=(t.span hc hk).symm
  have hp:p c=0:=Classical.byContradiction λz=>by
    have:=(h1 c z).2
    rw [hT] at this
    cases this
  have fl:∀ x,bL G (λi=>p i+if i=c then 1 else 0) x=0:=λx=>by
    rw [m6,h2,sW hc]
    omega
  have o1:(λi=>p i+if i=c then (1:Int) else 0) c=1:=by simp [hp]
  have o2:∀ i,T i=false->i≠c->(λi=>p i+if i=c then (1:Int) else 0) i=0:=λi hi hne=>by
    have:p i=0:=Classical.byContradiction λz=>by
      have:=(h1 i z).2
      rw [hi] at this
      cases this
    simp [this,hne]
  refine ⟨_,λx _=>fl x,o1,o2,λi=>?_⟩
  by_cases hi:i < G.m
  · cases hTi:T i with
    | false=>
      by_cases e:i=c
      · subst e
        exact .inr (.inl o1)
      · exact .inl (o2 i hTi e)
    | true=>
      obtain ⟨mk,hm⟩:=hM (λk=>T k && !decide (k=i))
      have:=t.val hn (λx _=>fl x) hi hTi hm (g:=λk=>if k=c then 1 else 0) (λk hk=>by
        dsimp only at o1 o2 ⊢
        by_cases e:k=c
        · subst e
          rw [if_pos rfl,hT,if_neg (by decide)]
          omega
        · rw [if_neg e]
          cases hTk:T k with
          | true=>rfl
          | false=>
            have:=o2 k hTk e
            rw [if_neg e] at this
            rw [if_neg (by decide)]
            omega)
      rw [this]
      unfold yi
      rw [aY (h:=λk=>if k=c then ind (decide (mk.getD (G.s c) 0=mk.getD (G.t i) 0)) - ind (decide (mk.getD (G.t c) 0=mk.getD (G.t i) 0)) else 0),gA,if_pos hc]
      · unfold ind
        split <;> split <;> simp
      · intro k _
        by_cases e:k=c
        · subst e
          simp
        · simp [e]
  · have:p i=0:=Classical.byContradiction λz=>hi (h1 i z).1
    have hne:i≠c:=λz=>hi (z ▸ hc)
    refine .inl ?_
    simp [this,hne]
theorem CG.uniq (hn:∀ i,i < G.m->G.s i < n∧G.t i < n) (t:Tree G K T) (r:CG G n T c f) (hg:∀ x,x < n->bL G g x=0) (h1:g c=1) (h2:∀ i,i < G.m->T i=false->i≠c->g i=0):∀ i,i < G.m->g i=f i:=λi hi=>by
  have:=t.zero (f:=λi=>g i+ - f i) hn (λx hx=>by rw [m6,Lq,hg x hx,r.fl x hx]; rfl) (λk hk hT=>by
    by_cases e:k=c
    · subst e
      rw [h1,r.one]
      rfl
    · rw [h2 k hk hT e,r.out k hT e]
      rfl) i hi
  omega
end
abbrev EO:=List (Nat×Nat)
def dS (es:EO):Gr:=⟨es.length,λi=>(es.getD i (0,0)).1,λi=>(es.getD i (0,0)).2,λ_=>none⟩
def vW:EO->List Bool->List Nat->List Nat
  | e :: es,k :: ks,mk=>vW es ks (if k then Cf mk e.1 e.2 else mk)
  | _,_,mk=>mk
def jR (es:EO) (n:Nat) (ks:List Bool):List Nat:=vW es ks (List.range n)
def dw (es:EO) (n:Nat) (ks:List Bool):Nat->List Bool
  | 0=>[]
  | j+1=>dw es n ks j++[ks.getD j false && !decide ((jR es n (dw es n ks j)).getD (es.getD j (0,0)).1 0=(jR es n (dw es n ks j)).getD (es.getD j (0,0)).2 0)]
section
variable {es:EO} {n j i:Nat} {ks:List Bool} {mk:List Nat}
def vX (es:EO) (n:Nat):Prop:=∀ e∈es,e.1 < n∧e.2 < n
theorem vX.gr (h:vX es n):∀ i,i < (dS es).m->(dS es).s i < n∧(dS es).t i < n:=λi hi=>by
  have hi':i < es.length:=hi
  have:=h (es.getD i (0,0)) (by
    rw [List.getD_eq_getElem?_getD,List.getElem?_eq_getElem hi',Option.getD_some]
    exact List.getElem_mem _)
  exact this
theorem WW (h:vX es n):∀ (us:EO) (vs:List Bool) (j:Nat) (mk:List Nat),us=es.drop j->vs=ks.drop j->i6 (dS es) n (λi=>ks.getD i false) j mk->i6 (dS es) n (λi=>ks.getD i false) es.length (vW us vs mk):=λus=>by
  induction us with
  | nil=>
    intro vs j mk h1 h2 hm
    unfold vW
    have hj:es.length≤j:=by
      have:=congrArg List.length h1
      simp at this
      omega
    refine ⟨hm.len,λi hi hi2 hk=>hm.same i (by omega) hi2 hk,λu v hu hv e=>(hm.join u v hu hv e).mono λi hi z=>?_⟩
    simp only [Bool.and_eq_true,decide_eq_true_eq] at z ⊢
    exact ⟨z.1,hi⟩
  | cons e us ih=>
    intro vs j mk h1 h2 hm
    have hj:j < es.length:=by
      have:=congrArg List.length h1
      simp at this
      omega
    have he:es.getD j (0,0)=e:=by
      have:=congrArg (λl=>l[0]?) h1
      simp only [List.getElem?_cons_zero,List.getElem?_drop,Nat.add_zero] at this
      rw [List.getD_eq_getElem?_getD,← this,Option.getD_some]
    have hus:us=es.drop (j+1):=by
      have:=congrArg List.tail h1
      simpa using this
    cases vs with
    | nil=>
      unfold vW
      have hl:ks.length≤j:=by
        have:=congrArg List.length h2
        simp at this
        omega
      exact hm.more (λi hi=>by rw [List.getD_eq_getElem?_getD,List.getElem?_eq_none (by omega)]; rfl) (by omega)
    | cons k vs=>
      have hk:ks.getD j false=k:=by
        have:=congrArg (λl=>l[0]?) h2
        simp only [List.getElem?_cons_zero,List.getElem?_drop,Nat.add_zero] at this
        rw [List.getD_eq_getElem?_getD,← this,Option.getD_some]
      have hvs:vs=ks.drop (j+1):=by
        have:=congrArg List.tail h2
        simpa using this
      unfold vW
      refine ih vs (j+1) _ hus hvs ?_
      cases k with
      | false=>exact hm.skip hk
      | true=>
        rw [if_pos rfl]
        have:=hm.step h.gr hk hj
        rw [show (dS es).s j=e.1 from congrArg (·.1) he,show (dS es).t j=e.2 from congrArg (·.2) he] at this
        exact this
theorem xR (h:vX es n) (ks:List Bool):i6 (dS es) n (λi=>ks.getD i false) es.length (jR es n ks):=WW h es ks 0 _ rfl rfl i6.start
theorem QI (h:vX es n):(jR es n ks).length=n:=(xR h ks).len
theorem nZ:dw es n ks (j+1)=dw es n ks j++[ks.getD j false && !decide ((jR es n (dw es n ks j)).getD (es.getD j (0,0)).1 0=(jR es n (dw es n ks j)).getD (es.getD j (0,0)).2 0)]:=rfl
theorem jY:∀ j,(dw es n ks j).length=j
  | 0=>rfl
  | j+1=>by
    rw [nZ,List.length_append,jY j]
    rfl
theorem wQ {z:Nat}:∀ {j:Nat},i < z->z≤j->(dw es n ks j).getD i false=(dw es n ks z).getD i false
  | 0,h1,h2=>by omega
  | j +1,h1,h2=>by
    by_cases e:z=j+1
    · rw [e]
    · rw [← wQ (j:=j) h1 (by omega)]
      rw [nZ,List.getD_eq_getElem?_getD,List.getElem?_append_left (by rw [jY]; omega),← List.getD_eq_getElem?_getD]
def eX (es:EO) (n:Nat) (ks:List Bool):Nat->Bool:=λi=>(dw es n ks es.length).getD i false
theorem Vx (hj:j < es.length):eX es n ks j=(ks.getD j false && !decide ((jR es n (dw es n ks j)).getD (es.getD j (0,0)).1 0=(jR es n (dw es n ks j)).getD (es.getD j (0,0)).2 0)):=by
  unfold eX
  rw [wQ (z:=j+1) (by omega) hj]
  rw [nZ,List.getD_eq_getElem?_getD,List.getElem?_append_right (by rw [jY]; exact Nat.le_refl _),jY,Nat.sub_self]
  rfl
theorem uD (h:vX es n):Tree (dS es) (λi=>ks.getD i false) (eX es n ks):=λj hj=>by
  have hj':j < es.length:=hj
  rw [Vx hj']
  have hm:=xR h (dw es n ks j)
  have hi:=hm.iff h.gr (h.gr j hj).1 (h.gr j hj).2
  have hq:jm (dS es) (λi=>(dw es n ks j).getD i false && decide (i < es.length)) ((dS es).s j) ((dS es).t j)↔jm (dS es) (λi=>eX es n ks i && decide (i < j)) ((dS es).s j) ((dS es).t j):=by
    constructor <;> intro p <;> refine p.mono λi hi z=>?_ <;> simp only [Bool.and_eq_true,decide_eq_true_eq] at z ⊢
    · have hij:i < j:=Classical.byContradiction λq=>by
        have:=z.1
        rw [List.getD_eq_getElem?_getD,List.getElem?_eq_none (by rw [jY]; omega)] at this
        cases this
      refine ⟨?_,hij⟩
      unfold eX
      rw [wQ hij (by omega)]
      exact z.1
    · refine ⟨?_,hi⟩
      have:=z.1
      unfold eX at this
      rw [wQ z.2 (by omega)] at this
      exact this
  rw [← hq,← hi]
  simp only [Bool.and_eq_true,Bool.not_eq_true',decide_eq_false_iff_not]
  exact Iff.rfl
theorem Rh (h:vX es n) (K:Nat->Bool):∃ mk,i6 (dS es) n K (dS es).m mk:=by
  refine ⟨_,(xR h ((List.range es.length).map K)).congr λi hi=>?_⟩
  rw [List.getD_eq_getElem?_getD,List.getElem?_map,List.getElem?_range hi]
  rfl
theorem Kd (h:vX es n) {c:Nat} (hc:c < es.length) (hk:ks.getD c false=true) (hT:eX es n ks c=false):∃ f,CG (dS es) n (eX es n ks) c f:=(uD h).ring h.gr hc hk hT (Rh h)
theorem KA (h:vX es n):∀ j,j≤es.length->dw es n (dw es n ks es.length) j=dw es n ks j
  | 0,_=>rfl
  | j +1,hj=>by
    have ih:=KA h j (by omega)
    rw [nZ,nZ (ks:=ks),ih,wQ (z:=j+1) (by omega) hj,nZ (ks:=ks)]
    have e:∀ b:Bool,(dw es n ks j++[b]).getD j false=b:=λb=>by
      rw [List.getD_eq_getElem?_getD,List.getElem?_append_right (by rw [jY]; exact Nat.le_refl _),jY,Nat.sub_self]
      rfl
    rw [e,Bool.and_assoc,Bool.and_self]
end
end RV
end
section
namespace RV
open PySem L2
def Wg (P:List Str) (r:LR):Nat×Nat:=(pos r.2.1 P,pos r.2.2 P)
def aT (rs:List LR):EO:=rs.map (Wg (ak rs))
theorem eE {rs:List LR}:(aT rs).length=rs.length:=by simp [aT]
theorem lA {rs:List LR}:vX (aT rs) (ak rs).length:=λe he=>by
  obtain ⟨r,hr,rfl⟩:=List.mem_map.mp he
  exact ⟨sC hr,nQ hr⟩
theorem xH {rs:List LR} {i:Nat} (hi:i < rs.length):(aT rs).getD i (0,0)=Wg (ak rs) (rs.getD i zL):=by
  unfold aT
  rw [List.getD_eq_getElem?_getD,List.getElem?_map,List.getElem?_eq_getElem hi,iZ hi]
  rfl
theorem xP {rs:List LR} {f:Nat->Int} {y:Nat}:bL (dS (aT rs)) f y=aL (gy rs f y) rs.length:=by
  unfold bL
  rw [show (dS (aT rs)).m=rs.length from eE]
  refine aY λi hi=>?_
  have e:=xH (rs:=rs) hi
  show (if ((aT rs).getD i (0,0)).2=y then f i else 0) - (if ((aT rs).getD i (0,0)).1=y then f i else 0)=_
  rw [e]
  rfl
section
variable {A:Ad} {S:WS} {q:D->WS->Prop} {x:Xq} {rs:List LR} {fs:List FR} {ks:List Bool} {kv:D} {N:WS->Prop} {b:Bool}
theorem W5 {ds:List D} {P:Bool->List D->(WS->Prop)->Prop}:oE (.tup ds) S P=P true ds cB:=rfl
def Sq (S:WS) (kv:D) (ds:List D):Prop:=∃ b N,N S∧∀ P,oE kv S P=P b ds N
theorem Sq.lst {ds:List D}:Sq S (.lst ds) ds:=⟨false,cB,trivial,λP=>rfl⟩
theorem Sq.tup {ds:List D}:Sq S (.tup ds) ds:=⟨true,cB,trivial,λP=>rfl⟩
theorem Sq.cell {ds:List D} {k:Nat} (h:S[k]? =some (.lst ds)):Sq S (.cell k) ds:=⟨false,Holds k ds,h,λP=>by
  simp only [oE,h,qw,Fp]⟩
theorem Xh:bQ S [.tup ((ak rs).map D.str)]=some (.int ((ak rs).length:Nat)):=by simp [bQ,br]
theorem Jr {k:Nat}:bX k=.int (k:Int):=rfl
theorem BB {mk:List Nat} {y:Nat} (h:y < mk.length):aH S (.lst (mk.map bX)) (.int (y:Int))=some (.int ((mk.getD y 0:Nat):Int)):=jO (f:=bX) (z:=(0:Nat)) h
theorem qp {a b:Nat}:decide ((a:Int)=(b:Int))=decide (a=b):=by
  rw [decide_eq_decide]
  omega
theorem wz (hL:bw rs) (hk:Sq S kv (ks.map D.bl)) (hq:q (.lst ((jR (aT rs) (ak rs).length ks).map bX)) S):jF A [aN A rs fs,kv] S q x:=by
  have h12:=hL.hi
  have hP:=j8 h12
  obtain ⟨b,N,hN,hs⟩:=hk
  have go : ∀ (N:WS->Prop),N S->∀ (us:List LR) (vs:List Bool) (mk:List Nat) (o3 o4 o5 o6 o7 o8:Option D) (kt:Kt),(∀ r∈us,r∈rs)->mk.length=(ak rs).length->
      (∀ o3 o4 o5 o6 o7 o8,kt.nx [some (aN A rs fs),some kv,some (.lst ((vW (us.map (Wg (ak rs))) vs mk).map bX)),o3,o4,o5,o6,o7,o8] S)->
      cE N (bG 2 (aE (bG 2 (aE (av 3) (aE (av 4) (bH)))) (aE (av 5) (bH)))) (qG A) (fS (us.map (eV (ak rs))) (vs.map D.bl)) [some (aN A rs fs),some kv,some (.lst (mk.map bX)),o3,o4,o5,o6,o7,o8] S kt:=λN hN us=>by
    induction us with
    | nil=>
      intro vs mk o3 o4 o5 o6 o7 o8 kt _ _ hk
      rw [List.map_nil] at hk ⊢
      unfold vW at hk
      unfold fS
      exact ⟨hN,hk _ _ _ _ _ _⟩
    | cons r us ih=>
      intro vs mk o3 o4 o5 o6 o7 o8 kt hu hm hk
      cases vs with
      | nil=>
        rw [List.map_cons] at hk
        unfold vW at hk
        rw [List.map_nil,List.map_cons]
        unfold fS
        exact ⟨hN,hk _ _ _ _ _ _⟩
      | cons v vs=>
        have hr:=hu r (List.mem_cons_self ..)
        have p1:pos r.2.1 (ak rs) < mk.length:=by rw [hm]; exact sC hr
        have p2:pos r.2.2 (ak rs) < mk.length:=by rw [hm]; exact nQ hr
        rw [List.map_cons] at hk
        unfold vW at hk
        rw [List.map_cons,List.map_cons]
        unfold fS
        refine gR λF hF=>⟨hN,?_⟩
        unfold qG
        unfold eV
        cases v with
        | false=>
          simp? []
          rw [hF]
          exact ih vs mk _ _ _ _ _ _ kt (λr z=>hu r (List.mem_cons_of_mem _ z)) hm hk
        | true=>
          simp? [BB p1,BB p2,List.length_map,aA (n:=mk.length) (by omega)]
          rw [bM (inj:=bX) (g:=λm:Nat=>bX (if m=mk.getD (pos r.2.2 (ak rs)) 0 then mk.getD (pos r.2.1 (ak rs)) 0 else m)) mk trivial (λm hm=>⟨_,rfl,λq x=>by
            unfold xo
            simp? [Jr,qp]
            by_cases z:m=mk.getD (pos r.2.2 (ak rs)) 0
            · rw [decide_eq_true z,if_pos z]; simp? []
            · rw [decide_eq_false z,if_neg z]; simp? []⟩)]
          simp? []
          rw [hF]
          have ih':=ih vs (Cf mk (pos r.2.1 (ak rs)) (pos r.2.2 (ak rs))) (some (.int (pos r.2.1 (ak rs):Nat))) (some (.int (pos r.2.2 (ak rs):Nat))) (some (.bl true)) (some (.int (mk.getD (pos r.2.2 (ak rs)) 0:Nat))) (some (.int (mk.getD (pos r.2.1 (ak rs)) 0:Nat))) o8 kt (λr z=>hu r (List.mem_cons_of_mem _ z)) (by rw [MK]; exact hm) hk
          rw [show (Cf mk (pos r.2.1 (ak rs)) (pos r.2.2 (ak rs))).map bX=mk.map λm:Nat=>bX (if m=mk.getD (pos r.2.2 (ak rs)) 0 then mk.getD (pos r.2.1 (ak rs)) 0 else m) from by unfold Cf; rw [List.map_map]; rfl] at ih'
          exact ih'
  rw [zY]
  unfold aG aM
  simp only [List.map_cons,List.map_nil,List.length_cons,List.length_nil,Nat.reduceAdd,Nat.reduceSub,List.replicate,List.cons_append,List.nil_append,List.append_nil,Nat.zero_add]
  unfold uM
  refine ay λN_ hN_=>?_
  simp? [eZ,FQ]
  refine sR hL ?_
  simp? [Xh]
  refine ⟨⟨by omega,by omega⟩,?_⟩
  rw [jL]
  subst hN_
  have e0:((List.range (ak rs).length).map λ(i:Nat)=>D.int (i:Int))=(List.range (ak rs).length).map bX:=rfl
  rw [e0]
  refine ay λN_ hN_=>?_
  simp? [iZip,eZ]
  refine o_ hL ?_
  simp? [W5,hs]
  refine go _ (by first | exact hN | exact ⟨trivial,hN⟩) rs ks (List.range (ak rs).length) none none none none none none _ (λr h=>h) (by simp) λo3 o4 o5 o6 o7 o8=>?_
  dsimp only
  subst hN_
  simp? []
  exact hq
theorem FD (hL:bw rs) (hl:ks.length=rs.length) (hq:q (.lst ((dw (aT rs) (ak rs).length ks rs.length).map D.bl)) S):jK A [aN A rs fs,.lst (ks.map D.bl)] S q x:=by
  have h12:=hL.hi
  have hP:=j8 h12
  have go:∀ (us:List LR) (j:Nat) (o3 o4 o5 o6:Option D) (kt:Kt),us=rs.drop j->j+us.length=rs.length->
      (∀ o3 o4 o5 o6,kt.nx [some (aN A rs fs),some (.lst (ks.map D.bl)),some (.cell S.length),o3,o4,o5,o6] (S++[.lst ((dw (aT rs) (ak rs).length ks rs.length).map D.bl)]))->
      cE cB (bG 2 (aE (av 3) (aE (bG 2 (aE (av 4) (aE (av 5) (bH)))) (bH)))) (x_ A) (gS j (us.map (eV (ak rs)))) [some (aN A rs fs),some (.lst (ks.map D.bl)),some (.cell S.length),o3,o4,o5,o6] (S++[.lst ((dw (aT rs) (ak rs).length ks j).map D.bl)]) kt:=λus=>by
    induction us with
    | nil=>
      intro j o3 o4 o5 o6 kt _ hj hk
      rw [show j=rs.length by simpa using hj]
      exact ⟨trivial,hk _ _ _ _⟩
    | cons r us ih=>
      intro j o3 o4 o5 o6 kt hu hj hk
      simp only [List.length_cons] at hj
      have hjl:j < rs.length:=by omega
      have er:rs.getD j zL=r:=by
        have:=congrArg (λl=>l[0]?) hu
        simp only [List.getElem?_cons_zero,List.getElem?_drop,Nat.add_zero] at this
        rw [List.getD_eq_getElem?_getD,← this,Option.getD_some]
      have hr:r∈rs:=by rw [← er]; exact getD_mem hjl
      have hus:us=rs.drop (j+1):=by
        have:=congrArg List.tail hu
        simpa using this
      have hml:(jR (aT rs) (ak rs).length (dw (aT rs) (ak rs).length ks j)).length=(ak rs).length:=QI lA
      have p1:pos r.2.1 (ak rs) < (jR (aT rs) (ak rs).length (dw (aT rs) (ak rs).length ks j)).length:=by rw [hml]; exact sC hr
      have p2:pos r.2.2 (ak rs) < (jR (aT rs) (ak rs).length (dw (aT rs) (ak rs).length ks j)).length:=by rw [hml]; exact nQ hr
      have kx:∀ S,aH S (.lst (ks.map D.bl)) (.int (j:Int))=some (.bl (ks.getD j false)):=λS=>jO (f:=D.bl) (z:=false) (by omega)
      have e4:dw (aT rs) (ak rs).length ks (j+1)=dw (aT rs) (ak rs).length ks j++[ks.getD j false && !decide ((jR (aT rs) (ak rs).length (dw (aT rs) (ak rs).length ks j)).getD (pos r.2.1 (ak rs)) 0=(jR (aT rs) (ak rs).length (dw (aT rs) (ak rs).length ks j)).getD (pos r.2.2 (ak rs)) 0)]:=by
        rw [nZ,xH hjl,er]
        rfl
      have ih':=λo6=>ih (j+1) (some (.int (j:Int))) (some (.int (pos r.2.1 (ak rs):Nat))) (some (.int (pos r.2.2 (ak rs):Nat))) o6 kt hus (by omega) hk
      rw [e4,List.map_append] at ih'
      have hfl:(dw (aT rs) (ak rs).length ks j).length=j:=jY j
      rw [List.map_cons]
      unfold gS
      refine gR λF hF=>⟨trivial,?_⟩
      unfold x_
      unfold eV
      simp? []
      refine wz hL (Sq.cell bF) ?_
      generalize hmk:jR (aT rs) (ak rs).length (dw (aT rs) (ak rs).length ks j)=mk at *
      cases hb:ks.getD j false with
      | false=>
        rw [hb] at ih'
        simp? [kx,hb,bF,cU,D.clean,List.length_map,hfl,aA (n:=j) (by omega)]
        rw [hF]
        exact ih' _
      | true=>
        rw [hb] at ih'
        simp? [kx,hb,BB p1,BB p2,qp,bF,cU,D.clean,List.length_map,hfl,aA (n:=j) (by omega)]
        rw [hF]
        exact ih' _
  rw [Jz]
  unfold aG aM
  simp only [List.map_cons,List.map_nil,List.length_cons,List.length_nil,Nat.reduceAdd,Nat.reduceSub,List.replicate,List.cons_append,List.nil_append,List.append_nil,Nat.zero_add]
  unfold De
  refine ay λN_ hN_=>?_
  simp? [D.cg]
  subst hN_
  refine ay λN_ hN_=>?_
  simp? [eZ]
  refine o_ hL ?_
  simp? []
  refine go rs 0 none none none none _ rfl (by omega) λo3 o4 o5 o6=>?_
  dsimp only
  subst hN_
  simp? []
  rw [pW]
  exact hq
theorem G8 {v:Nat->Int} {I:Nat->Bool} {iv:List Bool} (hL:bw rs) (hi:iv.length=(ak rs).length) (hI:∀ y,y < (ak rs).length->iv.getD y false=I y) (hq:q (.int (yi (dS (aT rs)) v I)) S):m7 A [aN A rs fs,.lst (bx rs.length v),.lst (iv.map D.bl)] S q x:=by
  have h12:=hL.hi
  have hm:(dS (aT rs)).m=rs.length:=eE
  have ez:fS (rs.map (eV (ak rs))) (bx rs.length v)=(List.range' 0 rs.length).map λi=>.tup [eV (ak rs) (rs.getD i zL),.int (v i)]:=by
    rw [map_range (f:=eV (ak rs)) (z:=zL)]
    unfold bx
    rw [uI,nv]
  have go:∀ (N:WS->Prop),N S->∀ (r j:Nat) (o4 o5 o6:Option D) (kt:Kt),j+r=rs.length->
      (∀ o4 o5 o6,kt.nx [some (aN A rs fs),some (.lst (bx rs.length v)),some (.lst (iv.map D.bl)),some (.int (yi (dS (aT rs)) v I)),o4,o5,o6] S)->
      cE N (bG 2 (aE (bG 2 (aE (av 4) (aE (av 5) (bH)))) (aE (av 6) (bH)))) (tw A) ((List.range' j r).map λi=>.tup [eV (ak rs) (rs.getD i zL),.int (v i)]) [some (aN A rs fs),some (.lst (bx rs.length v)),some (.lst (iv.map D.bl)),some (.int (aL (λi=>v i * (ind (I ((dS (aT rs)).s i)) - ind (I ((dS (aT rs)).t i)))) j)),o4,o5,o6] S kt:=λN hN r=>by
    induction r with
    | zero=>
      intro j o4 o5 o6 kt hj hk
      have:j=rs.length:=by omega
      subst this
      unfold yi at hk
      rw [hm] at hk
      exact ⟨hN,hk _ _ _⟩
    | succ r ih=>
      intro j o4 o5 o6 kt hj hk
      have hlt:j < rs.length:=by omega
      have hmem:rs.getD j zL∈rs:=getD_mem hlt
      have p1:pos (rs.getD j zL).2.1 (ak rs) < (ak rs).length:=sC hmem
      have p2:pos (rs.getD j zL).2.2 (ak rs) < (ak rs).length:=nQ hmem
      have i1:∀ S,aH S (.lst (iv.map D.bl)) (.int ((pos (rs.getD j zL).2.1 (ak rs):Nat):Int))=some (.bl (I (pos (rs.getD j zL).2.1 (ak rs)))):=λS=>by
        rw [jO (f:=D.bl) (z:=false) (by omega),hI _ p1]
      have i2:∀ S,aH S (.lst (iv.map D.bl)) (.int ((pos (rs.getD j zL).2.2 (ak rs):Nat):Int))=some (.bl (I (pos (rs.getD j zL).2.2 (ak rs)))):=λS=>by
        rw [jO (f:=D.bl) (z:=false) (by omega),hI _ p2]
      have es:(dS (aT rs)).s j=pos (rs.getD j zL).2.1 (ak rs):=congrArg (·.1) (xH hlt)
      have et:(dS (aT rs)).t j=pos (rs.getD j zL).2.2 (ak rs):=congrArg (·.2) (xH hlt)
      have ih':=ih (j+1) (some (.int (pos (rs.getD j zL).2.1 (ak rs):Nat))) (some (.int (pos (rs.getD j zL).2.2 (ak rs):Nat))) (some (.int (v j))) kt (by omega) hk
      have e5:aL (λi=>v i * (ind (I ((dS (aT rs)).s i)) - ind (I ((dS (aT rs)).t i)))) (j+1)=aL (λi=>v i * (ind (I ((dS (aT rs)).s i)) - ind (I ((dS (aT rs)).t i)))) j+v j * (ind (I (pos (rs.getD j zL).2.1 (ak rs))) - ind (I (pos (rs.getD j zL).2.2 (ak rs)))):=by
        conv=>lhs; unfold aL
        rw [es,et]
      rw [e5] at ih'
      generalize aL (λi=>v i * (ind (I ((dS (aT rs)).s i)) - ind (I ((dS (aT rs)).t i)))) j=c at ih' ⊢
      rw [List.range'_succ,List.map_cons]
      refine gR λF hF=>⟨hN,?_⟩
      unfold tw
      unfold eV
      cases h1:I (pos (rs.getD j zL).2.1 (ak rs)) <;> cases h2:I (pos (rs.getD j zL).2.2 (ak rs)) <;> rw [h1,h2] at ih'
      · rw [show c+v j * (ind false - ind false)=c by simp [ind]] at ih'
        simp? [i1,i2,h1,h2]
        rw [hF]
        exact ih'
      · rw [show c+v j * (ind false - ind true)=c - v j by simp [ind]; omega] at ih'
        simp? [i1,i2,h1,h2,Kl]
        rw [hF]
        exact ih'
      · rw [show c+v j * (ind true - ind false)=c+v j by simp [ind]] at ih'
        simp? [i1,i2,h1,h2,Kl]
        rw [hF]
        exact ih'
      · rw [show c+v j * (ind true - ind true)=c by simp [ind]] at ih'
        simp? [i1,i2,h1,h2]
        rw [hF]
        exact ih'
  rw [DA]
  unfold aG aM
  simp only [List.map_cons,List.map_nil,List.length_cons,List.length_nil,Nat.reduceAdd,Nat.reduceSub,List.replicate,List.cons_append,List.nil_append,List.append_nil,Nat.zero_add]
  unfold yI
  refine ay λN_ hN_=>?_
  simp? []
  subst hN_
  refine ay λN_ hN_=>?_
  simp? [iZip,eZ]
  refine o_ hL ?_
  simp? [oE,ez]
  refine go _ (by first | trivial | exact ⟨trivial,trivial⟩) rs.length 0 none none none _ (by omega) λo4 o5 o6=>?_
  dsimp only
  subst hN_
  simp? []
  exact hq
end
end RV
end
section
namespace RV
open PySem L2
theorem VY {S:WS} {k:Nat} {ds:List D} (h:S[k]? =some (.lst ds)):j4 S [.cell k]=some (.tup ds):=by
  unfold j4
  simp [br,h]
end RV
end
section
namespace RV
open PySem L2
theorem vR:∀ (ks:List Bool) (j:Nat),gS j (ks.map D.bl)=(List.range' j ks.length).map λi=>.tup [.int (i:Nat),.bl (ks.getD (i - j) false)]
  | [],j=>rfl
  | k :: ks,j=>by
    rw [List.map_cons]
    unfold gS
    rw [vR ks (j+1),List.length_cons,List.range'_succ,List.map_cons,Nat.sub_self]
    refine congrArg (List.cons _) (List.map_congr_left λi hi=>?_)
    have hj:j+1≤i:=(List.mem_range'_1.mp hi).1
    rw [show i - j=(i - (j+1))+1 by omega]
    rfl
theorem map_getD {α β:Type} {f:α->β} {xs:List α} {i:Nat} {z:α} {y:β} (h:i < xs.length):(xs.map f).getD i y=f (xs.getD i z):=by
  rw [List.getD_eq_getElem?_getD,List.getElem?_map,List.getElem?_eq_getElem h,iZ h]
  rfl
theorem range_getD {β:Type} {f:Nat->β} {m i:Nat} {y:β} (h:i < m):((List.range m).map f).getD i y=f i:=by
  rw [List.getD_eq_getElem?_getD,List.getElem?_map,List.getElem?_range h]
  rfl
theorem lD {m:Nat} {f g:Nat->Int} (h:∀ i,i < m->f i=g i):bx m f=bx m g:=List.map_congr_left λi hi=>by rw [h i (List.mem_range.mp hi)]
section
variable {A:Ad} {S:WS} {q:D->WS->Prop} {x:Xq} {rs:List LR} {fs:List FR} {ks:List Bool} {kv:D} {f:Nat->Int} {os:List (Option Int)} {c:Nat}
theorem OX {k:Nat} (hL:bw rs) (hk:S[k]? =some (.lst (bx rs.length f))) (hz:∀ y,y < (ak rs).length->aL (gy rs f y) rs.length=0) (hq:q (.bl true) S):fJ A [aN A rs fs,.cell k] S q x:=by
  have h12:=hL.hi
  have hP:=j8 h12
  have hkl:k < S.length:=by
    rcases Nat.lt_or_ge k S.length with h | h
    · exact h
    · rw [List.getElem?_eq_none h] at hk
      cases hk
  have hk2:∀ T:WS,(S++T)[k]? =some (.lst (bx rs.length f)):=λT=>by rw [List.getElem?_append_left hkl]; exact hk
  rw [nO]
  unfold aG aM
  simp only [List.map_cons,List.map_nil,List.length_cons,List.length_nil,Nat.reduceAdd,Nat.reduceSub,List.replicate,List.cons_append,List.nil_append,List.append_nil,Nat.zero_add]
  unfold lS
  refine ay λN_ hN_=>?_
  simp? [eZ]
  refine sR hL ?_
  simp? [List.length_map,aA (n:=(ak rs).length) (by omega)]
  rw [bM (inj:=D.str) (g:=λ_:Str=>D.int 0) _ trivial (λa ha=>⟨_,rfl,λq x=>rfl⟩)]
  simp? [gv (g:=λ_:Str=>D.int 0) (n:=0) (xs:=ak rs) (λ_ _=>rfl)]
  subst hN_
  have e0:((ak rs).map λ_=>D.int 0)=bx (ak rs).length λy=>aL (gy rs f y) 0:=by
    unfold bx
    refine List.ext_getElem (by simp) λi _ _=>?_
    simp [aL]
  rw [e0]
  refine ay λN_ hN_=>?_
  simp? [iZip,eZ]
  refine o_ hL ?_
  have ez:fS (rs.map (eV (ak rs))) (bx rs.length f)=(List.range' 0 rs.length).map λi=>.tup [eV (ak rs) (rs.getD i zL),.int (f i)]:=by
    rw [map_range (f:=eV (ak rs)) (z:=zL)]
    unfold bx
    rw [uI,nv]
  simp? [oE,ez,hk2]
  have go:∀ (N:WS->Prop),(∀ T,N (S++T))->∀ (r j:Nat) (o3 o4 o5:Option D) (kt:Kt),j+r=rs.length->
      (∀ o3 o4 o5,kt.nx [some (aN A rs fs),some (.cell k),some (.cell S.length),o3,o4,o5,none,none] (S++[.lst (bx (ak rs).length λy=>aL (gy rs f y) (j+r))]))->
      cE N (bG 2 (aE (bG 2 (aE (av 3) (aE (av 4) (bH)))) (aE (av 5) (bH)))) (iy A) ((List.range' j r).map λi=>.tup [eV (ak rs) (rs.getD i zL),.int (f i)]) [some (aN A rs fs),some (.cell k),some (.cell S.length),o3,o4,o5,none,none] (S++[.lst (bx (ak rs).length λy=>aL (gy rs f y) j)]) kt:=λN hN r=>by
    induction r with
    | zero=>
      intro j o3 o4 o5 kt _ hk
      exact ⟨hN _,hk o3 o4 o5⟩
    | succ r ih=>
      intro j o3 o4 o5 kt hj hk
      have hlt:j < rs.length:=by omega
      have hmem:rs.getD j zL∈rs:=getD_mem hlt
      have p1:pos (rs.getD j zL).2.1 (ak rs) < (ak rs).length:=sC hmem
      have p2:pos (rs.getD j zL).2.2 (ak rs) < (ak rs).length:=nQ hmem
      have pne:pos (rs.getD j zL).2.1 (ak rs)≠pos (rs.getD j zL).2.2 (ak rs):=λe=>(hL.rows _ hmem).ne (BG (h_.mpr ⟨_,hmem,.inr rfl⟩) (h_.mpr ⟨_,hmem,.inl rfl⟩) e.symm)
      have gt:∀ (g:Nat->Int) (y:Nat),y < (ak rs).length->ye (S++[.lst (bx (ak rs).length g)]) (.cell S.length) (.int (y:Int))=some (.int (g y)):=λg y hy=>by
        rw [IM (ds:=bx (ak rs).length g) bF (by omega),mS (by rw [iN]; exact hy),sV hy]
      have st:∀ (g:Nat->Int) (y:Nat) (a:Int),y < (ak rs).length->iU (.cell S.length) (.int (y:Int)) (.int a) (S++[.lst (bx (ak rs).length g)])=some (S++[.lst (bx (ak rs).length λk=>if k=y then a else g k)]):=λg y a hy=>by
        rw [gZ (ds:=bx (ak rs).length g) bF rfl]
        unfold ixN
        rw [if_pos (by omega),if_pos (by rw [iN]; omega),Option.map_some,cU,Int.toNat_natCast,xQ hy]
      rw [List.range'_succ,List.map_cons]
      refine gR λF hF=>⟨hN _,?_⟩
      unfold iy BA
      unfold eV
      simp? [gt _ _ p1,st _ _ _ p1]
      simp? [gt _ _ p2,st _ _ _ p2]
      rw [hF]
      rw [show j+(r+1)=j+1+r by omega] at hk
      have ih':=λo3 o4 o5=>ih (j+1) o3 o4 o5 kt (by omega) hk
      have ef:(λy=>aL (gy rs f y) (j+1))=λk=>if k=pos (rs.getD j zL).2.2 (ak rs) then (if pos (rs.getD j zL).2.2 (ak rs)=pos (rs.getD j zL).2.1 (ak rs) then aL (gy rs f (pos (rs.getD j zL).2.1 (ak rs))) j - f j else aL (gy rs f (pos (rs.getD j zL).2.2 (ak rs))) j)+f j else if k=pos (rs.getD j zL).2.1 (ak rs) then aL (gy rs f (pos (rs.getD j zL).2.1 (ak rs))) j - f j else aL (gy rs f k) j:=by
        funext y
        exact put2 (F:=λy=>aL (gy rs f y) j) (y:=y) (c:=f j) pne
      rw [ef] at ih'
      exact ih' _ _ _
  refine go _ (λT=>by first | exact ⟨trivial,hk2 T⟩ | exact hk2 T) rs.length 0 none none none _ (by omega) λo3 o4 o5=>?_
  dsimp only
  subst hN_
  rw [Nat.zero_add]
  simp? [bF,iN,aA (n:=(ak rs).length) (by omega)]
  unfold bx
  rw [bM (inj:=λy=>D.int (aL (gy rs f y) rs.length)) (g:=λy=>D.bl (decide (aL (gy rs f y) rs.length=0))) _ (by simp [Holds]) (λa ha=>⟨_,rfl,λq x=>by
    unfold mw
    simp? []⟩)]
  simp? [uy]
  rw [lZ rfl (λi h=>by cases h)]
  have al:((List.range (ak rs).length).all λy=>decide (aL (gy rs f y) rs.length=0))=true:=by
    rw [List.all_eq_true]
    intro y hy
    exact decide_eq_true (hz y (List.mem_range.mp hy))
  rw [al]
  exact hq
theorem Ny (hL:bw rs) (hl:os.length=rs.length) (hf:∀ y,y < (ak rs).length->bL (dS (aT rs)) f y=0)
    (hk:∀ i,i < rs.length->eX (aT rs) (ak rs).length (os.map (·.isNone)) i=false->f i=(os.getD i none).getD 0)
    (hq:q (.tup (bx rs.length f)) S):jd A [aN A rs fs,.lst (os.map bP)] S q x:=by
  have h12:=hL.hi
  have hP:=j8 h12
  have so:small (os.map bP).length=true:=aA (by rw [List.length_map]; omega)
  have tr:=uD (es:=aT rs) (n:=(ak rs).length) (ks:=os.map (·.isNone)) lA
  have hTk:∀ i,i < rs.length->eX (aT rs) (ak rs).length (os.map (·.isNone)) i=true->(os.getD i none).getD 0=0:=λi hi hT=>by
    have h1:=tr.kept (j:=i) (by show i < (aT rs).length; rw [eE]; exact hi) hT
    rw [map_getD (z:=none) (by omega)] at h1
    cases e:os.getD i none with
    | none=>rfl
    | some v=>rw [e] at h1; cases h1
  have hTd:∀ i,(dw (aT rs) (ak rs).length (os.map (·.isNone)) rs.length).getD i false=eX (aT rs) (ak rs).length (os.map (·.isNone)) i:=λi=>by
    unfold eX
    rw [eE]
  have hTl:(dw (aT rs) (ak rs).length (os.map (·.isNone)) rs.length).length=rs.length:=jY _
  have hfo:jK A [aN A rs fs,.lst ((os.map (·.isNone)).map D.bl)]=jK A [aN A rs fs,.lst ((os.map (·.isNone)).map D.bl)]:=rfl
  have hfG:=λ(S:WS) (q:D->WS->Prop) (x:Xq) (h:q (.lst ((dw (aT rs) (ak rs).length (os.map (·.isNone)) rs.length).map D.bl)) S)=>FD (A:=A) (S:=S) (q:=q) (x:=x) (fs:=fs) (ks:=os.map (·.isNone)) hL (by rw [List.length_map]; exact hl) h
  generalize dw (aT rs) (ak rs).length (os.map (·.isNone)) rs.length=tl at hTd hTl hfG
  have ev:(os.map λo=>D.int (o.getD 0))=bx rs.length λi=>(os.getD i none).getD 0:=by
    rw [map_range (f:=λo:Option Int=>D.int (o.getD 0)) (z:=none),hl]
    rfl
  have tx:∀ S i,i < rs.length->aH S (.lst (tl.map D.bl)) (.int (i:Int))=some (.bl (eX (aT rs) (ak rs).length (os.map (·.isNone)) i)):=λS i hi=>by
    rw [jO (f:=D.bl) (z:=false) (by omega),hTd]
  have tb:∀ i,tl.getD i false=eX (aT rs) (ak rs).length (os.map (·.isNone)) i:=hTd
  have hva:∀ e,e < rs.length->eX (aT rs) (ak rs).length (os.map (·.isNone)) e=true->∀ mk:List Nat,i6 (dS (aT rs)) (ak rs).length (λi=>eX (aT rs) (ak rs).length (os.map (·.isNone)) i && !decide (i=e)) (dS (aT rs)).m mk->
      f e=yi (dS (aT rs)) (λi=>(os.getD i none).getD 0) (λx=>decide (mk.getD x 0=mk.getD (pos (rs.getD e zL).2.2 (ak rs)) 0)):=λe he hT mk hm=>by
    have:=tr.val (n:=(ak rs).length) lA.gr hf (show e < (aT rs).length by rw [eE]; exact he) hT hm (g:=λi=>(os.getD i none).getD 0) λi hi=>by
      have hi':i < rs.length:=by
        have:i < (aT rs).length:=hi
        rwa [eE] at this
      cases hTi:eX (aT rs) (ak rs).length (os.map (·.isNone)) i with
      | true=>rw [if_pos rfl]; exact hTk i hi' hTi
      | false=>rw [if_neg (by decide)]; exact (hk i hi' hTi).symm
    rw [show (dS (aT rs)).t e=pos (rs.getD e zL).2.2 (ak rs) from congrArg (·.2) (xH he)] at this
    exact this
  generalize hT0:eX (aT rs) (ak rs).length (os.map (·.isNone))=T at hTd tx tb hva hTk hk
  generalize hv0:(λi=>(os.getD i none).getD 0)=v at ev hva
  have hk':∀ i,i < rs.length->T i=false->v i=f i:=λi hi h=>by rw [← hv0]; exact (hk i hi h).symm
  have go : ∀ (us:List LR) (j:Nat) (o5 o6 o7 o8:Option D) (kt:Kt),us=rs.drop j->j+us.length=rs.length->
      (∀ o5 o6 o7 o8,kt.nx [some (aN A rs fs),some (.lst (os.map bP)),some (.lst (tl.map D.bl)),some (.lst (bx rs.length v)),some (.cell S.length),o5,o6,o7,o8,none,none,none,none] (S++[.lst (bx rs.length f)]))->
      cE cB (bG 2 (aE (av 5) (aE (bG 2 (aE (av 6) (aE (av 7) (bH)))) (bH)))) (lQ A) (gS j (us.map (eV (ak rs)))) [some (aN A rs fs),some (.lst (os.map bP)),some (.lst (tl.map D.bl)),some (.lst (bx rs.length v)),some (.cell S.length),o5,o6,o7,o8,none,none,none,none] (S++[.lst (bx rs.length λi=>if i < j then f i else v i)]) kt:=λus=>by
    induction us with
    | nil=>
      intro j o5 o6 o7 o8 kt _ hj hk
      have ej:j=rs.length:=by simpa using hj
      refine ⟨trivial,?_⟩
      rw [lD (g:=f) λi hi=>if_pos (by omega)]
      exact hk _ _ _ _
    | cons r us ih=>
      intro j o5 o6 o7 o8 kt hu hj hk
      simp only [List.length_cons] at hj
      have hjl:j < rs.length:=by omega
      have er:rs.getD j zL=r:=by
        have:=congrArg (λl=>l[0]?) hu
        simp only [List.getElem?_cons_zero,List.getElem?_drop,Nat.add_zero] at this
        rw [List.getD_eq_getElem?_getD,← this,Option.getD_some]
      have hr:r∈rs:=by rw [← er]; exact getD_mem hjl
      have hus:us=rs.drop (j+1):=by
        have:=congrArg List.tail hu
        simpa using this
      have ih':=λo8=>ih (j+1) (some (.int (j:Int))) (some (.int (pos r.2.1 (ak rs):Nat))) (some (.int (pos r.2.2 (ak rs):Nat))) o8 kt hus (by omega) hk
      rw [List.map_cons]
      unfold gS
      refine gR λF hF=>⟨trivial,?_⟩
      unfold lQ
      unfold eV
      cases hTj:T j with
      | false=>
        simp? [tx _ j hjl,hTj]
        rw [hF]
        rw [lD (f:=λi=>if i < j then f i else v i) (g:=λi=>if i < j+1 then f i else v i) λi hi=>by
          by_cases e:i=j
          · subst e
            rw [if_neg (Nat.lt_irrefl i),if_pos (Nat.lt_succ_self i),hk' i hjl hTj]
          · by_cases e2:i < j
            · rw [if_pos e2,if_pos (by omega)]
            · rw [if_neg e2,if_neg (by omega)]]
        exact ih' _
      | true=>
        have hm:=xR (es:=aT rs) (n:=(ak rs).length) lA ((List.range rs.length).map λi=>T i && !decide (i=j))
        have hm2:i6 (dS (aT rs)) (ak rs).length (λi=>T i && !decide (i=j)) (dS (aT rs)).m (jR (aT rs) (ak rs).length ((List.range rs.length).map λi=>T i && !decide (i=j))):=hm.congr λi hi=>range_getD (by
          rw [eE] at hi
          exact hi)
        have hval:=hva j hjl hTj _ hm2
        have hml:=hm.len
        rw [er] at hval
        have hcg:=λ(S:WS) (kv:D) (h:Sq S kv (((List.range rs.length).map λi=>T i && !decide (i=j)).map D.bl)) (q:D->WS->Prop) (x:Xq)=>wz (A:=A) (S:=S) (fs:=fs) (kv:=kv) (q:=q) (x:=x) hL h
        generalize jR (aT rs) (ak rs).length ((List.range rs.length).map λi=>T i && !decide (i=j))=mk at hval hml hcg
        have p2:pos r.2.2 (ak rs) < mk.length:=by rw [hml]; exact nQ hr
        simp? [tx _ j hjl,hTj,EV,IX,mE,List.length_map,hTl,aA (n:=rs.length) (by omega)]
        rw [vR,hTl]
        rw [bM (inj:=λi:Nat=>D.tup [.int (i:Nat),.bl (tl.getD (i - 0) false)]) (g:=λi:Nat=>D.bl (T i && !decide (i=j))) _ trivial (λi hi=>⟨_,rfl,λq x=>by
          unfold rW
          rw [Nat.sub_zero,tb]
          cases hTi:T i with
          | false=>simp? [Bool.false_and]
          | true=>simp? [qp,Bool.true_and]⟩)]
        rw [← nv]
        simp? []
        refine hcg _ (.lst _) ?_ _ _ ?_
        · rw [List.map_map]
          exact Sq.lst
        simp? [List.length_map,aA (n:=mk.length) (by omega)]
        rw [bM (inj:=bX) (g:=λm:Nat=>D.bl (decide (m=mk.getD (pos r.2.2 (ak rs)) 0))) _ trivial (λm hm=>⟨_,rfl,λq x=>by
          unfold rB
          simp? [Jr,BB p2,qp]⟩)]
        have ei:(mk.map λm:Nat=>D.bl (decide (m=mk.getD (pos r.2.2 (ak rs)) 0)))=(mk.map λm:Nat=>decide (m=mk.getD (pos r.2.2 (ak rs)) 0)).map D.bl:=by rw [List.map_map]; rfl
        rw [ei]
        refine G8 (v:=v) (I:=λy=>decide (mk.getD y 0=mk.getD (pos r.2.2 (ak rs)) 0)) hL (by rw [List.length_map]; exact hml) (λy hy=>map_getD (z:=(0:Nat)) (by omega)) ?_
        rw [← hval]
        have st:iU (.cell S.length) (.int (j:Int)) (.int (f j)) (S++[.lst (bx rs.length λi=>if i < j then f i else v i)])=some (S++[.lst (bx rs.length λi=>if i < j+1 then f i else v i)]):=by
          rw [gZ (ds:=bx rs.length λi=>if i < j then f i else v i) bF rfl]
          unfold ixN
          rw [if_pos (by omega),if_pos (by rw [iN]; omega),Option.map_some,cU,Int.toNat_natCast,xQ hjl]
          rw [lD (g:=λi=>if i < j+1 then f i else v i) λi hi=>by
            by_cases e:i=j
            · subst e
              rw [if_pos rfl,if_pos (by omega)]
            · by_cases e2:i < j
              · rw [if_neg e,if_pos e2,if_pos (by omega)]
              · rw [if_neg e,if_neg e2,if_neg (by omega)]]
        simp? [st]
        rw [hF]
        exact ih' _
  have bz:∀ y,y < (ak rs).length->aL (gy rs f y) rs.length=0:=λy hy=>by rw [← xP]; exact hf y hy
  rw [wC]
  unfold aG aM
  simp only [List.map_cons,List.map_nil,List.length_cons,List.length_nil,Nat.reduceAdd,Nat.reduceSub,List.replicate,List.cons_append,List.nil_append,List.append_nil,Nat.zero_add]
  unfold qM
  refine ay λN_ hN_=>?_
  simp? [so]
  rw [bM (inj:=bP) (g:=λo:Option Int=>D.bl o.isNone) _ trivial (λo ho=>⟨_,rfl,λq x=>by
    unfold r8
    simp? [LK,Bool.false_eq_true,if_false]⟩)]
  have e1:(os.map λo:Option Int=>D.bl o.isNone)=(os.map (·.isNone)).map D.bl:=by rw [List.map_map]; rfl
  rw [e1]
  simp? []
  refine hfG _ _ _ ?_
  simp? []
  subst hN_
  refine ay λN_ hN_=>?_
  simp? [so]
  rw [bM (inj:=bP) (g:=λo:Option Int=>D.int (o.getD 0)) _ trivial (λo ho=>⟨_,rfl,λq x=>by
    unfold r9
    cases o with
    | none=>  simp? [bP]
              rfl
    | some v=>  simp? [bP,qb]
                rfl⟩)]
  rw [ev]
  simp? []
  subst hN_
  refine ay λN_ hN_=>?_
  simp? [DR,qN,br,show D.cg 0 (bx rs.length v)=true from gv λ_ _=>rfl]
  subst hN_
  refine ay λN_ hN_=>?_
  simp? [eZ]
  refine o_ hL ?_
  simp? []
  have e2:bx rs.length v=bx rs.length λi=>if i < 0 then f i else v i:=lD λi hi=>(if_neg (by omega)).symm
  have gg:=go rs 0 none none none none
  rw [← e2] at gg
  refine gg _ rfl (by omega) λo5 o6 o7 o8=>?_
  dsimp only
  subst hN_
  simp? []
  refine OX hL bF bz ?_
  simp? [VY bF]
  rw [lZ (by simp only [D.clean]; exact gv λ_ _=>rfl) (λi z=>by cases z)]
  exact hq
end
end RV
end
section
namespace RV
open PySem L2
def vZ (rs:List LR):List Bool:=rs.map λ_=>true
def eO (rs:List LR):Nat->Bool:=eX (aT rs) (ak rs).length (vZ rs)
def jv (rs:List LR):List Nat:=(List.range rs.length).filter λc=>!eO rs c
open Classical in
def l9 (rs:List LR) (c:Nat):Nat->Int:=if h:∃ f,CG (dS (aT rs)) (ak rs).length (eO rs) c f then h.choose else λ_=>0
theorem ET {rs:List LR} {c:Nat}:c∈jv rs↔c < rs.length∧eO rs c=false:=by
  unfold jv
  rw [List.mem_filter,List.mem_range]
  simp
theorem T7 {rs:List LR} {i:Nat} (h:i < rs.length):(vZ rs).getD i false=true:=map_getD (z:=zL) h
theorem DP {rs:List LR} {c:Nat} (h:c∈jv rs):CG (dS (aT rs)) (ak rs).length (eO rs) c (l9 rs c):=by
  obtain ⟨h1,h2⟩:=ET.mp h
  have ex:∃ f,CG (dS (aT rs)) (ak rs).length (eO rs) c f:=Kd (es:=aT rs) (n:=(ak rs).length) (ks:=vZ rs) lA (by rw [eE]; exact h1) (T7 h1) h2
  unfold l9
  rw [dif_pos ex]
  exact ex.choose_spec
section
variable {A:Ad} {S:WS} {q:D->WS->Prop} {x:Xq} {rs:List LR} {fs:List FR} {ts:List PR} {f g:Nat->Int} {c m p:Nat} {r:LR} {nm:Str}
theorem GX:((dw (aT rs) (ak rs).length (vZ rs) rs.length))=(List.range rs.length).map (eO rs):=by
  refine List.ext_getElem (by rw [jY]; simp) λi h1 h2=>?_
  rw [jY] at h1
  rw [List.getElem_map,List.getElem_range]
  unfold eO eX
  rw [eE,iZ (by rw [jY]; exact h1)]
theorem NC (hc:c∈jv rs):∀ i,i < rs.length->eX (aT rs) (ak rs).length (((List.range rs.length).map λi=>if eO rs i then none else some (if i=c then (1:Int) else 0)).map (·.isNone)) i=false->
    l9 rs c i=(((List.range rs.length).map λi=>if eO rs i then none else some (if i=c then (1:Int) else 0)).getD i none).getD 0:=λi hi hT=>by
  have e1:(((List.range rs.length).map λi=>if eO rs i then none else some (if i=c then (1:Int) else 0)).map (·.isNone))=dw (aT rs) (ak rs).length (vZ rs) rs.length:=by
    rw [GX,List.map_map]
    refine List.map_congr_left λk _=>?_
    show (if eO rs k then none else some (if k=c then (1:Int) else 0)).isNone=eO rs k
    cases eO rs k <;> rfl
  have e2:eX (aT rs) (ak rs).length (dw (aT rs) (ak rs).length (vZ rs) rs.length) i=eO rs i:=by
    unfold eO eX
    have:=KA (es:=aT rs) (n:=(ak rs).length) (ks:=vZ rs) lA (aT rs).length (Nat.le_refl _)
    rw [← eE (rs:=rs),this]
  rw [e1,e2] at hT
  rw [range_getD hi,hT,if_neg (by decide),Option.getD_some]
  by_cases e:i=c
  · subst e
    rw [if_pos rfl]
    exact (DP hc).one
  · rw [if_neg e]
    exact (DP hc).out i hT e
def EW (rs:List LR) (c:Nat):D:=.tup [.int (c:Nat),.lst (bx rs.length (l9 rs c))]
theorem Cc (hL:bw rs) (hq:q (.lst ((jv rs).map (EW rs))) S):lg A [aN A rs fs] S q x:=by
  have h12:=hL.hi
  have hP:=j8 h12
  have spv:small (rs.map (pv A)).length=true:=aA (by rw [List.length_map]; omega)
  have lT:∀ S,bQ S [.lst (((List.range rs.length).map (eO rs)).map D.bl)]=some (.int (rs.length:Nat)):=λS=>by simp [bQ,br]
  have tx:∀ S i,i < rs.length->aH S (.lst (((List.range rs.length).map (eO rs)).map D.bl)) (.int (i:Int))=some (.bl (eO rs i)):=λS i hi=>by
    rw [jO (f:=D.bl) (z:=false) (by simpa using hi),range_getD hi]
  have go : ∀ (r j:Nat) (o3 o4:Option D) (kt:Kt),j+r=rs.length->
      (∀ o3 o4,kt.nx [some (aN A rs fs),some (.lst (((List.range rs.length).map (eO rs)).map D.bl)),some (.cell S.length),o3,o4,none,none] (S++[.lst ((jv rs).map (EW rs))]))->
      cE cB (av 3) (qj A) ((List.range' j r).map λ(i:Nat)=>D.int (i:Int)) [some (aN A rs fs),some (.lst (((List.range rs.length).map (eO rs)).map D.bl)),some (.cell S.length),o3,o4,none,none] (S++[.lst (((List.range j).filter λc=>!eO rs c).map (EW rs))]) kt:=λr=>by
    induction r with
    | zero=>
      intro j o3 o4 kt hj hk
      have:j=rs.length:=by omega
      subst this
      exact ⟨trivial,hk _ _⟩
    | succ r ih=>
      intro j o3 o4 kt hj hk
      have hjl:j < rs.length:=by omega
      have ih':=λo4=>ih (j+1) (some (.int (j:Int))) o4 kt (by omega) hk
      rw [List.range_succ,List.filter_append] at ih'
      have hfl:=List.length_filter_le (λc=>!eO rs c) (List.range j)
      rw [List.length_range] at hfl
      rw [List.range'_succ,List.map_cons]
      refine lE trivial λF hF=>?_
      unfold qj
      cases hT:eO rs j with
      | true=>
        rw [List.filter_cons_of_neg (by simp [hT]),List.filter_nil,List.append_nil] at ih'
        simp? [tx _ j hjl,hT]
        rw [hF]
        exact ih' _
      | false =>
        rw [List.filter_cons_of_pos (by simp [hT]),List.filter_nil,List.map_append] at ih'
        have hc:j∈jv rs:=ET.mpr ⟨hjl,hT⟩
        simp? [tx _ j hjl,hT,lT]
        refine ⟨⟨by omega,by omega⟩,?_⟩
        rw [jL]
        simp? [aA (n:=((List.range rs.length).map λ(i:Nat)=>D.int (i:Int)).length) (by simp; omega)]
        rw [bM (inj:=λi:Nat=>D.int (i:Int)) (g:=λi:Nat=>bP (if eO rs i then none else some (if i=j then (1:Int) else 0))) _ trivial (λi hi=>⟨_,rfl,λq x=>by
          unfold wW
          have hi':=List.mem_range.mp hi
          cases hTi:eO rs i with
          | true=>simp? [tx _ i hi',hTi,bP]
          | false=>
            simp? [tx _ i hi',hTi,qp,bP,Iw]
            by_cases e:i=j
            · rw [decide_eq_true e,if_pos e]
              rfl
            · rw [decide_eq_false e,if_neg e]
              rfl⟩)]
        have eo:((List.range rs.length).map λi:Nat=>bP (if eO rs i then none else some (if i=j then (1:Int) else 0)))=((List.range rs.length).map λi=>if eO rs i then none else some (if i=j then (1:Int) else 0)).map bP:=by rw [List.map_map]; rfl
        rw [eo]
        simp? [bF]
        refine Ny (f:=l9 rs j) hL (by simp) (λy hy=>(DP hc).fl y hy) (NC hc) ?_
        have hl2:∀ S,qN S [.tup (bx rs.length (l9 rs j))]=some (.lst (bx rs.length (l9 rs j))):=λS=>rfl
        have hcr:D.clean 0 (.tup [.int (j:Int),.lst (bx rs.length (l9 rs j))])=true:=by
          simp only [D.clean,D.cg,Bool.true_and,Bool.and_true]
          exact gv λ_ _=>rfl
        simp? [hl2,bF,cU,hcr,List.length_map,aA (n:=((List.range j).filter λc=>!eO rs c).length) (by omega)]
        rw [hF]
        exact ih' _
  rw [Az]
  unfold aG aM
  simp only [List.map_cons,List.map_nil,List.length_cons,List.length_nil,Nat.reduceAdd,Nat.reduceSub,List.replicate,List.cons_append,List.nil_append,List.append_nil,Nat.zero_add]
  unfold uF
  refine ay λN_ hN_=>?_
  simp? [eZ,zX,spv]
  rw [bM (inj:=pv A) (g:=λ_:LR=>D.bl true) _ trivial (λr hr=>⟨_,rfl,λq x=>rfl⟩)]
  have e1:(rs.map λ_:LR=>D.bl true)=(vZ rs).map D.bl:=by unfold vZ; rw [List.map_map]; rfl
  rw [e1]
  simp? []
  refine FD hL (by simp [vZ]) ?_
  rw [GX]
  simp? []
  subst hN_
  refine ay λN_ hN_=>?_
  simp? [D.cg]
  subst hN_
  refine ay λN_ hN_=>?_
  simp? [lT]
  refine ⟨⟨by omega,by omega⟩,?_⟩
  rw [jL,show ((List.range rs.length).map λ(i:Nat)=>D.int (i:Int))=(List.range' 0 rs.length).map λ(i:Nat)=>D.int (i:Int) from by rw [nv]]
  have gg:=go rs.length 0 none none
  refine gg _ (by omega) λo3 o4=>?_
  dsimp only
  subst hN_
  simp? []
  rw [pW]
  exact hq
end
end RV
end
section
namespace RV
open PySem L2
def Dt (rs:List LR) (f:Nat->Int):Bool:=(List.range (ak rs).length).all λy=>decide (aL (gy rs f y) rs.length=0)
def oi (rs:List LR) (os:List (Option Int)):Nat->Int:=λe=>if eX (aT rs) (ak rs).length (os.map (·.isNone)) e=true then
  yi (dS (aT rs)) (λi=>(os.getD i none).getD 0) (λx=>decide ((jR (aT rs) (ak rs).length ((List.range rs.length).map λi=>eX (aT rs) (ak rs).length (os.map (·.isNone)) i && !decide (i=e))).getD x 0=(jR (aT rs) (ak rs).length ((List.range rs.length).map λi=>eX (aT rs) (ak rs).length (os.map (·.isNone)) i && !decide (i=e))).getD (pos (rs.getD e zL).2.2 (ak rs)) 0))
  else (os.getD e none).getD 0
def j9 (rs:List LR) (f:Nat->Int):Prop:=∀ y,y < (ak rs).length->bL (dS (aT rs)) f y=0
def v8 (os:List (Option Int)) (f:Nat->Int):Prop:=∀ i v,os.getD i none=some v->f i=v
section
variable {A:Ad} {S:WS} {q:D->WS->Prop} {x:Xq} {rs:List LR} {fs:List FR} {ks:List Bool} {kv:D} {f g:Nat->Int} {os:List (Option Int)} {c:Nat}
theorem TR {G:Gr} {f:Nat->Int} {c:Int} {x:Nat}:bL G (λi=>c * f i) x=c * bL G f x:=by
  unfold bL
  rw [← zV]
  refine aY λi _=>?_
  rw [Int.mul_sub]
  congr 1 <;> split <;> simp
theorem LW {G:Gr} {f g:Nat->Int} {x:Nat} (h:∀ i,i < G.m->f i=g i):bL G f x=bL G g x:=by
  unfold bL
  exact aY λi hi=>by rw [h i hi]
theorem Fx:Dt rs f=true↔j9 rs f:=by
  unfold Dt j9
  rw [List.all_eq_true]
  constructor
  · intro h y hy
    rw [xP]
    exact of_decide_eq_true (h y (List.mem_range.mpr hy))
  · intro h y hy
    have:=h y (List.mem_range.mp hy)
    rw [xP] at this
    exact decide_eq_true this
theorem LH (hl:os.length=rs.length):v8 os (oi rs os):=λi v hv=>by
  have hi:i < os.length:=by
    refine Nat.lt_of_not_le λh=>?_
    rw [List.getD_eq_getElem?_getD,List.getElem?_eq_none h] at hv
    cases hv
  have hT:eX (aT rs) (ak rs).length (os.map (·.isNone)) i=false:=by
    cases h:eX (aT rs) (ak rs).length (os.map (·.isNone)) i with
    | false=>rfl
    | true=>
      have h1:=(uD (es:=aT rs) (n:=(ak rs).length) (ks:=os.map (·.isNone)) lA).kept (j:=i) (by show i < (aT rs).length; rw [eE]; omega) h
      rw [map_getD (z:=none) hi,hv] at h1
      cases h1
  unfold oi
  rw [if_neg (by rw [hT]; decide),hv]
  rfl
theorem TQ (hl:os.length=rs.length) (hg:j9 rs g) (ha:v8 os g):j9 rs (oi rs os):=by
  have tr:=uD (es:=aT rs) (n:=(ak rs).length) (ks:=os.map (·.isNone)) lA
  have hring:=λc (hc:c < (aT rs).length) (hk:(os.map (·.isNone)).getD c false=true) (hT:eX (aT rs) (ak rs).length (os.map (·.isNone)) c=false)=>Kd (es:=aT rs) (n:=(ak rs).length) (ks:=os.map (·.isNone)) lA hc hk hT
  have away : ∀ j,j≤rs.length->∃ h,j9 rs h∧v8 os h∧∀ i,i < j->eX (aT rs) (ak rs).length (os.map (·.isNone)) i=false->h i=(os.getD i none).getD 0:=λj=>by
    induction j with
    | zero=>exact λ_=>⟨g,hg,ha,λi hi=>absurd hi (Nat.not_lt_zero _)⟩
    | succ j ih=>
      intro hj
      obtain ⟨h,h1,h2,h3⟩:=ih (by omega)
      by_cases hc:eX (aT rs) (ak rs).length (os.map (·.isNone)) j=false∧os.getD j none=none
      · obtain ⟨r,hr⟩:=hring j (by rw [eE]; omega) (by rw [map_getD (z:=none) (by omega),hc.2]; rfl) hc.1
        refine ⟨λi=>h i+ -h j * r i,λy hy=>?_,λi v hv=>?_,λi hi hT=>?_⟩
        · have e1:=m6 (G:=dS (aT rs)) (f:=h) (g:=λi=>-h j * r i) (x:=y)
          have e2:=TR (G:=dS (aT rs)) (f:=r) (c:=-h j) (x:=y)
          rw [e1,e2,h1 y hy,hr.fl y hy]
          omega
        · have hT:eX (aT rs) (ak rs).length (os.map (·.isNone)) i=false:=by
            have hi:i < os.length:=by
              refine Nat.lt_of_not_le λh=>?_
              rw [List.getD_eq_getElem?_getD,List.getElem?_eq_none h] at hv
              cases hv
            cases h:eX (aT rs) (ak rs).length (os.map (·.isNone)) i with
            | false=>rfl
            | true=>
              have h1:=tr.kept (j:=i) (by show i < (aT rs).length; rw [eE]; omega) h
              rw [map_getD (z:=none) hi,hv] at h1
              cases h1
          have hne:i≠j:=λe=>by rw [e,hc.2] at hv; cases hv
          show h i+ -h j * r i=v
          rw [hr.out i hT hne,h2 i v hv]
          omega
        · show h i+ -h j * r i=_
          by_cases e:i=j
          · subst e
            rw [hr.one,hc.2]
            show h i+ -h i * 1=0
            omega
          · rw [hr.out i hT e,h3 i (by omega) hT]
            omega
      · refine ⟨h,h1,h2,λi hi hT=>?_⟩
        by_cases e:i=j
        · subst e
          cases ho:os.getD i none with
          | none=>exact absurd ⟨hT,ho⟩ hc
          | some v=>exact h2 i v ho
        · exact h3 i (by omega) hT
  obtain ⟨h,h1,h2,h3⟩:=away rs.length (Nat.le_refl _)
  have same:∀ i,i < rs.length->oi rs os i=h i:=λi hi=>by
    cases hT:eX (aT rs) (ak rs).length (os.map (·.isNone)) i with
    | false=>
      unfold oi
      rw [if_neg (by rw [hT]; decide),h3 i hi hT]
    | true=>
      have hm:=xR (es:=aT rs) (n:=(ak rs).length) lA ((List.range rs.length).map λk=>eX (aT rs) (ak rs).length (os.map (·.isNone)) k && !decide (k=i))
      have hm2:i6 (dS (aT rs)) (ak rs).length (λk=>eX (aT rs) (ak rs).length (os.map (·.isNone)) k && !decide (k=i)) (dS (aT rs)).m (jR (aT rs) (ak rs).length ((List.range rs.length).map λk=>eX (aT rs) (ak rs).length (os.map (·.isNone)) k && !decide (k=i))):=hm.congr λk hk=>range_getD (by
        rw [eE] at hk
        exact hk)
      have:=tr.val (n:=(ak rs).length) lA.gr h1 (show i < (aT rs).length by rw [eE]; exact hi) hT hm2 (g:=λk=>(os.getD k none).getD 0) λk hk=>by
        have hk':k < rs.length:=by
          have:k < (aT rs).length:=hk
          rwa [eE] at this
        cases hTk:eX (aT rs) (ak rs).length (os.map (·.isNone)) k with
        | true=>
          rw [if_pos rfl]
          have h4:=tr.kept (j:=k) (by show k < (aT rs).length; rw [eE]; exact hk') hTk
          rw [map_getD (z:=none) (by omega)] at h4
          show (os.getD k none).getD 0=0
          cases e:os.getD k none with
          | none=>rfl
          | some v=>rw [e] at h4; cases h4
        | false=>rw [if_neg (by decide)]; exact (h3 k hk' hTk).symm
      rw [show (dS (aT rs)).t i=pos (rs.getD i zL).2.2 (ak rs) from congrArg (·.2) (xH hi)] at this
      unfold oi
      rw [if_pos hT]
      exact this.symm
  intro y hy
  rw [← h1 y hy]
  refine LW λi hi=>same i ?_
  have:i < (aT rs).length:=hi
  rwa [eE] at this
theorem Uo (hl:os.length=rs.length):Dt rs (oi rs os)=true↔∃ g,j9 rs g∧v8 os g:=
  ⟨λh=>⟨_,Fx.mp h,LH hl⟩,λ⟨_,h1,h2⟩=>Fx.mpr (TQ hl h1 h2)⟩
theorem O_ {k:Nat} (hL:bw rs) (hk:S[k]? =some (.lst (bx rs.length f))) (hq:q (.bl (Dt rs f)) S):fJ A [aN A rs fs,.cell k] S q x:=by
  have h12:=hL.hi
  have hP:=j8 h12
  have hkl:k < S.length:=by
    rcases Nat.lt_or_ge k S.length with h | h
    · exact h
    · rw [List.getElem?_eq_none h] at hk
      cases hk
  have hk2:∀ T:WS,(S++T)[k]? =some (.lst (bx rs.length f)):=λT=>by rw [List.getElem?_append_left hkl]; exact hk
  rw [nO]
  unfold aG aM
  simp only [List.map_cons,List.map_nil,List.length_cons,List.length_nil,Nat.reduceAdd,Nat.reduceSub,List.replicate,List.cons_append,List.nil_append,List.append_nil,Nat.zero_add]
  unfold lS
  refine ay λN_ hN_=>?_
  simp? [eZ]
  refine sR hL ?_
  simp? [List.length_map,aA (n:=(ak rs).length) (by omega)]
  rw [bM (inj:=D.str) (g:=λ_:Str=>D.int 0) _ trivial (λa ha=>⟨_,rfl,λq x=>rfl⟩)]
  simp? [gv (g:=λ_:Str=>D.int 0) (n:=0) (xs:=ak rs) (λ_ _=>rfl)]
  subst hN_
  have e0:((ak rs).map λ_=>D.int 0)=bx (ak rs).length λy=>aL (gy rs f y) 0:=by
    unfold bx
    refine List.ext_getElem (by simp) λi _ _=>?_
    simp [aL]
  rw [e0]
  refine ay λN_ hN_=>?_
  simp? [iZip,eZ]
  refine o_ hL ?_
  have ez:fS (rs.map (eV (ak rs))) (bx rs.length f)=(List.range' 0 rs.length).map λi=>.tup [eV (ak rs) (rs.getD i zL),.int (f i)]:=by
    rw [map_range (f:=eV (ak rs)) (z:=zL)]
    unfold bx
    rw [uI,nv]
  simp? [oE,ez,hk2]
  have go:∀ (N:WS->Prop),(∀ T,N (S++T))->∀ (r j:Nat) (o3 o4 o5:Option D) (kt:Kt),j+r=rs.length->
      (∀ o3 o4 o5,kt.nx [some (aN A rs fs),some (.cell k),some (.cell S.length),o3,o4,o5,none,none] (S++[.lst (bx (ak rs).length λy=>aL (gy rs f y) (j+r))]))->
      cE N (bG 2 (aE (bG 2 (aE (av 3) (aE (av 4) (bH)))) (aE (av 5) (bH)))) (iy A) ((List.range' j r).map λi=>.tup [eV (ak rs) (rs.getD i zL),.int (f i)]) [some (aN A rs fs),some (.cell k),some (.cell S.length),o3,o4,o5,none,none] (S++[.lst (bx (ak rs).length λy=>aL (gy rs f y) j)]) kt:=λN hN r=>by
    induction r with
    | zero=>
      intro j o3 o4 o5 kt _ hk
      exact ⟨hN _,hk o3 o4 o5⟩
    | succ r ih=>
      intro j o3 o4 o5 kt hj hk
      have hlt:j < rs.length:=by omega
      have hmem:rs.getD j zL∈rs:=getD_mem hlt
      have p1:pos (rs.getD j zL).2.1 (ak rs) < (ak rs).length:=sC hmem
      have p2:pos (rs.getD j zL).2.2 (ak rs) < (ak rs).length:=nQ hmem
      have pne:pos (rs.getD j zL).2.1 (ak rs)≠pos (rs.getD j zL).2.2 (ak rs):=λe=>(hL.rows _ hmem).ne (BG (h_.mpr ⟨_,hmem,.inr rfl⟩) (h_.mpr ⟨_,hmem,.inl rfl⟩) e.symm)
      have gt:∀ (g:Nat->Int) (y:Nat),y < (ak rs).length->ye (S++[.lst (bx (ak rs).length g)]) (.cell S.length) (.int (y:Int))=some (.int (g y)):=λg y hy=>by
        rw [IM (ds:=bx (ak rs).length g) bF (by omega),mS (by rw [iN]; exact hy),sV hy]
      have st:∀ (g:Nat->Int) (y:Nat) (a:Int),y < (ak rs).length->iU (.cell S.length) (.int (y:Int)) (.int a) (S++[.lst (bx (ak rs).length g)])=some (S++[.lst (bx (ak rs).length λk=>if k=y then a else g k)]):=λg y a hy=>by
        rw [gZ (ds:=bx (ak rs).length g) bF rfl]
        unfold ixN
        rw [if_pos (by omega),if_pos (by rw [iN]; omega),Option.map_some,cU,Int.toNat_natCast,xQ hy]
      rw [List.range'_succ,List.map_cons]
      refine gR λF hF=>⟨hN _,?_⟩
      unfold iy BA
      unfold eV
      simp? [gt _ _ p1,st _ _ _ p1]
      simp? [gt _ _ p2,st _ _ _ p2]
      rw [hF]
      rw [show j+(r+1)=j+1+r by omega] at hk
      have ih':=λo3 o4 o5=>ih (j+1) o3 o4 o5 kt (by omega) hk
      have ef:(λy=>aL (gy rs f y) (j+1))=λk=>if k=pos (rs.getD j zL).2.2 (ak rs) then (if pos (rs.getD j zL).2.2 (ak rs)=pos (rs.getD j zL).2.1 (ak rs) then aL (gy rs f (pos (rs.getD j zL).2.1 (ak rs))) j - f j else aL (gy rs f (pos (rs.getD j zL).2.2 (ak rs))) j)+f j else if k=pos (rs.getD j zL).2.1 (ak rs) then aL (gy rs f (pos (rs.getD j zL).2.1 (ak rs))) j - f j else aL (gy rs f k) j:=by
        funext y
        exact put2 (F:=λy=>aL (gy rs f y) j) (y:=y) (c:=f j) pne
      rw [ef] at ih'
      exact ih' _ _ _
  refine go _ (λT=>by first | exact ⟨trivial,hk2 T⟩ | exact hk2 T) rs.length 0 none none none _ (by omega) λo3 o4 o5=>?_
  dsimp only
  subst hN_
  rw [Nat.zero_add]
  simp? [bF,iN,aA (n:=(ak rs).length) (by omega)]
  unfold bx
  rw [bM (inj:=λy=>D.int (aL (gy rs f y) rs.length)) (g:=λy=>D.bl (decide (aL (gy rs f y) rs.length=0))) _ (by simp [Holds]) (λa ha=>⟨_,rfl,λq x=>by
    unfold mw
    simp? []⟩)]
  simp? [uy]
  rw [lZ rfl (λi h=>by cases h)]
  exact hq
theorem Of (hL:bw rs) (hl:os.length=rs.length)
    (hq:q (if Dt rs (oi rs os) then .tup (bx rs.length (oi rs os)) else .non) S):jd A [aN A rs fs,.lst (os.map bP)] S q x:=by
  have h12:=hL.hi
  have hP:=j8 h12
  have so:small (os.map bP).length=true:=aA (by rw [List.length_map]; omega)
  have tr:=uD (es:=aT rs) (n:=(ak rs).length) (ks:=os.map (·.isNone)) lA
  have hTk:∀ i,i < rs.length->eX (aT rs) (ak rs).length (os.map (·.isNone)) i=true->(os.getD i none).getD 0=0:=λi hi hT=>by
    have h1:=tr.kept (j:=i) (by show i < (aT rs).length; rw [eE]; exact hi) hT
    rw [map_getD (z:=none) (by omega)] at h1
    cases e:os.getD i none with
    | none=>rfl
    | some v=>rw [e] at h1; cases h1
  have hTd:∀ i,(dw (aT rs) (ak rs).length (os.map (·.isNone)) rs.length).getD i false=eX (aT rs) (ak rs).length (os.map (·.isNone)) i:=λi=>by
    unfold eX
    rw [eE]
  have hTl:(dw (aT rs) (ak rs).length (os.map (·.isNone)) rs.length).length=rs.length:=jY _
  have hfo:jK A [aN A rs fs,.lst ((os.map (·.isNone)).map D.bl)]=jK A [aN A rs fs,.lst ((os.map (·.isNone)).map D.bl)]:=rfl
  have hfG:=λ(S:WS) (q:D->WS->Prop) (x:Xq) (h:q (.lst ((dw (aT rs) (ak rs).length (os.map (·.isNone)) rs.length).map D.bl)) S)=>FD (A:=A) (S:=S) (q:=q) (x:=x) (fs:=fs) (ks:=os.map (·.isNone)) hL (by rw [List.length_map]; exact hl) h
  generalize dw (aT rs) (ak rs).length (os.map (·.isNone)) rs.length=tl at hTd hTl hfG
  have ev:(os.map λo=>D.int (o.getD 0))=bx rs.length λi=>(os.getD i none).getD 0:=by
    rw [map_range (f:=λo:Option Int=>D.int (o.getD 0)) (z:=none),hl]
    rfl
  have tx:∀ S i,i < rs.length->aH S (.lst (tl.map D.bl)) (.int (i:Int))=some (.bl (eX (aT rs) (ak rs).length (os.map (·.isNone)) i)):=λS i hi=>by
    rw [jO (f:=D.bl) (z:=false) (by omega),hTd]
  have tb:∀ i,tl.getD i false=eX (aT rs) (ak rs).length (os.map (·.isNone)) i:=hTd
  have hva:∀ e,e < rs.length->eX (aT rs) (ak rs).length (os.map (·.isNone)) e=true->oi rs os e=yi (dS (aT rs)) (λi=>(os.getD i none).getD 0) (λx=>decide ((jR (aT rs) (ak rs).length ((List.range rs.length).map λi=>eX (aT rs) (ak rs).length (os.map (·.isNone)) i && !decide (i=e))).getD x 0=(jR (aT rs) (ak rs).length ((List.range rs.length).map λi=>eX (aT rs) (ak rs).length (os.map (·.isNone)) i && !decide (i=e))).getD (pos (rs.getD e zL).2.2 (ak rs)) 0)):=λe he hT=>by
    unfold oi
    rw [if_pos hT]
  have hk:∀ i,i < rs.length->eX (aT rs) (ak rs).length (os.map (·.isNone)) i=false->oi rs os i=(os.getD i none).getD 0:=λi hi hT=>by
    unfold oi
    rw [if_neg (by rw [hT]; decide)]
  generalize oi rs os=f at hq hva hk
  generalize hT0:eX (aT rs) (ak rs).length (os.map (·.isNone))=T at hTd tx tb hva hTk hk
  generalize hv0:(λi=>(os.getD i none).getD 0)=v at ev hva
  have hk':∀ i,i < rs.length->T i=false->v i=f i:=λi hi h=>by rw [← hv0]; exact (hk i hi h).symm
  have go : ∀ (us:List LR) (j:Nat) (o5 o6 o7 o8:Option D) (kt:Kt),us=rs.drop j->j+us.length=rs.length->
      (∀ o5 o6 o7 o8,kt.nx [some (aN A rs fs),some (.lst (os.map bP)),some (.lst (tl.map D.bl)),some (.lst (bx rs.length v)),some (.cell S.length),o5,o6,o7,o8,none,none,none,none] (S++[.lst (bx rs.length f)]))->
      cE cB (bG 2 (aE (av 5) (aE (bG 2 (aE (av 6) (aE (av 7) (bH)))) (bH)))) (lQ A) (gS j (us.map (eV (ak rs)))) [some (aN A rs fs),some (.lst (os.map bP)),some (.lst (tl.map D.bl)),some (.lst (bx rs.length v)),some (.cell S.length),o5,o6,o7,o8,none,none,none,none] (S++[.lst (bx rs.length λi=>if i < j then f i else v i)]) kt:=λus=>by
    induction us with
    | nil=>
      intro j o5 o6 o7 o8 kt _ hj hk
      have ej:j=rs.length:=by simpa using hj
      refine ⟨trivial,?_⟩
      rw [lD (g:=f) λi hi=>if_pos (by omega)]
      exact hk _ _ _ _
    | cons r us ih=>
      intro j o5 o6 o7 o8 kt hu hj hk
      simp only [List.length_cons] at hj
      have hjl:j < rs.length:=by omega
      have er:rs.getD j zL=r:=by
        have:=congrArg (λl=>l[0]?) hu
        simp only [List.getElem?_cons_zero,List.getElem?_drop,Nat.add_zero] at this
        rw [List.getD_eq_getElem?_getD,← this,Option.getD_some]
      have hr:r∈rs:=by rw [← er]; exact getD_mem hjl
      have hus:us=rs.drop (j+1):=by
        have:=congrArg List.tail hu
        simpa using this
      have ih':=λo8=>ih (j+1) (some (.int (j:Int))) (some (.int (pos r.2.1 (ak rs):Nat))) (some (.int (pos r.2.2 (ak rs):Nat))) o8 kt hus (by omega) hk
      rw [List.map_cons]
      unfold gS
      refine gR λF hF=>⟨trivial,?_⟩
      unfold lQ
      unfold eV
      cases hTj:T j with
      | false=>
        simp? [tx _ j hjl,hTj]
        rw [hF]
        rw [lD (f:=λi=>if i < j then f i else v i) (g:=λi=>if i < j+1 then f i else v i) λi hi=>by
          by_cases e:i=j
          · subst e
            rw [if_neg (Nat.lt_irrefl i),if_pos (Nat.lt_succ_self i),hk' i hjl hTj]
          · by_cases e2:i < j
            · rw [if_pos e2,if_pos (by omega)]
            · rw [if_neg e2,if_neg (by omega)]]
        exact ih' _
      | true=>
        have hm:=xR (es:=aT rs) (n:=(ak rs).length) lA ((List.range rs.length).map λi=>T i && !decide (i=j))
        have hm2:i6 (dS (aT rs)) (ak rs).length (λi=>T i && !decide (i=j)) (dS (aT rs)).m (jR (aT rs) (ak rs).length ((List.range rs.length).map λi=>T i && !decide (i=j))):=hm.congr λi hi=>range_getD (by
          rw [eE] at hi
          exact hi)
        have hval:=hva j hjl hTj
        have hml:=hm.len
        rw [er] at hval
        have hcg:=λ(S:WS) (kv:D) (h:Sq S kv (((List.range rs.length).map λi=>T i && !decide (i=j)).map D.bl)) (q:D->WS->Prop) (x:Xq)=>wz (A:=A) (S:=S) (fs:=fs) (kv:=kv) (q:=q) (x:=x) hL h
        generalize jR (aT rs) (ak rs).length ((List.range rs.length).map λi=>T i && !decide (i=j))=mk at hval hml hcg
        have p2:pos r.2.2 (ak rs) < mk.length:=by rw [hml]; exact nQ hr
        simp? [tx _ j hjl,hTj,EV,IX,mE,List.length_map,hTl,aA (n:=rs.length) (by omega)]
        rw [vR,hTl]
        rw [bM (inj:=λi:Nat=>D.tup [.int (i:Nat),.bl (tl.getD (i - 0) false)]) (g:=λi:Nat=>D.bl (T i && !decide (i=j))) _ trivial (λi hi=>⟨_,rfl,λq x=>by
          unfold rW
          rw [Nat.sub_zero,tb]
          cases hTi:T i with
          | false=>simp? [Bool.false_and]
          | true=>simp? [qp,Bool.true_and]⟩)]
        rw [← nv]
        simp? []
        refine hcg _ (.lst _) ?_ _ _ ?_
        · rw [List.map_map]
          exact Sq.lst
        simp? [List.length_map,aA (n:=mk.length) (by omega)]
        rw [bM (inj:=bX) (g:=λm:Nat=>D.bl (decide (m=mk.getD (pos r.2.2 (ak rs)) 0))) _ trivial (λm hm=>⟨_,rfl,λq x=>by
          unfold rB
          simp? [Jr,BB p2,qp]⟩)]
        have ei:(mk.map λm:Nat=>D.bl (decide (m=mk.getD (pos r.2.2 (ak rs)) 0)))=(mk.map λm:Nat=>decide (m=mk.getD (pos r.2.2 (ak rs)) 0)).map D.bl:=by rw [List.map_map]; rfl
        rw [ei]
        refine G8 (v:=v) (I:=λy=>decide (mk.getD y 0=mk.getD (pos r.2.2 (ak rs)) 0)) hL (by rw [List.length_map]; exact hml) (λy hy=>map_getD (z:=(0:Nat)) (by omega)) ?_
        rw [← hval]
        have st:iU (.cell S.length) (.int (j:Int)) (.int (f j)) (S++[.lst (bx rs.length λi=>if i < j then f i else v i)])=some (S++[.lst (bx rs.length λi=>if i < j+1 then f i else v i)]):=by
          rw [gZ (ds:=bx rs.length λi=>if i < j then f i else v i) bF rfl]
          unfold ixN
          rw [if_pos (by omega),if_pos (by rw [iN]; omega),Option.map_some,cU,Int.toNat_natCast,xQ hjl]
          rw [lD (g:=λi=>if i < j+1 then f i else v i) λi hi=>by
            by_cases e:i=j
            · subst e
              rw [if_pos rfl,if_pos (by omega)]
            · by_cases e2:i < j
              · rw [if_neg e,if_pos e2,if_pos (by omega)]
              · rw [if_neg e,if_neg e2,if_neg (by omega)]]
        simp? [st]
        rw [hF]
        exact ih' _
  rw [wC]
  unfold aG aM
  simp only [List.map_cons,List.map_nil,List.length_cons,List.length_nil,Nat.reduceAdd,Nat.reduceSub,List.replicate,List.cons_append,List.nil_append,List.append_nil,Nat.zero_add]
  unfold qM
  refine ay λN_ hN_=>?_
  simp? [so]
  rw [bM (inj:=bP) (g:=λo:Option Int=>D.bl o.isNone) _ trivial (λo ho=>⟨_,rfl,λq x=>by
    unfold r8
    simp? [LK,Bool.false_eq_true,if_false]⟩)]
  have e1:(os.map λo:Option Int=>D.bl o.isNone)=(os.map (·.isNone)).map D.bl:=by rw [List.map_map]; rfl
  rw [e1]
  simp? []
  refine hfG _ _ _ ?_
  simp? []
  subst hN_
  refine ay λN_ hN_=>?_
  simp? [so]
  rw [bM (inj:=bP) (g:=λo:Option Int=>D.int (o.getD 0)) _ trivial (λo ho=>⟨_,rfl,λq x=>by
    unfold r9
    cases o with
    | none=>  simp? [bP]
              rfl
    | some v=>  simp? [bP,qb]
                rfl⟩)]
  rw [ev]
  simp? []
  subst hN_
  refine ay λN_ hN_=>?_
  simp? [DR,qN,br,show D.cg 0 (bx rs.length v)=true from gv λ_ _=>rfl]
  subst hN_
  refine ay λN_ hN_=>?_
  simp? [eZ]
  refine o_ hL ?_
  simp? []
  have e2:bx rs.length v=bx rs.length λi=>if i < 0 then f i else v i:=lD λi hi=>(if_neg (by omega)).symm
  have gg:=go rs 0 none none none none
  rw [← e2] at gg
  refine gg _ rfl (by omega) λo5 o6 o7 o8=>?_
  dsimp only
  subst hN_
  simp? []
  refine O_ hL bF ?_
  cases hb:Dt rs f with
  | true=>
    rw [hb,if_pos rfl] at hq
    simp? [VY bF]
    rw [lZ (by simp only [D.clean]; exact gv λ_ _=>rfl) (λi z=>by cases z)]
    exact hq
  | false=>
    rw [hb,if_neg (by decide)] at hq
    simp? []
    rw [lZ rfl (λi z=>by cases z)]
    exact hq
end
end RV
end
section
namespace RV
open PySem L2
section
variable {A:Ad} {S T:WS} {q:D->WS->Prop} {x:Xq} {rs rs':List LR} {fs fs':List FR} {g:FR} {f:Nat->Int} {R:List (Option Int)}
theorem xT {ds:List D}:j4 S [.lst ds]=some (.tup ds):=rfl
def fU (rs:List LR) (g:FR):Nat:=pos g.2.1 (rs.map (·.1))
theorem AK (hF:bO rs fs) (hg:g∈fs):fU rs g < rs.length:=by
  have:=pA (hF.at_ g hg)
  rwa [List.length_map] at this
def Ba (rs:List LR) (fs:List FR) (f:Nat->Int):List (Option Int):=fs.map λg=>some (f (fU rs g))
theorem LB (hL:bw rs) (hF:bO rs fs) (hg:g∈fs) (hq:q (.int (fU rs g:Nat)) S):b9 A [aN A rs fs,.str g.2.1] S q x:=by
  have hi:=AK hF hg
  refine QS hL hi ?_ hq
  have:=sP (hF.at_ g hg)
  unfold fU at hi ⊢
  rw [List.getD_eq_getElem?_getD,List.getElem?_map,List.getElem?_eq_getElem hi] at this
  exact this
theorem WQ (hL:bw rs) (hF:bO rs fs) (hq:q (.tup ((Ba rs fs f).map bP)) S):lC A [aN A rs fs,.tup (bx rs.length f)] S q x:=by
  have h12:=hF.hi
  have sf:small (fs.map (mv A)).length=true:=aA (by rw [List.length_map]; omega)
  have m1:∀ S,mC (A.c "Net") "number_of" S (aN A rs fs):=λS=>lP (by decide+kernel) (by decide+kernel)
  have ix:∀ g∈fs,∀ S,aH S (.tup (bx rs.length f)) (.int (fU rs g:Nat))=some (.int (f (fU rs g))):=λg hg S=>by
    simp only [aH]
    rw [mS (by rw [iN]; exact AK hF hg),sV (AK hF hg)]
  rw [zZ]
  unfold aG aM
  simp only [List.map_cons,List.map_nil,List.length_cons,List.length_nil,Nat.reduceAdd,Nat.reduceSub,List.replicate,List.cons_append,List.nil_append,List.append_nil,Nat.zero_add]
  unfold tN
  simp? [eZ,m8,sf]
  refine ON (p:=λ_=>true) (inj:=mv A) (g:=λg=>D.int (f (fU rs g))) fs [] trivial (λg hg=>⟨_,rfl,λq x h=>h,λ_ q x hq=>?_⟩) ?_
  · unfold xJ
    simp? [m1,mU,yw]
    refine LB hL hF hg ?_
    simp? [ix g hg]
    exact hq
  rw [List.nil_append,List.filter_eq_self.mpr λ_ _=>rfl]
  simp? [xT]
  have e:(fs.map λg=>D.int (f (fU rs g)))=(Ba rs fs f).map bP:=by unfold Ba; rw [List.map_map]; rfl
  rw [e]
  exact hq
theorem Ql (hA:gT A) (hL:bw rs) (hF:bO rs fs) (hz:∀ y,y < (ak rs).length->aL (gy rs f y) rs.length=0) (hq:q (.tup ((Ba rs fs f).map bP)) S):kg A [aN A rs fs,.tup (bx rs.length f)] S q x:=by
  rw [zj]
  unfold aG aM
  simp only [List.map_cons,List.map_nil,List.length_cons,List.length_nil,Nat.reduceAdd,Nat.reduceSub,List.replicate,List.cons_append,List.nil_append,List.append_nil,Nat.zero_add]
  unfold rT
  refine ay λN_ hN_=>?_
  simp? []
  refine oS hA ?_
  simp? []
  subst hN_
  refine ay λN_ hN_=>?_
  simp? []
  rw [zQ]
  unfold aG aM
  simp only [List.map_cons,List.map_nil,List.length_cons,List.length_nil,Nat.reduceAdd,Nat.reduceSub,List.replicate,List.cons_append,List.nil_append,List.append_nil,Nat.zero_add]
  unfold uY
  simp? []
  refine PB hL hz ?_
  simp? []
  subst hN_
  simp? []
  refine WQ hL hF ?_
  simp? []
  exact hq
def zf (fo:List (Option Int)) (i:Nat) (v:Int):Option (List (Option Int)):=match fo.getD i none with
  | some u=>if u=v then some (fo.set i (some v)) else none
  | none=>some (fo.set i (some v))
def mT (rs:List LR):List FR->List (Option Int)->List (Option Int)->Option (List (Option Int))
  | f :: fs,some v :: R,fo=>(zf fo (fU rs f) v).bind (mT rs fs R)
  | _ :: fs,none :: R,fo=>mT rs fs R fo
  | _,_,fo=>some fo
def BJ (rs:List LR):List FR->List (Option Int)->(Nat->Int)->Prop
  | f :: fs,o :: R,h=>(∀ v,o=some v->h (fU rs f)=v)∧BJ rs fs R h
  | _,_,_=>True
theorem Ud {os:List (Option Int)} {i:Nat} {v:Int} {h:Nat->Int} (hi:i < os.length):(v8 (os.set i (some v)) h∧∀ u,os.getD i none=some u->u=v)↔(v8 os h∧h i=v∧∀ u,os.getD i none=some u->u=v):=by
  have gd:∀ k,(os.set i (some v)).getD k none=if k=i then some v else os.getD k none:=λk=>by
    rw [List.getD_eq_getElem?_getD,List.getElem?_set]
    by_cases e:i=k
    · subst e
      rw [if_pos rfl,if_pos hi,if_pos rfl]
      rfl
    · rw [if_neg e,if_neg λz=>e z.symm,List.getD_eq_getElem?_getD]
  constructor
  · rintro ⟨h1,h2⟩
    have e:=h1 i v (by rw [gd,if_pos rfl])
    refine ⟨λk u hu=>?_,e,h2⟩
    by_cases z:k=i
    · subst z
      rw [e,h2 u hu]
    · exact h1 k u (by rw [gd,if_neg z]; exact hu)
  · rintro ⟨h1,h2,h3⟩
    refine ⟨λk u hu=>?_,h3⟩
    rw [gd] at hu
    split at hu
    · next z=>
      cases hu
      rw [z]
      exact h2
    · exact h1 k u hu
theorem Jg:∀ (fs:List FR) (R fo os:List (Option Int)),mT rs fs R fo=some os->os.length=fo.length
  | f :: fs,some v :: R,fo,os,h=>by
    obtain ⟨o1,h1,h2⟩:=Option.bind_eq_some_iff.mp h
    rw [Jg fs R o1 os h2]
    unfold zf at h1
    split at h1
    · split at h1
      · cases h1; exact List.length_set ..
      · cases h1
    · cases h1; exact List.length_set ..
  | _ :: fs,none :: R,fo,os,h=>Jg fs R fo os h
  | [],_,_,_,h=>by unfold mT at h; cases h; rfl
  | _ :: _,[],_,_,h=>by unfold mT at h; cases h; rfl
theorem JC {h:Nat->Int}:∀ (fs:List FR) (R fo:List (Option Int)),(∀ f∈fs,fU rs f < fo.length)->((∃ os,mT rs fs R fo=some os∧v8 os h)↔v8 fo h∧BJ rs fs R h)
  | f :: fs,some v :: R,fo,hi=>by
    have hf:=hi f (List.mem_cons_self ..)
    have st:=Ud (os:=fo) (v:=v) (h:=h) hf
    have lens:(fo.set (fU rs f) (some v)).length=fo.length:=List.length_set ..
    have ih:=JC (h:=h) fs R (fo.set (fU rs f) (some v)) λy hy=>by rw [lens]; exact hi y (List.mem_cons_of_mem _ hy)
    have yes:(∀ u,fo.getD (fU rs f) none=some u->u=v)->mT rs (f :: fs) (some v :: R) fo=mT rs fs R (fo.set (fU rs f) (some v)):=λhc=>by
      show (zf fo (fU rs f) v).bind (mT rs fs R)=_
      unfold zf
      cases e:fo.getD (fU rs f) none with
      | none=>rfl
      | some u=>
        dsimp only
        rw [if_pos (hc u e)]
        rfl
    by_cases hc:∀ u,fo.getD (fU rs f) none=some u->u=v
    · rw [yes hc,ih]
      constructor
      · rintro ⟨h1,h2⟩
        obtain ⟨h3,h4,_⟩:=st.mp ⟨h1,hc⟩
        exact ⟨h3,λu hu=>by cases hu; exact h4,h2⟩
      · rintro ⟨h1,h2,h3⟩
        exact ⟨(st.mpr ⟨h1,h2 v rfl,hc⟩).1,h3⟩
    · have no:mT rs (f :: fs) (some v :: R) fo=none:=by
        show (zf fo (fU rs f) v).bind (mT rs fs R)=_
        unfold zf
        cases e:fo.getD (fU rs f) none with
        | none=>exact absurd (λu hu=>by rw [e] at hu; cases hu) hc
        | some u=>
          dsimp only
          rw [if_neg λz=>hc λu' hu'=>by rw [e] at hu'; cases hu'; exact z]
          rfl
      rw [no]
      constructor
      · rintro ⟨os,z,_⟩
        cases z
      · rintro ⟨h1,h2,_⟩
        exfalso
        exact hc λu hu=>by rw [← h1 _ u hu]; exact h2 v rfl
  | f :: fs,none :: R,fo,hi=>by
    have ih:=JC (h:=h) fs R fo λy hy=>hi y (List.mem_cons_of_mem _ hy)
    show (∃ os,mT rs fs R fo=some os∧v8 os h)↔_
    rw [ih]
    exact ⟨λ⟨h1,h2⟩=>⟨h1,⟨(λv hv=>by cases hv),h2⟩⟩,λ⟨h1,h3⟩=>⟨h1,h3.2⟩⟩
  | [],R,fo,_=>by
    unfold mT BJ
    simp
  | _ :: _,[],fo,_=>by
    unfold mT BJ
    simp
theorem Ft (hL:bw rs) (hF:bO rs fs) (hR:R.length=fs.length)
    (h1:∀ os,mT rs fs R (rs.map λ_=>none)=some os->os.length=rs.length->q (.lst (os.map bP)) S) (h2:mT rs fs R (rs.map λ_=>none)=none->q .non S):jJ A [aN A rs fs,.tup (R.map bP),.tup []] S q x:=by
  have h12:=hF.hi
  have hr12:=hL.hi
  have m1:∀ S,mC (A.c "Net") "number_of" S (aN A rs fs):=λS=>lP (by decide+kernel) (by decide+kernel)
  have sf:small (fs.map (mv A)).length=true:=aA (by rw [List.length_map]; omega)
  have inE:∀ (S:WS) (t:Str),inD false S (.str t) (.tup [])=some (.bl false):=λ_ _=>rfl
  have go : ∀ (us:List FR) (Us:List (Option Int)) (fo:List (Option Int)) (o4 o5 o6:Option D) (kt:Kt),us.length=Us.length->(∀ f∈us,f∈fs)->fo.length=rs.length->
      (∀ os,mT rs us Us fo=some os->∀ o4 o5 o6,kt.nx [some (aN A rs fs),some (.tup (R.map bP)),some (.tup []),some (.cell S.length),o4,o5,o6,none] (S++[.lst (os.map bP)]))->
      (mT rs us Us fo=none->∀ ds,kt.rt .non (S++[.lst ds]))->
      cE (λ_=>True) (bG 2 (aE (av 4) (aE (av 5) (bH)))) (nk A) (fS (us.map (mv A)) (Us.map bP)) [some (aN A rs fs),some (.tup (R.map bP)),some (.tup []),some (.cell S.length),o4,o5,o6,none] (S++[.lst (fo.map bP)]) kt:=λus=>by
    induction us with
    | nil=>
      intro Us fo o4 o5 o6 kt hl _ _ hk _
      cases Us with
      | nil=>exact ⟨trivial,hk fo rfl _ _ _⟩
      | cons u Us=>cases hl
    | cons f us ih=>
      intro Us fo o4 o5 o6 kt hl hu hfo hk hn
      cases Us with
      | nil=>cases hl
      | cons u Us=>
        have hl2:us.length=Us.length:=by simpa using hl
        have hf:=hu f (List.mem_cons_self ..)
        have hif:=AK hF hf
        have ihn:=λfo o4 o5 o6 h1=>ih Us fo o4 o5 o6 kt hl2 (λy hy=>hu y (List.mem_cons_of_mem _ hy)) h1
        rw [List.map_cons,List.map_cons,fS]
        refine gR λF hF2=>⟨trivial,?_⟩
        unfold nk
        cases u with
        | none=>
          have n0:∀ S,gW false S (bP none) .non=some (.bl true):=λ_=>rfl
          simp? [n0]
          rw [hF2]
          exact ihn fo _ _ _ hfo hk hn
        | some v=>
          have n0:∀ S,gW false S (bP (some v)) .non=some (.bl false):=λ_=>rfl
          have ixf:aH (S++[.lst (fo.map bP)]) (.cell S.length) (.int (fU rs f:Nat))=some (bP (fo.getD (fU rs f) none)):=by
            rw [qT (ds:=fo.map bP) bF,mS (by rw [List.length_map]; omega),List.getElem?_map,List.getElem?_eq_getElem (by omega:fU rs f < fo.length),List.getD_eq_getElem?_getD,List.getElem?_eq_getElem (by omega:fU rs f < fo.length)]
            rfl
          have stf:iU (.cell S.length) (.int (fU rs f:Nat)) (bP (some v)) (S++[.lst (fo.map bP)])=some (S++[.lst ((fo.set (fU rs f) (some v)).map bP)]):=by
            rw [gZ (ds:=fo.map bP) bF rfl]
            unfold ixN
            rw [if_pos (by omega),if_pos (by rw [List.length_map]; omega),Option.map_some,cU,Int.toNat_natCast,List.map_set]
          have lens:(fo.set (fU rs f) (some v)).length=rs.length:=by rw [List.length_set]; exact hfo
          simp? [n0,mU,oJ,inE,m1,yw]
          refine LB hL hF hf ?_
          cases e:fo.getD (fU rs f) none with
          | none=>
            have ek:mT rs (f :: us) (some v :: Us) fo=mT rs us Us (fo.set (fU rs f) (some v)):=by
              show (zf fo (fU rs f) v).bind _=_
              unfold zf
              rw [e]
              rfl
            rw [ek] at hk hn
            rw [e] at ixf
            have n1:∀ S,gW true S (bP none) .non=some (.bl false):=λ_=>rfl
            simp? [ixf,n1,stf]
            rw [hF2]
            exact ihn _ _ _ _ lens hk hn
          | some u=>
            rw [e] at ixf
            have n1:∀ S,gW true S (bP (some u)) .non=some (.bl true):=λ_=>rfl
            have ne:∀ S,ni S (bP (some u)) (bP (some v))=some (.bl (!decide (u=v))):=λS=>LG
            by_cases huv:u=v
            · have ek:mT rs (f :: us) (some v :: Us) fo=mT rs us Us (fo.set (fU rs f) (some v)):=by
                show (zf fo (fU rs f) v).bind _=_
                unfold zf
                rw [e]
                dsimp only
                rw [if_pos huv]
                rfl
              rw [ek] at hk hn
              simp? [ixf,n1,ne,decide_eq_true huv,stf]
              rw [hF2]
              exact ihn _ _ _ _ lens hk hn
            · have ek:mT rs (f :: us) (some v :: Us) fo=none:=by
                show (zf fo (fU rs f) v).bind _=_
                unfold zf
                rw [e]
                dsimp only
                rw [if_neg huv]
                rfl
              simp? [ixf,n1,ne,decide_eq_false huv]
              exact hn ek _
  rw [vF]
  unfold aG aM
  simp only [List.map_cons,List.map_nil,List.length_cons,List.length_nil,Nat.reduceAdd,Nat.reduceSub,List.replicate,List.cons_append,List.nil_append,List.append_nil,Nat.zero_add]
  unfold pL
  refine ay λN_ hN_=>?_
  simp? [eZ,zX,List.length_map,aA (n:=rs.length) (by omega)]
  rw [bM (inj:=pv A) (g:=λ_:LR=>D.non) _ trivial (λr hr=>⟨_,rfl,λq x=>by
    unfold sd
    simp? []⟩)]
  simp? [Si,show D.cg 0 (rs.map λ_=>D.non)=true from gv λ_ _=>rfl]
  subst hN_
  have e0:(rs.map λ_:LR=>D.non)=(rs.map λ_=>(none:Option Int)).map bP:=by rw [List.map_map]; rfl
  rw [e0]
  refine ay λN_ hN_=>?_
  simp? [BQ,eZ,m8,oE,List.length_map,hR]
  refine go fs R (rs.map λ_=>none) none none none _ hR.symm (λf hf=>hf) (by rw [List.length_map]) (λos hos o4 o5 o6=>?_) (λhno ds=>?_)
  · subst hN_
    simp? []
    rw [pW]
    exact h1 os hos (by rw [Jg _ _ _ _ hos,List.length_map])
  · simp? []
    rw [lZ rfl (λi z=>by cases z)]
    exact h2 hno
end
end RV
end
section
namespace RV
open PySem L2
def vJ (zs:List (FR×Option Int)):List (Key×D):=zs.map λz=>(.inr z.1.1,bP z.2)
def sO (rs:List LR) (fs:List FR) (rs':List LR) (fs':List FR) (f g:Nat->Int):Prop:=∀ b∈fs,∀ a∈fs',b.1=a.1->g (fU rs' a)=f (fU rs b)
section
variable {A:Ad} {S T:WS} {q:D->WS->Prop} {x:Xq} {rs rs':List LR} {fs fs':List FR} {f:Nat->Int} {R:List (Option Int)}
theorem Xk {zs:List (FR×Option Int)} {t:Str} {d:D} (h:t∉zs.map (·.1.1)):vA (vJ zs) (.inr t) d=vJ zs++[(.inr t,d)]:=by
  unfold vA
  rw [if_neg]
  intro z
  obtain ⟨kv,h1,h2⟩:=List.any_eq_true.mp z
  unfold vJ at h1
  obtain ⟨y,hy,rfl⟩:=List.mem_map.mp h1
  have:=of_decide_eq_true h2
  exact h (List.mem_map.mpr ⟨y,hy,Sum.inr.inj this⟩)
theorem P9 {t:Str}:∀ {zs:List (FR×Option Int)} {z:FR×Option Int},(zs.map (·.1.1)).Nodup->z∈zs->z.1.1=t->valD (vJ zs) (.inr t)=some (bP z.2)
  | y :: zs,z,nd,hz,e=>by
    rw [List.map_cons,List.nodup_cons] at nd
    unfold vJ
    rw [List.map_cons]
    unfold valD
    by_cases ey:y.1.1=t
    · have:y=z:=by
        rcases List.mem_cons.mp hz with h | h
        · exact h.symm
        · exact absurd (List.mem_map.mpr ⟨z,h,e.trans ey.symm⟩) nd.1
      subst this
      rw [if_pos (by rw [ey])]
    · have hz2:z∈zs:=by
        rcases List.mem_cons.mp hz with h | h
        · rw [h] at e
          exact absurd e ey
        · exact h
      rw [if_neg λh=>ey (Sum.inr.inj h)]
      exact P9 nd.2 hz2 e
theorem Pf (hF:bO rs fs) (hR:R.length=fs.length) (hq:q (.dic (vJ (fs.zip R))) S):ng A [aN A rs fs,.tup (R.map bP)] S q x:=by
  have h12:=hF.hi
  rw [D_]
  unfold aG aM
  simp only [List.map_cons,List.map_nil,List.length_cons,List.length_nil,Nat.reduceAdd,Nat.reduceSub,List.replicate,List.cons_append,List.nil_append,List.append_nil,Nat.zero_add]
  unfold yR
  simp? [Qa,BQ,eZ,m8,oE,List.length_map,hR]
  have go :∀ (us:List FR) (Us:List (Option Int)) (done:List (FR×Option Int)) (q:List (Key×D)->WS->Prop) (N:WS->Prop) (l:jc) (hl:l.f=bG 2 (aE (av 2) (aE (av 3) (bH)))∧l.mc=cP∧l.vs=[2,3]),N S->us.length=Us.length->(done.map (·.1.1)++us.map (·.1)).Nodup->done.length+us.length≤12->q (vJ (done++us.zip Us)) S->
      kO N l (Ax (CT (uG A) (ug A)) []) [some (aN A rs fs),some (.tup (R.map bP)),none,none] (fS (us.map (mv A)) (Us.map bP)) S (vJ done) q:=λus=>by
    induction us with
    | nil=>
      intro Us done q N l hl hN hlen nd h12 h
      cases Us with
      | nil=>
        refine ⟨hN,?_⟩
        rw [List.zip_nil_left,List.append_nil] at h
        exact h
      | cons u Us=>cases hlen
    | cons f us ih=>
      intro Us done q N l hl hN hlen nd h12 h
      cases Us with
      | nil=>cases hlen
      | cons u Us=>
        have hlen2:us.length=Us.length:=by simpa using hlen
        rw [List.length_cons] at h12
        have hno:f.1∉done.map (·.1.1):=λz=>(List.nodup_append.mp nd).2.2 f.1 z f.1 (by simp) rfl
        have ih':=ih Us (done++[(f,u)]) q N l hl hN hlen2 (by rw [List.map_append]; simpa using nd) (by rw [List.length_append,List.length_singleton]; omega) (by rw [List.append_assoc]; exact h)
        obtain ⟨l1,l2,l3⟩:=hl
        rw [List.map_cons,List.map_cons,fS]
        refine Ak λF hF2=>⟨hN,?_⟩
        rw [l1,l2,l3]
        have hb:(vJ done).length=done.length:=by unfold vJ; rw [List.length_map]
        have ep:vA (vJ done) (.inr f.1) (bP u)=vJ (done++[(f,u)]):=by
          rw [Xk hno]
          unfold vJ
          rw [List.map_append]
          rfl
        simp? [Ax,CT,uG,ug,qQ,mU,oJ,hb,aA (n:=done.length) (by omega),ep]
        rw [hF2]
        exact ih'
  refine go fs R [] _ _ _ ⟨rfl,rfl,rfl⟩ (by first | trivial | exact ⟨trivial,trivial⟩) hR.symm (by simpa using hF.nd) (by simpa using h12) ?_
  rw [List.nil_append]
  simp? []
  exact hq
def YI:FR:=("","",false)
def LI (fs:List FR) (t:Str):FR:=(fs.find? λb=>decide (b.1=t)).getD YI
theorem Jx (nd:(fs.map (·.1)).Nodup) {b:FR} (hb:b∈fs):LI fs b.1=b:=by
  induction fs with
  | nil=>exact nomatch hb
  | cons a fs ih=>
    rw [List.map_cons,List.nodup_cons] at nd
    unfold LI
    rw [List.find?_cons]
    by_cases e:a.1=b.1
    · have:b=a:=by
        rcases List.mem_cons.mp hb with h | h
        · exact h
        · exact absurd (List.mem_map.mpr ⟨b,h,e.symm⟩) nd.1
      subst this
      rw [decide_eq_true rfl]
      rfl
    · have hb2:b∈fs:=by
        rcases List.mem_cons.mp hb with h | h
        · rw [h] at e
          exact absurd rfl e
        · exact h
      rw [decide_eq_false e]
      exact ih nd.2 hb2
def AU (rs:List LR) (fs:List FR) (fs':List FR) (f:Nat->Int):List (Option Int):=fs'.map λa=>some (f (fU rs (LI fs a.1)))
theorem C0 {k:FR->Int} {h:Nat->Int}:∀ {fs:List FR},BJ rs fs (fs.map λa=>some (k a)) h↔∀ a∈fs,h (fU rs a)=k a
  | []=>⟨λ_ a ha=>(nomatch ha),λ_=>trivial⟩
  | b :: fs=>by
    rw [List.map_cons]
    constructor
    · intro hh a ha
      rcases List.mem_cons.mp ha with z | z
      · rw [z]
        exact hh.1 _ rfl
      · exact C0.mp hh.2 a z
    · intro hh
      exact ⟨λv hv=>by cases hv; exact hh b (List.mem_cons_self ..),C0.mpr λa ha=>hh a (List.mem_cons_of_mem _ ha)⟩
theorem CU (hF:bO rs fs) (hnm:∀ a∈fs',∃ b∈fs,b.1=a.1) {g:Nat->Int}:BJ rs' fs' (AU rs fs fs' f) g↔sO rs fs rs' fs' f g:=by
  unfold AU
  rw [C0]
  constructor
  · intro hh b hb a ha e
    have:=hh a ha
    rw [← e,Jx hF.nd hb] at this
    exact this
  · intro hh a ha
    obtain ⟨b,hb,e⟩:=hnm a ha
    rw [← e,Jx hF.nd hb]
    exact hh b hb a ha e
theorem QJ (hA:gT A) (hL:bw rs) (hF:bO rs fs) (hF':bO rs' fs') (hf:j9 rs f) (hnm:∀ a∈fs',∃ b∈fs,b.1=a.1) (hq:q (.tup ((AU rs fs fs' f).map bP)) S):jW A [aN A rs fs,.tup (bx rs.length f),aN A rs' fs'] S q x:=by
  have h12:=hF'.hi
  have ls:(Ba rs fs f).length=fs.length:=by unfold Ba; rw [List.length_map]
  rw [wX]
  unfold aG aM
  simp only [List.map_cons,List.map_nil,List.length_cons,List.length_nil,Nat.reduceAdd,Nat.reduceSub,List.replicate,List.cons_append,List.nil_append,List.append_nil,Nat.zero_add]
  unfold qf
  refine ay λN_ hN_=>?_
  simp? []
  refine Ql hA hL hF (λy hy=>by rw [← xP]; exact hf y hy) ?_
  simp? []
  refine Pf hF ls ?_
  simp? []
  subst hN_
  simp? [eZ,m8,List.length_map,aA (n:=fs'.length) (by omega)]
  have ez:fs.zip (Ba rs fs f)=fs.map λg=>(g,some (f (fU rs g))):=by
    unfold Ba
    exact zip_self
  have nd:((fs.zip (Ba rs fs f)).map (·.1.1)).Nodup:=by
    rw [ez,List.map_map]
    exact hF.nd
  rw [bM (inj:=mv A) (g:=λa:FR=>bP (some (f (fU rs (LI fs a.1))))) _ trivial (λa ha=>⟨_,rfl,λq x=>by
    obtain ⟨b,hb,e⟩:=hnm a ha
    have hz:(b,some (f (fU rs b)))∈fs.zip (Ba rs fs f):=by rw [ez]; exact List.mem_map.mpr ⟨b,hb,rfl⟩
    have g0:∀ S,sN S (.dic (vJ (fs.zip (Ba rs fs f)))) (.str a.1)=some (bP (some (f (fU rs (LI fs a.1))))):=λS=>by
      have:=P9 nd hz e
      rw [← e,Jx hF.nd hb]
      rw [← e] at this
      simp only [sN,DT,qQ,Option.bind_some,this]
    unfold uP
    simp? [mU,oJ,g0]⟩)]
  simp? [xT]
  have e:(fs'.map λa:FR=>bP (some (f (fU rs (LI fs a.1)))))=(AU rs fs fs' f).map bP:=by unfold AU; rw [List.map_map]; rfl
  rw [e]
  exact hq
where
  zip_self {fs:List FR} {h:FR->Option Int}:fs.zip (fs.map h)=fs.map λg=>(g,h g):=by
    induction fs with
    | nil=>rfl
    | cons g fs ih=>rw [List.map_cons,List.zip_cons_cons,List.map_cons,ih]
theorem QT (hA:gT A) (hL:bw rs) (hF:bO rs fs) (hL':bw rs') (hF':bO rs' fs') (hf:j9 rs f) (hnm:∀ a∈fs',∃ b∈fs,b.1=a.1)
    (h1:∀ g,j9 rs' g->sO rs fs rs' fs' f g->q (.tup (bx rs'.length g)) S) (h2:(¬ ∃ g,j9 rs' g∧sO rs fs rs' fs' f g)->q .non S):oF A [aN A rs fs,.tup (bx rs.length f),aN A rs' fs'] S q x:=by
  have lc:(AU rs fs fs' f).length=fs'.length:=by unfold AU; rw [List.length_map]
  have ag0:∀ g,v8 (rs'.map λ_=>none) g:=λg i v hv=>by
    rw [List.getD_eq_getElem?_getD,List.getElem?_map] at hv
    cases e:rs'[i]? with
    | none=>rw [e] at hv; cases hv
    | some r=>rw [e] at hv; cases hv
  have iff:=λg=>JC (rs:=rs') (h:=g) fs' (AU rs fs fs' f) (rs'.map λ_=>none) λa ha=>by rw [List.length_map]; exact AK hF' ha
  rw [Hv]
  unfold aG aM
  simp only [List.map_cons,List.map_nil,List.length_cons,List.length_nil,Nat.reduceAdd,Nat.reduceSub,List.replicate,List.cons_append,List.nil_append,List.append_nil,Nat.zero_add]
  unfold A5
  refine ay λN_ hN_=>?_
  simp? []
  refine QJ hA hL hF hF' hf hnm ?_
  simp? []
  refine Ft hL' hF' lc (λos hos hl=>?_) (λhno=>?_)
  · subst hN_
    have e0:∀ S,gW false S (.lst (os.map bP)) .non=some (.bl false):=λ_=>rfl
    simp? [e0]
    refine Of hL' hl ?_
    cases hb:Dt rs' (oi rs' os) with
    | true=>
      rw [if_pos rfl]
      simp? []
      have ag:=LH (rs:=rs') hl
      exact h1 _ (Fx.mp hb) ((CU hF hnm).mp ((iff _).mp ⟨os,hos,ag⟩).2)
    | false=>
      rw [if_neg (by decide)]
      simp? []
      refine h2 λ⟨g,k1,k2⟩=>?_
      obtain ⟨os',e1,e2⟩:=(iff g).mpr ⟨ag0 g,(CU hF hnm).mpr k2⟩
      rw [hos] at e1
      cases e1
      have:=(Uo hl).mpr ⟨g,k1,e2⟩
      rw [hb] at this
      cases this
  · subst hN_
    have e0:∀ S,gW false S .non .non=some (.bl true):=λ_=>rfl
    simp? [e0]
    refine h2 λ⟨g,k1,k2⟩=>?_
    obtain ⟨os',e1,e2⟩:=(iff g).mpr ⟨ag0 g,(CU hF hnm).mpr k2⟩
    rw [hno] at e1
    cases e1
theorem JI (hA:gT A) (hF:bO rs fs) (hF':bO rs' fs') (hnm:∀ a∈fs',∃ b∈fs,b.1=a.1) (hnm':∀ b∈fs,∃ a∈fs',a.1=b.1) (hq:q .non S):j_ A [aN A rs fs,aN A rs' fs'] S q x:=by
  have h12:=hF.hi
  have h12':=hF'.hi
  have mem:∀ {us vs:List FR},(∀ a∈us,∃ b∈vs,b.1=a.1)->∀ t∈us.map (·.1),t∈vs.map (·.1):=λh t ht=>by
    obtain ⟨a,ha,rfl⟩:=List.mem_map.mp ht
    obtain ⟨b,hb,e⟩:=h a ha
    exact List.mem_map.mpr ⟨b,hb,e⟩
  have no:∀ (us vs:List FR),(∀ t∈us.map (·.1),t∈vs.map (·.1))->(us.map (·.1)).filter (λt=>!decide (t∈vs.map (·.1)))=[]:=λus vs h=>List.filter_eq_nil_iff.mpr λt ht=>by simp only [decide_eq_true (h t ht),Bool.not_true]; decide
  have inn:∀ (t:Str) (vs:List FR) S,inD true S (.str t) (.lst ((vs.map (·.1)).map D.str))=some (.bl (!decide (t∈vs.map (·.1)))):=λt vs S=>by
    rw [wY (ts:=vs.map (·.1)) rfl]
    simp
  rw [zB]
  unfold aG aM
  simp only [List.map_cons,List.map_nil,List.length_cons,List.length_nil,Nat.reduceAdd,Nat.reduceSub,List.replicate,List.cons_append,List.nil_append,List.append_nil,Nat.zero_add]
  unfold rC
  refine ay λN_ hN_=>?_
  simp? []
  refine oS hA ?_
  simp? []
  subst hN_
  refine ay λN_ hN_=>?_
  simp? []
  refine oS hA ?_
  simp? []
  subst hN_
  refine ay λN_ hN_=>?_
  simp? [eZ,m8,List.length_map,aA (n:=fs.length) (by omega)]
  rw [bM (inj:=mv A) (g:=λa:FR=>D.str a.1) _ trivial (λa ha=>⟨_,rfl,λq x=>by
    unfold vL
    simp? [mU,oJ]⟩)]
  simp? [eZ,m8,List.length_map,aA (n:=fs'.length) (by omega)]
  rw [bM (inj:=mv A) (g:=λa:FR=>D.str a.1) _ trivial (λa ha=>⟨_,rfl,λq x=>by
    unfold vE
    simp? [mU,oJ]⟩)]
  have es:∀ us:List FR,(us.map λa=>D.str a.1)=(us.map (·.1)).map D.str:=λus=>by rw [List.map_map]; rfl
  rw [es,es]
  simp? []
  subst hN_
  refine ay λN_ hN_=>?_
  simp? [List.length_map,aA (n:=fs.length) (by omega)]
  rw [nM (p:=λt:Str=>!decide (t∈fs'.map (·.1))) (inj:=D.str) (g:=D.str) (fs.map (·.1)) [] trivial (λt ht=>⟨_,rfl,λq x=>by
    unfold u_
    simp? [inn],λ_ q x=>by
    unfold vz
    simp? []⟩),no fs fs' (mem hnm')]
  simp? [List.length_map,aA (n:=fs'.length) (by omega)]
  rw [nM (p:=λt:Str=>!decide (t∈fs.map (·.1))) (inj:=D.str) (g:=D.str) (fs'.map (·.1)) [] trivial (λt ht=>⟨_,rfl,λq x=>by
    unfold vm
    simp? [inn],λ_ q x=>by
    unfold vO
    simp? []⟩),no fs' fs (mem hnm)]
  have ad:∀ S,cX S (.lst ([]++([]:List Str).map D.str)) (.lst ([]++([]:List Str).map D.str))=some (.lst []):=λ_=>rfl
  simp? [ad,List.map_nil,List.append_nil]
  subst hN_
  have t0:∀ S,dN S (.lst [])=some false:=λ_=>rfl
  simp? [t0]
  exact hq
end
end RV
end
section
namespace RV
open PySem L2
def E1 (rs:List LR) (fs:List FR) (rs':List LR) (fs':List FR) (c:Nat):Prop:=¬ ∃ g,j9 rs' g∧sO rs fs rs' fs' (l9 rs c) g
def Jm (rs:List LR) (fs:List FR) (rs':List LR) (fs':List FR) (c:Nat):Bool:=@decide (E1 rs fs rs' fs' c) (Classical.propDecidable _)
theorem P8 {rs rs':List LR} {fs fs':List FR} {c:Nat} (h:E1 rs fs rs' fs' c):Jm rs fs rs' fs' c=true:=by
  exact @decide_eq_true _ (Classical.propDecidable _) h
theorem Qj {rs rs':List LR} {fs fs':List FR} {c:Nat} (h:¬ E1 rs fs rs' fs' c):Jm rs fs rs' fs' c=false:=by
  exact @decide_eq_false _ (Classical.propDecidable _) h
def xZ (rs:List LR) (fs:List FR) (rs':List LR) (fs':List FR):Option Nat:=(jv rs).find? (Jm rs fs rs' fs')
def nJ (rs:List LR) (fs:List FR) (rs':List LR) (fs':List FR):D:=match xZ rs fs rs' fs' with
  | some c=>.tup [.int 0,.tup (bx rs.length (l9 rs c))]
  | none=>match xZ rs' fs' rs fs with
    | some c=>.tup [.int 1,.tup (bx rs'.length (l9 rs' c))]
    | none=>.non
section
variable {A:Ad} {S T:WS} {q:D->WS->Prop} {x:Xq} {rs rs':List LR} {fs fs':List FR} {f:Nat->Int}
theorem Gn {c:Nat} (h:c∈jv rs):j9 rs (l9 rs c):=(DP h).fl
theorem Kq:xZ rs fs rs' fs'=none↔∀ c∈jv rs,∃ g,j9 rs' g∧sO rs fs rs' fs' (l9 rs c) g:=by
  unfold xZ
  rw [List.find?_eq_none]
  constructor
  · intro h c hc
    exact Classical.byContradiction λz=>h c hc (P8 z)
  · intro h c hc z
    rw [Qj λy=>y (h c hc)] at z
    cases z
theorem DE (h1:∀ f,j9 rs f->∃ g,j9 rs' g∧sO rs fs rs' fs' f g) (h2:∀ f,j9 rs' f->∃ g,j9 rs g∧sO rs' fs' rs fs f g):nJ rs fs rs' fs'=.non:=by
  unfold nJ
  rw [Kq.mpr λc hc=>h1 _ (Gn hc),Kq.mpr λc hc=>h2 _ (Gn hc)]
theorem za (hA:gT A) (hL:bw rs) (hF:bO rs fs) (hL':bw rs') (hF':bO rs' fs') (hnm:∀ a∈fs',∃ b∈fs,b.1=a.1) (hnm':∀ b∈fs,∃ a∈fs',a.1=b.1) (hq:q (nJ rs fs rs' fs') S):gM A [aN A rs fs,aN A rs' fs'] S q x:=by
  have one:∀ {r1 r2:List LR} {s1 s2:List FR} (w:Int),bw r1->bO r1 s1->bw r2->bO r2 s2->(∀ a∈s2,∃ b∈s1,b.1=a.1)->∀ (us:List Nat) (o5 o6 o7:Option D) (kt:Kt),(∀ c∈us,c∈jv r1)->
      (∀ c,us.find? (Jm r1 s1 r2 s2)=some c->kt.rt (.tup [.int w,.tup (bx r1.length (l9 r1 c))]) S)->
      (us.find? (Jm r1 s1 r2 s2)=none->∀ o5 o6 o7,kt.nx [some (aN A rs fs),some (aN A rs' fs'),some (.int w),some (aN A r1 s1),some (aN A r2 s2),o5,o6,o7] S)->
      cE cB (bG 2 (aE (av 5) (aE (av 6) (bH)))) (oq A) (us.map (EW r1)) [some (aN A rs fs),some (aN A rs' fs'),some (.int w),some (aN A r1 s1),some (aN A r2 s2),o5,o6,o7] S kt:=λ{r1 r2 s1 s2} w a1 a2 b1 b2 nm us=>by
    induction us with
    | nil=>exact λo5 o6 o7 kt _ _ k2=>⟨trivial,k2 rfl _ _ _⟩
    | cons c us ih=>
      intro o5 o6 o7 kt hu k1 k2
      have hc:=hu c (List.mem_cons_self ..)
      have ih':=λo5 o6 o7=>ih o5 o6 o7 kt (λy hy=>hu y (List.mem_cons_of_mem _ hy))
      rw [List.map_cons]
      refine gR λF hF2=>⟨trivial,?_⟩
      unfold oq
      unfold EW
      simp? [xT]
      refine QT hA a1 a2 b1 b2 (Gn hc) nm (λg g1 g2=>?_) (λno=>?_)
      · have hd:¬ E1 r1 s1 r2 s2 c:=λz=>z ⟨g,g1,g2⟩
        have e0:∀ S,gW false S (.tup (bx r2.length g)) .non=some (.bl false):=λ_=>rfl
        rw [List.find?_cons,Qj hd] at k1 k2
        simp? [e0]
        rw [hF2]
        exact ih' _ _ _ k1 k2
      · have e0:∀ S,gW false S .non .non=some (.bl true):=λ_=>rfl
        rw [List.find?_cons,P8 no] at k1
        simp? [e0]
        exact k1 c rfl
  have hcl:∀ r1:List LR,(jv r1).length≤r1.length:=λr1=>by
    unfold jv
    have:=List.length_filter_le (λc=>!eO r1 c) (List.range r1.length)
    rw [List.length_range] at this
    exact this
  have h12:=hL.hi
  have h12':=hL'.hi
  have c1:=hcl rs
  have c2:=hcl rs'
  rw [wU]
  unfold aG aM
  simp only [List.map_cons,List.map_nil,List.length_cons,List.length_nil,Nat.reduceAdd,Nat.reduceSub,List.replicate,List.cons_append,List.nil_append,List.append_nil,Nat.zero_add]
  unfold qm
  refine ay λN_ hN_=>?_
  simp? []
  refine JI hA hF hF' hnm hnm' ?_
  simp? []
  subst hN_
  refine ay λN_ hN_=>?_
  simp? []
  refine gR λF hF2=>⟨trivial,?_⟩
  unfold n8
  simp? []
  refine Cc hL ?_
  simp? [List.length_map,aA (n:=(jv rs).length) (by omega)]
  refine one 0 hL hF hL' hF' hnm (jv rs) none none none _ (λc hc=>hc) (λc hc=>?_) (λhno o5 o6 o7=>?_)
  · have e:nJ rs fs rs' fs'=.tup [.int 0,.tup (bx rs.length (l9 rs c))]:=by
      unfold nJ
      rw [show xZ rs fs rs' fs'=some c from hc]
    rw [e] at hq
    show fin S.length (.tup [.int 0,.tup (bx rs.length (l9 rs c))]) S q
    rw [C_]
    exact hq
  · dsimp only
    rw [hF2]
    refine gR λF hF3=>⟨trivial,?_⟩
    unfold n8
    simp? []
    refine Cc hL' ?_
    simp? [List.length_map,aA (n:=(jv rs').length) (by omega)]
    refine one 1 hL' hF' hL hF hnm' (jv rs') _ _ _ _ (λc hc=>hc) (λc hc=>?_) (λhno2 o5 o6 o7=>?_)
    · have e:nJ rs fs rs' fs'=.tup [.int 1,.tup (bx rs'.length (l9 rs' c))]:=by
        unfold nJ
        rw [show xZ rs fs rs' fs'=none from hno,show xZ rs' fs' rs fs=some c from hc]
      rw [e] at hq
      show fin S.length (.tup [.int 1,.tup (bx rs'.length (l9 rs' c))]) S q
      rw [C_]
      exact hq
    · have e:nJ rs fs rs' fs'=.non:=by
        unfold nJ
        rw [show xZ rs fs rs' fs'=none from hno,show xZ rs' fs' rs fs=none from hno2]
      rw [e] at hq
      dsimp only
      rw [hF3]
      refine ⟨trivial,?_⟩
      dsimp only
      subst hN_
      simp? []
      exact hq
theorem qA (hA:gT A) (hL:bw rs) (hF:bO rs fs) (hL':bw rs') (hF':bO rs' fs') (hnm:∀ a∈fs',∃ b∈fs,b.1=a.1) (hnm':∀ b∈fs,∃ a∈fs',a.1=b.1) (he:nJ rs fs rs' fs'=.non) (hq:q (.bl true) S):fV A [aN A rs fs,aN A rs' fs'] S q x:=by
  have e0:∀ S,gW false S .non .non=some (.bl true):=λ_=>rfl
  rw [vG]
  unfold aG aM
  simp only [List.map_cons,List.map_nil,List.length_cons,List.length_nil,Nat.reduceAdd,Nat.reduceSub,List.replicate,List.cons_append,List.nil_append,List.append_nil,Nat.zero_add]
  unfold oU
  simp? []
  refine za hA hL hF hL' hF' hnm hnm' ?_
  rw [he]
  simp? [e0]
  exact hq
end
end RV
end
section
namespace RV
open PySem L2
def cR:b7:=("",0,0)
def eN (s:List Nat) (j:Nat):Nat:=s.getD j 0
def ua (s:List Nat) (i:Nat):Nat:=s.idxOf i
section
variable {s:List Nat} {i j p:Nat} {φ:Nat->Int}
theorem sU (hj:j < s.length):s[j]=eN s j:=by
  unfold eN
  rw [List.getD_eq_getElem?_getD,List.getElem?_eq_getElem hj]
  rfl
theorem oB (hj:j < s.length):eN s j∈s:=by
  rw [← sU hj]
  exact List.getElem_mem _
theorem Bg (h:i∈s):ua s i < s.length:=List.idxOf_lt_length_of_mem h
theorem DV (h:i∈s):eN s (ua s i)=i:=by
  unfold ua
  rw [← sU (List.idxOf_lt_length_of_mem h)]
  exact List.getElem_idxOf _
theorem Ux (nd:s.Nodup) (hi:i < s.length) (hj:j < s.length) (e:eN s i=eN s j):i=j:=by
  rw [← sU hi,← sU hj] at e
  rcases Nat.lt_trichotomy i j with z | z | z
  · exact absurd e (List.pairwise_iff_getElem.mp nd i j hi hj z)
  · exact z
  · exact absurd e.symm (List.pairwise_iff_getElem.mp nd j i hj hi z)
theorem WT (nd:s.Nodup) (hj:j < s.length):ua s (eN s j)=j:=Ux nd (Bg (oB hj)) hj (DV (oB hj))
theorem PY {a b:List Nat} (h:a.Perm b):(a.map φ).sum=(b.map φ).sum:=by
  induction h with
  | nil=>rfl
  | cons x _ ih=>simp only [List.map_cons,List.sum_cons,ih]
  | swap x y l=>simp only [List.map_cons,List.sum_cons]; omega
  | trans _ _ i1 i2=>exact i1.trans i2
theorem sE:∀ {m:Nat},aL φ m=((List.range m).map φ).sum
  | 0=>rfl
  | m+1=>by
    rw [List.range_succ,List.map_append,List.sum_append,← sE]
    simp [aL]
theorem Hz (nd:s.Nodup) (hs:∀ i∈s,i < p):aL (λj=>φ (eN s j)) s.length=aL (λi=>if i∈s then φ i else 0) p:=by
  have e1:aL (λj=>φ (eN s j)) s.length=(s.map φ).sum:=by
    rw [sE]
    congr 1
    refine List.ext_getElem (by simp) λk h1 h2=>?_
    rw [List.length_map] at h2
    simp [sU h2]
  have pm:s.Perm ((List.range p).filter λi=>decide (i∈s)):=(List.perm_ext_iff_of_nodup nd (List.Pairwise.filter _ List.nodup_range)).mpr λi=>by
    rw [List.mem_filter,List.mem_range,decide_eq_true_eq]
    exact ⟨λh=>⟨hs i h,h⟩,λh=>h.2⟩
  have e2:∀ l:List Nat,((l.filter λi=>decide (i∈s)).map φ).sum=(l.map λi=>if i∈s then φ i else 0).sum:=λl=>by
    induction l with
    | nil=>rfl
    | cons a l ih=>
      rw [List.filter_cons,List.map_cons,List.sum_cons]
      by_cases h:a∈s
      · rw [decide_eq_true h,if_pos rfl,List.map_cons,List.sum_cons,ih,if_pos h]
      · rw [decide_eq_false h,if_neg (by decide),ih,if_neg h,Int.zero_add]
  rw [e1,PY pm,e2,sE]
end
def nG (pp:List b7) (e:Option Nat) (y:Nat):Nat:=match e with
  | some e=>if y=(pp.getD e cR).2.2 then (pp.getD e cR).2.1 else y
  | none=>y
structure nu (pn:List Str) (pp:List b7) (gg:List b_) (pn':List Str) (pp':List b7) (gg':List b_) (κ τ:List Nat) (e:Option Nat):Prop where
  nd:κ.Nodup
  mem:∀ i,i∈κ↔i < pp.length∧e≠some i
  he:∀ k,e=some k->k < pp.length
  pl:pp'.length=κ.length
  nl:pn'.length=pn.length
  ed:∀ j,j < κ.length->(pp'.getD j cR).2=(nG pp e (pp.getD (eN κ j) cR).2.1,nG pp e (pp.getD (eN κ j) cR).2.2)
  tn:τ.Nodup
  tm:∀ k,k∈τ↔k < gg.length
  gl:gg'.length=τ.length
  gn:∀ j,j < τ.length->(gg'.getD j zG).1=(gg.getD (eN τ j) zG).1
  ga:∀ j,j < τ.length->(gg'.getD j zG).2.1 < κ.length∧eN κ (gg'.getD j zG).2.1=(gg.getD (eN τ j) zG).2.1
section
variable {most more most' more' i j:Nat} {pn pn':List Str} {pp pp':List b7} {gg gg':List b_} {κ τ:List Nat} {e:Option Nat} {F G:Nat->Int}
theorem Ay (pp:List b7) (F:Nat->Int) (y:Nat):bL (fW pp) F y=aL (λi=>(if (pp.getD i cR).2.2=y then F i else 0) - (if (pp.getD i cR).2.1=y then F i else 0)) pp.length:=rfl
def OQ (pp:List b7) (F:Nat->Int) (e:Option Nat) (y:Nat):Int:=match e with
  | none=>bL (fW pp) F y
  | some k=>if y=(pp.getD k cR).2.2 then 0 else if y=(pp.getD k cR).2.1 then bL (fW pp) F (pp.getD k cR).2.1+bL (fW pp) F (pp.getD k cR).2.2 else bL (fW pp) F y
theorem WL {a b x y:Nat} {f:Int} (hne:¬ y=x):(if (if a=x then y else a)=y then f else 0) - (if (if b=x then y else b)=y then f else 0)=((if a=y then f else 0) - (if b=y then f else 0))+((if a=x then f else 0) - (if b=x then f else 0)):=by
  have g:∀ a:Nat,(if (if a=x then y else a)=y then f else 0)=(if a=y then f else 0)+(if a=x then f else 0):=λa=>by
    by_cases a1:a=x
    · rw [if_pos a1,if_pos rfl,if_pos a1,if_neg (show ¬ a=y from λz=>hne (z.symm.trans a1)),Int.zero_add]
    · rw [if_neg a1,if_neg a1,Int.add_zero]
  rw [g a,g b]
  omega
theorem Qz {a b x y w:Nat} {f:Int} (h1:¬ w=x) (h2:¬ w=y):(if (if a=x then y else a)=w then f else 0) - (if (if b=x then y else b)=w then f else 0)=(if a=w then f else 0) - (if b=w then f else 0):=by
  have g:∀ a:Nat,(if (if a=x then y else a)=w then f else 0)=if a=w then f else 0:=λa=>by
    by_cases a1:a=x
    · rw [if_pos a1,if_neg (show ¬ y=w from λz=>h2 z.symm),if_neg (show ¬ a=w from λz=>h1 (z.symm.trans a1))]
    · rw [if_neg a1]
  rw [g a,g b]
theorem Ge (h:bK most more pn pp gg) (t:nu pn pp gg pn' pp' gg' κ τ e) (y:Nat):bL (fW pp') (λj=>F (eN κ j)) y=OQ pp F e y:=by
  have e1:bL (fW pp') (λj=>F (eN κ j)) y=aL (λi=>if i∈κ then (if nG pp e (pp.getD i cR).2.2=y then F i else 0) - (if nG pp e (pp.getD i cR).2.1=y then F i else 0) else 0) pp.length:=by
    rw [Ay,t.pl,← Hz (φ:=λi=>(if nG pp e (pp.getD i cR).2.2=y then F i else 0) - (if nG pp e (pp.getD i cR).2.1=y then F i else 0)) t.nd λi hi=>((t.mem i).mp hi).1]
    refine aY λj hj=>?_
    rw [t.ed j hj]
  rw [e1]
  cases e with
  | none=>
    show _=bL (fW pp) F y
    rw [Ay]
    refine aY λi hi=>?_
    rw [if_pos ((t.mem i).mpr ⟨hi,λz=>by cases z⟩)]
    rfl
  | some k=>
    have hk:=t.he k rfl
    have hne:=(h.en _ (getD_mem (z:=cR) hk)).2.2
    have mm:∀ i,i < pp.length->(i∈κ↔i≠k):=λi hi=>by
      rw [t.mem i]
      exact ⟨λz w=>z.2 (by rw [w]),λz=>⟨hi,λw=>z (by cases w; rfl)⟩⟩
    dsimp only [OQ]
    split
    · next hy=>
      subst hy
      refine eG λi hi=>?_
      split
      · unfold nG
        dsimp only
        have a:∀ z:Nat,¬ (if z=(pp.getD k cR).2.2 then (pp.getD k cR).2.1 else z)=(pp.getD k cR).2.2:=λz=>by
          split
          · exact hne
          · assumption
        rw [if_neg (a _),if_neg (a _)]
        rfl
      · rfl
    · next hy=>
      split
      · next hy2=>
        subst hy2
        rw [Ay,Ay,← lN]
        refine aY λi hi=>?_
        by_cases hik:i=k
        · subst hik
          rw [if_neg λz=>((mm i hi).mp z) rfl]
          have hq:¬ (pp.getD i cR).2.2=(pp.getD i cR).2.1:=λz=>hne z.symm
          simp only [if_true,if_neg hne,if_neg hq]
          omega
        · rw [if_pos ((mm i hi).mpr hik)]
          unfold nG
          dsimp only
          exact WL hne
      · next hy2=>
        rw [Ay]
        refine aY λi hi=>?_
        by_cases hik:i=k
        · subst hik
          rw [if_neg λz=>((mm i hi).mp z) rfl,if_neg λz=>hy z.symm,if_neg λz=>hy2 z.symm]
          rfl
        · rw [if_pos ((mm i hi).mpr hik)]
          unfold nG
          dsimp only
          exact Qz hy hy2
theorem IZ (h:bK most more pn pp gg) (t:nu pn pp gg pn' pp' gg' κ τ e) (hF:∀ y,y < pn.length->bL (fW pp) F y=0):∀ y,y < pn'.length->bL (fW pp') (λj=>F (eN κ j)) y=0:=λy hy=>by
  rw [t.nl] at hy
  rw [Ge h t]
  cases e with
  | none=>exact hF y hy
  | some k=>
    have hk:=t.he k rfl
    have:=h.en _ (getD_mem (z:=cR) hk)
    dsimp only [OQ]
    split
    · rfl
    · split
      · rw [hF _ this.1,hF _ this.2.1]
        rfl
      · exact hF y hy
theorem OJ (h:bK most more pn pp gg) (t:nu pn pp gg pn' pp' gg' κ τ e) (hG:∀ y,y < pn'.length->bL (fW pp') G y=0):∃ F,(∀ y,y < pn.length->bL (fW pp) F y=0)∧∀ j,j < κ.length->F (eN κ j)=G j:=by
  let F0:Nat->Int:=λi=>if i∈κ then G (ua κ i) else 0
  have a0:∀ j,j < κ.length->F0 (eN κ j)=G j:=λj hj=>by
    show (if eN κ j∈κ then G (ua κ (eN κ j)) else 0)=G j
    rw [if_pos (oB hj),WT t.nd hj]
  have nn:∀ F:Nat->Int,(∀ j,j < κ.length->F (eN κ j)=G j)->∀ y,bL (fW pp') (λj=>F (eN κ j)) y=bL (fW pp') G y:=λF hF y=>LW λj hj=>hF j (by
    have:j < pp'.length:=hj
    rw [t.pl] at this
    exact this)
  cases e with
  | none=>
    refine ⟨F0,λy hy=>?_,a0⟩
    have:=Ge (F:=F0) h t y
    rw [nn F0 a0] at this
    rw [← show OQ pp F0 none y=bL (fW pp) F0 y from rfl,← this]
    exact hG y (by rw [t.nl]; exact hy)
  | some k=>
    have hk:=t.he k rfl
    have hen:=h.en _ (getD_mem (z:=cR) hk)
    have hkn:k∉κ:=λz=>((t.mem k).mp z).2 rfl
    let F:Nat->Int:=λi=>F0 i+if i=k then -bL (fW pp) F0 (pp.getD k cR).2.2 else 0
    have aF:∀ j,j < κ.length->F (eN κ j)=G j:=λj hj=>by
      have:eN κ j≠k:=λz=>hkn (by rw [← z]; exact oB hj)
      show F0 (eN κ j)+(if eN κ j=k then _ else 0)=G j
      rw [if_neg this,a0 j hj,Int.add_zero]
    have nF:∀ y,bL (fW pp) F y=bL (fW pp) F0 y+((if (pp.getD k cR).2.2=y then -bL (fW pp) F0 (pp.getD k cR).2.2 else 0) - (if (pp.getD k cR).2.1=y then -bL (fW pp) F0 (pp.getD k cR).2.2 else 0)):=λy=>by
      have:=m6 (G:=fW pp) (f:=F0) (g:=λi=>if i=k then -bL (fW pp) F0 (pp.getD k cR).2.2 else 0) (x:=y)
      rw [sW (G:=fW pp) (show k < (fW pp).m from hk)] at this
      exact this
    have zt:bL (fW pp) F (pp.getD k cR).2.2=0:=by
      rw [nF,if_pos rfl,if_neg hen.2.2]
      omega
    refine ⟨F,λy hy=>?_,aF⟩
    have:=Ge (F:=F) h t y
    rw [nn F aF,hG y (by rw [t.nl]; exact hy)] at this
    dsimp only [OQ] at this
    by_cases y1:y=(pp.getD k cR).2.2
    · rw [y1]; exact zt
    · rw [if_neg y1] at this
      by_cases y2:y=(pp.getD k cR).2.1
      · rw [if_pos y2,zt] at this
        rw [y2]
        omega
      · rw [if_neg y2] at this
        exact this.symm
end
end RV
end
section
namespace RV
open PySem L2
def nV (gg:List b_) (F:Nat->Int):Nat:=(gg.filter λg=>!decide (F g.2.1=0)).length
structure C9 (pn:List Str) (pp:List b7) (gg:List b_) (p:Nat) (F:Nat->Int):Prop where
  z:∀ y,y < pn.length->bL (fW pp) F y=0
  one:F p=1
  s:∀ g∈gg,g.2.2=true->F g.2.1=0
section
variable {most more most' more' p a j:Nat} {pn pn':List Str} {pp pp':List b7} {gg gg':List b_} {κ τ:List Nat} {e:Option Nat} {F G:Nat->Int}
theorem Hr (h:bK most more pn pp gg):cost F (z6 pp gg) pp.length=(nV gg F:Nat):=by
  unfold nV
  rw [← z8 h.ga]
  unfold cost
  refine aY λi hi=>?_
  rw [OW h hi]
theorem XZ (h:bK most more pn pp gg) (hF:C9 pn pp gg p F) {nm:Str}:Kz (bq (ju pn pp gg nm)) (kG pn pp).length p (pD pp gg) F where
  z:=(ur h).mp hF.z
  p:=hF.one
  s i hi hs:=by
    rw [Ko] at hi
    obtain ⟨g,hg,rfl,h2⟩:=(vH h hi).mp hs
    exact hF.s g hg h2
theorem Dq (h:bK most more pn pp gg) (hp:p < pp.length) (hF:C9 pn pp gg p F):∃ a,l_ (cI pn pp) (cQ pp gg) (rowAt pn pp p)=some a∧a≤nV gg F:=by
  have hn:∀ e∈ju pn pp gg (g_ pp p),e.1 < (kG pn pp).length∧e.2.1 < (kG pn pp).length:=Ef rfl
  have hp':p < (ju pn pp gg (g_ pp p)).length:=by rw [oM]; exact hp
  obtain ⟨h1,far,h2,h3⟩:=z_ hn hp' (Qy h hp) (XZ h hF)
  rw [oM,Hr h] at h3
  refine ⟨far+(uc (cQ pp gg) (rowAt pn pp p).1).length,?_,?_⟩
  · unfold l_
    rw [Gi hp,h2]
    dsimp only
    rw [show mK (cQ pp gg) (rowAt pn pp p).1=false from h1,if_neg (by decide)]
  · have e:(((uc (cQ pp gg) (rowAt pn pp p).1).length:Nat):Int)=z6 pp gg p:=rfl
    omega
theorem Gu (h:bK most more pn pp gg) (hp:p < pp.length) (ha:l_ (cI pn pp) (cQ pp gg) (rowAt pn pp p)=some a):∃ F,C9 pn pp gg p F∧nV gg F≤a:=by
  have hn:∀ e∈ju pn pp gg (g_ pp p),e.1 < (kG pn pp).length∧e.2.1 < (kG pn pp).length:=Ef rfl
  have hp':p < (ju pn pp gg (g_ pp p)).length:=by rw [oM]; exact hp
  unfold l_ at ha
  rw [Gi hp] at ha
  cases hd:iQ (kB (ju pn pp gg (g_ pp p)) (kG pn pp).length ((bq (ju pn pp gg (g_ pp p))).t p)) ((bq (ju pn pp gg (g_ pp p))).s p) with
  | none=>rw [hd] at ha; cases ha
  | some far=>
    rw [hd] at ha
    dsimp only at ha
    cases hs:mK (cQ pp gg) (rowAt pn pp p).1 with
    | true=>rw [hs,if_pos rfl] at ha; cases ha
    | false=>
      rw [hs,if_neg (by decide)] at ha
      cases ha
      obtain ⟨f,hf,hu,hc⟩:=CF hn hp' (Qy h hp) (show pD pp gg p=false from hs) hd
      rw [oM,Hr h] at hc
      refine ⟨f,⟨(ur h).mpr hf.z,hf.p,λg hg h2=>hf.s _ (by rw [Ko]; exact h.ga g hg) ((vH h (h.ga g hg)).mpr ⟨g,hg,rfl,h2⟩)⟩,?_⟩
      have e:(((uc (cQ pp gg) (rowAt pn pp p).1).length:Nat):Int)=z6 pp gg p:=rfl
      omega
theorem IT:((nV gg F:Nat):Int)=aL (λi=>if F (gg.getD i zG).2.1=0 then 0 else 1) gg.length:=by
  rw [sE]
  have:∀ l:List b_,(((l.filter λg=>!decide (F g.2.1=0)).length:Nat):Int)=(l.map λg=>if F g.2.1=0 then (0:Int) else 1).sum:=λl=>by
    induction l with
    | nil=>rfl
    | cons a l ih=>
      rw [List.filter_cons,List.map_cons,List.sum_cons,← ih]
      by_cases z:F a.2.1=0
      · rw [decide_eq_true z,Bool.not_true,if_neg (by decide),if_pos z,Int.zero_add]
      · rw [decide_eq_false z,Bool.not_false,if_pos rfl,if_neg z,List.length_cons]
        omega
  unfold nV
  rw [this]
  congr 1
  refine List.ext_getElem (by simp) λi h1 h2=>?_
  rw [List.length_map] at h1
  simp [List.getD_eq_getElem?_getD,List.getElem?_eq_getElem h1]
theorem Lz (t:nu pn pp gg pn' pp' gg' κ τ e):nV gg' (λj=>F (eN κ j))=nV gg F:=by
  have e1:((nV gg' (λj=>F (eN κ j)):Nat):Int)=((nV gg F:Nat):Int):=by
    rw [IT,IT,t.gl]
    have:=Hz (φ:=λi=>if F (gg.getD i zG).2.1=0 then (0:Int) else 1) (p:=gg.length) t.tn λi hi=>(t.tm i).mp hi
    rw [aY (h:=λj=>if F (gg.getD (eN τ j) zG).2.1=0 then (0:Int) else 1) λj hj=>by
      show (if F (eN κ (gg'.getD j zG).2.1)=0 then _ else _)=_
      rw [(t.ga j hj).2],this]
    exact aY λi hi=>if_pos ((t.tm i).mpr hi)
  omega
theorem MY (h:∀ g∈gg,F g.2.1=G g.2.1):nV gg F=nV gg G:=by
  unfold nV
  congr 1
  exact List.filter_congr λg hg=>by rw [h g hg]
theorem DZ (t:nu pn pp gg pn' pp' gg' κ τ e):∀ g'∈gg',∃ g∈gg,∃ j,j < τ.length∧g'=gg'.getD j zG∧g=gg.getD (eN τ j) zG:=λg' hg=>by
  obtain ⟨j,hj,rfl⟩:=List.mem_iff_getElem.mp hg
  have hj2:j < τ.length:=by rw [← t.gl]; exact hj
  exact ⟨_,getD_mem ((t.tm _).mp (oB hj2)),j,hj2,by rw [List.getD_eq_getElem?_getD,List.getElem?_eq_getElem hj]; rfl,rfl⟩
theorem Uk (h:bK most more pn pp gg) (h':bK most' more' pn' pp' gg') (t:nu pn pp gg pn' pp' gg' κ τ e) (hs:∀ j,j < τ.length->(gg'.getD j zG).2.2=(gg.getD (eN τ j) zG).2.2) (hj:j < κ.length):l_ (cI pn' pp') (cQ pp' gg') (rowAt pn' pp' j)=l_ (cI pn pp) (cQ pp gg) (rowAt pn pp (eN κ j)):=by
  have hj':j < pp'.length:=by rw [t.pl]; exact hj
  have hp:eN κ j < pp.length:=((t.mem _).mp (oB hj)).1
  have dn:∀ F,C9 pn pp gg (eN κ j) F->C9 pn' pp' gg' j (λi=>F (eN κ i)):=λF hF=>⟨IZ h t hF.z,hF.one,λg' hg h2=>by
    obtain ⟨g,h3,i,hi,rfl,rfl⟩:=DZ t g' hg
    show F (eN κ _)=0
    rw [(t.ga i hi).2]
    exact hF.s _ h3 (by rw [← hs i hi]; exact h2)⟩
  have up:∀ G,C9 pn' pp' gg' j G->∃ F,C9 pn pp gg (eN κ j) F∧nV gg F=nV gg' G:=λG hG=>by
    obtain ⟨F,h1,h2⟩:=OJ h t hG.z
    refine ⟨F,⟨h1,by rw [h2 j hj]; exact hG.one,λg hg h3=>?_⟩,?_⟩
    · obtain ⟨k,hk,rfl⟩:=List.mem_iff_getElem.mp hg
      have hkt:k∈τ:=(t.tm k).mpr hk
      have ei:eN τ (ua τ k)=k:=DV hkt
      have hi:=Bg hkt
      have eg:gg.getD k zG=gg[k]:=by rw [List.getD_eq_getElem?_getD,List.getElem?_eq_getElem hk]; rfl
      have g1:=(t.ga _ hi).2
      have g2:=hs _ hi
      rw [ei,eg] at g1 g2
      rw [← g1,h2 _ (t.ga _ hi).1]
      exact hG.s _ (getD_mem (by rw [t.gl]; exact hi)) (by rw [g2]; exact h3)
    · rw [← Lz t (F:=F)]
      refine MY λg hg=>?_
      obtain ⟨_,_,i,hi,rfl,_⟩:=DZ t g hg
      exact h2 _ (t.ga i hi).1
  cases e1:l_ (cI pn' pp') (cQ pp' gg') (rowAt pn' pp' j) with
  | none=>
    cases e2:l_ (cI pn pp) (cQ pp gg) (rowAt pn pp (eN κ j)) with
    | none=>rfl
    | some a=>
      obtain ⟨F,hF,_⟩:=Gu h hp e2
      obtain ⟨b,hb,_⟩:=Dq h' hj' (dn F hF)
      rw [e1] at hb
      cases hb
  | some b=>
    obtain ⟨G,hG,hb⟩:=Gu h' hj' e1
    obtain ⟨F,hF,he⟩:=up G hG
    obtain ⟨a,ha,hc⟩:=Dq h hp hF
    obtain ⟨F2,hF2,hc2⟩:=Gu h hp ha
    obtain ⟨b2,hb2,hc3⟩:=Dq h' hj' (dn F2 hF2)
    rw [e1] at hb2
    cases hb2
    rw [Lz t] at hc3
    rw [ha,show b=a by omega]
theorem vc (h:bK most more pn pp gg):(∀ y,y < pn.length->bL (fW pp) F y=0)↔j9 (cI pn pp) F:=by
  rw [ur (nm:="") h]
  have e:∀ x,bL (bq (ju pn pp gg "")) F x=bL (dS (aT (cI pn pp))) F x:=λx=>by
    rw [xP]
    exact V5
  simp only [e]
  exact Iff.rfl
theorem Eo (h:bK most more pn pp gg) {g:b_} (hg:g∈gg):fU (cI pn pp) (g.1,(pp.getD g.2.1 ("",0,0)).1,g.2.2)=g.2.1:=by
  have hi:=h.ga g hg
  have em:(cI pn pp).map (·.1)=pp.map (·.1):=by simp [cI,Function.comp_def]
  unfold fU
  rw [em]
  show pos (pp.getD g.2.1 ("",0,0)).1 (pp.map (·.1))=g.2.1
  have hm:(pp.getD g.2.1 ("",0,0)).1∈pp.map (·.1):=List.mem_map.mpr ⟨_,getD_mem hi,rfl⟩
  refine getD_inj (z:=("":Str)) h.nd (pA hm) (by rw [List.length_map]; exact hi) ?_
  rw [sP hm]
  simp only [List.getD_eq_getElem?_getD,List.getElem?_map,List.getElem?_eq_getElem hi]
  rfl
theorem CO (h:bK most more pn pp gg) (h':bK most' more' pn' pp' gg') (t:nu pn pp gg pn' pp' gg' κ τ e) {g g':b_} (hg:g∈gg) (hg':g'∈gg') (en:g.1=g'.1):g'.2.1 < κ.length∧eN κ g'.2.1=g.2.1:=by
  obtain ⟨g0,h0,j,hj,rfl,rfl⟩:=DZ t g' hg'
  have eq:g=gg.getD (eN τ j) zG:=by
    obtain ⟨k,hk,rfl⟩:=List.mem_iff_getElem.mp hg
    have hk2:=(t.tm _).mp (oB hj)
    have e1:(gg[k]).1=(gg.getD (eN τ j) zG).1:=en.trans (t.gn j hj)
    have e2:∀ i (hi:i < gg.length),(gg.map (·.1)).getD i ("":Str)=(gg.getD i zG).1:=λi hi=>by
      rw [List.getD_eq_getElem?_getD,List.getElem?_map,List.getElem?_eq_getElem hi,List.getD_eq_getElem?_getD,List.getElem?_eq_getElem hi]
      rfl
    have eg:gg.getD k zG=gg[k]:=by rw [List.getD_eq_getElem?_getD,List.getElem?_eq_getElem hk]; rfl
    have:k=eN τ j:=getD_inj (z:=("":Str)) h.gd (by rw [List.length_map]; exact hk) (by rw [List.length_map]; exact hk2) (by rw [e2 k hk,e2 _ hk2,eg]; exact e1)
    rw [← this,eg]
  rw [eq]
  exact t.ga j hj
theorem ue {b:FR} (hb:b∈cQ pp gg):∃ g∈gg,b=(g.1,(pp.getD g.2.1 ("",0,0)).1,g.2.2):=by
  obtain ⟨g,hg,rfl⟩:=List.mem_map.mp hb
  exact ⟨g,hg,rfl⟩
theorem J6 (h:bK most more pn pp gg) (h':bK most' more' pn' pp' gg') (t:nu pn pp gg pn' pp' gg' κ τ e) (hf:j9 (cI pn pp) F):∃ g,j9 (cI pn' pp') g∧sO (cI pn pp) (cQ pp gg) (cI pn' pp') (cQ pp' gg') F g:=by
  refine ⟨_,(vc h').mp (IZ h t ((vc h).mpr hf)),λb hb a ha en=>?_⟩
  obtain ⟨g,hg,rfl⟩:=ue hb
  obtain ⟨g',hg',rfl⟩:=ue ha
  obtain ⟨_,e2⟩:=CO h h' t hg hg' en
  rw [Eo h hg,Eo h' hg']
  show F (eN κ g'.2.1)=F g.2.1
  rw [e2]
theorem Ht (h:bK most more pn pp gg) (h':bK most' more' pn' pp' gg') (t:nu pn pp gg pn' pp' gg' κ τ e) (hf:j9 (cI pn' pp') G):∃ g,j9 (cI pn pp) g∧sO (cI pn' pp') (cQ pp' gg') (cI pn pp) (cQ pp gg) G g:=by
  obtain ⟨F,h1,h2⟩:=OJ h t ((vc h').mpr hf)
  refine ⟨F,(vc h).mp h1,λa ha b hb en=>?_⟩
  obtain ⟨g,hg,rfl⟩:=ue hb
  obtain ⟨g',hg',rfl⟩:=ue ha
  obtain ⟨e1,e2⟩:=CO h h' t hg hg' en.symm
  rw [Eo h hg,Eo h' hg']
  show F g.2.1=G g'.2.1
  rw [← e2,h2 _ e1]
theorem Hl (t:nu pn pp gg pn' pp' gg' κ τ e):(∀ a∈cQ pp' gg',∃ b∈cQ pp gg,b.1=a.1)∧∀ b∈cQ pp gg,∃ a∈cQ pp' gg',a.1=b.1:=by
  constructor
  · intro a ha
    obtain ⟨g',hg',rfl⟩:=ue ha
    obtain ⟨g,h0,j,hj,rfl,rfl⟩:=DZ t g' hg'
    exact ⟨_,List.mem_map.mpr ⟨_,h0,rfl⟩,(t.gn j hj).symm⟩
  · intro b hb
    obtain ⟨g,hg,rfl⟩:=ue hb
    obtain ⟨k,hk,rfl⟩:=List.mem_iff_getElem.mp hg
    have hkt:k∈τ:=(t.tm k).mpr hk
    have hi:=Bg hkt
    refine ⟨_,List.mem_map.mpr ⟨gg'.getD (ua τ k) zG,getD_mem (by rw [t.gl]; exact hi),rfl⟩,?_⟩
    show (gg'.getD (ua τ k) zG).1=gg[k].1
    rw [t.gn _ hi,DV hkt,List.getD_eq_getElem?_getD,List.getElem?_eq_getElem hk]
    rfl
end
end RV
end
section
namespace RV
open PySem L2
theorem HG {p:Nat}:∀ {l:List Nat},p∈l->(l.map bX).findIdx? (λy=>n9 y (.int (p:Int)))=some (ua l p)
  | a :: l,h=>by
    have e:n9 (bX a) (.int (p:Int))=decide (a=p):=by
      show n9 (.int (a:Int)) (.int (p:Int))=_
      simp only [n9]
      rw [Bool.eq_iff_iff]
      simp
      omega
    rw [List.map_cons,List.findIdx?_cons,e]
    unfold ua
    rw [List.idxOf_cons]
    by_cases z:a=p
    · subst z
      simp
    · have hm:p∈l:=(List.mem_cons.mp h).resolve_left λy=>z y.symm
      have ih:=HG hm
      unfold ua at ih
      have z2:(a == p)=false:=beq_eq_false_iff_ne.mpr z
      rw [decide_eq_false z,if_neg (by simp),ih,Option.map_some,z2]
      rfl
theorem KZ {p:Nat} {l:List Nat} (h:p∈l):q7 (l.map bX) (.int (p:Int))=some (.int (ua l p:Nat)):=by
  have fl:(l.map bX).all kF=true:=by
    rw [List.all_map]
    exact List.all_eq_true.mpr λ_ _=>rfl
  unfold q7
  rw [if_pos ⟨rfl,fl⟩,HG h]
  rfl
section
variable {S:WS}
theorem Kv:qO S (.lst []) (.lst [])=some true:=by
  have hs:SeqAt.shaped (.list [])=true:=by decide
  unfold qO oN
  simp only [show kY (.lst []) (.lst [])=none from rfl,show CB S (.lst [])=some (.list []) from rfl,Option.bind_some,hs,and_self,if_true,SeqAt.eqv_refl (.list []) rfl,Option.orElse,Option.map_some]
theorem Hx {d:D} {ds:List D}:qO S (.lst (d :: ds)) (.lst [])=some false:=by
  have hl:Bx S (.lst (d :: ds)) (.lst [])=some false:=by simp [Bx,yX]
  unfold qO
  rw [show kY (.lst (d :: ds)) (.lst [])=none from rfl,hl]
  unfold oN
  cases hp:CB S (.lst (d :: ds)) with
  | none=>rfl
  | some p=>
    have e2:CB S (.lst [])=some (.list []):=rfl
    rw [e2,Option.bind_some,Option.bind_some]
    split
    · have:PyData.eqv p (.list [])=false:=by
        simp only [CB,D.py,Option.map_eq_some_iff] at hp
        obtain ⟨ps,h1,rfl⟩:=hp
        cases ps with
        | nil=>
          simp only [D.Ac] at h1
          simp [Option.bind_eq_some_iff] at h1
        | cons=>rfl
      rw [this]
      rfl
    · rfl
theorem Uu {ds:List D}:ni S (.lst ds) (.lst [])=some (.bl (!ds.isEmpty)):=by
  unfold ni
  cases ds with
  | nil=>rw [Kv]; rfl
  | cons d ds=>rw [Hx]; rfl
theorem Tz {ds:List D}:kj S (.lst ds) (.lst [])=some (.bl ds.isEmpty):=by
  unfold kj
  cases ds with
  | nil=>rw [Kv]; rfl
  | cons d ds=>rw [Hx]; rfl
theorem Lr {i a b:Nat}:inD false S (.int ((i:Nat):Int)) (.lst [.int ((a:Nat):Int),.int ((b:Nat):Int)])=some (.bl (decide (i=a∨i=b))):=by
  have e:∀ c:Nat,n9 (.int ((c:Nat):Int)) (.int ((i:Nat):Int))=decide (i=c):=λc=>by
    simp only [n9]
    rw [Bool.eq_iff_iff]
    simp
    omega
  simp only [inD,br,Option.bind_some,kF,List.all_cons,List.all_nil,Bool.and_self,and_self,if_true,List.any_cons,List.any_nil,e,Bool.or_false,Bool.false_eq_true,if_false]
  congr 2
  rw [Bool.eq_iff_iff]
  simp
end
theorem LX {a b:Nat}:decide (((a:Nat):Int)=((b:Nat):Int))=decide (a=b):=by
  rw [Bool.eq_iff_iff,decide_eq_true_eq,decide_eq_true_eq]
  omega
theorem O4 {s:List Nat} {j d:Nat} (h:s.Perm (List.range j)):(s.take d++[j]++s.drop d).Perm (List.range (j+1)):=by
  rw [List.range_succ]
  have e:(s.take d++[j]++s.drop d).Perm (j :: (s.take d++s.drop d)):=by
    rw [List.append_assoc]
    exact List.perm_middle
  rw [List.take_append_drop] at e
  exact e.trans ((h.cons j).trans (List.perm_append_comm (l₁:=[j]) (l₂:=List.range j)))
def zI (pp:List b7) (k:Nat) (r:b7):Bool:=decide (r.2.1=(pp.getD k cR).2.1∨r.2.1=(pp.getD k cR).2.2) && decide (r.2.2=(pp.getD k cR).2.1∨r.2.2=(pp.getD k cR).2.2)
def yT (pp:List b7) (gg:List b_) (k:Nat):Bool:=decide ((pp.filter (zI pp k)).length=1) && (gg.filter λg=>decide (g.2.1=k)).isEmpty
def iE (pp:List b7) (gg:List b_) (m:Nat):List Nat:=(List.range m).filter (yT pp gg)
structure D6 (pp:List b7) (gg:List b_) (k:Nat):Prop where
  lt:k < pp.length
  no:∀ g∈gg,g.2.1≠k
  al:∀ i,i < pp.length->i≠k->zI pp k (pp.getD i cR)=false
section
variable {A:Ad} {S T:WS} {k:Nat} {n:Int} {w:W} {q:D->WS->Prop} {x:Xq} {most more:Nat} {pn:List Str} {pp:List b7} {gg:List b_} {σ τ κ:List Nat} {e:Option Nat}
theorem K_ {α:Type} {p:α->Bool}:∀ {l:List α} {a b:α},(l.filter p).length=1->a∈l->b∈l->p a=true->p b=true->a=b:=λ{l a b} h ha hb pa pb=>by
  match e:l.filter p,h with
  | [c],_=>
    have h1:a∈l.filter p:=List.mem_filter.mpr ⟨ha,pa⟩
    have h2:b∈l.filter p:=List.mem_filter.mpr ⟨hb,pb⟩
    rw [e,List.mem_singleton] at h1 h2
    rw [h1,h2]
theorem Vp (h:bK most more pn pp gg) (hk:k∈iE pp gg pp.length):D6 pp gg k:=by
  obtain ⟨h1,h2⟩:=List.mem_filter.mp hk
  have hl:=List.mem_range.mp h1
  unfold yT at h2
  rw [Bool.and_eq_true,decide_eq_true_eq,List.isEmpty_iff] at h2
  refine ⟨hl,λg hg e=>?_,λi hi hne=>?_⟩
  · have:g∈gg.filter λg=>decide (g.2.1=k):=List.mem_filter.mpr ⟨hg,decide_eq_true e⟩
    rw [h2.2] at this
    cases this
  · cases e:zI pp k (pp.getD i cR) with
    | false=>rfl
    | true=>
      have own:zI pp k (pp.getD k cR)=true:=by
        unfold zI
        simp
      have:=K_ h2.1 (getD_mem (z:=cR) hi) (getD_mem (z:=cR) hl) e own
      exact absurd (IJ h hi hl (congrArg (·.1) this)) hne
theorem KI (h:bK most more pn pp gg) (hp:pp.length≤12) (hg:gg.length≤12) (hq:q (.lst ((iE pp gg pp.length).map bX)) S):i_ A [cu pn pp gg] S q x:=by
  have q1:∀ S r,aH S (cF r) (.int 1)=some (.int (r.2.1:Nat)):=λ_ _=>rfl
  have q2:∀ S r,aH S (cF r) (.int 2)=some (.int (r.2.2:Nat)):=λ_ _=>rfl
  have g1:∀ S r,aH S (dU r) (.int 1)=some (.int (r.2.1:Nat)):=λ_ _=>rfl
  have go :∀ (r j:Nat) (o2 o3 o4:Option D) (kt:Kt),j+r=pp.length->
      (∀ o2 o3 o4,kt.nx [some (cu pn pp gg),some (.cell S.length),o2,o3,o4,none,none] (S++[.lst ((iE pp gg pp.length).map bX)]))->
      cE cB (av 2) (mR A) ((List.range' j r).map λi:Nat=>D.int (i:Int)) [some (cu pn pp gg),some (.cell S.length),o2,o3,o4,none,none] (S++[.lst ((iE pp gg j).map bX)]) kt:=λr=>by
    induction r with
    | zero=>
      intro j o2 o3 o4 kt hj hk
      have:j=pp.length:=by omega
      subst this
      exact ⟨trivial,hk ..⟩
    | succ r ih=>
      intro j o2 o3 o4 kt hj hk
      have hjl:j < pp.length:=by omega
      rw [List.range'_succ,List.map_cons]
      refine lE trivial λF hF=>?_
      have ipp:∀ S,aH S (.lst (pp.map cF)) (.int (j:Nat))=some (cF (pp.getD j cR)):=λS=>jO (f:=cF) (z:=cR) hjl
      have ln:∀ (S:WS) (l:List b7),bQ S [.lst (l.map cF)]=some (.int (l.length:Nat)):=λS l=>by simp [bQ,br]
      have sl:(iE pp gg j).length≤12:=by
        unfold iE
        have:=List.length_filter_le (yT pp gg) (List.range j)
        rw [List.length_range] at this
        omega
      have stp:iE pp gg (j+1)=if yT pp gg j=true then iE pp gg j++[j] else iE pp gg j:=by
        unfold iE
        rw [List.range_succ,List.filter_append,List.filter_cons,List.filter_nil]
        split <;> simp
      have next:∀ o2 o3 o4,F [some (cu pn pp gg),some (.cell S.length),o2,o3,o4,none,none] (S++[.lst ((iE pp gg (j+1)).map bX)]):=λo2 o3 o4=>by
        rw [hF]
        exact ih (j+1) o2 o3 o4 kt (by omega) hk
      unfold mR
      refine ay λN_ hN_=>?_
      simp? [rP,ipp,q1,q2]
      subst hN_
      refine ay λN_ hN_=>?_
      simp? [rP,List.length_map,aA (n:=pp.length) (by omega)]
      rw [nM (inj:=cF) (p:=zI pp j) (g:=cF) pp [] trivial (λa ha=>⟨_,rfl,λq x=>by
        unfold q6 zI
        simp? [q1,Lr]
        cases decide (a.2.1=(pp.getD j cR).2.1∨a.2.1=(pp.getD j cR).2.2) with
        | true=>simp? [q2,Lr,Bool.true_and]
        | false=>simp? [Bool.false_and],λ_ q x=>by
        unfold qV
        simp? []⟩)]
      simp? []
      subst hN_
      simp? [ln]
      refine iX (λh1=>?_) (λh1=>?_)
      · simp? [FP,List.length_map,aA (n:=gg.length) (by omega)]
        rw [nM (inj:=dU) (p:=λg=>decide (g.2.1=j)) (g:=dU) gg [] trivial (λa ha=>⟨_,rfl,λq x=>by
          unfold qY
          simp? [g1,LX]
          ,λ_ q x=>by
          unfold qS
          simp? []⟩)]
        simp? [Tz]
        have e2:yT pp gg j=((gg.filter λg=>decide (g.2.1=j)).map dU).isEmpty:=by
          unfold yT
          rw [decide_eq_true (by omega),Bool.true_and]
          cases gg.filter λg=>decide (g.2.1=j) <;> rfl
        cases hb:((gg.filter λg=>decide (g.2.1=j)).map dU).isEmpty with
        | true=>
          rw [← e2] at hb
          rw [stp,if_pos hb,List.map_append,List.map_cons,List.map_nil] at next
          simp? [bF,cU,D.clean,List.length_map,aA (n:=(iE pp gg j).length) (by omega)]
          exact next _ _ _
        | false=>
          rw [← e2] at hb
          rw [stp,if_neg (by rw [hb]; decide)] at next
          simp? []
          exact next _ _ _
      · have hb:yT pp gg j=false:=by
          unfold yT
          rw [decide_eq_false (by omega),Bool.false_and]
        rw [stp,if_neg (by rw [hb]; decide)] at next
        simp? []
        exact next _ _ _
  rw [ud]
  unfold aG aM
  simp only [List.map_cons,List.map_nil,List.length_cons,List.length_nil,Nat.reduceAdd,Nat.reduceSub,List.replicate,List.cons_append,List.nil_append,List.append_nil,Nat.zero_add]
  unfold n_
  refine ay λN_ hN_=>?_
  simp? [D.cg]
  subst hN_
  refine ay λN_ hN_=>?_
  simp? [rP,U7]
  refine ⟨⟨by omega,by omega⟩,?_⟩
  rw [jL,nv]
  simp? [List.length_map,List.length_range',aA (n:=pp.length) (by omega)]
  refine go pp.length 0 none none none _ (by omega) λo2 o3 o4=>?_
  dsimp only
  subst hN_
  simp? []
  rw [pW]
  exact hq
theorem HA {m:Nat} (hk:k < S.length) (g:Good n w) (hn:n < 10000000000000000) (hm:m≤5) (h:∀ (σ:List Nat) w',σ.Perm (List.range m)->Good (n+5) w'->q (.lst (σ.map bX)) (st S k w' T)):i8 A [.cell k,.int (m:Nat)] (st S k w T) q x:=by
  have go:∀ (r j:Nat) (s:List Nat) (o3:Option D) (n:Int) (w:W) (kt:Kt),j+r≤5->s.Perm (List.range j)->Good n w->n+r < 20000000000000000->
      (∀ (s:List Nat) o3 w',s.Perm (List.range (j+r))->Good (n+r) w'->kt.nx [some (.cell k),some (.int (m:Nat)),some (.cell (S.length+T.length)),o3] (st S k w' (T++[.lst (s.map bX)])))->
      cE cB (av 3) (oh A) ((List.range' j r).map λi:Nat=>D.int (i:Int)) [some (.cell k),some (.int (m:Nat)),some (.cell (S.length+T.length)),o3] (st S k w (T++[.lst (s.map bX)])) kt:=λr=>by
    induction r with
    | zero=>exact λj s o3 n w kt hj hs g hn hk=>⟨trivial,hk s _ w hs (g.mono (by simp))⟩
    | succ r ih=>
      intro j s o3 n w kt hj hs g hn hkt
      have hsl:s.length=j:=by rw [hs.length_eq,List.length_range]
      rw [List.range'_succ,List.map_cons]
      refine lE trivial λF hF=>?_
      have e1:((j:Nat):Int)+1=((j+1:Nat):Int):=by omega
      unfold oh
      simp? [Fq,Rn,lO]
      refine kZ hk g (by omega) (by omega) (by omega) λd w1 d0 d1 g1=>?_
      obtain ⟨di,rfl⟩:∃ di:Nat,d=(di:Nat):=⟨d.toNat,by omega⟩
      simp? [Rn,lO,xy,show ∀ i,D.clean 0 (.int i)=true from λ_=>rfl,List.length_map,aA (n:=s.length) (by omega)]
      refine ⟨⟨by omega,by omega⟩,?_⟩
      have el:((s.map bX).take (di:Int).toNat++(D.int (j:Nat) :: (s.map bX).drop (di:Int).toNat))=(s.take di++[j]++s.drop di).map bX:=by
        rw [Int.toNat_natCast,List.map_append,List.map_append,List.map_take,List.map_drop]
        simp [bX]
      rw [el,hF]
      refine ih (j+1) _ _ (n+1) w1 kt (by omega) (O4 hs) g1 (by omega) λs o3 w' z1 g'=>hkt s o3 w' (by rw [show j+(r+1)=j+1+r by omega]; exact z1) (g'.mono (by omega))
  rw [xN]
  unfold aG aM
  simp only [List.map_cons,List.map_nil,List.length_cons,List.length_nil,Nat.reduceAdd,Nat.reduceSub,List.replicate,List.cons_append,List.nil_append,List.append_nil,Nat.zero_add]
  unfold qv
  refine ay λN_ hN_=>?_
  simp? [D.cg]
  subst hN_
  refine ay λN_ hN_=>?_
  simp? []
  refine ⟨⟨by omega,by omega⟩,?_⟩
  rw [jL]
  simp? [List.length_map,List.length_range,aA (n:=m) (by omega)]
  have g0:=go m 0 [] none n w
  rw [← List.range_eq_range'] at g0
  refine g0 _ (by omega) (List.Perm.refl _) g (by omega) λs o3 w' hs g'=>?_
  rw [Nat.zero_add] at hs
  dsimp only
  subst hN_
  simp? []
  rw [LU]
  exact h s w' hs (g'.mono (by omega))
end
end RV
end
section
namespace RV
open PySem L2
def zD (ts:List Str) (pp:List b7) (e:Option Nat) (i:Nat):b7:=(ts.getD i "",nG pp e (pp.getD i cR).2.1,nG pp e (pp.getD i cR).2.2)
def B5 (gg:List b_) (κ:List Nat) (i:Nat):b_:=((gg.getD i zG).1,ua κ (gg.getD i zG).2.1,(gg.getD i zG).2.2)
def tG:Option Nat->Int
  | some k=>(k:Nat)
  | none=>-1
def iV (σ:List Nat) (e:Option Nat):List Nat:=σ.filter λi:Nat=>!decide ((i:Int)=tG e)
section
variable {A:Ad} {S T:WS} {k:Nat} {n:Int} {w:W} {q:D->WS->Prop} {x:Xq} {most more:Nat} {pn:List Str} {pp:List b7} {gg:List b_} {σ τ κ:List Nat} {e:Option Nat}
theorem M6 {α:Type} {f:Nat->α} {z:α} {l:List Nat} {j:Nat} (hj:j < l.length):(l.map f).getD j z=f (eN l j):=by
  rw [List.getD_eq_getElem?_getD,List.getElem?_map,List.getElem?_eq_getElem hj,sU hj]
  rfl
theorem Qc {i:Nat}:(i:Int)≠tG e↔e≠some i:=by
  cases e with
  | none=>
    refine ⟨λ_ z=>(by cases z),λ_ z=>?_⟩
    have:(i:Int)= -1:=z
    omega
  | some k=>
    constructor
    · intro h z
      cases z
      exact h rfl
    · intro h z
      have:(i:Int)=(k:Nat):=z
      exact h (by rw [show k=i by omega])
theorem Ae (hσ:σ.Perm (List.range pp.length)):∀ i,i∈iV σ e↔i < pp.length∧e≠some i:=λi=>by
  unfold iV
  rw [List.mem_filter,hσ.mem_iff,List.mem_range,Bool.not_eq_true',decide_eq_false_iff_not]
  exact ⟨λh=>⟨h.1,Qc.mp h.2⟩,λh=>⟨h.1,Qc.mpr h.2⟩⟩
theorem RY (hσ:σ.Perm (List.range pp.length)):(iV σ e).Nodup:=List.Pairwise.filter _ (hσ.nodup_iff.mpr List.nodup_range)
theorem Sy (hσ:σ.Perm (List.range pp.length)):(iV σ e).length≤pp.length:=by
  unfold iV
  have h1:=List.length_filter_le (λi:Nat=>!decide ((i:Int)=tG e)) σ
  have h2:=hσ.length_eq
  rw [List.length_range] at h2
  omega
theorem VG (hσ:σ.Perm (List.range pp.length)) (h1:1≤pp.length) (h2:∀ k,e=some k->1 < pp.length):1≤(iV σ e).length:=by
  have:∃ i,i∈iV σ e:=by
    cases he:e with
    | none=>exact ⟨0,(Ae hσ 0).mpr ⟨by omega,λz=>by cases z⟩⟩
    | some k=>
      have:=h2 k he
      by_cases hk:k=0
      · exact ⟨1,(Ae hσ 1).mpr ⟨by omega,λz=>by cases z; omega⟩⟩
      · exact ⟨0,(Ae hσ 0).mpr ⟨by omega,λz=>by cases z; exact hk rfl⟩⟩
  obtain ⟨i,hi⟩:=this
  exact List.length_pos_of_mem hi
theorem SI (h:bK most more pn pp gg) (he:∀ k,e=some k->D6 pp gg k) {y:Nat} (hy:y < pn.length):nG pp e y < pn.length:=by
  unfold nG
  cases e with
  | none=>exact hy
  | some k=>
    dsimp only
    split
    · exact (h.en _ (getD_mem (z:=cR) (he k rfl).lt)).1
    · exact hy
theorem Xc (h:bK most more pn pp gg) (he:∀ k,e=some k->D6 pp gg k) {i:Nat} (hi:i < pp.length) (hne:e≠some i):nG pp e (pp.getD i cR).2.1≠nG pp e (pp.getD i cR).2.2:=by
  have hen:=(h.en _ (getD_mem (z:=cR) hi)).2.2
  unfold nG
  cases e with
  | none=>exact hen
  | some k=>
    dsimp only
    have al:=(he k rfl).al i hi λz=>hne (by rw [z])
    unfold zI at al
    rw [Bool.and_eq_false_iff,decide_eq_false_iff_not,decide_eq_false_iff_not] at al
    split
    · next a=>  split
                · next b=>exact λ_=>hen (a.trans b.symm)
                · next b=>exact λz=>al.elim (λy=>y (.inr a)) λy=>y (.inl z.symm)
    · next a=>  split
                · next b=>exact λz=>al.elim (λy=>y (.inl z)) λy=>y (.inr b)
                · exact hen
theorem LD {l:List Nat} {xs:List Str} (h1:l.Nodup) (h2:xs.Nodup) (h3:∀ i∈l,i < xs.length):(l.map λi=>xs.getD i "").Nodup:=by
  refine List.Pairwise.map _ (S:=λa b=>a≠b) (R:=λa b=>a≠b∧a < xs.length∧b < xs.length) (λa b hh e=>?_) ?_
  · exact hh.1 (getD_inj h2 hh.2.1 hh.2.2 e)
  · exact List.Pairwise.imp_of_mem (λ{a b} ha hb hab=>⟨hab,h3 a ha,h3 b hb⟩) h1
theorem Vu {ps ts:List Str} (h:bK most more pn pp gg) (hσ:σ.Perm (List.range pp.length)) (hτ:τ.Perm (List.range gg.length)) (he:∀ k,e=some k->D6 pp gg k) (he2:∀ k,e=some k->1 < pp.length)
    (p1:∀ p∈ps,Nm p) (p2:ps.Nodup) (p3:ps.length=pn.length) (t1:∀ p∈ts,Nm p) (t2:ts.Nodup) (t3:ts.length=pp.length):
    bK most more ps ((iV σ e).map (zD ts pp e)) (τ.map (B5 gg (iV σ e)))∧nu pn pp gg ps ((iV σ e).map (zD ts pp e)) (τ.map (B5 gg (iV σ e))) (iV σ e) τ e∧
    ∀ j,j < τ.length->((τ.map (B5 gg (iV σ e))).getD j zG).2.2=(gg.getD (eN τ j) zG).2.2:=by
  have hτl:τ.length=gg.length:=by rw [hτ.length_eq,List.length_range]
  have tm:∀ k,k∈τ↔k < gg.length:=λk=>by rw [hτ.mem_iff,List.mem_range]
  have nt:τ.Nodup:=hτ.nodup_iff.mpr List.nodup_range
  have km:=Ae (e:=e) hσ
  have inK:∀ i,i < gg.length->(gg.getD i zG).2.1∈iV σ e:=λi hi=>(km _).mpr ⟨h.ga _ (getD_mem hi),λz=>(he _ z).no _ (getD_mem hi) rfl⟩
  refine ⟨⟨p1,p2,by rw [p3]; exact h.pl,by rw [p3]; exact h.ph,λr hr=>?_,?_,by rw [List.length_map]; exact VG hσ h.nl he2,by rw [List.length_map]; exact Nat.le_trans (Sy hσ) h.nh,λr hr=>?_,λg hg=>?_,?_,by rw [List.length_map,hτl]; exact h.gh,λg hg=>?_⟩,
    ⟨RY hσ,km,λk z=>(he k z).lt,by rw [List.length_map],p3,λj hj=>?_,nt,tm,by rw [List.length_map],λj hj=>?_,λj hj=>?_⟩,λj hj=>?_⟩
  · obtain ⟨i,hi,rfl⟩:=List.mem_map.mp hr
    exact t1 _ (getD_mem (by rw [t3]; exact ((km i).mp hi).1))
  · rw [List.map_map]
    exact LD (RY hσ) t2 λi hi=>by rw [t3]; exact ((km i).mp hi).1
  · obtain ⟨i,hi,rfl⟩:=List.mem_map.mp hr
    obtain ⟨h1,h2⟩:=(km i).mp hi
    have hen:=h.en _ (getD_mem (z:=cR) h1)
    rw [p3]
    exact ⟨SI h he hen.1,SI h he hen.2.1,Xc h he h1 h2⟩
  · obtain ⟨i,hi,rfl⟩:=List.mem_map.mp hg
    show Nm (gg.getD i zG).1
    exact h.gn _ (getD_mem ((tm i).mp hi))
  · rw [List.map_map]
    have e1:∀ i,i < gg.length->(gg.map (·.1)).getD i ("":Str)=(gg.getD i zG).1:=λi hi=>by
      rw [List.getD_eq_getElem?_getD,List.getElem?_map,List.getElem?_eq_getElem hi,List.getD_eq_getElem?_getD,List.getElem?_eq_getElem hi]
      rfl
    have:=LD nt h.gd λi hi=>by rw [List.length_map]; exact (tm i).mp hi
    rwa [List.map_congr_left (g:=λi=>(gg.getD i zG).1) λi hi=>e1 i ((tm i).mp hi)] at this
  · obtain ⟨i,hi,rfl⟩:=List.mem_map.mp hg
    rw [List.length_map]
    exact Bg (inK i ((tm i).mp hi))
  · rw [M6 hj]
    rfl
  · rw [M6 hj]
    rfl
  · rw [M6 hj]
    have:=inK _ ((tm _).mp (oB hj))
    exact ⟨Bg this,DV this⟩
  · rw [M6 hj]
    rfl
theorem Wm (hk:k < S.length) (g:Good n w) (hn:n < 10000000000000) (h:bK most more pn pp gg) (hm:most≤5) (hm2:more≤5)
    (hq:∀ pn' pp' gg' κ τ e w',bK most more pn' pp' gg'->nu pn pp gg pn' pp' gg' κ τ e->(∀ j,j < τ.length->(gg'.getD j zG).2.2=(gg.getD (eN τ j) zG).2.2)->Good (n+1000) w'->q (cu pn' pp' gg') (st S k w' T)):l8 A [.cell k,cu pn pp gg] (st S k w T) q x:=by
  have hp:=h.nh
  have hg:=h.gh
  have hn4:=h.ph
  have ln0:∀ S,bQ S [.lst (pn.map D.str)]=some (.int (pn.length:Nat)):=λS=>by simp [bQ,br]
  have ln1:∀ S,bQ S [.lst (pp.map cF)]=some (.int (pp.length:Nat)):=λS=>by simp [bQ,br]
  have ln2:∀ S,bQ S [.lst (gg.map dU)]=some (.int (gg.length:Nat)):=λS=>by simp [bQ,br]
  have lnN:∀ S (l:List Nat),bQ S [.lst (l.map bX)]=some (.int (l.length:Nat)):=λS l=>by simp [bQ,br]
  have IG:∀ S,aH S (cu pn pp gg) (.int 0)=some (.lst (pn.map D.str)):=λ_=>rfl
  have q1:∀ S r,aH S (cF r) (.int 1)=some (.int (r.2.1:Nat)):=λ_ _=>rfl
  have q2:∀ S r,aH S (cF r) (.int 2)=some (.int (r.2.2:Nat)):=λ_ _=>rfl
  have g0:∀ S r,aH S (dU r) (.int 0)=some (.str r.1):=λ_ _=>rfl
  have g1':∀ S r,aH S (dU r) (.int 1)=some (.int (r.2.1:Nat)):=λ_ _=>rfl
  have g2':∀ S r,aH S (dU r) (.int 2)=some (.bl r.2.2):=λ_ _=>rfl
  have ipp:∀ (i:Nat) (S:WS),i < pp.length->aH S (.lst (pp.map cF)) (.int (i:Nat))=some (cF (pp.getD i cR)):=λi S hi=>jO (f:=cF) (z:=cR) hi
  have enb:∀ i:Nat,bX i=.int ((i:Nat):Int):=λ_=>rfl
  have l0:∀ S (a b:D),aH S (.lst [a,b]) (.int 0)=some a:=λ_ _ _=>rfl
  have l1:∀ S (a b:D),aH S (.lst [a,b]) (.int 1)=some b:=λ_ _ _=>rfl
  rw [Cp]
  unfold HF aM
  simp only [List.map_cons,List.map_nil,List.length_cons,List.length_nil,Nat.reduceAdd,Nat.reduceSub,List.replicate,List.cons_append,List.nil_append,List.append_nil,Nat.zero_add]
  unfold vS
  refine ay λN_ hN_=>?_
  simp? []
  refine KI h (by omega) (by omega) ?_
  simp? []
  subst hN_
  have sl:(iE pp gg pp.length).length≤pp.length:=by
    unfold iE
    have:=List.length_filter_le (yT pp gg) (List.range pp.length)
    rw [List.length_range] at this
    exact this
  refine ay λN_ hN_=>?_
  have tail :∀ (e:Option Nat) (w:W),Good (n+1) w->(∀ k,e=some k->D6 pp gg k)->(∀ k,e=some k->1 < pp.length)->N_ [some (.cell k),some (cu pn pp gg),some (.lst ((iE pp gg pp.length).map bX)),some (.int (tG e)),none,none,none,none,none,none,none,none] (st S k w T):=λe w g he he2=>by
    subst hN_
    refine ay λN_ hN_=>?_
    simp? [IG,ln0]
    refine zJ hk g (by omega) (by omega) λps w1 p1 p2 p3 g1=>?_
    simp? [rP,ln1]
    refine zJ hk g1 (by omega) (by omega) λts w2 t1 t2 t3 g2=>?_
    simp? []
    subst hN_
    refine ay λN_ hN_=>?_
    simp? [rP,ln1]
    refine HA hk g2 (by omega) (by omega) λσ w3 hσ g3=>?_
    have hσl:σ.length=pp.length:=by rw [hσ.length_eq,List.length_range]
    have hκl:=Sy (e:=e) hσ
    simp? [List.length_map,aA (n:=σ.length) (by omega)]
    rw [nM (inj:=bX) (p:=λi:Nat=>!decide ((i:Int)=tG e)) (g:=bX) σ [] trivial (λa ha=>⟨_,rfl,λq x=>by
      unfold zl
      simp? [enb],λ_ q x=>by
      unfold yZ
      simp? []⟩)]
    simp? [D.cg]
    rw [← show iV σ e=σ.filter λi:Nat=>!decide ((i:Int)=tG e) from rfl]
    subst hN_
    have km:=Ae (e:=e) hσ
    have go :∀ (us done:List Nat) (o8 o9:Option D) (kt:Kt),done.length+us.length≤5->(∀ i∈us,i < pp.length)->
        (∀ o8 o9,kt.nx [some (.cell k),some (cu pn pp gg),some (.lst ((iE pp gg pp.length).map bX)),some (.int (tG e)),some (.lst (ps.map D.str)),some (.lst (ts.map D.str)),some (.lst ((iV σ e).map bX)),some (.cell (S.length+T.length)),o8,o9,none,none] (st S k w3 (T++[.lst (((done++us).map (zD ts pp e)).map cF)])))->
        cE cB (av 8) (rY A) (us.map bX) [some (.cell k),some (cu pn pp gg),some (.lst ((iE pp gg pp.length).map bX)),some (.int (tG e)),some (.lst (ps.map D.str)),some (.lst (ts.map D.str)),some (.lst ((iV σ e).map bX)),some (.cell (S.length+T.length)),o8,o9,none,none] (st S k w3 (T++[.lst ((done.map (zD ts pp e)).map cF)])) kt:=λus=>by
      induction us with
      | nil=>
        intro done o8 o9 kt _ _ hk2
        refine ⟨trivial,?_⟩
        have:=hk2 o8 o9
        rw [List.append_nil] at this
        exact this
      | cons i us ih=>
        intro done o8 o9 kt hl hu hk2
        rw [List.length_cons] at hl
        have hi:=hu i (List.mem_cons_self ..)
        rw [List.map_cons]
        refine lE trivial λF hF=>?_
        have next:∀ o8 o9,F [some (.cell k),some (cu pn pp gg),some (.lst ((iE pp gg pp.length).map bX)),some (.int (tG e)),some (.lst (ps.map D.str)),some (.lst (ts.map D.str)),some (.lst ((iV σ e).map bX)),some (.cell (S.length+T.length)),o8,o9,none,none] (st S k w3 (T++[.lst (((done++[i]).map (zD ts pp e)).map cF)])):=λo8 o9=>by
          rw [hF]
          refine ih (done++[i]) _ _ kt (by rw [List.length_append,List.length_singleton]; omega) (λj hj=>hu j (List.mem_cons_of_mem _ hj)) λo8 o9=>?_
          have:=hk2 o8 o9
          rw [show done++i :: us=done++[i]++us from List.append_cons ..] at this
          exact this
        rw [List.map_append,List.map_append,List.map_cons,List.map_nil,List.map_cons,List.map_nil] at next
        have tt:∀ S,aH S (.lst (ts.map D.str)) (.int (i:Nat))=some (.str (ts.getD i "")):=λS=>jO (f:=D.str) (z:="") (by omega)
        have sm:small ((done.map (zD ts pp e)).map cF).length=true:=aA (by rw [List.length_map,List.length_map]; omega)
        have cl:∀ (s:Str) (a b:Nat),D.clean 0 (.tup [.str s,.int (a:Nat),.int (b:Nat)])=true:=λ_ _ _=>rfl
        have ii:∀ S,aH S (.lst (pp.map cF)) (.int (i:Nat))=some (cF (pp.getD i cR)):=λS=>ipp i S hi
        have er:cF (zD ts pp e i)=.tup [.str (ts.getD i ""),.int (nG pp e (pp.getD i cR).2.1:Nat),.int (nG pp e (pp.getD i cR).2.2:Nat)]:=rfl
        rw [er] at next
        unfold rY
        refine ay λN_ hN_=>?_
        simp? [enb,rP,ii,q1,q2]
        subst hN_
        refine ay λN_ hN_=>?_
        cases e with
        | none=>
          have e0:∀ S,z7 S (.int (tG none)) (.int 0)=some (.bl false):=λ_=>rfl
          simp? [e0]
          subst hN_
          have m0:∀ y,nG pp none y=y:=λ_=>rfl
          rw [m0,m0] at next
          simp? [lO,tt,enb,l0,l1,cl,sm,xy]
          exact next _ _
        | some c=>
          have hc:=(he c rfl).lt
          have e0:∀ S,z7 S (.int (tG (some c))) (.int 0)=some (.bl true):=λS=>by
            show z7 S (.int ((c:Nat):Int)) (.int 0)=_
            rw [L8,decide_eq_true (by omega)]
          have eg:tG (some c)=((c:Nat):Int):=rfl
          have ic:∀ S,aH S (.lst (pp.map cF)) (.int (c:Nat))=some (cF (pp.getD c cR)):=λS=>ipp c S hc
          simp? [e0]
          refine Oz (inj:=bX) (g:=λy=>bX (nG pp (some c) y)) [(pp.getD i cR).2.1,(pp.getD i cR).2.2] trivial (λy hy=>⟨_,rfl,λq x=>by
            unfold zb nG
            simp? [enb,eg,rP,ic,q2,LX]
            by_cases hyc:y=(pp.getD c cR).2.2
            · simp? [decide_eq_true hyc,q1,if_pos hyc]
            · simp? [decide_eq_false hyc,if_neg hyc]⟩) ?_
          simp? [M_]
          subst hN_
          simp? [lO,tt,enb,List.map_cons,List.map_nil,l0,l1,cl,sm,xy]
          exact next _ _
    refine ay λN_ hN_=>?_
    simp? [List.length_map,aA (n:=(iV σ e).length) (by omega)]
    refine go (iV σ e) [] none none _ (by simp; omega) (λi hi=>((km i).mp hi).1) λo8 o9=>?_
    rw [List.nil_append]
    dsimp only
    subst hN_
    refine ay λN_ hN_=>?_
    simp? [D.cg,List.length_append]
    subst hN_
    refine ay λN_ hN_=>?_
    simp? [FP,ln2,D.cg]
    refine HA hk g3 (by omega) (by omega) λτ w4 hτ g4=>?_
    have hτl:τ.length=gg.length:=by rw [hτ.length_eq,List.length_range]
    have go2:∀ (us done:List Nat) (o8:Option D) (kt:Kt),done.length+us.length≤5->(∀ i∈us,i < gg.length)->
        (∀ o8,kt.nx [some (.cell k),some (cu pn pp gg),some (.lst ((iE pp gg pp.length).map bX)),some (.int (tG e)),some (.lst (ps.map D.str)),some (.lst (ts.map D.str)),some (.lst ((iV σ e).map bX)),some (.cell (S.length+T.length)),o8,o9,some (.cell (S.length+T.length+1)),none] (st S k w4 (T++[.lst (((iV σ e).map (zD ts pp e)).map cF),.lst (((done++us).map (B5 gg (iV σ e))).map dU)])))->
        cE cB (av 8) (rR A) (us.map bX) [some (.cell k),some (cu pn pp gg),some (.lst ((iE pp gg pp.length).map bX)),some (.int (tG e)),some (.lst (ps.map D.str)),some (.lst (ts.map D.str)),some (.lst ((iV σ e).map bX)),some (.cell (S.length+T.length)),o8,o9,some (.cell (S.length+T.length+1)),none] (st S k w4 (T++[.lst (((iV σ e).map (zD ts pp e)).map cF),.lst ((done.map (B5 gg (iV σ e))).map dU)])) kt:=λus=>by
      induction us with
      | nil=>
        intro done o8 kt _ _ hk2
        refine ⟨trivial,?_⟩
        have:=hk2 o8
        rw [List.append_nil] at this
        exact this
      | cons i us ih=>
        intro done o8 kt hl hu hk2
        rw [List.length_cons] at hl
        have hi:=hu i (List.mem_cons_self ..)
        rw [List.map_cons]
        refine lE trivial λF hF=>?_
        have next:∀ o8,F [some (.cell k),some (cu pn pp gg),some (.lst ((iE pp gg pp.length).map bX)),some (.int (tG e)),some (.lst (ps.map D.str)),some (.lst (ts.map D.str)),some (.lst ((iV σ e).map bX)),some (.cell (S.length+T.length)),o8,o9,some (.cell (S.length+T.length+1)),none] (st S k w4 (T++[.lst (((iV σ e).map (zD ts pp e)).map cF),.lst (((done++[i]).map (B5 gg (iV σ e))).map dU)])):=λo8=>by
          rw [hF]
          refine ih (done++[i]) _ kt (by rw [List.length_append,List.length_singleton]; omega) (λj hj=>hu j (List.mem_cons_of_mem _ hj)) λo8=>?_
          have:=hk2 o8
          rw [show done++i :: us=done++[i]++us from List.append_cons ..] at this
          exact this
        rw [List.map_append,List.map_append,List.map_cons,List.map_nil,List.map_cons,List.map_nil] at next
        have igg:∀ S,aH S (.lst (gg.map dU)) (.int (i:Nat))=some (dU (gg.getD i zG)):=λS=>jO (f:=dU) (z:=zG) hi
        have sm:small ((done.map (B5 gg (iV σ e))).map dU).length=true:=aA (by rw [List.length_map,List.length_map]; omega)
        have cl:∀ (s:Str) (a:Nat) (b:Bool),D.clean 0 (.tup [.str s,.int (a:Nat),.bl b])=true:=λ_ _ _=>rfl
        have hpm:(gg.getD i zG).2.1∈iV σ e:=(km _).mpr ⟨h.ga _ (getD_mem hi),λz=>(he _ z).no _ (getD_mem hi) rfl⟩
        have ix:=KZ hpm
        have er:dU (B5 gg (iV σ e) i)=.tup [.str (gg.getD i zG).1,.int (ua (iV σ e) (gg.getD i zG).2.1:Nat),.bl (gg.getD i zG).2.2]:=rfl
        rw [er] at next
        unfold rR Lx
        simp? [enb,FP,igg,g0,g1',g2',M8,ix,AF,cl,sm,L6]
        exact next _
    simp? [List.length_map,aA (n:=τ.length) (by omega)]
    refine go2 τ [] _ _ (by simp; omega) (λi hi=>List.mem_range.mp (hτ.mem_iff.mp hi)) λo8=>?_
    rw [List.nil_append]
    dsimp only
    subst hN_
    simp? [aA (n:=3) (by omega)]
    have hfr:mj (S.length+T.length) (st S k w4 (T++[.lst (((iV σ e).map (zD ts pp e)).map cF),.lst ((τ.map (B5 gg (iV σ e))).map dU)])) (.lst [.lst (ps.map D.str),.cell (S.length+T.length),.cell (S.length+T.length+1)])=some (cu ps ((iV σ e).map (zD ts pp e)) (τ.map (B5 gg (iV σ e)))):=by
      unfold mj
      simp only [wB,mj,Af,Nat.lt_irrefl,if_false,lO,AF,show ¬ (S.length+T.length+1 < S.length+T.length) from by omega,Option.map_some,Option.bind_some]
      rfl
    rw [Lw hfr]
    obtain ⟨m1,m2,m3⟩:=Vu h hσ hτ he he2 p1 p2 p3 t1 t2 t3
    exact hq _ _ _ _ _ _ w4 m1 m2 m3 (g4.mono (by omega))
  have none_:N_ [some (.cell k),some (cu pn pp gg),some (.lst ((iE pp gg pp.length).map bX)),some (.int (-1)),none,none,none,none,none,none,none,none] (st S k w T):=tail none w (g.mono (by omega)) (λk z=>by cases z) (λk z=>by cases z)
  simp? [Uu]
  cases hs:(iE pp gg pp.length).map bX with
  | nil=>
    rw [hs] at none_
    simp? [List.isEmpty_nil]
    exact none_
  | cons a l=>
    have hne:0 < (iE pp gg pp.length).length:=by
      cases hz:iE pp gg pp.length with
      | nil=>rw [hz] at hs; cases hs
      | cons=>exact Nat.succ_pos _
    simp? [List.isEmpty_cons,rP,ln1]
    rw [← hs]
    refine iX (λh1=>?_) (λh1=>?_)
    · simp? [lnN]
      refine kZ hk g (by omega) (by omega) (by omega) λd w1 d0 d1 g1=>?_
      obtain ⟨j,rfl⟩:∃ j:Nat,d=(j:Nat):=⟨d.toNat,by omega⟩
      have hj:j < (iE pp gg pp.length).length:=by omega
      have im:∀ S,aH S (.lst ((iE pp gg pp.length).map bX)) (.int (j:Nat))=some (bX ((iE pp gg pp.length).getD j 0)):=λS=>jO (f:=bX) (z:=0) hj
      simp? [im]
      exact tail (some ((iE pp gg pp.length).getD j 0)) w1 g1 (λc z=>by cases z; exact Vp h (getD_mem hj)) (λc z=>by omega)
    · simp? []
      rw [hs]
      rw [hs] at none_
      exact none_
end
end RV
end
section
namespace RV
open PySem L2
def um (gg:List b_):List b_:=gg.map λg=>(g.1,g.2.1,false)
section
variable {A:Ad} {S T:WS} {k j:Nat} {n:Int} {w:W} {q:D->WS->Prop} {x:Xq} {most more most' more':Nat} {pn pn':List Str} {pp pp':List b7} {gg gg':List b_} {σ τ κ:List Nat} {e:Option Nat} {g:b_}
theorem bK.plain (h:bK most more pn pp gg):bK most more pn pp (um gg):=
  ⟨h.pn,h.pd,h.pl,h.ph,h.nn,h.nd,h.nl,h.nh,h.en,λy hy=>by
    obtain ⟨g,hg,rfl⟩:=List.mem_map.mp hy
    exact h.gn g hg,by
    unfold um
    rw [List.map_map]
    exact h.gd,by
    unfold um
    rw [List.length_map]
    exact h.gh,λy hy=>by
    obtain ⟨g,hg,rfl⟩:=List.mem_map.mp hy
    exact h.ga g hg⟩
theorem Mj (hj:j < gg.length):(um gg).getD j zG=((gg.getD j zG).1,(gg.getD j zG).2.1,false):=by
  unfold um
  rw [List.getD_eq_getElem?_getD,List.getElem?_map,List.getElem?_eq_getElem hj,List.getD_eq_getElem?_getD,List.getElem?_eq_getElem hj]
  rfl
theorem nu.plain (t:nu pn pp gg pn' pp' gg' κ τ e):nu pn pp gg pn' pp' (um gg') κ τ e where
  nd:=t.nd
  mem:=t.mem
  he:=t.he
  pl:=t.pl
  nl:=t.nl
  ed:=t.ed
  tn:=t.tn
  tm:=t.tm
  gl:=by
    unfold um
    rw [List.length_map]
    exact t.gl
  gn j hj:=by
    rw [Mj (by rw [t.gl]; exact hj)]
    exact t.gn j hj
  ga j hj:=by
    rw [Mj (by rw [t.gl]; exact hj)]
    exact t.ga j hj
theorem JD (h:bK most more pn pp gg) (h':bK most' more' pn' pp' gg') (t:nu pn pp gg pn' pp' gg' κ τ e):nJ (cI pn pp) (cQ pp gg) (cI pn' pp') (cQ pp' gg')=.non∧nJ (cI pn' pp') (cQ pp' gg') (cI pn pp) (cQ pp gg)=.non:=
  ⟨DE (λf hf=>J6 h h' t hf) (λf hf=>Ht h h' t hf),DE (λf hf=>Ht h h' t hf) (λf hf=>J6 h h' t hf)⟩
theorem QW {o:Option Nat} (h:∀ a,o=some a->a < 100):∃ t:Str,∀ S,xg S [iW o]=some (.str t):=by
  rw [Wv]
  have e3:∀ S,xg S [bP (o.map λ(a:Nat)=>(a:Int))]=u9 S [bP (o.map λ(a:Nat)=>(a:Int))]:=λS=>by cases o <;> rfl
  refine ⟨_,λS=>(e3 S).trans (S6 (k:=0) (w:=300) Qv (kM.opt λa ha=>?_) (by decide) (by decide))⟩
  cases o with
  | none=>cases ha
  | some b=>
    cases ha
    have:=h b rfl
    show 0≤((b:Nat):Int)∧((b:Nat):Int) < 100
    omega
theorem V3 (h:bK most more pn pp gg) (hj:j < pp.length) (hg:gg.length < 100):∀ a,l_ (cI pn pp) (cQ pp gg) (rowAt pn pp j)=some a->a < 100:=λa ha=>by
  have e:=WB h hj
  rw [ha] at e
  have:((a:Nat):Int)≤(gg.length:Nat):=Te e
  omega
theorem Ol (h:bK most more pn pp gg) (hm2:more≤12) (hg:g∈gg) (hq:q (mv A (g.1,(pp.getD g.2.1 ("",0,0)).1,g.2.2)) S):kI A [aN A (cI pn pp) (cQ pp gg),.str g.1] S q x:=by
  have hgh:=h.gh
  have fl:(cQ pp gg).length≤12:=by
    unfold cQ
    rw [List.length_map]
    omega
  rw [Cd]
  unfold aG aM
  simp only [List.map_cons,List.map_nil,List.length_cons,List.length_nil,Nat.reduceAdd,Nat.reduceSub,List.replicate,List.cons_append,List.nil_append,List.append_nil,Nat.zero_add]
  unfold v_
  refine ay λN_ hN_=>?_
  simp? [sJ]
  have go :∀ (rest:List b_) (o2:Option D) (kt:Kt),(rest.map (·.1)).Nodup->g∈rest->kt.rt (mv A (g.1,(pp.getD g.2.1 ("",0,0)).1,g.2.2)) S->cE cB (av 2) (rA A) ((cQ pp rest).map (mv A)) [some (aN A (cI pn pp) (cQ pp gg)),some (.str g.1),o2] S kt:=λrest=>by
    induction rest with
    | nil=>
      intro o2 kt _ hk
      cases hk
    | cons a rest ih=>
      intro o2 kt nd hk hr
      rw [show cQ pp (a :: rest)=(a.1,(pp.getD a.2.1 ("",0,0)).1,a.2.2) :: cQ pp rest from rfl,List.map_cons]
      rw [List.map_cons,List.nodup_cons] at nd
      refine lE trivial λF hF=>?_
      unfold rA
      simp? [mU,oJ]
      refine iX (λe=>?_) (λe=>?_)
      · have:g=a:=by
          rcases List.mem_cons.mp hk with z | z
          · exact z
          · exact absurd (List.mem_map.mpr ⟨g,z,e.symm⟩) nd.1
        subst this
        simp? []
        exact hr
      · simp? []
        rw [hF]
        refine ih _ kt nd.2 ?_ hr
        rcases List.mem_cons.mp hk with z | z
        · exact absurd (by rw [z]) e
        · exact z
  refine go gg none _ h.gd hg ?_
  simp? []
  exact hq
theorem TV {m:Int} (m0:0≤m) (m3:m≤3) (hk:k < S.length) (g:Good n w) (hn:n < 100000000000) (h:∀ f w',N6 f->Good (n+3) w'->q (CP f) (st S k w' T)):lB A [.cell k,.int m] (st S k w T) q x:=by
  rw [Be]
  unfold aG aM
  simp only [List.map_cons,List.map_nil,List.length_cons,List.length_nil,Nat.reduceAdd,Nat.reduceSub,List.replicate,List.cons_append,List.nil_append,List.append_nil,Nat.zero_add]
  unfold tZ
  refine ay λN_ hN_=>?_
  simp? []
  refine kZ hk g (by omega) (by omega) (by omega) λb w1 b0 b1 g1=>?_
  subst hN_
  simp? []
  refine kZ hk g1 (by omega) (by omega) (by omega) λa w2 a0 a1 g2=>?_
  simp? []
  refine kZ hk g2 (by omega) (by omega) (by omega) λc w3 c0 c1 g3=>?_
  simp? []
  exact h (a,b,c) w3 ⟨a0,by show a≤b; omega,by show b≤3; omega,c0,by show c≤3; omega⟩ (g3.mono (by omega))
theorem Th (hA:gT A) (hk:k < S.length) (g:Good n w) (hn:n < 1000000) (hq:∀ w',q (.bl true) (st S k w' T)):l7 A [.cell k] (st S k w T) q x:=by
  have ib:∀ S,Fy true S (.bl true) (.bl true)=some (.bl false):=λ_=>rfl
  have isn:∀ S,gW true S .non .non=some (.bl false):=λ_=>rfl
  have g0:∀ S r,aH S (dU r) (.int 0)=some (.str r.1):=λ_ _=>rfl
  have g1':∀ S r,aH S (dU r) (.int 1)=some (.int (r.2.1:Nat)):=λ_ _=>rfl
  have IG:∀ (S:WS) pn pp gg,aH S (cu pn pp gg) (.int 0)=some (.lst (pn.map D.str)):=λ_ _ _ _=>rfl
  rw [Ct]
  unfold aG aM
  simp only [List.map_cons,List.map_nil,List.length_cons,List.length_nil,Nat.reduceAdd,Nat.reduceSub,List.replicate,List.cons_append,List.nil_append,List.append_nil,Nat.zero_add]
  unfold wA
  refine ay λN_ hN_=>?_
  simp? []
  refine Vz (most:=5) (more:=5) hk g (by omega) (by decide) (by decide) (by decide) λpn pp gg w1 mo g1=>?_
  subst hN_
  refine ay λN_ hN_=>?_
  simp? []
  refine Wm hk g1 (by omega) mo (by decide) (by decide) λpn' pp' gg' κ τ e w2 mo' t hs g2=>?_
  subst hN_
  have hL:=mo.laid (by decide)
  have hF:=mo.fits (by decide)
  have hL':=mo'.laid (by decide)
  have hF':=mo'.fits (by decide)
  have mo0:=mo'.plain
  have t0:=t.plain
  have hL0:=mo0.laid (by decide)
  have hF0:=mo0.fits (by decide)
  have hgg:=mo.gh
  have hgg':=mo'.gh
  have nm:=Hl t
  have nm0:=Hl t0
  have sm:=JD mo mo' t
  have sm0:=JD mo mo0 t0
  refine ay λN_ hN_=>?_
  simp? []
  refine Oi mo (by decide) (by decide) ?_
  simp? []
  refine FT hA hL hF ?_
  simp? []
  refine Oi mo' (by decide) (by decide) ?_
  simp? []
  refine FT hA hL' hF' ?_
  simp? []
  subst hN_
  refine ay λN_ hN_=>?_
  simp? []
  refine qA hA hL hF hL' hF' nm.1 nm.2 sm.1 ?_
  simp? [ib]
  refine qA hA hL' hF' hL hF nm.2 nm.1 sm.2 ?_
  simp? [ib]
  subst hN_
  refine ay λN_ hN_=>?_
  simp? []
  refine za hA hL hF hL' hF' nm.1 nm.2 ?_
  rw [sm.1]
  simp? [isn]
  subst hN_
  refine ay λN_ hN_=>?_
  simp? [IG,rP,FP,List.length_map,aA (n:=gg'.length) (by omega)]
  rw [bM (inj:=dU) (g:=λg=>dU (g.1,g.2.1,false)) gg' trivial (λg hg=>⟨_,rfl,λq x=>by
    unfold zw
    simp? [g0,g1']
    rfl⟩)]
  simp? []
  rw [show (D.lst [.lst (pn'.map D.str),.lst (pp'.map cF),.lst (gg'.map λg=>dU (g.1,g.2.1,false))])=cu pn' pp' (um gg') from by
    unfold cu um
    rw [List.map_map]
    rfl]
  refine Oi mo0 (by decide) (by decide) ?_
  simp? []
  refine FT hA hL0 hF0 ?_
  simp? []
  subst hN_
  refine ay λN_ hN_=>?_
  simp? []
  refine qA hA hL hF hL0 hF0 nm0.1 nm0.2 sm0.1 ?_
  simp? [ib]
  subst hN_
  have mm:∀ {rs fs} S,mC (A.c "Net") "meter" S (aN A rs fs):=λS=>lP (by decide+kernel) (by decide+kernel)
  have mp:∀ {rs fs} S,mC (A.c "Net") "pipe" S (aN A rs fs):=λS=>lP (by decide+kernel) (by decide+kernel)
  have go:∀ (us:List b_) (o6 o7 o8 o9:Option D) (n:Int) (w:W) (kt:Kt),(∀ g∈us,g∈gg)->Good n w->n+3 * us.length < 100000000->
      (∀ o6 o7 o8 o9 w',kt.nx [some (.cell k),some (cu pn pp gg),some (cu pn' pp' gg'),some (aN A (cI pn pp) (cQ pp gg)),some (aN A (cI pn' pp') (cQ pp' gg')),some (aN A (cI pn' pp') (cQ pp' (um gg'))),o6,o7,o8,o9] (st S k w' T))->
      cE cB (av 6) (rN A) (us.map dU) [some (.cell k),some (cu pn pp gg),some (cu pn' pp' gg'),some (aN A (cI pn pp) (cQ pp gg)),some (aN A (cI pn' pp') (cQ pp' gg')),some (aN A (cI pn' pp') (cQ pp' (um gg'))),o6,o7,o8,o9] (st S k w T) kt:=λus=>by
    induction us with
    | nil=>exact λo6 o7 o8 o9 n w kt _ _ _ hk=>⟨trivial,hk ..⟩
    | cons a us ih=>
      intro o6 o7 o8 o9 n w kt hu g hn hkt
      have ha:=hu a (List.mem_cons_self ..)
      rw [List.length_cons] at hn
      obtain ⟨b,hb,eb⟩:∃ b∈gg',b.1=a.1:=by
        obtain ⟨f,hf,ef⟩:=nm.2 _ (List.mem_map.mpr ⟨a,ha,rfl⟩)
        obtain ⟨b,hb,rfl⟩:=ue hf
        exact ⟨b,hb,ef⟩
      obtain ⟨j1,j2⟩:=CO mo mo' t ha hb eb.symm
      have hr:rowAt pn pp a.2.1∈cI pn pp:=Lu (mo.ga a ha)
      have hr':rowAt pn' pp' b.2.1∈cI pn' pp':=Lu (mo'.ga b hb)
      have es:=Uk mo mo' t hs j1
      rw [j2] at es
      obtain ⟨tx,htx⟩:=QW (V3 mo (mo.ga a ha) (by omega))
      rw [List.map_cons]
      refine lE trivial λF hF_=>?_
      unfold rN
      refine ay λN_ hN_=>?_
      simp? [mm,mp,g0]
      refine Ol mo (by decide) ha ?_
      simp? [mU,yw]
      refine MT (r:=rowAt pn pp a.2.1) hr hL ?_
      simp? [nK,lX]
      subst hN_
      refine ay λN_ hN_=>?_
      simp? [mm,mp,g0]
      rw [← eb]
      refine Ol mo' (by decide) hb ?_
      simp? [mU,yw]
      refine MT (r:=rowAt pn' pp' b.2.1) hr' hL' ?_
      simp? [nK,lX]
      subst hN_
      refine ay λN_ hN_=>?_
      simp? []
      refine VH hA hr hL hF ?_
      simp? [htx]
      refine VH hA hr' hL' hF' ?_
      rw [es]
      simp? [htx]
      subst hN_
      refine ay λN_ hN_=>?_
      simp? []
      refine TV (by decide) (by decide) hk g (by omega) λf w' hf g'=>?_
      subst hN_
      simp? []
      refine G9 hA hr hL hF hf ?_
      simp? []
      refine G9 hA hr' hL' hF' hf ?_
      rw [es]
      simp? []
      rw [hF_]
      refine ih _ _ _ _ (n+3) w' kt (λy hy=>hu y (List.mem_cons_of_mem _ hy)) g' (by omega) hkt
  refine ay λN_ hN_=>?_
  simp? [FP,List.length_map,aA (n:=gg.length) (by omega)]
  refine go gg none none none none _ w2 _ (λg hg=>hg) g2 (by omega) λo6 o7 o8 o9 w'=>?_
  dsimp only
  subst hN_
  simp? []
  exact hq w'
end
theorem Di {A:Ad} {ns:List Int} {q:D->WS->Prop} {x:Xq} (hA:RH A ["Pipe","Meter","Net"]) (hl:ns.length≤63) (hq:q (.bl true) []):rm A [.scr ns] [] q x:=by
  have hA:=Tg hA
  rw [GN]
  unfold aG aM
  simp only [List.map_cons,List.map_nil,List.length_cons,List.length_nil,Nat.reduceAdd,Nat.reduceSub,List.replicate,List.cons_append,List.nil_append,List.append_nil,Nat.zero_add]
  unfold zT
  refine ay λN_ hN_=>?_
  simp? [UH,XD,Xr]
  obtain ⟨j,hj,ej⟩:=QU (ns:=ns) (c:=5) (by decide)
  rw [show ((5:Nat):Int)=5 from rfl] at ej
  rw [ej]
  refine ⟨⟨by omega,by omega⟩,?_⟩
  rw [jL]
  have go:∀ (js:List Nat) (S:WS) (o1:Option D) (kt:Kt),(∀ i∈js,i < 5)->(∀ o1 S,kt.nx [some (.scr ns),o1] S)->
      cE cB (av 1) (wo A) (js.map λ(i:Nat)=>D.int (i:Int)) [some (.scr ns),o1] S kt:=λjs=>by
    induction js with
    | nil=>
      intro S o1 kt hj hk
      exact ⟨trivial,hk _ _⟩
    | cons i js ih=>
      intro S o1 kt hj hk
      have h4:=hj i (List.mem_cons_self ..)
      rw [List.map_cons]
      refine qH trivial ?_
      unfold wo
      simp? []
      refine XC (by omega) (by omega) λw g=>?_
      have hlt:S.length < (S++[w.d]).length:=by simp
      simp? []
      rw [Tr]
      refine Th hA hlt g (by omega) λw1=>?_
      simp? []
      exact ih _ _ kt (λi hi=>hj i (List.mem_cons_of_mem _ hi)) hk
  refine go (List.range j) [] none _ (λi hi=>by have:=List.mem_range.mp hi; omega) λo1 S=>?_
  dsimp only
  subst hN_
  simp? []
  cases S with
  | nil=>exact hq
  | cons c S=>exact ⟨rfl,hq⟩
end RV
end
section
end
section
open PySem PySem.W PySem.Calls PyProof.Rows
theorem PySem.Challenge.cw_ringvotes_k85_whole_nets_with_a_pipe_shr_holds : PySem.Challenge.rw_ringvotes_k85_whole_nets_with_a_pipe_shr.Holds := by
  refine K85.front ?hc
  case hc=>
    refine RV.Vr (nn:=false) (l:=PySem.Challenge.rw_ringvotes_k85_whole_nets_with_a_pipe_shr) (n:=63) (k:=16) (x:="_law_script") rfl (by decide) (by kernel_rfl) ⟨rfl,by decide,by decide⟩ ?F
    intro w mg fa h Y G hmg0
    obtain ⟨K,KX,c,cx⟩:=Y
    have hmg:mg ("law":PySem.Str)=some (.ref fa):=by
      have e:(HandSHeadRun.topDef (OpenLaw.row PySem.Challenge.rw_ringvotes_k85_whole_nets_with_a_pipe_shr).prog 80).name=("law":PySem.Str):=by kernel_rfl
      rw [← e]
      exact hmg0
    obtain ⟨fd,hb,hF⟩:=K85.facts (P:=(PySem.Challenge.rw_ringvotes_k85_whole_nets_with_a_pipe_shr).prog) (w:=w) KX G hmg c cx
    exact ⟨K,fd,RV.rm (K85.ad K),KX,hb,λns q x hl hq=>RV.Di (K85.XN cx) hl hq,hF⟩
end
end
end
