import PyProof.Rows.All
import Wide.All
import OpenK.AllK
import Wide.FinOn
import HandS.ForMost
import HandS.ForExc
import HandS.IsInst
import HandS.Defaults
import HandS.MakeKwOnly
import HandS.MakeKw
import HandS.CallSlots
import HandS.OwnEq
import HandS.Codes
import HandS.Flow
import HandS.Style
import HandS.TupLe
import HandS.TupAny
import HandS.ExcInit
import KE.KeyNested
import HandS.Nested
import HandS.Deep
import HandS.TupMul
import HandS.Ends
import HandS.WordsDict
import HandS.Head0
import HandS.Head1
import HandS.Head2
import HandS.HeadEnd
import HandS.HeadHook1
import HandS.HeadHook2
import HandS.HeadHook3
import HandS.HeadHook4
import KE.KExcInit
import HandS.ExcField
import HandS.ExcIs
import HandS.TryMany
import HandS.TryOnly
import KE.KExcIs
import PyProof.ReprRoads
import HandS.RaiseMore
import HandS.DictComp
import KE.GoesEnum
import HandS.NoneIn
import HandS.Star
import HandS.Conv
import KE.KRevSl
import KE.GoesZip
import KE.GoesMore
import HandS.Zip
import KE.KDictZip
import HandS.SortInts
import HandS.ClsMeth
import HandS.HeadNt
import HandS.HotCalls
import HandS.SortKw
import KE.KTupSum
import KE.KDictDisplayH
import PyProof.Rows.TupDisplay
import PyProof.Rows.TupTab
import HandS.EndTab
import HandS.TupLen
import HandS.HeadWalk
import KE.KDictPairs
import KE.LtData
import HandS.Wide
import HandS.ExcValue
import PyProof.StrLawsIn
import PySem.Challenge.RW_cutofftills_k68_events_written_and_read
set_option Elab.async false
set_option linter.all false
set_option maxRecDepth 100000
set_option maxHeartbeats 4000000
local macro_rules | `(s!$x) => match x.raw[0].isInterpolatedStrLit? with | some v => `(PySem.Str.ofString $(Lean.Syntax.mkStrLit v)) | none => Lean.Macro.throwUnsupported
section
namespace PyD
open PySem PySem.Spec PyProof.Rows L2
structure Tab where
 n:Nat
 sub:Nat→Nat→Bool
 tys:List String
 subB:Nat→String→Bool
 flds:Nat→List Str
def baseT:List String:=["NoneType", "bool", "int", "str", "list", "tuple", "dict"]
def clsB (K:PySem.W.Frag)(a:Addr):Bool:=PySem.W.plainGet K a Str.empty&&(PySem.W.hasDictIn K a&&(PySem.W.plainOver K a&&decide (PySem.W.findIn K (.ref a) "__setattr__"=some (some (.builtin "object.__setattr__")))))
def tab1 (K:PySem.W.Frag)(cl:Nat→Addr)(T:Tab)(c:Nat):Bool :=
 (baseT.all fun t=>decide (PySem.W.kitOne K (.type t) (.ref (cl c))=some false))&&(((List.range T.n).all fun c'=>decide (PySem.W.kitOne K (.ref (cl c)) (.ref (cl c'))=some (T.sub c c'))) &&
 ((T.tys.all fun t=>decide (PySem.W.kitOne K (.ref (cl c)) (.type t)=some (T.subB c t)))&&(clsB K (cl c)&&(decide (PySem.W.findIn K (.ref (cl c)) "__class__"=some (some (.builtin "object.__class__"))) &&
 (decide (PySem.W.mroIn K (cl c) (.type "object")=some true)&&(((T.flds c).all fun f=>decide (PySem.W.findIn K (.ref (cl c)) f=some none)) &&
 (decide (PySem.W.specialIn K (.builtin "object.__class__") "__get__"=some (some (.builtin "getset_descriptor.__get__")))&&decide (PySem.W.takesIn K (.builtin "object.__class__")=some true))))))))
def tabB (K:PySem.W.Frag)(cl:Nat→Addr)(T:Tab):Bool:=(List.range T.n).all fun c=>tab1 K cl T c
def xcB (K:PySem.W.Frag)(C:Addr)(tl:List Value)(newId:String):Bool:=(match K.lookup C with
 | some ⟨.type "type",_,.cls cd,sl⟩=>(match cd.mro,sl.toList with
  | .ref C'::bm,[_,_,_,_,some (.builtin n),_]=>C'==C&&(n==newId&&(!cd.hasDel&&(cd.hasDict&&PySem.W.excTail tl bm)))
  | _,_=>false)
 | _=>false)&&(decide (PySem.W.findIn K (.ref C) "__setattr__"=some (some (.builtin "object.__setattr__")))&&(decide (PySem.W.subIn K (.ref C) (.type "BaseException")=some true)&&(decide (PySem.W.typeIn K (.ref C)=some (.type "type"))&&PySem.W.keepIn K (.ref C))))
def excCB (K:PySem.W.Frag)(D:Addr):Bool:=xfB K D&&(decide (PySem.W.findIn K (.ref D) "__class__"=some (some (.builtin "object.__class__")))&&(decide (PySem.W.specialIn K (.builtin "object.__class__") "__get__"=some (some (.builtin "getset_descriptor.__get__")))&&(decide (PySem.W.takesIn K (.builtin "object.__class__")=some true)&&decide (PySem.W.mroIn K D (.type "object")=some true))))
def xlB (K:PySem.W.Frag)(cl:Nat→Addr):List (Nat×Nat×Bool)→Bool
 | []=>true
 | (a,b,r)::l=>decide (PySem.W.exmOne K (.ref (cl a)) (.ref (cl b))=some r)&&xlB K cl l
def xfc (K:PySem.W.Frag)(a:Addr)(id:String):Bool:=match PySem.W.findCls K (.ref a) (.type "type") "__init__" with
 | some (.val (.builtin i))=>i==id
 | _=>false
def frZ (g:Addr→Option Obj)(as:List Addr):PySem.W.Frag:=He.frT g (cStatics::as)
def hookZ (as:List Addr)(fa:List He.Fa)(fn:List He.DefD)(ex:PySem.W.Frag→Bool):PySem.W.Hook where
 α:=He.AlD×Bool
 obs:=fun s=>(He.obsD fa fn (frZ s.heap.get? as),ex (frZ s.heap.get? as))
 val:=fun _=>(He.valD fn,true)
 says:=fun _ h=>∃ K:PySem.W.Frag,K.In h∧He.SaysD fa fn K∧ex K=true
 of:=fun _ _ e=>⟨_,He.frT_in,congrArg Prod.fst e,congrArg Prod.snd e⟩
 keeps:=fun _ _ _ ⟨K,hK,c⟩ k=>⟨K,PySem.W.Frag.In.keeps hK k,c⟩
def obsZ (as:List Addr)(fa:List He.Fa)(fn:List He.DefD)(ex:PySem.W.Frag→Bool)(g:Addr→Option Obj):He.AlD×Bool:=(He.obsD fa fn (frZ g as),ex (frZ g as))
end PyD
end
section
namespace Lw
open PySem PySem.Spec PyProof.Rows L2 PyD
def flds:Nat→List PySem.Str
 | _=>[]
def T:Tab:=⟨0,fun a b=>a==b,["int", "bool", "str", "list", "tuple", "dict"],fun _ _=>false,flds⟩
def cl (K:PySem.W.Frag):Nat→Addr
 | 0=>He.ga K s!"TownError"
 | 1=>He.ga K s!"BadText"
 | _=>0
def XL:List (Nat×Nat×Bool):=[(0,1,false),(1,1,true)]
def topS (i:Nat):Stmt:=PySem.Challenge.pw_cutofftills_k68_events_written_and_read.main.body.getD i (.Pass ⟨0,0,0,0⟩)
abbrev s_event_text:Stmt:=topS 9
abbrev s_write_events:Stmt:=topS 10
abbrev s_is_name:Stmt:=topS 6
abbrev s_is_figure:Stmt:=topS 11
abbrev s_event_in:Stmt:=topS 12
abbrev s_read_events:Stmt:=topS 13
abbrev s__law_refused:Stmt:=topS 34
abbrev s__law_pool:Stmt:=topS 15
abbrev s__law_draw:Stmt:=topS 16
abbrev s__law_pick:Stmt:=topS 17
abbrev s__law_names:Stmt:=topS 18
abbrev s__law_plan:Stmt:=topS 19
abbrev s__law_first:Stmt:=topS 21
abbrev s__law_events:Stmt:=topS 30
abbrev s__law_can:Stmt:=topS 28
abbrev s__law_choices:Stmt:=topS 31
abbrev s__law_group:Stmt:=topS 20
abbrev s__law_stopped:Stmt:=topS 22
abbrev s__law_word:Stmt:=topS 23
abbrev s__law_low:Stmt:=topS 25
abbrev s__law_put:Stmt:=topS 24
abbrev s__law_paid:Stmt:=topS 26
abbrev s__law_lined:Stmt:=topS 27
abbrev s__law_after:Stmt:=topS 29
abbrev s__law_run_of:Stmt:=topS 33
abbrev s__law_event_text:Stmt:=topS 32
abbrev s_law:Stmt:=topS 35
abbrev s_BadText___init__:Stmt:=inClass (topS 2) 0
def dd_event_text:He.DefD:=⟨(s!"event_text",none),s!"event_text",s!"event_text",defArgs s_event_text,defBody s_event_text,defScope s_event_text,[],[]⟩
def dd_write_events:He.DefD:=⟨(s!"write_events",none),s!"write_events",s!"write_events",defArgs s_write_events,defBody s_write_events,defScope s_write_events,[],[]⟩
def dd_is_name:He.DefD:=⟨(s!"is_name",none),s!"is_name",s!"is_name",defArgs s_is_name,defBody s_is_name,defScope s_is_name,[],[]⟩
def dd_is_figure:He.DefD:=⟨(s!"is_figure",none),s!"is_figure",s!"is_figure",defArgs s_is_figure,defBody s_is_figure,defScope s_is_figure,[],[]⟩
def dd_event_in:He.DefD:=⟨(s!"event_in",none),s!"event_in",s!"event_in",defArgs s_event_in,defBody s_event_in,defScope s_event_in,[],[]⟩
def dd_read_events:He.DefD:=⟨(s!"read_events",none),s!"read_events",s!"read_events",defArgs s_read_events,defBody s_read_events,defScope s_read_events,[],[]⟩
def dd__law_refused:He.DefD:=⟨(s!"_law_refused",none),s!"_law_refused",s!"_law_refused",defArgs s__law_refused,defBody s__law_refused,defScope s__law_refused,[],[]⟩
def dd__law_pool:He.DefD:=⟨(s!"_law_pool",none),s!"_law_pool",s!"_law_pool",defArgs s__law_pool,defBody s__law_pool,defScope s__law_pool,[],[]⟩
def dd__law_draw:He.DefD:=⟨(s!"_law_draw",none),s!"_law_draw",s!"_law_draw",defArgs s__law_draw,defBody s__law_draw,defScope s__law_draw,[],[]⟩
def dd__law_pick:He.DefD:=⟨(s!"_law_pick",none),s!"_law_pick",s!"_law_pick",defArgs s__law_pick,defBody s__law_pick,defScope s__law_pick,[],[]⟩
def dd__law_names:He.DefD:=⟨(s!"_law_names",none),s!"_law_names",s!"_law_names",defArgs s__law_names,defBody s__law_names,defScope s__law_names,[],[]⟩
def dd__law_plan:He.DefD:=⟨(s!"_law_plan",none),s!"_law_plan",s!"_law_plan",defArgs s__law_plan,defBody s__law_plan,defScope s__law_plan,[],[]⟩
def dd__law_first:He.DefD:=⟨(s!"_law_first",none),s!"_law_first",s!"_law_first",defArgs s__law_first,defBody s__law_first,defScope s__law_first,[],[]⟩
def dd__law_events:He.DefD:=⟨(s!"_law_events",none),s!"_law_events",s!"_law_events",defArgs s__law_events,defBody s__law_events,defScope s__law_events,[],[]⟩
def dd__law_can:He.DefD:=⟨(s!"_law_can",none),s!"_law_can",s!"_law_can",defArgs s__law_can,defBody s__law_can,defScope s__law_can,[],[]⟩
def dd__law_choices:He.DefD:=⟨(s!"_law_choices",none),s!"_law_choices",s!"_law_choices",defArgs s__law_choices,defBody s__law_choices,defScope s__law_choices,[],[]⟩
def dd__law_group:He.DefD:=⟨(s!"_law_group",none),s!"_law_group",s!"_law_group",defArgs s__law_group,defBody s__law_group,defScope s__law_group,[],[]⟩
def dd__law_stopped:He.DefD:=⟨(s!"_law_stopped",none),s!"_law_stopped",s!"_law_stopped",defArgs s__law_stopped,defBody s__law_stopped,defScope s__law_stopped,[],[]⟩
def dd__law_word:He.DefD:=⟨(s!"_law_word",none),s!"_law_word",s!"_law_word",defArgs s__law_word,defBody s__law_word,defScope s__law_word,[],[]⟩
def dd__law_low:He.DefD:=⟨(s!"_law_low",none),s!"_law_low",s!"_law_low",defArgs s__law_low,defBody s__law_low,defScope s__law_low,[],[]⟩
def dd__law_put:He.DefD:=⟨(s!"_law_put",none),s!"_law_put",s!"_law_put",defArgs s__law_put,defBody s__law_put,defScope s__law_put,[],[]⟩
def dd__law_paid:He.DefD:=⟨(s!"_law_paid",none),s!"_law_paid",s!"_law_paid",defArgs s__law_paid,defBody s__law_paid,defScope s__law_paid,[],[]⟩
def dd__law_lined:He.DefD:=⟨(s!"_law_lined",none),s!"_law_lined",s!"_law_lined",defArgs s__law_lined,defBody s__law_lined,defScope s__law_lined,[],[]⟩
def dd__law_after:He.DefD:=⟨(s!"_law_after",none),s!"_law_after",s!"_law_after",defArgs s__law_after,defBody s__law_after,defScope s__law_after,[],[]⟩
def dd__law_run_of:He.DefD:=⟨(s!"_law_run_of",none),s!"_law_run_of",s!"_law_run_of",defArgs s__law_run_of,defBody s__law_run_of,defScope s__law_run_of,[],[]⟩
def dd__law_event_text:He.DefD:=⟨(s!"_law_event_text",none),s!"_law_event_text",s!"_law_event_text",defArgs s__law_event_text,defBody s__law_event_text,defScope s__law_event_text,[],[]⟩
def dd_law:He.DefD:=⟨(s!"law",none),s!"law",s!"law",defArgs s_law,defBody s_law,defScope s_law,[],[]⟩
def dd_BadText___init__:He.DefD:=⟨(s!"BadText",some s!"__init__"),s!"__init__",s!"BadText.__init__",defArgs s_BadText___init__,defBody s_BadText___init__,defScope s_BadText___init__,[],[]⟩
def dfs:List He.DefD:=[dd_event_text,dd_write_events,dd_is_name,dd_is_figure,dd_event_in,dd_read_events,dd__law_refused,dd__law_pool,dd__law_draw,dd__law_pick,dd__law_names,dd__law_plan,dd__law_first,dd__law_events,dd__law_can,dd__law_choices,dd__law_group,dd__law_stopped,dd__law_word,dd__law_low,dd__law_put,dd__law_paid,dd__law_lined,dd__law_after,dd__law_run_of,dd__law_event_text,dd_law,dd_BadText___init__]
def fas:List He.Fa:=[.glo s!"event_text",.glo s!"write_events",.glo s!"is_name",.glo s!"is_figure",.glo s!"event_in",.glo s!"read_events",.glo s!"_law_refused",.glo s!"_law_pool",.glo s!"_law_draw",.glo s!"_law_pick",.glo s!"_law_names",.glo s!"_law_plan",.glo s!"_law_first",.glo s!"_law_events",.glo s!"_law_can",.glo s!"_law_choices",.glo s!"_law_group",.glo s!"_law_stopped",.glo s!"_law_word",.glo s!"_law_low",.glo s!"_law_put",.glo s!"_law_paid",.glo s!"_law_lined",.glo s!"_law_after",.glo s!"_law_run_of",.glo s!"_law_event_text",.glo s!"law",.glo s!"BadText",.free s!"abs",.free s!"all",.free s!"enumerate",.free s!"int",.free s!"isinstance",.free s!"len",.free s!"max",.free s!"min",.free s!"range",.free s!"sorted",.free s!"str",.free s!"sum",.free s!"tuple",.str s!"FIGURES" s!"0123456789",.str s!"LETTERS" s!"abcdefghijklmnopqrstuvwxyz",.int s!"MOST_LETTERS" (8),.glo s!"TownError"]
def ex0 (K:PySem.W.Frag):Bool:=tabB K (cl K) T
def ex1 (K:PySem.W.Frag):Bool:=xcB K (He.ga K s!"BadText") [.type "ValueError",.type "Exception",.type "BaseException",.type "object"] "ValueError.__new__"
def ex2 (K:PySem.W.Frag):Bool:=(decide (PySem.W.findIn K (.ref (He.ga K s!"BadText")) "__init__"=some (some (.ref (He.fAd K (s!"BadText",some s!"__init__")))))&&decide (PySem.W.typeIn K (.ref (He.fAd K (s!"BadText",some s!"__init__")))=some (.type "function")))
def ex3 (K:PySem.W.Frag):Bool:=(decide (PySem.W.specialIn K (.ref (He.ga K s!"TownError")) "__getattribute__"=some (some (.builtin "type.__getattribute__")))&&(PySem.W.readsIn K (He.ga K s!"TownError") (.type "type")&&xfc K (He.ga K s!"TownError") "ValueError.__init__"))
def ex4 (K:PySem.W.Frag):Bool:=decide (PySem.W.findIn K (.ref (He.ga K s!"BadText")) s!"index"=some none)
def ex5 (K:PySem.W.Frag):Bool:=xfB K (He.ga K s!"BadText")
def ex6 (K:PySem.W.Frag):Bool:=excCB K (He.ga K s!"BadText")
def ex7 (K:PySem.W.Frag):Bool:=xlB K (cl K) XL
def ex (K:PySem.W.Frag):Bool:=ex0 K&&(ex1 K&&(ex2 K&&(ex3 K&&(ex4 K&&(ex5 K&&(ex6 K&&(ex7 K)))))))
abbrev R:PySem.W.OpenRow:=PySem.W.OpenLaw.row PySem.Challenge.rw_cutofftills_k68_events_written_and_read
def as0:List Nat:=[3,6,4,24,44,51,56,61,68,75,82,89,96,103,108,113,118,125,132,137,144,151,158,163,170,177,182,187,192,199,206,211,0,23,43,50,55,60,67,74,81,88,95,102,107,112,117,124,131,136,143,150,157,162,169,176,181,186,191,198]
def as1:List Nat:=[205,210,22,25,41,42,47,48,49,52,53,54,57,58,59,62,63,64,65,66,69,70,71,72,73,76,77,78,79,80,83,84,85,86,87,90,91,92,93,94,97,98,99,100,101,104,105,106,109,110,111,114,115,116,119,120,121,122,123,126]
def as2:List Nat:=[127,128,129,130,133,134,135,138,139,140,141,142,145,146,147,148,149,152,153,154,155,156,159,160,161,164,165,166,167,168,171,172,173,174,175,178,179,180,183,184,185,188,189,190,193,194,195,196,197,200,201,202,203,204,207,208,209,40,35,36]
def as3:List Nat:=[37,38,39]
def asA:List Nat:=as0++as1++as2++as3
abbrev hk:PySem.W.Hook:=hookZ asA fas dfs ex
def ob (s:PySem.W.SharedT):He.AlD×Bool:=obsZ asA fas dfs ex (HandSHeadRun.getT s)
def loose0:List PySem.Str:=[s!"TownError",s!"BadText",s!"LETTERS",s!"MOST_LETTERS",s!"is_name",s!"FIGURES",s!"event_text",s!"write_events",s!"is_figure",s!"event_in",s!"read_events",s!"_law_pool",s!"_law_draw",s!"_law_pick",s!"_law_names",s!"_law_plan",s!"_law_group",s!"_law_first",s!"_law_stopped",s!"_law_word",s!"_law_put",s!"_law_low",s!"_law_paid",s!"_law_lined",s!"_law_can",s!"_law_after",s!"_law_events",s!"_law_choices",s!"_law_event_text",s!"_law_run_of"]
def loose1:List PySem.Str:=[s!"_law_refused"]
def loose:List PySem.Str:=loose0++loose1
set_option maxHeartbeats 0 in
theorem run (w:World):HandSHeadRun.RunEq R (PySem.W.view R.prog [35]) hk ob 60000 loose w:=by
 intro os
 kernel_rfl
end Lw
end
namespace PyD
open PySem PySem.Spec PyProof.Rows L2
inductive D where
 | non | bl (b:Bool) | int (i:Int) | str (x:Str) | ty (n:String)
 | lst (xs:List D) | tup (xs:List D) | scr (ns:List Int)
 | dct (kvs:List (Key×D)) | obj (c:Nat) (fs:List (Str×D)) | cls (c:Nat) | fn (f:Nat)
 /-- own containers with own kids (never frozen as such) -/
 | lstO (xs:List D) | dctO (kvs:List (Key×D)) | objO (c:Nat) (fs:List (Str×D)) | kid (d:D)
 /-- an exception that is held as a value; a dict whose keys are tuples -/
 | exv (c:Nat) (fs:List (Str×D)) | dctN (kvs:List (D×D))
 /-- any value: never looked at -/
 | any
instance:Inhabited D:=⟨.non⟩
structure Gx where
 K:PySem.W.Frag
 cl:Nat→Addr
 fa:Nat→Addr
 P:Program
 w:World
mutual
def nkey:D→Option NestedKey
 | .non=>some .none
 | .bl b=>some (.num (if b=true then 1 else 0))
 | .int i=>some (.num i)
 | .str x=>some (.text x)
 | .tup xs=>match nkeys xs with
  | some ks=>some (.tup ks)
  | none=>none
 | _=>none
def nkeys:List D→Option (List NestedKey)
 | []=>some []
 | d::ds=>match nkey d,nkeys ds with
  | some k,some ks=>some (k::ks)
  | _,_=>none
end
def DnIs (P:Program)(w:World)(h:Heap)(a:Addr)(kvs:List (NestedKey×Addr×V)):Prop:=kvs.length≤sizeLine∧(a==sysModules)=false∧∃ xs:List (NestedKey×Addr×Value),
 Paired (fun (p:NestedKey×Addr×V) (q:NestedKey×Addr×Value)=>p.1=q.1∧p.2.1=q.2.1∧RelV p.2.2 q.2.2) kvs xs ∧
 ∃ o es ep,h.get? a=some o∧o.ExactDict∧o.data=.dict es ep∧es.toList=xs.map (entryOfKey (nestedKind P w))∧(xs.map (·.1)).Nodup
def dnO (P:Program)(w:World)(a:Addr)(kvs:List (NestedKey×Addr×V)):HO:=.ext fun h=>DnIs P w h a kvs
def DnA (P:Program)(w:World)(H:Hp)(a:Addr)(kvs:List (NestedKey×Addr×V)):Prop:=H a=some (dnO P w a kvs)∨∃ o,H a=some (.frz o (dnO P w a kvs))
theorem DnA.mono {P:Program}{w:World}{H H':Hp}{a:Addr}{kvs:List (NestedKey×Addr×V)}(h:DnA P w H a kvs)(e:∀ o,H a=some o→H' a=some o):DnA P w H' a kvs:=by
 rcases h with h | ⟨o,h⟩
 ·exact .inl (e _ h)
 ·exact .inr ⟨o,e _ h⟩
mutual
inductive Dp (G:Gx)(F:Hp):V→D→Prop
 | non:Dp G F .non .non
 | bl (b:Bool):Dp G F (.bl b) (.bl b)
 | int (i:Int):Dp G F (.int i) (.int i)
 | str (x:Str):Dp G F (.str x) (.str x)
 | ty (n:String):Dp G F (.ty n) (.ty n)
 | lst {a:Addr} {vs:List V} {ds:List D}:F a=some (.lst vs)→DpL G F vs ds→Dp G F (.ref a) (.lst ds)
 | tup {a:Addr} {vs:List V} {ds:List D}:SqT G.K F a vs→DpL G F vs ds→Dp G F (.ref a) (.tup ds)
 | scr {a:Addr} {ns:List Int}:SqL G.K F a (ns.map V.int)→Dp G F (.ref a) (.scr ns)
 | dct {a:Addr} {kvs:List (Key×V)} {kds:List (Key×D)}:F a=some (.dK kvs)→DpK G F kvs kds→Dp G F (.ref a) (.dct kds)
 | obj {a dx:Addr} {c:Nat} {fs:List (Str×V)} {fds:List (Str×D)}:F a=some (.ins (G.cl c) dx fs)→DpF G F fs fds→Dp G F (.ref a) (.obj c fds)
 | cls (c:Nat):Dp G F (.ref (G.cl c)) (.cls c)
 | fn (f:Nat):Dp G F (.ref (G.fa f)) (.fn f)
 | any (v:V):Dp G F v .any
 | exv {a dx:Addr} {c:Nat} {fs:List (Str×V)} {fds:List (Str×D)}:F a=some (exo a (G.cl c) (some dx))→F dx=some (exd dx fs)→DpF G F fs fds→Dp G F (.ref a) (.exv c fds)
 | dctN {a:Addr} {kvs:List (NestedKey×Addr×V)} {kds:List (D×D)}:DnA G.P G.w F a kvs→DpN G F kvs kds→Dp G F (.ref a) (.dctN kds)
inductive DpL (G:Gx)(F:Hp):List V→List D→Prop
 | nil:DpL G F [] []
 | cons {v:V} {d:D} {vs:List V} {ds:List D}:Dp G F v d→DpL G F vs ds→DpL G F (v::vs) (d::ds)
inductive DpK (G:Gx)(F:Hp):List (Key×V)→List (Key×D)→Prop
 | nil:DpK G F [] []
 | cons {k:Key} {v:V} {d:D} {vs:List (Key×V)} {ds:List (Key×D)}:Dp G F v d→DpK G F vs ds→DpK G F ((k,v)::vs) ((k,d)::ds)
inductive DpF (G:Gx)(F:Hp):List (Str×V)→List (Str×D)→Prop
 | nil:DpF G F [] []
 | cons {k:Str} {v:V} {d:D} {vs:List (Str×V)} {ds:List (Str×D)}:Dp G F v d→DpF G F vs ds→DpF G F ((k,v)::vs) ((k,d)::ds)
inductive DpN (G:Gx)(F:Hp):List (NestedKey×Addr×V)→List (D×D)→Prop
 | nil:DpN G F [] []
 | cons {k:NestedKey} {b:Addr} {v:V} {dk d:D} {vs:List (NestedKey×Addr×V)} {ds:List (D×D)}:nkey dk=some k→k.depth≤8→Dp G F (.ref b) dk→Dp G F v d→DpN G F vs ds→DpN G F ((k,b,v)::vs) ((dk,d)::ds)
end
theorem sqT_ext {K:PySem.W.Frag}{H H':Hp}{a:Addr}{xs:List V}(h:SqT K H a xs)(e:Same H H'):SqT K H' a xs:=by
 rcases h with (h | ⟨o,h⟩) | h
 ·exact .inl (.inl (e _ _ h))
 ·exact .inl (.inr ⟨o,e _ _ h⟩)
 ·exact .inr h
section
variable {G:Gx}{F F':Hp}
theorem Dp.mono {v:V}{d:D}(e:Same F F')(h:Dp G F v d):Dp G F' v d:=by
 refine Dp.rec (motive_1:=fun v d _=>Dp G F' v d) (motive_2:=fun v d _=>DpL G F' v d) (motive_3:=fun v d _=>DpK G F' v d) (motive_4:=fun v d _=>DpF G F' v d) (motive_5:=fun v d _=>DpN G F' v d)
  .non .bl .int .str .ty (fun h _ i=>.lst (e _ _ h) i) (fun h _ i=>.tup (sqT_ext h e) i) (fun h=>.scr (e.seq h)) (fun h _ i=>.dct (e _ _ h) i) (fun h _ i=>.obj (e _ _ h) i) .cls .fn .any (fun h1 h2 _ i=>.exv (e _ _ h1) (e _ _ h2) i) (fun h _ i=>.dctN (h.mono fun o q=>e _ _ q) i) .nil (fun _ _ i j=>.cons i j) .nil (fun _ _ i j=>.cons i j) .nil (fun _ _ i j=>.cons i j) .nil (fun q1 q2 _ _ _ i j l=>.cons q1 q2 i j l) h
theorem DpL.mono (e:Same F F'):∀ {vs:List V} {ds:List D},DpL G F vs ds→DpL G F' vs ds
 | _,_,.nil=>.nil
 | _,_,.cons h t=>.cons (h.mono e) (DpL.mono e t)
theorem DpK.mono (e:Same F F'):∀ {vs:List (Key×V)} {ds:List (Key×D)},DpK G F vs ds→DpK G F' vs ds
 | _,_,.nil=>.nil
 | _,_,.cons h t=>.cons (h.mono e) (DpK.mono e t)
theorem DpF.mono (e:Same F F'):∀ {vs:List (Str×V)} {ds:List (Str×D)},DpF G F vs ds→DpF G F' vs ds
 | _,_,.nil=>.nil
 | _,_,.cons h t=>.cons (h.mono e) (DpF.mono e t)
theorem DpN.mono (e:Same F F'):∀ {vs:List (NestedKey×Addr×V)} {ds:List (D×D)},DpN G F vs ds→DpN G F' vs ds
 | _,_,.nil=>.nil
 | _,_,.cons q1 q2 h1 h t=>.cons q1 q2 (h1.mono e) (h.mono e) (DpN.mono e t)
theorem DpN.length:∀ {vs:List (NestedKey×Addr×V)} {ds:List (D×D)},DpN G F vs ds→vs.length=ds.length
 | _,_,.nil=>rfl
 | _,_,.cons _ _ _ _ t=>by simp [DpN.length t]
theorem DpL.length:∀ {vs:List V} {ds:List D},DpL G F vs ds→vs.length=ds.length
 | _,_,.nil=>rfl
 | _,_,.cons _ t=>by simp [DpL.length t]
theorem DpK.length:∀ {vs:List (Key×V)} {ds:List (Key×D)},DpK G F vs ds→vs.length=ds.length
 | _,_,.nil=>rfl
 | _,_,.cons _ t=>by simp [DpK.length t]
theorem DpF.length:∀ {vs:List (Str×V)} {ds:List (Str×D)},DpF G F vs ds→vs.length=ds.length
 | _,_,.nil=>rfl
 | _,_,.cons _ t=>by simp [DpF.length t]
theorem DpL.get:∀ {vs:List V} {ds:List D} {i:Nat} {d:D},DpL G F vs ds→ds[i]?=some d→∃ v,vs[i]?=some v∧Dp G F v d
 | _,_,_,_,.nil,e=>by simp at e
 | _,_,0,_,.cons h _,e=>by simp at e; subst e; exact ⟨_,rfl,h⟩
 | _,_,i+1,d,.cons _ t,e=>by
  obtain ⟨v,h1,h2⟩:=DpL.get (i:=i) (d:=d) t (by simpa using e)
  exact ⟨v,by simpa using h1,h2⟩
theorem DpL.getV:∀ {vs:List V} {ds:List D} {i:Nat} {v:V},DpL G F vs ds→vs[i]?=some v→∃ d,ds[i]?=some d∧Dp G F v d
 | _,_,_,_,.nil,e=>by simp at e
 | _,_,0,_,.cons h _,e=>by simp at e; subst e; exact ⟨_,rfl,h⟩
 | _,_,i+1,v,.cons _ t,e=>by
  obtain ⟨d,h1,h2⟩:=DpL.getV (i:=i) (v:=v) t (by simpa using e)
  exact ⟨d,by simpa using h1,h2⟩
theorem DpL.append:∀ {vs ws:List V} {ds es:List D},DpL G F vs ds→DpL G F ws es→DpL G F (vs++ws) (ds++es)
 | _,_,_,_,.nil,s=>s
 | _,_,_,_,.cons h t,s=>.cons h (DpL.append t s)
theorem DpL.take:∀ {vs:List V} {ds:List D} (n:Nat),DpL G F vs ds→DpL G F (vs.take n) (ds.take n)
 | _,_,0,_=>by simp; exact .nil
 | _,_,_+1,.nil=>.nil
 | _,_,n+1,.cons h t=>.cons h (DpL.take n t)
theorem DpL.drop:∀ {vs:List V} {ds:List D} (n:Nat),DpL G F vs ds→DpL G F (vs.drop n) (ds.drop n)
 | _,_,0,h=>h
 | _,_,_+1,.nil=>.nil
 | _,_,n+1,.cons _ t=>DpL.drop n t
theorem DpL.set {v:V}{d:D}(h:Dp G F v d):∀ {vs:List V} {ds:List D} (i:Nat),DpL G F vs ds→DpL G F (vs.set i v) (ds.set i d)
 | _,_,_,.nil=>.nil
 | _,_,0,.cons _ t=>.cons h t
 | _,_,i+1,.cons q t=>.cons q (DpL.set h i t)
theorem DpL.rep {vs:List V}{ds:List D}(h:DpL G F vs ds):∀ k:Nat,DpL G F (List.replicate k vs).flatten (List.replicate k ds).flatten
 | 0=>.nil
 | k+1=>by
  simp only [List.replicate_succ,List.flatten_cons]
  exact h.append (DpL.rep h k)
theorem DpF.look:∀ {vs:List (Str×V)} {ds:List (Str×D)} {k:Str} {d:D},DpF G F vs ds→ds.lookup k=some d→∃ v,vs.lookup k=some v∧Dp G F v d
 | _,_,_,_,.nil,e=>by simp at e
 | _,_,k,d,.cons (k:=k') h t,e=>by
  simp only [List.lookup_cons] at e ⊢
  cases q:(k==k') with
  | true=>rw [q] at e; simp at e; subst e; exact ⟨_,rfl,h⟩
  | false=>rw [q] at e; exact DpF.look t e
end
def putD (f:Str)(v:D):List (Str×D)→List (Str×D)
 | []=>[(f,v)]
 | p::r=>if p.1=f then (f,v)::r else p::putD f v r
section
variable {G:Gx}{F F':Hp}
theorem DpF.put {f:Str}{v:V}{d:D}(h:Dp G F v d):∀ {vs:List (Str×V)} {ds:List (Str×D)},DpF G F vs ds→DpF G F (putF f v vs) (putD f d ds)
 | _,_,.nil=>.cons h .nil
 | _,_,.cons (k:=k) (v:=v') (d:=d') q t=>by
  unfold putF putD
  by_cases e:k=f
  ·simp only [e,if_true]; exact .cons h t
  ·simp only [e,if_false]; exact .cons q (DpF.put h t)
end
inductive Slot where
 | val (d:D)
 | own (b:Option Nat) (d:D)
 /-- none: the exception that a suite holds; some k: what was handed in as argument k -/
 | exn (b:Option Nat)
abbrev St:=L2.St
abbrev Rho:=List (Option Slot)
structure Gm where
 G:Gx
 β:Nat→Addr
 x:Addr
 J:Hp→Prop
 Jm:∀ F F',Same F F'→J F→J F'
 U:Addr→Prop
 /-- the tables of the code objects that make functions -/
 T:List NdefX.NTab
abbrev Gm.of (G:Gx)(T:List NdefX.NTab)(β:Nat→Addr)(U:Addr→Prop):Gm:=⟨G,β,0,fun _=>True,fun _ _ _ h=>h,U,T⟩
structure TabU (T:List NdefX.NTab)(U:Addr→Prop)(F H:Hp):Prop where
 on:NdefX.TabsN T H
 off:∀ p∈T,¬ U p.1
 fr:∀ p∈T,F p.1=none
theorem tab_some {T:List NdefX.NTab}{H:Hp}(t:NdefX.TabsN T H){p:NdefX.NTab}(h:p∈T):∃ ps,H p.1=some (.tbl ps):=let ⟨ps,e,_⟩:=t p h; ⟨ps,e⟩
def Cell (G:Gx)(F H:Hp)(a:Addr):D→Prop
 | .lst ds=>∃ vs,H a=some (.lst vs)∧DpL G F vs ds
 | .dct kds=>∃ kvs,H a=some (.dK kvs)∧DpK G F kvs kds
 | .obj c fds=>∃ dx fs,H a=some (.ins (G.cl c) dx fs)∧DpF G F fs fds
 | .dctN kds=>∃ kvs,H a=some (dnO G.P G.w a kvs)∧DpN G F kvs kds
 | _=>False
theorem Cell.mono {G:Gx}{F H F' H':Hp}{a:Addr}{d:D}(e:Same F F')(k:∀ o,H a=some o→H' a=some o)(c:Cell G F H a d):Cell G F' H' a d:=by
 cases d with
 | lst ds=>obtain ⟨vs,h,t⟩:=c; exact ⟨vs,k _ h,t.mono e⟩
 | dct ds=>obtain ⟨vs,h,t⟩:=c; exact ⟨vs,k _ h,t.mono e⟩
 | obj c fs=>obtain ⟨dx,vs,h,t⟩:=c; exact ⟨dx,vs,k _ h,t.mono e⟩
 | dctN ds=>obtain ⟨vs,h,t⟩:=c; exact ⟨vs,k _ h,t.mono e⟩
 | _=>exact c.elim
theorem Cell.there {G:Gx}{F H:Hp}{a:Addr}{d:D}(c:Cell G F H a d):∃ o,H a=some o:=by
 cases d with
 | lst ds=>obtain ⟨vs,h,t⟩:=c; exact ⟨_,h⟩
 | dct ds=>obtain ⟨vs,h,t⟩:=c; exact ⟨_,h⟩
 | obj c fs=>obtain ⟨dx,vs,h,t⟩:=c; exact ⟨_,h⟩
 | dctN ds=>obtain ⟨vs,h,t⟩:=c; exact ⟨_,h⟩
 | _=>exact c.elim
def okU (o:HO):Prop:=(∀ ps,o≠.tbl ps)∧∀ c q,o≠LamX.CodeO c q
theorem okU_lst {xs:List V}:okU (.lst xs):=⟨nofun,fun c q z=>by unfold LamX.CodeO at z; cases z⟩
theorem okU_dK {xs:List (Key×V)}:okU (.dK xs):=⟨nofun,fun c q z=>by unfold LamX.CodeO at z; cases z⟩
theorem okU_ins {C dx:Addr}{xs:List (Str×V)}:okU (.ins C dx xs):=⟨nofun,fun c q z=>by unfold LamX.CodeO at z; cases z⟩
def oneB (c:Nat):Heap:=⟨Array.replicate c { cls:=.none,data:=.fields #[] },{}⟩
def oneH (c:Addr)(q:Str):Heap:=(oneB c).push { cls:=.none,data:=.fields #[.none,.str q 0] }
theorem oneH_at {c:Addr}{q:Str}:(oneH c q).get? c=some { cls:=.none,data:=.fields #[.none,.str q 0] }:=by
 have e:(oneB c).objs.size=c:=by simp [oneB]
 have:=Heap.get?_push_size (oneB c) (o:={ cls:=.none,data:=.fields #[.none,.str q 0] }) rfl
 rwa [e] at this
theorem oneH_all {c a:Addr}{q:Str}{o:Obj}(h:(oneH c q).get? a=some o):∃ vs,o.data=.fields vs:=by
 unfold Heap.get? at h
 have e:(oneH c q).objs[a]?=some o:=by
  split at h
  ·cases h
  ·exact h
 have e:((Array.replicate c ({ cls:=.none,data:=.fields #[] }:Obj)).push { cls:=.none,data:=.fields #[.none,.str q 0] })[a]?=some o:=e
 rw [Array.getElem?_push] at e
 split at e
 ·cases e; exact ⟨_,rfl⟩
 ·rw [Array.getElem?_replicate] at e
  split at e
  ·cases e; exact ⟨_,rfl⟩
  ·cases e
theorem okU_ext {φ:Heap→Prop}(h:∀ (c:Addr) (q:Str),¬ φ (oneH c q)):okU (.ext φ):=⟨nofun,fun c q z=>by
 unfold LamX.CodeO at z
 have e:=congrFun (HO.ext.inj z) (oneH c q)
 refine h c q ?_
 rw [e]
 exact ⟨_,_,_,oneH_at,rfl,rfl⟩⟩
theorem okU_dn {P:Program}{w:World}{a:Addr}{kvs:List (NestedKey×Addr×V)}:okU (dnO P w a kvs):=okU_ext fun c q ⟨_,_,xs,_,o,es,ep,h1,_,h3,_⟩=>by
 obtain ⟨vs,e⟩:=oneH_all h1
 rw [e] at h3; cases h3
theorem okN {H:Hp}{a:Addr}(h:H a=none):∀ u,H a=some u→okU u:=fun u z=>by rw [h] at z; cases z
theorem okS {H:Hp}{a:Addr}{o:HO}(h:H a=some o)(q:okU o):∀ u,H a=some u→okU u:=fun u z=>by rw [h] at z; cases z; exact q
theorem Cell.okU {G:Gx}{F H:Hp}{a:Addr}{d:D}(c:Cell G F H a d):∃ o,H a=some o∧okU o:=by
 cases d with
 | lst ds=>obtain ⟨vs,h,t⟩:=c; exact ⟨_,h,okU_lst⟩
 | dct ds=>obtain ⟨vs,h,t⟩:=c; exact ⟨_,h,okU_dK⟩
 | obj c fs=>obtain ⟨dx,vs,h,t⟩:=c; exact ⟨_,h,okU_ins⟩
 | dctN ds=>obtain ⟨vs,h,t⟩:=c; exact ⟨_,h,okU_dn⟩
 | _=>exact c.elim
theorem tab_chg {T:List NdefX.NTab}{H H':Hp}(t:NdefX.TabsN T H)(k:∀ b o,H b=some o→(∃ ps,o=.tbl ps)∨(∃ c q,o=LamX.CodeO c q)→H' b=some o):NdefX.TabsN T H':=fun p hp=>by
 obtain ⟨ps,h1,h2,h3⟩:=t p hp
 refine ⟨ps,k _ _ h1 (.inl ⟨_,rfl⟩),h2,fun pos cv hc=>?_⟩
 obtain ⟨c,e1,e2⟩:=h3 pos cv hc
 exact ⟨c,e1,k _ _ e2 (.inr ⟨_,_,rfl⟩)⟩
theorem okU.not {o:HO}(h:okU o):¬ ((∃ ps,o=.tbl ps)∨∃ c q,o=LamX.CodeO c q):=fun z=>by
 rcases z with ⟨ps,e⟩ | ⟨c,q,e⟩
 ·exact h.1 ps e
 ·exact h.2 c q e
theorem tab_upd {T:List NdefX.NTab}{H:Hp}{a:Addr}{o:HO}(t:NdefX.TabsN T H)(h:∀ u,H a=some u→okU u):NdefX.TabsN T (L2.upd H a o):=tab_chg t fun b u e z=>by
 by_cases hb:b=a
 ·subst hb; exact ((h u e).not z).elim
 ·rw [upd_ne hb]; exact e
mutual
inductive Kd (G:Gx)(F H:Hp):V→D→List Addr→Prop
 | fz {v:V} {d:D}:Dp G F v d→Kd G F H v d []
 | ow {a:Addr} {d:D} {L:List Addr}:Ct G F H a d L→Kd G F H (.ref a) (.kid d) L
inductive Ct (G:Gx)(F H:Hp):Addr→D→List Addr→Prop
 | flat {a:Addr} {d:D}:Cell G F H a d→Ct G F H a d [a]
 | lst {a:Addr} {vs:List V} {ds:List D} {L:List Addr}:H a=some (.lst vs)→KdL G F H vs ds L→a∉L→Ct G F H a (.lstO ds) (a::L)
 | dct {a:Addr} {kvs:List (Key×V)} {kds:List (Key×D)} {L:List Addr}:H a=some (.dK kvs)→kvs.map (·.1)=kds.map (·.1)→KdL G F H (kvs.map (·.2)) (kds.map (·.2)) L→a∉L→Ct G F H a (.dctO kds) (a::L)
 | obj {a dx:Addr} {c:Nat} {fs:List (Str×V)} {fds:List (Str×D)} {L:List Addr}:H a=some (.ins (G.cl c) dx fs)→fs.map (·.1)=fds.map (·.1)→KdL G F H (fs.map (·.2)) (fds.map (·.2)) L→a∉L→Ct G F H a (.objO c fds) (a::L)
inductive KdL (G:Gx)(F H:Hp):List V→List D→List Addr→Prop
 | nil:KdL G F H [] [] []
 | cons {v:V} {d:D} {vs:List V} {ds:List D} {L1 L2:List Addr}:Kd G F H v d L1→KdL G F H vs ds L2→(∀ a∈L1,a∉L2)→KdL G F H (v::vs) (d::ds) (L1++L2)
end
section
variable {G:Gx}{F H F' H':Hp}
theorem Ct.mono {a:Addr}{d:D}{L:List Addr}(e:Same F F')(h:Ct G F H a d L):(∀ b∈L,∀ o,H b=some o→H' b=some o)→Ct G F' H' a d L:=by
 refine Ct.rec (motive_1:=fun v d L _=>(∀ b∈L,∀ o,H b=some o→H' b=some o)→Kd G F' H' v d L) (motive_2:=fun a d L _=>(∀ b∈L,∀ o,H b=some o→H' b=some o)→Ct G F' H' a d L) (motive_3:=fun v d L _=>(∀ b∈L,∀ o,H b=some o→H' b=some o)→KdL G F' H' v d L) ?_ ?_ ?_ ?_ ?_ ?_ ?_ ?_ h
 ·intro v d h k; exact .fz (h.mono e)
 ·intro a d L h i k; exact .ow (i k)
 ·intro a d c k; exact .flat (c.mono e fun o q=>k a (List.mem_cons_self ..) o q)
 ·intro a vs ds L h t n i k; exact .lst (k _ (List.mem_cons_self ..) _ h) (i fun b hb=>k b (List.mem_cons_of_mem _ hb)) n
 ·intro a vs ds L h e t n i k; exact .dct (k _ (List.mem_cons_self ..) _ h) e (i fun b hb=>k b (List.mem_cons_of_mem _ hb)) n
 ·intro a dx c vs ds L h e t n i k; exact .obj (k _ (List.mem_cons_self ..) _ h) e (i fun b hb=>k b (List.mem_cons_of_mem _ hb)) n
 ·intro k; exact .nil
 ·intro v d vs ds L1 L2 h t dj i1 i2 k
  exact .cons (i1 fun b hb=>k b (List.mem_append_left _ hb)) (i2 fun b hb=>k b (List.mem_append_right _ hb)) dj
theorem Kd.mono {v:V}{d:D}{L:List Addr}(e:Same F F')(h:Kd G F H v d L)(k:∀ b∈L,∀ o,H b=some o→H' b=some o):Kd G F' H' v d L:=by
 cases h with
 | fz h=>exact .fz (h.mono e)
 | ow h=>exact .ow (h.mono e k)
theorem KdL.mono (e:Same F F'):∀ {vs:List V} {ds:List D} {L:List Addr},KdL G F H vs ds L→(∀ b∈L,∀ o,H b=some o→H' b=some o)→KdL G F' H' vs ds L
 | _,_,_,.nil,_=>.nil
 | _,_,_,.cons h t dj,k=>.cons (h.mono e fun b hb=>k b (List.mem_append_left _ hb)) (KdL.mono e t fun b hb=>k b (List.mem_append_right _ hb)) dj
theorem Ct.there {a:Addr}{d:D}{L:List Addr}(h:Ct G F H a d L):∀ b∈L,∃ o,H b=some o:=by
 refine Ct.rec (motive_1:=fun v d L _=>∀ b∈L,∃ o,H b=some o) (motive_2:=fun a d L _=>∀ b∈L,∃ o,H b=some o) (motive_3:=fun v d L _=>∀ b∈L,∃ o,H b=some o) ?_ ?_ ?_ ?_ ?_ ?_ ?_ ?_ h
 ·intro v d h b hb; cases hb
 ·intro a d L h i; exact i
 ·intro a d c b hb; obtain rfl:b=a:=by simpa using hb
  exact c.there
 ·intro a vs ds L h t n i b hb; rcases List.mem_cons.mp hb with rfl | hb
  ·exact ⟨_,h⟩
  ·exact i b hb
 ·intro a vs ds L h e t n i b hb; rcases List.mem_cons.mp hb with rfl | hb
  ·exact ⟨_,h⟩
  ·exact i b hb
 ·intro a dx c vs ds L h e t n i b hb; rcases List.mem_cons.mp hb with rfl | hb
  ·exact ⟨_,h⟩
  ·exact i b hb
 ·intro b hb; cases hb
 ·intro v d vs ds L1 L2 h t dj i1 i2 b hb
  rcases List.mem_append.mp hb with hb | hb
  ·exact i1 b hb
  ·exact i2 b hb
theorem Ct.okU {a:Addr}{d:D}{L:List Addr}(h:Ct G F H a d L):∀ b∈L,∃ o,H b=some o∧okU o:=by
 refine Ct.rec (motive_1:=fun v d L _=>∀ b∈L,∃ o,H b=some o∧PyD.okU o) (motive_2:=fun a d L _=>∀ b∈L,∃ o,H b=some o∧PyD.okU o) (motive_3:=fun v d L _=>∀ b∈L,∃ o,H b=some o∧PyD.okU o) ?_ ?_ ?_ ?_ ?_ ?_ ?_ ?_ h
 ·intro v d h b hb; cases hb
 ·intro a d L h i; exact i
 ·intro a d c b hb; obtain rfl:b=a:=by simpa using hb
  exact c.okU
 ·intro a vs ds L h t n i b hb; rcases List.mem_cons.mp hb with rfl | hb
  ·exact ⟨_,h,okU_lst⟩
  ·exact i b hb
 ·intro a vs ds L h e t n i b hb; rcases List.mem_cons.mp hb with rfl | hb
  ·exact ⟨_,h,okU_dK⟩
  ·exact i b hb
 ·intro a dx c vs ds L h e t n i b hb; rcases List.mem_cons.mp hb with rfl | hb
  ·exact ⟨_,h,okU_ins⟩
  ·exact i b hb
 ·intro b hb; cases hb
 ·intro v d vs ds L1 L2 h t dj i1 i2 b hb
  rcases List.mem_append.mp hb with hb | hb
  ·exact i1 b hb
  ·exact i2 b hb
theorem Ct.self {a:Addr}{d:D}{L:List Addr}(h:Ct G F H a d L):a∈L:=by cases h <;> exact List.mem_cons_self ..
theorem no_kid {v:V}{d:D}(h:Dp G F v (.kid d)):False:=by cases h
theorem Ct.uniq {a:Addr}{d:D}{L:List Addr}(h:Ct G F H a d L):∀ {L':List Addr},Ct G F H a d L'→L=L':=by
 refine Ct.rec (motive_1:=fun v d L _=>∀ {L'},Kd G F H v d L'→L=L') (motive_2:=fun a d L _=>∀ {L'},Ct G F H a d L'→L=L') (motive_3:=fun v d L _=>∀ {L'},KdL G F H v d L'→L=L') ?_ ?_ ?_ ?_ ?_ ?_ ?_ ?_ h
 ·intro v d h L' h'; cases h' with
  | fz h'=>rfl
  | ow h'=>exact (no_kid h).elim
 ·intro a d L h i L' h'; cases h' with
  | fz h'=>exact (no_kid h').elim
  | ow h'=>exact i h'
 ·intro a d c L' h'; cases h' with
  | flat c'=>rfl
  | _=>exact c.elim
 ·intro a vs ds L h t n i L' h'; cases h' with
  | flat c=>exact c.elim
  | lst h2 t2 n2=>rw [h] at h2; cases h2; rw [i t2]
 ·intro a vs ds L h e t n i L' h'; cases h' with
  | flat c=>exact c.elim
  | dct h2 e2 t2 n2=>rw [h] at h2; cases h2; rw [i t2]
 ·intro a dx c vs ds L h e t n i L' h'; cases h' with
  | flat c=>exact c.elim
  | obj h2 e2 t2 n2=>rw [h] at h2; cases h2; rw [i t2]
 ·intro L' h'; cases h'; rfl
 ·intro v d vs ds L1 L2 h t dj i1 i2 L' h'; cases h' with
  | cons h2 t2 dj2=>rw [i1 h2,i2 t2]
end
mutual
def strip:D→D
 | .lstO xs=>.lst (strips xs)
 | .dctO kvs=>.dct (stripK kvs)
 | .objO c fs=>.obj c (stripF fs)
 | .kid d=>strip d
 | d=>d
def strips:List D→List D
 | []=>[]
 | d::ds=>strip d::strips ds
def stripK:List (Key×D)→List (Key×D)
 | []=>[]
 | (k,d)::ds=>(k,strip d)::stripK ds
def stripF:List (Str×D)→List (Str×D)
 | []=>[]
 | (k,d)::ds=>(k,strip d)::stripF ds
end
theorem Dp.strip {G:Gx}{F:Hp}{v:V}{d:D}(h:Dp G F v d):strip d=d:=by cases h <;> simp [PyD.strip]
theorem Cell.strip {G:Gx}{F H:Hp}{a:Addr}{d:D}(h:Cell G F H a d):strip d=d:=by cases d <;> first | exact h.elim | simp [PyD.strip]
def frzH (F H:Hp)(L:List Addr):Hp:=fun b=>if b∈L then H b else F b
section
variable {G:Gx}{F H:Hp}
theorem frzH_in {L:List Addr}{b:Addr}(h:b∈L):frzH F H L b=H b:=by unfold frzH; rw [if_pos h]
theorem frzH_out {L:List Addr}{b:Addr}(h:b∉L):frzH F H L b=F b:=by unfold frzH; rw [if_neg h]
theorem frzH_sub {L:List Addr}(n:∀ b∈L,F b=none):Same F (frzH F H L):=fun b o q=>by
 rw [frzH_out fun z=>by rw [n b z] at q; cases q]; exact q
theorem frzH_same {L:List Addr}(e:Same F H):Same (frzH F H L) H:=fun b o q=>by
 by_cases h:b∈L
 ·rwa [frzH_in h] at q
 ·rw [frzH_out h] at q; exact e b o q
theorem frzH_le {L L':List Addr}(n:∀ b∈L',F b=none)(s:∀ b∈L,b∈L'):Same (frzH F H L) (frzH F H L'):=fun b o q=>by
 by_cases h:b∈L
 ·rw [frzH_in h] at q; rw [frzH_in (s b h)]; exact q
 ·rw [frzH_out h] at q
  rw [frzH_out fun z=>by rw [n b z] at q; cases q]; exact q
theorem dpk_of {kvs:List (Key×V)}:∀ {kds:List (Key×D)},kvs.map (·.1)=kds.map (·.1)→DpL G F (kvs.map (·.2)) (strips (kds.map (·.2)))→DpK G F kvs (stripK kds):=by
 induction kvs with
 | nil=>intro kds e h; cases kds with
  | nil=>simp only [stripK]; exact .nil
  | cons _ _=>simp at e
 | cons p r ih=>intro kds e h; cases kds with
  | nil=>simp at e
  | cons q s =>
   obtain ⟨k,v⟩:=p; obtain ⟨k',d⟩:=q
   simp only [List.map_cons,List.cons.injEq] at e
   obtain ⟨rfl,e⟩:=e
   simp only [List.map_cons,strips] at h
   simp only [stripK]
   cases h with | cons h1 h2=>exact .cons h1 (ih e h2)
theorem dpf_of {kvs:List (Str×V)}:∀ {kds:List (Str×D)},kvs.map (·.1)=kds.map (·.1)→DpL G F (kvs.map (·.2)) (strips (kds.map (·.2)))→DpF G F kvs (stripF kds):=by
 induction kvs with
 | nil=>intro kds e h; cases kds with
  | nil=>simp only [stripF]; exact .nil
  | cons _ _=>simp at e
 | cons p r ih=>intro kds e h; cases kds with
  | nil=>simp at e
  | cons q s =>
   obtain ⟨k,v⟩:=p; obtain ⟨k',d⟩:=q
   simp only [List.map_cons,List.cons.injEq] at e
   obtain ⟨rfl,e⟩:=e
   simp only [List.map_cons,strips] at h
   simp only [stripF]
   cases h with | cons h1 h2=>exact .cons h1 (ih e h2)
theorem Ct.freeze {a:Addr}{d:D}{L:List Addr}(h:Ct G F H a d L):(∀ b∈L,F b=none)→Dp G (frzH F H L) (.ref a) (strip d):=by
 refine Ct.rec (motive_1:=fun v d L _=>(∀ b∈L,F b=none)→Dp G (frzH F H L) v (strip d)) (motive_2:=fun a d L _=>(∀ b∈L,F b=none)→Dp G (frzH F H L) (.ref a) (strip d)) (motive_3:=fun vs ds L _=>(∀ b∈L,F b=none)→DpL G (frzH F H L) vs (strips ds)) ?_ ?_ ?_ ?_ ?_ ?_ ?_ ?_ h
 ·intro v d h n; rw [h.strip]; exact h.mono (frzH_sub n)
 ·intro a d L h i n; simp only [strip]; exact i n
 ·intro a d c n
  rw [c.strip]
  have es:=frzH_sub (H:=H) n
  cases d with
  | lst ds=>obtain ⟨vs,h,t⟩:=c; exact .lst (by rw [frzH_in (List.mem_cons_self ..)]; exact h) (t.mono es)
  | dct ds=>obtain ⟨vs,h,t⟩:=c; exact .dct (by rw [frzH_in (List.mem_cons_self ..)]; exact h) (t.mono es)
  | obj c fs=>obtain ⟨dx,vs,h,t⟩:=c; exact .obj (by rw [frzH_in (List.mem_cons_self ..)]; exact h) (t.mono es)
  | dctN ds=>obtain ⟨vs,h,t⟩:=c; exact .dctN (.inl (by rw [frzH_in (List.mem_cons_self ..)]; exact h)) (t.mono es)
  | _=>exact c.elim
 ·intro a vs ds L h t na i n
  simp only [strip]
  exact .lst (by rw [frzH_in (List.mem_cons_self ..)]; exact h) ((i fun b hb=>n b (List.mem_cons_of_mem _ hb)).mono (frzH_le n fun b hb=>List.mem_cons_of_mem _ hb))
 ·intro a vs ds L h e t na i n
  simp only [strip]
  exact .dct (by rw [frzH_in (List.mem_cons_self ..)]; exact h) (dpk_of e ((i fun b hb=>n b (List.mem_cons_of_mem _ hb)).mono (frzH_le n fun b hb=>List.mem_cons_of_mem _ hb)))
 ·intro a dx c vs ds L h e t na i n
  simp only [strip]
  exact .obj (by rw [frzH_in (List.mem_cons_self ..)]; exact h) (dpf_of e ((i fun b hb=>n b (List.mem_cons_of_mem _ hb)).mono (frzH_le n fun b hb=>List.mem_cons_of_mem _ hb)))
 ·intro n; simp only [strips]; exact .nil
 ·intro v d vs ds L1 L2 h t dj i1 i2 n
  simp only [strips]
  exact .cons ((i1 fun b hb=>n b (List.mem_append_left _ hb)).mono (frzH_le n fun b hb=>List.mem_append_left _ hb)) ((i2 fun b hb=>n b (List.mem_append_right _ hb)).mono (frzH_le n fun b hb=>List.mem_append_right _ hb))
end
def SlotOk (Γ:Gm)(F H:Hp)(v:V)(L:List Addr):Slot→Prop
 | .val d=>Dp Γ.G F v d∧L=[]
 | .own b d=>∃ a,v=.ref a∧Ct Γ.G F H a d L∧∀ k,b=some k→a=Γ.β k
 | .exn none=>v=.ref Γ.x∧L=[]
 | .exn (some k)=>v=.ref (Γ.β k)∧L=[]
def OwnAt (Γ:Gm)(ρ:Rho)(σ:St)(F H:Hp)(i:Nat)(a:Addr):Prop:=∃ s v L,ρ[i]?=some (some s)∧σ[i]?=some (some v)∧SlotOk Γ F H v L s∧a∈L
def Own (Γ:Gm)(ρ:Rho)(σ:St)(F H:Hp)(a:Addr):Prop:=∃ i,OwnAt Γ ρ σ F H i a
structure Rel (Γ:Gm)(ρ:Rho)(σ:St)(F H:Hp):Prop where
 sub:Same F H
 slot:∀ (i:Nat) s,ρ[i]?=some (some s)→∃ v L,σ[i]?=some (some v)∧SlotOk Γ F H v L s
 inj:∀ i j a,OwnAt Γ ρ σ F H i a→OwnAt Γ ρ σ F H j a→i=j
 own:∀ i a,OwnAt Γ ρ σ F H i a→F a=none∧¬ Γ.U a
 len:ρ.length=σ.length
 inv:Γ.J F
 ali:∀ a,Γ.U a→F a=none∧∃ o,H a=some o
 tab:TabU Γ.T Γ.U F H
structure Stp (Γ:Gm)(ρ:Rho)(σ:St)(F H:Hp)(ρ':Rho)(σ':St)(F' H':Hp):Prop where
 rel:Rel Γ ρ' σ' F' H'
 subF:Same F F'
 keep:∀ a,Γ.U a→H' a=H a
 there:∀ a o,H a=some o→∃ o',H' a=some o'
theorem SlotOk.uniq {Γ:Gm}{F H:Hp}{v:V}{L L':List Addr}{s:Slot}(h:SlotOk Γ F H v L s)(h':SlotOk Γ F H v L' s):L=L':=by
 cases s with
 | val d=>rw [h.2,h'.2]
 | exn b=>cases b <;> exact h.2.trans h'.2.symm
 | own b d =>
  obtain ⟨a,e,c,_⟩:=h
  obtain ⟨a',e',c',_⟩:=h'
  rw [e] at e'; cases e'
  exact c.uniq c'
theorem SlotOk.mono {Γ:Gm}{F H F' H':Hp}{v:V}{L:List Addr}{s:Slot}(e:Same F F')(k:∀ b∈L,∀ o,H b=some o→H' b=some o)(h:SlotOk Γ F H v L s):SlotOk Γ F' H' v L s:=by
 cases s with
 | val d=>exact ⟨h.1.mono e,h.2⟩
 | exn b=>cases b <;> exact h
 | own b d=>obtain ⟨a,z,c,hb⟩:=h; exact ⟨a,z,c.mono e k,hb⟩
theorem SlotOk.there {Γ:Gm}{F H:Hp}{v:V}{L:List Addr}{s:Slot}(h:SlotOk Γ F H v L s):∀ b∈L,∃ o,H b=some o:=by
 cases s with
 | val d=>rw [h.2]; intro b hb; cases hb
 | exn b=>cases b <;> (rw [h.2]; intro b hb; cases hb)
 | own b d=>obtain ⟨a,z,c,hb⟩:=h; exact c.there
theorem OwnAt.of {Γ:Gm}{ρ:Rho}{σ:St}{F H:Hp}{i:Nat}{a:Addr}{s:Slot}{v:V}{L:List Addr}(o:OwnAt Γ ρ σ F H i a)(h1:ρ[i]?=some (some s))(h2:σ[i]?=some (some v))(h3:SlotOk Γ F H v L s):a∈L:=by
 obtain ⟨s',v',L',q1,q2,q3,q4⟩:=o
 rw [h1] at q1; cases q1
 rw [h2] at q2; cases q2
 rw [h3.uniq q3]; exact q4
theorem Rel.ownH {Γ:Gm}{ρ:Rho}{σ:St}{F H:Hp}{i:Nat}{a:Addr}(o:OwnAt Γ ρ σ F H i a):∃ u,H a=some u:=by
 obtain ⟨s,v,L,h1,h2,h3,h4⟩:=o
 exact h3.there a h4
theorem SlotOk.okU {Γ:Gm}{F H:Hp}{v:V}{L:List Addr}{s:Slot}(h:SlotOk Γ F H v L s):∀ b∈L,∃ o,H b=some o∧PyD.okU o:=by
 cases s with
 | val d=>rw [h.2]; intro b hb; cases hb
 | exn b=>cases b <;> (rw [h.2]; intro b hb; cases hb)
 | own b d=>obtain ⟨a,z,c,hb⟩:=h; exact c.okU
theorem Rel.ownU {Γ:Gm}{ρ:Rho}{σ:St}{F H:Hp}{i:Nat}{a:Addr}(o:OwnAt Γ ρ σ F H i a):∃ u,H a=some u∧PyD.okU u:=by
 obtain ⟨s,v,L,h1,h2,h3,h4⟩:=o
 exact h3.okU a h4
theorem own_back {Γ:Gm}{ρ ρ':Rho}{σ σ':St}{F H F' H':Hp}(R:Rel Γ ρ σ F H)(e:Same F F')(j:Nat)(hρ:∀ s,ρ'[j]?=some (some s)→ρ[j]?=some (some s))(hσ:σ'[j]?=σ[j]?)(k:∀ b,OwnAt Γ ρ σ F H j b→∀ o,H b=some o→H' b=some o){a:Addr}(o:OwnAt Γ ρ' σ' F' H' j a):OwnAt Γ ρ σ F H j a:=by
 obtain ⟨s,v,L',q1,q2,q3,q4⟩:=o
 have q1':=hρ s q1
 obtain ⟨v',L,g1,g2⟩:=R.slot j s q1'
 rw [hσ,g1] at q2; cases q2
 have g3:SlotOk Γ F' H' v L s:=g2.mono e fun b hb=>k b ⟨s,v,L,q1',g1,g2,hb⟩
 exact ⟨s,v,L,q1',g1,g2,by rw [g3.uniq q3]; exact q4⟩
theorem slot_keep {Γ:Gm}{ρ:Rho}{σ σ':St}{F H F' H':Hp}(R:Rel Γ ρ σ F H)(e:Same F F')(j:Nat){s:Slot}(hρ:ρ[j]?=some (some s))(hσ:σ'[j]?=σ[j]?)(k:∀ b,OwnAt Γ ρ σ F H j b→∀ o,H b=some o→H' b=some o):∃ v L,σ'[j]?=some (some v)∧SlotOk Γ F' H' v L s:=by
 obtain ⟨v,L,g1,g2⟩:=R.slot j s hρ
 exact ⟨v,L,by rw [hσ]; exact g1,g2.mono e fun b hb=>k b ⟨s,v,L,hρ,g1,g2,hb⟩⟩
theorem Rel.slotV {Γ:Gm}{ρ:Rho}{σ:St}{F H:Hp}(R:Rel Γ ρ σ F H){i:Nat}{d:D}(h:ρ[i]?=some (some (.val d))):∃ v,σ[i]?=some (some v)∧Dp Γ.G F v d:=by
 obtain ⟨v,L,h1,h2,_⟩:=R.slot i _ h
 exact ⟨v,h1,h2⟩
theorem Rel.slotO {Γ:Gm}{ρ:Rho}{σ:St}{F H:Hp}(R:Rel Γ ρ σ F H){i:Nat}{b:Option Nat}{d:D}{v:V}(h:ρ[i]?=some (some (.own b d)))(hv:σ[i]?=some (some v)):∃ a L,v=.ref a∧Ct Γ.G F H a d L∧(∀ k,b=some k→a=Γ.β k)∧∀ c∈L,OwnAt Γ ρ σ F H i c:=by
 obtain ⟨v',L,h1,a,z,c,hb⟩:=R.slot i _ h
 rw [hv] at h1; cases h1
 exact ⟨a,L,z,c,hb,fun e he=>⟨_,v,L,h,hv,⟨a,z,c,hb⟩,he⟩⟩
theorem Stp.refl {Γ:Gm}{ρ:Rho}{σ:St}{F H:Hp}(r:Rel Γ ρ σ F H):Stp Γ ρ σ F H ρ σ F H :=
 ⟨r,Same.refl _,fun _ _=>rfl,fun _ o h=>⟨o,h⟩⟩
theorem Stp.trans {Γ:Gm}{ρ ρ1 ρ2:Rho}{σ σ1 σ2:St}{F H F1 H1 F2 H2:Hp}(a:Stp Γ ρ σ F H ρ1 σ1 F1 H1)(b:Stp Γ ρ1 σ1 F1 H1 ρ2 σ2 F2 H2):Stp Γ ρ σ F H ρ2 σ2 F2 H2 :=
 ⟨b.rel,a.subF.trans b.subF,fun c h=>(b.keep c h).trans (a.keep c h),fun c o h=>by
  obtain ⟨o',e⟩:=a.there c o h
  exact b.there c o' e⟩
structure Alc (F H F' H':Hp):Prop where
 subF:Same F F'
 subH:Same H H'
 fh:Same F' H'
 frn:∀ a o,H a=some o→F a=none→F' a=none
theorem Alc.refl {F H:Hp}(h:Same F H):Alc F H F H:=⟨Same.refl _,Same.refl _,h,fun _ _ _ h=>h⟩
theorem Alc.own {Γ:Gm}{ρ:Rho}{σ:St}{F H F' H':Hp}(r:Rel Γ ρ σ F H)(a:Alc F H F' H'){j:Nat}{c:Addr}(o:OwnAt Γ ρ σ F' H' j c):OwnAt Γ ρ σ F H j c :=
 own_back r a.subF j (fun _ q=>q) rfl (fun b _ u q=>a.subH b u q) o
theorem Alc.stp {Γ:Gm}{ρ:Rho}{σ:St}{F H F' H':Hp}(r:Rel Γ ρ σ F H)(a:Alc F H F' H'):Stp Γ ρ σ F H ρ σ F' H':=by
 refine ⟨⟨a.fh,fun i s h=>slot_keep r a.subF i h rfl fun b _ u q=>a.subH b u q,fun i j c h1 h2=>r.inj i j c (a.own r h1) (a.own r h2),fun i c h=>?_,r.len,Γ.Jm _ _ a.subF r.inv,fun c h=>?_,⟨r.tab.on.ext a.subH,r.tab.off,fun p hp=>let ⟨ps,e⟩:=tab_some r.tab.on hp; a.frn _ _ e (r.tab.fr p hp)⟩⟩,a.subF,fun c h=>?_,fun c o h=>⟨o,a.subH c o h⟩⟩
 ·have o:=a.own r h
  obtain ⟨h1,h2⟩:=r.own i c o
  obtain ⟨u,hu⟩:=Rel.ownH o
  exact ⟨a.frn c u hu h1,h2⟩
 ·obtain ⟨h1,o,h2⟩:=r.ali c h
  exact ⟨a.frn c o h2 h1,o,a.subH c o h2⟩
 ·obtain ⟨h1,o,h2⟩:=r.ali c h
  rw [h2,a.subH c o h2]
inductive Res where
 | val (d:D)
 | new (d:D)
 | at (i:Nat)
inductive ECl where
 | own (c:Nat)
 | blt (n:String)
structure Exc where
 c:ECl
 fs:List (Str×D)
inductive Out (α:Type) where
 | ok (a:α) (ρ:Rho)
 | exc (x:Exc) (ρ:Rho)
 | stuck
def ecV (G:Gx):ECl→Value
 | .own c=>.ref (G.cl c)
 | .blt n=>.type n
def ExcRep (G:Gx)(F H:Hp)(x:Exc):Option Addr→Prop
 | none=>x.fs=[]
 | some a=>∃ fvs,F a=some (.xd fvs)∧DpF G F fvs x.fs
def View (G:Gx)(F H:Hp)(v:V)(d:D):Prop:=Dp G F v d∨∃ a L,v=.ref a∧Ct G F H a d L
theorem View.of {G:Gx}{F H:Hp}{v:V}{d:D}(h:Dp G F v d):View G F H v d:=.inl h
theorem View.mono {G:Gx}{F H F' H':Hp}{v:V}{d:D}(e:Same F F')(k:Same H H')(h:View G F H v d):View G F' H' v d:=by
 rcases h with h | ⟨a,L,r,c⟩
 ·exact .inl (h.mono e)
 ·exact .inr ⟨a,L,r,c.mono e fun b _ o q=>k b o q⟩
def Fresh (Γ:Gm)(ρ:Rho)(σ:St)(F H:Hp)(L:List Addr):Prop:=∀ b∈L,F b=none∧¬ Γ.U b∧¬ Own Γ ρ σ F H b
def RepRes (Γ:Gm)(σ:St)(ρ:Rho)(F H:Hp)(v:V):Res→Prop
 | .val d=>Dp Γ.G F v d
 | .new d=>∃ a L,v=.ref a∧Ct Γ.G F H a d L∧Fresh Γ ρ σ F H L
 | .at i=>σ[i]?=some (some v)
def Post (Γ:Gm)(W:WX)(o:Out Res)(ρ:Rho)(σ:St)(F H:Hp)(Q:VK):Prop :=
 match o with
 | .ok r ρ'=>∀ v F' H',Stp Γ ρ σ F H ρ' σ F' H'→RepRes Γ σ ρ' F' H' v r→Q v H'
 | .exc x ρ'=>∀ d F' H',Stp Γ ρ σ F H ρ' σ F' H'→ExcRep Γ.G F' H' x d→W (ecV Γ.G x.c) d σ H'
 | .stuck=>False
abbrev M:=Rho→Out Res
def tM (Γ:Gm)(W:WX)(m:M):TE:=fun σ H Q=>∃ ρ F,Rel Γ ρ σ F H∧Post Γ W (m ρ) ρ σ F H Q
theorem _root_.L2.PE.imp {X:Cx}{e:Expr}{t t':TE}(h:PE X e t)(i:∀ σ H Q,t' σ H Q→t σ H Q):PE X e t':=⟨fun pins s σ H Q I q=>h.run pins s σ H Q I (i _ _ _ q)⟩
theorem _root_.L2.PT.imp {X:Cx}{e:Expr}{t t':TT}(h:PT X e t)(i:∀ σ H Q,t' σ H Q→t σ H Q):PT X e t':=⟨fun pins s σ H Q I q=>h.run pins s σ H Q I (i _ _ _ q)⟩
theorem _root_.L2.PA.imp {X:Cx}{e:List Expr}{t t':TA}(h:PA X e t)(i:∀ σ H Q,t' σ H Q→t σ H Q):PA X e t':=⟨fun pos pins s σ H Q I q=>h.run pos pins s σ H Q I (i _ _ _ q)⟩
theorem _root_.L2.PS.imp {X:Cx}{e:Stmt}{t t':TS}(h:PS X e t)(i:∀ D σ H,t' D σ H→t D σ H):PS X e t':=⟨fun pins s σ H D I q=>h.run pins s σ H D I (i _ _ _ q)⟩
theorem _root_.L2.PSs.imp {X:Cx}{e:List Stmt}{t t':TS}(h:PSs X e t)(i:∀ D σ H,t' D σ H→t D σ H):PSs X e t':=⟨fun pins s σ H D I q=>h.run pins s σ H D I (i _ _ _ q)⟩
def Res.frz:Res→Res
 | .new d=>.val (strip d)
 | r=>r
def frz (m:M):M:=fun ρ=>match m ρ with
 | .ok r ρ'=>.ok r.frz ρ'
 | .exc x ρ'=>.exc x ρ'
 | .stuck=>.stuck
theorem Rel.freeze {Γ:Gm}{ρ:Rho}{σ:St}{F H:Hp}{L:List Addr}(r:Rel Γ ρ σ F H)(n:∀ b∈L,F b=none∧¬ Γ.U b)(no:∀ b∈L,¬ Own Γ ρ σ F H b)(hk:∀ b∈L,∃ o,H b=some o∧okU o):Stp Γ ρ σ F H ρ σ (frzH F H L) H:=by
 have e:Same F (frzH F H L):=frzH_sub fun b hb=>(n b hb).1
 have bk:∀ j c,OwnAt Γ ρ σ (frzH F H L) H j c→OwnAt Γ ρ σ F H j c:=fun j c o=>own_back r e j (fun _ q=>q) rfl (fun _ _ _ q=>q) o
 refine ⟨⟨frzH_same r.sub,fun i s h=>slot_keep r e i h rfl fun _ _ _ q=>q,fun i j c h1 h2=>r.inj i j c (bk i c h1) (bk j c h2),fun i c h=>?_,r.len,Γ.Jm _ _ e r.inv,fun c h=>?_,r.tab.on,r.tab.off,fun p hp=>by
  obtain ⟨ps,e⟩:=tab_some r.tab.on hp
  rw [frzH_out fun z=>by
   obtain ⟨o,e2,q⟩:=hk _ z
   rw [e] at e2; cases e2; exact q.1 ps rfl]
  exact r.tab.fr p hp⟩,e,fun _ _=>rfl,fun c o h=>⟨o,h⟩⟩
 ·obtain ⟨h1,h2⟩:=r.own i c (bk i c h)
  exact ⟨by rw [frzH_out fun z=>no c z ⟨i,bk i c h⟩]; exact h1,h2⟩
 ·obtain ⟨h1,h2⟩:=r.ali c h
  exact ⟨by rw [frzH_out fun z=>(n c z).2 h]; exact h1,h2⟩
theorem Post.frz {Γ:Gm}{W:WX}{o:Out Res}{ρ:Rho}{σ:St}{F H:Hp}{Q:VK}(h:Post Γ W (match o with | .ok r ρ'=>.ok r.frz ρ' | .exc x ρ'=>.exc x ρ' | .stuck=>.stuck) ρ σ F H Q):Post Γ W o ρ σ F H Q:=by
 cases o with
 | ok r ρ' =>
  cases r with
  | new d =>
   intro v F' H' s r
   obtain ⟨a,L,rfl,c,fr⟩:=r
   have s2:=s.rel.freeze (L:=L) (fun b hb=>⟨(fr b hb).1,(fr b hb).2.1⟩) (fun b hb=>(fr b hb).2.2) c.okU
   exact h _ _ _ (s.trans s2) (c.freeze fun b hb=>(fr b hb).1)
  | val d=>exact h
  | «at» i=>exact h
 | exc x ρ'=>exact h
 | stuck=>exact h
def resolve (ρ:Rho):Res→Option D
 | .val d=>some d
 | .new d=>none
 | .at i=>match ρ[i]? with
  | some (some (.val d))=>some d
  | some (some (.own _ d))=>some d
  | _=>none
theorem resolve_view {Γ:Gm}{ρ:Rho}{σ:St}{F H:Hp}{v:V}{r:Res}{d:D}(R:Rel Γ ρ σ F H)(h:RepRes Γ σ ρ F H v r)(e:resolve ρ r=some d):View Γ.G F H v d:=by
 cases r with
 | val d'=>simp only [resolve,Option.some.injEq] at e; subst e; exact .inl h
 | new d'=>simp [resolve] at e
 | «at» i =>
  simp only [resolve] at e
  have h:σ[i]?=some (some v):=h
  split at e
  ·rename_i d' q
   cases e
   obtain ⟨v',L,h1,h2⟩:=R.slot i _ q
   rw [h] at h1; cases h1
   exact .inl h2.1
  ·rename_i b d' q
   cases e
   obtain ⟨v',L,h1,a,z,c,hb⟩:=R.slot i _ q
   rw [h] at h1; cases h1
   exact .inr ⟨a,L,z,c⟩
  ·cases e
section
variable {α β:Type}[DecidableEq α]
def gV (k:α):List (α×β)→Option β
 | []=>none
 | p::r=>if p.1=k then some p.2 else gV k r
def gP (k:α)(v:β):List (α×β)→List (α×β)
 | []=>[(k,v)]
 | p::r=>if p.1=k then (p.1,v)::r else p::gP k v r
def gU (k:α):List (α×β)→Bool
 | []=>true
 | p::r=>if p.1=k then r.all fun q=>decide (q.1≠k) else gU k r
def isKid:D→Bool
 | .kid _=>true
 | _=>false
def KdP (G:Gx)(F H:Hp)(kvs:List (α×V))(kds:List (α×D))(L:List Addr):Prop:=kvs.map (·.1)=kds.map (·.1)∧KdL G F H (kvs.map (·.2)) (kds.map (·.2)) L
variable {G:Gx}{F H H':Hp}
theorem kdp_get {k:α}:∀ {kvs:List (α×V)} {kds:List (α×D)} {L:List Addr} {d:D},KdP G F H kvs kds L→gV k kds=some d→∃ v L',gV k kvs=some v∧Kd G F H v d L'∧∀ b∈L',b∈L
 | [],[],_,_,_,e=>by simp [gV] at e
 | [],_::_,_,_,h,_=>by simpa using h.1
 | _::_,[],_,_,h,_=>by simpa using h.1
 | (k1,v)::r,(k2,w)::s,_,d,⟨h1,h2⟩,e=>by
  simp only [List.map_cons,List.cons.injEq] at h1
  obtain ⟨rfl,h1⟩:=h1
  simp only [List.map_cons] at h2
  simp only [gV] at e ⊢
  cases h2 with
  | cons a t dj =>
   split at e
   ·rename_i z; rw [if_pos z]; cases e; exact ⟨v,_,rfl,a,fun b hb=>List.mem_append_left _ hb⟩
   ·rename_i z; rw [if_neg z]
    obtain ⟨v',L',q1,q2,q3⟩:=kdp_get (k:=k) ⟨h1,t⟩ e
    exact ⟨v',L',q1,q2,fun b hb=>List.mem_append_right _ (q3 b hb)⟩
theorem kdp_put {k:α}{v:V}{d:D}{Ld:List Addr}(hd:Kd G F H v d Ld):∀ {kvs:List (α×V)} {kds:List (α×D)} {L:List Addr},KdP G F H kvs kds L→(∀ b∈Ld,b∉L)→∃ L',KdP G F H (gP k v kvs) (gP k d kds) L'∧∀ b∈L',b∈L∨b∈Ld
 | [],[],L,h,n=>⟨Ld++[],⟨rfl,.cons hd .nil (fun _ _ z=>by cases z)⟩,fun b hb=>.inr (by simpa using hb)⟩
 | [],_::_,_,h,_=>by simpa using h.1
 | _::_,[],_,h,_=>by simpa using h.1
 | (k1,v1)::r,(k2,w)::s,_,⟨h1,h2⟩,n=>by
  simp only [List.map_cons,List.cons.injEq] at h1
  obtain ⟨rfl,h1⟩:=h1
  simp only [List.map_cons] at h2
  simp only [gP]
  cases h2 with
  | cons a t dj =>
   rename_i L1 L2
   by_cases z:k1=k
   ·rw [if_pos z,if_pos z]
    exact ⟨Ld++L2,⟨by simp [h1],.cons hd t fun b hb q=>n b hb (List.mem_append_right _ q)⟩,fun b hb=>by
     rcases List.mem_append.mp hb with hb | hb
     ·exact .inr hb
     ·exact .inl (List.mem_append_right _ hb)⟩
   ·rw [if_neg z,if_neg z]
    obtain ⟨L',⟨q1,q2⟩,q3⟩:=kdp_put (k:=k) hd ⟨h1,t⟩ fun b hb q=>n b hb (List.mem_append_right _ q)
    exact ⟨L1++L',⟨by simp [q1],.cons a q2 fun b hb q=>by
     rcases q3 b q with q | q
     ·exact dj b hb q
     ·exact n b q (List.mem_append_left _ hb)⟩,fun b hb=>by
     rcases List.mem_append.mp hb with hb | hb
     ·exact .inl (List.mem_append_left _ hb)
     ·rcases q3 b hb with q | q
      ·exact .inl (List.mem_append_right _ q)
      ·exact .inr q⟩
theorem Kd.kid {v:V}{d:D}{L:List Addr}(h:Kd G F H v (.kid d) L):∃ a,v=.ref a∧Ct G F H a d L:=by
 cases h with
 | fz h=>exact (no_kid h).elim
 | ow h=>exact ⟨_,rfl,h⟩
theorem Kd.fz' {v:V}{d:D}{L:List Addr}(h:Kd G F H v d L)(n:isKid d=false):Dp G F v d∧L=[]:=by
 cases h with
 | fz h=>exact ⟨h,rfl⟩
 | ow h=>cases n
theorem kdp_in {k:α}{c:D}:∀ {kvs:List (α×V)} {kds:List (α×D)} {L:List Addr},KdP G F H kvs kds L→gV k kds=some (.kid c)→∃ a L',gV k kvs=some (.ref a)∧Ct G F H a c L'∧(∀ b∈L',b∈L) ∧
  ∀ H' c',(∀ b∈L,b∉L'→∀ o,H b=some o→H' b=some o)→Ct G F H' a c' L'→KdP G F H' kvs (gP k (.kid c') kds) L
 | [],[],_,_,e=>by simp [gV] at e
 | [],_::_,_,h,_=>by simpa using h.1
 | _::_,[],_,h,_=>by simpa using h.1
 | (k1,v)::r,(k2,w)::s,_,⟨h1,h2⟩,e=>by
  simp only [List.map_cons,List.cons.injEq] at h1
  obtain ⟨rfl,h1⟩:=h1
  simp only [List.map_cons] at h2
  simp only [gV] at e ⊢
  cases h2 with
  | cons a t dj =>
   rename_i L1 L2
   simp only [gP]
   split at e
   ·rename_i z
    rw [if_pos z]; cases e
    obtain ⟨x,rfl,ct⟩:=a.kid
    refine ⟨x,L1,rfl,ct,fun b hb=>List.mem_append_left _ hb,fun H' c' kp ct'=>⟨by simp [h1,z],?_⟩⟩
    rw [if_pos z]
    exact .cons (.ow ct') (t.mono (Same.refl _) fun b hb=>kp b (List.mem_append_right _ hb) fun q=>dj b q hb) dj
   ·rename_i z
    rw [if_neg z]
    obtain ⟨x,L',q1,q2,q3,q4⟩:=kdp_in (k:=k) ⟨h1,t⟩ e
    refine ⟨x,L',q1,q2,fun b hb=>List.mem_append_right _ (q3 b hb),fun H' c' kp ct'=>?_⟩
    have q5:=q4 H' c' (fun b hb=>kp b (List.mem_append_right _ hb)) ct'
    rw [if_neg z]
    exact ⟨by simp [q5.1],.cons (a.mono (Same.refl _) fun b hb=>kp b (List.mem_append_left _ hb) fun q=>dj b hb (q3 b q)) q5.2 dj⟩
theorem View.dctO {v:V}{kds:List (Key×D)}(h:View G F H v (.dctO kds)):∃ a kvs L,v=.ref a∧H a=some (.dK kvs)∧KdP G F H kvs kds L:=by
 rcases h with h | ⟨a,L,rfl,c⟩
 ·cases h
 ·cases c with
  | flat c=>exact c.elim
  | dct h e t n=>exact ⟨a,_,_,rfl,h,e,t⟩
theorem View.objO {v:V}{c:Nat}{fds:List (Str×D)}(h:View G F H v (.objO c fds)):∃ a dx fvs L,v=.ref a∧H a=some (.ins (G.cl c) dx fvs)∧KdP G F H fvs fds L:=by
 rcases h with h | ⟨a,L,rfl,c⟩
 ·cases h
 ·cases c with
  | flat c=>exact c.elim
  | obj h e t n=>exact ⟨a,_,_,_,rfl,h,e,t⟩
theorem gU_keys {β':Type}{k:α}:∀ {xs:List (α×β)} {ys:List (α×β')},xs.map (·.1)=ys.map (·.1)→gU k xs=gU k ys
 | [],[],_=>rfl
 | [],_::_,h=>by simp at h
 | _::_,[],h=>by simp at h
 | (k1,v)::r,(k2,w)::s,h=>by
  simp only [List.map_cons,List.cons.injEq] at h
  obtain ⟨rfl,h⟩:=h
  simp only [gU]
  have e:(r.all fun q=>decide (q.1≠k))=(s.all fun q=>decide (q.1≠k)):=by
   have:=congrArg (fun l=>l.all fun q=>decide (q≠k)) h
   simpa [List.all_map,Function.comp_def] using this
  rw [e,gU_keys (k:=k) h]
theorem valV_g {k:Key}:∀ kvs:List (Key×V),valV kvs k=gV k kvs
 | []=>rfl
 | p::r=>by
  simp only [gV]
  by_cases z:p.1=k
  ·rw [if_pos z]; simp [valV,z]
  ·rw [if_neg z,← valV_g r]; simp [valV,z]
theorem putK_g {k:Key}{v:V}:∀ kvs:List (Key×V),gU k kvs=true→putK kvs k v=gP k v kvs
 | [],_=>rfl
 | p::r,u=>by
  simp only [gU] at u
  simp only [gP]
  by_cases z:p.1=k
  ·rw [if_pos z] at u
   rw [if_pos z]
   have e:r.map (fun kv=>if kv.1=k then (kv.1,v) else kv)=r:=by
    conv=>rhs; rw [← List.map_id r]
    refine List.map_congr_left fun q hq=>?_
    have:=List.all_eq_true.mp u q hq
    simp only [ne_eq,decide_not,Bool.not_eq_eq_eq_not,Bool.not_true,decide_eq_false_iff_not] at this
    rw [if_neg this]; rfl
   simp [putK,z,e]
  ·rw [if_neg z] at u
   rw [if_neg z,← putK_g r u]
   simp only [putK,List.any_cons,z,decide_false,Bool.false_or,List.map_cons,if_false]
   split <;> simp
end
def RepF (G:Gx)(σ:St)(F:Hp)(v:V):Res→Prop
 | .val d=>Dp G F v d
 | .new _=>False
 | .at i=>σ[i]?=some (some v)
theorem RepF.mono {G:Gx}{σ:St}{F F':Hp}{v:V}{r:Res}(e:Same F F')(h:RepF G σ F v r):RepF G σ F' v r:=by
 cases r with
 | val d=>exact Dp.mono e h
 | new d=>exact h
 | «at» i=>exact h
theorem RepF.view {Γ:Gm}{ρ:Rho}{σ:St}{F H:Hp}{v:V}{r:Res}{d:D}(R:Rel Γ ρ σ F H)(h:RepF Γ.G σ F v r)(e:resolve ρ r=some d):View Γ.G F H v d:=by
 refine resolve_view R ?_ e
 cases r with
 | val d=>exact h
 | new d=>exact h.elim
 | «at» i=>exact h
def PostF (Γ:Gm)(W:WX)(o:Out Res)(ρ:Rho)(σ:St)(F H:Hp)(Q:VK):Prop :=
 match o with
 | .ok r ρ'=>∀ v F' H',Stp Γ ρ σ F H ρ' σ F' H'→RepF Γ.G σ F' v r.frz→Q v H'
 | .exc x ρ'=>∀ d F' H',Stp Γ ρ σ F H ρ' σ F' H'→ExcRep Γ.G F' H' x d→W (ecV Γ.G x.c) d σ H'
 | .stuck=>False
theorem PostF.post {Γ:Gm}{W:WX}{o:Out Res}{ρ:Rho}{σ:St}{F H:Hp}{Q:VK}(h:PostF Γ W o ρ σ F H Q):Post Γ W o ρ σ F H Q:=by
 apply Post.frz
 cases o with
 | ok r ρ' =>
  intro v F' H' s q
  refine h v F' H' s ?_
  cases r with
  | val d=>exact q
  | new d=>exact q
  | «at» i=>exact q
 | exc x ρ'=>exact h
 | stuck=>exact h
def tF (Γ:Gm)(W:WX)(m:M):TE:=fun σ H Q=>∃ ρ F,Rel Γ ρ σ F H∧PostF Γ W (m ρ) ρ σ F H Q
theorem je_f {X:Cx}{Γ:Gm}{W:WX}{e:Expr}{m:M}(h:PE X e (tM Γ W m)):PE X e (tF Γ W m):=h.imp fun σ H Q ⟨ρ,F,r,p⟩=>⟨ρ,F,r,p.post⟩
theorem Post.shift {Γ:Gm}{W:WX}{o:Out Res}{ρ ρ2:Rho}{σ:St}{F H F2 H2:Hp}{Q:VK}(s:Stp Γ ρ σ F H ρ2 σ F2 H2)(h:Post Γ W o ρ σ F H Q):Post Γ W o ρ2 σ F2 H2 Q:=by
 cases o with
 | ok r ρ'=>exact fun v F' H' s2 q=>h v F' H' (s.trans s2) q
 | exc x ρ'=>exact fun d F' H' s2 q=>h d F' H' (s.trans s2) q
 | stuck=>exact h
def bindO {α β:Type}(o:Out α)(k:α→Rho→Out β):Out β:=match o with
 | .ok a ρ=>k a ρ
 | .exc x ρ=>.exc x ρ
 | .stuck=>.stuck
def bindF {β:Type}(o:Out Res)(k:Res→Rho→Out β):Out β:=match o with
 | .ok a ρ=>k a.frz ρ
 | .exc x ρ=>.exc x ρ
 | .stuck=>.stuck
theorem Post.bindF {Γ:Gm}{W:WX}{o:Out Res}{k:Res→Rho→Out Res}{ρ:Rho}{σ:St}{F H:Hp}{Q Q1:VK}(h:Post Γ W (bindF o k) ρ σ F H Q)
  (hk:∀ r ρ1 v F1 H1,Stp Γ ρ σ F H ρ1 σ F1 H1→RepF Γ.G σ F1 v r→Post Γ W (k r ρ1) ρ1 σ F1 H1 Q→Q1 v H1):PostF Γ W o ρ σ F H Q1:=by
 cases o with
 | ok r ρ'=>exact fun v F' H' s q=>hk r.frz ρ' v F' H' s q (h.shift s)
 | exc x ρ'=>exact h
 | stuck=>exact h
def RepNew (G:Gx)(H F' H':Hp)(v:V):Res→Prop
 | .val d=>Dp G F' v d
 | .new d=>∃ a,v=.ref a∧F' a=none∧Cell G F' H' a d∧H a=none
 | .at _=>False
def BinOk (G:Gx)(r:R2)(f:D→D→Option Res):Prop:=∀ F H x y dx dy res Q,Same F H→View G F H x dx→View G F H y dy→f dx dy=some res →
 (∀ v F' H',Alc F H F' H'→RepNew G H F' H' v res→Q v H')→r x y H Q
theorem fresh_new {Γ:Gm}{ρ:Rho}{σ:St}{F H F' H':Hp}{a:Addr}(R:Rel Γ ρ σ F H)(al:Alc F H F' H')(n:F' a=none)(hn:H a=none):Fresh Γ ρ σ F' H' [a]:=fun b hb=>by
 obtain rfl:b=a:=by simpa using hb
 refine ⟨n,fun z=>?_,fun ⟨j,z⟩=>?_⟩
 ·obtain ⟨_,o,h⟩:=R.ali b z; rw [hn] at h; cases h
 ·obtain ⟨u,hu⟩:=Rel.ownH (al.own R z); rw [hn] at hu; cases hu
theorem fin_new {Γ:Gm}{W:WX}{ρ:Rho}{σ:St}{F H:Hp}{Q:VK}{res:Res}(R:Rel Γ ρ σ F H)(h:Post Γ W (.ok res ρ) ρ σ F H Q):∀ v F' H',Alc F H F' H'→RepNew Γ.G H F' H' v res→Q v H':=fun v F' H' al q=>by
 refine h v F' H' (al.stp R) ?_
 cases res with
 | val d=>exact q
 | «at» i=>exact q.elim
 | new d =>
  obtain ⟨a,e,n,c,hn⟩:=q
  exact ⟨a,[a],e,.flat c,fresh_new R al n hn⟩
def op1 (f:D→Option Res)(a:Res)(ρ:Rho):Out Res:=match resolve ρ a with
 | some x=>(match f x with | some r=>.ok r ρ | none=>.stuck)
 | none=>.stuck
def op2 (f:D→D→Option Res)(a b:Res)(ρ:Rho):Out Res:=match resolve ρ a,resolve ρ b with
 | some x,some y=>(match f x y with | some r=>.ok r ρ | none=>.stuck)
 | _,_=>.stuck
theorem op2_ok {Γ:Gm}{W:WX}{r:R2}{f:D→D→Option Res}{a b:Res}{ρ:Rho}{σ:St}{F H:Hp}{Q:VK}{x y:V}(hf:BinOk Γ.G r f)(R:Rel Γ ρ σ F H)(ha:RepF Γ.G σ F x a)(hb:RepF Γ.G σ F y b)(h:Post Γ W (op2 f a b ρ) ρ σ F H Q):r x y H Q:=by
 unfold op2 at h
 split at h
 ·rename_i dx dy e1 e2
  split at h
  ·rename_i res e3
   exact hf F H x y dx dy res Q R.sub (ha.view R e1) (hb.view R e2) e3 (fin_new R h)
  ·exact h.elim
 ·exact h.elim
def mBin (f:D→D→Option Res)(ma mb:M):M:=fun ρ=>bindF (ma ρ) fun a ρ1=>bindF (mb ρ1) fun b ρ2=>op2 f a b ρ2
theorem tOp_ok {Γ:Gm}{W:WX}{r:R2}{f:D→D→Option Res}{ma mb:M}(hf:BinOk Γ.G r f):∀ σ H Q,tM Γ W (mBin f ma mb) σ H Q→tOp r (tF Γ W ma) (tF Γ W mb) σ H Q:=by
 intro σ H Q ⟨ρ,F,R,p⟩
 refine ⟨ρ,F,R,p.bindF fun a ρ1 x F1 H1 s1 ha p1=>⟨ρ1,F1,s1.rel,p1.bindF fun b ρ2 y F2 H2 s2 hb p2=>?_⟩⟩
 exact op2_ok hf s2.rel (ha.mono s2.subF) hb p2
section
variable {X:Cx}{Γ:Gm}{W:WX}{a b:Expr}{ma mb:M}{pos:Pos}
theorem je_bin {op:Operator}{r:R2}{f:D→D→Option Res}(ho:OpR X (binaryOp op) r)(hf:BinOk Γ.G r f)(ha:PE X a (tM Γ W ma))(hb:PE X b (tM Γ W mb)):PE X (.BinOp a op b pos) (tM Γ W (mBin f ma mb)) :=
 (pe_op ho (je_f ha) (je_f hb)).imp (tOp_ok hf)
theorem je_cmp {op:CmpOp}{r:R2}{f:D→D→Option Res}(ho:OpR X (compareOp op) r)(hf:BinOk Γ.G r f)(ha:PE X a (tM Γ W ma))(hb:PE X b (tM Γ W mb))(hm:behindInMarks op b=false):PE X (.Compare a [op] [b] pos) (tM Γ W (mBin f ma mb)) :=
 (pe_cmpR ho (je_f ha) (je_f hb) hm).imp (tOp_ok hf)
end
def OrR (r r':R2):R2:=fun x y H Q=>r x y H Q∨r' x y H Q
def orF (f g:D→D→Option Res):D→D→Option Res:=fun a b=>match f a b with
 | some r=>some r
 | none=>g a b
theorem BinOk.or {G:Gx}{r r':R2}{f g:D→D→Option Res}(h:BinOk G r f)(h':BinOk G r' g):BinOk G (OrR r r') (orF f g):=fun F H x y dx dy res Q e vx vy q k=>by
 unfold orF at q
 split at q
 ·rename_i z w
  cases q
  exact .inl (h F H x y dx dy _ Q e vx vy w k)
 ·exact .inr (h' F H x y dx dy res Q e vx vy q k)
theorem Alc.tup {F H:Hp}{p:Addr}{o:HO}(e:Same F H)(n:H p=none):Alc F H (upd F p o) (upd H p o):=by
 have nF:F p=none:=Same.free e n
 refine ⟨fun b u q=>by rw [upd_ne (ne_of_none q nF)]; exact q,fun b u q=>by rw [upd_ne (ne_of_none q n)]; exact q,fun b u q=>?_,fun b u q f=>by rw [upd_ne (ne_of_none q n)]; exact f⟩
 by_cases z:b=p
 ·subst z; rw [upd_same] at q ⊢; exact q
 ·rw [upd_ne z] at q ⊢; exact e b u q
theorem Alc.cell {F H:Hp}{p:Addr}{o:HO}(e:Same F H)(n:H p=none):Alc F H F (upd H p o) :=
 ⟨Same.refl _,fun b u q=>by rw [upd_ne (ne_of_none q n)]; exact q,fun b u q=>by rw [upd_ne (ne_of_none (e b u q) n)]; exact e b u q,fun _ _ _ f=>f⟩
theorem View.int {G:Gx}{F H:Hp}{v:V}{i:Int}(h:View G F H v (.int i)):v=.int i:=by
 rcases h with h | ⟨a,L,e,c⟩
 ·cases h; rfl
 ·cases c with | flat c=>exact c.elim
theorem View.bl {G:Gx}{F H:Hp}{v:V}{i:Bool}(h:View G F H v (.bl i)):v=.bl i:=by
 rcases h with h | ⟨a,L,e,c⟩
 ·cases h; rfl
 ·cases c with | flat c=>exact c.elim
theorem View.str {G:Gx}{F H:Hp}{v:V}{i:Str}(h:View G F H v (.str i)):v=.str i:=by
 rcases h with h | ⟨a,L,e,c⟩
 ·cases h; rfl
 ·cases c with | flat c=>exact c.elim
theorem View.non {G:Gx}{F H:Hp}{v:V}(h:View G F H v .non):v=.non:=by
 rcases h with h | ⟨a,L,e,c⟩
 ·cases h; rfl
 ·cases c with | flat c=>exact c.elim
theorem View.lst {G:Gx}{F H:Hp}{v:V}{ds:List D}(s:Same F H)(h:View G F H v (.lst ds)):∃ a vs,v=.ref a∧H a=some (.lst vs)∧DpL G F vs ds:=by
 rcases h with h | ⟨a,L,e,c⟩
 ·cases h with | lst h t=>exact ⟨_,_,rfl,s _ _ h,t⟩
 ·cases c with | flat c=>obtain ⟨vs,c,t⟩:=c; exact ⟨a,vs,e,c,t⟩
theorem View.tup {G:Gx}{F H:Hp}{v:V}{ds:List D}(s:Same F H)(h:View G F H v (.tup ds)):∃ a vs,v=.ref a∧SqT G.K H a vs∧DpL G F vs ds:=by
 rcases h with h | ⟨a,L,e,c⟩
 ·cases h with | tup h t=>exact ⟨_,_,rfl,sqT_ext h s,t⟩
 ·cases c with | flat c=>exact c.elim
theorem View.scr {G:Gx}{F H:Hp}{v:V}{ns:List Int}(s:Same F H)(h:View G F H v (.scr ns)):∃ a,v=.ref a∧SqL G.K H a (ns.map V.int):=by
 rcases h with h | ⟨a,L,e,c⟩
 ·cases h with | scr h=>exact ⟨_,rfl,s.seq h⟩
 ·cases c with | flat c=>exact c.elim
theorem View.dct {G:Gx}{F H:Hp}{v:V}{ds:List (Key×D)}(s:Same F H)(h:View G F H v (.dct ds)):∃ a vs,v=.ref a∧H a=some (.dK vs)∧DpK G F vs ds:=by
 rcases h with h | ⟨a,L,e,c⟩
 ·cases h with | dct h t=>exact ⟨_,_,rfl,s _ _ h,t⟩
 ·cases c with | flat c=>obtain ⟨vs,c,t⟩:=c; exact ⟨a,vs,e,c,t⟩
theorem View.obj {G:Gx}{F H:Hp}{v:V}{c:Nat}{ds:List (Str×D)}(s:Same F H)(h:View G F H v (.obj c ds)):∃ a dx vs,v=.ref a∧H a=some (.ins (G.cl c) dx vs)∧DpF G F vs ds:=by
 rcases h with h | ⟨a,L,e,c⟩
 ·cases h with | obj h t=>exact ⟨_,_,_,rfl,s _ _ h,t⟩
 ·cases c with | flat c=>obtain ⟨dx,vs,c,t⟩:=c; exact ⟨a,dx,vs,e,c,t⟩
def fII (C:Int→Int→Bool)(g:Int→Int→D):D→D→Option Res
 | .int i,.int j=>if C i j then some (.val (g i j)) else none
 | _,_=>none
theorem bin_II {G:Gx}{C:Int→Int→Prop}{c:Int→Int→Bool}{g:Int→Int→V}{g':Int→Int→D}(hc:∀ i j,c i j=true→C i j)(hg:∀ i j F,Dp G F (g i j) (g' i j)):BinOk G (rI C g) (fII c g'):=by
 intro F H x y dx dy res Q e vx vy q k
 unfold fII at q
 split at q
 ·split at q
  ·rename_i i j w
   cases q
   exact ⟨i,j,vx.int,vy.int,hc i j w,k _ F H (.refl e) (hg i j F)⟩
  ·cases q
 ·cases q
theorem bin_I0 {G:Gx}{g:Int→Int→V}{g':Int→Int→D}(hg:∀ i j F,Dp G F (g i j) (g' i j)):BinOk G (rI0 g) (fII (fun _ _=>true) g'):=by
 intro F H x y dx dy res Q e vx vy q k
 unfold fII at q
 split at q
 ·rename_i i j
  simp only [if_true,Option.some.injEq] at q
  cases q
  exact ⟨i,j,vx.int,vy.int,k _ F H (.refl e) (hg i j F)⟩
 ·cases q
def fAddS:D→D→Option Res
 | .str i,.str j=>if i.length+j.length≤sizeLine then some (.val (.str (i++j))) else none
 | _,_=>none
def fAddL:D→D→Option Res
 | .lst i,.lst j=>if i.length+j.length≤sizeLine then some (.new (.lst (i++j))) else none
 | _,_=>none
def fAddT:D→D→Option Res
 | .tup i,.tup j=>if i.length+j.length≤sizeLine then some (.val (.tup (i++j))) else none
 | _,_=>none
abbrev MB:=Rho→Out Bool
def PostB (Γ:Gm)(W:WX)(o:Out Bool)(ρ:Rho)(σ:St)(F H:Hp)(Q:Bool→Hp→Prop):Prop :=
 match o with
 | .ok b ρ'=>∀ F' H',Stp Γ ρ σ F H ρ' σ F' H'→Q b H'
 | .exc x ρ'=>∀ d F' H',Stp Γ ρ σ F H ρ' σ F' H'→ExcRep Γ.G F' H' x d→W (ecV Γ.G x.c) d σ H'
 | .stuck=>False
def tMB (Γ:Gm)(W:WX)(m:MB):TT:=fun σ H Q=>∃ ρ F,Rel Γ ρ σ F H∧PostB Γ W (m ρ) ρ σ F H Q
theorem PostB.shift {Γ:Gm}{W:WX}{o:Out Bool}{ρ ρ2:Rho}{σ:St}{F H F2 H2:Hp}{Q:Bool→Hp→Prop}(s:Stp Γ ρ σ F H ρ2 σ F2 H2)(h:PostB Γ W o ρ σ F H Q):PostB Γ W o ρ2 σ F2 H2 Q:=by
 cases o with
 | ok r ρ'=>exact fun F' H' s2=>h F' H' (s.trans s2)
 | exc x ρ'=>exact fun d F' H' s2 q=>h d F' H' (s.trans s2) q
 | stuck=>exact h
theorem PostB.bindF {Γ:Gm}{W:WX}{o:Out Res}{k:Res→Rho→Out Bool}{ρ:Rho}{σ:St}{F H:Hp}{Q:Bool→Hp→Prop}{Q1:VK}(h:PostB Γ W (bindF o k) ρ σ F H Q)
  (hk:∀ r ρ1 v F1 H1,Stp Γ ρ σ F H ρ1 σ F1 H1→RepF Γ.G σ F1 v r→PostB Γ W (k r ρ1) ρ1 σ F1 H1 Q→Q1 v H1):PostF Γ W o ρ σ F H Q1:=by
 cases o with
 | ok r ρ'=>exact fun v F' H' s q=>hk r.frz ρ' v F' H' s q (h.shift s)
 | exc x ρ'=>exact h
 | stuck=>exact h
theorem PostB.bindB {Γ:Gm}{W:WX}{o:Out Bool}{k:Bool→Rho→Out Bool}{ρ:Rho}{σ:St}{F H:Hp}{Q Q1:Bool→Hp→Prop}(h:PostB Γ W (bindO o k) ρ σ F H Q)
  (hk:∀ r ρ1 F1 H1,Stp Γ ρ σ F H ρ1 σ F1 H1→PostB Γ W (k r ρ1) ρ1 σ F1 H1 Q→Q1 r H1):PostB Γ W o ρ σ F H Q1:=by
 cases o with
 | ok r ρ'=>exact fun F' H' s=>hk r ρ' F' H' s (h.shift s)
 | exc x ρ'=>exact h
 | stuck=>exact h
theorem Post.bindB {Γ:Gm}{W:WX}{o:Out Bool}{k:Bool→Rho→Out Res}{ρ:Rho}{σ:St}{F H:Hp}{Q:VK}{Q1:Bool→Hp→Prop}(h:Post Γ W (bindO o k) ρ σ F H Q)
  (hk:∀ r ρ1 F1 H1,Stp Γ ρ σ F H ρ1 σ F1 H1→Post Γ W (k r ρ1) ρ1 σ F1 H1 Q→Q1 r H1):PostB Γ W o ρ σ F H Q1:=by
 cases o with
 | ok r ρ'=>exact fun F' H' s=>hk r ρ' F' H' s (h.shift s)
 | exc x ρ'=>exact h
 | stuck=>exact h
def truD:D→Option Bool
 | .non=>some false
 | .bl b=>some b
 | .int i=>some (i != 0)
 | .str y=>if y.length≤sizeLine then some ((y.length:Int) != 0) else none
 | .lst xs=>some (!xs.isEmpty)
 | .tup xs=>some (!xs.isEmpty)
 | .dct xs=>some (!xs.isEmpty)
 | _=>none
theorem DpL.isEmpty {G:Gx}{F:Hp}{vs:List V}{ds:List D}(h:DpL G F vs ds):ds.isEmpty=vs.isEmpty:=by cases h <;> rfl
theorem DpK.isEmpty {G:Gx}{F:Hp}{vs:List (Key×V)}{ds:List (Key×D)}(h:DpK G F vs ds):ds.isEmpty=vs.isEmpty:=by cases h <;> rfl
theorem truD_ok {G:Gx}{F H:Hp}{v:V}{d:D}{k:Bool}(s:Same F H)(h:View G F H v d)(e:truD d=some k):TruV G.K v H k:=by
 cases d with
 | non=>rw [h.non]; simpa [truD,eq_comm,TruV] using e
 | bl b=>rw [h.bl]; simpa [truD,eq_comm,TruV] using e
 | int i=>rw [h.int]; simp only [truD,Option.some.injEq] at e; exact e.symm
 | str y =>
  rw [h.str]
  simp only [truD] at e
  split at e
  ·cases e; exact ⟨by assumption,rfl⟩
  ·cases e
 | lst xs =>
  obtain ⟨a,vs,rfl,h1,h2⟩:=h.lst s
  simp only [truD,Option.some.injEq] at e
  exact .inl ⟨vs,SqL.of h1,by rw [← e,h2.isEmpty]⟩
 | tup xs =>
  obtain ⟨a,vs,rfl,h1,h2⟩:=h.tup s
  simp only [truD,Option.some.injEq] at e
  exact .inr (.inl ⟨vs,h1,by rw [← e,h2.isEmpty]⟩)
 | dct xs =>
  obtain ⟨a,vs,rfl,h1,h2⟩:=h.dct s
  simp only [truD,Option.some.injEq] at e
  exact .inr (.inr ⟨vs,h1,by rw [← e,h2.isEmpty]⟩)
 | _=>simp [truD] at e
def truR (a:Res)(ρ:Rho):Out Bool:=match resolve ρ a with
 | some d=>(match truD d with | some k=>.ok k ρ | none=>.stuck)
 | none=>.stuck
def mTru (m:M):MB:=fun ρ=>bindF (m ρ) fun a ρ1=>truR a ρ1
def blR (a:Res)(ρ:Rho):Out Bool:=match a with
 | .val (.bl k)=>.ok k ρ
 | .at i=>(match ρ[i]? with | some (some (.val (.bl k)))=>.ok k ρ | _=>.stuck)
 | _=>.stuck
def mBl (m:M):MB:=fun ρ=>bindF (m ρ) fun a ρ1=>blR a ρ1
theorem blR_ok {Γ:Gm}{W:WX}{a:Res}{ρ:Rho}{σ:St}{F H:Hp}{Q:Bool→Hp→Prop}{v:V}(R:Rel Γ ρ σ F H)(ha:RepF Γ.G σ F v a)(h:PostB Γ W (blR a ρ) ρ σ F H Q):∃ k,v=.bl k∧Q k H:=by
 unfold blR at h
 split at h
 ·rename_i k
  cases ha
  exact ⟨k,rfl,h F H (.refl R)⟩
 ·rename_i i
  split at h
  ·rename_i k e
   obtain ⟨v',h1,h2⟩:=R.slotV e
   have ha:σ[i]?=some (some v):=ha
   rw [ha] at h1; cases h1
   cases h2
   exact ⟨k,rfl,h F H (.refl R)⟩
  ·exact h.elim
 ·exact h.elim
section
variable {X:Cx}{Γ:Gm}{W:WX}{a b c:Expr}{ma mb mc:M}{ta tb:MB}{pos:Pos}{rest:List Expr}
theorem jt_tru (hK:X.K=Γ.G.K)(ha:PE X a (tM Γ W ma))(he:∀ whole,isTrue a X.env whole=(do let v ← whole; standAt a.pos; holding [v] (truthy v)):=by intro _; rfl):PT X a (tMB Γ W (mTru ma)) :=
 (pt_truth (je_f ha) he).imp fun σ H Q ⟨ρ,F,R,p⟩=>⟨ρ,F,R,p.bindF fun r ρ1 v F1 H1 s1 hr p1=>by
  unfold truR at p1
  split at p1
  ·rename_i d e
   split at p1
   ·rename_i k e2
    exact ⟨k,by rw [hK]; exact truD_ok s1.rel.sub (hr.view s1.rel e) e2,p1 F1 H1 (.refl s1.rel)⟩
   ·exact p1.elim
  ·exact p1.elim⟩
def mBinB (f:D→D→Option Res)(ma mb:M):MB:=mBl (mBin f ma mb)
theorem fin_bl' {Γ:Gm}{W:WX}{o:Out Res}{ρ:Rho}{σ:St}{F H:Hp}{Q:Bool→Hp→Prop}(h:PostB Γ W (PyD.bindF o fun a ρ1=>blR a ρ1) ρ σ F H Q):Post Γ W o ρ σ F H (fun z H3=>∃ k,z=.bl k∧Q k H3) :=
 (PostB.bindF h fun r ρ1 v F1 H1 s1 hr p1=>blR_ok s1.rel hr p1).post
theorem jt_cmp {op:CmpOp}{r:R2}{f:D→D→Option Res}(ho:OpR X (compareOp op) r)(hf:BinOk Γ.G r f)(ha:PE X a (tM Γ W ma))(hb:PE X b (tM Γ W mb))(hm:behindInMarks op b=false):PT X (.Compare a [op] [b] pos) (tMB Γ W (mBinB f ma mb)) :=
 (pt_cmpR ho (je_f ha) (je_f hb) hm).imp fun σ H Q ⟨ρ,F,R,p⟩=>tOp_ok hf σ H _ ⟨ρ,F,R,fin_bl' p⟩
def mChain (f g:D→D→Option Res)(ma mb mc:M):M:=fun ρ=>bindF (ma ρ) fun a ρ1=>bindF (mb ρ1) fun b ρ2=>bindF (op2 f a b ρ2) fun z ρ3=>bindO (blR z ρ3) fun k ρ3 =>
 if k=true then bindF (mc ρ3) fun c ρ4=>op2 g b c ρ4 else .ok (.val (.bl false)) ρ3
theorem chain_ok {r r':R2}{f g:D→D→Option Res}(hf:BinOk Γ.G r f)(hg:BinOk Γ.G r' g):∀ σ H Q,tM Γ W (mChain f g ma mb mc) σ H Q→tChain r r' (tF Γ W ma) (tF Γ W mb) (tF Γ W mc) σ H Q:=by
 intro σ H Q ⟨ρ,F,R,p⟩
 refine ⟨ρ,F,R,p.bindF fun a ρ1 x F1 H1 s1 ha p1=>⟨ρ1,F1,s1.rel,p1.bindF fun b ρ2 y F2 H2 s2 hb p2=>?_⟩⟩
 refine op2_ok (W:=W) hf s2.rel (ha.mono s2.subF) hb (PostF.post (p2.bindF fun z ρ3 v F3 H3 s3 hz p3=>?_))
 obtain ⟨k,e,q⟩:=blR_ok s3.rel hz (p3.bindB (Q1:=fun k H'=>if k=true then tF Γ W mc σ H' fun w' H4=>r' y w' H4 Q else Q (.bl false) H') fun k ρ4 F4 H4 s4 p4=>by
  by_cases hk:k=true
  ·simp only [hk,if_true] at p4 ⊢
   exact ⟨ρ4,F4,s4.rel,p4.bindF fun c ρ5 w F5 H5 s5 hc p5=>op2_ok hg s5.rel ((hb.mono s3.subF).mono (s4.subF.trans s5.subF)) hc p5⟩
  ·simp only [hk] at p4 ⊢
   exact p4 _ F4 H4 (.refl s4.rel) (.bl false))
 exact ⟨k,e,q⟩
theorem je_chain {op op':CmpOp}{r r':R2}{f g:D→D→Option Res}(ho:OpR X (compareOp op) r)(ho':OpR X (compareOp op') r')(hf:BinOk Γ.G r f)(hg:BinOk Γ.G r' g)(ha:PE X a (tM Γ W ma))(hb:PE X b (tM Γ W mb))(hc:PE X c (tM Γ W mc))
  (hm:lastMarks [op,op'] [b,c]=false:=by with_unfolding_all rfl):PE X (.Compare a [op,op'] [b,c] pos) (tM Γ W (mChain f g ma mb mc)) :=
 (pe_chain ho ho' (je_f ha) (je_f hb) (je_f hc) hm).imp (chain_ok hf hg)
def mAndB (ta tb:MB):MB:=fun ρ=>bindO (ta ρ) fun k ρ1=>if k=true then tb ρ1 else .ok false ρ1
def mOrB (ta tb:MB):MB:=fun ρ=>bindO (ta ρ) fun k ρ1=>if k=true then .ok true ρ1 else tb ρ1
def mNotB (ta:MB):MB:=fun ρ=>bindO (ta ρ) fun k ρ1=>.ok (!k) ρ1
theorem _root_.L2.PW.imp {X:Cx}{e:Expr}{t t':TT}(h:PW X e t)(i:∀ σ H Q,t' σ H Q→t σ H Q):PW X e t':=⟨fun wh pins s σ H Q I q=>h.run wh pins s σ H Q I (i _ _ _ q)⟩
theorem jw_and (ha:PT X a (tMB Γ W ta))(hb:PW X (.BoolOp .And (b::rest) pos) (tMB Γ W tb)):PW X (.BoolOp .And (a::b::rest) pos) (tMB Γ W (mAndB ta tb)) :=
 (pw_and ha hb).imp fun σ H Q ⟨ρ,F,R,p⟩=>⟨ρ,F,R,PostB.bindB p fun k ρ1 F1 H1 s1 p1=>by
  by_cases hk:k=true
  ·simp only [hk,if_true] at p1 ⊢; exact ⟨ρ1,F1,s1.rel,p1⟩
  ·simp only [hk] at p1 ⊢; exact p1 F1 H1 (.refl s1.rel)⟩
theorem jw_or (ha:PT X a (tMB Γ W ta))(hb:PW X (.BoolOp .Or (b::rest) pos) (tMB Γ W tb)):PW X (.BoolOp .Or (a::b::rest) pos) (tMB Γ W (mOrB ta tb)) :=
 (pw_or ha hb).imp fun σ H Q ⟨ρ,F,R,p⟩=>⟨ρ,F,R,PostB.bindB p fun k ρ1 F1 H1 s1 p1=>by
  by_cases hk:k=true
  ·simp only [hk,if_true] at p1 ⊢; exact p1 F1 H1 (.refl s1.rel)
  ·simp only [hk] at p1 ⊢; exact ⟨ρ1,F1,s1.rel,p1⟩⟩
theorem jt_not (ha:PT X a (tMB Γ W ta)):PT X (.UnaryOp .Not a pos) (tMB Γ W (mNotB ta)) :=
 (pt_not ha).imp fun σ H Q ⟨ρ,F,R,p⟩=>⟨ρ,F,R,PostB.bindB p fun k ρ1 F1 H1 s1 p1=>p1 F1 H1 (.refl s1.rel)⟩
def mAndV (ma mb:M):M:=fun ρ=>bindF (ma ρ) fun a ρ1=>bindO (blR a ρ1) fun k ρ1=>if k=true then mb ρ1 else .ok (.val (.bl false)) ρ1
def mOrV (ma mb:M):M:=fun ρ=>bindF (ma ρ) fun a ρ1=>bindO (blR a ρ1) fun k ρ1=>if k=true then .ok (.val (.bl true)) ρ1 else mb ρ1
def mNotV (ma:M):M:=fun ρ=>bindF (ma ρ) fun a ρ1=>bindO (blR a ρ1) fun k ρ1=>.ok (.val (.bl (!k))) ρ1
theorem je_and (ha:PE X a (tM Γ W ma))(hb:PE X (.BoolOp .And (b::rest) pos) (tM Γ W mb)):PE X (.BoolOp .And (a::b::rest) pos) (tM Γ W (mAndV ma mb)) :=
 (pe_and (je_f ha) hb).imp fun σ H Q ⟨ρ,F,R,p⟩=>⟨ρ,F,R,p.bindF fun r ρ1 v F1 H1 s1 hr p1=>blR_ok s1.rel hr (p1.bindB (Q1:=fun c H1=>if c=true then tM Γ W mb σ H1 Q else Q (V.bl false) H1) fun k ρ2 F2 H2 s2 p2=>by
  by_cases hk:k=true
  ·simp only [hk,if_true] at p2 ⊢; exact ⟨ρ2,F2,s2.rel,p2⟩
  ·simp only [hk] at p2 ⊢; exact p2 _ F2 H2 (.refl s2.rel) (.bl false))⟩
theorem je_or (ha:PE X a (tM Γ W ma))(hb:PE X (.BoolOp .Or (b::rest) pos) (tM Γ W mb)):PE X (.BoolOp .Or (a::b::rest) pos) (tM Γ W (mOrV ma mb)) :=
 (pe_or (je_f ha) hb).imp fun σ H Q ⟨ρ,F,R,p⟩=>⟨ρ,F,R,p.bindF fun r ρ1 v F1 H1 s1 hr p1=>blR_ok s1.rel hr (p1.bindB (Q1:=fun c H1=>if c=true then Q (V.bl true) H1 else tM Γ W mb σ H1 Q) fun k ρ2 F2 H2 s2 p2=>by
  by_cases hk:k=true
  ·simp only [hk,if_true] at p2 ⊢; exact p2 _ F2 H2 (.refl s2.rel) (.bl true)
  ·simp only [hk] at p2 ⊢; exact ⟨ρ2,F2,s2.rel,p2⟩)⟩
theorem je_not (ha:PE X a (tM Γ W ma)):PE X (.UnaryOp .Not a pos) (tM Γ W (mNotV ma)) :=
 (pe_not (je_f ha)).imp fun σ H Q ⟨ρ,F,R,p⟩=>⟨ρ,F,R,p.bindF fun r ρ1 v F1 H1 s1 hr p1=>blR_ok s1.rel hr (p1.bindB fun k ρ2 F2 H2 s2 p2=>p2 _ F2 H2 (.refl s2.rel) (.bl _))⟩
def mIf (t:MB)(ma mb:M):M:=fun ρ=>bindO (t ρ) fun k ρ1=>if k=true then ma ρ1 else mb ρ1
theorem je_if {c:Expr}(hc:PT X c (tMB Γ W ta))(ha:PE X a (tM Γ W ma))(hb:PE X b (tM Γ W mb)):PE X (.IfExp c a b pos) (tM Γ W (mIf ta ma mb)) :=
 (pe_ifExp hc ha hb).imp fun σ H Q ⟨ρ,F,R,p⟩=>⟨ρ,F,R,Post.bindB p fun k ρ1 F1 H1 s1 p1=>by
  by_cases hk:k=true
  ·simp only [hk,if_true] at p1 ⊢; exact ⟨ρ1,F1,s1.rel,p1⟩
  ·simp only [hk] at p1 ⊢; exact ⟨ρ1,F1,s1.rel,p1⟩⟩
def mVar (i:Nat):M:=fun ρ=>match ρ[i]? with
 | some (some (.val d))=>.ok (.val d) ρ
 | some (some (.own _ _))=>.ok (.at i) ρ
 | _=>.stuck
def mC (d:D):M:=fun ρ=>.ok (.val d) ρ
theorem je_const {e:Expr}{v:V}{d:D}(h:PE X e (tC v))(hd:∀ F,Dp Γ.G F v d):PE X e (tM Γ W (mC d)):=h.imp fun σ H Q ⟨ρ,F,R,p⟩=>p v F H (.refl R) (hd F)
theorem je_int {i:Int}{j pos}:PE X (.Constant (.int i) j pos) (tM Γ W (mC (.int i))):=je_const pe_int fun _=>.int i
theorem je_bl {i:Bool}{j pos}:PE X (.Constant (.bool i) j pos) (tM Γ W (mC (.bl i))):=je_const pe_bl fun _=>.bl i
theorem je_str {i:Str}{j pos}:PE X (.Constant (.str i) j pos) (tM Γ W (mC (.str i))):=je_const pe_str fun _=>.str i
theorem je_non {j pos}:PE X (.Constant .none j pos) (tM Γ W (mC .non)):=je_const pe_non fun _=>.non
theorem je_var (i:Nat){x:Str}(hN:X.N[i]?=some x:=by rfl)(hv:Vis X.env.scope x:=by first | exact Or.inl rfl | exact Or.inr (Or.inl rfl) | exact Or.inr (Or.inr rfl))(hd:(x==("__debug__" : Str))=false:=by decide)
  (hcd:(x==("__classdict__" : Str))=false:=by decide):PE X (.Name x pos) (tM Γ W (mVar i)):=(pe_var hN hv hd hcd).imp fun σ H Q ⟨ρ,F,R,p⟩=>by
 unfold mVar at p
 split at p
 ·rename_i d e
  obtain ⟨v,h1,h2⟩:=R.slotV e
  exact ⟨v,h1,p v F H (.refl R) h2⟩
 ·rename_i b d e
  obtain ⟨v,L,h1,h2⟩:=R.slot i _ e
  exact ⟨v,h1,p v F H (.refl R) h1⟩
 ·exact p.elim
end
theorem addS_ok {G:Gx}:BinOk G (fun x y H Q=>∃ i j,x=.str i∧y=.str j∧i.length+j.length≤sizeLine∧Q (.str (i++j)) H) fAddS:=by
 intro F H x y dx dy res Q e vx vy q k
 unfold fAddS at q
 split at q
 ·split at q
  ·rename_i i j w
   cases q
   exact ⟨i,j,vx.str,vy.str,w,k _ F H (.refl e) (.str _)⟩
  ·cases q
 ·cases q
theorem addL_ok {G:Gx}:BinOk G rCat fAddL:=by
 intro F H x y dx dy res Q e vx vy q k
 unfold fAddL at q
 split at q
 ·split at q
  ·rename_i i j w
   cases q
   obtain ⟨a,vs,rfl,h1,t1⟩:=vx.lst e
   obtain ⟨b,ws,rfl,h2,t2⟩:=vy.lst e
   exact ⟨a,b,vs,ws,rfl,rfl,h1,h2,by rw [t1.length,t2.length]; exact w,fun p hp=>k _ F _ (.cell e hp) ⟨p,rfl,Same.free e hp,⟨_,upd_same,t1.append t2⟩,hp⟩⟩
  ·cases q
 ·cases q
theorem addT_ok {G:Gx}:BinOk G (rCatA G.K) fAddT:=by
 intro F H x y dx dy res Q e vx vy q k
 unfold fAddT at q
 split at q
 ·split at q
  ·rename_i i j w
   cases q
   obtain ⟨a,vs,rfl,h1,t1⟩:=vx.tup e
   obtain ⟨b,ws,rfl,h2,t2⟩:=vy.tup e
   have hx:Dp G F (.ref a) (.tup i):=by
    rcases vx with h | ⟨_,_,_,c⟩
    ·exact h
    ·cases c with | flat c=>exact c.elim
   have hy:Dp G F (.ref b) (.tup j):=by
    rcases vy with h | ⟨_,_,_,c⟩
    ·exact h
    ·cases c with | flat c=>exact c.elim
   refine ⟨a,b,vs,ws,rfl,rfl,h1,h2,by rw [t1.length,t2.length]; exact w,fun z=>?_,fun _ z=>?_,fun _ _ p hp=>?_⟩
   ·subst z; cases t1; exact k _ F H (.refl e) hy
   ·subst z; cases t2; rw [List.append_nil]  at k; exact k _ F H (.refl e) hx
   ·exact k _ _ _ (.tup e hp) (.tup (SqT.of upd_same) ((t1.append t2).mono (Alc.tup e hp).subF))
  ·cases q
 ·cases q
def addD:D→D→Option Res:=orF (fII (fun _ _=>true) fun i j=>.int (i+j)) (orF fAddS (orF fAddT fAddL))
def rAddD (K:PySem.W.Frag):R2:=OrR (rI0 fun i j=>.int (i+j)) (OrR (fun x y H Q=>∃ i j,x=.str i∧y=.str j∧i.length+j.length≤sizeLine∧Q (.str (i++j)) H) (OrR (rCatA K) rCat))
theorem addD_ok {G:Gx}:BinOk G (rAddD G.K) addD:=(bin_I0 fun _ _ _=>.int _).or (addS_ok.or (addT_ok.or addL_ok))
theorem op_addD {X:Cx}:OpR X (binaryOp .Add) (rAddD X.K):=op_add.or (op_add_str.or (op_catA.or op_cat))
def subD:D→D→Option Res:=fII (fun _ _=>true) fun i j=>.int (i-j)
theorem subD_ok {G:Gx}:BinOk G (rI0 fun i j=>.int (i-j)) subD:=bin_I0 fun _ _ _=>.int _
def mulC (i j:Int):Bool:=(decide (-(2 ^ 64)<i)&&decide (i<2 ^ 64))||(decide (-(2 ^ 64)<j)&&decide (j<2 ^ 64))
theorem mulC_ok (i j:Int)(h:mulC i j=true):CMul i j:=by
 unfold mulC at h
 rcases Bool.or_eq_true_iff.mp h with z | z
 ·have w:=Bool.and_eq_true_iff.mp z; exact .inl ⟨of_decide_eq_true w.1,of_decide_eq_true w.2⟩
 ·have w:=Bool.and_eq_true_iff.mp z; exact .inr ⟨of_decide_eq_true w.1,of_decide_eq_true w.2⟩
def fRepL:D→D→Option Res
 | .lst xs,.int k=>if decide (-(2 ^ 63)≤k)&&decide (k<2 ^ 63)&&decide (xs.length * k.toNat≤sizeLine) then some (.new (.lst (List.replicate k.toNat xs).flatten)) else none
 | _,_=>none
def fRepT:D→D→Option Res
 | .tup xs,.int k=>if decide (2≤k)&&decide (k≤1000)&&decide (xs.length≤1000)&&!xs.isEmpty then some (.val (.tup (List.replicate k.toNat xs).flatten)) else none
 | _,_=>none
theorem repL_ok {G:Gx}:BinOk G rRep fRepL:=by
 intro F H x y dx dy res Q e vx vy q k
 unfold fRepL at q
 split at q
 ·split at q
  ·rename_i i j w
   cases q
   obtain ⟨a,vs,rfl,h1,t1⟩:=vx.lst e
   have w1:=Bool.and_eq_true_iff.mp w
   have w2:=Bool.and_eq_true_iff.mp w1.1
   refine ⟨a,j,vs,rfl,vy.int,h1,of_decide_eq_true w2.1,of_decide_eq_true w2.2,by rw [t1.length]; exact of_decide_eq_true w1.2,fun p hp=>k _ F _ (.cell e hp) ⟨p,rfl,Same.free e hp,⟨_,upd_same,t1.rep _⟩,hp⟩⟩
  ·cases q
 ·cases q
theorem repT_ok {G:Gx}:BinOk G (rRepT G.K) fRepT:=by
 intro F H x y dx dy res Q e vx vy q k
 unfold fRepT at q
 split at q
 ·split at q
  ·rename_i i j w
   cases q
   obtain ⟨a,vs,rfl,h1,t1⟩:=vx.tup e
   have w1:=Bool.and_eq_true_iff.mp w
   have w2:=Bool.and_eq_true_iff.mp w1.1
   have w3:=Bool.and_eq_true_iff.mp w2.1
   refine ⟨a,j,vs,rfl,vy.int,h1,?_,of_decide_eq_true w3.1,of_decide_eq_true w3.2,by rw [t1.length]; exact of_decide_eq_true w2.2,fun p hp=>k _ _ _ (.tup e hp) (.tup (SqT.of upd_same) ((t1.rep _).mono (Alc.tup e hp).subF))⟩
   intro z; subst z; cases t1; exact absurd w1.2 (by simp)
  ·cases q
 ·cases q
def mulD:D→D→Option Res:=orF (fII mulC fun i j=>.int (i * j)) (orF fRepL fRepT)
def rMulD (K:PySem.W.Frag):R2:=OrR (rI CMul fun i j=>.int (i * j)) (OrR rRep (rRepT K))
theorem mulD_ok {G:Gx}:BinOk G (rMulD G.K) mulD:=(bin_II mulC_ok fun _ _ _=>.int _).or (repL_ok.or repT_ok)
theorem op_mulD {X:Cx}:OpR X (binaryOp .Mult) (rMulD X.K):=op_mul.or (op_rep.or op_repT)
def divC (i j:Int):Bool:=decide (0<j)&&decide (j<1073741824)
def fdivD:D→D→Option Res:=fII divC fun i j=>.int (i / j)
theorem fdivD_ok {G:Gx}:BinOk G (rI CDiv fun i j=>.int (i / j)) fdivD:=bin_II (fun i j h=>⟨of_decide_eq_true (Bool.and_eq_true_iff.mp h).1,of_decide_eq_true (Bool.and_eq_true_iff.mp h).2⟩) fun _ _ _=>.int _
def modD:D→D→Option Res:=fII (fun _ j=>decide (0<j)) fun i j=>.int (i % j)
theorem modD_ok {G:Gx}:BinOk G (rI (fun _ j=>0<j) fun i j=>.int (i % j)) modD:=bin_II (fun i j h=>of_decide_eq_true h) fun _ _ _=>.int _
def powC (i j:Int):Bool:=decide (0≤j)&&(decide (j≤1000000)&&decide (i.natAbs<2 ^ 64))
def powD:D→D→Option Res:=fII powC fun i j=>.int (i ^ j.toNat)
theorem powD_ok {G:Gx}:BinOk G (rI CPow fun i j=>.int (i ^ j.toNat)) powD:=bin_II (fun i j h=>by
 have w:=Bool.and_eq_true_iff.mp h
 have w2:=Bool.and_eq_true_iff.mp w.2
 exact ⟨of_decide_eq_true w.1,of_decide_eq_true w2.1,of_decide_eq_true w2.2⟩) fun _ _ _=>.int _
def negD:D→Option Res
 | .int i=>some (.val (.int (-i)))
 | _=>none
mutual
def toPy:D→Option PyData
 | .non=>some .none
 | .bl b=>some (.bool b)
 | .int i=>some (.int i)
 | .str x=>some (.str x)
 | .lst xs=>(toPys xs).map .list
 | .tup xs=>(toPys xs).map .tuple
 | _=>none
def toPys:List D→Option (List PyData)
 | []=>some []
 | d::ds=>match toPy d,toPys ds with
  | some p,some ps=>some (p::ps)
  | _,_=>none
end
section
variable {G:Gx}{F H:Hp}
theorem Dp.py (s:Same F H){v:V}{d:D}(h:Dp G F v d):∀ p,toPy d=some p→L2.Dp G.K H v p:=by
 refine Dp.rec (motive_1:=fun v d _=>∀ p,toPy d=some p→L2.Dp G.K H v p) (motive_2:=fun vs ds _=>∀ ps,toPys ds=some ps→L2.DpAll G.K H vs ps) (motive_3:=fun v d _=>True) (motive_4:=fun v d _=>True) (motive_5:=fun v d _=>True)
  ?_ ?_ ?_ ?_ ?_ ?_ ?_ ?_ ?_ ?_ ?_ ?_ ?_ ?_ ?_ ?_ ?_ ?_ ?_ ?_ ?_ ?_ ?_ h
 ·intro p e; simp [toPy] at e; subst e; exact .non
 ·intro b p e; simp [toPy] at e; subst e; exact .bl b
 ·intro b p e; simp [toPy] at e; subst e; exact .int b
 ·intro b p e; simp [toPy] at e; subst e; exact .str b
 ·intro b p e; simp [toPy] at e
 ·intro a vs ds h t i p e
  simp only [toPy,Option.map_eq_some_iff] at e
  obtain ⟨ps,e1,rfl⟩:=e
  exact .lst (SqL.of (s _ _ h)) (i ps e1)
 ·intro a vs ds h t i p e
  simp only [toPy,Option.map_eq_some_iff] at e
  obtain ⟨ps,e1,rfl⟩:=e
  exact .tup (sqT_ext h s) (i ps e1)
 ·intro a ns h p e; simp [toPy] at e
 ·intro a vs ds h t i p e; simp [toPy] at e
 ·intro a dx c vs ds h t i p e; simp [toPy] at e
 ·intro c p e; simp [toPy] at e
 ·intro v p e; simp [toPy] at e
 ·intro c p e; simp [toPy] at e
 ·intro a dx c fs fds h1 h2 h3 i p e; simp [toPy] at e
 ·intro a kvs kds h t i p e; simp [toPy] at e
 ·intro ps e; simp [toPys] at e; subst e; exact .nil
 ·intro v d vs ds h t i1 i2 ps e
  simp only [toPys] at e
  split at e
  ·rename_i p ps' e1 e2
   cases e
   exact .cons (i1 p e1) (i2 ps' e2)
  ·cases e
 all_goals intros; trivial
theorem DpL.py (s:Same F H):∀ {vs:List V} {ds:List D},DpL G F vs ds→∀ ps,toPys ds=some ps→L2.DpAll G.K H vs ps
 | _,_,.nil=>fun ps e=>by simp [toPys] at e; subst e; exact .nil
 | _,_,.cons h t=>fun ps e=>by
  simp only [toPys] at e
  split at e
  ·rename_i p ps' e1 e2
   cases e
   exact .cons (h.py s p e1) (DpL.py s t ps' e2)
  ·cases e
theorem View.py (s:Same F H){v:V}{d:D}(h:View G F H v d){p:PyData}(e:toPy d=some p):L2.Dp G.K H v p:=by
 rcases h with h | ⟨a,L,r,c⟩
 ·exact h.py s p e
 ·cases c with
  | lst _ _ _=>simp [toPy] at e
  | dct _ _ _ _=>simp [toPy] at e
  | obj _ _ _ _=>simp [toPy] at e
  | flat c =>
  cases d with
  | lst ds =>
   obtain ⟨vs,h1,t⟩:=c
   simp only [toPy,Option.map_eq_some_iff] at e
   obtain ⟨ps,e1,rfl⟩:=e
   rw [r]
   exact .lst (SqL.of h1) (t.py s ps e1)
  | dct ds=>simp [toPy] at e
  | obj c ds=>simp [toPy] at e
  | dctN ds=>simp [toPy] at e
  | _=>exact c.elim
end
def eqB (x y:D):Option Bool:=match toPy x,toPy y with
 | some a,some b=>if SeqAt.shaped a&&SeqAt.shaped b then some (PyData.eqv a b) else none
 | _,_=>none
def eqD0 (x y:D):Option Res:=(eqB x y).map fun b=>.val (.bl b)
def neD0 (x y:D):Option Res:=(eqB x y).map fun b=>.val (.bl (!b))
theorem eqB_some {x y:D}{b:Bool}(h:eqB x y=some b):∃ p q,toPy x=some p∧toPy y=some q∧SeqAt.shaped p=true∧SeqAt.shaped q=true∧b=PyData.eqv p q:=by
 unfold eqB at h
 split at h
 ·rename_i p q e1 e2
  split at h
  ·rename_i w
   have w:=Bool.and_eq_true_iff.mp w
   cases h
   exact ⟨p,q,e1,e2,w.1,w.2,rfl⟩
  ·cases h
 ·cases h
theorem eqD0_ok {G:Gx}:BinOk G (rEqD G.K) eqD0:=by
 intro F H x y dx dy res Q e vx vy q k
 simp only [eqD0,Option.map_eq_some_iff] at q
 obtain ⟨b,h,rfl⟩:=q
 obtain ⟨p,p',e1,e2,s1,s2,rfl⟩:=eqB_some h
 exact ⟨p,p',vx.py e e1,vy.py e e2,s1,s2,k _ F H (.refl e) (.bl _)⟩
theorem neD0_ok {G:Gx}:BinOk G (rNeD G.K) neD0:=by
 intro F H x y dx dy res Q e vx vy q k
 simp only [neD0,Option.map_eq_some_iff] at q
 obtain ⟨b,h,rfl⟩:=q
 obtain ⟨p,p',e1,e2,s1,s2,rfl⟩:=eqB_some h
 exact ⟨p,p',vx.py e e1,vy.py e e2,s1,s2,k _ F H (.refl e) (.bl _)⟩
def eqF:D→D→Option Bool
 | .str a,.str b=>some (decide (a=b))
 | .int a,.int b=>some (decide (a=b))
 | .bl a,.bl b=>some (decide (a=b))
 | .non,.non=>some true
 | .non,.int _=>some false
 | .int _,.non=>some false
 | .non,.bl _=>some false
 | .bl _,.non=>some false
 | .non,.str _=>some false
 | .str _,.non=>some false
 | .int _,.str _=>some false
 | .str _,.int _=>some false
 | .bl _,.str _=>some false
 | .str _,.bl _=>some false
 | _,_=>none
theorem eqF_ok {G:Gx}{F H:Hp}{x y:V}{dx dy:D}{b:Bool}(vx:View G F H x dx)(vy:View G F H y dy)(h:eqF dx dy=some b):scal x y=true∧decide (x=y)=b:=by
 unfold eqF at h
 split at h <;> first
  | (cases h; rw [vx.str,vy.str]; simp [scal])
  | (cases h; rw [vx.int,vy.int]; simp [scal])
  | (cases h; rw [vx.bl,vy.bl]; simp [scal])
  | (cases h; rw [vx.non,vy.non]; simp [scal])
  | (cases h; rw [vx.non,vy.int]; simp [scal])
  | (cases h; rw [vx.int,vy.non]; simp [scal])
  | (cases h; rw [vx.non,vy.bl]; simp [scal])
  | (cases h; rw [vx.bl,vy.non]; simp [scal])
  | (cases h; rw [vx.non,vy.str]; simp [scal])
  | (cases h; rw [vx.str,vy.non]; simp [scal])
  | (cases h; rw [vx.int,vy.str]; simp [scal])
  | (cases h; rw [vx.str,vy.int]; simp [scal])
  | (cases h; rw [vx.bl,vy.str]; simp [scal])
  | (cases h; rw [vx.str,vy.bl]; simp [scal])
  | cases h
def eqD:D→D→Option Res:=orF (fun x y=>(eqF x y).map fun b=>.val (.bl b)) eqD0
def neD:D→D→Option Res:=orF (fun x y=>(eqF x y).map fun b=>.val (.bl (!b))) neD0
theorem eqD_ok {G:Gx}:BinOk G (OrR rEq (rEqD G.K)) eqD:=BinOk.or (fun F H x y dx dy res Q e vx vy q k=>by
 obtain ⟨b,h,rfl⟩:=Option.map_eq_some_iff.mp q
 obtain ⟨h1,h2⟩:=eqF_ok vx vy h
 exact ⟨h1,h2▸k _ F H (.refl e) (h2▸.bl _)⟩) eqD0_ok
theorem neD_ok {G:Gx}:BinOk G (OrR rNe (rNeD G.K)) neD:=BinOk.or (fun F H x y dx dy res Q e vx vy q k=>by
 obtain ⟨b,h,rfl⟩:=Option.map_eq_some_iff.mp q
 obtain ⟨h1,h2⟩:=eqF_ok vx vy h
 exact ⟨h1,h2▸k _ F H (.refl e) (h2▸.bl _)⟩) neD0_ok
theorem op_eqAll {X:Cx}(hu:X.A.units+64<cLine):OpR X (compareOp .Eq) (OrR rEq (rEqD X.K)):=op_eq.or (op_eqD hu)
theorem op_neAll {X:Cx}(hu:X.A.units+64<cLine):OpR X (compareOp .NotEq) (OrR rNe (rNeD X.K)):=op_ne.or (op_neD hu)
def fCmpS (p:Str→Str→Bool):D→D→Option Res
 | .str i,.str j=>some (.val (.bl (p i j)))
 | _,_=>none
theorem cmpS_ok {G:Gx}{p:Str→Str→Bool}:BinOk G (fun x y H Q=>∃ i j,x=.str i∧y=.str j∧Q (.bl (p i j)) H) (fCmpS p):=by
 intro F H x y dx dy res Q e vx vy q k
 unfold fCmpS at q
 split at q
 ·rename_i i j
  cases q
  exact ⟨i,j,vx.str,vy.str,k _ F H (.refl e) (.bl _)⟩
 ·cases q
def ltD:D→D→Option Res:=orF (fII (fun _ _=>true) fun i j=>.bl (decide (i<j))) (fCmpS fun i j=>decide (i.cps.toList<j.cps.toList))
def leD:D→D→Option Res:=fII (fun _ _=>true) fun i j=>.bl (decide (i≤j))
def gtD:D→D→Option Res:=fII (fun _ _=>true) fun i j=>.bl (decide (j<i))
def geD:D→D→Option Res:=fII (fun _ _=>true) fun i j=>.bl (decide (j≤i))
def rLtD:R2:=OrR (rI0 fun i j=>.bl (decide (i<j))) (fun x y H Q=>∃ i j,x=.str i∧y=.str j∧Q (.bl (decide (i.cps.toList<j.cps.toList))) H)
theorem ltD_ok {G:Gx}:BinOk G rLtD ltD:=(bin_I0 fun _ _ _=>.bl _).or cmpS_ok
theorem op_ltD {X:Cx}:OpR X (compareOp .Lt) rLtD:=op_lt.or op_lt_str
theorem leD_ok {G:Gx}:BinOk G (rI0 fun i j=>.bl (decide (i≤j))) leD:=bin_I0 fun _ _ _=>.bl _
theorem gtD_ok {G:Gx}:BinOk G (rI0 fun i j=>.bl (decide (j<i))) gtD:=bin_I0 fun _ _ _=>.bl _
theorem geD_ok {G:Gx}:BinOk G (rI0 fun i j=>.bl (decide (j≤i))) geD:=bin_I0 fun _ _ _=>.bl _
def isN:D→Bool
 | .non=>true
 | _=>false
def fIsN (neg:Bool):D→D→Option Res
 | .any,_=>none
 | x,.non=>some (.val (.bl (neg != isN x)))
 | _,_=>none
def fIsB (neg:Bool):D→D→Option Res
 | .bl a,.bl b=>some (.val (.bl (neg != decide (a=b))))
 | _,_=>none
theorem Dp.isN {G:Gx}{F H:Hp}{v:V}{d:D}(h:View G F H v d)(na:d≠.any):decide (v=V.non)=PyD.isN d:=by
 rcases h with h | ⟨a,L,e,c⟩
 ·cases h <;> first | exact absurd rfl na | simp [PyD.isN]
 ·rw [e]
  cases c with
  | flat c=>cases d <;> first | exact c.elim | simp [PyD.isN]
  | _=>simp [PyD.isN]
theorem isN_ok {G:Gx}:BinOk G (fun x y H Q=>y=.non∧Q (.bl (decide (x=.non))) H) (fIsN false):=by
 intro F H x y dx dy res Q e vx vy q k
 unfold fIsN at q
 split at q
 ·cases q
 ·rename_i na
  cases q
  exact ⟨vy.non,k _ F H (.refl e) (by rw [Dp.isN vx (by exact na)]; simp; exact .bl _)⟩
 ·cases q
theorem isB_ok {G:Gx}:BinOk G rIsB (fIsB false):=by
 intro F H x y dx dy res Q e vx vy q k
 unfold fIsB at q
 split at q
 ·rename_i a b
  cases q
  exact ⟨a,b,vx.bl,vy.bl,k _ F H (.refl e) (by simp; exact .bl _)⟩
 ·cases q
def isD:D→D→Option Res:=orF (fIsB false) (fIsN false)
theorem isD_ok {G:Gx}:BinOk G (OrR rIsB (fun x y H Q=>y=.non∧Q (.bl (decide (x=.non))) H)) isD:=isB_ok.or isN_ok
theorem op_isD {X:Cx}:OpR X (compareOp .Is) (OrR rIsB (fun x y H Q=>y=.non∧Q (.bl (decide (x=.non))) H)):=op_isBl.or op_isN
def keyD:D→Option Key
 | .int i=>some (.inl i)
 | .str x=>some (.inr x)
 | _=>none
theorem keyD_ok {G:Gx}{F H:Hp}{v:V}{d:D}{k:Key}(h:View G F H v d)(e:keyD d=some k):v=kV k:=by
 cases d with
 | int i=>simp [keyD] at e; subst e; exact h.int
 | str i=>simp [keyD] at e; subst e; exact h.str
 | _=>simp [keyD] at e
def valK (kvs:List (Key×D))(k:Key):Option D:=(kvs.find? fun kv=>decide (kv.1=k)).map (·.2)
theorem DpK.val {G:Gx}{F:Hp}{k:Key}:∀ {vs:List (Key×V)} {ds:List (Key×D)},DpK G F vs ds→(valK ds k=none∧valV vs k=none)∨∃ v d,valK ds k=some d∧valV vs k=some v∧Dp G F v d
 | _,_,.nil=>.inl ⟨rfl,rfl⟩
 | _,_,.cons (k:=k') (v:=v') (d:=d') h t=>by
  by_cases e:k'=k
  ·refine .inr ⟨v',d',?_,?_,h⟩ <;> simp [valK,valV,e]
  ·rcases DpK.val (k:=k) t with ⟨h1,h2⟩ | ⟨v,d,h1,h2,h3⟩
   ·refine .inl ⟨?_,?_⟩
    ·rw [← h1]; simp [valK,e]
    ·rw [← h2]; simp [valV,e]
   ·refine .inr ⟨v,d,?_,?_,h3⟩
    ·rw [← h1]; simp [valK,e]
    ·rw [← h2]; simp [valV,e]
theorem op_inDT {X:Cx}(hu:X.A.units+65<cLine):OpR X (compareOp .In) (fun x y H Q=>∃ d ds,L2.Dp X.K H x d∧L2.Dp X.K H y (.tuple ds)∧SeqAt.shaped d=true∧SeqAt.shaped (.tuple ds)=true∧Q (.bl (ds.any fun z=>PyData.eqv z d)) H):=by
 intro pins s σ H x y v u Q I rx ry h
 obtain ⟨d,ds,hd,he,sd,se,q⟩:=h
 obtain ⟨as,r1⟩:=Dp.reads I d x v hd rx
 obtain ⟨bs,r2⟩:=Dp.reads I (.tuple ds) y u he ry
 exact SeqAt.in_tuple_reads r2 r1 (SeqAt.canLay_of_shaped se) (SeqAt.canLay_of_shaped sd) (room_in_shaped sd hu) ⟨.bl _,H,I,rfl,q⟩
theorem op_notInDT {X:Cx}(hu:X.A.units+65<cLine):OpR X (compareOp .NotIn) (fun x y H Q=>∃ d ds,L2.Dp X.K H x d∧L2.Dp X.K H y (.tuple ds)∧SeqAt.shaped d=true∧SeqAt.shaped (.tuple ds)=true∧Q (.bl (!ds.any fun z=>PyData.eqv z d)) H):=by
 intro pins s σ H x y v u Q I rx ry h
 obtain ⟨d,ds,hd,he,sd,se,q⟩:=h
 obtain ⟨as,r1⟩:=Dp.reads I d x v hd rx
 obtain ⟨bs,r2⟩:=Dp.reads I (.tuple ds) y u he ry
 exact SeqAt.notIn_tuple_reads r2 r1 (SeqAt.canLay_of_shaped se) (SeqAt.canLay_of_shaped sd) (room_in_shaped sd hu) ⟨.bl _,H,I,rfl,q⟩
theorem op_dictIn {X:Cx}(hu:X.A.units+1<cLine):OpR X (compareOp .In) (fun y x H Q=>∃ a o,x=.ref a∧DGet H a y o∧Q (.bl o.isSome) H):=by
 intro pins s σ H y x u v Q I ry rx h
 obtain ⟨a,o,rfl,g,q⟩:=h
 obtain rfl:v=Value.ref a:=rx
 exact d_in hu I g ry fun s3 I3=>⟨.bl o.isSome,H,I3,rfl,q⟩
theorem op_dictNotIn {X:Cx}(hu:X.A.units+1<cLine):OpR X (compareOp .NotIn) (fun y x H Q=>∃ a o,x=.ref a∧DGet H a y o∧Q (.bl (!o.isSome)) H):=by
 intro pins s σ H y x u v Q I ry rx h
 obtain ⟨a,o,rfl,g,q⟩:=h
 obtain rfl:v=Value.ref a:=rx
 exact d_notIn hu I g ry fun s3 I3=>⟨.bl (!o.isSome),H,I3,rfl,q⟩
def inB:D→D→Option Bool
 | .str i,.str j=>match i.cps.toList with
  | [c]=>some (decide (c∈j.cps.toList))
  | _=>none
 | x,.dct kvs=>(keyD x).map fun k=>(valK kvs k).isSome
 | x,.lst ys=>match toPy x,toPys ys with
  | some p,some ps=>if SeqAt.shaped p&&SeqAt.shaped (.list ps) then some (ps.any fun z=>PyData.eqv z p) else none
  | _,_=>none
 | x,.tup ys=>match toPy x,toPys ys with
  | some p,some ps=>if SeqAt.shaped p&&SeqAt.shaped (.tuple ps) then some (ps.any fun z=>PyData.eqv z p) else none
  | _,_=>none
 | _,_=>none
def rInB (neg:Bool)(K:PySem.W.Frag):R2:=OrR (fun x y H Q=>∃ (c:Nat) (z:Str),x=.str ⟨#[c]⟩∧y=.str z∧Q (.bl (neg != decide (c∈z.cps.toList))) H)
 (OrR (fun y x H Q=>∃ a o,x=.ref a∧DGet H a y o∧Q (.bl (neg != o.isSome)) H)
 (OrR (fun x y H Q=>∃ d ds,L2.Dp K H x d∧L2.Dp K H y (.list ds)∧SeqAt.shaped d=true∧SeqAt.shaped (.list ds)=true∧Q (.bl (neg != ds.any fun z=>PyData.eqv z d)) H)
  (fun x y H Q=>∃ d ds,L2.Dp K H x d∧L2.Dp K H y (.tuple ds)∧SeqAt.shaped d=true∧SeqAt.shaped (.tuple ds)=true∧Q (.bl (neg != ds.any fun z=>PyData.eqv z d)) H)))
theorem op_inB {X:Cx}(hu:X.A.units+65<cLine):OpR X (compareOp .In) (rInB false X.K):=by
 have e:∀ b:Bool,(false != b)=b:=by decide
 unfold rInB; simp only [e]
 exact op_in_sign.or ((op_dictIn (by omega)).or ((op_inD hu).or (op_inDT hu)))
theorem op_notInB {X:Cx}(hu:X.A.units+65<cLine):OpR X (compareOp .NotIn) (rInB true X.K):=by
 have e:∀ b:Bool,(true != b)=!b:=by decide
 unfold rInB; simp only [e]
 exact op_notIn_sign.or ((op_dictNotIn (by omega)).or ((op_notInD hu).or (op_notInDT hu)))
def inD (neg:Bool)(x y:D):Option Res:=(inB x y).map fun b=>.val (.bl (neg != b))
theorem inD_ok {neg:Bool}{G:Gx}:BinOk G (rInB neg G.K) (inD neg):=by
 intro F H x y dx dy res Q e vx vy q k
 simp only [inD,Option.map_eq_some_iff] at q
 obtain ⟨b,h,rfl⟩:=q
 have k':∀ b',b'=b→Q (.bl (neg != b')) H:=fun b' z=>k _ F H (.refl e) (by rw [z]; exact .bl _)
 unfold inB at h
 split at h
 ·rename_i i j
  split at h
  ·rename_i c ec
   cases h
   refine .inl ⟨c,j,?_,vy.str,k' _ rfl⟩
   rw [vx.str]
   obtain ⟨ic⟩:=i
   have:ic=#[c]:=by simpa using congrArg List.toArray ec
   rw [this]
  ·cases h
 ·rename_i kvs _
  simp only [Option.map_eq_some_iff] at h
  obtain ⟨kk,h1,h2⟩:=h
  obtain ⟨a,vs,rfl,hH,t⟩:=vy.dct e
  have hx:=keyD_ok vx h1
  subst hx
  refine .inr (.inl ⟨a,valV vs kk,rfl,DGet.k hH,k' _ ?_⟩)
  rw [← h2]
  rcases t.val (k:=kk) with ⟨w1,w2⟩ | ⟨v,d,w1,w2,w3⟩
  ·rw [w1,w2]; rfl
  ·rw [w1,w2]; rfl
 ·rename_i ys _
  split at h
  ·rename_i p ps e1 e2
   split at h
   ·rename_i w
    have w:=Bool.and_eq_true_iff.mp w
    cases h
    exact .inr (.inr (.inl ⟨p,ps,vx.py e e1,vy.py e (by simp [toPy,e2]),w.1,w.2,k' _ rfl⟩))
   ·cases h
  ·cases h
 ·rename_i ys _
  split at h
  ·rename_i p ps e1 e2
   split at h
   ·rename_i w
    have w:=Bool.and_eq_true_iff.mp w
    cases h
    exact .inr (.inr (.inr ⟨p,ps,vx.py e e1,vy.py e (by simp [toPy,e2]),w.1,w.2,k' _ rfl⟩))
   ·cases h
  ·cases h
 ·cases h
theorem ix_dict {X:Cx}(hu:X.A.units+1<cLine):IxR X (fun x y H Q=>∃ a v,x=.ref a∧DGet H a y (some v)∧Q v H):=by
 intro value slice pins s σ H x y u iv Q I rx ry h hs
 obtain ⟨a,v,rfl,g,q⟩:=h
 obtain rfl:u=Value.ref a:=rx
 have hT:=dict_typeIs I g
 unfold subscriptTail
 refine wpAny_bind ?_
 rw [getitemInPython_of_ne hT.not_modules]
 refine wpAny_bind (wpAny_specialOf hT PySem.F.slot_dict_getitem.lookup ?_)
 have fin:wpAny (model X.prog X.w) X.A (subscripted slice false (.ref a) iv) (fun r s₃=>wpAny (model X.prog X.w) X.A (letTemporaryGo value (.ref a) r >>= fun _=>pure r) (EP X pins σ Q) X.xe s₃) X.xe s:=by
  rw [hs]
  exact wpAny_operating (wpAny_mono (d_getItem hu I g ry fun w' s3 I3 rw'=>(⟨v,H,I3,rw',q⟩:EP X pins σ Q w' s3)) (fun r s₃ h₃=>wpAny_bind (wpAny_letTemporaryGo (wpAny_pure h₃))) fun _ _ x=>x)
 first
  | exact wpAny_pure (wpAny_bind fin)
  | exact wpAny_bind (wpAny_pure (wpAny_bind fin))
  | exact wpAny_bind fin
def ixD:D→D→Option Res
 | .lst xs,.int i=>(atI xs i).map .val
 | .tup xs,.int i=>(atI xs i).map .val
 | .scr ns,.int i=>(atI ns i).map fun n=>.val (.int n)
 | .str z,.int i=>if z.length≤sizeLine then (atI z.cps.toList i).map fun c=>.val (.str ⟨#[c]⟩) else none
 | .dct kvs,x=>(keyD x).bind fun k=>(valK kvs k).map .val
 | .dctO kvs,x=>(keyD x).bind fun k=>(gV k kvs).bind fun d=>if isKid d then none else some (.val d)
 | _,_=>none
def rIxD (K:PySem.W.Frag):R2:=OrR (rIxL K) (OrR (rIxT K) (OrR rIxS (fun x y H Q=>∃ a v,x=.ref a∧DGet H a y (some v)∧Q v H)))
theorem ix_D {X:Cx}(hu:X.A.units+1<cLine):IxR X (rIxD X.K):=ix_list.or (ix_tup.or (ix_str.or (ix_dict hu)))
theorem DpL.atI {G:Gx}{F:Hp}{vs:List V}{ds:List D}{i:Int}{d:D}(t:DpL G F vs ds)(h:L2.atI ds i=some d):∃ v,L2.atI vs i=some v∧Dp G F v d:=by
 unfold L2.atI at h ⊢
 rw [t.length]
 cases e:ixN ds.length i with
 | none=>rw [e] at h; cases h
 | some j =>
  rw [e] at h
  exact t.get h
theorem atI_map {α β:Type}(f:α→β)(xs:List α)(i:Int):L2.atI (xs.map f) i=(L2.atI xs i).map f:=by
 unfold L2.atI
 rw [List.length_map]
 cases ixN xs.length i with
 | none=>rfl
 | some j=>simp
theorem ixD_ok {G:Gx}:BinOk G (rIxD G.K) ixD:=by
 intro F H x y dx dy res Q e vx vy q k
 unfold ixD at q
 split at q
 ·rename_i xs i
  obtain ⟨d,h,rfl⟩:=Option.map_eq_some_iff.mp q
  obtain ⟨a,vs,rfl,hH,t⟩:=vx.lst e
  obtain ⟨v,h1,h2⟩:=t.atI h
  exact .inl ⟨a,vs,i,v,rfl,vy.int,SqL.of hH,h1,k _ F H (.refl e) h2⟩
 ·rename_i xs i
  obtain ⟨d,h,rfl⟩:=Option.map_eq_some_iff.mp q
  obtain ⟨a,vs,rfl,hH,t⟩:=vx.tup e
  obtain ⟨v,h1,h2⟩:=t.atI h
  exact .inr (.inl ⟨a,vs,i,v,rfl,vy.int,hH,h1,k _ F H (.refl e) h2⟩)
 ·rename_i ns i
  obtain ⟨n,h,rfl⟩:=Option.map_eq_some_iff.mp q
  obtain ⟨a,rfl,hH⟩:=vx.scr e
  exact .inl ⟨a,_,i,.int n,rfl,vy.int,hH,by rw [atI_map,h]; rfl,k _ F H (.refl e) (.int n)⟩
 ·rename_i z i
  split at q
  ·rename_i w
   obtain ⟨n,h,rfl⟩:=Option.map_eq_some_iff.mp q
   exact .inr (.inr (.inl ⟨z,i,n,vx.str,vy.int,w,h,k _ F H (.refl e) (.str _)⟩))
  ·cases q
 ·rename_i kvs _
  obtain ⟨kk,h1,h2⟩:=Option.bind_eq_some_iff.mp q
  obtain ⟨d,h3,rfl⟩:=Option.map_eq_some_iff.mp h2
  obtain ⟨a,vs,rfl,hH,t⟩:=vx.dct e
  have hx:=keyD_ok vy h1
  subst hx
  rcases t.val (k:=kk) with ⟨w1,w2⟩ | ⟨v,d',w1,w2,w3⟩
  ·rw [w1] at h3; cases h3
  ·rw [w1] at h3; cases h3
   exact .inr (.inr (.inr ⟨a,v,rfl,w2▸DGet.k hH,k _ F H (.refl e) w3⟩))
 ·rename_i kvs _
  obtain ⟨kk,h1,h2⟩:=Option.bind_eq_some_iff.mp q
  obtain ⟨d,h3,h4⟩:=Option.bind_eq_some_iff.mp h2
  split at h4
  ·cases h4
  ·rename_i z
   cases h4
   obtain ⟨a,vs,L,rfl,hH,t⟩:=vx.dctO
   have hx:=keyD_ok vy h1
   subst hx
   obtain ⟨v,L',w1,w2,w3⟩:=kdp_get t h3
   exact .inr (.inr (.inr ⟨a,v,rfl,by rw [← w1,← valV_g]; exact DGet.k hH,k _ F H (.refl e) (w2.fz' (by simpa using z)).1⟩))
 ·cases q
section
variable {X:Cx}{Γ:Gm}{W:WX}{a b e:Expr}{ma mb:M}{pos p2:Pos}{es:List Expr}
theorem je_ix (hK:X.K=Γ.G.K)(hu:X.A.units+1<cLine)(ha:PE X a (tM Γ W ma))(hb:PE X b (tM Γ W mb))(hs:PlainIx b:=by exact fun _ _=>rfl):PE X (.Subscript a b pos) (tM Γ W (mBin ixD ma mb)) :=
 (pe_ix (ix_D hu) (je_f ha) (je_f hb) hs).imp (hK▸tOp_ok ixD_ok)
def cutD {α:Type}(xs:List α)(lo hi:Option Int):List α:=(xs.drop (HT.sIx xs.length 0 lo)).take (HT.sIx xs.length xs.length hi-HT.sIx xs.length 0 lo)
end
def slD:D→Option Int→Option Int→Option Res
 | .lst xs,lo,hi=>some (.new (.lst (cutD xs lo hi)))
 | .scr xs,lo,hi=>some (.new (.lst ((cutD xs lo hi).map D.int)))
 | .tup xs,lo,hi=>some (.val (.tup (cutD xs lo hi)))
 | .str z,lo,hi=>if z.length≤sizeLine then some (.val (.str (cutS z lo hi))) else none
 | _,_,_=>none
def rSlD (K:PySem.W.Frag):V→Option Int→Option Int→Hp→VK→Prop:=fun x lo hi H Q=>rSlL K x lo hi H Q∨(fun x lo hi H Q=>rSlA K x lo hi H Q∨rSlS x lo hi H Q) x lo hi H Q
theorem sl_D {X:Cx}:SlR X (rSlD X.K):=sl_list.or (sl_tupA.or sl_str)
theorem DpL.cut {G:Gx}{F:Hp}{vs:List V}{ds:List D}(t:DpL G F vs ds)(lo hi:Option Int):DpL G F (cutV vs lo hi) (cutD ds lo hi):=by
 unfold cutV cutD
 rw [t.length]
 exact (t.drop _).take _
theorem ints_dpl {G:Gx}{F:Hp}:∀ ns:List Int,DpL G F (ns.map V.int) (ns.map D.int)
 | []=>.nil
 | n::ns=>.cons (.int n) (ints_dpl ns)
theorem slD_ok {G:Gx}{F H:Hp}{x:V}{dx:D}{lo hi:Option Int}{res:Res}{Q:VK}(e:Same F H)(vx:View G F H x dx)(q:slD dx lo hi=some res)
  (k:∀ v F' H',Alc F H F' H'→RepNew G H F' H' v res→Q v H'):rSlD G.K x lo hi H Q:=by
 unfold slD at q
 split at q
 ·rename_i xs
  cases q
  obtain ⟨a,vs,rfl,hH,t⟩:=vx.lst e
  exact .inl ⟨a,vs,rfl,SqL.of hH,fun p hp=>k _ F _ (.cell e hp) ⟨p,rfl,Same.free e hp,⟨_,upd_same,t.cut _ _⟩,hp⟩⟩
 ·rename_i xs
  cases q
  obtain ⟨a,rfl,hH⟩:=vx.scr e
  refine .inl ⟨a,_,rfl,hH,fun p hp=>k _ F _ (.cell e hp) ⟨p,rfl,Same.free e hp,⟨_,upd_same,?_⟩,hp⟩⟩
  have h:=(ints_dpl (G:=G) (F:=F) xs).cut lo hi
  have z:cutD (xs.map D.int) lo hi=(cutD xs lo hi).map D.int:=by unfold cutD; simp [List.map_take,List.map_drop]
  rw [← z]; exact h
 ·rename_i xs
  cases q
  have hx:Dp G F x (.tup xs):=by
   rcases vx with h | ⟨_,_,_,c⟩
   ·exact h
   ·cases c with | flat c=>exact c.elim
  obtain ⟨a,vs,rfl,hH,t⟩:=vx.tup e
  refine .inr (.inl ⟨a,vs,rfl,hH,fun z=>?_,fun _ p hp=>k _ _ _ (.tup e hp) (.tup (SqT.of upd_same) ((t.cut _ _).mono (Alc.tup e hp).subF))⟩)
  have w:cutD xs lo hi=xs:=by
   unfold cutD
   rw [← t.length,z.1,z.2,t.length]
   simp
  rw [w] at k
  exact k _ F H (.refl e) hx
 ·rename_i z
  split at q
  ·rename_i w
   cases q
   exact .inr (.inr ⟨z,vx.str,w,k _ F H (.refl e) (.str _)⟩)
  ·cases q
 ·cases q
def opSl (a:Res)(lo hi:Option Int)(ρ:Rho):Out Res:=match resolve ρ a with
 | some x=>(match slD x lo hi with | some r=>.ok r ρ | none=>.stuck)
 | none=>.stuck
def part {β:Type}(m:Option M)(ρ:Rho)(k:Option Int→Rho→Out β):Out β:=match m with
 | none=>k none ρ
 | some m=>bindF (m ρ) fun r ρ1=>match resolve ρ1 r with
  | some (.int i)=>k (some i) ρ1
  | _=>.stuck
def mSl (ma:M)(lo hi:Option M):M:=fun ρ=>bindF (ma ρ) fun a ρ1=>part lo ρ1 fun l ρ2=>part hi ρ2 fun h ρ3=>opSl a l h ρ3
def tO (Γ:Gm)(W:WX):Option M→TO
 | none=>tNoPart
 | some m=>tPart (tF Γ W m)
inductive JO (X:Cx)(Γ:Gm)(W:WX):Option Expr→Option M→Prop
 | none:JO X Γ W none none
 | some {e:Expr} {m:M}:PE X e (tM Γ W m)→JO X Γ W (some e) (some m)
theorem JO.po {X:Cx}{Γ:Gm}{W:WX}{e:Option Expr}{m:Option M}(h:JO X Γ W e m):PO X e (tO Γ W m):=by
 cases h with
 | none=>exact po_none
 | some h=>exact po_some (je_f h)
theorem part_ok {X:Cx}{Γ:Gm}{W:WX}{m:Option M}{ρ:Rho}{k:Option Int→Rho→Out Res}{σ:St}{F H:Hp}{Q:VK}{R:Option Int→Hp→Prop}(r:Rel Γ ρ σ F H)(h:Post Γ W (part m ρ k) ρ σ F H Q)
  (hk:∀ o ρ1 F1 H1,Stp Γ ρ σ F H ρ1 σ F1 H1→Post Γ W (k o ρ1) ρ1 σ F1 H1 Q→R o H1):tO Γ W m σ H R:=by
 cases m with
 | none=>exact hk none ρ F H (.refl r) h
 | some m =>
  simp only [part] at h
  refine ⟨ρ,F,r,Post.bindF h fun r ρ1 v F1 H1 s1 hr p1=>?_⟩
  split at p1
  ·rename_i i ei
   exact ⟨i,(hr.view s1.rel ei).int,hk _ ρ1 F1 H1 s1 p1⟩
  ·exact p1.elim
section
variable {X:Cx}{Γ:Gm}{W:WX}{a b e:Expr}{ma mb:M}{lo hi:Option Expr}{ml mh:Option M}{pos p2:Pos}{es:List Expr}
theorem je_sl (hK:X.K=Γ.G.K)(ha:PE X a (tM Γ W ma))(hl:JO X Γ W lo ml)(hh:JO X Γ W hi mh):PE X (.Subscript a (.Slice lo hi none p2) pos) (tM Γ W (mSl ma ml mh)) :=
 (pe_slice sl_D (je_f ha) hl.po hh.po).imp fun σ H Q ⟨ρ,F,R,p⟩=>⟨ρ,F,R,p.bindF fun r ρ1 x F1 H1 s1 hr p1=>part_ok (X:=X) s1.rel p1 fun l ρ2 F2 H2 s2 p2=>part_ok (X:=X) s2.rel p2 fun h ρ3 F3 H3 s3 p3=>by
  unfold opSl at p3
  split at p3
  ·rename_i d ed
   split at p3
   ·rename_i res er
    rw [hK]
    exact slD_ok s3.rel.sub ((hr.mono (s2.subF.trans s3.subF)).view s3.rel ed) er (fin_new s3.rel p3)
   ·exact p3.elim
  ·exact p3.elim⟩
inductive RepFs (G:Gx)(σ:St)(F:Hp):List V→List Res→Prop
 | nil:RepFs G σ F [] []
 | cons {v:V} {r:Res} {vs:List V} {rs:List Res}:RepF G σ F v r→RepFs G σ F vs rs→RepFs G σ F (v::vs) (r::rs)
end
abbrev MA:=Rho→Out (List Res)
def PostA (Γ:Gm)(W:WX)(o:Out (List Res))(ρ:Rho)(σ:St)(F H:Hp)(Q:List V→Hp→Prop):Prop :=
 match o with
 | .ok rs ρ'=>∀ vs F' H',Stp Γ ρ σ F H ρ' σ F' H'→RepFs Γ.G σ F' vs rs→Q vs H'
 | .exc x ρ'=>∀ d F' H',Stp Γ ρ σ F H ρ' σ F' H'→ExcRep Γ.G F' H' x d→W (ecV Γ.G x.c) d σ H'
 | .stuck=>False
def tMA (Γ:Gm)(W:WX)(m:MA):TA:=fun σ H Q=>∃ ρ F,Rel Γ ρ σ F H∧PostA Γ W (m ρ) ρ σ F H Q
theorem RepFs.mono {G:Gx}{σ:St}{F F':Hp}(e:Same F F'):∀ {vs:List V} {rs:List Res},RepFs G σ F vs rs→RepFs G σ F' vs rs
 | _,_,.nil=>.nil
 | _,_,.cons h t=>.cons (h.mono e) (RepFs.mono e t)
theorem PostA.shift {Γ:Gm}{W:WX}{o:Out (List Res)}{ρ ρ2:Rho}{σ:St}{F H F2 H2:Hp}{Q:List V→Hp→Prop}(s:Stp Γ ρ σ F H ρ2 σ F2 H2)(h:PostA Γ W o ρ σ F H Q):PostA Γ W o ρ2 σ F2 H2 Q:=by
 cases o with
 | ok r ρ'=>exact fun v F' H' s2 q=>h v F' H' (s.trans s2) q
 | exc x ρ'=>exact fun d F' H' s2 q=>h d F' H' (s.trans s2) q
 | stuck=>exact h
theorem PostA.bindF {Γ:Gm}{W:WX}{o:Out Res}{k:Res→Rho→Out (List Res)}{ρ:Rho}{σ:St}{F H:Hp}{Q:List V→Hp→Prop}{Q1:VK}(h:PostA Γ W (PyD.bindF o k) ρ σ F H Q)
  (hk:∀ r ρ1 v F1 H1,Stp Γ ρ σ F H ρ1 σ F1 H1→RepF Γ.G σ F1 v r→PostA Γ W (k r ρ1) ρ1 σ F1 H1 Q→Q1 v H1):PostF Γ W o ρ σ F H Q1:=by
 cases o with
 | ok r ρ'=>exact fun v F' H' s q=>hk r.frz ρ' v F' H' s q (h.shift s)
 | exc x ρ'=>exact h
 | stuck=>exact h
theorem PostA.bindA {Γ:Gm}{W:WX}{o:Out (List Res)}{k:List Res→Rho→Out (List Res)}{ρ:Rho}{σ:St}{F H:Hp}{Q Q1:List V→Hp→Prop}(h:PostA Γ W (bindO o k) ρ σ F H Q)
  (hk:∀ r ρ1 v F1 H1,Stp Γ ρ σ F H ρ1 σ F1 H1→RepFs Γ.G σ F1 v r→PostA Γ W (k r ρ1) ρ1 σ F1 H1 Q→Q1 v H1):PostA Γ W o ρ σ F H Q1:=by
 cases o with
 | ok r ρ'=>exact fun v F' H' s q=>hk r ρ' v F' H' s q (h.shift s)
 | exc x ρ'=>exact h
 | stuck=>exact h
theorem Post.bindA {Γ:Gm}{W:WX}{o:Out (List Res)}{k:List Res→Rho→Out Res}{ρ:Rho}{σ:St}{F H:Hp}{Q:VK}{Q1:List V→Hp→Prop}(h:Post Γ W (bindO o k) ρ σ F H Q)
  (hk:∀ r ρ1 v F1 H1,Stp Γ ρ σ F H ρ1 σ F1 H1→RepFs Γ.G σ F1 v r→Post Γ W (k r ρ1) ρ1 σ F1 H1 Q→Q1 v H1):PostA Γ W o ρ σ F H Q1:=by
 cases o with
 | ok r ρ'=>exact fun v F' H' s q=>hk r ρ' v F' H' s q (h.shift s)
 | exc x ρ'=>exact h
 | stuck=>exact h
def mNil:MA:=fun ρ=>.ok [] ρ
def mCons (ma:M)(mr:MA):MA:=fun ρ=>bindF (ma ρ) fun a ρ1=>bindO (mr ρ1) fun as ρ2=>.ok (a::as) ρ2
section
variable {X:Cx}{Γ:Gm}{W:WX}{e:Expr}{ma:M}{mr:MA}{pos p:Pos}{es:List Expr}
theorem ja_nil:PA X [] (tMA Γ W mNil):=pa_nil.imp fun σ H Q ⟨ρ,F,R,p⟩=>p [] F H (.refl R) .nil
theorem tCons_ok:∀ σ H Q,tMA Γ W (mCons ma mr) σ H Q→tCons (tF Γ W ma) (tMA Γ W mr) σ H Q:=fun σ H Q ⟨ρ,F,R,p⟩=>⟨ρ,F,R,p.bindF fun r ρ1 v F1 H1 s1 hr p1=>⟨ρ1,F1,s1.rel,p1.bindA fun rs ρ2 vs F2 H2 s2 hrs p2 =>
 p2 (v::vs) F2 H2 (.refl s2.rel) (.cons (hr.mono s2.subF) hrs)⟩⟩
theorem ja_cons (ha:PE X e (tM Γ W ma))(hr:PA X es (tMA Γ W mr))(hs:starEach (e::es) X.env=(false,eval e X.env)::starEach es X.env:=by rfl):PA X (e::es) (tMA Γ W (mCons ma mr)) :=
 (pa_cons (je_f ha) hr hs).imp tCons_ok
end
def resolves (ρ:Rho):List Res→Option (List D)
 | []=>some []
 | r::rs=>match resolve ρ r,resolves ρ rs with
  | some d,some ds=>some (d::ds)
  | _,_=>none
inductive Views (G:Gx)(F H:Hp):List V→List D→Prop
 | nil:Views G F H [] []
 | cons {v:V} {d:D} {vs:List V} {ds:List D}:View G F H v d→Views G F H vs ds→Views G F H (v::vs) (d::ds)
theorem RepFs.views {Γ:Gm}{ρ:Rho}{σ:St}{F H:Hp}(R:Rel Γ ρ σ F H):∀ {vs:List V} {rs:List Res} {ds:List D},RepFs Γ.G σ F vs rs→resolves ρ rs=some ds→Views Γ.G F H vs ds
 | _,_,_,.nil,e=>by simp [resolves] at e; subst e; exact .nil
 | _,_,_,.cons h t,e=>by
  simp only [resolves] at e
  split at e
  ·rename_i d ds e1 e2
   cases e
   exact .cons (h.view R e1) (RepFs.views R t e2)
  ·cases e
def CallOk (G:Gx)(r:List V→Hp→VK→Prop)(f:List D→Option Res):Prop:=∀ F H xs ds res Q,Same F H→Views G F H xs ds→f ds=some res →
 (∀ v F' H',Alc F H F' H'→RepNew G H F' H' v res→Q v H')→r xs H Q
def opN (f:List D→Option Res)(as:List Res)(ρ:Rho):Out Res:=match resolves ρ as with
 | some ds=>(match f ds with | some r=>.ok r ρ | none=>.stuck)
 | none=>.stuck
def mCB (f:List D→Option Res)(ma:MA):M:=fun ρ=>bindO (ma ρ) fun as ρ1=>opN f as ρ1
theorem opN_ok {Γ:Gm}{W:WX}{r:List V→Hp→VK→Prop}{f:List D→Option Res}{as:List Res}{ρ:Rho}{σ:St}{F H:Hp}{Q:VK}{xs:List V}(hf:CallOk Γ.G r f)(R:Rel Γ ρ σ F H)(ha:RepFs Γ.G σ F xs as)(h:Post Γ W (opN f as ρ) ρ σ F H Q):r xs H Q:=by
 unfold opN at h
 split at h
 ·rename_i ds e1
  split at h
  ·rename_i res e3
   exact hf F H xs ds res Q R.sub (ha.views R e1) e3 (fin_new R h)
  ·exact h.elim
 ·exact h.elim
theorem tCB_ok {Γ:Gm}{W:WX}{r:List V→Hp→VK→Prop}{f:List D→Option Res}{ma:MA}(hf:CallOk Γ.G r f):∀ σ H Q,tM Γ W (mCB f ma) σ H Q→tCB r (tMA Γ W ma) σ H Q:=fun σ H Q ⟨ρ,F,R,p⟩=>⟨ρ,F,R,p.bindA fun rs ρ1 vs F1 H1 s1 hr p1=>opN_ok hf s1.rel hr p1⟩
section
variable {X:Cx}{Γ:Gm}{W:WX}{e:Expr}{ma:MA}{pos p:Pos}{es:List Expr}{r:List V→Hp→VK→Prop}{f:List D→Option Res}{x:Str}{id T:String}
theorem je_callB (hc:CallR X (.builtin id) r)(hf:CallOk Γ.G r f)(hm:X.mg x=none)(hv:bootBuiltins x=some (.builtin id))(ha:PA X (e::es) (tMA Γ W ma))(hg:Gl X x:=by rfl)(hn:x ≠ "__name__":=by decide)(hdb:(x==("__debug__" : Str))=false:=by decide)
  (he:starEach (e::es) X.env=(false,eval e X.env)::starEach es X.env:=by rfl) (hpl:(backTo pos (starEach es X.env)).any (·.1)=false:=by rfl):PE X (.Call (.Name x p) (e::es) [] pos) (tM Γ W (mCB f ma)) :=
 (pe_callB hc hg hm hv ha hn hdb he hpl).imp (tCB_ok hf)
theorem je_callTy (hc:CallR X (.type T) r)(hf:CallOk Γ.G r f)(hm:X.mg x=none)(hv:bootBuiltins x=some (.type T))(ha:PA X (e::es) (tMA Γ W ma))(hg:Gl X x:=by rfl)(hn:x ≠ "__name__":=by decide)(hdb:(x==("__debug__" : Str))=false:=by decide)
  (he:starEach (e::es) X.env=(false,eval e X.env)::starEach es X.env:=by rfl) (hpl:(backTo pos (starEach es X.env)).any (·.1)=false:=by rfl):PE X (.Call (.Name x p) (e::es) [] pos) (tM Γ W (mCB f ma)) :=
 (pe_callTy hc hg hm hv ha hn hdb he hpl).imp (tCB_ok hf)
end
theorem get_set {α:Type}{l:List α}{i j:Nat}{x y:α}(h:(l.set i x)[j]?=some y):(i=j∧y=x∧i<l.length)∨(i≠j∧l[j]?=some y):=by
 by_cases e:i=j
 ·subst e
  rcases Nat.lt_or_ge i l.length with z | z
  ·rw [List.getElem?_set_self z] at h; exact .inl ⟨rfl,(Option.some.inj h).symm,z⟩
  ·rw [List.getElem?_eq_none (by simpa using z)] at h; cases h
 ·rw [List.getElem?_set_ne e] at h; exact .inr ⟨e,h⟩
theorem Rel.put {Γ:Gm}{ρ:Rho}{σ σ':St}{F H:Hp}{i:Nat}{sl:Slot}{v:V}{L:List Addr}(R:Rel Γ ρ σ F H)(hi:i<ρ.length)(h1:σ'[i]?=some (some v))(h2:∀ j,j≠i→σ'[j]?=σ[j]?)(hl:σ'.length=σ.length)(ok:SlotOk Γ F H v L sl)
  (new:∀ b∈L,F b=none∧¬ Γ.U b∧∀ j,j≠i→¬ OwnAt Γ ρ σ F H j b):Rel Γ (ρ.set i (some sl)) σ' F H∧(∀ j a,OwnAt Γ (ρ.set i (some sl)) σ' F H j a→(j=i∧a∈L)∨(j≠i∧OwnAt Γ ρ σ F H j a)):=by
 have back:∀ j a,OwnAt Γ (ρ.set i (some sl)) σ' F H j a→(j=i∧a∈L)∨(j≠i∧OwnAt Γ ρ σ F H j a):=fun j a o=>by
  by_cases e:j=i
  ·subst e; exact .inl ⟨rfl,o.of (by rw [List.getElem?_set_self hi]) h1 ok⟩
  ·exact .inr ⟨e,own_back R (Same.refl _) j (fun s q=>by rwa [List.getElem?_set_ne (Ne.symm e)] at q) (h2 j e) (fun _ _ _ q=>q) o⟩
 refine ⟨⟨R.sub,fun j s q=>?_,fun j k a o1 o2=>?_,fun j a o=>?_,by simp [R.len,hl],R.inv,R.ali,R.tab⟩,back⟩
 ·rcases get_set q with ⟨e,e2,_⟩ | ⟨e,q⟩
  ·subst e; cases e2; exact ⟨v,L,h1,ok⟩
  ·exact slot_keep R (Same.refl _) j q (h2 j (Ne.symm e)) fun _ _ _ q=>q
 ·rcases back j a o1 with ⟨e1,m1⟩ | ⟨e1,m1⟩
  ·rcases back k a o2 with ⟨e2,m2⟩ | ⟨e2,m2⟩
   ·rw [e1,e2]
   ·exact absurd m2 ((new a m1).2.2 k e2)
  ·rcases back k a o2 with ⟨e2,m2⟩ | ⟨e2,m2⟩
   ·exact absurd m1 ((new a m2).2.2 j e1)
   ·exact R.inj j k a m1 m2
 ·rcases back j a o with ⟨e1,m1⟩ | ⟨e1,m1⟩
  ·exact ⟨(new a m1).1,(new a m1).2.1⟩
  ·exact R.own j a m1
theorem Stp.set {Γ:Gm}{ρ₀ ρ:Rho}{σ₀ σ:St}{F₀ H₀ F H:Hp}{i:Nat}{sl:Slot}{v:V}{L:List Addr}(s:Stp Γ ρ₀ σ₀ F₀ H₀ ρ σ F H)(hi:i<ρ.length)(ok:SlotOk Γ F H v L sl)(new:Fresh Γ ρ σ F H L):Stp Γ ρ₀ σ₀ F₀ H₀ (ρ.set i (some sl)) (σ.set i (some v)) F H :=
 ⟨(s.rel.put hi (by rw [List.getElem?_set_self (by rw [← s.rel.len]; exact hi)]) (fun j e=>by rw [List.getElem?_set_ne (Ne.symm e)]) (by simp) ok fun b hb=>⟨(new b hb).1,(new b hb).2.1,fun j _ o=>(new b hb).2.2 ⟨j,o⟩⟩).1,s.subF,s.keep,s.there⟩
theorem fresh_nil {Γ:Gm}{ρ:Rho}{σ:St}{F H:Hp}:Fresh Γ ρ σ F H []:=fun b hb=>by cases hb
theorem Stp.setV {Γ:Gm}{ρ₀ ρ:Rho}{σ₀ σ:St}{F₀ H₀ F H:Hp}{i:Nat}{d:D}{v:V}(s:Stp Γ ρ₀ σ₀ F₀ H₀ ρ σ F H)(hi:i<ρ.length)(ok:Dp Γ.G F v d):Stp Γ ρ₀ σ₀ F₀ H₀ (ρ.set i (some (.val d))) (σ.set i (some v)) F H :=
 s.set (L:=[]) hi ⟨ok,rfl⟩ fresh_nil
theorem Rel.drop {Γ:Gm}{ρ:Rho}{σ σ':St}{F H:Hp}(R:Rel Γ ρ σ F H)(i:Nat)(h2:∀ j,j≠i→σ'[j]?=σ[j]?)(hl:σ'.length=σ.length):Rel Γ (ρ.set i none) σ' F H∧∀ j a,OwnAt Γ (ρ.set i none) σ' F H j a→j≠i∧OwnAt Γ ρ σ F H j a:=by
 have back:∀ j a,OwnAt Γ (ρ.set i none) σ' F H j a→j≠i∧OwnAt Γ ρ σ F H j a:=fun j a o=>by
  have e:j≠i:=fun e=>by
   obtain ⟨s,v,L,q,_⟩:=o
   rcases get_set q with ⟨_,e2,_⟩ | ⟨e1,_⟩
   ·cases e2
   ·exact e1 e.symm
  exact ⟨e,own_back R (Same.refl _) j (fun s q=>by rwa [List.getElem?_set_ne (Ne.symm e)] at q) (h2 j e) (fun _ _ _ q=>q) o⟩
 refine ⟨⟨R.sub,fun j s q=>?_,fun j k a o1 o2=>R.inj j k a (back j a o1).2 (back k a o2).2,fun j a o=>R.own j a (back j a o).2,by simp [R.len,hl],R.inv,R.ali,R.tab⟩,back⟩
 rcases get_set q with ⟨e,e2,_⟩ | ⟨e,q⟩
 ·cases e2
 ·exact slot_keep R (Same.refl _) j q (h2 j (Ne.symm e)) fun _ _ _ q=>q
theorem Stp.drop {Γ:Gm}{ρ₀ ρ:Rho}{σ₀ σ:St}{F₀ H₀ F H:Hp}(s:Stp Γ ρ₀ σ₀ F₀ H₀ ρ σ F H)(i:Nat):Stp Γ ρ₀ σ₀ F₀ H₀ (ρ.set i none) σ F H :=
 ⟨(s.rel.drop i (fun _ _=>rfl) rfl).1,s.subF,s.keep,s.there⟩
def settle (r:Res)(ρ:Rho):Option (D×Rho):=match r with
 | .val d=>some (d,ρ)
 | .new _=>none
 | .at i=>match ρ[i]? with
  | some (some (.val d))=>some (d,ρ)
  | some (some (.own none d))=>some (strip d,ρ.set i (some (.val (strip d))))
  | _=>none
def settles (rs:List Res)(ρ:Rho):Option (List D×Rho):=match rs with
 | []=>some ([],ρ)
 | r::rs=>match settle r ρ with
  | some (d,ρ1)=>(match settles rs ρ1 with
   | some (ds,ρ2)=>some (d::ds,ρ2)
   | none=>none)
  | none=>none
theorem lt_of_get {α:Type}{l:List α}{i:Nat}{x:α}(q:l[i]?=some x):i<l.length:=by
 rcases Nat.lt_or_ge i l.length with y | y
 ·exact y
 ·rw [List.getElem?_eq_none y] at q; cases q
theorem settle_ok {Γ:Gm}{ρ ρ':Rho}{σ:St}{F H:Hp}{v:V}{r:Res}{d:D}(R:Rel Γ ρ σ F H)(h:RepF Γ.G σ F v r)(e:settle r ρ=some (d,ρ')):∃ F',Stp Γ ρ σ F H ρ' σ F' H∧Dp Γ.G F' v d:=by
 cases r with
 | val d'=>simp only [settle,Option.some.injEq,Prod.mk.injEq] at e; obtain ⟨rfl,rfl⟩:=e; exact ⟨F,.refl R,h⟩
 | new d'=>exact h.elim
 | «at» i =>
  have h:σ[i]?=some (some v):=h
  simp only [settle] at e
  split at e
  ·rename_i d' q
   simp only [Option.some.injEq,Prod.mk.injEq] at e
   obtain ⟨rfl,rfl⟩:=e
   obtain ⟨v',h1,h2⟩:=R.slotV q
   rw [h] at h1; cases h1
   exact ⟨F,.refl R,h2⟩
  ·rename_i d' q
   simp only [Option.some.injEq,Prod.mk.injEq] at e
   obtain ⟨rfl,rfl⟩:=e
   obtain ⟨a,L,z,c,hb,ow⟩:=R.slotO q h
   obtain ⟨R1,bk⟩:=R.drop (σ':=σ) i (fun _ _=>rfl) rfl
   have s2:=R1.freeze (L:=L) (fun b hb=>R.own i b (ow b hb)) (fun b hb ⟨j,o⟩=>(bk j b o).1 (R.inj j i b (bk j b o).2 (ow b hb))) c.okU
   have dp:Dp Γ.G (frzH F H L) v (strip d'):=by rw [z]; exact c.freeze fun b hb=>(R.own i b (ow b hb)).1
   obtain ⟨R3,_⟩:=s2.rel.put (σ':=σ) (i:=i) (L:=[]) (sl:=.val (strip d')) (by simpa using lt_of_get q) h (fun _ _=>rfl) rfl ⟨dp,rfl⟩ (fun b hb=>by cases hb)
   rw [List.set_set] at R3
   exact ⟨frzH F H L,⟨R3,s2.subF,s2.keep,s2.there⟩,dp⟩
  ·cases e
theorem settles_ok {Γ:Gm}:∀ {rs:List Res} {ρ ρ':Rho} {σ:St} {F H:Hp} {vs:List V} {ds:List D},Rel Γ ρ σ F H→RepFs Γ.G σ F vs rs→settles rs ρ=some (ds,ρ')→∃ F',Stp Γ ρ σ F H ρ' σ F' H∧DpL Γ.G F' vs ds
 | [],_,_,_,F,_,_,_,R,.nil,e=>by
  simp only [settles,Option.some.injEq,Prod.mk.injEq] at e
  obtain ⟨rfl,rfl⟩:=e
  exact ⟨F,.refl R,.nil⟩
 | r::rs,_,_,_,_,_,_,_,R,.cons h t,e=>by
  simp only [settles] at e
  split at e
  ·rename_i d ρ1 e1
   split at e
   ·rename_i ds ρ2 e2
    simp only [Option.some.injEq,Prod.mk.injEq] at e
    obtain ⟨rfl,rfl⟩:=e
    obtain ⟨F1,s1,p1⟩:=settle_ok R h e1
    obtain ⟨F2,s2,p2⟩:=settles_ok s1.rel (t.mono s1.subF) e2
    exact ⟨F2,s1.trans s2,.cons (p1.mono s2.subF) p2⟩
   ·cases e
  ·cases e
def opS (f:List D→Option Res)(as:List Res)(ρ:Rho):Out Res:=match settles as ρ with
 | some (ds,ρ1)=>(match f ds with | some r=>.ok r ρ1 | none=>.stuck)
 | none=>.stuck
def SetOk (G:Gx)(r:List V→Hp→VK→Prop)(f:List D→Option Res):Prop:=∀ F H xs ds res Q,Same F H→DpL G F xs ds→f ds=some res →
 (∀ v F' H',Alc F H F' H'→RepNew G H F' H' v res→Q v H')→r xs H Q
theorem opS_ok {Γ:Gm}{W:WX}{r:List V→Hp→VK→Prop}{f:List D→Option Res}{as:List Res}{ρ:Rho}{σ:St}{F H:Hp}{Q:VK}{xs:List V}(hf:SetOk Γ.G r f)(R:Rel Γ ρ σ F H)(ha:RepFs Γ.G σ F xs as)(h:Post Γ W (opS f as ρ) ρ σ F H Q):r xs H Q:=by
 unfold opS at h
 split at h
 ·rename_i ds ρ1 e1
  split at h
  ·rename_i res e3
   obtain ⟨F1,s1,p1⟩:=settles_ok R ha e1
   exact hf F1 H xs ds res Q s1.rel.sub p1 e3 (fin_new s1.rel (h.shift s1))
  ·exact h.elim
 ·exact h.elim
def mCS (f:List D→Option Res)(ma:MA):M:=fun ρ=>bindO (ma ρ) fun as ρ1=>opS f as ρ1
def tupD (ds:List D):Option Res:=if ds.length≤sizeLine then some (.val (.tup ds)) else none
def lstD (ds:List D):Option Res:=if ds.length≤sizeLine then some (.new (.lst ds)) else none
theorem tupD_ok {G:Gx}:SetOk G (fun xs H1 Q=>xs.length≤sizeLine∧∀ p,H1 p=none→Q (.ref p) (upd H1 p (.tup xs))) tupD:=by
 intro F H xs ds res Q e t q k
 unfold tupD at q
 split at q
 ·cases q
  exact ⟨by rw [t.length]; assumption,fun p hp=>k _ _ _ (.tup e hp) (.tup (SqT.of upd_same) (t.mono (Alc.tup e hp).subF))⟩
 ·cases q
theorem lstD_ok {G:Gx}:SetOk G (fun xs H1 Q=>xs.length≤sizeLine∧∀ p,H1 p=none→Q (.ref p) (upd H1 p (.lst xs))) lstD:=by
 intro F H xs ds res Q e t q k
 unfold lstD at q
 split at q
 ·cases q
  exact ⟨by rw [t.length]; assumption,fun p hp=>k _ _ _ (.cell e hp) ⟨p,rfl,Same.free e hp,⟨_,upd_same,t⟩,hp⟩⟩
 ·cases q
theorem tCS_ok {Γ:Gm}{W:WX}{r:List V→Hp→VK→Prop}{f:List D→Option Res}{ma:MA}(hf:SetOk Γ.G r f):∀ σ H Q,tM Γ W (mCS f ma) σ H Q→tCB r (tMA Γ W ma) σ H Q:=fun σ H Q ⟨ρ,F,R,p⟩=>⟨ρ,F,R,p.bindA fun rs ρ1 vs F1 H1 s1 hr p1=>opS_ok hf s1.rel hr p1⟩
section
variable {X:Cx}{Γ:Gm}{W:WX}{e:Expr}{ma:MA}{pos p:Pos}{es:List Expr}{r:List V→Hp→VK→Prop}{f:List D→Option Res}{x:Str}{id T:String}
theorem je_tup {x1}(h:PA X es (tMA Γ W ma)):PE X (.Tuple es x1 pos) (tM Γ W (mCS tupD ma)):=(pe_tup h).imp (tCS_ok tupD_ok)
theorem je_lst (h:PA X es (tMA Γ W ma)):PE X (.List es pos) (tM Γ W (mCS lstD ma)):=(pe_lst h).imp (tCS_ok lstD_ok)
end
inductive SOut where
 | nx (ρ:Rho)
 | ret (r:Res) (ρ:Rho)
 | bk (ρ:Rho)
 | ct (ρ:Rho)
 | exc (x:Exc) (ρ:Rho)
 | stuck
abbrev MS:=Rho→SOut
def RepOut (Γ:Gm)(ρ:Rho)(σ:St)(F H:Hp)(v:V):Res→Prop
 | .val d=>Dp Γ.G F v d
 | .new d=>∃ a L,v=.ref a∧Ct Γ.G F H a d L∧Fresh Γ ρ σ F H L
 | .at _=>False
def PostS (Γ:Gm)(W:WX)(o:SOut)(ρ:Rho)(σ:St)(F H:Hp)(D:Ends):Prop :=
 match o with
 | .nx ρ'=>∀ σ' F' H',Stp Γ ρ σ F H ρ' σ' F' H'→D.nx σ' H'
 | .ret r ρ'=>∀ v σ' F' H',Stp Γ ρ σ F H ρ' σ' F' H'→RepOut Γ ρ' σ' F' H' v r→D.rt v H'
 | .bk ρ'=>∀ σ' F' H',Stp Γ ρ σ F H ρ' σ' F' H'→D.bk σ' H'
 | .ct ρ'=>∀ σ' F' H',Stp Γ ρ σ F H ρ' σ' F' H'→D.ct σ' H'
 | .exc x ρ'=>∀ d σ' F' H',Stp Γ ρ σ F H ρ' σ' F' H'→ExcRep Γ.G F' H' x d→W (ecV Γ.G x.c) d σ' H'
 | .stuck=>False
def tMS (Γ:Gm)(W:WX)(m:MS):TS:=fun D σ H=>∃ ρ F,Rel Γ ρ σ F H∧PostS Γ W (m ρ) ρ σ F H D
theorem PostS.shift {Γ:Gm}{W:WX}{o:SOut}{ρ ρ2:Rho}{σ σ2:St}{F H F2 H2:Hp}{D:Ends}(s:Stp Γ ρ σ F H ρ2 σ2 F2 H2)(h:PostS Γ W o ρ σ F H D):PostS Γ W o ρ2 σ2 F2 H2 D:=by
 cases o with
 | nx ρ'=>exact fun σ' F' H' s2=>h σ' F' H' (s.trans s2)
 | ret r ρ'=>exact fun v σ' F' H' s2 q=>h v σ' F' H' (s.trans s2) q
 | bk ρ'=>exact fun σ' F' H' s2=>h σ' F' H' (s.trans s2)
 | ct ρ'=>exact fun σ' F' H' s2=>h σ' F' H' (s.trans s2)
 | exc x ρ'=>exact fun d σ' F' H' s2 q=>h d σ' F' H' (s.trans s2) q
 | stuck=>exact h
def bindSF (o:Out Res)(k:Res→Rho→SOut):SOut:=match o with
 | .ok a ρ=>k a.frz ρ
 | .exc x ρ=>.exc x ρ
 | .stuck=>.stuck
def bindSO {α:Type}(o:Out α)(k:α→Rho→SOut):SOut:=match o with
 | .ok a ρ=>k a ρ
 | .exc x ρ=>.exc x ρ
 | .stuck=>.stuck
theorem PostS.bindF {Γ:Gm}{W:WX}{o:Out Res}{k:Res→Rho→SOut}{ρ:Rho}{σ:St}{F H:Hp}{D:Ends}{Q1:VK}(h:PostS Γ W (bindSF o k) ρ σ F H D)
  (hk:∀ r ρ1 v F1 H1,Stp Γ ρ σ F H ρ1 σ F1 H1→RepF Γ.G σ F1 v r→PostS Γ W (k r ρ1) ρ1 σ F1 H1 D→Q1 v H1):PostF Γ W o ρ σ F H Q1:=by
 cases o with
 | ok r ρ'=>exact fun v F' H' s q=>hk r.frz ρ' v F' H' s q (h.shift s)
 | exc x ρ'=>exact fun d F' H' s q=>h d σ F' H' s q
 | stuck=>exact h
theorem PostS.bindM {Γ:Gm}{W:WX}{o:Out Res}{k:Res→Rho→SOut}{ρ:Rho}{σ:St}{F H:Hp}{D:Ends}{Q1:VK}(h:PostS Γ W (bindSO o k) ρ σ F H D)
  (hk:∀ r ρ1 v F1 H1,Stp Γ ρ σ F H ρ1 σ F1 H1→RepRes Γ σ ρ1 F1 H1 v r→PostS Γ W (k r ρ1) ρ σ F H D→Q1 v H1):Post Γ W o ρ σ F H Q1:=by
 cases o with
 | ok r ρ'=>exact fun v F' H' s q=>hk r ρ' v F' H' s q h
 | exc x ρ'=>exact fun d F' H' s q=>h d σ F' H' s q
 | stuck=>exact h
theorem PostS.bindB {Γ:Gm}{W:WX}{o:Out Bool}{k:Bool→Rho→SOut}{ρ:Rho}{σ:St}{F H:Hp}{D:Ends}{Q1:Bool→Hp→Prop}(h:PostS Γ W (bindSO o k) ρ σ F H D)
  (hk:∀ r ρ1 F1 H1,Stp Γ ρ σ F H ρ1 σ F1 H1→PostS Γ W (k r ρ1) ρ1 σ F1 H1 D→Q1 r H1):PostB Γ W o ρ σ F H Q1:=by
 cases o with
 | ok r ρ'=>exact fun F' H' s=>hk r ρ' F' H' s (h.shift s)
 | exc x ρ'=>exact fun d F' H' s q=>h d σ F' H' s q
 | stuck=>exact h
def mNext:MS:=fun ρ=>.nx ρ
def mSeq (m1 m2:MS):MS:=fun ρ=>match m1 ρ with
 | .nx ρ1=>m2 ρ1
 | o=>o
def setR (i:Nat)(r:Res)(ρ:Rho):SOut:=if i<ρ.length then (match r with
 | .val d=>.nx (ρ.set i (some (.val d)))
 | .new d=>.nx (ρ.set i (some (.own none d)))
 | .at j=>match settle (.at j) ρ with
  | some (d,ρ1)=>.nx (ρ1.set i (some (.val d)))
  | none=>.stuck) else .stuck
def mSet (i:Nat)(m:M):MS:=fun ρ=>bindSO (m ρ) fun r ρ1=>setR i r ρ1
def mExpr (m:M):MS:=fun ρ=>bindSO (m ρ) fun _ ρ1=>.nx ρ1
def retR (r:Res)(ρ:Rho):SOut:=match r with
 | .val d=>.ret (.val d) ρ
 | .new d=>.ret (.new d) ρ
 | .at j=>match ρ[j]? with
  | some (some (.val d))=>.ret (.val d) ρ
  | some (some (.own none d))=>.ret (.new d) (ρ.set j none)
  | _=>.stuck
def mRet (m:M):MS:=fun ρ=>bindSO (m ρ) fun r ρ1=>retR r ρ1
def mIfS (t:MB)(m1 m2:MS):MS:=fun ρ=>bindSO (t ρ) fun k ρ1=>if k=true then m1 ρ1 else m2 ρ1
theorem settle_len {r:Res}{ρ ρ':Rho}{d:D}(e:settle r ρ=some (d,ρ')):ρ'.length=ρ.length:=by
 cases r with
 | val d'=>simp only [settle,Option.some.injEq,Prod.mk.injEq] at e; rw [← e.2]
 | new d'=>simp [settle] at e
 | «at» i =>
  simp only [settle] at e
  split at e
  ·simp only [Option.some.injEq,Prod.mk.injEq] at e; rw [← e.2]
  ·simp only [Option.some.injEq,Prod.mk.injEq] at e; rw [← e.2]; simp
  ·cases e
section
variable {X:Cx}{Γ:Gm}{W:WX}{e:Expr}{m:M}{pos pos':Pos}{st:Stmt}{rest a b:List Stmt}{m1 m2:MS}{t:MB}
theorem js_nil:PSs X [] (tMS Γ W mNext):=pss_nil.imp fun D σ H ⟨ρ,F,R,p⟩=>p σ F H (.refl R)
theorem js_cons (h1:PS X st (tMS Γ W m1))(h2:PSs X rest (tMS Γ W m2)):PSs X (st::rest) (tMS Γ W (mSeq m1 m2)):=(pss_cons h1 h2).imp fun D σ H ⟨ρ,F,R,p⟩=>by
 refine ⟨ρ,F,R,?_⟩
 unfold mSeq at p
 cases e:m1 ρ with
 | nx ρ1=>rw [e] at p; exact fun σ' F' H' s=>⟨ρ1,F',s.rel,p.shift s⟩
 | ret r ρ1=>rw [e] at p; exact p
 | bk ρ1=>rw [e] at p; exact p
 | ct ρ1=>rw [e] at p; exact p
 | exc x ρ1=>rw [e] at p; exact p
 | stuck=>rw [e] at p; exact p.elim
theorem js_one (h1:PS X st (tMS Γ W m1)):PSs X [st] (tMS Γ W m1):=pss_one h1
theorem set_go {ρ ρ1:Rho}{σ:St}{F H F1 H1:Hp}{D:Ends}{i:Nat}{r:Res}{v:V}(s:Stp Γ ρ σ F H ρ1 σ F1 H1)(hr:RepRes Γ σ ρ1 F1 H1 v r)(p:PostS Γ W (setR i r ρ1) ρ σ F H D):D.nx (σ.set i (some v)) H1:=by
 unfold setR at p
 split at p
 ·rename_i hi
  cases r with
  | val d=>exact p _ F1 H1 (s.setV hi hr)
  | new d =>
   obtain ⟨a,L,rfl,c,fr⟩:=hr
   exact p _ F1 H1 (s.set hi ⟨a,rfl,c,fun k z=>nomatch z⟩ fr)
  | «at» j =>
   simp only at p
   split at p
   ·rename_i d ρ2 e
    obtain ⟨F2,s2,q⟩:=settle_ok s.rel (show RepF Γ.G σ F1 v (.at j) from hr) e
    exact p _ F2 H1 ((s.trans s2).setV (by rw [settle_len e]; exact hi) q)
   ·exact p.elim
 ·exact p.elim
theorem js_set {i:Nat}{x:Str}(hN:X.N.Nodup)(hx:Loc X.env.scope x)(he:PE X e (tM Γ W m))(hi:X.N[i]?=some x:=by rfl)(hs:swapsWith e (some (.Name x pos')) pos.line X.env=pure false:=by rfl)
  (hf:X.fn x=true∨X.env.scope.names.lookup x=some .local:=by first | exact .inl rfl | exact .inr rfl | assumption) :
  PS X (.Assign [.Name x pos'] e pos) (tMS Γ W (mSet i m)) :=
 (ps_set hN hi hx he hs hf).imp fun D σ H ⟨ρ,F,R,p⟩=>⟨ρ,F,R,p.bindM fun r ρ1 v F1 H1 s1 hr p1=>set_go s1 hr p1⟩
theorem js_expr (he:PE X e (tM Γ W m))(hs:swapsWith e none pos.line X.env=pure false:=by rfl):PS X (.Expr e pos) (tMS Γ W (mExpr m)) :=
 (ps_expr he hs).imp fun D σ H ⟨ρ,F,R,p⟩=>⟨ρ,F,R,p.bindM fun r ρ1 v F1 H1 s1 hr p1=>p1 σ F1 H1 s1⟩
theorem js_ret (he:PE X e (tM Γ W m)):PS X (.Return (some e) pos) (tMS Γ W (mRet m)) :=
 (ps_ret he).imp fun D σ H ⟨ρ,F,R,p⟩=>⟨ρ,F,R,p.bindM fun r ρ1 v F1 H1 s1 hr p1=>by
  unfold retR at p1
  cases r with
  | val d=>exact p1 v σ F1 H1 s1 hr
  | new d=>exact p1 v σ F1 H1 s1 hr
  | «at» j =>
   have hr:σ[j]?=some (some v):=hr
   simp only at p1
   split at p1
   ·rename_i d q
    obtain ⟨v',h1,h2⟩:=s1.rel.slotV q
    rw [hr] at h1; cases h1
    exact p1 v σ F1 H1 s1 h2
   ·rename_i d q
    obtain ⟨a,L,z,c,hb,ow⟩:=s1.rel.slotO q hr
    obtain ⟨R2,bk⟩:=s1.rel.drop (σ':=σ) j (fun _ _=>rfl) rfl
    exact p1 v σ F1 H1 (s1.drop j) ⟨a,L,z,c,fun b hb=>⟨(s1.rel.own j b (ow b hb)).1,(s1.rel.own j b (ow b hb)).2,fun ⟨k,o⟩=>(bk k b o).1 (s1.rel.inj k j b (bk k b o).2 (ow b hb))⟩⟩
   ·exact p1.elim⟩
theorem js_if {c:Expr}(hc:PT X c (tMB Γ W t))(ha:PSs X a (tMS Γ W m1))(hb:PSs X b (tMS Γ W m2)):PS X (.If c a b pos) (tMS Γ W (mIfS t m1 m2)) :=
 (ps_if hc ha hb).imp fun D σ H ⟨ρ,F,R,p⟩=>⟨ρ,F,R,p.bindB fun k ρ1 F1 H1 s1 p1=>by
  by_cases hk:k=true
  ·simp only [hk,if_true] at p1 ⊢; exact ⟨ρ1,F1,s1.rel,p1⟩
  ·simp only [hk] at p1 ⊢; exact ⟨ρ1,F1,s1.rel,p1⟩⟩
end
abbrev Tg:=D→Rho→Option Rho
abbrev Tgs:=List D→Rho→Option Rho
def TgOk (Γ:Gm)(g:TG)(f:Tg):Prop:=∀ v d ρ ρ' σ F H Q,Rel Γ ρ σ F H→Dp Γ.G F v d→f d ρ=some ρ'→(∀ σ',Stp Γ ρ σ F H ρ' σ' F H→Q σ' H)→g v σ H Q
def TgsOk (Γ:Gm)(g:TGs)(f:Tgs):Prop:=∀ vs ds ρ ρ' σ F H Q,Rel Γ ρ σ F H→DpL Γ.G F vs ds→f ds ρ=some ρ'→(∀ σ',Stp Γ ρ σ F H ρ' σ' F H→Q σ' H)→g vs σ H Q
def gN (i:Nat):Tg:=fun d ρ=>if i<ρ.length then some (ρ.set i (some (.val d))) else none
def gsNil:Tgs:=fun ds ρ=>match ds with
 | []=>some ρ
 | _=>none
def gsCons (f:Tg)(g:Tgs):Tgs:=fun ds ρ=>match ds with
 | d::ds=>(f d ρ).bind fun ρ1=>g ds ρ1
 | []=>none
def gT (n:Nat)(g:Tgs):Tg:=fun d ρ=>match d with
 | .tup ds=>if ds.length=n then g ds ρ else none
 | _=>none
theorem tg_name {Γ:Gm}{i:Nat}:TgOk Γ (gName i) (gN i):=by
 intro v d ρ ρ' σ F H Q R h e k
 unfold gN at e
 split at e
 ·rename_i hi
  cases e
  exact k _ ((Stp.refl R).setV hi h)
 ·cases e
theorem tgs_nil {Γ:Gm}:TgsOk Γ gNil gsNil:=by
 intro vs ds ρ ρ' σ F H Q R h e k
 unfold gsNil at e
 split at e
 ·cases e; cases h; exact ⟨rfl,k σ (.refl R)⟩
 ·cases e
theorem tgs_cons {Γ:Gm}{t:TG}{u:TGs}{f:Tg}{g:Tgs}(h1:TgOk Γ t f)(h2:TgsOk Γ u g):TgsOk Γ (gCons t u) (gsCons f g):=by
 intro vs ds ρ ρ' σ F H Q R h e k
 unfold gsCons at e
 split at e
 ·rename_i d ds
  obtain ⟨ρ1,e1,e2⟩:=Option.bind_eq_some_iff.mp e
  cases h with
  | cons ha hb=>exact ⟨_,_,rfl,h1 _ d ρ ρ1 σ F H _ R ha e1 fun σ1 s1=>h2 _ ds ρ1 ρ' σ1 F H Q s1.rel hb e2 fun σ2 s2=>k σ2 (s1.trans s2)⟩
 ·cases e
theorem tg_tup {Γ:Gm}{u:TGs}{g:Tgs}{n:Nat}(h2:TgsOk Γ u g):TgOk Γ (gTup Γ.G.K n u) (gT n g):=by
 intro v d ρ ρ' σ F H Q R h e k
 unfold gT at e
 split at e
 ·rename_i ds
  split at e
  ·rename_i hn
   cases h with
   | tup hs t=>exact ⟨_,_,rfl,sqT_ext hs R.sub,by rw [t.length]; exact hn,h2 _ ds ρ ρ' σ F H Q R t e k⟩
  ·cases e
 ·cases e
def tgtR (f:Tg)(r:Res)(ρ:Rho):SOut:=match settle r ρ with
 | some (d,ρ1)=>(match f d ρ1 with | some ρ2=>.nx ρ2 | none=>.stuck)
 | none=>.stuck
def mAsg (f:Tg)(m:M):MS:=fun ρ=>bindSF (m ρ) fun r ρ1=>tgtR f r ρ1
section
variable {X:Cx}{Γ:Gm}{W:WX}{e tg:Expr}{m:M}{pos pos':Pos}
end
inductive Arg where
 | v (d:D)
 | o (d:D)
inductive FOut where
 | ret (r:Res) (os:List D)
 | exc (x:Exc) (os:List D)
 | stuck
abbrev Fn:=List Arg→FOut
inductive ARel (G:Gx)(F H:Hp):List V→List Arg→List Addr→Prop
 | nil:ARel G F H [] [] []
 | v {v:V} {d:D} {vs:List V} {as:List Arg} {L:List Addr}:Dp G F v d→ARel G F H vs as L→ARel G F H (v::vs) (.v d::as) L
 | o {a:Addr} {d:D} {vs:List V} {as:List Arg} {L1 L:List Addr}:Ct G F H a d L1→(∀ b∈L1,b∉L)→ARel G F H vs as L→ARel G F H (.ref a::vs) (.o d::as) (L1++L)
inductive ORel (G:Gx)(F H:Hp):List V→List Arg→List D→List Addr→Prop
 | nil:ORel G F H [] [] [] []
 | v {v:V} {d:D} {vs:List V} {as:List Arg} {os:List D} {L:List Addr}:ORel G F H vs as os L→ORel G F H (v::vs) (.v d::as) os L
 | o {a:Addr} {d d':D} {vs:List V} {as:List Arg} {os:List D} {L1 L:List Addr}:Ct G F H a d' L1→(∀ b∈L1,b∉L)→ORel G F H vs as os L→ORel G F H (.ref a::vs) (.o d::as) (d'::os) (L1++L)
structure CStp (T:List NdefX.NTab)(U:Addr→Prop)(F H F' H':Hp):Prop where
 fh:Same F' H'
 subF:Same F F'
 keep:∀ a,U a→H' a=H a
 frn:∀ a,U a→F' a=none
 there:∀ a o,H a=some o→∃ o',H' a=some o'
 tab:NdefX.TabsN T H'
 tfr:∀ p∈T,F' p.1=none
def RepRet (G:Gx)(U:Addr→Prop)(L':List Addr)(F' H':Hp)(v:V):Res→Prop
 | .val d=>Dp G F' v d
 | .new d=>∃ a L,v=.ref a∧Ct G F' H' a d L∧∀ b∈L,F' b=none∧¬ U b∧b∉L'
 | .at _=>False
structure Ali (T:List NdefX.NTab)(U:Addr→Prop)(F H:Hp):Prop where
 ali:∀ a,U a→F a=none∧∃ o,H a=some o
 tab:TabU T U F H
def Off (U:Addr→Prop)(F:Hp)(L:List Addr):Prop:=∀ a∈L,F a=none∧¬ U a
def spF (G:Gx)(T:List NdefX.NTab)(n:Nat)(f:Fn):Sp:=fun vs H Q E=>vs.length=n∧∃ F as L U,Same F H∧ARel G F H vs as L∧Off U F L∧Ali T U F H∧match f as with
 | .ret r os=>∀ v F' H' L',CStp T U F H F' H'→ORel G F' H' vs as os L'→Off U F' L'→RepRet G U L' F' H' v r→Q v H'
 | .exc x os=>∀ d F' H' L',CStp T U F H F' H'→ORel G F' H' vs as os L'→Off U F' L'→ExcRep G F' H' x d→E (ecV G x.c) d H'
 | .stuck=>False
inductive BArg where
 | v (d:D)
 | o (i:Nat) (b:Option Nat) (d:D)
def BArg.strip:BArg→Arg
 | .v d=>.v d
 | .o _ _ d=>.o d
def idx:List BArg→List Nat
 | []=>[]
 | .v _::as=>idx as
 | .o i _ _::as=>i::idx as
def prep1:List Bool→List Res→Rho→Option (List (D ⊕ Nat)×Rho)
 | _,[],ρ=>some ([],ρ)
 | mk,r::rs,ρ=>match mk,r with
  | true::mk,.at i=>(match prep1 mk rs ρ with
   | some (ms,ρ2)=>some (.inr i::ms,ρ2)
   | none=>none)
  | mk,r=>match settle r ρ with
   | some (d,ρ1)=>(match prep1 mk.tail rs ρ1 with
    | some (ms,ρ2)=>some (.inl d::ms,ρ2)
    | none=>none)
   | none=>none
def prep2 (ρ:Rho):List (D ⊕ Nat)→Option (List BArg)
 | []=>some []
 | .inl d::ms=>(prep2 ρ ms).map (.v d::·)
 | .inr i::ms=>match ρ[i]? with
  | some (some (.own b d))=>(match prep2 ρ ms with
   | some as=>if i∈idx as then none else some (.o i b d::as)
   | none=>none)
  | some (some (.val d))=>(prep2 ρ ms).map (.v d::·)
  | _=>none
def wb:List BArg→List D→Rho→Option Rho
 | [],[],ρ=>some ρ
 | .v _::as,os,ρ=>wb as os ρ
 | .o i b _::as,d::os,ρ=>(wb as os ρ).map fun ρ=>ρ.set i (some (.own b d))
 | _,_,_=>none
inductive MRel (G:Gx)(σ:St)(F:Hp):List V→List (D ⊕ Nat)→Prop
 | nil:MRel G σ F [] []
 | v {v:V} {d:D} {vs:List V} {ms:List (D ⊕ Nat)}:Dp G F v d→MRel G σ F vs ms→MRel G σ F (v::vs) (.inl d::ms)
 | o {v:V} {i:Nat} {vs:List V} {ms:List (D ⊕ Nat)}:σ[i]?=some (some v)→MRel G σ F vs ms→MRel G σ F (v::vs) (.inr i::ms)
theorem prep1_ok {Γ:Gm}:∀ {rs:List Res} {mk:List Bool} {ρ ρ':Rho} {σ:St} {F H:Hp} {vs:List V} {ms:List (D ⊕ Nat)},Rel Γ ρ σ F H→RepFs Γ.G σ F vs rs→prep1 mk rs ρ=some (ms,ρ')→∃ F',Stp Γ ρ σ F H ρ' σ F' H∧MRel Γ.G σ F' vs ms
 | [],mk,_,_,_,F,_,_,_,R,.nil,e=>by
  simp only [prep1,Option.some.injEq,Prod.mk.injEq] at e
  obtain ⟨rfl,rfl⟩:=e
  exact ⟨F,.refl R,.nil⟩
 | r::rs,mk,_,_,_,_,_,_,_,R,.cons h t,e=>by
  simp only [prep1] at e
  split at e
  ·rename_i mk' i
   split at e
   ·rename_i ms ρ2 e2
    simp only [Option.some.injEq,Prod.mk.injEq] at e
    obtain ⟨rfl,rfl⟩:=e
    obtain ⟨F2,s2,p2⟩:=prep1_ok R t e2
    exact ⟨F2,s2,.o h p2⟩
   ·cases e
  ·split at e
   ·rename_i d ρ1 e1
    split at e
    ·rename_i ms ρ2 e2
     simp only [Option.some.injEq,Prod.mk.injEq] at e
     obtain ⟨rfl,rfl⟩:=e
     obtain ⟨F1,s1,p1⟩:=settle_ok R h e1
     obtain ⟨F2,s2,p2⟩:=prep1_ok s1.rel (t.mono s1.subF) e2
     exact ⟨F2,s1.trans s2,.v (p1.mono s2.subF) p2⟩
    ·cases e
   ·cases e
inductive BRel (Γ:Gm)(ρ:Rho)(σ:St)(F H:Hp):List V→List BArg→List Addr→Prop
 | nil:BRel Γ ρ σ F H [] [] []
 | v {v:V} {d:D} {vs:List V} {as:List BArg} {L:List Addr}:Dp Γ.G F v d→BRel Γ ρ σ F H vs as L→BRel Γ ρ σ F H (v::vs) (.v d::as) L
 | o {a:Addr} {i:Nat} {b:Option Nat} {d:D} {vs:List V} {as:List BArg} {L1 L:List Addr}:ρ[i]?=some (some (.own b d))→σ[i]?=some (some (.ref a))→Ct Γ.G F H a d L1→i∉idx as→BRel Γ ρ σ F H vs as L →
   BRel Γ ρ σ F H (.ref a::vs) (.o i b d::as) (L1++L)
theorem prep2_ok {Γ:Gm}{ρ:Rho}{σ:St}{F H:Hp}(R:Rel Γ ρ σ F H):∀ {vs:List V} {ms:List (D ⊕ Nat)} {as:List BArg},MRel Γ.G σ F vs ms→prep2 ρ ms=some as→∃ L,BRel Γ ρ σ F H vs as L
 | _,_,_,.nil,e=>by simp only [prep2,Option.some.injEq] at e; subst e; exact ⟨[],.nil⟩
 | _,_,_,.v h t,e=>by
  simp only [prep2,Option.map_eq_some_iff] at e
  obtain ⟨as,e1,rfl⟩:=e
  obtain ⟨L,B⟩:=prep2_ok R t e1
  exact ⟨L,.v h B⟩
 | _,_,_,.o (i:=i) h t,e=>by
  simp only [prep2] at e
  split at e
  ·rename_i b d q
   split at e
   ·rename_i as e1
    split at e
    ·cases e
    ·rename_i ni
     simp only [Option.some.injEq] at e
     subst e
     obtain ⟨L,B⟩:=prep2_ok R t e1
     obtain ⟨a,L1,z,c,hb,ow⟩:=R.slotO q h
     subst z
     exact ⟨L1++L,.o q h c ni B⟩
   ·cases e
  ·rename_i d q
   obtain ⟨as,e1,rfl⟩:=Option.map_eq_some_iff.mp e
   obtain ⟨L,B⟩:=prep2_ok R t e1
   obtain ⟨v',h1,h2⟩:=R.slotV q
   rw [h] at h1; cases h1
   exact ⟨L,.v h2 B⟩
  ·cases e
section
variable {Γ:Gm}{ρ:Rho}{σ:St}{F H F' H':Hp}
theorem BRel.mem (R:Rel Γ ρ σ F H):∀ {vs:List V} {as:List BArg} {L:List Addr},BRel Γ ρ σ F H vs as L→∀ a∈L,∃ i∈idx as,OwnAt Γ ρ σ F H i a
 | _,_,_,.nil,a,h=>by cases h
 | _,_,_,.v _ t,a,h=>t.mem R a h
 | _,_,_,.o (i:=i) (b:=b) (d:=d) q1 q2 q3 q4 t,a,h=>by
  rcases List.mem_append.mp h with e | h
  ·obtain ⟨a',L',z,c,hb,ow⟩:=R.slotO q1 q2
   cases z
   exact ⟨i,List.mem_cons_self ..,ow a (by rw [c.uniq q3]; exact e)⟩
  ·obtain ⟨j,h1,h2⟩:=t.mem R a h
   exact ⟨j,List.mem_cons_of_mem _ h1,h2⟩
theorem BRel.arel (R:Rel Γ ρ σ F H):∀ {vs:List V} {as:List BArg} {L:List Addr},BRel Γ ρ σ F H vs as L→ARel Γ.G F H vs (as.map BArg.strip) L
 | _,_,_,.nil=>.nil
 | _,_,_,.v h t=>.v h (t.arel R)
 | _,_,_,.o (a:=a) (i:=i) (b:=b) (d:=d) q1 q2 q3 q4 t=>by
  refine .o q3 (fun c hc z=>?_) (t.arel R)
  obtain ⟨j,h1,h2⟩:=t.mem R c z
  obtain ⟨a',L',z,cc,hb,ow⟩:=R.slotO q1 q2
  cases z
  have oi:=ow c (by rw [cc.uniq q3]; exact hc)
  exact q4 (by rw [R.inj i j c oi h2]; exact h1)
def callU (Γ:Gm)(ρ:Rho)(σ:St)(F H:Hp)(as:List BArg)(c:Addr):Prop:=Γ.U c∨∃ i,i∉idx as∧OwnAt Γ ρ σ F H i c
theorem callU_ali (R:Rel Γ ρ σ F H)(as:List BArg):Ali Γ.T (callU Γ ρ σ F H as) F H:=⟨fun a h=>by
 rcases h with h | ⟨i,_,o⟩
 ·exact R.ali a h
 ·exact ⟨(R.own i a o).1,Rel.ownH o⟩,R.tab.on,fun p hp h=>by
 rcases h with h | ⟨i,_,o⟩
 ·exact R.tab.off p hp h
 ·obtain ⟨u,e,q⟩:=Rel.ownU o
  obtain ⟨ps,e2,_⟩:=R.tab.on p hp
  rw [e] at e2; cases e2
  exact q.1 ps rfl,R.tab.fr⟩
theorem BRel.off (R:Rel Γ ρ σ F H){vs:List V}{as:List BArg}{L:List Addr}(B:BRel Γ ρ σ F H vs as L):Off (callU Γ ρ σ F H as) F L:=fun a h=>by
 obtain ⟨i,hi,o⟩:=B.mem R a h
 refine ⟨(R.own i a o).1,fun z=>?_⟩
 rcases z with z | ⟨j,hj,o2⟩
 ·exact (R.own i a o).2 z
 ·exact hj (by rw [R.inj j i a o2 o]; exact hi)
def Lnt (G:Gx)(σ:St)(F' H':Hp)(ρ':Rho)(j:Nat)(c:Addr):Prop:=∃ b d' a L1,ρ'[j]?=some (some (.own b d'))∧σ[j]?=some (some (.ref a))∧Ct G F' H' a d' L1∧c∈L1
theorem wb_get:∀ {vs:List V} {as:List BArg} {L L':List Addr} {os:List D} {ρ':Rho},BRel Γ ρ σ F H vs as L→ORel Γ.G F' H' vs (as.map BArg.strip) os L'→wb as os ρ=some ρ'→ρ'.length=ρ.length ∧
  (∀ j:Nat,j∉idx as→ρ'[j]?=ρ[j]?)∧(∀ j∈idx as,∃ b d d' a L1,ρ'[j]?=some (some (.own b d'))∧ρ[j]?=some (some (.own b d))∧σ[j]?=some (some (.ref a))∧Ct Γ.G F' H' a d' L1∧∀ c∈L1,c∈L') ∧
  (∀ j∈idx as,∀ c,Lnt Γ.G σ F' H' ρ' j c→c∈L')∧(∀ j∈idx as,∀ k∈idx as,∀ c,Lnt Γ.G σ F' H' ρ' j c→Lnt Γ.G σ F' H' ρ' k c→j=k)
 | _,_,_,_,_,_,.nil,.nil,e=>by
  simp only [wb,Option.some.injEq] at e; subst e
  exact ⟨rfl,fun j _=>rfl,fun j h=>(by cases h),fun j h=>(by cases h),fun j h=>(by cases h)⟩
 | _,_,_,_,os,ρ',.v (as:=as) h t,.v O,e=>by
  have e:wb as os ρ=some ρ':=by
   cases os <;> simpa only [wb] using e
  have g:=wb_get t O e
  exact g
 | _,_,_,_,_,_,.o (a:=a) (i:=i) (b:=b) (d:=d) (as:=as) q1 q2 q3 q4 t,.o (d':=d') (L1:=L1) hc dj O,e=>by
  simp only [wb,Option.map_eq_some_iff] at e
  obtain ⟨ρ1,e1,rfl⟩:=e
  obtain ⟨hl,g1,g2,g3,g4⟩:=wb_get t O e1
  have hi:i<ρ1.length:=by rw [hl]; exact lt_of_get q1
  have back:∀ {j:Nat} {c:Addr},j∈idx as→Lnt Γ.G σ F' H' (ρ1.set i (some (.own b d'))) j c→Lnt Γ.G σ F' H' ρ1 j c:=fun {j c} hj h=>by
   obtain ⟨b',d2,a2,L2,w1,w2⟩:=h
   rw [List.getElem?_set_ne (fun z:i=j=>q4 (z▸hj))] at w1
   exact ⟨b',d2,a2,L2,w1,w2⟩
  have here:∀ {c:Addr},Lnt Γ.G σ F' H' (ρ1.set i (some (.own b d'))) i c→c∈L1:=fun {c} h=>by
   obtain ⟨b',d2,a2,L2,w1,w2,w3,w4⟩:=h
   rw [List.getElem?_set_self hi] at w1; cases w1
   rw [q2] at w2; cases w2
   rw [hc.uniq w3]; exact w4
  refine ⟨by simp [hl],fun j hj=>?_,fun j hj=>?_,fun j hj c h=>?_,fun j hj k hk c h1 h2=>?_⟩
  ·simp only [idx,List.mem_cons,not_or] at hj
   rw [List.getElem?_set_ne (Ne.symm hj.1)]; exact g1 j hj.2
  ·rcases List.mem_cons.mp hj with rfl | hj
   ·exact ⟨b,d,d',a,L1,by rw [List.getElem?_set_self hi],q1,q2,hc,fun c h=>List.mem_append_left _ h⟩
   ·obtain ⟨b',d1,d2,a2,L2,w1,w2,w3,w4,w5⟩:=g2 j hj
    exact ⟨b',d1,d2,a2,L2,by rw [List.getElem?_set_ne (fun z:i=j=>q4 (z▸hj))]; exact w1,w2,w3,w4,fun c h=>List.mem_append_right _ (w5 c h)⟩
  ·rcases List.mem_cons.mp hj with rfl | hj
   ·exact List.mem_append_left _ (here h)
   ·exact List.mem_append_right _ (g3 j hj c (back hj h))
  ·rcases List.mem_cons.mp hj with ej | hj'
   ·rcases List.mem_cons.mp hk with ek | hk'
    ·rw [ej,ek]
    ·rw [ej] at h1
     exact absurd (g3 k hk' c (back hk' h2)) (dj c (here h1))
   ·rcases List.mem_cons.mp hk with ek | hk'
    ·rw [ek] at h2
     exact absurd (g3 j hj' c (back hj' h1)) (dj c (here h2))
    ·exact g4 j hj' k hk' c (back hj' h1) (back hk' h2)
theorem call_stp {vs:List V}{as:List BArg}{L L':List Addr}{os:List D}{ρ':Rho}(R:Rel Γ ρ σ F H)(B:BRel Γ ρ σ F H vs as L)(C:CStp Γ.T (callU Γ ρ σ F H as) F H F' H')(O:ORel Γ.G F' H' vs (as.map BArg.strip) os L')(f:Off (callU Γ ρ σ F H as) F' L')(e:wb as os ρ=some ρ') :
  Stp Γ ρ σ F H ρ' σ F' H'∧∀ a,Own Γ ρ' σ F' H' a→a∈L'∨callU Γ ρ σ F H as a:=by
 obtain ⟨hl,g1,g2,g3,g4⟩:=wb_get B O e
 have lnt:∀ {j:Nat} {c:Addr},j∈idx as→OwnAt Γ ρ' σ F' H' j c→Lnt Γ.G σ F' H' ρ' j c:=fun {j c} hj ⟨s,v,L2,w1,w2,w3,w4⟩=>by
  obtain ⟨b,d,d',a,L1,k1,k2,k3,k4,k5⟩:=g2 j hj
  rw [k1] at w1; cases w1
  obtain ⟨a',z,c',_⟩:=w3
  rw [k3] at w2; cases w2; cases z
  exact ⟨b,d',a,L2,k1,k3,c',w4⟩
 have kp:∀ j,j∉idx as→∀ b,OwnAt Γ ρ σ F H j b→∀ o,H b=some o→H' b=some o:=fun j hj b o u q=>by rw [C.keep b (.inr ⟨j,hj,o⟩)]; exact q
 have bk:∀ {j:Nat} {c:Addr},j∉idx as→OwnAt Γ ρ' σ F' H' j c→OwnAt Γ ρ σ F H j c:=fun {j c} hj o=>own_back R C.subF j (fun s q=>by rwa [g1 j hj] at q) rfl (kp j hj) o
 refine ⟨⟨⟨C.fh,fun j sl h=>?_,fun j k c h1 h2=>?_,fun j c o=>?_,by rw [hl]; exact R.len,Γ.Jm _ _ C.subF R.inv,fun c h=>?_,C.tab,R.tab.off,C.tfr⟩,C.subF,fun c h=>C.keep c (.inl h),C.there⟩,fun c ⟨j,o⟩=>?_⟩
 ·by_cases hj:j∈idx as
  ·obtain ⟨b,d,d',a,L1,k1,k2,k3,k4,k5⟩:=g2 j hj
   rw [k1] at h; cases h
   obtain ⟨a',L0,z,c,hb,ow⟩:=R.slotO k2 k3
   cases z
   exact ⟨_,L1,k3,a,rfl,k4,hb⟩
  ·rw [g1 j hj] at h
   exact slot_keep R C.subF j h rfl (kp j hj)
 ·by_cases hj:j∈idx as
  ·by_cases hk:k∈idx as
   ·exact g4 j hj k hk c (lnt hj h1) (lnt hk h2)
   ·exact absurd (.inr ⟨k,hk,bk hk h2⟩) (f c (g3 j hj c (lnt hj h1))).2
  ·by_cases hk:k∈idx as
   ·exact absurd (.inr ⟨j,hj,bk hj h1⟩) (f c (g3 k hk c (lnt hk h2))).2
   ·exact R.inj j k c (bk hj h1) (bk hk h2)
 ·by_cases hj:j∈idx as
  ·have z:=f c (g3 j hj c (lnt hj o))
   exact ⟨z.1,fun w=>z.2 (.inl w)⟩
  ·have z:=bk hj o
   exact ⟨C.frn c (.inr ⟨j,hj,z⟩),(R.own j c z).2⟩
 ·obtain ⟨_,o,q⟩:=R.ali c h
  exact ⟨C.frn c (.inl h),o,by rw [C.keep c (.inl h)]; exact q⟩
 ·by_cases hj:j∈idx as
  ·exact .inl (g3 j hj c (lnt hj o))
  ·exact .inr (.inr ⟨j,hj,bk hj o⟩)
end
def callR (mk:List Bool)(f:Fn)(rs:List Res)(ρ:Rho):Out Res:=match prep1 mk rs ρ with
 | some (ms,ρ1)=>(match prep2 ρ1 ms with
  | some as=>(match f (as.map BArg.strip) with
   | .ret r os=>(match wb as os ρ1 with
    | some ρ2=>.ok r ρ2
    | none=>.stuck)
   | .exc x os=>(match wb as os ρ1 with
    | some ρ2=>.exc x ρ2
    | none=>.stuck)
   | .stuck=>.stuck)
  | none=>.stuck)
 | none=>.stuck
theorem RepRet.res {Γ:Gm}{ρ ρ1 ρ':Rho}{σ:St}{F H F' H':Hp}{v:V}{r:Res}{as:List BArg}{L':List Addr}(bk:∀ a,Own Γ ρ' σ F' H' a→a∈L'∨callU Γ ρ σ F H as a)(h:RepRet Γ.G (callU Γ ρ σ F H as) L' F' H' v r):RepRes Γ σ ρ' F' H' v r:=by
 cases r with
 | val d=>exact h
 | «at» i=>exact h.elim
 | new d =>
  obtain ⟨a,L,e,c,n⟩:=h
  refine ⟨a,L,e,c,fun b hb=>⟨(n b hb).1,fun z=>(n b hb).2.1 (.inl z),fun z=>?_⟩⟩
  rcases bk b z with w | w
  ·exact (n b hb).2.2 w
  ·exact (n b hb).2.1 w
theorem callR_ok {Γ:Gm}{W:WX}{mk:List Bool}{f:Fn}{rs:List Res}{ρ:Rho}{σ:St}{F H:Hp}{Q:VK}{vs:List V}{n:Nat}(R:Rel Γ ρ σ F H)(ha:RepFs Γ.G σ F vs rs)(hn:vs.length=n)(h:Post Γ W (callR mk f rs ρ) ρ σ F H Q) :
  spF Γ.G Γ.T n f vs H Q (fun cls d H'=>W cls d σ H'):=by
 unfold callR at h
 split at h
 ·rename_i ms ρ1 e1
  obtain ⟨F1,s1,m1⟩:=prep1_ok R ha e1
  split at h
  ·rename_i as e2
   obtain ⟨L,B⟩:=prep2_ok s1.rel m1 e2
   refine ⟨hn,F1,as.map BArg.strip,L,callU Γ ρ1 σ F1 H as,s1.rel.sub,B.arel s1.rel,B.off s1.rel,callU_ali s1.rel as,?_⟩
   split at h
   ·rename_i r os e3
    split at h
    ·rename_i ρ2 e4
     intro v F' H' L' C O f' q
     obtain ⟨s2,bk⟩:=call_stp s1.rel B C O f' e4
     exact h v F' H' (s1.trans s2) (RepRet.res (ρ1:=ρ1) bk q)
    ·exact h.elim
   ·rename_i x os e3
    split at h
    ·rename_i ρ2 e4
     intro d F' H' L' C O f' q
     exact h d F' H' (s1.trans (call_stp s1.rel B C O f' e4).1) q
    ·exact h.elim
   ·exact h.elim
  ·exact h.elim
 ·exact h.elim
def slotsOf:Nat→List Arg→Rho
 | _,[]=>[]
 | k,.v d::as=>some (.val d)::slotsOf (k+1) as
 | k,.o d::as=>some (.own (some k) d)::slotsOf (k+1) as
def outsOf (ρ:Rho):Nat→List Arg→Option (List D)
 | _,[]=>some []
 | k,.v _::as=>outsOf ρ (k+1) as
 | k,.o _::as=>match ρ[k]? with
  | some (some (.own (some j) d))=>if j=k then (outsOf ρ (k+1) as).map (d::·) else none
  | _=>none
def fin (as:List Arg)(ρ:Rho)(k:List D→FOut):FOut:=match outsOf ρ 0 as with
 | some os=>k os
 | none=>.stuck
def mkFn (nl:Nat)(m:MS):Fn:=fun as=>match m (slotsOf 0 as++List.replicate nl none) with
 | .nx ρ=>fin as ρ fun os=>.ret (.val .non) os
 | .ret (.val d) ρ=>fin as ρ fun os=>.ret (.val d) os
 | .ret (.new d) ρ=>fin as ρ fun os=>.ret (.new d) os
 | .exc x ρ=>fin as ρ fun os=>.exc x os
 | _=>.stuck
def bet (vs:List V)(k:Nat):Addr:=match vs[k]? with
 | some (.ref a)=>a
 | _=>0
theorem slotsOf_len:∀ (as:List Arg) (k:Nat),(slotsOf k as).length=as.length
 | [],_=>rfl
 | .v _::as,k=>by simp [slotsOf,slotsOf_len as]
 | .o _::as,k=>by simp [slotsOf,slotsOf_len as]
theorem ARel.len {G:Gx}{F H:Hp}:∀ {vs:List V} {as:List Arg} {L:List Addr},ARel G F H vs as L→vs.length=as.length
 | _,_,_,.nil=>rfl
 | _,_,_,.v _ t=>by simp [t.len]
 | _,_,_,.o _ _ t=>by simp [t.len]
theorem slot_at {G:Gx}{F H:Hp}:∀ {vs:List V} {as:List Arg} {L:List Addr} {k i:Nat} {sl:Slot},ARel G F H vs as L→(slotsOf k as)[i]?=some (some sl)→∃ v,vs[i]?=some v ∧
  ((∃ d,sl=.val d∧Dp G F v d)∨∃ d a L1,sl=.own (some (k+i)) d∧v=.ref a∧Ct G F H a d L1∧∀ c∈L1,c∈L)
 | _,_,_,_,i,_,.nil,e=>by simp [slotsOf] at e
 | _,_,_,k,0,sl,.v h t,e=>by
  simp only [slotsOf,List.getElem?_cons_zero,Option.some.injEq] at e
  exact ⟨_,rfl,.inl ⟨_,e.symm,h⟩⟩
 | _,_,_,k,i+1,sl,.v h t,e=>by
  simp only [slotsOf,List.getElem?_cons_succ] at e
  obtain ⟨v,h1,h2⟩:=slot_at t e
  rw [Nat.add_right_comm] at h2
  exact ⟨v,by simpa using h1,h2⟩
 | _,_,_,k,0,sl,.o (a:=a) c nl t,e=>by
  simp only [slotsOf,List.getElem?_cons_zero,Option.some.injEq] at e
  exact ⟨_,rfl,.inr ⟨_,a,_,e.symm,rfl,c,fun c h=>List.mem_append_left _ h⟩⟩
 | _,_,_,k,i+1,sl,.o c nl t,e=>by
  simp only [slotsOf,List.getElem?_cons_succ] at e
  obtain ⟨v,h1,h2⟩:=slot_at t e
  rw [Nat.add_right_comm] at h2
  refine ⟨v,by simpa using h1,?_⟩
  rcases h2 with h2 | ⟨d,a,L1,w1,w2,w3,w4⟩
  ·exact .inl h2
  ·exact .inr ⟨d,a,L1,w1,w2,w3,fun c h=>List.mem_append_right _ (w4 c h)⟩
theorem slot_inj {G:Gx}{F H:Hp}:∀ {vs:List V} {as:List Arg} {L:List Addr} {k i j:Nat} {b c:Option Nat} {d e:D} {a1 a2 x:Addr} {L1 L2:List Addr},ARel G F H vs as L→(slotsOf k as)[i]?=some (some (.own b d))→(slotsOf k as)[j]?=some (some (.own c e))→vs[i]?=some (.ref a1)→vs[j]?=some (.ref a2)→Ct G F H a1 d L1→Ct G F H a2 e L2→x∈L1→x∈L2→i=j
 | _,_,_,_,i,_,_,_,_,_,_,_,_,_,_,.nil,q,_,_,_,_,_,_,_=>by simp [slotsOf] at q
 | _,_,_,k,0,0,_,_,_,_,_,_,_,_,_,_,_,_,_,_,_,_,_,_=>rfl
 | _,_,_,k,0,j+1,_,_,_,_,_,_,_,_,_,.v h t,q,_,_,_,_,_,_,_=>by simp [slotsOf] at q
 | _,_,_,k,i+1,0,_,_,_,_,_,_,_,_,_,.v h t,_,q,_,_,_,_,_,_=>by simp [slotsOf] at q
 | _,_,_,k,i+1,j+1,_,_,_,_,_,_,_,_,_,.v h t,q1,q2,q3,q4,c1,c2,x1,x2=>by
  simp only [slotsOf,List.getElem?_cons_succ] at q1 q2 q3 q4
  exact congrArg Nat.succ (slot_inj t q1 q2 q3 q4 c1 c2 x1 x2)
 | _,_,_,k,i+1,j+1,_,_,_,_,_,_,_,_,_,.o c nl t,q1,q2,q3,q4,c1,c2,x1,x2=>by
  simp only [slotsOf,List.getElem?_cons_succ] at q1 q2 q3 q4
  exact congrArg Nat.succ (slot_inj t q1 q2 q3 q4 c1 c2 x1 x2)
 | _,_,_,k,0,j+1,_,_,_,_,_,_,_,_,_,.o c nl t,q1,q2,q3,q4,c1,c2,x1,x2=>by
  simp only [slotsOf,List.getElem?_cons_succ,List.getElem?_cons_zero,Option.some.injEq,V.ref.injEq,Slot.own.injEq] at q1 q2 q3 q4
  obtain ⟨_,rfl⟩:=q1
  subst q3
  obtain ⟨v,h1,h2⟩:=slot_at t q2
  rw [q4] at h1; cases h1
  rcases h2 with ⟨d,w,_⟩ | ⟨d,a,L3,w1,w2,w3,w4⟩
  ·cases w
  ·cases w2; cases w1
   exact absurd (w4 _ (by rw [w3.uniq c2]; exact x2)) (nl _ (by rw [c.uniq c1]; exact x1))
 | _,_,_,k,i+1,0,_,_,_,_,_,_,_,_,_,.o c nl t,q2,q1,q4,q3,c2,c1,x2,x1=>by
  simp only [slotsOf,List.getElem?_cons_succ,List.getElem?_cons_zero,Option.some.injEq,V.ref.injEq,Slot.own.injEq] at q1 q2 q3 q4
  obtain ⟨_,rfl⟩:=q1
  subst q3
  obtain ⟨v,h1,h2⟩:=slot_at t q2
  rw [q4] at h1; cases h1
  rcases h2 with ⟨d,w,_⟩ | ⟨d,a,L3,w1,w2,w3,w4⟩
  ·cases w
  ·cases w2; cases w1
   exact absurd (w4 _ (by rw [w3.uniq c2]; exact x2)) (nl _ (by rw [c.uniq c1]; exact x1))
theorem get_app {α:Type}{l:List (Option α)}{n i:Nat}{x:α}(h:(l++List.replicate n none)[i]?=some (some x)):l[i]?=some (some x):=by
 rcases Nat.lt_or_ge i l.length with z | z
 ·rwa [List.getElem?_append_left z] at h
 ·rw [List.getElem?_append_right z] at h
  rw [List.getElem?_replicate] at h
  split at h <;> cases h
theorem start_get {N:List Str}{vs:List V}{i:Nat}{v:V}(h:vs[i]?=some v):(start N vs)[i]?=some (some v):=by
 have hi:=lt_of_get h
 unfold L2.start
 rw [List.getElem?_append_left (by simpa using hi)]
 simp [h]
theorem own_entry {G:Gx}{T:List NdefX.NTab}{U:Addr→Prop}{F H:Hp}{vs:List V}{as:List Arg}{L:List Addr}{N:List Str}{nl:Nat}(A:ARel G F H vs as L){i:Nat}{c:Addr}(o:OwnAt (.of G T (bet vs) U) (slotsOf 0 as++List.replicate nl none) (start N vs) F H i c) :
  ∃ d a L1,(slotsOf 0 as)[i]?=some (some (.own (some i) d))∧vs[i]?=some (.ref a)∧Ct G F H a d L1∧c∈L1∧c∈L:=by
 obtain ⟨s,v,L2,h1,h2,h3,h4⟩:=o
 have h1:=get_app h1
 obtain ⟨v',g1,g2⟩:=slot_at A h1
 rw [start_get g1] at h2; cases h2
 rcases g2 with ⟨d,rfl,hd⟩ | ⟨d,a,L1,rfl,rfl,cc,sb⟩
 ·rw [h3.2] at h4; cases h4
 ·obtain ⟨a',z,c',_⟩:=h3
  cases z
  have e:=cc.uniq c'
  rw [Nat.zero_add] at h1
  exact ⟨d,a,L1,h1,g1,cc,by rw [e]; exact h4,sb c (by rw [e]; exact h4)⟩
theorem entry {G:Gx}{T:List NdefX.NTab}{U:Addr→Prop}{F H:Hp}{vs:List V}{as:List Arg}{L:List Addr}{N:List Str}{nl:Nat}(A:ARel G F H vs as L)(f:Off U F L)(al:Ali T U F H)(e:Same F H)(hN:N.length=vs.length+nl):Rel (.of G T (bet vs) U) (slotsOf 0 as++List.replicate nl none) (start N vs) F H:=by
 refine ⟨e,fun i sl h=>?_,fun i j a o1 o2=>?_,fun i a o=>?_,?_,trivial,al.ali,al.tab⟩
 ·obtain ⟨v,h1,h2⟩:=slot_at A (get_app h)
  rcases h2 with ⟨d,rfl,hd⟩ | ⟨d,a,L1,rfl,rfl,c,_⟩
  ·exact ⟨v,[],start_get h1,hd,rfl⟩
  ·refine ⟨_,L1,start_get h1,a,rfl,c,fun k z=>?_⟩
   simp only [Nat.zero_add,Option.some.injEq] at z
   subst z
   show a=bet vs i
   unfold bet
   rw [h1]
 ·obtain ⟨d,a1,L1,q1,q2,q3,q4,_⟩:=own_entry A o1
  obtain ⟨d2,a2,L2,p1,p2,p3,p4,_⟩:=own_entry A o2
  exact slot_inj A q1 p1 q2 p2 q3 p3 q4 p4
 ·obtain ⟨d,a1,L1,q1,q2,q3,q4,q5⟩:=own_entry A o
  exact f a q5
 ·unfold L2.start
  simp [slotsOf_len,← A.len,hN]
theorem outs_ok {G:Gx}{T:List NdefX.NTab}{U:Addr→Prop}{β:Nat→Addr}{F H F' H':Hp}{ρ':Rho}{σ':St}(R:Rel (.of G T β U) ρ' σ' F' H'):∀ {vs:List V} {as:List Arg} {L:List Addr} {k:Nat} {os:List D},ARel G F H vs as L→(∀ i a,vs[i]?=some (.ref a)→β (k+i)=a)→outsOf ρ' k as=some os →
  ∃ L',ORel G F' H' vs as os L'∧∀ c∈L',∃ j,k≤j∧OwnAt (.of G T β U) ρ' σ' F' H' j c
 | _,_,_,_,_,.nil,_,e=>by simp only [outsOf,Option.some.injEq] at e; subst e; exact ⟨[],.nil,fun a h=>by cases h⟩
 | _,_,_,k,_,.v h t,hb,e=>by
  simp only [outsOf] at e
  obtain ⟨L',O,ow⟩:=outs_ok R t (fun i a q=>by rw [← hb (i+1) a (by simpa using q)]; congr 1; omega) e
  exact ⟨L',.v O,fun c hc=>by obtain ⟨j,h1,h2⟩:=ow c hc; exact ⟨j,by omega,h2⟩⟩
 | _,_,_,k,_,.o (a:=a) c nl t,hb,e=>by
  simp only [outsOf] at e
  split at e
  ·rename_i j d q
   split at e
   ·rename_i hj
    subst hj
    obtain ⟨os,e1,rfl⟩:=Option.map_eq_some_iff.mp e
    obtain ⟨L',O,ow⟩:=outs_ok R t (fun i a q=>by rw [← hb (i+1) a (by simpa using q)]; congr 1; omega) e1
    obtain ⟨v,L1,h1,a',rfl,c',hb'⟩:=R.slot j _ q
    have ea:a'=a:=by
     rw [hb' j rfl,← hb 0 a rfl]; rfl
    subst ea
    have me:∀ x∈L1,OwnAt (.of G T β U) ρ' σ' F' H' j x:=fun x hx=>⟨_,_,L1,q,h1,⟨a',rfl,c',hb'⟩,hx⟩
    refine ⟨L1++L',.o c' (fun b hb1 hb2=>?_) O,fun x hx=>?_⟩
    ·obtain ⟨j',h3,h4⟩:=ow b hb2
     have:=R.inj j j' b (me b hb1) h4
     omega
    ·rcases List.mem_append.mp hx with z | z
     ·exact ⟨j,Nat.le_refl _,me x z⟩
     ·obtain ⟨j',h3,h4⟩:=ow x z
      exact ⟨j',by omega,h4⟩
   ·cases e
  ·cases e
theorem body_ok {X:Cx}{G:Gx}{T:List NdefX.NTab}{N:List Str}{n nl:Nat}{m:MS}{body:List Stmt}{vs:List V}{H:Hp}{Q:VK}{E:XK}(hN:N.length=n+nl)(h:spF G T n (mkFn nl m) vs H Q E)(hb:∀ U,PSs X body (tMS (.of G T (bet vs) U) (fun cls d _ H'=>E cls d H') m)) :
  ∃ t,PSs X body t∧t { nx:=fun _ H'=>Q .non H',rt:=Q } (start N vs) H:=by
 obtain ⟨hl,F,as,L,U,e,A,f,al,h⟩:=h
 refine ⟨_,hb U,?_⟩
 have R:=entry (N:=N) (nl:=nl) A f al e (by rw [hl]; exact hN)
 refine ⟨_,F,R,?_⟩
 have hβ:∀ i a,vs[i]?=some (.ref a)→bet vs (0+i)=a:=fun i a q=>by unfold bet; rw [Nat.zero_add,q]
 have cst:∀ {ρ':Rho} {σ':St} {F' H':Hp} {os:List D},Stp (.of G T (bet vs) U) (slotsOf 0 as++List.replicate nl none) (start N vs) F H ρ' σ' F' H'→outsOf ρ' 0 as=some os→∃ L',CStp T U F H F' H'∧ORel G F' H' vs as os L'∧Off U F' L'∧∀ c∈L',Own (.of G T (bet vs) U) ρ' σ' F' H' c:=fun {ρ' σ' F' H' os} s eo=>by
  obtain ⟨L',O,ow⟩:=outs_ok s.rel A hβ eo
  exact ⟨L',⟨s.rel.sub,s.subF,s.keep,fun a h=>(s.rel.ali a h).1,s.there,s.rel.tab.on,s.rel.tab.fr⟩,O,fun c hc=>by obtain ⟨j,_,o⟩:=ow c hc; exact s.rel.own j c o,fun c hc=>by obtain ⟨j,_,o⟩:=ow c hc; exact ⟨j,o⟩⟩
 unfold mkFn at h
 cases eq:m (slotsOf 0 as++List.replicate nl none) with
 | nx ρ' =>
  rw [eq] at h
  simp only [fin] at h
  cases eo:outsOf ρ' 0 as with
  | none=>rw [eo] at h; exact h.elim
  | some os =>
   rw [eo] at h
   intro σ' F' H' s
   obtain ⟨L',C,O,f',ow⟩:=cst s eo
   exact h .non F' H' L' C O f' .non
 | ret r ρ' =>
  cases r with
  | val d =>
   rw [eq] at h
   simp only [fin] at h
   cases eo:outsOf ρ' 0 as with
   | none=>rw [eo] at h; exact h.elim
   | some os =>
    rw [eo] at h
    intro v σ' F' H' s q
    obtain ⟨L',C,O,f',ow⟩:=cst s eo
    exact h v F' H' L' C O f' q
  | new d =>
   rw [eq] at h
   simp only [fin] at h
   cases eo:outsOf ρ' 0 as with
   | none=>rw [eo] at h; exact h.elim
   | some os =>
    rw [eo] at h
    intro v σ' F' H' s q
    obtain ⟨L',C,O,f',ow⟩:=cst s eo
    obtain ⟨a,L1,z,c,fr⟩:=q
    exact h v F' H' L' C O f' ⟨a,L1,z,c,fun b hb=>⟨(fr b hb).1,(fr b hb).2.1,fun w=>(fr b hb).2.2 (ow b w)⟩⟩
  | «at» i=>rw [eq] at h; exact h.elim
 | bk ρ'=>rw [eq] at h; exact h.elim
 | ct ρ'=>rw [eq] at h; exact h.elim
 | exc x ρ' =>
  rw [eq] at h
  simp only [fin] at h
  cases eo:outsOf ρ' 0 as with
  | none=>rw [eo] at h; exact h.elim
  | some os =>
   rw [eo] at h
   intro d σ' F' H' s q
   obtain ⟨L',C,O,f',ow⟩:=cst s eo
   exact h d F' H' L' C O f' q
 | stuck=>rw [eq] at h; exact h.elim
structure RG (k:Nat)(A:Around):Prop where
 room:Room k A
 gd:A.guards=some []
section
variable {j k:Nat}{A:Around}
theorem RG.mono (r:RG k A)(h:j≤k):RG j A:=⟨r.room.mono h,r.gd⟩
theorem RG.deeper (r:RG (k+1) A)(env:Env):RG k (A.deeper env):=⟨r.room.deeper env,r.gd⟩
theorem RG.in1 (r:RG (k+1) A):RG k A.in1:=⟨r.room.in1,r.gd⟩
theorem RG.make (r:RG (k+1) A)(C:Addr)(us:List Value)(kw:List (Str×Value)):RG k (A.under (.builtin "type.__call__" ⟨.ref C::us,kw⟩)):=⟨r.room.make C us kw,by
 have e:(Code.builtin "type.__call__" ⟨.ref C::us,kw⟩).guards=[]:=by
  unfold Code.guards
  have:(Code.builtin "type.__call__" ⟨.ref C::us,kw⟩).isGuard=false:=by show guardIds.contains "type.__call__"=false; decide +kernel
  rw [this]; rfl
 have u:(A.under (Code.builtin "type.__call__" ⟨.ref C::us,kw⟩)).guards=pushGuards (Code.builtin "type.__call__" ⟨.ref C::us,kw⟩).guards A.guards:=by unfold Around.under; rfl
 rw [u,e,r.gd]; rfl⟩
theorem RG.hd (r:RG k A):A.handled=none:=r.room.hd
theorem RG.un (r:RG k A):A.units+16 * k+200<cLine:=r.room.un
theorem RG.units (r:RG k A):A.units+64<cLine:=r.room.units
end
structure FnOkG (P:Program)(w:World)(K:PySem.W.Frag)(mg:Str→Option Value)(base:Heap)(k:Nat)(f:Addr)(fd:FuncData)(ps:List Str)(sp:Sp):Prop where
 len:∀ vs H Q E,sp vs H Q E→vs.length=ps.length
 run:∀ (A:Around) (outer:List Env) (s:Shared) (H:Hp) (args:Args) (us:List Value) (vs:List V) (Q:VK) (E:XK),RG k A→Env0 P w K mg base A outer s H→BindsTo s fd args (ps.zip us)→Vals vs us→sp vs H Q E→codeAny (model P w) A (.call (.ref f) args) (CR (L2.CX P w) outer P w H s Q E) s
theorem okg_of {P:Program}{w:World}{K:PySem.W.Frag}{mg:Str→Option Value}{base:Heap}{x qual:Str}{params:Arguments}{body:List Stmt}{scope:Scope}{dvs:List V}{kws:List (Str×V)}{f:Addr}{fd:FuncData}{N ps:List Str}{k:Nat}{sp:Sp}
  (F:FunD K x qual params body scope dvs kws f fd) (S:FnScope N ps scope) (len:∀ vs H Q E,sp vs H Q E→vs.length=ps.length)
  (hb:∀ (cdv:Value) (A:Around) (outer:List Env) (s:Shared) (H:Hp) (vs:List V) (Q:VK) (E:XK),RG k (A.deeper (envOfC qual scope s.heap.objs.size f cdv))→sp vs H Q E →
   ∃ t,PSs (cxOf (L2.CX P w) P w K mg base N qual scope f cdv A outer s H E) body t∧t { nx:=fun _ H'=>Q .non H',rt:=Q } (start N vs) H):FnOkG P w K mg base (k+1) f fd ps sp:=by
 obtain ⟨oc,od,dV,kV,doc,pm,an,cdv,ct,osl,rfl,lk,hcd,_,_⟩:=F.ex
 refine ⟨len,fun A outer s H args us vs Q E rg en bt rv prom=>?_⟩
 have inK:K.In s.heap:=en.mod.kin.keeps fun b o q=>(en.bs b o q).1
 have lims:s.heap.NoLimit:=en.mod.nolimit.keeps fun b o q=>(en.bs b o q).1
 refine codeAny_call_function rg.room.depth (inK _ _ lk) rfl S.co S.gen rfl (PySem.W.codeRec_of inK hcd) (bt _ _ _ _ ?_)
 refine wpAny_newFunctionEnv_cells S.kind (fun ⟨nm,val⟩ mem=>(S.par nm (List.of_mem_zip mem).1).elim .inl fun c=>.inr ⟨c,PySem.W.cellsFrom_some _ _ _ (.inl c)⟩) fun env eenv s1 inn=>?_
 subst eenv
 obtain ⟨t,dt,qt⟩:=hb cdv A outer s H vs Q E (rg.deeper _) prom
 have J:Inv (cxOf (L2.CX P w) P w K mg base N qual scope f cdv A outer s H E) [] (start N vs) H s1:=inv_start S rg.hd en (len _ _ _ _ prom) rv inn
 refine ⟨lims.keeps inn.toInCall.keep,codeAny_func (wpAny_mono (dt.run [] s1 (start N vs) H _ J qt) (fun fl s2 z=>?_) fun _ _ z=>z)⟩
 cases fl with
 | ret u=>obtain ⟨v,σ2,H2,J2,r2,q2⟩:=z; exact ⟨v,H2,J2.os,J2.bare,J2.base,J2.hok,r2,q2⟩
 | next=>obtain ⟨σ2,H2,J2,q2⟩:=z; exact ⟨V.non,H2,J2.os,J2.bare,J2.base,J2.hok,rfl,q2⟩
 | brk=>obtain ⟨_,_,_,q2⟩:=z; exact (show False from q2).elim
 | cont=>obtain ⟨_,_,_,q2⟩:=z; exact (show False from q2).elim
structure SubG (X:Cx)(n:Nat)(A:Around):Prop where
 room:RG n A
 fr:A.frames=X.A.frames
theorem SubG.in1 {X:Cx}{n:Nat}{A:Around}(s:SubG X (n+1) A):SubG X n A.in1:=⟨s.room.in1,s.fr⟩
theorem SubG.mono {X:Cx}{n m:Nat}{A:Around}(s:SubG X n A)(h:m≤n):SubG X m A:=⟨s.room.mono h,s.fr⟩
theorem envG {X:Cx}{n:Nat}{A:Around}{pins:List (Addr×Obj)}{σ:St}{H:Hp}{s:Shared}(sb:SubG X n A)(I:Inv X pins σ H s):Env0 X.prog X.w X.K X.mg X.base A X.stack s H :=
 have e:=I.env0
 ⟨by rw [sb.fr]; exact e.frames,e.mod,e.bs,e.bsz,e.funs,e.frf,e.hok,e.bare⟩
theorem run_sub {X:Cx}{A:Around}{k:Nat}{f:Addr}{fd:FuncData}{ps:List Str}{sp:Sp}{ds:List Value}{dvs:List V}{pins:List (Addr×Obj)}{σ:St}{H:Hp}{s:Shared}{Q:VK}{E:XK}{us:List Value}{vs:List V}(F:FnOkG X.prog X.w X.K X.mg X.base k f fd ps sp)(sb:SubG X k A)(hb:Binds X.K fd ps ds)(hd:Vals dvs ds)(hx:PassesAt (L2.CX X.prog X.w) X σ E)
  (I:Inv X pins σ H s) (r:Vals vs us) (h:sp (vs++dvs) H Q E):wpAny (model X.prog X.w) A (call (.ref f) us) (EP X pins σ Q) X.xe s:=by
 have rr:Vals (vs++dvs) (us++ds):=r.append hd
 have hl:=F.len _ _ _ _ h
 have bt:=hb s us I.kIn (by rw [← rr.length]; exact hl)
 refine wpAny_call (codeAny_mono (F.run A X.stack s H ⟨us,[]⟩ (us++ds) (vs++dvs) Q E sb.room (envG sb I) bt rr h) fun r s' hq=>?_)
 cases r with
 | error e=>exact hx pins H s e s' I hq
 | ok fl=>cases fl with
  | ret w =>
   obtain ⟨v,H',I3,rv,q⟩:=I.after hq
   exact ⟨v,H',I3,rv,q⟩
  | _=>exact (show False from hq).elim
theorem run_fnG {X:Cx}{k:Nat}{f:Addr}{fd:FuncData}{ps:List Str}{sp:Sp}{ds:List Value}{dvs:List V}{E:St→XK}{pins:List (Addr×Obj)}{σ:St}{H:Hp}{s:Shared}{Q:VK}{us:List Value}{vs:List V}(F:FnOkG X.prog X.w X.K X.mg X.base k f fd ps sp)(hr:RG k X.A)(hb:Binds X.K fd ps ds)(hd:Vals dvs ds)(hx:PassesAt (L2.CX X.prog X.w) X σ (E σ))
  (I:Inv X pins σ H s) (r:Vals vs us) (h:sp (vs++dvs) H Q (E σ)):wpAny (model X.prog X.w) X.A (call (.ref f) us) (EP X pins σ Q) X.xe s:=run_sub F ⟨hr,rfl⟩ hb hd hx I r h
theorem law_callG {P:Program}{w:World}{K:PySem.W.Frag}{mg mb:Str→Option Value}{k:Nat}{fa a:Addr}{fd:FuncData}{x:Str}{sp:Sp}{s:Shared}{vs:List Value}{ns:List Int}
  (inK:K.In s.heap) (gl:s.heap.Ns mainGlobals mg) (bu:s.heap.Ns builtinsNs mb) (bb:∀ y:Str,y ≠ "__name__"→mb y=bootBuiltins y) (lm:s.heap.NoLimit) (gn:s.gens=#[])
  (scr:s.heap.get? a=some { cls:=.type "list",data:=.seq vs.toArray }) (iv:IntsAre vs ns) (few:ns.length≤sizeLine) (rg:RG k callerA)
  (F:∀ base:Heap,K.In base→base.Ns mainGlobals mg→FnOkG P w K mg base k fa fd [x] sp) (bind:∀ (s:Shared) (u:Value),BindsTo s fd ⟨[u],[]⟩ [(x,u)])
  (prom:∀ H:Hp,Only H→SqL K H a (ns.map V.int)→sp [.ref a] H (fun v _=>v=.bl true) fun _ _ _=>False)
  (noX:∀ H e s',L2.CX P w [] H s (fun _ _ _=>False) e s'→False) :
  codeAny (model P w) callerA (.call (.ref fa) ⟨[.ref a],[]⟩) (fun r s'=>r=.ok (.ret (.bool true))∧OldK s.heap s'.heap∧s'.os=s.os∧AllBare s'.gens) s:=by
 have go:∀ H:Hp,Only H→SqL K H a (ns.map V.int)→HOk P w H s.heap→(∀ b,H b≠none→b=a)→(H a≠none→K.lookup a=none)→codeAny (model P w) callerA (.call (.ref fa) ⟨[.ref a],[]⟩) (fun r s'=>r=.ok (.ret (.bool true))∧OldK s.heap s'.heap∧s'.os=s.os∧AllBare s'.gens) s:=by
  intro H only sq ok onlyA notK
  have free:∀ {b:Addr} {o:Obj} {es:Array DictEntry} {n:Nat},s.heap.get? b=some o→o.data=.dict es n→H b=none:=fun {b o es n} q d=>Classical.byContradiction fun z=>by
   obtain rfl:=onlyA b z
   rw [scr] at q; cases q
   exact nomatch d
  have names:∀ {b:Addr} {m:Str→Option Value},s.heap.Ns b m→(hidT s.heap H).Ns b m:=fun {b m} ⟨o,es,n,q,d,z⟩=>⟨o,es,n,hidT_get q (free q d),d,z⟩
  have inB:K.In (hidT s.heap H):=fun b o q=>hidT_get (inK b o q) (Classical.byContradiction fun z=>by
   obtain rfl:=onlyA b z
   rw [notK z] at q; cases q)
  obtain ⟨mc,l1,l2⟩:=lm
  have md:Mod K mg (hidT s.heap H):=⟨inB,names gl,⟨mb,names bu,bb⟩,⟨mc,names l1,l2⟩⟩
  have nobody:∀ b:Addr,¬ b∈([]:List Addr):=fun b z=>by cases z
  have en:Env0 P w K mg (hidT s.heap H) callerA [] s H:=⟨rfl,md,fun b o q=>of_hidT q,Nat.le_of_eq (hidT_size _ _),trivial,fun b z=>(nobody b z).elim,ok,.of_eq gn⟩
  have call:=(F _ inB (names gl)).run callerA [] s H ⟨[.ref a],[]⟩ [.ref a] [.ref a] _ _ rg en (bind s (.ref a)) (.cons rfl .nil) (prom H only sq)
  refine codeAny_mono call fun r s2 res=>?_
  match r,res with
  | .error e,res=>exact (noX H e s2 res).elim
  | .ok (.ret u),res =>
   obtain ⟨v,H2,os,bare,un,ok2,ru,ev⟩:=res
   obtain rfl:v=.bl true:=ev
   obtain rfl:u=Value.bool true:=ru
   refine ⟨rfl,OldK.of_keep fun b o q=>?_,os,bare⟩
   rcases only b with n | ⟨ob,xs,n⟩
   ·exact un.keep b o q n (nobody b) (nobody b)
   ·have e1:=(ok b _ n).1
    have e2:=(ok2 b _ (un.frzs b ob _ n)).1
    rw [q] at e1; cases e1
    exact e2
  | .ok .next,res=>exact (show False from res).elim
  | .ok .brk,res=>exact (show False from res).elim
  | .ok .cont,res=>exact (show False from res).elim
 have rel:=vals_ints iv
 cases look:K.lookup a with
 | some o =>
  have same:=inK a o look
  rw [scr] at same; cases same
  exact go (fun _=>none) (fun _=>.inl rfl) (.inr ⟨_,vs.toArray,_,look,rfl,rfl,rfl,by rw [List.size_toArray,iv.length]; exact few,by simpa using rel⟩) (fun b u z=>nomatch z) (fun b z=>absurd rfl z) (fun z=>absurd rfl z)
 | none =>
  let H0:Hp:=upd (fun _=>none) a (.frz { cls:=.type "list",data:=.seq vs.toArray } (.lst (ns.map V.int)))
  have h0:∀ b,H0 b≠none→b=a:=fun b z=>Classical.byContradiction fun w=>z (upd_ne w)
  refine go H0 (fun b=>?_) (.inl (.inr ⟨_,upd_same⟩)) (fun b u z=>?_) h0 (fun _=>look)
  ·by_cases w:b=a
   ·exact .inr ⟨_,_,by rw [w]; exact upd_same⟩
   ·exact .inl (upd_ne w)
  ·obtain rfl:=h0 b (by rw [z]; simp)
   have z:H0 b=some u:=z
   rw [show H0 b=_ from upd_same] at z
   cases z
   exact ⟨scr,by rw [List.length_map]; exact few,vs,_,rel,scr⟩
theorem RepFs.len {G:Gx}{σ:St}{F:Hp}:∀ {vs:List V} {rs:List Res},RepFs G σ F vs rs→vs.length=rs.length
 | _,_,.nil=>rfl
 | _,_,.cons _ t=>by simp [t.len]
def mCall (n:Nat)(mk:List Bool)(f:Fn)(ma:MA):M:=fun ρ=>bindO (ma ρ) fun rs ρ1=>if rs.length=n then callR mk f rs ρ1 else .stuck
section
variable {X:Cx}{Γ:Gm}{W:WX}{e:Expr}{ma:MA}{pos p:Pos}{es:List Expr}{x:Str}{k:Nat}{f:Addr}{fd:FuncData}{ps:List Str}{n:Nat}{mk:List Bool}{g:Fn}
theorem call_go {ρ:Rho}{σ:St}{F H:Hp}{Q:VK}{rs:List Res}{vs:List V}(R:Rel Γ ρ σ F H)(ha:RepFs Γ.G σ F vs rs)(h:Post Γ W (if rs.length=n then callR mk g rs ρ else .stuck) ρ σ F H Q):spF Γ.G Γ.T n g vs H Q (fun cls d H'=>W cls d σ H'):=by
 split at h
 ·rename_i hn
  exact callR_ok R ha (by rw [ha.len]; exact hn) h
 ·exact h.elim
theorem je_call (tk:Takes X W)(Fo:FnOkG X.prog X.w X.K X.mg X.base k f fd ps (spF Γ.G Γ.T n g))(hr:RG k X.A)(hm:X.mg x=some (.ref f))(hk:PySem.W.keepIn X.K (.ref f)=true)(hb:Binds X.K fd ps [])(ha:PA X (e::es) (tMA Γ W ma))
  (hg:Gl X x:=by rfl) (hdb:(x==("__debug__" : Str))=false:=by decide) (he:starEach (e::es) X.env=(false,eval e X.env)::starEach es X.env:=by rfl) (hpl:(backTo pos (starEach es X.env)).any (·.1)=false:=by rfl) :
  PE X (.Call (.Name x p) (e::es) [] pos) (tM Γ W (mCall n mk g ma)):=by
 refine ⟨fun pins s σ H Q I ⟨ρ,F,R,h⟩=>wpAny_Call_Name_kw (ld_glob I hg hm ?_ hdb)⟩
 refine PySem.W.callWith_K (h₀:=X.base) I.ok.mod.kin hk (thn (ha.run pos pins s σ H (fun vs H1=>spF Γ.G Γ.T n g vs H1 Q fun cls d H'=>W cls d σ H') I ⟨ρ,F,R,h.bindA fun rs ρ1 vs F1 H1 s1 hr1 p1=>call_go s1.rel hr1 p1⟩) fun us s1 ⟨vs,H1,I1,r,q⟩=>⟨I1.kIn,?_⟩) he hpl
 exact run_fnG (dvs:=[]) (E:=fun σ cls d H'=>W cls d σ H') Fo hr hb .nil (passAt tk σ) I1 r (by rw [List.append_nil]; exact q)
end
structure Wlk (G:Gx)(J:It)(F:Hp)(ds:List D):Prop where
 go:∀ i H,Same F H→i<ds.length→J.go i H
 yld:∀ i H x H',Same F H→i<ds.length→J.yld i H x H'→∃ d,ds[i]?=some d∧∀ F1,Same F F1→Same F1 H→∃ F2,Alc F1 H F2 H'∧Dp G F2 x d
 stop:∀ i H,Same F H→ds.length≤i→J.stop i H
abbrev MI:=Rho→Out (List D)
def iM (Γ:Gm)(W:WX)(mi:MI):TI:=fun σ H R=>∃ ρ F,Rel Γ ρ σ F H∧match mi ρ with
 | .ok ds ρ'=>∀ J F' H',Stp Γ ρ σ F H ρ' σ F' H'→Wlk Γ.G J F' ds→R J H'
 | .exc x ρ'=>∀ d F' H',Stp Γ ρ σ F H ρ' σ F' H'→ExcRep Γ.G F' H' x d→W (ecV Γ.G x.c) d σ H'
 | .stuck=>False
theorem Wlk.mono {G:Gx}{J:It}{F F':Hp}{ds:List D}(w:Wlk G J F ds)(e:Same F F'):Wlk G J F' ds :=
 ⟨fun i H s=>w.go i H (e.trans s),fun i H x H' s hi y=>by
  obtain ⟨d,h1,h2⟩:=w.yld i H x H' (e.trans s) hi y
  exact ⟨d,h1,fun F1 s1 s2=>h2 F1 (e.trans s1) s2⟩,fun i H s=>w.stop i H (e.trans s)⟩
theorem wlk_lst {G:Gx}{F:Hp}{a:Addr}{vs:List V}{ds:List D}(h:F a=some (.lst vs))(t:DpL G F vs ds):Wlk G (Itl G.K a) F ds :=
 ⟨fun i H s hi=>⟨vs,vs[i]'(by rw [t.length]; exact hi),SqL.of (s _ _ h),by simp⟩,fun i H x H' s hi ⟨e,y⟩=>by
  have hx:=y vs (SqL.of (s _ _ h))
  obtain ⟨d,h1,h2⟩:=t.getV hx
  subst e
  exact ⟨d,h1,fun F1 s1 s2=>⟨F1,.refl s2,h2.mono s1⟩⟩,fun i H s hi=>⟨vs,SqL.of (s _ _ h),by rw [t.length]; exact hi⟩⟩
theorem wlk_tup {G:Gx}{F:Hp}{a:Addr}{vs:List V}{ds:List D}(h:SqT G.K F a vs)(t:DpL G F vs ds):Wlk G (Itt G.K a) F ds :=
 ⟨fun i H s hi=>⟨vs,vs[i]'(by rw [t.length]; exact hi),sqT_ext h s,by simp⟩,fun i H x H' s hi ⟨e,y⟩=>by
  have hx:=y vs (sqT_ext h s)
  obtain ⟨d,h1,h2⟩:=t.getV hx
  subst e
  exact ⟨d,h1,fun F1 s1 s2=>⟨F1,.refl s2,h2.mono s1⟩⟩,fun i H s hi=>⟨vs,sqT_ext h s,by rw [t.length]; exact hi⟩⟩
def rangeD (lo:Int)(n:Nat):List D:=(List.range n).map fun i=>.int (lo+(i:Nat))
theorem wlk_range {G:Gx}{F:Hp}(lo:Int)(n:Nat):Wlk G (Itr lo n) F (rangeD lo n) :=
 ⟨fun i H s hi=>by simpa [rangeD,Itr] using hi,fun i H x H' s hi ⟨e,y⟩=>by
  subst e y
  have hi:i<n:=by simpa [rangeD] using hi
  exact ⟨.int (lo+(i:Nat)),by simp [rangeD,hi],fun F1 s1 s2=>⟨F1,.refl s2,.int _⟩⟩,fun i H s hi=>by simpa [rangeD,Itr] using hi⟩
def signsD (x:Str):List D:=x.cps.toList.map fun c=>.str ⟨#[c]⟩
theorem wlk_str {G:Gx}{F:Hp}(x:Str):Wlk G (Its x) F (signsD x) :=
 ⟨fun i H s hi=>by simpa [signsD,Its] using hi,fun i H v H' s hi ⟨e,c,y,z⟩=>by
  subst e z
  exact ⟨.str ⟨#[c]⟩,by simp [signsD,y],fun F1 s1 s2=>⟨F1,.refl s2,.str _⟩⟩,fun i H s hi=>by simpa [signsD,Its] using hi⟩
theorem pi_seq {X:Cx}{tg l:Expr}{tl:TE}(hl:PE X l tl):PI X tg l (fun σ H R=>tl σ H fun x H1=>(∃ a,x=.ref a∧(∃ xs,SqL X.K H1 a xs)∧R (Itl X.K a) H1)∨(∃ a,x=.ref a∧(∃ xs,SqT X.K H1 a xs)∧R (Itt X.K a) H1)∨∃ z,x=.str z∧R (Its z) H1):=by
 refine ⟨fun pins s σ H R I h=>?_⟩
 refine thn (hl.run pins s σ H _ I h) fun v s1 ⟨x,H1,I1,r1,q1⟩=>?_
 rcases q1 with ⟨a,e,⟨xs,hq⟩,q⟩ | ⟨a,e,⟨xs,hq⟩,q⟩ | ⟨z,e,q⟩
 ·subst e
  cases r1
  obtain ⟨its,rv,p,hz⟩:=I1.list hq
  refine wpAny_pyIter_list p.isList ?_
  refine ⟨s1.heap.objs.size,[s1.heap.objs.size],_,_,H1,rfl,I1.kept (t':=s1.toks) fun b o e=>Heap.get?_push_of_some _ e,turn_list a _,⟨_,Heap.get?_push_size _ rfl,rfl,rfl⟩,fun b hb=>?_,q⟩
  have e:b=s1.heap.objs.size:=by simpa using hb
  subst e
  exact I1.fpOk (Nat.le_refl _) (I1.hok.fresh (Nat.le_refl _))
 ·subst e
  cases r1
  obtain ⟨its,rv,p,hz⟩:=I1.tuple hq
  refine wpAny_pyIter_tuple (show s1.heap.IsTuple a its.toArray from p) ?_
  refine ⟨s1.heap.objs.size,[s1.heap.objs.size],_,_,H1,rfl,I1.kept (t':=s1.toks) fun b o e=>Heap.get?_push_of_some _ e,turn_tuple a _,⟨_,Heap.get?_push_size _ rfl,rfl,rfl⟩,fun b hb=>?_,q⟩
  have e:b=s1.heap.objs.size:=by simpa using hb
  subst e
  exact I1.fpOk (Nat.le_refl _) (I1.hok.fresh (Nat.le_refl _))
 ·subst e
  obtain ⟨t,rfl⟩:=r1
  cases ha:z.cps.all (· < 128)
  ·exact wpAny_pyIter_wide ha (pi_one (tk:=s1.toks) I1 _ (turn_str _ z t "str_iterator" (.inr rfl)) ⟨_,Heap.get?_push_size _ rfl,rfl,rfl⟩ q)
  ·exact wpAny_pyIter_ascii ha (pi_one (tk:=s1.toks) I1 _ (turn_str _ z t "str_ascii_iterator" (.inl rfl)) ⟨_,Heap.get?_push_size _ rfl,rfl,rfl⟩ q)
theorem _root_.L2.PI.imp {X:Cx}{tg e:Expr}{t t':TI}(h:PI X tg e t)(i:∀ σ H R,t' σ H R→t σ H R):PI X tg e t':=⟨fun pins s σ H R I q=>h.run pins s σ H R I (i _ _ _ q)⟩
def itemsD:D→Option (List D)
 | .lst xs=>some xs
 | .tup xs=>some xs
 | .str z=>some (signsD z)
 | _=>none
def itemsR (r:Res)(ρ:Rho):Out (List D):=match settle r ρ with
 | some (d,ρ1)=>(match itemsD d with | some ds=>.ok ds ρ1 | none=>.stuck)
 | none=>.stuck
def iSeq (m:M):MI:=fun ρ=>bindF (m ρ) fun r ρ1=>itemsR r ρ1
def iRange (ma:MA):MI:=fun ρ=>bindO (ma ρ) fun rs ρ1=>match resolves ρ1 rs with
 | some [.int j]=>if decide (-(2 ^ 62)≤j)&&decide (j<2 ^ 62) then .ok (rangeD 0 j.toNat) ρ1 else .stuck
 | _=>.stuck
def iRange2 (ma:MA):MI:=fun ρ=>bindO (ma ρ) fun rs ρ1=>match resolves ρ1 rs with
 | some [.int i,.int j]=>if (decide (-(2 ^ 62)≤i)&&decide (i<2 ^ 62))&&(decide (-(2 ^ 62)≤j)&&decide (j<2 ^ 62)) then .ok (rangeD i (j-i).toNat) ρ1 else .stuck
 | _=>.stuck
theorem iM_bindF {Γ:Gm}{W:WX}{o:Out Res}{k:Res→Rho→Out (List D)}{ρ:Rho}{σ:St}{F H:Hp}{R:It→Hp→Prop}{Q1:VK}
  (h:match bindF o k with
   | .ok ds ρ'=>∀ J F' H',Stp Γ ρ σ F H ρ' σ F' H'→Wlk Γ.G J F' ds→R J H'
   | .exc x ρ'=>∀ d F' H',Stp Γ ρ σ F H ρ' σ F' H'→ExcRep Γ.G F' H' x d→W (ecV Γ.G x.c) d σ H'
   | .stuck=>False)
  (hk:∀ r ρ1 v F1 H1,Stp Γ ρ σ F H ρ1 σ F1 H1→RepF Γ.G σ F1 v r→(∀ ds ρ',k r ρ1=.ok ds ρ'→∀ J F' H',Stp Γ ρ1 σ F1 H1 ρ' σ F' H'→Wlk Γ.G J F' ds→R J H')→(∃ ds ρ',k r ρ1=.ok ds ρ')→Q1 v H1)
  (hs:∀ r ρ1,(∃ ds ρ',k r ρ1=.ok ds ρ')∨k r ρ1=.stuck):PostF Γ W o ρ σ F H Q1:=by
 cases o with
 | ok r ρ' =>
  intro v F' H' s q
  rcases hs r.frz ρ' with ⟨ds,ρ2,e⟩ | e
  ·have h:∀ J F' H',Stp Γ ρ σ F H ρ2 σ F' H'→Wlk Γ.G J F' ds→R J H':=by
    simp only [bindF,e] at h; exact h
   refine hk r.frz ρ' v F' H' s q (fun ds' ρ3 e' J F2 H2 s2 w=>?_) ⟨ds,ρ2,e⟩
   rw [e] at e'; cases e'
   exact h J F2 H2 (s.trans s2) w
  ·simp only [bindF,e] at h
 | exc x ρ'=>exact h
 | stuck=>exact h
theorem iM_bindA {Γ:Gm}{W:WX}{o:Out (List Res)}{k:List Res→Rho→Out (List D)}{ρ:Rho}{σ:St}{F H:Hp}{R:It→Hp→Prop}{Q1:List V→Hp→Prop}
  (h:match bindO o k with
   | .ok ds ρ'=>∀ J F' H',Stp Γ ρ σ F H ρ' σ F' H'→Wlk Γ.G J F' ds→R J H'
   | .exc x ρ'=>∀ d F' H',Stp Γ ρ σ F H ρ' σ F' H'→ExcRep Γ.G F' H' x d→W (ecV Γ.G x.c) d σ H'
   | .stuck=>False)
  (hk:∀ r ρ1 v F1 H1,Stp Γ ρ σ F H ρ1 σ F1 H1→RepFs Γ.G σ F1 v r→(∀ ds ρ',k r ρ1=.ok ds ρ'→∀ J F' H',Stp Γ ρ1 σ F1 H1 ρ' σ F' H'→Wlk Γ.G J F' ds→R J H')→(∃ ds ρ',k r ρ1=.ok ds ρ')→Q1 v H1)
  (hs:∀ r ρ1,(∃ ds ρ',k r ρ1=.ok ds ρ')∨k r ρ1=.stuck):PostA Γ W o ρ σ F H Q1:=by
 cases o with
 | ok r ρ' =>
  intro v F' H' s q
  rcases hs r ρ' with ⟨ds,ρ2,e⟩ | e
  ·have h:∀ J F' H',Stp Γ ρ σ F H ρ2 σ F' H'→Wlk Γ.G J F' ds→R J H':=by
    simp only [bindO,e] at h; exact h
   refine hk r ρ' v F' H' s q (fun ds' ρ3 e' J F2 H2 s2 w=>?_) ⟨ds,ρ2,e⟩
   rw [e] at e'; cases e'
   exact h J F2 H2 (s.trans s2) w
  ·simp only [bindO,e] at h
 | exc x ρ'=>exact h
 | stuck=>exact h
section
variable {X:Cx}{Γ:Gm}{W:WX}{e tg:Expr}{m:M}{ma:MA}{pos p:Pos}
theorem ji_seq (hK:X.K=Γ.G.K)(he:PE X e (tM Γ W m)):PI X tg e (iM Γ W (iSeq m)):=(pi_seq (je_f he)).imp fun σ H R ⟨ρ,F,Rl,h⟩=>⟨ρ,F,Rl,iM_bindF h (fun r ρ1 v F1 H1 s1 hr hk ⟨ds,ρ2,ek⟩=>by
  have hk:=hk ds ρ2 ek
  unfold itemsR at ek
  split at ek
  ·rename_i d ρ3 es
   split at ek
   ·rename_i ds' ei
    cases ek
    obtain ⟨F2,s2,hd⟩:=settle_ok s1.rel hr es
    cases d with
    | lst xs =>
     simp only [itemsD,Option.some.injEq] at ei; subst ei
     cases hd with | lst ha t=>exact .inl ⟨_,rfl,⟨_,SqL.of (s2.rel.sub _ _ ha)⟩,hk _ F2 H1 s2 (hK▸wlk_lst ha t)⟩
    | tup xs =>
     simp only [itemsD,Option.some.injEq] at ei; subst ei
     cases hd with | tup ha t=>exact .inr (.inl ⟨_,rfl,⟨_,hK▸sqT_ext ha s2.rel.sub⟩,hk _ F2 H1 s2 (hK▸wlk_tup ha t)⟩)
    | str z =>
     simp only [itemsD,Option.some.injEq] at ei; subst ei
     cases hd; exact .inr (.inr ⟨z,rfl,hk _ F2 H1 s2 (wlk_str z)⟩)
    | _=>simp [itemsD] at ei
   ·cases ek
  ·cases ek) (fun r ρ1=>by
  unfold itemsR
  split
  ·split
   ·exact .inl ⟨_,_,rfl⟩
   ·exact .inr rfl
  ·exact .inr rfl)⟩
theorem ji_range {a:Expr}(hm:X.mg "range"=none)(ha:PA X [a] (tMA Γ W ma))(hg:Gl X "range":=by rfl)(hs:starEach [a] X.env=[(false,eval a X.env)]:=by rfl):PI X tg (.Call (.Name "range" p) [a] [] pos) (iM Γ W (iRange ma)) :=
 (pi_range1 hg hm ha hs).imp fun σ H R ⟨ρ,F,Rl,h⟩=>⟨ρ,F,Rl,iM_bindA h (fun rs ρ1 vs F1 H1 s1 hr hk ⟨ds,ρ2,ek⟩=>by
  have hk:=hk ds ρ2 ek
  split at ek
  ·rename_i j er
   split at ek
   ·rename_i w
    cases ek
    have V:=hr.views s1.rel er
    cases V with
    | cons h1 t =>
     cases t
     have w:=Bool.and_eq_true_iff.mp w
     exact ⟨j,by rw [h1.int],of_decide_eq_true w.1,of_decide_eq_true w.2,hk _ F1 H1 (.refl s1.rel) (wlk_range 0 _)⟩
   ·cases ek
  ·cases ek) (fun r ρ1=>by
  split
  ·split
   ·exact .inl ⟨_,_,rfl⟩
   ·exact .inr rfl
  ·exact .inr rfl)⟩
theorem ji_range2 {a b:Expr}(hm:X.mg "range"=none)(ha:PA X [a,b] (tMA Γ W ma))(hg:Gl X "range":=by rfl)(hs:starEach [a,b] X.env=[(false,eval a X.env),(false,eval b X.env)]:=by rfl)(hs2:starEach [b] X.env=[(false,eval b X.env)]:=by rfl):PI X tg (.Call (.Name "range" p) [a,b] [] pos) (iM Γ W (iRange2 ma)) :=
 (pi_range2 hg hm ha hs hs2).imp fun σ H R ⟨ρ,F,Rl,h⟩=>⟨ρ,F,Rl,iM_bindA h (fun rs ρ1 vs F1 H1 s1 hr hk ⟨ds,ρ2,ek⟩=>by
  have hk:=hk ds ρ2 ek
  split at ek
  ·rename_i i j er
   split at ek
   ·rename_i w
    cases ek
    have V:=hr.views s1.rel er
    cases V with
    | cons h1 t =>
     cases t with
     | cons h2 t =>
      cases t
      have w:=Bool.and_eq_true_iff.mp w
      have w1:=Bool.and_eq_true_iff.mp w.1
      have w2:=Bool.and_eq_true_iff.mp w.2
      exact ⟨i,j,by rw [h1.int,h2.int],⟨of_decide_eq_true w1.1,of_decide_eq_true w1.2,of_decide_eq_true w2.1,of_decide_eq_true w2.2⟩,hk _ F1 H1 (.refl s1.rel) (wlk_range i _)⟩
   ·cases ek
  ·cases ek) (fun r ρ1=>by
  split
  ·split
   ·exact .inl ⟨_,_,rfl⟩
   ·exact .inr rfl
  ·exact .inr rfl)⟩
end
def forD (f:Tg)(b:MS):List D→Rho→SOut
 | [],ρ=>.nx ρ
 | d::ds,ρ=>match f d ρ with
  | some ρ1=>(match b ρ1 with
   | .nx ρ2=>forD f b ds ρ2
   | .ct ρ2=>forD f b ds ρ2
   | .bk ρ2=>.nx ρ2
   | o=>o)
  | none=>.stuck
def mFor (mi:MI)(f:Tg)(b:MS):MS:=fun ρ=>bindSO (mi ρ) fun ds ρ1=>forD f b ds ρ1
section
variable {X:Cx}{Γ:Gm}{W:WX}{iter tg:Expr}{mi:MI}{g:TG}{f:Tg}{b:MS}{body:List Stmt}{pos:Pos}
theorem for_ok {D:Ends}{J:It}{ds:List PyD.D}{ρ:Rho}{σ:St}{F H:Hp}(hf:TgOk Γ g f)(R:Rel Γ ρ σ F H)(w:Wlk Γ.G J F ds)(h:PostS Γ W (forD f b ds ρ) ρ σ F H D) :
  ∃ V:Nat→Nat→St→Hp→Prop,(∃ m,V 0 m σ H)∧∀ i m σ H,V i m σ H →
   (J.stop i H∧D.nx σ H)∨(J.go i H∧∃ N:St→Hp→Prop,(∀ σ' H',N σ' H'→∃ m',m'<m∧V (i+1) m' σ' H')∧∀ x H',J.yld i H x H'→g x σ H' fun σ2 H2=>tMS Γ W b { D with nx:=N,ct:=N,bk:=D.nx } σ2 H2):=by
 refine ⟨fun i m σ' H'=>m=ds.length-i∧i≤ds.length∧∃ ρ' F',Rel Γ ρ' σ' F' H'∧Same F F'∧PostS Γ W (forD f b (ds.drop i) ρ') ρ' σ' F' H' D,⟨ds.length,by simp,Nat.zero_le _,ρ,F,R,Same.refl _,by simpa using h⟩,?_⟩
 rintro i m σ' H' ⟨rfl,hi,ρ',F',R',sF,p⟩
 have wF:=w.mono sF
 by_cases hlt:i<ds.length
 ·refine .inr ⟨wF.go i H' R'.sub hlt,fun σ2 H2=>∃ ρ2 F2,Rel Γ ρ2 σ2 F2 H2∧Same F F2∧PostS Γ W (forD f b (ds.drop (i+1)) ρ2) ρ2 σ2 F2 H2 D,fun σ2 H2 ⟨ρ2,F2,R2,s2,p2⟩=>⟨ds.length-(i+1),by omega,rfl,hlt,ρ2,F2,R2,s2,p2⟩,fun x H2 y=>?_⟩
  obtain ⟨d,hd,hy⟩:=wF.yld i H' x H2 R'.sub hlt y
  obtain ⟨F2,al,dp⟩:=hy F' (Same.refl _) R'.sub
  have e:ds.drop i=d::ds.drop (i+1):=by
   rw [List.getElem?_eq_getElem hlt] at hd
   rw [← Option.some.inj hd]
   exact List.drop_eq_getElem_cons hlt
  rw [e] at p
  simp only [forD] at p
  cases ef:f d ρ' with
  | none=>rw [ef] at p; exact p.elim
  | some ρ1 =>
   rw [ef] at p
   simp only at p
   have s0:=al.stp R'
   refine hf x d ρ' ρ1 σ' F2 H2 _ s0.rel dp ef fun σ2 s1=>⟨ρ1,F2,s1.rel,?_⟩
   have st:=s0.trans s1
   cases eb:b ρ1 with
   | nx ρ2=>rw [eb] at p; exact fun σ3 F3 H3 s3=>⟨ρ2,F3,s3.rel,sF.trans (st.trans s3).subF,p.shift (st.trans s3)⟩
   | ct ρ2=>rw [eb] at p; exact fun σ3 F3 H3 s3=>⟨ρ2,F3,s3.rel,sF.trans (st.trans s3).subF,p.shift (st.trans s3)⟩
   | bk ρ2=>rw [eb] at p; exact fun σ3 F3 H3 s3=>p σ3 F3 H3 (st.trans s3)
   | ret r ρ2=>rw [eb] at p; exact p.shift st
   | exc x ρ2=>rw [eb] at p; exact p.shift st
   | stuck=>rw [eb] at p; exact p.elim
 ·have e:i=ds.length:=by omega
  subst e
  rw [List.drop_length] at p
  exact .inl ⟨wF.stop _ H' R'.sub (Nat.le_refl _),p σ' F' H' (.refl R')⟩
theorem js_for (hp:PassesOwn (model X.prog X.w) X.A X.env X.xe)(hc:X.calm=true)(hi:PI X tg iter (iM Γ W mi))(hg:PG X tg g)(hf:TgOk Γ g f)(hb:PSs X body (tMS Γ W b))(hs:∀ x,foldedSetIterable iter X.env x=pure x:=by intro _; rfl) :
  PS X (.For tg iter body [] pos) (tMS Γ W (mFor mi f b)):=(ps_for hp hc hi hg hb hs).imp fun D σ H ⟨ρ,F,R,p⟩=>by
 refine ⟨ρ,F,R,?_⟩
 unfold mFor at p
 cases e:mi ρ with
 | ok ds ρ1=>rw [e] at p; exact fun J F' H' s w=>for_ok hf s.rel w (p.shift s)
 | exc x ρ1=>rw [e] at p; exact fun d F' H' s q=>p d σ F' H' s q
 | stuck=>rw [e] at p; exact p.elim
end
def wipeR (ρ:Rho):List Nat→Rho
 | []=>ρ
 | v::vs=>(wipeR ρ vs).set v none
theorem wipeR_len (ρ:Rho):∀ vs:List Nat,(wipeR ρ vs).length=ρ.length
 | []=>rfl
 | v::vs=>by unfold wipeR; rw [List.length_set,wipeR_len ρ vs]
theorem wipeR_get {ρ:Rho}{i:Nat}{s:Slot}:∀ {vs:List Nat},(wipeR ρ vs)[i]?=some (some s)→ρ[i]?=some (some s)∧i∉vs
 | [],h=>⟨h,by simp⟩
 | v::vs,h=>by
  unfold wipeR at h
  rcases get_set h with ⟨e,e2,_⟩ | ⟨e,h⟩
  ·cases e2
  ·obtain ⟨h1,h2⟩:=wipeR_get h
   exact ⟨h1,by simp only [List.mem_cons,not_or]; exact ⟨fun z=>e z.symm,h2⟩⟩
theorem Rel.wipe {Γ:Gm}{ρ:Rho}{σ σ':St}{F H:Hp}{vs:List Nat}(R:Rel Γ ρ σ F H)(h:∀ i,i∉vs→σ'[i]?=σ[i]?)(hl:σ'.length=σ.length):Rel Γ (wipeR ρ vs) σ' F H∧(∀ a,Own Γ (wipeR ρ vs) σ' F H a→Own Γ ρ σ F H a):=by
 have bk:∀ j a,OwnAt Γ (wipeR ρ vs) σ' F H j a→OwnAt Γ ρ σ F H j a:=fun j a o=>by
  have hj:j∉vs:=by
   obtain ⟨s,v,L,q,_⟩:=o
   exact (wipeR_get q).2
  exact own_back R (Same.refl _) j (fun s q=>(wipeR_get q).1) (h j hj) (fun _ _ _ q=>q) o
 refine ⟨⟨R.sub,fun i s q=>?_,fun i j a h1 h2=>R.inj i j a (bk i a h1) (bk j a h2),fun j a o=>R.own j a (bk j a o),by rw [wipeR_len,hl]; exact R.len,R.inv,R.ali,R.tab⟩,fun a ⟨j,q⟩=>⟨j,bk j a q⟩⟩
 obtain ⟨h3,h4⟩:=wipeR_get q
 exact slot_keep R (Same.refl _) i h3 (h i h4) fun _ _ _ q=>q
theorem Stp.wipe {Γ:Gm}{ρ₀ ρ:Rho}{σ₀ σ σ':St}{F₀ H₀ F H:Hp}{vs:List Nat}(s:Stp Γ ρ₀ σ₀ F₀ H₀ ρ σ F H)(h:∀ i,i∉vs→σ'[i]?=σ[i]?)(hl:σ'.length=σ.length):Stp Γ ρ₀ σ₀ F₀ H₀ (wipeR ρ vs) σ' F H :=
 ⟨(s.rel.wipe h hl).1,s.subF,s.keep,s.there⟩
def Gm.also (Γ:Gm)(a:Addr):Gm:={ Γ with U:=fun b=>Γ.U b∨b=a }
theorem slotOk_also {Γ:Gm}{F H:Hp}{v:V}{L:List Addr}{s:Slot}{a:Addr}:SlotOk (Γ.also a) F H v L s↔SlotOk Γ F H v L s:=by cases s <;> exact Iff.rfl
theorem ownAt_also {Γ:Gm}{ρ:Rho}{σ:St}{F H:Hp}{i:Nat}{a c:Addr}:OwnAt (Γ.also a) ρ σ F H i c↔OwnAt Γ ρ σ F H i c :=
 ⟨fun ⟨s,v,L,h1,h2,h3,h4⟩=>⟨s,v,L,h1,h2,slotOk_also.mp h3,h4⟩,fun ⟨s,v,L,h1,h2,h3,h4⟩=>⟨s,v,L,h1,h2,slotOk_also.mpr h3,h4⟩⟩
theorem tab_also {T:List NdefX.NTab}{U:Addr→Prop}{F H:Hp}{a:Addr}{o:HO}(t:TabU T U F H)(hH:H a=some o)(ok:okU o):TabU T (fun b=>U b∨b=a) F H:=⟨t.on,fun p hp h=>by
 rcases h with h | h
 ·exact t.off p hp h
 ·obtain ⟨ps,e,_⟩:=t.on p hp
  rw [h,hH] at e; cases e; exact ok.1 ps rfl,t.fr⟩
theorem Rel.also {Γ:Gm}{ρ:Rho}{σ:St}{F H:Hp}{a:Addr}{o:HO}(R:Rel Γ ρ σ F H)(hF:F a=none)(hH:H a=some o)(no:¬ Own Γ ρ σ F H a)(ok:okU o):Rel (Γ.also a) ρ σ F H :=
 ⟨R.sub,fun i s q=>by obtain ⟨v,L,h1,h2⟩:=R.slot i s q; exact ⟨v,L,h1,slotOk_also.mpr h2⟩,fun i j c h1 h2=>R.inj i j c (ownAt_also.mp h1) (ownAt_also.mp h2),fun i c h=>⟨(R.own i c (ownAt_also.mp h)).1,fun z=>by
  rcases z with z | z
  ·exact (R.own i c (ownAt_also.mp h)).2 z
  ·exact no (z▸⟨i,ownAt_also.mp h⟩)⟩,R.len,R.inv,fun c h=>by
  rcases h with h | h
  ·exact R.ali c h
  ·subst h; exact ⟨hF,o,hH⟩,tab_also R.tab hH ok⟩
theorem Rel.unalso {Γ:Gm}{ρ:Rho}{σ:St}{F H:Hp}{a:Addr}(R:Rel (Γ.also a) ρ σ F H):Rel Γ ρ σ F H∧¬ Own Γ ρ σ F H a :=
 ⟨⟨R.sub,fun i s q=>by obtain ⟨v,L,h1,h2⟩:=R.slot i s q; exact ⟨v,L,h1,slotOk_also.mp h2⟩,fun i j c h1 h2=>R.inj i j c (ownAt_also.mpr h1) (ownAt_also.mpr h2),fun i c h=>⟨(R.own i c (ownAt_also.mpr h)).1,fun z=>(R.own i c (ownAt_also.mpr h)).2 (.inl z)⟩,R.len,R.inv,fun c h=>R.ali c (.inl h),R.tab.on,fun p hp h=>R.tab.off p hp (.inl h),R.tab.fr⟩,fun ⟨i,h⟩=>(R.own i a (ownAt_also.mpr h)).2 (.inr rfl)⟩
theorem Stp.unalso {Γ:Gm}{ρ ρ':Rho}{σ σ':St}{F H F' H':Hp}{a:Addr}(s:Stp (Γ.also a) ρ σ F H ρ' σ' F' H'):Stp Γ ρ σ F H ρ' σ' F' H'∧H' a=H a∧F' a=none∧¬ Own Γ ρ' σ' F' H' a :=
 ⟨⟨s.rel.unalso.1,s.subF,fun c h=>s.keep c (.inl h),s.there⟩,s.keep a (.inr rfl),(s.rel.ali a (.inr rfl)).1,s.rel.unalso.2⟩
theorem Stp.out {Γ:Gm}{ρ₀ ρ:Rho}{σ₀ σ:St}{F₀ H₀ F H:Hp}{a:Addr}{o:HO}(s:Stp Γ ρ₀ σ₀ F₀ H₀ ρ σ F H)(h0:H₀ a=none)(hu:¬ Γ.U a)(hF:F a=none)(no:¬ Own Γ ρ σ F H a)(hk:∀ u,H a=some u→okU u):Stp Γ ρ₀ σ₀ F₀ H₀ ρ σ F (upd H a o)∧¬ Own Γ ρ σ F (upd H a o) a:=by
 have kp:∀ j b,OwnAt Γ ρ σ F H j b→∀ u,H b=some u→upd H a o b=some u:=fun j b ob u q=>by rw [upd_ne (fun z:b=a=>no (z▸⟨j,ob⟩))]; exact q
 have bk:∀ j c,OwnAt Γ ρ σ F (upd H a o) j c→OwnAt Γ ρ σ F H j c:=fun j c q=>own_back s.rel (Same.refl _) j (fun _ q=>q) rfl (kp j) q
 refine ⟨⟨⟨fun b u q=>by rw [upd_ne (ne_of_none q hF)]; exact s.rel.sub b u q,fun i sl q=>slot_keep s.rel (Same.refl _) i q rfl (kp i),fun i j c h1 h2=>s.rel.inj i j c (bk i c h1) (bk j c h2),fun i c h=>s.rel.own i c (bk i c h),s.rel.len,s.rel.inv,fun c h=>?_,tab_upd s.rel.tab.on hk,s.rel.tab.off,s.rel.tab.fr⟩,s.subF,fun c h=>?_,fun b u q=>?_⟩,fun ⟨j,q⟩=>no ⟨j,bk j a q⟩⟩
 ·obtain ⟨h1,u,h2⟩:=s.rel.ali c h
  exact ⟨h1,u,by rw [upd_ne (fun z:c=a=>hu (z▸h))]; exact h2⟩
 ·rw [upd_ne (fun z:c=a=>hu (z▸h))]; exact s.keep c h
 ·rw [upd_ne (ne_of_none q h0)]; exact s.there b u q
def TgV (Γ:Gm)(g:TG)(f:Tg)(vs:List Nat):Prop:=∀ v d ρ ρ' σ F H Q,Rel Γ ρ σ F H→Dp Γ.G F v d→f d ρ=some ρ'→(∀ σ',Stp Γ ρ σ F H ρ' σ' F H→(∀ i,i∉vs→σ'[i]?=σ[i]?)→σ'.length=σ.length→Q σ' H)→g v σ H Q
theorem tv_name {Γ:Gm}{i:Nat}{vs:List Nat}(hi:i∈vs):TgV Γ (gName i) (gN i) vs:=by
 intro v d ρ ρ' σ F H Q R h e k
 unfold gN at e
 split at e
 ·rename_i hl
  cases e
  exact k _ ((Stp.refl R).setV hl h) (fun j hj=>by rw [List.getElem?_set_ne (fun z:i=j=>hj (z▸hi))]) (by simp)
 ·cases e
def lcD (vs:List Nat)(f:Tg)(t:MB)(me:M):List D→List D→Rho→Out (List D)
 | [],acc,ρ=>.ok acc ρ
 | d::ds,acc,ρ=>match f d ρ with
  | some ρ1=>(match t ρ1 with
   | .ok true ρ2=>(match me ρ2 with
    | .ok r ρ3=>(match settle r.frz ρ3 with
     | some (y,ρ4)=>if acc.length<sizeLine then lcD vs f t me ds (acc++[y]) (wipeR ρ4 vs) else .stuck
     | none=>.stuck)
    | _=>.stuck)
   | .ok false ρ2=>lcD vs f t me ds acc (wipeR ρ2 vs)
   | _=>.stuck)
  | none=>.stuck
def mLc (vs:List Nat)(mi:MI)(f:Tg)(t:MB)(me:M):M:=fun ρ=>bindO (mi ρ) fun ds ρ1=>match lcD vs f t me ds [] (wipeR ρ1 vs) with
 | .ok acc ρ2=>.ok (.new (.lst acc)) ρ2
 | _=>.stuck
abbrev W0:WX:=fun _ _ _ _=>False
theorem wipe_idem {σ σ2:St}{vs:List Nat}(h:∀ i,i∉vs→σ2[i]?=(wipe σ vs)[i]?)(hl:σ2.length=(wipe σ vs).length):wipe σ2 vs=wipe σ vs:=by
 have key:∀ (τ:St) (ws:List Nat) (i:Nat),i∈ws→i<τ.length→(wipe τ ws)[i]?=some none:=fun τ ws=>by
  induction ws with
  | nil=>intro i h; cases h
  | cons w ws ih =>
   intro i h hi
   unfold wipe
   by_cases e:w=i
   ·subst e; rw [List.getElem?_set_self (by rw [wipe_length]; exact hi)]
   ·rw [List.getElem?_set_ne e]
    rcases List.mem_cons.mp h with z | z
    ·exact absurd z.symm e
    ·exact ih i z hi
 rw [wipe_length] at hl
 refine List.ext_getElem? fun i=>?_
 by_cases hi:i∈vs
 ·rcases Nat.lt_or_ge i σ.length with hl' | hl'
  ·rw [key σ2 vs i hi (by omega),key σ vs i hi hl']
  ·rw [List.getElem?_eq_none (by rw [wipe_length]; omega),List.getElem?_eq_none (by rw [wipe_length]; omega)]
 ·rw [wipe_out hi,h i hi]
theorem wipeR_idem (r:Rho)(vs:List Nat):wipeR (wipeR r vs) vs=wipeR r vs:=by
 refine List.ext_getElem? fun i=>?_
 have key:∀ (τ:Rho) (ws:List Nat) (i:Nat),i∈ws→i<τ.length→(wipeR τ ws)[i]?=some none:=fun τ ws=>by
  induction ws with
  | nil=>intro i h; cases h
  | cons w ws ih =>
   intro i h hi
   unfold wipeR
   by_cases e:w=i
   ·subst e; rw [List.getElem?_set_self (by rw [wipeR_len]; exact hi)]
   ·rw [List.getElem?_set_ne e]
    rcases List.mem_cons.mp h with z | z
    ·exact absurd z.symm e
    ·exact ih i z hi
 have out:∀ (τ:Rho) (ws:List Nat) (i:Nat),i∉ws→(wipeR τ ws)[i]?=τ[i]?:=fun τ ws=>by
  induction ws with
  | nil=>intro i h; rfl
  | cons w ws ih =>
   intro i h
   unfold wipeR
   rw [List.getElem?_set_ne (fun z:w=i=>h (z▸List.mem_cons_self ..))]
   exact ih i fun z=>h (List.mem_cons_of_mem _ z)
 by_cases hi:i∈vs
 ·rcases Nat.lt_or_ge i r.length with hl' | hl'
  ·rw [key _ vs i hi (by rw [wipeR_len]; exact hl'),key r vs i hi hl']
  ·rw [List.getElem?_eq_none (by rw [wipeR_len,wipeR_len]; omega),List.getElem?_eq_none (by rw [wipeR_len]; omega)]
 ·rw [out _ vs i hi]
theorem lc_ok {Γ:Gm}{g:TG}{f:Tg}{t:MB}{me:M}{vs:List Nat}{J:It}{ds acc:List D}{ρ ρ2:Rho}{σ:St}{F H:Hp}{Qd:Addr→Hp→Prop}(hf:∀ D,TgV (Γ.also D) g f vs)(R:Rel Γ ρ σ F H)(w:Wlk Γ.G J F ds)(e:lcD vs f t me ds [] (wipeR ρ vs)=.ok acc ρ2)
  (k:∀ D F' H',Stp Γ ρ σ F H ρ2 σ F' H'→Cell Γ.G F' H' D (.lst acc)→Fresh Γ ρ2 σ F' H' [D]→Qd D H') :
  ∀ D,H D=none→∃ V:Nat→Nat→Hp→Prop,(∃ m,V 0 m (upd H D (.lst [])))∧∀ i m H,V i m H →
   (J.stop i H∧Qd D H)∨(J.go i H∧∃ Nx:Hp→Prop,(∀ H',Nx H'→∃ m',m'<m∧V (i+1) m' H')∧∀ x H',J.yld i H x H'→g x (wipe σ vs) H' fun σ2 H2=>wipe σ2 vs=wipe σ vs∧(∃ D',tMB (Γ.also D') W0 t σ2 H2 fun b H3 =>
    if b=true then (∃ D',tF (Γ.also D') W0 me σ2 H3 fun y H4=>∃ acc,H4 D=some (.lst acc)∧acc.length<sizeLine∧Nx (upd H4 D (.lst (acc++[y])))) else Nx H3)):=by
 intro D hD
 have wl:(wipe σ vs).length=σ.length:=wipe_length σ vs
 have s0:Stp Γ ρ σ F H (wipeR ρ vs) (wipe σ vs) F H:=(Stp.refl R).wipe (fun i hi=>wipe_out hi) wl
 have uD:¬ Γ.U D:=fun z=>by
  obtain ⟨_,u,hu⟩:=R.ali D z; rw [hD] at hu; cases hu
 have nD0:¬ Own Γ (wipeR ρ vs) (wipe σ vs) F H D:=fun ⟨j,z⟩=>by
  obtain ⟨u,hu⟩:=Rel.ownH z; rw [hD] at hu; cases hu
 let St':Nat→Hp→Prop:=fun i H'=>∃ ρ' F' ac av,Stp Γ ρ σ F H ρ' (wipe σ vs) F' H'∧wipeR ρ' vs=ρ'∧H' D=some (.lst av)∧F' D=none∧¬ Own Γ ρ' (wipe σ vs) F' H' D∧DpL Γ.G F' av ac∧lcD vs f t me (ds.drop i) ac ρ'=.ok acc ρ2
 obtain ⟨s0',nD0'⟩:=s0.out (o:=.lst []) hD uD (Same.free R.sub hD) nD0 (okN hD)
 refine ⟨fun i m H'=>m=ds.length-i∧i≤ds.length∧St' i H',⟨ds.length,by simp,Nat.zero_le _,wipeR ρ vs,F,[],[],s0',wipeR_idem ρ vs,upd_same,Same.free R.sub hD,nD0',.nil,by simpa using e⟩,?_⟩
 rintro i m H1 ⟨rfl,hi,ρ1,F1,ac,av,s1,wρ,hD1,fD1,nD1,dp,e1⟩
 have wF:=w.mono s1.subF
 by_cases hlt:i<ds.length
 ·refine .inr ⟨wF.go i H1 s1.rel.sub hlt,St' (i+1),fun H2 q=>⟨ds.length-(i+1),by omega,rfl,hlt,q⟩,fun x H2 y=>?_⟩
  obtain ⟨d,hd,hy⟩:=wF.yld i H1 x H2 s1.rel.sub hlt y
  obtain ⟨F2,al,dpx⟩:=hy F1 (Same.refl _) s1.rel.sub
  have ed:ds.drop i=d::ds.drop (i+1):=by
   rw [List.getElem?_eq_getElem hlt] at hd
   rw [← Option.some.inj hd]
   exact List.drop_eq_getElem_cons hlt
  rw [ed] at e1
  simp only [lcD] at e1
  cases ef:f d ρ1 with
  | none=>rw [ef] at e1; cases e1
  | some ρ3 =>
   rw [ef] at e1
   simp only at e1
   have R1:Rel (Γ.also D) ρ1 (wipe σ vs) F1 H1:=s1.rel.also fD1 hD1 nD1 okU_lst
   have s2:=al.stp R1
   refine hf D x d ρ1 ρ3 (wipe σ vs) F2 H2 _ s2.rel dpx ef fun σ3 s3 w3 l3=>⟨wipe_idem w3 l3,D,ρ3,F2,s3.rel,?_⟩
   have s13:=s2.trans s3
   cases et:t ρ3 with
   | ok b ρ4 =>
    rw [et] at e1
    intro F4 H4 s4
    have s14:=s13.trans s4
    cases b with
    | true =>
     simp only at e1
     simp only [if_true]
     refine ⟨D,ρ4,F4,s4.rel,?_⟩
     cases em:me ρ4 with
     | ok r ρ5 =>
      rw [em] at e1
      simp only at e1
      cases es:settle r.frz ρ5 with
      | none=>rw [es] at e1; cases e1
      | some p =>
       obtain ⟨yd,ρ6⟩:=p
       rw [es] at e1
       simp only at e1
       split at e1
       ·rename_i hz
        intro v F5 H5 s5 hv
        obtain ⟨F6,s6,hd6⟩:=settle_ok s5.rel hv es
        have s16:=(s14.trans s5).trans s6
        obtain ⟨u1,u2,u3,u4⟩:=s16.unalso
        refine ⟨av,by rw [u2]; exact hD1,by rw [dp.length]; exact hz,?_⟩
        have sw:=(s1.trans u1).wipe (vs:=vs) (σ':=wipe σ vs) (fun j hj=>(w3 j hj).symm) l3.symm
        have nO:¬ Own Γ (wipeR ρ6 vs) (wipe σ vs) F6 H5 D:=fun z=>u4 ((u1.rel.wipe (vs:=vs) (σ':=wipe σ vs) (fun j hj=>(w3 j hj).symm) l3.symm).2 D z)
        obtain ⟨so,no⟩:=sw.out (o:=.lst (av++[v])) hD uD u3 nO (okS (by rw [u2]; exact hD1) okU_lst)
        exact ⟨wipeR ρ6 vs,F6,ac++[yd],av++[v],so,wipeR_idem ρ6 vs,upd_same,u3,no,(dp.mono s16.subF).append (.cons hd6 .nil),e1⟩
       ·cases e1
     | exc x ρ5=>rw [em] at e1; cases e1
     | stuck=>rw [em] at e1; cases e1
    | false =>
     simp only at e1
     simp only [Bool.false_eq_true,if_false]
     obtain ⟨u1,u2,u3,u4⟩:=s14.unalso
     have sw:=(s1.trans u1).wipe (vs:=vs) (σ':=wipe σ vs) (fun j hj=>(w3 j hj).symm) l3.symm
     exact ⟨wipeR ρ4 vs,F4,ac,av,sw,wipeR_idem ρ4 vs,by rw [u2]; exact hD1,u3,fun z=>u4 ((u1.rel.wipe (vs:=vs) (σ':=wipe σ vs) (fun j hj=>(w3 j hj).symm) l3.symm).2 D z),dp.mono s14.subF,e1⟩
   | exc x ρ4=>rw [et] at e1; cases e1
   | stuck=>rw [et] at e1; cases e1
 ·have ei:i=ds.length:=by omega
  subst ei
  rw [List.drop_length] at e1
  simp only [lcD,Out.ok.injEq] at e1
  obtain ⟨rfl,rfl⟩:=e1
  have sw:Stp Γ ρ σ F H ρ1 σ F1 H1:=by
   have q:=s1.wipe (vs:=vs) (σ':=σ) (fun j hj=>(wipe_out hj).symm) wl.symm
   rwa [wρ] at q
  refine .inl ⟨wF.stop _ H1 s1.rel.sub (Nat.le_refl _),k D F1 H1 sw ⟨av,hD1,dp⟩ fun b hb=>?_⟩
  obtain rfl:b=D:=by simpa using hb
  refine ⟨fD1,uD,fun z=>?_⟩
  have q:=(s1.rel.wipe (vs:=vs) (σ':=σ) (fun j hj=>(wipe_out hj).symm) wl.symm).2 b
  rw [wρ] at q
  exact nD1 (q z)
def tAB (Γ:Gm)(t:MB):TT:=fun σ H Q=>∃ D,tMB (Γ.also D) W0 t σ H Q
def tAF (Γ:Gm)(m:M):TE:=fun σ H Q=>∃ D,tF (Γ.also D) W0 m σ H Q
section
variable {X:Cx}{Γ:Gm}{W:WX}{elt tg iter:Expr}{ifs:List Expr}{scope:Scope}{own:List (Str×Nat)}{pos spos:Pos}{mi:MI}{g:TG}{f:Tg}{t:MB}{me:M}
theorem mLc_ok (hf:∀ D,TgV (Γ.also D) g f (own.map (·.2))):∀ σ H Q,tM Γ W (mLc (own.map (·.2)) mi f t me) σ H Q→tLc (iM Γ W mi) g (tAB Γ t) (tAF Γ me) (own.map (·.2)) σ H Q:=fun σ H Q ⟨ρ,F,R,p⟩=>by
 refine ⟨ρ,F,R,?_⟩
 unfold mLc at p
 cases e:mi ρ with
 | ok ds ρ1 =>
  rw [e] at p
  simp only [bindO] at p
  intro J F1 H1 s1 w
  split at p
  ·rename_i acc ρ2 el
   exact lc_ok (Qd:=fun D H'=>Q (.ref D) H') hf s1.rel w el fun D F' H' s2 c fr=>p _ F' H' (s1.trans s2) ⟨D,[D],rfl,.flat c,fr⟩
  ·exact p.elim
 | exc x ρ1=>rw [e] at p; exact p
 | stuck=>rw [e] at p; exact p.elim
def mYes:MB:=fun ρ=>.ok true ρ
theorem _root_.L2.PTs.imp {X:Cx}{e:List Expr}{t t':TT}(h:PTs X e t)(i:∀ σ H Q,t' σ H Q→t σ H Q):PTs X e t':=⟨fun pins s σ H Q I q=>h.run pins s σ H Q I (i _ _ _ q)⟩
theorem jts_nil {X:Cx}{Γ:Gm}:PTs X [] (tMB Γ W0 mYes):=pts_nil.imp fun σ H Q ⟨ρ,F,R,p⟩=>p F H (.refl R)
theorem jts_one {X:Cx}{Γ:Gm}{c:Expr}{t:MB}(h:PT X c (tMB Γ W0 t)):PTs X [c] (tMB Γ W0 t):=pts_one h
theorem pts_any {X:Cx}{Γ:Gm}{ifs:List Expr}{t:MB}(h:∀ D,PTs X ifs (tMB (Γ.also D) W0 t)):PTs X ifs (tAB Γ t):=⟨fun pins s σ H Q I ⟨D,q⟩=>(h D).run pins s σ H Q I q⟩
theorem pe_any {X:Cx}{Γ:Gm}{e:Expr}{m:M}(h:∀ D,PE X e (tM (Γ.also D) W0 m)):PE X e (tAF Γ m):=⟨fun pins s σ H Q I ⟨D,q⟩=>(je_f (h D)).run pins s σ H Q I q⟩
theorem je_lc (hc:X.calm=true)(hN:X.N.Nodup)(hi:PI X tg iter (iM Γ W mi))(ok:BlkOk X.N X.env.scope scope own)(hf:∀ D,TgV (Γ.also D) g f (own.map (·.2)))
  (hg:∀ (s:Shared) (H:Hp) (C:Addr) (cl:List (Str×Addr)) (fp:List Addr),PG (X.blk s H scope (compEnvC scope cl C X.env) fp) tg g) (ht:∀ (D:Addr) (s:Shared) (H:Hp) (C:Addr) (cl:List (Str×Addr)) (fp:List Addr),PTs (X.blk s H scope (compEnvC scope cl C X.env) fp) ifs (tMB (Γ.also D) W0 t))
  (he:∀ (D:Addr) (s:Shared) (H:Hp) (C:Addr) (cl:List (Str×Addr)) (fp:List Addr),PE (X.blk s H scope (compEnvC scope cl C X.env) fp) elt (tM (Γ.also D) W0 me)) (hs:∀ x,foldedSetIterable iter X.env x=pure x:=by intro _; rfl) :
  PE X (.ListComp elt [⟨tg,iter,ifs,0⟩] scope pos) (tM Γ W (mLc (own.map (·.2)) mi f t me)) :=
 (pe_lc hc hN hi ok hg (fun s H C cl fp=>pts_any fun D=>ht D s H C cl fp) (fun s H C cl fp=>pe_any fun D=>he D s H C cl fp) hs).imp (mLc_ok hf)
theorem js_setLc {i:Nat}{y:Str}{py:Pos}(hc:X.calm=true)(hN:X.N.Nodup)(hyl:X.env.scope.names.lookup y=some .local)
  (hsw:swapsWith (.ListComp elt [⟨tg,iter,ifs,0⟩] scope pos) (some (.Name y py)) spos.line X.env=pure true) (hi:PI X tg iter (iM Γ W mi)) (ok:BlkOk X.N X.env.scope scope own) (hf:∀ D,TgV (Γ.also D) g f (own.map (·.2)))
  (hg:∀ (s:Shared) (H:Hp) (C:Addr) (cl:List (Str×Addr)) (fp:List Addr),PG (X.blk s H scope (compEnvC scope cl C X.env) fp) tg g) (ht:∀ (D:Addr) (s:Shared) (H:Hp) (C:Addr) (cl:List (Str×Addr)) (fp:List Addr),PTs (X.blk s H scope (compEnvC scope cl C X.env) fp) ifs (tMB (Γ.also D) W0 t))
  (he:∀ (D:Addr) (s:Shared) (H:Hp) (C:Addr) (cl:List (Str×Addr)) (fp:List Addr),PE (X.blk s H scope (compEnvC scope cl C X.env) fp) elt (tM (Γ.also D) W0 me)) (hy:X.N[i]?=some y:=by rfl) (hs:∀ x,foldedSetIterable iter X.env x=pure x:=by intro _; rfl) :
  PS X (.Assign [.Name y py] (.ListComp elt [⟨tg,iter,ifs,0⟩] scope pos) spos) (tMS Γ W (mSet i (mLc (own.map (·.2)) mi f t me))) :=
 (ps_setLc hc hN hy hyl hsw hi ok hg (fun s H C cl fp=>pts_any fun D=>ht D s H C cl fp) (fun s H C cl fp=>pe_any fun D=>he D s H C cl fp) hs).imp fun D σ H ⟨ρ,F,R,p⟩=>mLc_ok hf σ H _ ⟨ρ,F,R,p.bindM fun r ρ1 v F1 H1 s1 hr p1=>set_go s1 hr p1⟩
end
def OrC (r r':List V→Hp→VK→Prop):List V→Hp→VK→Prop:=fun xs H Q=>r xs H Q∨r' xs H Q
def orC (f g:List D→Option Res):List D→Option Res:=fun a=>match f a with
 | some r=>some r
 | none=>g a
theorem CallOk.or {G:Gx}{r r':List V→Hp→VK→Prop}{f g:List D→Option Res}(h:CallOk G r f)(h':CallOk G r' g):CallOk G (OrC r r') (orC f g):=fun F H xs ds res Q e v q k=>by
 unfold orC at q
 split at q
 ·rename_i z w
  cases q
  exact .inl (h F H xs ds _ Q e v w k)
 ·exact .inr (h' F H xs ds res Q e v q k)
theorem Views.one {G:Gx}{F H:Hp}{xs:List V}{d:D}(v:Views G F H xs [d]):∃ x,xs=[x]∧View G F H x d:=by
 cases v with | cons h t=>cases t; exact ⟨_,rfl,h⟩
theorem Views.two {G:Gx}{F H:Hp}{xs:List V}{d e:D}(v:Views G F H xs [d,e]):∃ x y,xs=[x,y]∧View G F H x d∧View G F H y e:=by
 cases v with | cons h t=>cases t with | cons h2 t=>cases t; exact ⟨_,_,rfl,h,h2⟩
def lenN:D→Option Nat
 | .str z=>if z.length≤sizeLine then some z.length else none
 | .lst xs=>some xs.length
 | .tup xs=>some xs.length
 | .scr xs=>some xs.length
 | .dct xs=>some xs.length
 | _=>none
def lenD:List D→Option Res
 | [d]=>(lenN d).map fun n=>.val (.int (n:Nat))
 | _=>none
def rLenD (K:PySem.W.Frag):List V→Hp→VK→Prop:=OrC (fun xs H Q=>∃ x n,xs=[x]∧LenV K x H n∧Q (.int n) H) (fun xs H Q=>∃ a kvs,xs=[V.ref a]∧H a=some (.dK kvs)∧Q (.int kvs.length) H)
theorem call_lenAll {X:Cx}:CallR X (.builtin "len") (rLenD X.K):=call_len.or call_lenD
theorem lenD_ok {G:Gx}:CallOk G (rLenD G.K) lenD:=by
 intro F H xs ds res Q e v q k
 unfold lenD at q
 split at q
 ·rename_i d
  obtain ⟨n,h,rfl⟩:=Option.map_eq_some_iff.mp q
  obtain ⟨x,rfl,vx⟩:=v.one
  have kk:=fun (m:Nat) (h:m=n)=>k (.int (m:Nat)) F H (.refl e) (by rw [h]; exact .int _)
  cases d with
  | str z =>
   simp only [lenN] at h
   split at h
   ·cases h; exact .inl ⟨_,_,rfl,by rw [vx.str]; exact ⟨by assumption,rfl⟩,kk _ rfl⟩
   ·cases h
  | lst xs =>
   simp only [lenN,Option.some.injEq] at h
   obtain ⟨a,vs,rfl,h1,t⟩:=vx.lst e
   exact .inl ⟨_,_,rfl,.inl ⟨vs,SqL.of h1,rfl⟩,kk _ (by rw [t.length]; exact h)⟩
  | tup xs =>
   simp only [lenN,Option.some.injEq] at h
   obtain ⟨a,vs,rfl,h1,t⟩:=vx.tup e
   exact .inl ⟨_,_,rfl,.inr ⟨vs,h1,rfl⟩,kk _ (by rw [t.length]; exact h)⟩
  | scr xs =>
   simp only [lenN,Option.some.injEq] at h
   obtain ⟨a,rfl,h1⟩:=vx.scr e
   exact .inl ⟨_,_,rfl,.inl ⟨_,h1,rfl⟩,kk _ (by simpa using h)⟩
  | dct xs =>
   simp only [lenN,Option.some.injEq] at h
   obtain ⟨a,vs,rfl,h1,t⟩:=vx.dct e
   exact .inr ⟨_,_,rfl,h1,kk _ (by rw [t.length]; exact h)⟩
  | _=>simp [lenN] at h
 ·cases q
def intD:List D→Option Res
 | [.int i]=>some (.val (.int i))
 | [.bl b]=>some (.val (.int (if b then 1 else 0)))
 | _=>none
theorem intD_ok {G:Gx}:CallOk G (fun xs H Q=>(∃ i,xs=[.int i]∧Q (.int i) H)∨∃ k,xs=[.bl k]∧Q (.int (if k then 1 else 0)) H) intD:=by
 intro F H xs ds res Q e v q k
 unfold intD at q
 split at q
 ·rename_i i
  cases q
  obtain ⟨x,rfl,vx⟩:=v.one
  exact .inl ⟨i,by rw [vx.int],k _ F H (.refl e) (.int _)⟩
 ·rename_i b
  cases q
  obtain ⟨x,rfl,vx⟩:=v.one
  exact .inr ⟨b,by rw [vx.bl],k _ F H (.refl e) (.int _)⟩
 ·cases q
def fI2 (g:Int→Int→Int):List D→Option Res
 | [.int i,.int j]=>some (.val (.int (g i j)))
 | _=>none
theorem fI2_ok {G:Gx}{g:Int→Int→Int}:CallOk G (fun xs H Q=>∃ i j,xs=[.int i,.int j]∧Q (.int (g i j)) H) (fI2 g):=by
 intro F H xs ds res Q e v q k
 unfold fI2 at q
 split at q
 ·rename_i i j
  cases q
  obtain ⟨x,y,rfl,vx,vy⟩:=v.two
  exact ⟨i,j,by rw [vx.int,vy.int],k _ F H (.refl e) (.int _)⟩
 ·cases q
def maxD:List D→Option Res:=fI2 fun i j=>if j>i then j else i
def minD:List D→Option Res:=fI2 fun i j=>if j<i then j else i
def absD:List D→Option Res
 | [.int i]=>some (.val (.int (if i<0 then -i else i)))
 | _=>none
theorem absD_ok {G:Gx}:CallOk G (fun xs H Q=>∃ i,xs=[.int i]∧Q (.int (if i<0 then -i else i)) H) absD:=by
 intro F H xs ds res Q e v q k
 unfold absD at q
 split at q
 ·rename_i i
  cases q
  obtain ⟨x,rfl,vx⟩:=v.one
  exact ⟨i,by rw [vx.int],k _ F H (.refl e) (.int _)⟩
 ·cases q
def blsD:List D→Option (List Bool)
 | []=>some []
 | .bl b::ds=>(blsD ds).map (b::·)
 | _=>none
theorem bls_ok {G:Gx}{F:Hp}:∀ {vs:List V} {ds:List D} {bs:List Bool},DpL G F vs ds→blsD ds=some bs→vs=bs.map V.bl
 | _,_,_,.nil,e=>by simp only [blsD,Option.some.injEq] at e; subst e; rfl
 | _,_,_,.cons (d:=d) h t,e=>by
  cases d with
  | bl b =>
   simp only [blsD,Option.map_eq_some_iff] at e
   obtain ⟨bs,e1,rfl⟩:=e
   cases h
   simp [bls_ok t e1]
  | _=>simp [blsD] at e
def intsD:List D→Option (List Int)
 | []=>some []
 | .int b::ds=>(intsD ds).map (b::·)
 | _=>none
theorem ints_ok {G:Gx}{F:Hp}:∀ {vs:List V} {ds:List D} {bs:List Int},DpL G F vs ds→intsD ds=some bs→vs=bs.map V.int
 | _,_,_,.nil,e=>by simp only [intsD,Option.some.injEq] at e; subst e; rfl
 | _,_,_,.cons (d:=d) h t,e=>by
  cases d with
  | int b =>
   simp only [intsD,Option.map_eq_some_iff] at e
   obtain ⟨bs,e1,rfl⟩:=e
   cases h
   simp [ints_ok t e1]
  | _=>simp [intsD] at e
def strsD:List D→Option (List Str)
 | []=>some []
 | .str b::ds=>(strsD ds).map (b::·)
 | _=>none
theorem strs_ok {G:Gx}{F:Hp}:∀ {vs:List V} {ds:List D} {bs:List Str},DpL G F vs ds→strsD ds=some bs→vs=bs.map V.str
 | _,_,_,.nil,e=>by simp only [strsD,Option.some.injEq] at e; subst e; rfl
 | _,_,_,.cons (d:=d) h t,e=>by
  cases d with
  | str b =>
   simp only [strsD,Option.map_eq_some_iff] at e
   obtain ⟨bs,e1,rfl⟩:=e
   cases h
   simp [strs_ok t e1]
  | _=>simp [strsD] at e
def allD:List D→Option Res
 | [.lst ds]=>(blsD ds).map fun bs=>.val (.bl (bs.all id))
 | _=>none
def sumD:List D→Option Res
 | [.lst ds]=>(intsD ds).map fun bs=>.val (.int bs.sum)
 | _=>none
theorem allD_ok {G:Gx}:CallOk G (rAll G.K) allD:=by
 intro F H xs ds res Q e v q k
 unfold allD at q
 split at q
 ·rename_i ds
  obtain ⟨bs,h,rfl⟩:=Option.map_eq_some_iff.mp q
  obtain ⟨x,rfl,vx⟩:=v.one
  obtain ⟨a,vs,rfl,h1,t⟩:=vx.lst e
  exact ⟨a,bs,rfl,by rw [← bls_ok t h]; exact SqL.of h1,k _ F H (.refl e) (.bl _)⟩
 ·cases q
theorem sumD_ok {G:Gx}:CallOk G (rSum G.K) sumD:=by
 intro F H xs ds res Q e v q k
 unfold sumD at q
 split at q
 ·rename_i ds
  obtain ⟨bs,h,rfl⟩:=Option.map_eq_some_iff.mp q
  obtain ⟨x,rfl,vx⟩:=v.one
  obtain ⟨a,vs,rfl,h1,t⟩:=vx.lst e
  exact ⟨a,bs,rfl,by rw [← ints_ok t h]; exact SqL.of h1,k _ F H (.refl e) (.int _)⟩
 ·cases q
def tupleD:List D→Option Res
 | [.lst xs]=>some (.val (.tup xs))
 | [.tup xs]=>some (.val (.tup xs))
 | _=>none
theorem tupleD_ok {G:Gx}:CallOk G (fun xs H Q=>∃ p ys,xs=[.ref p]∧((SqL G.K H p ys∧∀ l,H l=none→Q (.ref l) (upd H l (.tup ys)))∨(SqT G.K H p ys∧Q (.ref p) H))) tupleD:=by
 intro F H xs ds res Q e v q k
 unfold tupleD at q
 split at q
 ·rename_i ds
  cases q
  obtain ⟨x,rfl,vx⟩:=v.one
  obtain ⟨a,vs,rfl,h1,t⟩:=vx.lst e
  exact ⟨a,vs,rfl,.inl ⟨SqL.of h1,fun l hl=>k _ _ _ (.tup e hl) (.tup (SqT.of upd_same) (t.mono (Alc.tup e hl).subF))⟩⟩
 ·rename_i ds
  cases q
  obtain ⟨x,rfl,vx⟩:=v.one
  have vx':=vx
  obtain ⟨a,vs,rfl,h1,t⟩:=vx.tup e
  refine ⟨a,vs,rfl,.inr ⟨h1,k _ F H (.refl e) ?_⟩⟩
  rcases vx' with h | ⟨_,_,_,c⟩
  ·exact h
  ·cases c with | flat c=>exact c.elim
 ·cases q
def tyN:D→Option String
 | .non=>some "NoneType"
 | .bl _=>some "bool"
 | .int _=>some "int"
 | .str _=>some "str"
 | .lst _=>some "list"
 | .tup _=>some "tuple"
 | .dct _=>some "dict"
 | _=>none
theorem sqT_ty {K:PySem.W.Frag}{H:Hp}{a:Addr}{vs:List V}(h:SqT K H a vs):TyX K H (.ref a) (.type "tuple"):=by
 rcases h with (h | ⟨o,h⟩) | ⟨o,its,n,h1,h2,_⟩
 ·exact .base (.tup h)
 ·exact .fTuple h
 ·exact .kTuple h1 h2
theorem tyN_ok {G:Gx}{F H:Hp}{x:V}{d:D}{t:String}(e:Same F H)(v:View G F H x d)(q:tyN d=some t):TyX G.K H x (.type t):=by
 cases d with
 | non=>cases q; rw [v.non]; exact .base .non
 | bl b=>cases q; rw [v.bl]; exact .base (.bl b)
 | int b=>cases q; rw [v.int]; exact .base (.int b)
 | str b=>cases q; rw [v.str]; exact .base (.str b)
 | lst b=>cases q; obtain ⟨a,vs,rfl,h1,_⟩:=v.lst e; exact .base (.lst h1)
 | tup b=>cases q; obtain ⟨a,vs,rfl,h1,_⟩:=v.tup e; exact sqT_ty h1
 | dct b=>cases q; obtain ⟨a,vs,rfl,h1,_⟩:=v.dct e; exact .base (.dK h1)
 | _=>cases q
def isiT:String→String→Option Bool
 | "bool", "int"=>some true
 | a,b=>if a∈["NoneType", "bool", "int", "str", "list", "tuple", "dict"]∧b∈["bool", "int", "str", "list", "tuple", "dict"] then some (a==b) else none
theorem isiT_ok {K:PySem.W.Frag}{a b:String}{r:Bool}(h:isiT a b=some r):PySem.W.kitOne K (.type a) (.type b)=some r:=by
 refine kit_ty ?_
 have key:∀ a∈["NoneType", "bool", "int", "str", "list", "tuple", "dict"],∀ b∈["bool", "int", "str", "list", "tuple", "dict"],kitB a b=some (if a = "bool"∧b = "int" then true else a==b):=by decide +kernel
 unfold isiT at h
 split at h
 ·rw [key "bool" (by decide) "int" (by decide)]; simpa using h
 ·rename_i hn
  split at h
  ·rename_i w
   rw [key a w.1 b w.2,← h]
   have:¬ (a = "bool"∧b = "int"):=fun z=>hn z.1 z.2
   simp [this]
  ·cases h
structure TabOk (G:Gx)(T:Tab):Prop where
 base:∀ c,c<T.n→∀ t∈baseT,PySem.W.kitOne G.K (.type t) (.ref (G.cl c))=some false
 own:∀ c,c<T.n→∀ c',c'<T.n→PySem.W.kitOne G.K (.ref (G.cl c)) (.ref (G.cl c'))=some (T.sub c c')
 blt:∀ c,c<T.n→∀ t∈T.tys,PySem.W.kitOne G.K (.ref (G.cl c)) (.type t)=some (T.subB c t)
 cls:∀ c,c<T.n→Cls G.K (G.cl c)
 ha:∀ c,c<T.n→PySem.W.findIn G.K (.ref (G.cl c)) "__class__"=some (some (.builtin "object.__class__"))
 hn:0<T.n→PySem.W.specialIn G.K (.builtin "object.__class__") "__get__"=some (some (.builtin "getset_descriptor.__get__"))
 htk:0<T.n→PySem.W.takesIn G.K (.builtin "object.__class__")=some true
 hm:∀ c,c<T.n→PySem.W.mroIn G.K (G.cl c) (.type "object")=some true
 fld:∀ c,c<T.n→∀ f∈T.flds c,NoAttr G.K (G.cl c) f
def isi1 (T:Tab)(x c:D):Option Bool:=match x,c with
 | .obj k _,.ty n=>if k<T.n∧n∈T.tys then some (T.subB k n) else none
 | .obj k _,.cls c=>if k<T.n∧c<T.n then some (T.sub k c) else none
 | x,.ty n=>(tyN x).bind fun t=>isiT t n
 | x,.cls c=>if c<T.n then (tyN x).map fun _=>false else none
 | _,_=>none
def isiAny (T:Tab)(x:D):List D→Option Bool
 | []=>some false
 | c::cs=>match isi1 T x c with
  | some true=>some true
  | some false=>isiAny T x cs
  | none=>none
theorem tyN_base {d:D}{t:String}(h:tyN d=some t):t∈baseT:=by
 cases d <;> simp [tyN] at h <;> subst h <;> decide
def tyVal (G:Gx):D→Option Value
 | .obj c _=>some (.ref (G.cl c))
 | d=>(tyN d).map .type
def clsVal (G:Gx):D→Option Value
 | .ty n=>some (.type n)
 | .cls c=>some (.ref (G.cl c))
 | _=>none
theorem clsVal_ok {G:Gx}{F H:Hp}{x:V}{c:D}{u:Value}(h:Dp G F x c)(e:clsVal G c=some u):ClsV x u:=by
 cases c with
 | ty n=>cases e; cases h; exact .ty n
 | cls n=>cases e; cases h; exact .own _
 | _=>cases e
theorem isi1_ok {G:Gx}{T:Tab}(O:TabOk G T){F H:Hp}{x:V}{d c:D}{b:Bool}(s:Same F H)(v:View G F H x d)(e:isi1 T d c=some b):∃ t u,TyX G.K H x t∧tyVal G d=some t∧clsVal G c=some u∧PySem.W.kitOne G.K t u=some b:=by
 have tyobj:∀ {k:Nat} {fs:List (Str×D)},View G F H x (.obj k fs)→k<T.n→TyX G.K H x (.ref (G.cl k)):=fun {k fs} v hk=>by
  obtain ⟨a,dx,vs,rfl,h1,_⟩:=v.obj s
  exact .base (.ins h1 (O.cls k hk) (O.ha k hk) (O.hn (by omega)) (O.htk (by omega)) (O.hm k hk))
 unfold isi1 at e
 split at e
 ·rename_i k fs n
  split at e
  ·rename_i w
   cases e
   exact ⟨_,_,tyobj v w.1,rfl,rfl,O.blt k w.1 n w.2⟩
  ·cases e
 ·rename_i k fs c
  split at e
  ·rename_i w
   cases e
   exact ⟨_,_,tyobj v w.1,rfl,rfl,O.own k w.1 c w.2⟩
  ·cases e
 ·rename_i n hno
  obtain ⟨t,h1,h2⟩:=Option.bind_eq_some_iff.mp e
  refine ⟨_,_,tyN_ok s v h1,?_,rfl,isiT_ok h2⟩
  cases d <;> simp [tyVal,tyN] at h1 ⊢ <;> exact h1
 ·rename_i c hno
  split at e
  ·rename_i w
   obtain ⟨t,h1,rfl⟩:=Option.map_eq_some_iff.mp e
   refine ⟨_,_,tyN_ok s v h1,?_,rfl,O.base c w t (tyN_base h1)⟩
   cases d <;> simp [tyVal,tyN] at h1 ⊢ <;> exact h1
  ·cases e
 ·cases e
def clsVals (G:Gx):List D→Option (List Value)
 | []=>some []
 | c::cs=>match clsVal G c,clsVals G cs with
  | some u,some us=>some (u::us)
  | _,_=>none
theorem clsVals_ok {G:Gx}{F H:Hp}:∀ {ws:List V} {cs:List D} {us:List Value},DpL G F ws cs→clsVals G cs=some us→Paired ClsV ws us
 | _,_,_,.nil,e=>by simp only [clsVals,Option.some.injEq] at e; subst e; exact .nil
 | _,_,_,.cons h t,e=>by
  simp only [clsVals] at e
  split at e
  ·rename_i u us e1 e2
   cases e
   exact .cons (clsVal_ok (F:=F) (H:=H) h e1) (clsVals_ok (H:=H) t e2)
  ·cases e
theorem kitAny_of {G:Gx}{T:Tab}(O:TabOk G T){F H:Hp}{x:V}{d:D}(s:Same F H)(v:View G F H x d):∀ {cs:List D} {us:List Value} {b:Bool} {t:Value},cs≠[]→clsVals G cs=some us→isiAny T d cs=some b→tyVal G d=some t→TyX G.K H x t∧PySem.W.kitAny G.K t us=some b
 | [],_,_,_,h,_,_,_=>absurd rfl h
 | c::cs,us,b,t,_,e,q,ty=>by
  simp only [clsVals] at e
  split at e
  ·rename_i u us' e1 e2
   cases e
   simp only [isiAny] at q
   cases hi:isi1 T d c with
   | none=>rw [hi] at q; cases q
   | some b1 =>
    obtain ⟨t',u',X1,X2,X3,X4⟩:=isi1_ok O s v hi
    rw [ty] at X2; cases X2
    rw [e1] at X3; cases X3
    refine ⟨X1,kitAny_cons X4 (fun z=>?_) fun z=>?_⟩
    ·subst z
     rw [hi] at q
     simp only at q
     cases cs with
     | nil=>simp only [clsVals,Option.some.injEq] at e2; subst e2; simp only [isiAny,Option.some.injEq] at q; subst q; rfl
     | cons c2 cs2=>exact (kitAny_of O s v (by simp) e2 q ty).2
    ·subst z
     rw [hi] at q
     simp only [Option.some.injEq] at q
     exact q.symm
  ·cases e
theorem clsVals_some {G:Gx}{T:Tab}{d:D}:∀ {cs:List D},(∀ c∈cs,(clsVal G c).isSome)→∃ us,clsVals G cs=some us
 | [],_=>⟨[],rfl⟩
 | c::cs,h=>by
  obtain ⟨us,e⟩:=clsVals_some (T:=T) (d:=d) (cs:=cs) fun c' hc=>h c' (List.mem_cons_of_mem _ hc)
  obtain ⟨u,e1⟩:=Option.isSome_iff_exists.mp (h c (List.mem_cons_self ..))
  exact ⟨u::us,by simp [clsVals,e,e1]⟩
def isCls:D→Bool
 | .ty _=>true
 | .cls _=>true
 | _=>false
def isiD' (T:Tab):List D→Option Res
 | [x,.tup cs]=>if cs.all isCls&&!cs.isEmpty then (isiAny T x cs).map fun b=>.val (.bl b) else none
 | [x,c]=>(isi1 T x c).map fun b=>.val (.bl b)
 | _=>none
def rIsiS (K:PySem.W.Frag):List V→Hp→VK→Prop:=fun xs H Q=>∃ (x:V) (tp:Addr) (cs:List V) (t:Value) (us:List Value) (b:Bool),xs=[x,.ref tp]∧SqT K H tp cs∧Paired ClsV cs us∧TyX K H x t∧PySem.W.kitAny K t us=some b∧Q (.bl b) H
theorem call_isiS {X:Cx}:CallR X (.builtin "isinstance") (rIsiS X.K):=by
 intro pins s σ H xs us Q I r h
 obtain ⟨x,tp,cs,t,ws,b,rfl,hT,k,ty,e,q⟩:=h
 obtain ⟨u1,u2,rfl,r1,r2⟩:=vals2 r
 cases (show u2=Value.ref tp from r2)
 obtain ⟨P,Z,p,hx⟩:=kit_of I r1 ty
 obtain ⟨its,rv,⟨o,h1,h2,n,h3⟩,_⟩:=I.tuple hT
 have e3:=ClsV.all k rv
 subst e3
 obtain ⟨oc,od,dt,sl⟩:=o
 simp only at h2 h3
 subst h2 h3
 exact PySem.W.kia_tup Z I.kIn p h1 e hx fun tk=>⟨.bl b,H,I.tok tk,rfl,q⟩
theorem call_isiAll {X:Cx}:CallR X (.builtin "isinstance") (OrC (rIsi X.K) (rIsiS X.K)):=call_isi.or call_isiS
theorem isiD_ok {G:Gx}{T:Tab}(O:TabOk G T):CallOk G (OrC (rIsi G.K) (rIsiS G.K)) (isiD' T):=by
 intro F H xs ds res Q e v q k
 unfold isiD' at q
 split at q
 ·rename_i x cs
  split at q
  ·rename_i w
   have w:=Bool.and_eq_true_iff.mp w
   obtain ⟨b,h,rfl⟩:=Option.map_eq_some_iff.mp q
   obtain ⟨vx,vc,rfl,hx,hc⟩:=v.two
   obtain ⟨tp,ws,rfl,hT,t⟩:=hc.tup e
   have hall:∀ c∈cs,(clsVal G c).isSome:=fun c hm=>by
    have z:=List.all_eq_true.mp w.1 c hm
    cases c <;> simp [isCls] at z <;> simp [clsVal]
   obtain ⟨us,eu⟩:=clsVals_some (T:=T) (d:=x) hall
   have hne:cs≠[]:=by intro z; subst z; simp at w
   have:∃ tv,tyVal G x=some tv:=by
    cases cs with
    | nil=>exact absurd rfl hne
    | cons c cs' =>
     simp only [isiAny] at h
     cases hi:isi1 T x c with
     | none=>rw [hi] at h; cases h
     | some b1=>obtain ⟨t',u',_,X2,_⟩:=isi1_ok O e hx hi; exact ⟨t',X2⟩
   obtain ⟨tv,et⟩:=this
   obtain ⟨ty,ka⟩:=kitAny_of O e hx hne eu h et
   exact .inr ⟨vx,tp,ws,tv,us,b,rfl,hT,clsVals_ok (H:=H) t eu,ty,ka,k _ F H (.refl e) (.bl _)⟩
  ·cases q
 ·rename_i x c hno
  obtain ⟨b,h,rfl⟩:=Option.map_eq_some_iff.mp q
  obtain ⟨vx,vc,rfl,hx,hc⟩:=v.two
  obtain ⟨t,u,X1,X2,X3,X4⟩:=isi1_ok O e hx h
  have hd:Dp G F vc c:=by
   rcases hc with hc | ⟨a,L,r,cl⟩
   ·exact hc
   ·cases cl with
    | flat cl=>cases c <;> first | exact cl.elim | simp [clsVal] at X3
    | _=>simp [clsVal] at X3
  exact .inl ⟨vx,vc,t,u,b,rfl,clsVal_ok (H:=H) hd X3,X1,X4,k _ F H (.refl e) (.bl _)⟩
 ·cases q
theorem Rel.chg {Γ:Gm}{ρ:Rho}{σ:St}{F H H':Hp}{i:Nat}{b:Option Nat}{d d':D}{a:Addr}{L L':List Addr}(R:Rel Γ ρ σ F H)(q:ρ[i]?=some (some (.own b d)))(hs:σ[i]?=some (some (.ref a)))(c:Ct Γ.G F H a d L)
  (kp:∀ c,c∉L→∀ o,H c=some o→H' c=some o) (th:∀ c o,H c=some o→∃ o',H' c=some o') (c':Ct Γ.G F H' a d' L') (sb:∀ c∈L',c∈L∨(F c=none∧¬ Γ.U c∧¬ Own Γ ρ σ F H c)):Stp Γ ρ σ F H (ρ.set i (some (.own b d'))) σ F H':=by
 obtain ⟨a',L0,z,c0,hb,ow⟩:=R.slotO q hs
 cases z
 obtain rfl:=c0.uniq c
 have il:=lt_of_get q
 have nin:∀ j,j≠i→∀ e,OwnAt Γ ρ σ F H j e→e∉L0:=fun j hj e o z=>hj (R.inj j i e o (ow e z))
 have kj:∀ j,j≠i→∀ e,OwnAt Γ ρ σ F H j e→∀ o,H e=some o→H' e=some o:=fun j hj e o u w=>kp e (nin j hj e o) u w
 have me:SlotOk Γ F H' (.ref a) L' (.own b d'):=⟨a,rfl,c',hb⟩
 have bk:∀ j e,OwnAt Γ (ρ.set i (some (.own b d'))) σ F H' j e→(j=i∧e∈L')∨(j≠i∧OwnAt Γ ρ σ F H j e):=fun j e o=>by
  by_cases z:j=i
  ·subst z; exact .inl ⟨rfl,o.of (by rw [List.getElem?_set_self il]) hs me⟩
  ·exact .inr ⟨z,own_back R (Same.refl _) j (fun s w=>by rwa [List.getElem?_set_ne (Ne.symm z)] at w) rfl (kj j z) o⟩
 have uL:∀ e,Γ.U e→e∉L0:=fun e h z=>(R.own i e (ow e z)).2 h
 refine ⟨⟨fun e u w=>kp e (fun z=>by rw [(R.own i e (ow e z)).1] at w; cases w) u (R.sub e u w),fun j s w=>?_,fun j k e o1 o2=>?_,fun j e o=>?_,by simp [R.len],R.inv,fun e h=>?_,tab_chg R.tab.on fun e u w z=>kp e (fun y=>by
  obtain ⟨u',w',q'⟩:=Ct.okU c0 e y
  rw [w] at w'; cases w'
  exact q'.not z) u w,R.tab.off,R.tab.fr⟩,Same.refl _,fun e h=>?_,th⟩
 ·rcases get_set w with ⟨e,e2,_⟩ | ⟨e,w⟩
  ·subst e; cases e2; exact ⟨_,L',hs,me⟩
  ·exact slot_keep R (Same.refl _) j w rfl (kj j (Ne.symm e))
 ·rcases bk j e o1 with ⟨e1,m1⟩ | ⟨e1,m1⟩
  ·rcases bk k e o2 with ⟨e2,m2⟩ | ⟨e2,m2⟩
   ·rw [e1,e2]
   ·rcases sb e m1 with z | z
    ·exact absurd z (nin k e2 e m2)
    ·exact absurd ⟨k,m2⟩ z.2.2
  ·rcases bk k e o2 with ⟨e2,m2⟩ | ⟨e2,m2⟩
   ·rcases sb e m2 with z | z
    ·exact absurd z (nin j e1 e m1)
    ·exact absurd ⟨j,m1⟩ z.2.2
   ·exact R.inj j k e m1 m2
 ·rcases bk j e o with ⟨e1,m1⟩ | ⟨e1,m1⟩
  ·rcases sb e m1 with z | z
   ·exact R.own i e (ow e z)
   ·exact ⟨z.1,z.2.1⟩
  ·exact R.own j e m1
 ·obtain ⟨h1,o,h2⟩:=R.ali e h
  exact ⟨h1,o,kp e (uL e h) o h2⟩
 ·obtain ⟨h1,o,h2⟩:=R.ali e h
  rw [h2,kp e (uL e h) o h2]
def flatD:D→Bool
 | .lst _=>true
 | .dct _=>true
 | .obj _ _=>true
 | .dctN _=>true
 | _=>false
theorem Ct.cell {G:Gx}{F H:Hp}{a:Addr}{d:D}{L:List Addr}(c:Ct G F H a d L)(h:flatD d=true):Cell G F H a d∧L=[a]:=by
 cases c with
 | flat c=>exact ⟨c,rfl⟩
 | _=>cases h
theorem Rel.upd {Γ:Gm}{ρ:Rho}{σ:St}{F H:Hp}{i:Nat}{b:Option Nat}{d d':D}{a:Addr}{o:HO}{L:List Addr}(R:Rel Γ ρ σ F H)(q:ρ[i]?=some (some (.own b d)))(hs:σ[i]?=some (some (.ref a)))(c0:Ct Γ.G F H a d L)(fl:flatD d=true)(c:Cell Γ.G F (L2.upd H a o) a d') :
  Stp Γ ρ σ F H (ρ.set i (some (.own b d'))) σ F (L2.upd H a o):=by
 obtain ⟨_,rfl⟩:=c0.cell fl
 exact R.chg q hs c0 (fun e he u w=>by rw [upd_ne (by simpa using he)]; exact w) (fun e u w=>by
  by_cases z:e=a
  ·subst z; exact ⟨o,upd_same⟩
  ·exact ⟨u,by rw [upd_ne z]; exact w⟩) (.flat c) fun e he=>.inl he
def mutR (f:D→List D→Option (D×D))(ro:Res)(rs:List Res)(ρ:Rho):Out Res:=match ro with
 | .at i=>match settles rs ρ with
  | some (ds,ρ1)=>(match ρ1[i]? with
   | some (some (.own b d))=>(match f d ds with
    | some (d',z)=>.ok (.val z) (ρ1.set i (some (.own b d')))
    | none=>.stuck)
   | _=>.stuck)
  | none=>.stuck
 | _=>.stuck
def MutOk (G:Gx)(r:V→List V→Hp→VK→Prop)(f:D→List D→Option (D×D)):Prop:=(∀ d ds z,f d ds=some z→flatD d=true)∧∀ F H a xs d ds d' z Q,Same F H→F a=none→Cell G F H a d→DpL G F xs ds→f d ds=some (d',z) →
 (∀ v o,Cell G F (L2.upd H a o) a d'→Dp G F v z→Q v (L2.upd H a o))→r (.ref a) xs H Q
theorem mutR_ok {Γ:Gm}{W:WX}{r:V→List V→Hp→VK→Prop}{f:D→List D→Option (D×D)}{ro:Res}{rs:List Res}{ρ:Rho}{σ:St}{F H:Hp}{Q:VK}{x:V}{xs:List V}(hf:MutOk Γ.G r f)(R:Rel Γ ρ σ F H)(ho:RepF Γ.G σ F x ro)(ha:RepFs Γ.G σ F xs rs)(h:Post Γ W (mutR f ro rs ρ) ρ σ F H Q):r x xs H Q:=by
 unfold mutR at h
 split at h
 ·rename_i i
  split at h
  ·rename_i ds ρ1 e1
   obtain ⟨F1,s1,p1⟩:=settles_ok R ha e1
   split at h
   ·rename_i b d q
    split at h
    ·rename_i d' z e2
     have fl:=hf.1 _ _ _ e2
     have ho:σ[i]?=some (some x):=ho
     obtain ⟨a,L,zz,c,hb,ow⟩:=s1.rel.slotO q ho
     subst zz
     obtain ⟨cc,_⟩:=c.cell fl
     exact hf.2 F1 H a xs d ds d' z Q s1.rel.sub (s1.rel.own i a (ow a c.self)).1 cc p1 e2 fun v o c' dv=>h v F1 _ (s1.trans (s1.rel.upd q ho c fl c')) dv
    ·exact h.elim
   ·exact h.elim
  ·exact h.elim
 ·exact h.elim
def MtOk (G:Gx)(r:V→List V→Hp→VK→Prop)(f:D→List D→Option Res):Prop:=∀ F H x xs d ds res Q,Same F H→View G F H x d→Views G F H xs ds→f d ds=some res →
 (∀ v F' H',Alc F H F' H'→RepNew G H F' H' v res→Q v H')→r x xs H Q
def mtR (f:D→List D→Option Res)(ro:Res)(rs:List Res)(ρ:Rho):Out Res:=match resolve ρ ro,resolves ρ rs with
 | some d,some ds=>(match f d ds with | some r=>.ok r ρ | none=>.stuck)
 | _,_=>.stuck
theorem mtR_ok {Γ:Gm}{W:WX}{r:V→List V→Hp→VK→Prop}{f:D→List D→Option Res}{ro:Res}{rs:List Res}{ρ:Rho}{σ:St}{F H:Hp}{Q:VK}{x:V}{xs:List V}(hf:MtOk Γ.G r f)(R:Rel Γ ρ σ F H)(ho:RepF Γ.G σ F x ro)(ha:RepFs Γ.G σ F xs rs)(h:Post Γ W (mtR f ro rs ρ) ρ σ F H Q):r x xs H Q:=by
 unfold mtR at h
 split at h
 ·rename_i d ds e1 e2
  split at h
  ·rename_i res e3
   exact hf F H x xs d ds res Q R.sub (ho.view R e1) (ha.views R e2) e3 (fin_new R h)
  ·exact h.elim
 ·exact h.elim
def tyOk (T:String):D→Bool
 | .lst _=>T == "list"
 | .scr _=>T == "list"
 | .str _=>T == "str"
 | .dct _=>T == "dict"
 | _=>false
theorem tyOk_ok {G:Gx}{F H:Hp}{x:V}{d:D}{T:String}(e:Same F H)(v:View G F H x d)(h:tyOk T d=true):tyV G.K T x H:=by
 cases d with
 | lst xs=>obtain ⟨a,vs,rfl,h1,_⟩:=v.lst e; exact .inl ⟨by simpa [tyOk] using h,vs,SqL.of h1⟩
 | scr xs=>obtain ⟨a,rfl,h1⟩:=v.scr e; exact .inl ⟨by simpa [tyOk] using h,_,h1⟩
 | str xs=>rw [v.str]; simpa [tyOk,tyV] using h
 | dct xs=>obtain ⟨a,vs,rfl,h1,_⟩:=v.dct e; exact .inr (.inr (.inl ⟨by simpa [tyOk] using h,.inl ⟨vs,h1⟩⟩))
 | _=>simp [tyOk] at h
def guard {α:Type}(T:String)(o:Res)(ρ:Rho)(k:Out α):Out α:=match resolve ρ o with
 | some d=>if tyOk T d then k else .stuck
 | none=>.stuck
def mMutT (T:String)(f:D→List D→Option (D×D))(mo:M)(ma:MA):M:=fun ρ=>bindF (mo ρ) fun o ρ1=>guard T o ρ1 (bindO (ma ρ1) fun rs ρ2=>mutR f o rs ρ2)
def mMtT (T:String)(f:D→List D→Option Res)(mo:M)(ma:MA):M:=fun ρ=>bindF (mo ρ) fun o ρ1=>guard T o ρ1 (bindO (ma ρ1) fun rs ρ2=>mtR f o rs ρ2)
theorem guard_ok {Γ:Gm}{W:WX}{T:String}{o:Res}{ρ:Rho}{k:Out Res}{σ:St}{F H:Hp}{Q:VK}{x:V}(R:Rel Γ ρ σ F H)(ho:RepF Γ.G σ F x o)(h:Post Γ W (guard T o ρ k) ρ σ F H Q):tyV Γ.G.K T x H∧Post Γ W k ρ σ F H Q:=by
 unfold guard at h
 split at h
 ·rename_i d e
  split at h
  ·rename_i w
   exact ⟨tyOk_ok R.sub (ho.view R e) w,h⟩
  ·exact h.elim
 ·exact h.elim
section
variable {X:Cx}{Γ:Gm}{W:WX}{o e:Expr}{es:List Expr}{mo:M}{ma:MA}{name:Str}{apos cpos:Pos}{T id:String}{r:V→List V→Hp→VK→Prop}
theorem tBM_mut {f:D→List D→Option (D×D)}(hK:X.K=Γ.G.K)(hf:MutOk Γ.G r f):∀ σ H Q,tM Γ W (mMutT T f mo ma) σ H Q→tBM X.K T r (tF Γ W mo) (tMA Γ W ma) σ H Q:=fun σ H Q ⟨ρ,F,R,p⟩=>⟨ρ,F,R,p.bindF fun ro ρ1 v F1 H1 s1 ho p1=>by
 obtain ⟨ty,p2⟩:=guard_ok s1.rel ho p1
 exact ⟨hK▸ty,ρ1,F1,s1.rel,p2.bindA fun rs ρ2 vs F2 H2 s2 hrs p3=>mutR_ok hf s2.rel (ho.mono s2.subF) hrs p3⟩⟩
theorem tBM_mt {f:D→List D→Option Res}(hK:X.K=Γ.G.K)(hf:MtOk Γ.G r f):∀ σ H Q,tM Γ W (mMtT T f mo ma) σ H Q→tBM X.K T r (tF Γ W mo) (tMA Γ W ma) σ H Q:=fun σ H Q ⟨ρ,F,R,p⟩=>⟨ρ,F,R,p.bindF fun ro ρ1 v F1 H1 s1 ho p1=>by
 obtain ⟨ty,p2⟩:=guard_ok s1.rel ho p1
 exact ⟨hK▸ty,ρ1,F1,s1.rel,p2.bindA fun rs ρ2 vs F2 H2 s2 hrs p3=>mtR_ok hf s2.rel (ho.mono s2.subF) hrs p3⟩⟩
theorem je_mut {f:D→List D→Option (D×D)}(pa:PlainAttrs T)(slot:PySem.Slot T name id)(hty:typeOf (.builtin id)=pure (.type "method_descriptor"))(hm:MtR X id r)(hf:MutOk Γ.G r f)(hK:X.K=Γ.G.K)(ho:PE X o (tM Γ W mo))(ha:PA X (e::es) (tMA Γ W ma))
  (hbase:attributeBase o name X.env (eval o X.env)=eval o X.env:=by rfl)
  (hfew:((backTo cpos (starEach (e::es) X.env)).all (fun x=>!x.1)&&(backToKw cpos (keywordEach [] X.env)).all (fun x=>x.1.isSome)
   && decide ((e::es).length+([]:List Keyword).length+(if ([]:List Keyword).isEmpty then 0 else 1)<30))=true:=by rfl)
  (hline:(apos.endLine==cpos.line)=true:=by rfl) (hs:starEach (e::es) X.env=(false,eval e X.env)::starEach es X.env:=by rfl) (hplain:(backTo cpos (starEach es X.env)).any (·.1)=false:=by rfl) :
  PE X (.Call (.Attribute o name apos) (e::es) [] cpos) (tM Γ W (mMutT T f mo ma)):=(pe_bm pa slot hty hm (je_f ho) ha hbase hfew hline hs hplain).imp (tBM_mut hK hf)
theorem je_mt {f:D→List D→Option Res}(pa:PlainAttrs T)(slot:PySem.Slot T name id)(hty:typeOf (.builtin id)=pure (.type "method_descriptor"))(hm:MtR X id r)(hf:MtOk Γ.G r f)(hK:X.K=Γ.G.K)(ho:PE X o (tM Γ W mo))(ha:PA X (e::es) (tMA Γ W ma))
  (hbase:attributeBase o name X.env (eval o X.env)=eval o X.env:=by rfl)
  (hfew:((backTo cpos (starEach (e::es) X.env)).all (fun x=>!x.1)&&(backToKw cpos (keywordEach [] X.env)).all (fun x=>x.1.isSome)
   && decide ((e::es).length+([]:List Keyword).length+(if ([]:List Keyword).isEmpty then 0 else 1)<30))=true:=by rfl)
  (hline:(apos.endLine==cpos.line)=true:=by rfl) (hs:starEach (e::es) X.env=(false,eval e X.env)::starEach es X.env:=by rfl) (hplain:(backTo cpos (starEach es X.env)).any (·.1)=false:=by rfl) :
  PE X (.Call (.Attribute o name apos) (e::es) [] cpos) (tM Γ W (mMtT T f mo ma)):=(pe_bm pa slot hty hm (je_f ho) ha hbase hfew hline hs hplain).imp (tBM_mt hK hf)
end
def appendD:D→List D→Option (D×D)
 | .lst xs,[y]=>if xs.length<sizeLine then some (.lst (xs++[y]),.non) else none
 | _,_=>none
theorem appendD_ok {G:Gx}:MutOk G rAppend appendD:=by
 refine ⟨fun d ds z h=>by cases d <;> first | rfl | (simp [appendD] at h),?_⟩
 intro F H a xs d ds d' z Q e n c t q k
 unfold appendD at q
 split at q
 ·rename_i ys y
  split at q
  ·rename_i w
   cases q
   obtain ⟨vs,h1,t1⟩:=c
   cases t with
   | cons h t' =>
    cases t'
    exact ⟨a,vs,_,rfl,rfl,h1,by rw [t1.length]; exact w,k _ _ ⟨_,upd_same,t1.append (.cons h .nil)⟩ .non⟩
  ·cases q
 ·cases q
def idxD (p:PyData):List PyData→Option Nat
 | []=>none
 | z::zs=>if PyData.eqv z p then some 0 else (idxD p zs).map (·+1)
theorem idxD_ok {p:PyData}:∀ {zs:List PyData} {j:Nat},idxD p zs=some j→(∃ z,zs[j]?=some z∧PyData.eqv z p=true)∧∀ (m:Nat) (z':PyData),m<j→zs[m]?=some z'→PyData.eqv z' p=false
 | [],_,e=>by cases e
 | z::zs,j,e=>by
  unfold idxD at e
  split at e
  ·rename_i w
   cases e
   exact ⟨⟨z,rfl,w⟩,fun m z' h=>by omega⟩
  ·rename_i w
   obtain ⟨k,h,rfl⟩:=Option.map_eq_some_iff.mp e
   obtain ⟨⟨z2,h1,h2⟩,h3⟩:=idxD_ok h
   refine ⟨⟨z2,by simpa using h1,h2⟩,fun m z' hm hz=>?_⟩
   cases m with
   | zero=>simp at hz; subst hz; simpa using w
   | succ m=>exact h3 m z' (by omega) (by simpa using hz)
def indexD:D→List D→Option Res
 | .lst xs,[y]=>match toPys xs,toPy y with
  | some ps,some p=>if SeqAt.shaped (.list ps)&&SeqAt.shaped p then (idxD p ps).map fun j=>.val (.int (j:Nat)) else none
  | _,_=>none
 | _,_=>none
theorem indexD_ok {G:Gx}:MtOk G (rIndexD G.K) indexD:=by
 intro F H x xs d ds res Q e v vs q k
 unfold indexD at q
 split at q
 ·rename_i ys y
  split at q
  ·rename_i ps p e1 e2
   split at q
   ·rename_i w
    have w:=Bool.and_eq_true_iff.mp w
    obtain ⟨j,h,rfl⟩:=Option.map_eq_some_iff.mp q
    obtain ⟨⟨z,h1,h2⟩,h3⟩:=idxD_ok h
    obtain ⟨vy,rfl,hy⟩:=vs.one
    have hl:=v.py e (show toPy (.lst ys)=some (.list ps) by simp [toPy,e1])
    obtain ⟨a,_,rfl,_⟩:=v.lst e
    exact ⟨a,vy,p,ps,j,z,rfl,rfl,hl,hy.py e e2,w.1,w.2,h1,h2,h3,k _ F H (.refl e) (.int _)⟩
   ·cases q
  ·cases q
 ·cases q
def joinD:D→List D→Option Res
 | .str a,[.lst xs]=>match strsD xs with
  | some ys=>if (ys.map (·.length)).sum+ys.length * a.length≤16777216 then some (.val (.str (Txt.join a ys))) else none
  | none=>none
 | .str a,[.tup xs]=>match strsD xs with
  | some ys=>if (ys.map (·.length)).sum+ys.length * a.length≤16777216 then some (.val (.str (Txt.join a ys))) else none
  | none=>none
 | _,_=>none
def rJoin (K:PySem.W.Frag):V→List V→Hp→VK→Prop:=fun x xs H Q=>∃ a p,∃ ys:List Str,x=.str a∧xs=[.ref p]∧(SqL K H p (ys.map V.str)∨SqT K H p (ys.map V.str)) ∧
  (ys.map (·.length)).sum+ys.length * a.length≤16777216∧Q (.str (Txt.join a ys)) H
theorem joinD_ok {G:Gx}:MtOk G (rJoin G.K) joinD:=by
 intro F H x xs d ds res Q e v vs q k
 unfold joinD at q
 split at q
 ·rename_i a ys
  split at q
  ·rename_i zs e1
   split at q
   ·rename_i w
    cases q
    obtain ⟨vy,rfl,hy⟩:=vs.one
    obtain ⟨p,us,rfl,h1,t⟩:=hy.lst e
    exact ⟨a,p,zs,v.str,rfl,.inl (by rw [← strs_ok t e1]; exact SqL.of h1),w,k _ F H (.refl e) (.str _)⟩
   ·cases q
  ·cases q
 ·rename_i a ys
  split at q
  ·rename_i zs e1
   split at q
   ·rename_i w
    cases q
    obtain ⟨vy,rfl,hy⟩:=vs.one
    obtain ⟨p,us,rfl,h1,t⟩:=hy.tup e
    exact ⟨a,p,zs,v.str,rfl,.inr (by rw [← strs_ok t e1]; exact h1),w,k _ F H (.refl e) (.str _)⟩
   ·cases q
  ·cases q
 ·cases q
def putKD (kvs:List (Key×D))(k:Key)(v:D):List (Key×D) :=
 if (kvs.any fun kv=>decide (kv.1=k))=true then kvs.map (fun kv=>if kv.1=k then (kv.1,v) else kv) else kvs++[(k,v)]
theorem DpK.any {G:Gx}{F:Hp}{k:Key}:∀ {vs:List (Key×V)} {ds:List (Key×D)},DpK G F vs ds→(vs.any fun kv=>decide (kv.1=k))=(ds.any fun kv=>decide (kv.1=k))
 | _,_,.nil=>rfl
 | _,_,.cons _ t=>by simp [DpK.any (k:=k) t]
theorem DpK.app {G:Gx}{F:Hp}:∀ {vs ws:List (Key×V)} {ds es:List (Key×D)},DpK G F vs ds→DpK G F ws es→DpK G F (vs++ws) (ds++es)
 | _,_,_,_,.nil,s=>s
 | _,_,_,_,.cons h t,s=>.cons h (DpK.app t s)
theorem DpK.repl {G:Gx}{F:Hp}{k:Key}{v:V}{d:D}(hd:Dp G F v d):∀ {vs:List (Key×V)} {ds:List (Key×D)},DpK G F vs ds→DpK G F (vs.map fun kv=>if kv.1=k then (kv.1,v) else kv) (ds.map fun kv=>if kv.1=k then (kv.1,d) else kv)
 | _,_,.nil=>.nil
 | _,_,.cons (k:=k') h t=>by
  simp only [List.map_cons]
  by_cases e:k'=k
  ·simp only [e,if_true]; exact .cons hd (DpK.repl hd t)
  ·simp only [e,if_false]; exact .cons h (DpK.repl hd t)
theorem DpK.put {G:Gx}{F:Hp}{k:Key}{v:V}{d:D}(hd:Dp G F v d){vs:List (Key×V)}{ds:List (Key×D)}(t:DpK G F vs ds):DpK G F (putK vs k v) (putKD ds k d):=by
 unfold putK putKD
 rw [t.any]
 split
 ·exact t.repl hd
 ·exact t.app (.cons hd .nil)
def setD:D→D→D→Option D
 | .lst xs,.int i,v=>(ixN xs.length i).map fun j=>.lst (xs.set j v)
 | .dct kvs,k,v=>if kvs.length<sizeLine then (keyD k).map fun k=>.dct (putKD kvs k v) else none
 | .dctO kvs,k,v=>if kvs.length<sizeLine then (keyD k).bind fun k=>if gU k kvs then some (.dctO (gP k v kvs)) else none else none
 | _,_,_=>none
theorem Ct.putK {G:Gx}{F H:Hp}{a:Addr}{kds:List (Key×D)}{kvs:List (Key×V)}{L1 Ld:List Addr}{k:Key}{v:V}{d:D}(h:H a=some (.dK kvs))(t:KdP G F H kvs kds L1)(n:a∉L1)(hd:Kd G F H v d Ld)(nd:∀ b∈Ld,b∉L1∧b≠a)(u:gU k kds=true) :
  ∃ L',Ct G F (L2.upd H a (.dK (L2.putK kvs k v))) a (.dctO (gP k d kds)) L'∧∀ b∈L',b=a∨b∈L1∨b∈Ld:=by
 obtain ⟨L',⟨q1,q2⟩,q3⟩:=kdp_put (k:=k) hd t fun b hb=>(nd b hb).1
 have na:a∉L':=fun z=>by
  rcases q3 a z with z | z
  ·exact n z
  ·exact (nd a z).2 rfl
 refine ⟨a::L',.dct (L:=L') upd_same ?_ ?_ na,fun b hb=>?_⟩
 ·rw [putK_g kvs (by rw [gU_keys t.1]; exact u)]; exact q1
 ·rw [putK_g kvs (by rw [gU_keys t.1]; exact u)]
  exact q2.mono (Same.refl _) fun b hb o w=>by rw [upd_ne (show b≠a by rintro rfl; exact na hb)]; exact w
 ·rcases List.mem_cons.mp hb with rfl | hb
  ·exact .inl rfl
  ·exact .inr (q3 b hb)
theorem Rel.setO {Γ:Gm}{ρ:Rho}{σ:St}{F H:Hp}{i:Nat}{b:Option Nat}{kds:List (Key×D)}{a:Addr}{L:List Addr}{k:Key}{v:V}{d:D}(R:Rel Γ ρ σ F H)(q:ρ[i]?=some (some (.own b (.dctO kds))))(hs:σ[i]?=some (some (.ref a)))(c0:Ct Γ.G F H a (.dctO kds) L)(hd:Dp Γ.G F v d)(u:gU k kds=true) :
  ∃ kvs,H a=some (.dK kvs)∧kvs.length=kds.length∧Stp Γ ρ σ F H (ρ.set i (some (.own b (.dctO (gP k d kds))))) σ F (L2.upd H a (.dK (L2.putK kvs k v))):=by
 have c1:=c0
 cases c0 with
 | flat c=>exact c.elim
 | dct h e t n =>
  rename_i kvs L1
  obtain ⟨L',ct,sb⟩:=Ct.putK (k:=k) (v:=v) (d:=d) h ⟨e,t⟩ n (.fz hd) (Ld:=[]) (fun b hb=>by cases hb) u
  refine ⟨kvs,h,by simpa using congrArg List.length e,R.chg q hs c1 (fun c hc o w=>?_) (fun c o w=>?_) ct fun c hc=>?_⟩
  ·rw [upd_ne (show c≠a by rintro rfl; exact hc (List.mem_cons_self ..))]; exact w
  ·by_cases z:c=a
   ·subst z; exact ⟨_,upd_same⟩
   ·exact ⟨o,by rw [upd_ne z]; exact w⟩
  ·rcases sb c hc with rfl | z | z
   ·exact .inl (List.mem_cons_self ..)
   ·exact .inl (List.mem_cons_of_mem _ z)
   ·cases z
def rSetD:V→V→V→Hp→(Hp→Prop)→Prop:=fun o i v H Q=>rSetL o i v H Q∨∃ a H',o=.ref a∧DPut H a i v H'∧Q H'
theorem set_D {X:Cx}(hu:X.A.units+1<cLine):PSet X rSetD:=by
 intro pins s σ H o i v ov iv u Q I ro ri rv h
 rcases h with h | ⟨a,H',rfl,g,q⟩
 ·exact set_list pins s σ H o i v ov iv u Q I ro ri rv h
 ·obtain rfl:ov=Value.ref a:=ro
  exact d_setItem hu I g ri rv fun s' I'=>⟨H',I',q⟩
def storeR (rv ro ri:Res)(ρ:Rho):SOut:=match ro with
 | .at s=>match settle rv ρ with
  | some (d,ρ1)=>(match ρ1[s]?,resolve ρ1 ri with
   | some (some (.own b c)),some i=>(match setD c i d with
    | some c'=>.nx (ρ1.set s (some (.own b c')))
    | none=>.stuck)
   | _,_=>.stuck)
  | none=>.stuck
 | _=>.stuck
def mStore (mo mi me:M):MS:=fun ρ=>bindSF (me ρ) fun rv ρ1=>bindSF (mo ρ1) fun ro ρ2=>bindSF (mi ρ2) fun ri ρ3=>storeR rv ro ri ρ3
section
variable {X:Cx}{Γ:Gm}{W:WX}{o i e:Expr}{mo mi me m:M}{pos pos':Pos}
theorem js_store (hu:X.A.units+1<cLine)(he:PE X e (tM Γ W me))(ho:PE X o (tM Γ W mo))(hi:PE X i (tM Γ W mi))(hs:swapsWithSole [.Subscript o i pos'] e pos.line X.env=pure false:=by rfl)(hw:swappedStores [.Subscript o i pos'] e X.env=pure none:=by rfl)(h1:(assignEach [.Subscript o i pos'] X.env).map (·.2)=[assign (.Subscript o i pos') X.env]:=by rfl)
  (hsub:PG X (.Subscript o i pos') (gSub (tF Γ W mo) (tF Γ W mi) rSetD):=by exact pg_sub (je_f ‹_›) (je_f ‹_›) (set_D ‹_›)):PS X (.Assign [.Subscript o i pos'] e pos) (tMS Γ W (mStore mo mi me)) :=
 (ps_asg (je_f he) hsub hs hw h1).imp fun D σ H ⟨ρ,F,R,p⟩=>⟨ρ,F,R,p.bindF fun rv ρ1 v F1 H1 s1 hv p1=>⟨ρ1,F1,s1.rel,p1.bindF fun ro ρ2 x F2 H2 s2 ho' p2=>⟨ρ2,F2,s2.rel,p2.bindF fun ri ρ3 y F3 H3 s3 hi' p3=>by
  unfold storeR at p3
  split at p3
  ·rename_i s
   split at p3
   ·rename_i d ρ4 e1
    obtain ⟨F4,s4,q4⟩:=settle_ok s3.rel (hv.mono (s2.subF.trans s3.subF)) e1
    split at p3
    ·rename_i b c k e2 e3
     split at p3
     ·rename_i c' e4
      have ho':σ[s]?=some (some x):=ho'
      obtain ⟨a,L,z,ce,hb,ow⟩:=s4.rel.slotO e2 ho'
      subst z
      have vi:=(hi'.mono s4.subF).view s4.rel e3
      have fin:flatD c=true→∀ oo,Cell Γ.G F4 (L2.upd H3 a oo) a c'→D.nx σ (L2.upd H3 a oo):=fun fl oo cc=>p3 σ F4 _ (s4.trans (s4.rel.upd e2 ho' ce fl cc))
      cases c with
      | lst xs =>
       cases k with
       | int i =>
        simp only [setD,Option.map_eq_some_iff] at e4
        obtain ⟨j,h1,rfl⟩:=e4
        obtain ⟨vs,h2,t⟩:=(ce.cell rfl).1
        exact .inl ⟨a,vs,i,j,rfl,vi.int,h2,by rw [t.length]; exact h1,fin rfl _ ⟨_,upd_same,t.set q4 j⟩⟩
       | _=>simp [setD] at e4
      | dct kvs =>
       simp only [setD] at e4
       split at e4
       ·rename_i w
        obtain ⟨kk,h1,rfl⟩:=Option.map_eq_some_iff.mp e4
        obtain ⟨vs,h2,t⟩:=(ce.cell rfl).1
        have hk:=keyD_ok vi h1
        subst hk
        exact .inr ⟨a,_,rfl,DPut.k h2 (by rw [t.length]; exact w),fin rfl _ ⟨_,upd_same,t.put q4⟩⟩
       ·cases e4
      | dctO kvs =>
       simp only [setD] at e4
       split at e4
       ·rename_i w
        obtain ⟨kk,h1,h2⟩:=Option.bind_eq_some_iff.mp e4
        split at h2
        ·rename_i u
         cases h2
         obtain ⟨vs,h3,h4,st⟩:=s4.rel.setO e2 ho' ce q4 u
         have hk:=keyD_ok vi h1
         subst hk
         exact .inr ⟨a,_,rfl,DPut.k h3 (by rw [h4]; exact w),p3 σ F4 _ (s4.trans st)⟩
        ·cases h2
       ·cases e4
      | _=>simp [setD] at e4
     ·exact p3.elim
    ·exact p3.elim
   ·exact p3.elim
  ·exact p3.elim⟩⟩⟩
end
section
variable {X:Cx}{Γ:Gm}{W:WX}{e:Expr}{m:M}{pos pos':Pos}
theorem je_glob {x:Str}{v:V}{u:Value}{d:D}(hm:X.mg x=some u)(r:RelV v u)(hd:∀ F,Dp Γ.G F v d)(hg:Gl X x:=by rfl)(h:(x==("__debug__" : Str))=false:=by decide):PE X (.Name x pos) (tM Γ W (mC d)):=je_const (pe_glob hg hm r h) hd
theorem je_gint {x:Str}{i:Int}(hm:∃ t,X.mg x=some (.int i t))(hg:Gl X x:=by rfl)(h:(x==("__debug__" : Str))=false:=by decide):PE X (.Name x pos) (tM Γ W (mC (.int i))):=let ⟨t,hm⟩:=hm; je_glob (v:=.int i) hm ⟨t,rfl⟩ (fun _=>.int i) hg h
theorem je_gstr {x z:Str}(hm:∃ t,X.mg x=some (.str z t))(hg:Gl X x:=by rfl)(h:(x==("__debug__" : Str))=false:=by decide):PE X (.Name x pos) (tM Γ W (mC (.str z))):=let ⟨t,hm⟩:=hm; je_glob (v:=.str z) hm ⟨t,rfl⟩ (fun _=>.str z) hg h
theorem je_ty {x:Str}{n:String}(hm:X.mg x=none)(hv:bootBuiltins x=some (.type n))(hg:Gl X x:=by rfl)(hn:x ≠ "__name__":=by decide)(h:(x==("__debug__" : Str))=false:=by decide):PE X (.Name x pos) (tM Γ W (mC (.ty n))):=je_const (pe_bltn (v:=.ty n) hg hm hv rfl hn h) fun _=>.ty n
end
structure FnFact (P:Program)(w:World)(K:PySem.W.Frag)(mg:Str→Option Value)(base:Heap)(G:Gx)(Θ:List NdefX.NTab)(x:Str)(n k:Nat)(ps:List Str)(g:Fn):Prop where
 ex:∃ f fd,mg x=some (.ref f)∧PySem.W.keepIn K (.ref f)=true∧Binds K fd ps []∧FnOkG P w K mg base k f fd ps (spF G Θ n g)
section
variable {X:Cx}{Γ:Gm}{W:WX}{e:Expr}{ma:MA}{pos p:Pos}{es:List Expr}{x:Str}{k n:Nat}{ps:List Str}{mk:List Bool}{g:Fn}
theorem je_callF (tk:Takes X W)(Fo:FnFact X.prog X.w X.K X.mg X.base Γ.G Γ.T x n k ps g)(hr:RG k X.A)(ha:PA X (e::es) (tMA Γ W ma))
  (hg:Gl X x:=by rfl) (hdb:(x==("__debug__" : Str))=false:=by decide) (he:starEach (e::es) X.env=(false,eval e X.env)::starEach es X.env:=by rfl) (hpl:(backTo pos (starEach es X.env)).any (·.1)=false:=by rfl) :
  PE X (.Call (.Name x p) (e::es) [] pos) (tM Γ W (mCall n mk g ma)):=by
 obtain ⟨f,fd,h1,h2,h3,h4⟩:=Fo.ex
 exact je_call tk h4 hr h1 h2 h3 ha hg hdb he hpl
end
theorem okf_of {P:Program}{w:World}{K:PySem.W.Frag}{mg:Str→Option Value}{base:Heap}{G:Gx}{Θ:List NdefX.NTab}{x qual:Str}{params:Arguments}{body:List Stmt}{scope:Scope}{f:Addr}{fd:FuncData}{dvs:List V}{kws:List (Str×V)}{N ps:List Str}{n nl k:Nat}{m:MS}
  (F:FunD K x qual params body scope dvs kws f fd) (S:FnScope N ps scope) (hn:ps.length=n) (hN:N.length=n+nl)
  (hbody:∀ (cdv:Value) (A:Around) (outer:List Env) (s:Shared) (H:Hp) (vs:List V) (E:XK) (U:Addr→Prop),RG k (A.deeper (envOfC qual scope s.heap.objs.size f cdv)) →
   PSs (cxOf (L2.CX P w) P w K mg base N qual scope f cdv A outer s H E) body (tMS (.of G Θ (bet vs) U) (fun cls d _ H'=>E cls d H') m)):FnOkG P w K mg base (k+1) f fd ps (spF G Θ n (mkFn nl m)) :=
 okg_of F S (fun vs H Q E h=>by rw [hn]; exact h.1) fun cdv A outer s H vs Q E hr h=>body_ok (N:=N) hN h fun U=>hbody cdv A outer s H vs E U hr
theorem fact_of {P:Program}{w:World}{K:PySem.W.Frag}{mg:Str→Option Value}{base:Heap}{G:Gx}{Θ:List NdefX.NTab}{x qual:Str}{params:Arguments}{body:List Stmt}{scope:Scope}{f:Addr}{fd:FuncData}{ps:List Str}{n k:Nat}{g:Fn}
  (F:FunD K x qual params body scope [] [] f fd) (hm:mg x=some (.ref f))
  (hb:∀ (kV doc pm:Value) (an:Option Addr) (cdv ct:Value) (us:List Value),us.length=ps.length→bindArgs (PySem.W.fnOf x qual params body scope .none kV doc pm an cdv ct) ⟨us,[]⟩=pure (ps.zip us))
  (O:FnOkG P w K mg base k f fd ps (spF G Θ n g)):FnFact P w K mg base G Θ x n k ps g :=
 ⟨f,fd,hm,F.kp,F.bindsN hb,O⟩
theorem walk_ofW {l:PySem.W.OpenLaw}{n k:Nat}{q:Program}{loose:List Str}{XP:(Str→Option Value)→Heap→Prop}{YP:World→Heap→Prop}{d:DefRec}{x:Str}
  (hn:l.most=some n) (hn2:n≤sizeLine) (hdf:d.params.defaults=[]) (hr:RG k callerA)
  (F:∀ (w:World) (mg:Str→Option Value) (fa:Addr) (h:Heap),YP w h→h.Ns mainGlobals mg→mg d.name=some (.ref fa) →
   ∃ (K:PySem.W.Frag) (fd:FuncData) (sp:Sp),K.In h∧(∀ (s:Shared) (u:Value),BindsTo s fd ⟨[u],[]⟩ [(x,u)]) ∧
    (∀ (H:Hp) (a:Addr) (ns:List Int),ns.length≤n→Only H→SqL K H a (ns.map V.int)→sp [.ref a] H (fun v _=>v=.bl true) fun _ _ _=>False) ∧
    ∀ base:Heap,K.In base→base.Ns mainGlobals mg→FnOkG l.prog w K mg base k fa fd [x] sp)
  (hCX:∀ (w:World) (H:Hp) (s:Shared) (e:Value) (s':Shared),L2.CX l.prog w [] H s (fun _ _ _=>False) e s'→False) :
  PySem.W.WalkO q loose XP YP l.row.toRowW d [] (fun f vs=>PySem.call f vs):=by
 refine Att.attach_call hn hdf fun w s₀ s₁ mg mb fa o pm cd doc a vs ns G Y ho hd hcd hmg hobj hints hlen hg=>?_
 obtain ⟨K,fd,sp,KX,hb,hsp,hF⟩:=F w mg fa _ Y G.T.g hmg
 exact law_callG KX G.T.g G.T.b G.T.builtins G.T.nolimit hg hobj hints (Nat.le_trans hlen hn2) hr hF hb (fun H hO hS=>hsp H a ns hlen hO hS) fun H e s'=>hCX w H s₁ e s'
theorem law_sp {G:Gx}{f:Fn}(h:∀ ns:List Int,ns.length≤63→f [.v (.scr ns)]=.ret (.val (.bl true)) [])(H:Hp)(a:Addr)(ns:List Int)(hl:ns.length≤63)(hS:SqL G.K H a (ns.map V.int)):spF G [] 1 f [.ref a] H (fun v _=>v=.bl true) fun _ _ _=>False:=by
 refine ⟨rfl,H,[.v (.scr ns)],[],fun _=>False,Same.refl _,.v (.scr hS) .nil,(fun a h=>by cases h),⟨(fun a h=>h.elim),nofun,nofun,nofun⟩,?_⟩
 rw [h ns hl]
 intro v F' H' L' _ _ _ q
 cases q
 rfl
theorem hCX_ok {P:Program}(w:World)(H:Hp)(s:Shared)(e:Value)(s':Shared)(h:L2.CX P w [] H s (fun _ _ _=>False) e s'):False:=by
 obtain ⟨_,_,_,_,_,_,_,_,_,_,_,_,z⟩:=h
 exact z.elim
theorem hu1 {A:Around}{k:Nat}(hr:RG k A):A.units+1<cLine:=by have:=hr.un; omega
theorem hu64 {A:Around}{k:Nat}(hr:RG k A):A.units+64<cLine:=by have:=hr.un; omega
theorem hu65 {A:Around}{k:Nat}(hr:RG k A):A.units+65<cLine:=by have:=hr.un; omega
section
variable {α β:Type}
@[simp] theorem x_bindO {a:α}{ρ:Rho}{k:α→Rho→Out β}:bindO (.ok a ρ) k=k a ρ:=rfl
@[simp] theorem x_bindOx {x:Exc}{ρ:Rho}{k:α→Rho→Out β}:bindO (.exc x ρ) k=.exc x ρ:=rfl
@[simp] theorem x_bindOs {k:α→Rho→Out β}:bindO .stuck k=.stuck:=rfl
@[simp] theorem x_bindFv {d:D}{ρ:Rho}{k:Res→Rho→Out β}:bindF (.ok (.val d) ρ) k=k (.val d) ρ:=rfl
@[simp] theorem x_bindFn {d:D}{ρ:Rho}{k:Res→Rho→Out β}:bindF (.ok (.new d) ρ) k=k (.val (strip d)) ρ:=rfl
@[simp] theorem x_bindFa {i:Nat}{ρ:Rho}{k:Res→Rho→Out β}:bindF (.ok (.at i) ρ) k=k (.at i) ρ:=rfl
@[simp] theorem x_bindFx {x:Exc}{ρ:Rho}{k:Res→Rho→Out β}:bindF (.exc x ρ) k=.exc x ρ:=rfl
@[simp] theorem x_bindSO {a:α}{ρ:Rho}{k:α→Rho→SOut}:bindSO (.ok a ρ) k=k a ρ:=rfl
@[simp] theorem x_bindSOx {x:Exc}{ρ:Rho}{k:α→Rho→SOut}:bindSO (.exc x ρ) k=.exc x ρ:=rfl
@[simp] theorem x_bindSFv {d:D}{ρ:Rho}{k:Res→Rho→SOut}:bindSF (.ok (.val d) ρ) k=k (.val d) ρ:=rfl
@[simp] theorem x_bindSFn {d:D}{ρ:Rho}{k:Res→Rho→SOut}:bindSF (.ok (.new d) ρ) k=k (.val (strip d)) ρ:=rfl
@[simp] theorem x_bindSFa {i:Nat}{ρ:Rho}{k:Res→Rho→SOut}:bindSF (.ok (.at i) ρ) k=k (.at i) ρ:=rfl
@[simp] theorem x_bindSFx {x:Exc}{ρ:Rho}{k:Res→Rho→SOut}:bindSF (.exc x ρ) k=.exc x ρ:=rfl
def optO (o:Option α)(k:α→Out β):Out β:=match o with | some a=>k a | none=>.stuck
def optS (o:Option α)(k:α→SOut):SOut:=match o with | some a=>k a | none=>.stuck
def optF (o:Option α)(k:α→FOut):FOut:=match o with | some a=>k a | none=>.stuck
def bindN (o:Out α)(k:α→Rho→Out β):Out β:=match o with | .ok a ρ=>k a ρ | _=>.stuck
def loopS (o:SOut)(k:Rho→SOut):SOut:=match o with | .nx ρ=>k ρ | .ct ρ=>k ρ | .bk ρ=>.nx ρ | o=>o
def seqS (o:SOut)(k:Rho→SOut):SOut:=match o with | .nx ρ=>k ρ | o=>o
@[simp] theorem x_optO {a:α}{k:α→Out β}:optO (some a) k=k a:=rfl
@[simp] theorem x_optOn {k:α→Out β}:optO none k=.stuck:=rfl
@[simp] theorem x_optS {a:α}{k:α→SOut}:optS (some a) k=k a:=rfl
@[simp] theorem x_optF {a:α}{k:α→FOut}:optF (some a) k=k a:=rfl
@[simp] theorem x_bindN {a:α}{ρ:Rho}{k:α→Rho→Out β}:bindN (.ok a ρ) k=k a ρ:=rfl
@[simp] theorem x_bindNx {x:Exc}{ρ:Rho}{k:α→Rho→Out β}:bindN (.exc x ρ) k=.stuck:=rfl
@[simp] theorem x_loopSn {ρ:Rho}{k:Rho→SOut}:loopS (.nx ρ) k=k ρ:=rfl
@[simp] theorem x_loopSc {ρ:Rho}{k:Rho→SOut}:loopS (.ct ρ) k=k ρ:=rfl
@[simp] theorem x_loopSb {ρ:Rho}{k:Rho→SOut}:loopS (.bk ρ) k=.nx ρ:=rfl
@[simp] theorem x_loopSr {r:Res}{ρ:Rho}{k:Rho→SOut}:loopS (.ret r ρ) k=.ret r ρ:=rfl
@[simp] theorem x_loopSx {x:Exc}{ρ:Rho}{k:Rho→SOut}:loopS (.exc x ρ) k=.exc x ρ:=rfl
@[simp] theorem x_seqSn {ρ:Rho}{k:Rho→SOut}:seqS (.nx ρ) k=k ρ:=rfl
@[simp] theorem x_seqSr {r:Res}{ρ:Rho}{k:Rho→SOut}:seqS (.ret r ρ) k=.ret r ρ:=rfl
@[simp] theorem x_seqSx {x:Exc}{ρ:Rho}{k:Rho→SOut}:seqS (.exc x ρ) k=.exc x ρ:=rfl
@[simp] theorem x_seqSb {ρ:Rho}{k:Rho→SOut}:seqS (.bk ρ) k=.bk ρ:=rfl
@[simp] theorem x_seqSc {ρ:Rho}{k:Rho→SOut}:seqS (.ct ρ) k=.ct ρ:=rfl
end
@[simp] theorem x_stripL {xs:List D}:strip (.lst xs)=.lst xs:=by simp [strip]
@[simp] theorem x_stripT {xs:List D}:strip (.tup xs)=.tup xs:=by simp [strip]
@[simp] theorem x_stripD {xs:List (Key×D)}:strip (.dct xs)=.dct xs:=by simp [strip]
@[simp] theorem x_stripO {c:Nat}{xs:List (Str×D)}:strip (.obj c xs)=.obj c xs:=by simp [strip]
@[simp] theorem x_stripI {i:Int}:strip (.int i)=.int i:=by simp [strip]
@[simp] theorem x_stripS {i:Str}:strip (.str i)=.str i:=by simp [strip]
@[simp] theorem x_stripB {i:Bool}:strip (.bl i)=.bl i:=by simp [strip]
@[simp] theorem x_stripN:strip .non=.non:=by simp [strip]
@[simp] theorem x_stripLO {xs:List D}:strip (.lstO xs)=.lst (strips xs):=by simp [strip]
@[simp] theorem x_stripDO {xs:List (Key×D)}:strip (.dctO xs)=.dct (stripK xs):=by simp [strip]
@[simp] theorem x_stripOO {c:Nat}{xs:List (Str×D)}:strip (.objO c xs)=.obj c (stripF xs):=by simp [strip]
@[simp] theorem x_stripK {d:D}:strip (.kid d)=strip d:=by simp [strip]
@[simp] theorem x_stripsN:strips []=[]:=by simp [strips]
@[simp] theorem x_stripsC {d:D}{ds:List D}:strips (d::ds)=strip d::strips ds:=by simp [strips]
@[simp] theorem x_stripKN:stripK []=[]:=by simp [stripK]
@[simp] theorem x_stripKC {k:Key}{d:D}{ds:List (Key×D)}:stripK ((k,d)::ds)=(k,strip d)::stripK ds:=by simp [stripK]
@[simp] theorem x_stripFN:stripF []=[]:=by simp [stripF]
@[simp] theorem x_stripFC {k:Str}{d:D}{ds:List (Str×D)}:stripF ((k,d)::ds)=(k,strip d)::stripF ds:=by simp [stripF]
def slotD:Option (Option Slot)→Option D
 | some (some (.val d))=>some d
 | some (some (.own _ d))=>some d
 | _=>none
@[simp] theorem x_slotDv {d:D}:slotD (some (some (.val d)))=some d:=rfl
@[simp] theorem x_slotDo {b:Option Nat}{d:D}:slotD (some (some (.own b d)))=some d:=rfl
@[simp] theorem x_resV {ρ:Rho}{d:D}:resolve ρ (.val d)=some d:=rfl
@[simp] theorem x_resA {ρ:Rho}{i:Nat}:resolve ρ (.at i)=slotD ρ[i]?:=by
 unfold resolve slotD; rfl
def varR (o:Option (Option Slot))(i:Nat)(ρ:Rho):Out Res:=match o with
 | some (some (.val d))=>.ok (.val d) ρ
 | some (some (.own _ _))=>.ok (.at i) ρ
 | _=>.stuck
@[simp] theorem x_varRv {d:D}{i:Nat}{ρ:Rho}:varR (some (some (.val d))) i ρ=.ok (.val d) ρ:=rfl
@[simp] theorem x_varRo {b:Option Nat}{d:D}{i:Nat}{ρ:Rho}:varR (some (some (.own b d))) i ρ=.ok (.at i) ρ:=rfl
@[simp] theorem x_mVar {i:Nat}{ρ:Rho}:mVar i ρ=varR ρ[i]? i ρ:=by unfold mVar varR; rfl
@[simp] theorem x_mC {d:D}{ρ:Rho}:mC d ρ=.ok (.val d) ρ:=rfl
def settleA (o:Option (Option Slot))(i:Nat)(ρ:Rho):Option (D×Rho):=match o with
 | some (some (.val d))=>some (d,ρ)
 | some (some (.own none d))=>some (strip d,ρ.set i (some (.val (strip d))))
 | _=>none
@[simp] theorem x_settleAv {d:D}{i:Nat}{ρ:Rho}:settleA (some (some (.val d))) i ρ=some (d,ρ):=rfl
@[simp] theorem x_settleAo {d:D}{i:Nat}{ρ:Rho}:settleA (some (some (.own none d))) i ρ=some (strip d,ρ.set i (some (.val (strip d)))):=rfl
@[simp] theorem x_setV {d:D}{ρ:Rho}:PyD.settle (.val d) ρ=some (d,ρ):=rfl
@[simp] theorem x_setA {i:Nat}{ρ:Rho}:PyD.settle (.at i) ρ=settleA ρ[i]? i ρ:=by unfold PyD.settle settleA; rfl
def fOut (o:Option Res)(ρ:Rho):Out Res:=match o with | some r=>.ok r ρ | none=>.stuck
@[simp] theorem x_fOut {r:Res}{ρ:Rho}:fOut (some r) ρ=.ok r ρ:=rfl
@[simp] theorem x_fOutn {ρ:Rho}:fOut none ρ=.stuck:=rfl
@[simp] theorem x_op2 {f:D→D→Option Res}{a b:Res}{ρ:Rho}:op2 f a b ρ=optO (resolve ρ a) fun x=>optO (resolve ρ b) fun y=>fOut (f x y) ρ:=by
 unfold op2 optO fOut; cases resolve ρ a <;> cases resolve ρ b <;> rfl
@[simp] theorem x_op1 {f:D→Option Res}{a:Res}{ρ:Rho}:op1 f a ρ=optO (resolve ρ a) fun x=>fOut (f x) ρ:=by
 unfold op1 optO fOut; cases resolve ρ a <;> rfl
@[simp] theorem x_mBin {f:D→D→Option Res}{ma mb:M}{ρ:Rho}:mBin f ma mb ρ=bindF (ma ρ) fun a ρ1=>bindF (mb ρ1) fun b ρ2=>op2 f a b ρ2:=rfl
@[simp] theorem x_blV {k:Bool}{ρ:Rho}:blR (.val (.bl k)) ρ=.ok k ρ:=rfl
def blA (o:Option (Option Slot))(ρ:Rho):Out Bool:=match o with | some (some (.val (.bl k)))=>.ok k ρ | _=>.stuck
@[simp] theorem x_blA {k:Bool}{ρ:Rho}:blA (some (some (.val (.bl k)))) ρ=.ok k ρ:=rfl
@[simp] theorem x_blAt {i:Nat}{ρ:Rho}:blR (.at i) ρ=blA ρ[i]? ρ:=by unfold blR blA; rfl
@[simp] theorem x_mBl {m:M}{ρ:Rho}:mBl m ρ=bindF (m ρ) fun a ρ1=>blR a ρ1:=rfl
@[simp] theorem x_mBinB {f:D→D→Option Res}{ma mb:M}{ρ:Rho}:mBinB f ma mb ρ=mBl (mBin f ma mb) ρ:=rfl
def kOut (o:Option Bool)(ρ:Rho):Out Bool:=match o with | some r=>.ok r ρ | none=>.stuck
@[simp] theorem x_kOut {r:Bool}{ρ:Rho}:kOut (some r) ρ=.ok r ρ:=rfl
@[simp] theorem x_truR {a:Res}{ρ:Rho}:truR a ρ=optO (resolve ρ a) fun d=>kOut (truD d) ρ:=by
 unfold truR optO kOut; cases resolve ρ a <;> rfl
@[simp] theorem x_mTru {m:M}{ρ:Rho}:mTru m ρ=bindF (m ρ) fun a ρ1=>truR a ρ1:=rfl
@[simp] theorem x_truDn:truD .non=some false:=rfl
@[simp] theorem x_truDb {b:Bool}:truD (.bl b)=some b:=rfl
@[simp] theorem x_truDi {i:Int}:truD (.int i)=some (i != 0):=rfl
@[simp] theorem x_truDl {xs:List D}:truD (.lst xs)=some (!xs.isEmpty):=rfl
@[simp] theorem x_truDt {xs:List D}:truD (.tup xs)=some (!xs.isEmpty):=rfl
@[simp] theorem x_mChain {f g:D→D→Option Res}{ma mb mc:M}{ρ:Rho}:mChain f g ma mb mc ρ=bindF (ma ρ) fun a ρ1=>bindF (mb ρ1) fun b ρ2=>bindF (op2 f a b ρ2) fun z ρ3=>bindO (blR z ρ3) fun k ρ3 =>
 if k=true then bindF (mc ρ3) fun c ρ4=>op2 g b c ρ4 else .ok (.val (.bl false)) ρ3:=rfl
@[simp] theorem x_mAndB {ta tb:MB}{ρ:Rho}:mAndB ta tb ρ=bindO (ta ρ) fun k ρ1=>if k=true then tb ρ1 else .ok false ρ1:=rfl
@[simp] theorem x_mOrB {ta tb:MB}{ρ:Rho}:mOrB ta tb ρ=bindO (ta ρ) fun k ρ1=>if k=true then .ok true ρ1 else tb ρ1:=rfl
@[simp] theorem x_mNotB {ta:MB}{ρ:Rho}:mNotB ta ρ=bindO (ta ρ) fun k ρ1=>.ok (!k) ρ1:=rfl
@[simp] theorem x_mAndV {ma mb:M}{ρ:Rho}:mAndV ma mb ρ=bindF (ma ρ) fun a ρ1=>bindO (blR a ρ1) fun k ρ1=>if k=true then mb ρ1 else .ok (.val (.bl false)) ρ1:=rfl
@[simp] theorem x_mOrV {ma mb:M}{ρ:Rho}:mOrV ma mb ρ=bindF (ma ρ) fun a ρ1=>bindO (blR a ρ1) fun k ρ1=>if k=true then .ok (.val (.bl true)) ρ1 else mb ρ1:=rfl
@[simp] theorem x_mNotV {ma:M}{ρ:Rho}:mNotV ma ρ=bindF (ma ρ) fun a ρ1=>bindO (blR a ρ1) fun k ρ1=>.ok (.val (.bl (!k))) ρ1:=rfl
@[simp] theorem x_mIf {t:MB}{ma mb:M}{ρ:Rho}:mIf t ma mb ρ=bindO (t ρ) fun k ρ1=>if k=true then ma ρ1 else mb ρ1:=rfl
@[simp] theorem x_mYes {ρ:Rho}:mYes ρ=.ok true ρ:=rfl
@[simp] theorem x_mNil {ρ:Rho}:mNil ρ=.ok [] ρ:=rfl
@[simp] theorem x_mCons {ma:M}{mr:MA}{ρ:Rho}:mCons ma mr ρ=bindF (ma ρ) fun a ρ1=>bindO (mr ρ1) fun as ρ2=>.ok (a::as) ρ2:=rfl
def consO {α:Type}:Option α→Option (List α)→Option (List α)
 | some a,some as=>some (a::as)
 | _,_=>none
@[simp] theorem x_consO {α:Type}{a:α}{as:List α}:consO (some a) (some as)=some (a::as):=rfl
@[simp] theorem x_resN {ρ:Rho}:resolves ρ []=some []:=rfl
@[simp] theorem x_resC {ρ:Rho}{r:Res}{rs:List Res}:resolves ρ (r::rs)=consO (resolve ρ r) (resolves ρ rs):=by
 show (match resolve ρ r,resolves ρ rs with | some d,some ds=>some (d::ds) | _,_=>none)=_
 cases resolve ρ r <;> cases resolves ρ rs <;> rfl
@[simp] theorem x_opN {f:List D→Option Res}{as:List Res}{ρ:Rho}:opN f as ρ=optO (resolves ρ as) fun ds=>fOut (f ds) ρ:=by
 unfold opN optO fOut; cases resolves ρ as <;> rfl
@[simp] theorem x_mCB {f:List D→Option Res}{ma:MA}{ρ:Rho}:mCB f ma ρ=bindO (ma ρ) fun as ρ1=>opN f as ρ1:=rfl
@[simp] theorem x_stN {ρ:Rho}:settles [] ρ=some ([],ρ):=rfl
def stC (o:Option (D×Rho))(k:Rho→Option (List D×Rho)):Option (List D×Rho):=match o with
 | some (d,ρ)=>(k ρ).map fun p=>(d::p.1,p.2)
 | none=>none
@[simp] theorem x_stC {d:D}{ρ:Rho}{k:Rho→Option (List D×Rho)}:stC (some (d,ρ)) k=(k ρ).map fun p=>(d::p.1,p.2):=rfl
@[simp] theorem x_stCons {r:Res}{rs:List Res}{ρ:Rho}:settles (r::rs) ρ=stC (PyD.settle r ρ) fun ρ1=>settles rs ρ1:=by
 simp only [settles,stC]
 cases PyD.settle r ρ with
 | none=>rfl
 | some p =>
  obtain ⟨d,ρ1⟩:=p
  simp only
  cases settles rs ρ1 with
  | none=>rfl
  | some p=>rfl
@[simp] theorem x_opS {f:List D→Option Res}{as:List Res}{ρ:Rho}:opS f as ρ=optO (settles as ρ) fun p=>fOut (f p.1) p.2:=by
 unfold opS optO fOut; cases settles as ρ <;> rfl
@[simp] theorem x_mCS {f:List D→Option Res}{ma:MA}{ρ:Rho}:mCS f ma ρ=bindO (ma ρ) fun as ρ1=>opS f as ρ1:=rfl
def intO {α:Type}(o:Option D)(k:Int→Out α):Out α:=match o with | some (.int i)=>k i | _=>.stuck
@[simp] theorem x_intO {α:Type}{i:Int}{k:Int→Out α}:intO (some (.int i)) k=k i:=rfl
@[simp] theorem x_partN {β:Type}{ρ:Rho}{k:Option Int→Rho→Out β}:part none ρ k=k none ρ:=rfl
@[simp] theorem x_partS {β:Type}{m:M}{ρ:Rho}{k:Option Int→Rho→Out β}:part (some m) ρ k=bindF (m ρ) fun r ρ1=>intO (resolve ρ1 r) fun i=>k (some i) ρ1:=by
 simp only [part,intO] <;> rfl
@[simp] theorem x_opSl {a:Res}{lo hi:Option Int}{ρ:Rho}:opSl a lo hi ρ=optO (resolve ρ a) fun x=>fOut (slD x lo hi) ρ:=by
 unfold opSl optO fOut; cases resolve ρ a <;> rfl
@[simp] theorem x_mSl {ma:M}{lo hi:Option M}{ρ:Rho}:mSl ma lo hi ρ=bindF (ma ρ) fun a ρ1=>part lo ρ1 fun l ρ2=>part hi ρ2 fun h ρ3=>opSl a l h ρ3:=rfl
@[simp] theorem x_guard {α:Type}{T:String}{o:Res}{ρ:Rho}{k:Out α}:guard T o ρ k=optO (resolve ρ o) fun d=>if tyOk T d then k else .stuck:=by
 unfold guard optO; cases resolve ρ o <;> rfl
@[simp] theorem x_mMutT {T:String}{f:D→List D→Option (D×D)}{mo:M}{ma:MA}{ρ:Rho}:mMutT T f mo ma ρ=bindF (mo ρ) fun o ρ1=>guard T o ρ1 (bindO (ma ρ1) fun rs ρ2=>mutR f o rs ρ2):=rfl
@[simp] theorem x_mMtT {T:String}{f:D→List D→Option Res}{mo:M}{ma:MA}{ρ:Rho}:mMtT T f mo ma ρ=bindF (mo ρ) fun o ρ1=>guard T o ρ1 (bindO (ma ρ1) fun rs ρ2=>mtR f o rs ρ2):=rfl
def ownO (o:Option (Option Slot)):Option (Option Nat×D):=match o with
 | some (some (.own b d))=>some (b,d)
 | _=>none
@[simp] theorem x_ownO {b:Option Nat}{d:D}:ownO (some (some (.own b d)))=some (b,d):=rfl
@[simp] theorem x_mutR {f:D→List D→Option (D×D)}{i:Nat}{rs:List Res}{ρ:Rho}:mutR f (.at i) rs ρ=optO (settles rs ρ) fun p=>optO (ownO p.2[i]?) fun q=>optO (f q.2 p.1) fun z=>.ok (.val z.2) (p.2.set i (some (.own q.1 z.1))):=by
 simp only [mutR,optO,ownO]
 cases settles rs ρ with
 | none=>rfl
 | some p =>
  obtain ⟨ds,ρ1⟩:=p
  simp only
  cases ρ1[i]? with
  | none=>rfl
  | some s =>
   cases s with
   | none=>rfl
   | some s =>
    cases s with
    | val d=>rfl
    | exn=>rfl
    | own b d=>simp only; cases f d ds <;> rfl
@[simp] theorem x_mtR {f:D→List D→Option Res}{ro:Res}{rs:List Res}{ρ:Rho}:mtR f ro rs ρ=optO (resolve ρ ro) fun d=>optO (resolves ρ rs) fun ds=>fOut (f d ds) ρ:=by
 unfold mtR optO fOut; cases resolve ρ ro <;> cases resolves ρ rs <;> rfl
@[simp] theorem x_mNext {ρ:Rho}:mNext ρ=.nx ρ:=rfl
@[simp] theorem x_mSeq {m1 m2:MS}{ρ:Rho}:mSeq m1 m2 ρ=seqS (m1 ρ) m2:=by unfold mSeq seqS; cases m1 ρ <;> rfl
@[simp] theorem x_setRv {i:Nat}{d:D}{ρ:Rho}:setR i (.val d) ρ=if i<ρ.length then .nx (ρ.set i (some (.val d))) else .stuck:=rfl
@[simp] theorem x_setRn {i:Nat}{d:D}{ρ:Rho}:setR i (.new d) ρ=if i<ρ.length then .nx (ρ.set i (some (.own none d))) else .stuck:=rfl
@[simp] theorem x_setRa {i j:Nat}{ρ:Rho}:setR i (.at j) ρ=if i<ρ.length then optS (PyD.settle (.at j) ρ) fun p=>.nx (p.2.set i (some (.val p.1))) else .stuck:=by
 show (if i<ρ.length then (match PyD.settle (.at j) ρ with | some (d,ρ1)=>SOut.nx (ρ1.set i (some (.val d))) | none=>.stuck) else .stuck)=_
 split
 ·cases PyD.settle (.at j) ρ <;> rfl
 ·rfl
@[simp] theorem x_mSet {i:Nat}{m:M}{ρ:Rho}:mSet i m ρ=bindSO (m ρ) fun r ρ1=>setR i r ρ1:=rfl
@[simp] theorem x_mExpr {m:M}{ρ:Rho}:mExpr m ρ=bindSO (m ρ) fun _ ρ1=>.nx ρ1:=rfl
@[simp] theorem x_retRv {d:D}{ρ:Rho}:retR (.val d) ρ=.ret (.val d) ρ:=rfl
@[simp] theorem x_retRn {d:D}{ρ:Rho}:retR (.new d) ρ=.ret (.new d) ρ:=rfl
def retA (o:Option (Option Slot))(j:Nat)(ρ:Rho):SOut:=match o with
 | some (some (.val d))=>.ret (.val d) ρ
 | some (some (.own none d))=>.ret (.new d) (ρ.set j none)
 | _=>.stuck
@[simp] theorem x_retAv {d:D}{j:Nat}{ρ:Rho}:retA (some (some (.val d))) j ρ=.ret (.val d) ρ:=rfl
@[simp] theorem x_retAo {d:D}{j:Nat}{ρ:Rho}:retA (some (some (.own none d))) j ρ=.ret (.new d) (ρ.set j none):=rfl
@[simp] theorem x_retRa {j:Nat}{ρ:Rho}:retR (.at j) ρ=retA ρ[j]? j ρ:=by unfold retR retA; rfl
@[simp] theorem x_mRet {m:M}{ρ:Rho}:mRet m ρ=bindSO (m ρ) fun r ρ1=>retR r ρ1:=rfl
@[simp] theorem x_mIfS {t:MB}{m1 m2:MS}{ρ:Rho}:mIfS t m1 m2 ρ=bindSO (t ρ) fun k ρ1=>if k=true then m1 ρ1 else m2 ρ1:=rfl
@[simp] theorem x_gN {i:Nat}{d:D}{ρ:Rho}:gN i d ρ=if i<ρ.length then some (ρ.set i (some (.val d))) else none:=rfl
@[simp] theorem x_gsNil {ρ:Rho}:gsNil [] ρ=some ρ:=rfl
@[simp] theorem x_gsCons {f:Tg}{g:Tgs}{d:D}{ds:List D}{ρ:Rho}:gsCons f g (d::ds) ρ=(f d ρ).bind fun ρ1=>g ds ρ1:=rfl
@[simp] theorem x_gT {n:Nat}{g:Tgs}{ds:List D}{ρ:Rho}:gT n g (.tup ds) ρ=if ds.length=n then g ds ρ else none:=rfl
@[simp] theorem x_tgtR {f:Tg}{r:Res}{ρ:Rho}:tgtR f r ρ=optS (PyD.settle r ρ) fun p=>optS (f p.1 p.2) fun ρ2=>.nx ρ2:=by
 unfold tgtR optS
 cases PyD.settle r ρ with
 | none=>rfl
 | some p=>obtain ⟨d,ρ1⟩:=p; simp only; cases f d ρ1 <;> rfl
@[simp] theorem x_mAsg {f:Tg}{m:M}{ρ:Rho}:mAsg f m ρ=bindSF (m ρ) fun r ρ1=>tgtR f r ρ1:=rfl
@[simp] theorem x_storeR {rv ri:Res}{s:Nat}{ρ:Rho}:storeR rv (.at s) ri ρ=optS (PyD.settle rv ρ) fun p=>optS (ownO p.2[s]?) fun q=>optS (resolve p.2 ri) fun i=>optS (setD q.2 i p.1) fun c=>.nx (p.2.set s (some (.own q.1 c))):=by
 simp only [storeR,optS,ownO]
 cases PyD.settle rv ρ with
 | none=>rfl
 | some p =>
  obtain ⟨d,ρ1⟩:=p
  simp only
  cases ρ1[s]? with
  | none=>rfl
  | some sl =>
   cases sl with
   | none=>rfl
   | some sl =>
    cases sl with
    | val d=>rfl
    | exn=>rfl
    | own b d2 =>
     simp only
     cases resolve ρ1 ri with
     | none=>rfl
     | some i=>simp only; cases setD d2 i d <;> rfl
@[simp] theorem x_mStore {mo mi me:M}{ρ:Rho}:mStore mo mi me ρ=bindSF (me ρ) fun rv ρ1=>bindSF (mo ρ1) fun ro ρ2=>bindSF (mi ρ2) fun ri ρ3=>storeR rv ro ri ρ3:=rfl
@[simp] theorem x_itemsL {xs:List D}:itemsD (.lst xs)=some xs:=rfl
@[simp] theorem x_itemsT {xs:List D}:itemsD (.tup xs)=some xs:=rfl
@[simp] theorem x_itemsS {z:Str}:itemsD (.str z)=some (signsD z):=rfl
@[simp] theorem x_itemsR {r:Res}{ρ:Rho}:itemsR r ρ=optO (PyD.settle r ρ) fun p=>optO (itemsD p.1) fun ds=>.ok ds p.2:=by
 unfold itemsR optO
 cases PyD.settle r ρ with
 | none=>rfl
 | some p=>obtain ⟨d,ρ1⟩:=p; simp only; cases itemsD d <;> rfl
@[simp] theorem x_iSeq {m:M}{ρ:Rho}:iSeq m ρ=bindF (m ρ) fun r ρ1=>itemsR r ρ1:=rfl
def rng1 (o:Option (List D))(ρ:Rho):Out (List D):=match o with
 | some [.int j]=>if decide (-(2 ^ 62)≤j)&&decide (j<2 ^ 62) then .ok (rangeD 0 j.toNat) ρ else .stuck
 | _=>.stuck
@[simp] theorem x_rng1 {j:Int}{ρ:Rho}:rng1 (some [.int j]) ρ=if decide (-(2 ^ 62)≤j)&&decide (j<2 ^ 62) then .ok (rangeD 0 j.toNat) ρ else .stuck:=rfl
@[simp] theorem x_iRange {ma:MA}{ρ:Rho}:iRange ma ρ=bindO (ma ρ) fun rs ρ1=>rng1 (resolves ρ1 rs) ρ1:=rfl
@[simp] theorem x_forN {f:Tg}{b:MS}{ρ:Rho}:forD f b [] ρ=.nx ρ:=rfl
@[simp] theorem x_forC {f:Tg}{b:MS}{d:D}{ds:List D}{ρ:Rho}:forD f b (d::ds) ρ=optS (f d ρ) fun ρ1=>loopS (b ρ1) fun ρ2=>forD f b ds ρ2:=by
 simp only [forD,optS,loopS]
 cases f d ρ with
 | none=>rfl
 | some ρ1=>simp only <;> cases b ρ1 <;> rfl
@[simp] theorem x_mFor {mi:MI}{f:Tg}{b:MS}{ρ:Rho}:mFor mi f b ρ=bindSO (mi ρ) fun ds ρ1=>forD f b ds ρ1:=rfl
@[simp] theorem x_lcN {vs:List Nat}{f:Tg}{t:MB}{me:M}{acc:List D}{ρ:Rho}:lcD vs f t me [] acc ρ=.ok acc ρ:=rfl
theorem x_lcC {vs:List Nat}{f:Tg}{t:MB}{me:M}{d:D}{ds acc:List D}{ρ:Rho}:lcD vs f t me (d::ds) acc ρ=optO (f d ρ) fun ρ1=>bindN (t ρ1) fun k ρ2=>if k=true then bindN (me ρ2) fun r ρ3=>optO (PyD.settle r.frz ρ3) fun p=>if acc.length<sizeLine then lcD vs f t me ds (acc++[p.1]) (wipeR p.2 vs) else .stuck
  else lcD vs f t me ds acc (wipeR ρ2 vs):=by
 simp only [lcD,optO,bindN]
 cases f d ρ with
 | none=>rfl
 | some ρ1 =>
  simp only
  cases t ρ1 with
  | ok k ρ2 =>
   cases k with
   | true =>
    simp only [if_true]
    cases me ρ2 with
    | ok r ρ3 =>
     simp only
     cases PyD.settle r.frz ρ3 with
     | none=>rfl
     | some p=>rfl
    | exc x ρ3=>rfl
    | stuck=>rfl
   | false=>rfl
  | exc x ρ2=>rfl
  | stuck=>rfl
def lcF (o:Out (List D)):Out Res:=match o with | .ok acc ρ=>.ok (.new (.lst acc)) ρ | _=>.stuck
@[simp] theorem x_lcF {acc:List D}{ρ:Rho}:lcF (.ok acc ρ)=.ok (.new (.lst acc)) ρ:=rfl
@[simp] theorem x_mLc {vs:List Nat}{mi:MI}{f:Tg}{t:MB}{me:M}{ρ:Rho}:mLc vs mi f t me ρ=bindO (mi ρ) fun ds ρ1=>lcF (lcD vs f t me ds [] (wipeR ρ1 vs)):=rfl
@[simp] theorem x_frzV {d:D}:(Res.val d).frz=.val d:=rfl
@[simp] theorem x_frzN {d:D}:(Res.new d).frz=.val (strip d):=rfl
@[simp] theorem x_frzA {i:Nat}:(Res.at i).frz=.at i:=rfl
def cRet (o:FOut)(as:List BArg)(ρ:Rho):Out Res:=match o with
 | .ret r os=>optO (wb as os ρ) fun ρ2=>.ok r ρ2
 | .exc x os=>(match wb as os ρ with | some ρ2=>.exc x ρ2 | none=>.stuck)
 | .stuck=>.stuck
@[simp] theorem x_cRet {r:Res}{os:List D}{as:List BArg}{ρ:Rho}:cRet (.ret r os) as ρ=optO (wb as os ρ) fun ρ2=>.ok r ρ2:=rfl
def excO (x:Exc)(o:Option Rho):Out Res:=match o with | some ρ=>.exc x ρ | none=>.stuck
@[simp] theorem x_excO {x:Exc}{ρ:Rho}:excO x (some ρ)=.exc x ρ:=rfl
@[simp] theorem x_cRetx {x:Exc}{os:List D}{as:List BArg}{ρ:Rho}:cRet (.exc x os) as ρ=excO x (wb as os ρ):=rfl
@[simp] theorem x_callR {mk:List Bool}{f:Fn}{rs:List Res}{ρ:Rho}:callR mk f rs ρ=optO (prep1 mk rs ρ) fun p=>optO (prep2 p.2 p.1) fun as=>cRet (f (as.map BArg.strip)) as p.2:=by
 simp only [callR,optO,cRet]
 cases prep1 mk rs ρ with
 | none=>rfl
 | some p =>
  obtain ⟨ms,ρ1⟩:=p
  simp only
  cases prep2 ρ1 ms with
  | none=>rfl
  | some as =>
   simp only
   cases f (as.map BArg.strip) with
   | ret r os=>simp only; cases wb as os ρ1 <;> rfl
   | exc x os=>rfl
   | stuck=>rfl
@[simp] theorem x_mCall {n:Nat}{mk:List Bool}{f:Fn}{ma:MA}{ρ:Rho}:mCall n mk f ma ρ=bindO (ma ρ) fun rs ρ1=>if rs.length=n then callR mk f rs ρ1 else .stuck:=rfl
@[simp] theorem x_p1N {mk:List Bool}{ρ:Rho}:prep1 mk [] ρ=some ([],ρ):=by cases mk <;> rfl
def p1C (o:Option (D×Rho))(k:Rho→Option (List (D ⊕ Nat)×Rho)):Option (List (D ⊕ Nat)×Rho):=match o with
 | some (d,ρ)=>(k ρ).map fun p=>(.inl d::p.1,p.2)
 | none=>none
@[simp] theorem x_p1C {d:D}{ρ:Rho}{k:Rho→Option (List (D ⊕ Nat)×Rho)}:p1C (some (d,ρ)) k=(k ρ).map fun p=>(.inl d::p.1,p.2):=rfl
theorem p1_aux {mk:List Bool}{r:Res}{rs:List Res}{ρ:Rho}:(match PyD.settle r ρ with
  | some (d,ρ1)=>(match prep1 mk.tail rs ρ1 with
   | some (ms,ρ2)=>some (Sum.inl d::ms,ρ2)
   | none=>none)
  | none=>none)=p1C (PyD.settle r ρ) fun ρ1=>prep1 mk.tail rs ρ1:=by
 unfold p1C
 cases PyD.settle r ρ with
 | none=>rfl
 | some p =>
  simp only
  cases prep1 mk.tail rs p.2 <;> rfl
@[simp] theorem x_p1V {mk:List Bool}{d:D}{rs:List Res}{ρ:Rho}:prep1 mk (.val d::rs) ρ=p1C (PyD.settle (.val d) ρ) fun ρ1=>prep1 mk.tail rs ρ1:=by
 rw [← p1_aux]
 cases mk with
 | nil=>rfl
 | cons b bs=>cases b <;> rfl
@[simp] theorem x_p1F {mk:List Bool}{i:Nat}{rs:List Res}{ρ:Rho}:prep1 (false::mk) (.at i::rs) ρ=p1C (PyD.settle (.at i) ρ) fun ρ1=>prep1 mk rs ρ1:=by
 rw [show (fun ρ1=>prep1 mk rs ρ1)=(fun ρ1=>prep1 (false::mk).tail rs ρ1) from rfl,← p1_aux]; rfl
@[simp] theorem x_p1E {i:Nat}{rs:List Res}{ρ:Rho}:prep1 [] (.at i::rs) ρ=p1C (PyD.settle (.at i) ρ) fun ρ1=>prep1 [] rs ρ1:=by
 rw [show (fun ρ1=>prep1 [] rs ρ1)=(fun ρ1=>prep1 ([]:List Bool).tail rs ρ1) from rfl,← p1_aux]; rfl
@[simp] theorem x_p1T {mk:List Bool}{i:Nat}{rs:List Res}{ρ:Rho}:prep1 (true::mk) (.at i::rs) ρ=(prep1 mk rs ρ).map fun p=>(.inr i::p.1,p.2):=by
 show (match prep1 mk rs ρ with | some (ms,ρ2)=>some (Sum.inr i::ms,ρ2) | none=>none)=_
 cases prep1 mk rs ρ <;> rfl
@[simp] theorem x_p2N {ρ:Rho}:prep2 ρ []=some []:=rfl
@[simp] theorem x_p2V {ρ:Rho}{d:D}{ms:List (D ⊕ Nat)}:prep2 ρ (.inl d::ms)=(prep2 ρ ms).map (.v d::·):=rfl
def p2A (o:Option (Option Slot))(i:Nat)(r:Option (List BArg)):Option (List BArg):=match o with
 | some (some (.own b d))=>r.bind fun as=>if i∈idx as then none else some (.o i b d::as)
 | some (some (.val d))=>r.map (.v d::·)
 | _=>none
@[simp] theorem x_p2Ao {b:Option Nat}{d:D}{i:Nat}{r:Option (List BArg)}:p2A (some (some (.own b d))) i r=r.bind fun as=>if i∈idx as then none else some (.o i b d::as):=rfl
@[simp] theorem x_p2Av {d:D}{i:Nat}{r:Option (List BArg)}:p2A (some (some (.val d))) i r=r.map (.v d::·):=rfl
@[simp] theorem x_p2A {ρ:Rho}{i:Nat}{ms:List (D ⊕ Nat)}:prep2 ρ (.inr i::ms)=p2A ρ[i]? i (prep2 ρ ms):=by
 simp only [prep2,p2A]
 cases ρ[i]? with
 | none=>rfl
 | some s =>
  cases s with
  | none=>rfl
  | some s =>
   cases s with
   | val d=>rfl
   | exn=>rfl
   | own b d=>simp only; cases prep2 ρ ms <;> rfl
@[simp] theorem x_idxN:idx []=[]:=rfl
@[simp] theorem x_idxV {d:D}{as:List BArg}:idx (.v d::as)=idx as:=rfl
@[simp] theorem x_idxO {i:Nat}{b:Option Nat}{d:D}{as:List BArg}:idx (.o i b d::as)=i::idx as:=rfl
@[simp] theorem x_strV {d:D}:(BArg.v d).strip=.v d:=rfl
@[simp] theorem x_strO {i:Nat}{b:Option Nat}{d:D}:(BArg.o i b d).strip=.o d:=rfl
@[simp] theorem x_wbN {ρ:Rho}:wb [] [] ρ=some ρ:=rfl
@[simp] theorem x_wbV {d:D}{as:List BArg}{os:List D}{ρ:Rho}:wb (.v d::as) os ρ=wb as os ρ:=by cases os <;> rfl
@[simp] theorem x_wbO {i:Nat}{b:Option Nat}{d d':D}{as:List BArg}{os:List D}{ρ:Rho}:wb (.o i b d::as) (d'::os) ρ=(wb as os ρ).map fun ρ=>ρ.set i (some (.own b d')):=rfl
def finS (as:List Arg)(o:SOut):FOut:=match o with
 | .nx ρ=>optF (outsOf ρ 0 as) fun os=>.ret (.val .non) os
 | .ret (.val d) ρ=>optF (outsOf ρ 0 as) fun os=>.ret (.val d) os
 | .ret (.new d) ρ=>optF (outsOf ρ 0 as) fun os=>.ret (.new d) os
 | .exc x ρ=>optF (outsOf ρ 0 as) fun os=>.exc x os
 | _=>.stuck
@[simp] theorem x_finSn {as:List Arg}{ρ:Rho}:finS as (.nx ρ)=optF (outsOf ρ 0 as) fun os=>.ret (.val .non) os:=rfl
@[simp] theorem x_finSv {as:List Arg}{d:D}{ρ:Rho}:finS as (.ret (.val d) ρ)=optF (outsOf ρ 0 as) fun os=>.ret (.val d) os:=rfl
@[simp] theorem x_finSw {as:List Arg}{d:D}{ρ:Rho}:finS as (.ret (.new d) ρ)=optF (outsOf ρ 0 as) fun os=>.ret (.new d) os:=rfl
@[simp] theorem x_finSx {as:List Arg}{x:Exc}{ρ:Rho}:finS as (.exc x ρ)=optF (outsOf ρ 0 as) fun os=>.exc x os:=rfl
theorem x_mkFn {nl:Nat}{m:MS}{as:List Arg}:mkFn nl m as=finS as (m (slotsOf 0 as++List.replicate nl none)):=by
 simp only [mkFn,finS,fin,optF]
 cases m (slotsOf 0 as++List.replicate nl none) with
 | ret r ρ=>cases r <;> first | rfl | (simp only; cases outsOf ρ 0 as <;> rfl)
 | nx ρ=>simp only; cases outsOf ρ 0 as <;> rfl
 | exc x ρ=>simp only; cases outsOf ρ 0 as <;> rfl
 | _=>rfl
@[simp] theorem x_slN {k:Nat}:slotsOf k []=[]:=rfl
@[simp] theorem x_slV {k:Nat}{d:D}{as:List Arg}:slotsOf k (.v d::as)=some (.val d)::slotsOf (k+1) as:=rfl
@[simp] theorem x_slO {k:Nat}{d:D}{as:List Arg}:slotsOf k (.o d::as)=some (.own (some k) d)::slotsOf (k+1) as:=rfl
@[simp] theorem x_outN {ρ:Rho}{k:Nat}:outsOf ρ k []=some []:=rfl
@[simp] theorem x_outV {ρ:Rho}{k:Nat}{d:D}{as:List Arg}:outsOf ρ k (.v d::as)=outsOf ρ (k+1) as:=rfl
def outA (o:Option (Option Slot))(k:Nat)(r:Option (List D)):Option (List D):=match o with
 | some (some (.own (some j) d))=>if j=k then r.map (d::·) else none
 | _=>none
@[simp] theorem x_outA {j:Nat}{d:D}{k:Nat}{r:Option (List D)}:outA (some (some (.own (some j) d))) k r=if j=k then r.map (d::·) else none:=rfl
@[simp] theorem x_outO {ρ:Rho}{k:Nat}{d:D}{as:List Arg}:outsOf ρ k (.o d::as)=outA ρ[k]? k (outsOf ρ (k+1) as):=by
 cases h:ρ[k]? with
 | none=>simp only [outsOf,outA,h]
 | some s =>
  cases s with
  | none=>simp only [outsOf,outA,h]
  | some s =>
   cases s with
   | val d=>simp only [outsOf,outA,h]
   | exn=>simp only [outsOf,outA,h]
   | own b d=>cases b <;> simp only [outsOf,outA,h]
@[simp] theorem x_wipeN {ρ:Rho}:wipeR ρ []=ρ:=rfl
@[simp] theorem x_wipeC {ρ:Rho}{v:Nat}{vs:List Nat}:wipeR ρ (v::vs)=(wipeR ρ vs).set v none:=rfl
@[simp] theorem x_addI {i j:Int}:addD (.int i) (.int j)=some (.val (.int (i+j))):=rfl
@[simp] theorem x_addS {i j:Str}:addD (.str i) (.str j)=if i.length+j.length≤sizeLine then some (.val (.str (i++j))) else none:=by
 by_cases h:i.length+j.length≤sizeLine <;> simp [addD,orF,fII,fAddS,h,fAddT,fAddL]
@[simp] theorem x_addL {i j:List D}:addD (.lst i) (.lst j)=if i.length+j.length≤sizeLine then some (.new (.lst (i++j))) else none:=rfl
@[simp] theorem x_addT {i j:List D}:addD (.tup i) (.tup j)=if i.length+j.length≤sizeLine then some (.val (.tup (i++j))) else none:=by
 by_cases h:i.length+j.length≤sizeLine <;> simp [addD,orF,fII,fAddS,h,fAddT,fAddL]
@[simp] theorem x_subI {i j:Int}:subD (.int i) (.int j)=some (.val (.int (i-j))):=rfl
@[simp] theorem x_mulI {i j:Int}:mulD (.int i) (.int j)=if mulC i j then some (.val (.int (i * j))) else none:=by
 simp only [mulD,orF,fII]; split
 ·split at * <;> simp_all
 ·rename_i h; split at h <;> simp_all [fRepL,fRepT]
@[simp] theorem x_fdivI {i j:Int}:fdivD (.int i) (.int j)=if divC i j then some (.val (.int (i / j))) else none:=rfl
@[simp] theorem x_modI {i j:Int}:modD (.int i) (.int j)=if 0<j then some (.val (.int (i % j))) else none:=by
 simp only [modD,fII,decide_eq_true_eq]
@[simp] theorem x_ltI {i j:Int}:ltD (.int i) (.int j)=some (.val (.bl (decide (i<j)))):=rfl
@[simp] theorem x_leI {i j:Int}:leD (.int i) (.int j)=some (.val (.bl (decide (i≤j)))):=rfl
@[simp] theorem x_gtI {i j:Int}:gtD (.int i) (.int j)=some (.val (.bl (decide (j<i)))):=rfl
@[simp] theorem x_geI {i j:Int}:geD (.int i) (.int j)=some (.val (.bl (decide (j≤i)))):=rfl
@[simp] theorem x_ltS {i j:Str}:ltD (.str i) (.str j)=some (.val (.bl (decide (i.cps.toList<j.cps.toList)))):=rfl
@[simp] theorem x_ixL {xs:List D}{i:Int}:ixD (.lst xs) (.int i)=(atI xs i).map .val:=rfl
@[simp] theorem x_ixT {xs:List D}{i:Int}:ixD (.tup xs) (.int i)=(atI xs i).map .val:=rfl
@[simp] theorem x_ixR {xs:List Int}{i:Int}:ixD (.scr xs) (.int i)=(atI xs i).map fun n=>.val (.int n):=rfl
@[simp] theorem x_ixS {z:Str}{i:Int}:ixD (.str z) (.int i)=if z.length≤sizeLine then (atI z.cps.toList i).map fun c=>.val (.str ⟨#[c]⟩) else none:=rfl
@[simp] theorem x_isB {a b:Bool}:isD (.bl a) (.bl b)=some (.val (.bl (decide (a=b)))):=by simp [isD,orF,fIsB]
@[simp] theorem x_isNn {x:D}(h:x≠.any):isD x .non=some (.val (.bl (isN x))):=by cases x <;> first | rfl | exact absurd rfl h
@[simp] theorem x_intDi {i:Int}:intD [.int i]=some (.val (.int i)):=rfl
@[simp] theorem x_intDb {b:Bool}:intD [.bl b]=some (.val (.int (if b then 1 else 0))):=rfl
@[simp] theorem x_maxD {i j:Int}:maxD [.int i,.int j]=some (.val (.int (if j>i then j else i))):=rfl
@[simp] theorem x_minD {i j:Int}:minD [.int i,.int j]=some (.val (.int (if j<i then j else i))):=rfl
@[simp] theorem x_absD {i:Int}:absD [.int i]=some (.val (.int (if i<0 then -i else i))):=rfl
@[simp] theorem x_lenDl {xs:List D}:lenD [.lst xs]=some (.val (.int (xs.length:Nat))):=rfl
@[simp] theorem x_lenDt {xs:List D}:lenD [.tup xs]=some (.val (.int (xs.length:Nat))):=rfl
@[simp] theorem x_lenDr {xs:List Int}:lenD [.scr xs]=some (.val (.int (xs.length:Nat))):=rfl
@[simp] theorem x_lenDd {xs:List (Key×D)}:lenD [.dct xs]=some (.val (.int (xs.length:Nat))):=rfl
@[simp] theorem x_lenDs {z:Str}:lenD [.str z]=if z.length≤sizeLine then some (.val (.int (z.length:Nat))) else none:=by
 simp only [lenD,lenN]; split <;> rfl
@[simp] theorem x_tupD {ds:List D}:tupD ds=if ds.length≤sizeLine then some (.val (.tup ds)) else none:=rfl
@[simp] theorem x_lstD {ds:List D}:lstD ds=if ds.length≤sizeLine then some (.new (.lst ds)) else none:=rfl
@[simp] theorem x_tupleT {xs:List D}:tupleD [.tup xs]=some (.val (.tup xs)):=rfl
@[simp] theorem x_tupleL {xs:List D}:tupleD [.lst xs]=some (.val (.tup xs)):=rfl
@[simp] theorem x_sz:sizeLine=16777216:=sizeLine_eq
theorem lc_map {vs:List Nat}{f:Tg}{t:MB}{me:M}{g:D→D}{ρ:Rho}:∀ {ds acc:List D},(∀ d∈ds,∃ ρ1 r,f d ρ=some ρ1∧t ρ1=.ok true ρ1∧me ρ1=.ok r ρ1∧r.frz=.val (g d)∧wipeR ρ1 vs=ρ)→acc.length+ds.length≤sizeLine →
  lcD vs f t me ds acc ρ=.ok (acc++ds.map g) ρ
 | [],acc,_,_=>by simp
 | d::ds,acc,h,hl=>by
  obtain ⟨ρ1,r,h1,h2,h3,h4,h5⟩:=h d (List.mem_cons_self ..)
  have hl':acc.length<sizeLine:=by simp only [List.length_cons] at hl; omega
  rw [x_lcC,h1]
  simp only [x_optO,h2,x_bindN,if_true,h3,h4,x_setV,hl',h5]
  rw [lc_map (fun d' hd=>h d' (List.mem_cons_of_mem _ hd)) (by simp only [List.length_append,List.length_cons,List.length_nil] at hl ⊢; omega)]
  simp
theorem ofS_inj {a b:String}:(Str.ofString a=Str.ofString b)↔a=b:=by
 constructor
 ·intro h
  rw [Str.ofString_eq_toList,Str.ofString_eq_toList] at h
  have h1:a.toList.map Char.toNat=b.toList.map Char.toNat:=by
   have:=congrArg Str.cps h
   simpa using congrArg Array.toList this
  have inj:∀ x y:List Char,x.map Char.toNat=y.map Char.toNat→x=y:=fun x=>by
   induction x with
   | nil=>intro y h; cases y with | nil=>rfl | cons c y=>simp at h
   | cons c x ih =>
    intro y h
    cases y with
    | nil=>simp at h
    | cons d y =>
     simp only [List.map_cons,List.cons.injEq] at h
     rw [ih y h.2]
     have:c=d:=by
      have e:=h.1
      exact Char.ext (UInt32.toNat_inj.mp e)
     rw [this]
  exact String.toList_inj.mp (inj _ _ h1)
 ·intro h; rw [h]
@[simp] theorem x_ofS {a b:String}:decide (Str.ofString a=Str.ofString b)=decide (a=b):=by simp only [ofS_inj]
@[simp] theorem x_eqS {a b:Str}:eqD (.str a) (.str b)=some (.val (.bl (decide (a=b)))):=rfl
@[simp] theorem x_eqI {a b:Int}:eqD (.int a) (.int b)=some (.val (.bl (decide (a=b)))):=rfl
@[simp] theorem x_eqBl {a b:Bool}:eqD (.bl a) (.bl b)=some (.val (.bl (decide (a=b)))):=rfl
@[simp] theorem x_eqNI {b:Int}:eqD .non (.int b)=some (.val (.bl false)):=rfl
@[simp] theorem x_eqIN {b:Int}:eqD (.int b) .non=some (.val (.bl false)):=rfl
@[simp] theorem x_neS {a b:Str}:neD (.str a) (.str b)=some (.val (.bl (!decide (a=b)))):=rfl
@[simp] theorem x_neI {a b:Int}:neD (.int a) (.int b)=some (.val (.bl (!decide (a=b)))):=rfl
@[simp] theorem x_neBl {a b:Bool}:neD (.bl a) (.bl b)=some (.val (.bl (!decide (a=b)))):=rfl
structure Pl where
 a:Int
 b:Int
 h:0≤a∧0≤b∧b<2147483647
def poolD (p:Pl):D:=.lst [.int p.a,.int p.b]
def pd (p:Pl)(n:Int):Int:=if 0<p.a then p.a % n else (p.b * 48271+11) % 2147483647 * ((p.b * 48271+11) % 2147483647) % 2147483629 / 16 % n
def pn (p:Pl)(n:Int):Pl:=if h:0<p.a∧0<n then ⟨p.a / n,p.b,Int.ediv_nonneg p.h.1 (Int.le_of_lt h.2),p.h.2⟩ else if 0<p.a then p else ⟨p.a,(p.b * 48271+11) % 2147483647,p.h.1,Int.emod_nonneg _ (by decide),Int.emod_lt_of_pos _ (by decide)⟩
theorem pd_nonneg (p:Pl){n:Int}(h:0<n):0≤pd p n:=by
 unfold pd; split <;> exact Int.emod_nonneg _ (by omega)
theorem pd_lt (p:Pl){n:Int}(h:0<n):pd p n<n:=by
 unfold pd; split <;> exact Int.emod_lt_of_pos _ h
theorem mulC_l {i j:Int}(h:-(2 ^ 64)<i)(h2:i<2 ^ 64):mulC i j=true:=by unfold mulC; simp; omega
theorem mulC_r {i j:Int}(h:-(2 ^ 64)<j)(h2:j<2 ^ 64):mulC i j=true:=by unfold mulC; simp; omega
theorem divC_ok {i j:Int}(h:0<j)(h2:j<1073741824):divC i j=true:=by unfold divC; simp [h,h2]
theorem atI_of {α:Type}{xs:List α}{i:Int}(h:0≤i)(h2:i<xs.length):L2.atI xs i=xs[i.toNat]?:=by
 unfold L2.atI ixN
 simp [h,h2]
theorem putF_g {f:Str}{v:V}:∀ fs:List (Str×V),putF f v fs=gP f v fs
 | []=>rfl
 | (k,w)::r=>by
  simp only [gP]
  unfold putF
  by_cases z:k=f
  ·simp only [z,if_true]
  ·simp only [if_neg z,putF_g r]
section
variable {X:Cx}{Γ:Gm}{W:WX}{e o:Expr}{m mo me:M}{pos pos':Pos}{f:Str}{T:Tab}
theorem Ct.putF {G:Gx}{F H:Hp}{a dx:Addr}{c:Nat}{fds:List (Str×D)}{fvs:List (Str×V)}{L1 Ld:List Addr}{f:Str}{v:V}{d:D}(h:H a=some (.ins (G.cl c) dx fvs))(t:KdP G F H fvs fds L1)(n:a∉L1)(hd:Kd G F H v d Ld)(nd:∀ b∈Ld,b∉L1∧b≠a) :
  ∃ L',Ct G F (L2.upd H a (.ins (G.cl c) dx (L2.putF f v fvs))) a (.objO c (gP f d fds)) L'∧∀ b∈L',b=a∨b∈L1∨b∈Ld:=by
 obtain ⟨L',⟨q1,q2⟩,q3⟩:=kdp_put (k:=f) hd t fun b hb=>(nd b hb).1
 have na:a∉L':=fun z=>by
  rcases q3 a z with z | z
  ·exact n z
  ·exact (nd a z).2 rfl
 refine ⟨a::L',.obj (L:=L') upd_same ?_ ?_ na,fun b hb=>?_⟩
 ·rw [putF_g]; exact q1
 ·rw [putF_g]
  exact q2.mono (Same.refl _) fun b hb o w=>by rw [upd_ne (show b≠a by rintro rfl; exact na hb)]; exact w
 ·rcases List.mem_cons.mp hb with rfl | hb
  ·exact .inl rfl
  ·exact .inr (q3 b hb)
end
structure MtFact (P:Program)(w:World)(K:PySem.W.Frag)(mg:Str→Option Value)(base:Heap)(G:Gx)(Θ:List NdefX.NTab)(c:Nat)(m:Str)(n k:Nat)(ps:List Str)(g:Fn):Prop where
 ex:∃ f fd,Meth K (G.cl c) m f∧Binds K fd ps []∧FnOkG P w K mg base k f fd ps (spF G Θ n g)
section
variable {X:Cx}{Γ:Gm}{W:WX}{o e:Expr}{es:List Expr}{mo:M}{ma:MA}{pos apos:Pos}{m:Str}{c n k:Nat}{ps:List Str}{mk:List Bool}{g:Fn}
end
theorem ARel.ext {G:Gx}{F H H':Hp}(e:Same H H'):∀ {vs:List V} {as:List Arg} {L:List Addr},ARel G F H vs as L→ARel G F H' vs as L
 | _,_,_,.nil=>.nil
 | _,_,_,.v h t=>.v h (t.ext e)
 | _,_,_,.o c nl t=>.o (c.mono (Same.refl _) fun b _ o q=>e b o q) nl (t.ext e)
theorem ARel.there {G:Gx}{F H:Hp}:∀ {vs:List V} {as:List Arg} {L:List Addr},ARel G F H vs as L→∀ a∈L,∃ o,H a=some o
 | _,_,_,.nil,a,h=>by cases h
 | _,_,_,.v _ t,a,h=>t.there a h
 | _,_,_,.o c nl t,a,h=>by
  rcases List.mem_append.mp h with e | h
  ·exact c.there a e
  ·exact t.there a h
def pick {α:Type}(p:List Nat)(l:List α):List α:=p.filterMap fun i=>l[i]?
theorem RepFs.get {G:Gx}{σ:St}{F:Hp}:∀ {vs:List V} {rs:List Res} (i:Nat),RepFs G σ F vs rs→(vs[i]?=none∧rs[i]?=none)∨∃ v r,vs[i]?=some v∧rs[i]?=some r∧RepF G σ F v r
 | _,_,_,.nil=>.inl ⟨rfl,rfl⟩
 | _,_,0,.cons h _=>.inr ⟨_,_,rfl,rfl,h⟩
 | _,_,i+1,.cons _ t=>by simpa using RepFs.get i t
theorem RepFs.pick {G:Gx}{σ:St}{F:Hp}{vs:List V}{rs:List Res}(h:RepFs G σ F vs rs):∀ p:List Nat,RepFs G σ F (pick p vs) (pick p rs)
 | []=>.nil
 | i::p=>by
  have t:=h.pick p
  unfold PyD.pick at t ⊢
  rcases h.get i with ⟨e1,e2⟩ | ⟨v,r,e1,e2,q⟩
  ·simp only [List.filterMap_cons,e1,e2]; exact t
  ·simp only [List.filterMap_cons,e1,e2]; exact .cons q t
theorem RepFs.app {G:Gx}{σ:St}{F:Hp}:∀ {vs ws:List V} {rs ts:List Res},RepFs G σ F vs rs→RepFs G σ F ws ts→RepFs G σ F (vs++ws) (rs++ts)
 | _,_,_,_,.nil,s=>s
 | _,_,_,_,.cons h t,s=>.cons h (t.app s)
structure Ways (K:PySem.W.Frag)(fd:FuncData)(ps:List Str)(n:Nat)(ks:List Str)(dvs:List V)(p:List Nat):Prop where
 ex:∃ mv:List Value,Vals dvs mv∧∀ (s:Shared) (us ws:List Value),K.In s.heap→us.length=n→ws.length=ks.length→BindsTo s fd ⟨us,ks.zip ws⟩ (ps.zip (pick p (us++mv++ws)))
def Dfl (G:Gx)(dvs:List V)(dds:List D):Prop:=∀ F,DpL G F dvs dds
section
variable {K:PySem.W.Frag}{x qual:Str}{params:Arguments}{body:List Stmt}{scope:Scope}{dvs:List V}{kws:List (Str×V)}{f:Addr}{fd:FuncData}{ps ks:List Str}{p:List Nat}
end
section
variable {X:Cx}{Γ:Gm}{W:WX}
end
section
variable {X:Cx}{Γ:Gm}{W:WX}{e:Expr}{ma:M}{mr:MA}{kws:List Keyword}{nm:Option Str}{kpos:Pos}
end
structure FwFact (P:Program)(w:World)(K:PySem.W.Frag)(mg:Str→Option Value)(base:Heap)(G:Gx)(Θ:List NdefX.NTab)(x:Str)(np k:Nat)(n:Nat)(ks:List Str)(p:List Nat)(dds:List D)(g:Fn):Prop where
 ex:∃ f fd ps dvs,mg x=some (.ref f)∧PySem.W.keepIn K (.ref f)=true∧Ways K fd ps n ks dvs p∧Dfl G dvs dds∧FnOkG P w K mg base k f fd ps (spF G Θ np g)
structure MwFact (P:Program)(w:World)(K:PySem.W.Frag)(mg:Str→Option Value)(base:Heap)(G:Gx)(Θ:List NdefX.NTab)(x:Str)(c np k:Nat)(n:Nat)(ks:List Str)(q:List Nat)(dds:List D)(g:Fn):Prop where
 ex:∃ f fd ps dvs,mg x=some (.ref (G.cl c))∧Mk K (G.cl c) f∧Ways K fd ps (n+1) ks dvs (0::q.map (·+1))∧Dfl G dvs dds∧FnOkG P w K mg base k f fd ps (spF G Θ np g)
section
variable {X:Cx}{Γ:Gm}{W:WX}{e:Expr}{ma mz:MA}{pos p:Pos}{es:List Expr}{kws:List Keyword}{x:Str}{c k n np nk:Nat}{ks:List Str}{pl:List Nat}{dds:List D}{mk:List Bool}{g:Fn}
end
end PyD
namespace PySem
namespace KeyX
open Builtin Builtin.ObjectAttr HandSPX
section
variable {M:Model}{A:Around}{E:Value→Shared→Prop}{hp:Heap}{g:Array GenState}{dr:Drawn}{tk:Nat}{os:OsState}
variable {nm qn:Str}{C N:Addr}{bs bm:List Value}{hd:Bool}{sn:List Str}{sb:List Value}{ab:Bool}{co:Option Bool}{da:Option Addr}{k0 k1 k2 k3 k5:Option Value}
end
section
variable {prog:Program}{w:World}{A:Around}{E:Value→Shared→Prop}{R:Result→Shared→Prop}{hp:Heap}{g:Array GenState}{dr:Drawn}{tk:Nat}{os:OsState}
variable {nm qn:Str}{C N:Addr}{bs bm:List Value}{hd:Bool}{sn:List Str}{sb:List Value}{ab:Bool}{co:Option Bool}{da:Option Addr}{k0 k1 k2 k3 k5:Option Value}
end
end KeyX
end PySem
namespace PyD
open PySem PySem.Spec PyProof.Rows L2
open Builtin Builtin.ObjectAttr
structure EBase (B newId initId:String)(tl:List Value):Prop where
 made:∀ {prog:Program} {w:World} {A:Around} {R:Result→Shared→Prop} {hp:Heap} {g:Array GenState} {dr:Drawn} {tk:Nat} {os:OsState}
  {nm qn:Str} {C N:Addr} {bs bm:List Value} {hd:Bool} {sn:List Str} {sb:List Value} {ab:Bool} {co:Option Bool} {da:Option Addr} {k0 k1 k2 k3 k5:Option Value} {us:List Value} {fI:Addr},
  (∀ X:String,bm.contains (.type X)=tl.contains (.type X))→hp.get? C=some (excClassObj nm qn C N bs bm hd sn sb ab co da k0 k1 k2 k3 k5 newId) →
  PySem.W.Looks (model prog w) hp (typeLookup (.ref C) "__init__") (some (.ref fI))→(∀ self,PySem.W.Looks (model prog w) hp (bindSpecial (.ref fI) self) (.ref fI,[self]))→us.length≤sizeLine →
  codeAny (model prog w) (A.under (.builtin "type.__call__" ⟨.ref C::us,[]⟩)) (.call (.ref fI) ⟨.ref (hp.objs.size+1)::us,[]⟩) (PySem.W.InitBack (hp.objs.size+1) R)
   ⟨(hp.push (PySem.W.kdv_tup us)).push (PySem.HandSPX.excO C hp.objs.size),g,dr,tk,os⟩→codeAny (model prog w) A (.call (.ref C) ⟨us,[]⟩) R ⟨hp,g,dr,tk,os⟩
 ini:∀ {prog:Program} {w:World} {A:Around} {R:Result→Shared→Prop} {hp:Heap} {g:Array GenState} {dr:Drawn} {tk:Nat} {os:OsState}
  {nm qn:Str} {C N:Addr} {bs bm:List Value} {hd:Bool} {sn:List Str} {sb:List Value} {ab:Bool} {co:Option Bool} {da:Option Addr} {k0 k1 k2 k3 k5:Option Value} {e t0:Addr} {us:List Value},
  (∀ X:String,bm.contains (.type X)=tl.contains (.type X))→hp.get? C=some (excClassObj nm qn C N bs bm hd sn sb ab co da k0 k1 k2 k3 k5 newId)→hp.get? e=some (PySem.HandSPX.excO C t0)→us.length≤sizeLine →
  (∀ h2 t1,(∀ b o,b≠e→hp.get? b=some o→h2.get? b=some o)→h2.get? e=some (PySem.HandSPX.excO C t1)→R (.ok (.ret .none)) ⟨h2,g,dr,tk,os⟩) →
  codeAny (model prog w) A (.call (.builtin initId) ⟨.ref e::us,[]⟩) R ⟨hp,g,dr,tk,os⟩
 S:StoreFacts B tl "object.__setattr__" "object"
theorem eb_of {B newId initId:String}{tl:List Value}(F:ExcBaseFacts B newId initId tl)(S:StoreFacts B tl "object.__setattr__" "object"):EBase B newId initId tl :=
 ⟨fun hT hC li lb hz q=>PySem.HandSPX.call_own F hT hC li lb hz q,fun hT hC he hz q=>PySem.HandSPX.init_base F hT hC he hz q,S⟩
theorem eb_ve:EBase "ValueError" "ValueError.__new__" "ValueError.__init__" [.type "ValueError",.type "Exception",.type "BaseException",.type "object"]:=eb_of F.excBase_ValueError F.store_ValueError
structure XC (K:PySem.W.Frag)(C:Addr)(tl:List Value)(newId:String):Prop where
 cls:∃ nm q N bs bm sn sub ab col dd k0 k1 k2 k3 k5,K.lookup C=some (excClassObj nm q C N bs bm true sn sub ab col dd k0 k1 k2 k3 k5 newId)∧PySem.W.excTail tl bm=true
 sa:PySem.W.findIn K (.ref C) "__setattr__"=some (some (.builtin "object.__setattr__"))
 exC:PySem.W.subIn K (.ref C) (.type "BaseException")=some true
 tyC:PySem.W.typeIn K (.ref C)=some (.type "type")
 kC:PySem.W.keepIn K (.ref C)=true
theorem XC.cd {K:PySem.W.Frag}{C:Addr}{tl:List Value}{newId:String}(T:XC K C tl newId):PySem.W.hasDictIn K C=true∧PySem.W.excOver K C tl=true:=by
 obtain ⟨nm,q,N,bs,bm,sn,sub,ab,col,dd,k0,k1,k2,k3,k5,e,t⟩:=T.cls
 have hcl:PySem.W.clsIn K C=some { name:=nm,bases:=bs,mro:=.ref C::bm,ns:=N,qualname:=q,hasDict:=true,slotNames:=sn,subclasses:=sub,abstract:=ab,collection:=col,hasDel:=false }:=by unfold PySem.W.clsIn; rw [e]
 constructor
 ·unfold PySem.W.hasDictIn; rw [hcl]; rfl
 ·unfold PySem.W.excOver; rw [hcl]; simp [t]
section
variable {X:Cx}{pins:List (Addr×Obj)}{σ:St}{H:Hp}{s:Shared}{a C:Addr}{f:Str}{y:V}{u:Value}{tl:List Value}{B newId initId:String}{A:Around}{E:Value→Shared→Prop}
theorem xst_ok {Q:Unit→Shared→Prop}(Z:EBase B newId initId tl)(T:XC X.K C tl newId)(I:Inv X pins σ H s)(e:H a=some (exo a C none))(hno:PySem.W.findIn X.K (.ref C) f=some none)(ry:RelV y u)
  (h:∀ dx s',H dx=none→dx≠a→Inv X pins σ (upd (upd H dx (exd dx [(f,y)])) a (exo a C (some dx))) s'→Q () s'):wpAny (model X.prog X.w) A (setAttr (.ref a) f u) Q E s:=by
 obtain ⟨t1,ho⟩:=exo_at I.hok e
 obtain ⟨hd,ov⟩:=T.cd
 obtain ⟨cd,hcd,hhd⟩:=PySem.W.any_some hd
 refine PySem.W.set_plain I.kIn (ox:={ cls:=.ref C,dict:=none,data:=.fields #[.ref t1,.none,.none,.none,.bool false,.none] }) (od:=none) ⟨ho,rfl,rfl,trivial⟩ T.sa ?_
 refine PySem.W.osa_openX (r:=none) (od:=none) (ox:={ cls:=.ref C,dict:=none,data:=.fields #[.ref t1,.none,.none,.none,.bool false,.none] }) Z.S I.kIn ⟨ho,rfl,rfl,trivial⟩ ov (by unfold PySem.W.takerIn; rw [hno]; rfl) fun b=>?_
 have hcls:PySem.W.Looks (model X.prog X.w) s.heap (classData C) cd:=PySem.W.looks_clsIn I.kIn hcd
 refine wpAny_bind (wpAny_pure (wpAny_bind (PySem.W.instanceDict_exc ho hcls hhd ?_)))
 have hlt:a<s.heap.objs.size:=Heap.lt_size ho
 have hpu:=Heap.get?_push_of_some (h:=s.heap) (PySem.W.dictOf [] 0) ho
 have e1:((s.heap.push (PySem.W.dictOf [] 0)).update a fun o=>{ o with dict:=some s.heap.objs.size }).Ns s.heap.objs.size (fun _=>none) :=
  ⟨_,#[],_,(Heap.get?_update_ne _ _ _ _ (Nat.ne_of_gt hlt)).trans (Heap.get?_push_at rfl rfl),rfl,fun e he=>absurd he (by simp),fun _=>rfl⟩
 show wpAny _ _ (storeInDict s.heap.objs.size _ f u) _ _ _
 obtain ⟨hp,g,d,t,os⟩:=s
 refine PySem.HandSPX.store_in_new e1 fun h' tk' hn hs=>?_
 have hnd:H hp.objs.size=none:=I.hok.fresh (Nat.le_refl _)
 have dne:hp.objs.size≠a:=Nat.ne_of_gt hlt
 have k:∀ b o,b≠a→hp.get? b=some o→h'.get? b=some o:=fun b o hb q =>
  (hs.2 b (Nat.ne_of_lt (Heap.lt_size q))).trans ((Heap.get?_update_ne _ _ _ _ hb).trans (Heap.get?_push_of_some _ q))
 have hx:h'.get? a=some ({ cls:=.ref C,dict:=some hp.objs.size,data:=.fields #[.ref t1,.none,.none,.none,.bool false,.none] }:Obj) :=
  (hs.2 a (Ne.symm dne)).trans (Heap.get?_update_self _ hpu rfl)
 have na:∀ {b:Addr},H b=none→b≠a:=fun {b} n z=>by rw [z,e] at n; cases n
 have nd:∀ {b:Addr} {o:Obj},hp.get? b=some o→b≠hp.objs.size:=fun {b o} q=>Nat.ne_of_lt (Heap.lt_size q)
 have U:Un X.fs [] H (upd (upd H hp.objs.size (exd hp.objs.size [(f,y)])) a (exo a C (some hp.objs.size))) hp h':={
  keep:=fun b o q n w1 w2=>k b o (na n) q
  slot:=fun b o q n w1 w2=>⟨o.slots,k b o (na n) q⟩
  free:=fun b o q n w=>by rw [upd_ne (na n),upd_ne (nd q)]; exact n
  there:=fun b o q w=>by
   by_cases hb:b=a
   ·exact ⟨_,by rw [hb]; exact hx⟩
   ·exact ⟨o,k b o hb q⟩
  tups:=fun b xs q=>by rw [upd_ne (at_ne e q exo_tup),upd_ne (ne_of_none q hnd)]; exact q
  frzs:=fun b o v q=>by rw [upd_ne (at_ne e q exo_frz),upd_ne (ne_of_none q hnd)]; exact q
  tbls:=fun b ps q=>⟨#[],by rw [upd_ne (at_ne e q exo_tbl),upd_ne (ne_of_none q hnd),q]; simp⟩ }
 refine h _ _ hnd dne (I.un (t':=tk') U fun b o q=>?_)
 by_cases hb:b=a
 ·subst hb; rw [upd_same] at q; cases q; exact exo_ok hx
 ·rw [upd_ne hb] at q
  by_cases hd':b=hp.objs.size
  ·subst hd'; rw [upd_same] at q; cases q; exact exd_ok hn (relO_put (fs:=[]) ry fun g=>True.intro)
  ·rw [upd_ne hd'] at q
   refine (I.hok b o q).stay (fun c v hc z=>k c v ?_ z) (fun c hc=>by rw [upd_ne (at_ne e hc exo_own),upd_ne (ne_of_none hc hnd)]; exact hc) (fun c xs hc=>by rw [upd_ne (at_ne e hc exo_tup),upd_ne (ne_of_none hc hnd)]; exact hc)
   rcases hc with hc | hc
   ·rw [hc]; exact hb
   ·exact at_ne e hc exo_own
theorem xinit_ok {us:List Value}{Q:Value→Shared→Prop}(Z:EBase B newId initId tl)(T:XC X.K C tl newId)(I:Inv X pins σ H s)(e:H a=some (exo a C none))(hl:us.length≤sizeLine)(h:∀ s',Inv X pins σ H s'→Q .none s') :
  wpAny (model X.prog X.w) A (call (.builtin initId) (.ref a::us)) Q E s:=by
 obtain ⟨nm,q,N,bs,bm,sn,sub,ab,col,dd,k0,k1,k2,k3,k5,hC,hbm⟩:=T.cls
 obtain ⟨t1,ho⟩:=exo_at I.hok e
 obtain ⟨hp,g,d,t,os⟩:=s
 refine wpAny_call (Z.ini (fun Y=>PySem.W.excTail_contains Y bm hbm) (I.kIn _ _ hC) ho hl fun h' t2 k hx=>?_)
 have J:=I.write (t':=t) (x:=a) (e:=a) (o:=exo a C none) (by rw [e]; exact True.intro) (.inl rfl) k ⟨_,hx⟩ (exo_ok hx)
 have eu:upd H a (exo a C none)=H:=by
  funext b
  by_cases hb:b=a
  ·subst hb; rw [upd_same,e]
  ·exact upd_ne hb
 rw [eu] at J
 exact h _ J
end
structure BaseAt (X:Cx)(b:Str)(initId:String):Prop where
 gm:∀ (pins:List (Addr×Obj)) (s:Shared) (σ:St) (H:Hp) (p:Pos) (pl:Sem Bool) (Q:Value×List Value→Shared→Prop),Inv X pins σ H s→(∀ s',Inv X pins σ H s'→Q (.builtin initId,[]) s') →
  wpAny (model X.prog X.w) X.A (eval (.Name b p) X.env) (fun ov s1=>wpAny (model X.prog X.w) X.A (getMethod ov "__init__" pl) Q X.xe s1) X.xe s
theorem base_own {X:Cx}{initId:String}{b:Str}{T:Addr}(hm:X.mg b=some (.ref T))(hg1:PySem.W.specialIn X.K (.ref T) "__getattribute__"=some (some (.builtin "type.__getattribute__")))(hr:PySem.W.readsIn X.K T (.type "type")=true)
  (hf:PySem.W.findCls X.K (.ref T) (.type "type") "__init__"=some (.val (.builtin initId))) (hh:PySem.W.handedIn (.builtin initId)=true:=by rfl) (hg:Gl X b:=by rfl) (hd:(b==("__debug__" : Str))=false:=by decide):BaseAt X b initId:=⟨fun pins s σ H p pl Q I h=>by
 refine ld_glob I hg hm ?_ hd
 exact PySem.W.method_cls I.kIn hg1 (PySem.W.cls_value I.kIn hr hf hh (h _ (I.tok _)))⟩
def spX (K:PySem.W.Frag)(tl:List Value)(newId:String)(f:Str):Sp:=fun vs H Q _=>∃ (a C:Addr) (v:V),vs=[.ref a,v]∧XC K C tl newId∧PySem.W.findIn K (.ref C) f=some none∧H a=some (exo a C none) ∧
 ∀ dx,H dx=none→dx≠a→Q .non (upd (upd H dx (exd dx [(f,v)])) a (exo a C (some dx)))
section
variable {X:Cx}{tl:List Value}{B newId initId:String}{b f:Str}{e o:Expr}{es:List Expr}{ta:TA}{te to:TE}{p1 p2 pos pos':Pos}
theorem pe_binit {pl:Sem Bool}(Z:EBase B newId initId tl)(hB:BaseAt X b initId)(ha:PA X (e::es) ta)
  (hc:eval (.Call (.Attribute (.Name b p1) "__init__" p2) (e::es) [] pos) X.env=(do let ov ← eval (.Name b p1) X.env; standAt p2.atName; let (f,first) ← holding [ov] (getMethod ov "__init__" pl); callWith pos f first (backTo pos (starEach (e::es) X.env)) (backToKw pos (keywordEach [] X.env))):=by rfl)
  (he:starEach (e::es) X.env=(false,eval e X.env)::starEach es X.env:=by rfl) (hpl:(backTo pos (starEach es X.env)).any (·.1)=false:=by rfl) :
  PE X (.Call (.Attribute (.Name b p1) "__init__" p2) (e::es) [] pos) (fun σ H Q=>ta σ H fun vs H1=>∃ (a C:Addr) (ws:List V),vs=.ref a::ws∧ws.length≤1000∧XC X.K C tl newId∧H1 a=some (exo a C none)∧Q .non H1):=by
 refine ⟨fun pins s σ H Q I h=>PySem.W.methodCall_KW (pl:=pl) (hB.gm pins s σ H p1 pl _ I fun s0 I0=>?_) hc⟩
 refine PyProof.Rows.callWith_method1 (thn (ha.run pos pins _ σ H _ I0 h) fun us s1 ⟨vs,H1,I1,r1,a,C,ws,ev,hl,T,ea,q⟩=>?_) he hpl
 subst ev
 cases r1 with
 | @cons _ u0 _ ur ra rr =>
  obtain rfl:u0=Value.ref a:=ra
  have hlen:ur.length≤sizeLine:=by have:=rr.length; rw [sizeLine_eq]; omega
  exact xinit_ok Z T I1 ea hlen fun s' J=>⟨.non,H1,J,rfl,q⟩
theorem ps_xst (Z:EBase B newId initId tl)(ho:PE X o to)(he:PE X e te)(hs:swapsWith e (some (.Attribute o f pos')) pos.line X.env=pure false:=by rfl):PS X (.Assign [.Attribute o f pos'] e pos)
  (fun D σ H=>te σ H fun y H1=>to σ H1 fun x H2=>∃ a C:Addr,x=.ref a∧XC X.K C tl newId∧PySem.W.findIn X.K (.ref C) f=some none∧H2 a=some (exo a C none)∧∀ dx,H2 dx=none→dx≠a→D.nx σ (upd (upd H2 dx (exd dx [(f,y)])) a (exo a C (some dx)))):=by
 refine ⟨fun pins s σ H D I h=>plainObj_wpAny_Assign_Attribute (thn (he.run pins s σ H _ I h) fun v s1 ⟨y,H1,I1,r1,q1⟩=>thn (ho.run pins s1 σ H1 _ I1 q1) fun w s2 ⟨x,H2,I2,r2,a,C,ex,T,hno,ea,q⟩=>?_) hs⟩
 subst ex
 obtain rfl:w=Value.ref a:=r2
 exact xst_ok Z T I2 ea hno r1 fun dx s' n ne J=>⟨σ,_,J,q dx n ne⟩
end
structure XcFact (P:Program)(w:World)(K:PySem.W.Frag)(mg:Str→Option Value)(base:Heap)(G:Gx)(x:Str)(c k:Nat)(f:Str):Prop where
 ex:∃ tl B newId initId fI fd ps,EBase B newId initId tl∧XC K (G.cl c) tl newId∧PySem.W.findIn K (.ref (G.cl c)) f=some none∧mg x=some (.ref (G.cl c))∧PySem.W.findIn K (.ref (G.cl c)) "__init__"=some (some (.ref fI)) ∧
  PySem.W.typeIn K (.ref fI)=some (.type "function")∧Binds K fd ps []∧FnOkG P w K mg base k fI fd ps (spX K tl newId f)
def raiseR (c:Nat)(f:Str)(r:Res)(ρ:Rho):SOut:=match settle r ρ with
 | some (d,ρ1)=>.exc ⟨.own c,[(f,d)]⟩ ρ1
 | none=>.stuck
def mRaise (c:Nat)(f:Str)(me:M):MS:=fun ρ=>bindSF (me ρ) fun r ρ1=>raiseR c f r ρ1
section
variable {X:Cx}{Γ:Gm}{W:WX}{e:Expr}{m:M}{x f:Str}{c k:Nat}{p pos pos2:Pos}
theorem pmk_x {C fI:Addr}{fd:FuncData}{ps:List Str}{tl:List Value}{B newId initId:String}{te:TE}(Z:EBase B newId initId tl)(T:XC X.K C tl newId)(hno:PySem.W.findIn X.K (.ref C) f=some none)(iC:PySem.W.findIn X.K (.ref C) "__init__"=some (some (.ref fI)))(tI:PySem.W.typeIn X.K (.ref fI)=some (.type "function"))
  (F1:FnOkG X.prog X.w X.K X.mg X.base k fI fd ps (spX X.K tl newId f)) (hr:RG (k+1) X.A) (hb:Binds X.K fd ps []) (hm:X.mg x=some (.ref C)) (ha:PE X e te)
  (hg:Gl X x:=by rfl) (hdb:(x==("__debug__" : Str))=false:=by decide) (he:starEach [e] X.env=(false,eval e X.env)::starEach [] X.env:=by rfl) (hpl:(backTo pos (starEach [] X.env)).any (·.1)=false:=by rfl) :
  PMk X (.Call (.Name x p) [e] [] pos) (fun σ H Q=>te σ H fun v H1=>∀ d,H1 d=none→Q (.ref C) (some d) (upd H1 d (.xd [(f,v)]))):=by
 intro pins s σ H Q I h
 obtain ⟨nm,q,N,bs,bm,sn,sub,ab,col,dd,k0,k1,k2,k3,k5,hC,hbm⟩:=T.cls
 refine wpAny_Call_Name_kw (ld_glob I hg hm ?_ hdb)
 refine PySem.W.callWith_K (h₀:=X.base) I.ok.mod.kin T.kC (thn ((pa_cons ha pa_nil he).run pos pins s σ H (fun vs H1=>match vs with | [v]=>∀ d,H1 d=none→Q (.ref C) (some d) (upd H1 d (.xd [(f,v)])) | _=>False) I h) fun us s1 ⟨vs,H1,I1,r1,q1⟩=>⟨I1.kIn,?_⟩) he hpl
 cases r1 with
 | nil=>exact q1.elim
 | @cons v u vs2 us2 rv rr =>
  cases rr with
  | cons _ _=>exact q1.elim
  | nil =>
   have q1:∀ d,H1 d=none→Q (.ref C) (some d) (upd H1 d (.xd [(f,v)])):=q1
   show wpAny _ _ (call (.ref C) [u]) _ _ _
   obtain ⟨hp,g,dr,tk,os⟩:=s1
   have hsz:hp.objs.size≤hp.objs.size+1:=Nat.le_succ _
   have hn:H1 (hp.objs.size+1)=none:=I1.hok.fresh hsz
   have kk:∀ b o,hp.get? b=some o→((hp.push (PySem.W.kdv_tup [u])).push (PySem.HandSPX.excO C hp.objs.size)).get? b=some o:=fun b o e=>Heap.get?_push_of_some _ (Heap.get?_push_of_some _ e)
   have hget:((hp.push (PySem.W.kdv_tup [u])).push (PySem.HandSPX.excO C hp.objs.size)).get? (hp.objs.size+1)=some (PySem.HandSPX.excO C hp.objs.size):=by heap_get
   have I2:=I1.laid (t':=tk) (a:=hp.objs.size+1) (o:=exo (hp.objs.size+1) C none) (h':=(hp.push (PySem.W.kdv_tup [u])).push (PySem.HandSPX.excO C hp.objs.size)) kk hsz (exo_ok hget)
   have r2:Vals [V.ref (hp.objs.size+1),v] [Value.ref (hp.objs.size+1),u]:=.cons rfl (.cons rv .nil)
   have hq:spX X.K tl newId f [.ref (hp.objs.size+1),v] (upd H1 (hp.objs.size+1) (exo (hp.objs.size+1) C none))
     (fun z H2=>z=.non∧∃ (d:Addr) (fs:List (Str×V)),H2 (hp.objs.size+1)=some (exo (hp.objs.size+1) C (some d))∧H2 d=some (exd d fs)∧H1 d=none∧Q (.ref C) (some d) (upd (del H2 (hp.objs.size+1)) d (.xd fs))) (fun _ _ _=>False):=by
    refine ⟨_,C,v,rfl,T,hno,upd_same,fun dx h1 h2=>⟨rfl,dx,_,upd_same,by rw [upd_ne h2,upd_same],by rw [upd_ne h2] at h1; exact h1,?_⟩⟩
    have h1':H1 dx=none:=by rw [upd_ne h2] at h1; exact h1
    have eq:upd (del (upd (upd (upd H1 (hp.objs.size+1) (exo (hp.objs.size+1) C none)) dx (exd dx [(f,v)])) (hp.objs.size+1) (exo (hp.objs.size+1) C (some dx))) (hp.objs.size+1)) dx (.xd [(f,v)])=upd H1 dx (.xd [(f,v)]):=by
     funext b
     by_cases hb:b=dx
     ·subst hb; rw [upd_same,upd_same]
     ·rw [upd_ne hb,upd_ne hb]
      by_cases hc:b=hp.objs.size+1
      ·subst hc; rw [del_same,hn]
      ·rw [del_ne hc,upd_ne hc,upd_ne hb,upd_ne hc]
    rw [eq]
    exact q1 dx h1'
   have hl:([Value.ref (hp.objs.size+1),u]++[]).length=ps.length:=by
    have e:=F1.len _ _ _ _ hq
    rw [← e]; rfl
   have run:=F1.run _ X.stack _ _ ⟨[Value.ref (hp.objs.size+1),u],[]⟩ [Value.ref (hp.objs.size+1),u] _ _ (fun _ _ _=>False) (hr.make C [u] []) (I2.env0.make C [u] []) (hb _ [Value.ref (hp.objs.size+1),u] I2.kIn hl) r2 hq
   refine wpAny_call (Z.made (fun Y=>PySem.W.excTail_contains Y bm hbm) (I1.kIn _ _ hC) (PySem.W.looks_findIn I1.kIn iC) (fun self=>PySem.W.bind_fn I1.kIn self tI) (by rw [sizeLine_eq]; exact (by decide:1≤16777216)) (codeAny_mono run fun r s' hq'=>?_))
   cases r with
   | error er =>
    obtain ⟨_,_,_,_,_,_,_,_,_,_,_,_,z⟩:=hq'
    exact z.elim
   | ok fl=>cases fl with
    | ret u' =>
     obtain ⟨z,H2,os2,bare2,un2,hok2,rz,ez,d,fs,ea,ed,hd1,q2⟩:=hq'
     subst ez
     obtain ⟨h2,g2,d2,t2,os'⟩:=s'
     exact ⟨rz,mk_end (raises_own T.exC T.tyC) I1 hsz kk un2 hok2 os2 bare2 ea ed hd1 q2⟩
    | _=>exact (show False from hq').elim
theorem js_raise (hc:X.calm=true)(tk:Takes X W)(Fo:XcFact X.prog X.w X.K X.mg X.base Γ.G x c k f)(hr:RG (k+1) X.A)(ha:PE X e (tM Γ W m))
  (hg:Gl X x:=by rfl) (hdb:(x==("__debug__" : Str))=false:=by decide) (he:starEach [e] X.env=(false,eval e X.env)::starEach [] X.env:=by rfl) (hpl:(backTo pos (starEach [] X.env)).any (·.1)=false:=by rfl) :
  PS X (.Raise (some (.Call (.Name x p) [e] [] pos)) none pos2) (tMS Γ W (mRaise c f m)):=by
 obtain ⟨tl,B,newId,initId,fI,fd,ps,Z,T,hno,hm,iC,tI,hb,F1⟩:=Fo.ex
 refine (ps_raise hc tk (pmk_x Z T hno iC tI F1 hr hb hm (je_f ha) hg hdb he hpl)).imp fun D σ H ⟨ρ,F,R,p⟩=>⟨ρ,F,R,p.bindF fun r ρ1 v F1 H1 s1 hr1 p1 d hd=>?_⟩
 unfold raiseR at p1
 split at p1
 ·rename_i z ρ2 e1
  obtain ⟨F2,s2,q2⟩:=settle_ok s1.rel hr1 e1
  have al:Alc F2 H1 (upd F2 d (.xd [(f,v)])) (upd H1 d (.xd [(f,v)])):=Alc.tup s2.rel.sub hd
  exact p1 (some d) σ _ _ (s2.trans (al.stp s2.rel)) ⟨_,upd_same,.cons (q2.mono al.subF) .nil⟩
 ·exact p1.elim
end
abbrev TSx:=Addr→Value→Option Addr→TS
def wTry (K:PySem.W.Frag)(Wout:WX)(D:Ends):List (Value×Option Nat×TSx)→WX
 | []=>Wout
 | (c,some i,ts)::r=>fun cls d σ H=>∃ b,PySem.W.exmOne K cls c=some b∧(b=true→∀ a,H a=none→ts a cls d ⟨fun σ' H'=>D.nx (σ'.set i none) H',D.rt,fun σ' H'=>D.bk (σ'.set i none) H',fun σ' H'=>D.ct (σ'.set i none) H'⟩ (σ.set i (some (.ref a))) H)∧(b=false→wTry K Wout D r cls d σ H)
 | (c,none,ts)::r=>fun cls d σ H=>∃ b,PySem.W.exmOne K cls c=some b∧(b=true→∀ a,H a=none→ts a cls d D σ H)∧(b=false→wTry K Wout D r cls d σ H)
abbrev SuOk (X:Cx)(sts:List Stmt)(ts:TSx):Prop:=∀ (a:Addr) (oe:Obj) (cls:Value) (d:Option Addr) (pn:List (Addr×Obj)),Zc cls d oe→(∃ vs,oe.data=.fields vs)→PSs (X.suite a ((a,oe)::pn)) sts (ts a cls d)
inductive Cls' (X:Cx):List ExceptHandler→List (Value×Option Nat×TSx)→Prop
 | nil:Cls' X [] []
 | as {x n:Str} {c:Value} {i:Nat} {ts:TSx} {b₀:Stmt} {suite:List Stmt} {np pos':Pos} {hds:List ExceptHandler} {l:List (Value×Option Nat×TSx)} (hc:Names X x c) (hi:X.N[i]?=some n) (hln:X.env.kindOf n=some .local) (hsu:SuOk X (b₀::suite) ts) (r:Cls' X hds l) :
   Cls' X (.ExceptHandler (some (.Name x np)) (some n) (b₀::suite) pos'::hds) ((c,some i,ts)::l)
 | only {x:Str} {c:Value} {ts:TSx} {b₀:Stmt} {suite:List Stmt} {np pos':Pos} {hds:List ExceptHandler} {l:List (Value×Option Nat×TSx)} (hc:Names X x c) (hsu:SuOk X (b₀::suite) ts) (r:Cls' X hds l) :
   Cls' X (.ExceptHandler (some (.Name x np)) none (b₀::suite) pos'::hds) ((c,none,ts)::l)
section
variable {X:Cx}{body:List Stmt}{hds:List ExceptHandler}{l:List (Value×Option Nat×TSx)}{h₀:ExceptHandler}{pos:Pos}{tb:WX→TS}{Wout:WX}
theorem ps_tryM (hs:X.stack=X.env::X.outer)(hf:X.env.frame=some X.env.locals)(hN:X.N.Nodup)(tk:Takes X Wout)
  (hb:∀ (W:WX) (pn:List (Addr×Obj)) (xe:Value→Shared→Prop),Takes (X.tr pn xe) W→PassesOwn (model X.prog X.w) X.A X.env xe→PSs (X.tr pn xe) body (tb W))
  (hh:Cls' X (h₀::hds) l):PS X (.Try body (h₀::hds) [] [] pos) (fun D σ H=>tb (wTry X.K Wout D l) D σ H):=by
 refine ⟨fun pins s σ H D I h=>wpAny_Try_except ?_⟩
 have ok:=I.ok
 have hfr:X.A.frames=some (X.env::X.outer):=by rw [ok.frames,hs]
 let xe:Value→Shared→Prop:=fun e s₁=>wpAny (model X.prog X.w) X.A (noteFrame e X.env) (fun _ s₂=>wpAny (model X.prog X.w) X.A (setFlight e none) (fun _ s₃=>wpAny (model X.prog X.w) X.A (handleBy e X.env (h₀::hds)) (SP X pins D) X.xe s₃) X.xe s₂) X.xe s₁
 have tks:Takes (X.tr (X.pn++pins) xe) (wTry X.K Wout D l):=fun u s' xx=>by
  obtain ⟨a,B,sI,pins',σ',H',cls,d,rfl,J',nb,up,sky,na,os,ag,w⟩:=xx
  have J:Inv X pins σ' H' sI:=J'.ofTry ok
  have sky':Sky B (X.env::X.outer) a (Zc cls d) X.env.locals s'.heap:=by rw [← hs]; exact sky
  show wpAny (model X.prog X.w) X.A (noteFrame (.ref a) X.env) _ _ _
  refine Sky.land Zc.steady hfr hf sky' fun h3 fl3 up3=>?_
  have J3:Inv X pins σ' H' { s' with heap:=h3 }:=J.landed nb fl3.1 (up.trans up3) os ag
  obtain ⟨oe3,vs3,he3,hz3,hd3⟩:=fl3.there
  have nfr:a∉frs (X.env::X.outer):=fun hm=>by
   obtain ⟨_,o',e',hnf⟩:=fl3.2.2.1.mem hm
   rw [he3] at e'; cases e'
   exact hnf _ hd3
  have nL:a≠X.env.locals:=fun z=>nfr (List.mem_filterMap.mpr ⟨X.env,List.mem_cons_self,by rw [hf,z]⟩)
  have nF:a∉X.fs:=fun hm=>by
   obtain ⟨e,he,q⟩:=List.mem_filterMap.mp hm
   exact nfr (List.mem_filterMap.mpr ⟨e,List.mem_cons_of_mem _ he,q⟩)
  have S3:=J3.suite he3 hd3 na nL nF
  have LT:PySem.W.Looks (model X.prog X.w) h3 (typeOf (.ref a)) cls:=fun A Q E s k q=>wpAny_typeOf_ref (k _ _ he3) (by rw [hz3.1]; exact q)
  have test:∀ {x:Str} {c:Value} {np:Pos} {Q:Value→Shared→Prop} {E:Value→Shared→Prop},Names X x c→Q c { s' with heap:=h3 }→wpAny (model X.prog X.w) (X.A.mark (some (.ref a))) (eval (.Name x np) X.env) Q E { s' with heap:=h3 }:=fun {x c np Q E} hc q=>by
   obtain ⟨hg,hdbg,hm | ⟨hm,hv,hnn⟩⟩:=hc
   ·exact ld_glob (X:=X.suite a ((a,oe3)::(X.pn++pins))) S3 hg hm q hdbg
   ·exact ld_blt (X:=X.suite a ((a,oe3)::(X.pn++pins))) S3 hg hm hv q hnn hdbg
  have go:∀ {hds':List ExceptHandler} {l':List (Value×Option Nat×TSx)},Cls' X hds' l'→wTry X.K Wout D l' cls d σ' H'→wpAny (model X.prog X.w) X.A (handleBy (.ref a) X.env hds') (SP X pins D) X.xe { s' with heap:=h3 }:=by
   intro hds' l' hk
   induction hk with
   | nil =>
    intro w
    refine wpAny_handleBy_nil ?_
    obtain ⟨k1,k2,k3,oe,vs,T,oT,ts',he,hz,hd,h1,hr⟩:=id fl3
    have fin:wpAny (model X.prog X.w) X.A (setFlight (.ref a) X.env.frame) (fun _ s4=>wpAny (model X.prog X.w) X.A (throw (.ref a):Sem Flow) (SP X pins D) X.xe s4) X.xe { s' with heap:=h3 }:=by
     rw [hf]
     exact HandSPX.setFlight_upZ fl3 fun h4 hh4 up4=>wpAny_throw (tk _ _ ⟨a,B,sI,pins,σ',H',cls,d,rfl,J,nb,(up.trans up3).trans up4,.inr (.inr (by rw [hs]; exact hh4)),na,os,ag,w⟩)
    unfold PySem.passOn
    refine wpAny_bind (wpAny_field he hd h1 ?_)
    rw [if_neg (show ¬ ((Value.ref T==Value.none)=true) from by simp)]
    first
     | exact wpAny_bind fin
     | exact wpAny_bind (wpAny_pure (wpAny_bind fin))
   | @only x c ts b₀ suite np pos' hds2 l2 hc hsu r ih =>
    intro w
    obtain ⟨b,hb1,hyes,hno⟩:=w
    refine wpAny_handleBy_cons (codeAny_handlers_test ?_) (by intro q; cases q)
    refine test hc ((PySem.W.exm_one (M:=model X.prog X.w) (J3.kIn) LT hb1).here ?_)
    cases b with
    | false=>exact ih (hno rfl)
    | true =>
     refine codeAny_handlers_suite (HandSPX.lands_againZ fl3 fun h4 fl4 up4=>?_)
     have J4:Inv X pins σ' H' { s' with heap:=h4 }:=J.landed nb fl4.1 ((up.trans up3).trans up4) os ag
     obtain ⟨oe4,vs4,he4,hz4,hd4⟩:=fl4.there
     have S4:=J4.suite he4 hd4 na nL nF
     refine wpAny_mono ((hsu a oe4 cls d (X.pn++pins) hz4 ⟨_,hd4⟩).run [] _ _ H' _ S4 (hyes rfl a na)) (fun f s6 hsp=>?_) (fun _ _ z=>False.elim z)
     cases f with
     | ret u=>obtain ⟨v6,σ6,H6,S6,r6,q6⟩:=hsp; exact ⟨_,_,_,S6.unsuite ok,r6,q6⟩
     | _=>obtain ⟨σ6,H6,S6,q6⟩:=hsp; exact ⟨_,_,S6.unsuite ok,q6⟩
   | @as x n c i ts b₀ suite np pos' hds2 l2 hc hi hln hsu r ih =>
    intro w
    obtain ⟨b,hb1,hyes,hno⟩:=w
    refine wpAny_handleBy_cons (codeAny_handlers_test ?_) (by intro q; cases q)
    refine test hc ((PySem.W.exm_one (M:=model X.prog X.w) (J3.kIn) LT hb1).here ?_)
    cases b with
    | false=>exact ih (hno rfl)
    | true =>
     refine codeAny_handlers_suite_as (HandSPX.lands_againZ fl3 fun h4 fl4 up4=>?_)
     have J4:Inv X pins σ' H' { s' with heap:=h4 }:=J.landed nb fl4.1 ((up.trans up3).trans up4) os ag
     obtain ⟨oe4,vs4,he4,hz4,hd4⟩:=fl4.there
     have S4:=J4.suite he4 hd4 na nL nF
     refine store_ok (X:=X.suite a ((a,oe4)::(X.pn++pins))) (v:=.ref a) S4 hN hi (.inl hln) rfl (fun s5 S5=>?_) (.inr hln)
     refine wpAny_mono ((hsu a oe4 cls d (X.pn++pins) hz4 ⟨_,hd4⟩).run [] s5 _ H' _ S5 (hyes rfl a na)) (fun f s6 hsp=>?_) (fun _ _ z=>False.elim z)
     have off:∀ {σ6:St} {H6:Hp} {Q:Shared→Prop},Inv (X.suite a ((a,oe4)::(X.pn++pins))) [] σ6 H6 s6→(∀ s7,Inv X pins (σ6.set i none) H6 s7→Q s7)→wpAny (model X.prog X.w) X.A (do bindName X.env n .none; unbindBehindTheSuite X.env n pos') (fun _ s7=>Q s7) X.xe s6 :=
      fun {σ6 H6 Q} S6 hq=>gone_ok (S6.unsuite ok) hN hi hln hq
     cases f with
     | ret u=>obtain ⟨v6,σ6,H6,S6,r6,q6⟩:=hsp; exact off S6 fun s7 J7=>⟨_,_,_,J7,r6,q6⟩
     | _=>obtain ⟨σ6,H6,S6,q6⟩:=hsp; exact off S6 fun s7 J7=>⟨_,_,J7,q6⟩
  exact go hh w
 refine wpAny_mono ((hb (wTry X.K Wout D l) (X.pn++pins) xe tks PassesOwn.looking).run [] s σ H D (I.toTry _) h) (fun f s1 hsp=>?_) (fun e s1 he=>he)
 cases f with
 | next=>obtain ⟨σ',H',J',q⟩:=hsp; exact wpAny_execs_nil ⟨σ',H',J'.ofTry ok,q⟩
 | ret u=>obtain ⟨v,σ',H',J',r,q⟩:=hsp; exact ⟨v,σ',H',J'.ofTry ok,r,q⟩
 | _=>obtain ⟨σ',H',J',q⟩:=hsp; exact ⟨σ',H',J'.ofTry ok,q⟩
end
def noExn (ρ:Rho):Bool:=ρ.all fun s=>match s with
 | some (.exn none)=>false
 | _=>true
theorem noExn_at {ρ:Rho}{i:Nat}(h:noExn ρ=true):ρ[i]?≠some (some (.exn none)):=fun e=>by
 have:=List.all_eq_true.mp h _ (List.mem_of_getElem? e)
 cases this
theorem excRep_mono {G:Gx}{F F' H H':Hp}{x:Exc}{d:Option Addr}(e:Same F F')(h:ExcRep G F H x d):ExcRep G F' H' x d:=by
 cases d with
 | none=>exact h
 | some b=>obtain ⟨fvs,h1,h2⟩:=h; exact ⟨fvs,e _ _ h1,h2.mono e⟩
abbrev Gs (Γ:Gm)(a:Addr)(x:Exc)(d:Option Addr):Gm:={ Γ with x:=a,J:=fun F=>ExcRep Γ.G F F x d,Jm:=fun F F' e h=>excRep_mono e h }
theorem own_gs {Γ:Gm}{ρ:Rho}{σ:St}{F H:Hp}{a:Addr}{x:Exc}{d:Option Addr}{i:Nat}{c:Addr}:OwnAt (Gs Γ a x d) ρ σ F H i c↔OwnAt Γ ρ σ F H i c:=by
 constructor
 ·rintro ⟨s,v,L,h1,h2,h3,h4⟩
  cases s with
  | val d=>rw [h3.2] at h4; cases h4
  | exn b=>cases b <;> (rw [h3.2] at h4; cases h4)
  | own b d=>exact ⟨_,v,L,h1,h2,h3,h4⟩
 ·rintro ⟨s,v,L,h1,h2,h3,h4⟩
  cases s with
  | val d=>rw [h3.2] at h4; cases h4
  | exn b=>cases b <;> (rw [h3.2] at h4; cases h4)
  | own b d=>exact ⟨_,v,L,h1,h2,h3,h4⟩
theorem Rel.suite {Γ:Gm}{ρ:Rho}{σ:St}{F H:Hp}{a:Addr}{x:Exc}{d:Option Addr}(R:Rel Γ ρ σ F H)(n:noExn ρ=true)(q:ExcRep Γ.G F H x d):Rel (Gs Γ a x d) ρ σ F H :=
 ⟨R.sub,fun i s h=>by
  obtain ⟨v,L,h1,h2⟩:=R.slot i s h
  refine ⟨v,L,h1,?_⟩
  cases s with
  | val d=>exact h2
  | own b d=>exact h2
  | exn b=>cases b with
   | none=>exact absurd h (noExn_at n)
   | some k=>exact h2,fun i j c h1 h2=>R.inj i j c (own_gs.mp h1) (own_gs.mp h2),fun i c h=>R.own i c (own_gs.mp h),R.len,excRep_mono (H':=F) (Same.refl _) q,R.ali,R.tab⟩
theorem Stp.unsuite {Γ:Gm}{ρ ρ':Rho}{σ σ':St}{F H F' H':Hp}{a:Addr}{x:Exc}{d:Option Addr}(s:Stp (Gs Γ a x d) ρ σ F H ρ' σ' F' H')(n:noExn ρ'=true)(j:Γ.J F):Stp Γ ρ σ F H ρ' σ' F' H' :=
 ⟨⟨s.rel.sub,fun i sl h=>by
  obtain ⟨v,L,h1,h2⟩:=s.rel.slot i sl h
  refine ⟨v,L,h1,?_⟩
  cases sl with
  | val d=>exact h2
  | own b d=>exact h2
  | exn b=>cases b with
   | none=>exact absurd h (noExn_at n)
   | some k=>exact h2,fun i j c h1 h2=>s.rel.inj i j c (own_gs.mpr h1) (own_gs.mpr h2),fun i c h=>s.rel.own i c (own_gs.mpr h),s.rel.len,Γ.Jm _ _ s.subF j,s.rel.ali,s.rel.tab⟩,s.subF,s.keep,s.there⟩
theorem Stp.off {Γ:Gm}{ρ₀ ρ:Rho}{σ₀ σ:St}{F₀ H₀ F H:Hp}(s:Stp Γ ρ₀ σ₀ F₀ H₀ ρ σ F H)(i:Nat):Stp Γ ρ₀ σ₀ F₀ H₀ (ρ.set i none) (σ.set i none) F H∧∀ c,Own Γ (ρ.set i none) (σ.set i none) F H c→Own Γ ρ σ F H c:=by
 obtain ⟨R,bk⟩:=s.rel.drop (σ':=σ.set i none) i (fun j e=>by rw [List.getElem?_set_ne (Ne.symm e)]) (by simp)
 exact ⟨⟨R,s.subF,s.keep,s.there⟩,fun c ⟨j,o⟩=>⟨j,(bk j c o).2⟩⟩
structure Hd where
 tst:ECl→Option Bool
 slot:Option Nat
 ms:Exc→MS
def offS (i:Nat):SOut→SOut
 | .nx ρ=>if noExn (ρ.set i none)=true then .nx (ρ.set i none) else .stuck
 | .ret r ρ=>if noExn (ρ.set i none)=true then .ret r (ρ.set i none) else .stuck
 | .bk ρ=>if noExn (ρ.set i none)=true then .bk (ρ.set i none) else .stuck
 | .ct ρ=>if noExn (ρ.set i none)=true then .ct (ρ.set i none) else .stuck
 | _=>.stuck
def onS:SOut→SOut
 | .nx ρ=>if noExn ρ=true then .nx ρ else .stuck
 | .ret r ρ=>if noExn ρ=true then .ret r ρ else .stuck
 | .bk ρ=>if noExn ρ=true then .bk ρ else .stuck
 | .ct ρ=>if noExn ρ=true then .ct ρ else .stuck
 | _=>.stuck
def mHd:List Hd→Exc→Rho→SOut
 | [],x,ρ=>.exc x ρ
 | h::r,x,ρ=>match h.tst x.c with
  | some true=>if noExn ρ=true then (match h.slot with
   | some i=>if i<ρ.length then offS i (h.ms x (ρ.set i (some (.exn none)))) else .stuck
   | none=>onS (h.ms x ρ)) else .stuck
  | some false=>mHd r x ρ
  | none=>.stuck
def mTry (mb:MS)(hs:List Hd):MS:=fun ρ=>match mb ρ with
 | .exc x ρ1=>mHd hs x ρ1
 | o=>o
def tsOf (Γ:Gm)(ms:Exc→MS):TSx:=fun a cls d D σ H=>∃ x,cls=ecV Γ.G x.c∧tMS (Gs Γ a x d) (fun _ _ _ _=>False) (ms x) D σ H
theorem suP {X:Cx}{Γ:Gm}{a:Addr}{cls:Value}{d:Option Addr}{ms:Exc→MS}{sts:List Stmt}(h:∀ x,cls=ecV Γ.G x.c→PSs X sts (tMS (Gs Γ a x d) (fun _ _ _ _=>False) (ms x))):PSs X sts (tsOf Γ ms a cls d) :=
 ⟨fun pins s σ H D I ⟨x,e,q⟩=>(h x e).run pins s σ H D I q⟩
inductive HdR (K:PySem.W.Frag)(Γ:Gm):List Hd→List (Value×Option Nat×TSx)→Prop
 | nil:HdR K Γ [] []
 | cons {h:Hd} {c:Value} {r:List Hd} {l:List (Value×Option Nat×TSx)} (ht:∀ e b,h.tst e=some b→PySem.W.exmOne K (ecV Γ.G e) c=some b) (t:HdR K Γ r l):HdR K Γ (h::r) ((c,h.slot,tsOf Γ h.ms)::l)
section
variable {K:PySem.W.Frag}{Γ:Gm}{W:WX}
theorem RepOut.gs {Γ:Gm}{a:Addr}{x:Exc}{d:Option Addr}{ρ:Rho}{σ:St}{F H:Hp}{v:V}{r:Res}(h:RepOut (Gs Γ a x d) ρ σ F H v r):RepOut Γ ρ σ F H v r:=by
 cases r with
 | val d=>exact h
 | «at» j=>exact h
 | new d=>obtain ⟨a,L,e,c,fr⟩:=h; exact ⟨a,L,e,c,fun b hb=>⟨(fr b hb).1,(fr b hb).2.1,fun ⟨j,z⟩=>(fr b hb).2.2 ⟨j,own_gs.mpr z⟩⟩⟩
theorem RepOut.sub {ρ ρ':Rho}{σ σ':St}{F H:Hp}{v:V}{r:Res}(bk:∀ c,Own Γ ρ' σ' F H c→Own Γ ρ σ F H c)(h:RepOut Γ ρ σ F H v r):RepOut Γ ρ' σ' F H v r:=by
 cases r with
 | val d=>exact h
 | «at» j=>exact h
 | new d=>obtain ⟨a,L,e,c,fr⟩:=h; exact ⟨a,L,e,c,fun b hb=>⟨(fr b hb).1,(fr b hb).2.1,fun z=>(fr b hb).2.2 (bk b z)⟩⟩
theorem hd_ok {D:Ends}{x:Exc}{d:Option Addr}{ρ ρ1:Rho}{σ σ1:St}{F H F1 H1:Hp}(s:Stp Γ ρ σ F H ρ1 σ1 F1 H1)(q:ExcRep Γ.G F1 H1 x d):∀ {hs:List Hd} {l:List (Value×Option Nat×TSx)},HdR K Γ hs l→PostS Γ W (mHd hs x ρ1) ρ σ F H D→wTry K W D l (ecV Γ.G x.c) d σ1 H1
 | _,_,.nil,p=>p d σ1 F1 H1 s q
 | _,_,.cons (h:=h) (c:=c) (r:=r) (l:=l) ht t,p=>by
  simp only [mHd] at p
  cases et:h.tst x.c with
  | none=>rw [et] at p; exact p.elim
  | some b =>
   rw [et] at p
   have hb:=ht _ _ et
   cases b with
   | false =>
    have z:=hd_ok s q t p
    cases es:h.slot with
    | none=>exact ⟨false,hb,(fun w=>by cases w),fun _=>z⟩
    | some i=>exact ⟨false,hb,(fun w=>by cases w),fun _=>z⟩
   | true =>
    simp only at p
    split at p
    ·rename_i hn
     cases es:h.slot with
     | none =>
      refine ⟨true,hb,fun _ a ha=>⟨x,rfl,ρ1,F1,s.rel.suite hn q,?_⟩,(fun w=>by cases w)⟩
      rw [es] at p
      simp only at p
      cases eo:h.ms x ρ1 with
      | nx ρ2 =>
       rw [eo] at p; simp only [onS] at p; split at p
       ·rename_i w; exact fun σ2 F2 H2 s2=>p σ2 F2 H2 (s.trans (s2.unsuite w s.rel.inv))
       ·exact p.elim
      | bk ρ2 =>
       rw [eo] at p; simp only [onS] at p; split at p
       ·rename_i w; exact fun σ2 F2 H2 s2=>p σ2 F2 H2 (s.trans (s2.unsuite w s.rel.inv))
       ·exact p.elim
      | ct ρ2 =>
       rw [eo] at p; simp only [onS] at p; split at p
       ·rename_i w; exact fun σ2 F2 H2 s2=>p σ2 F2 H2 (s.trans (s2.unsuite w s.rel.inv))
       ·exact p.elim
      | ret r2 ρ2 =>
       rw [eo] at p; simp only [onS] at p; split at p
       ·rename_i w; exact fun v σ2 F2 H2 s2 o2=>p v σ2 F2 H2 (s.trans (s2.unsuite w s.rel.inv)) o2.gs
       ·exact p.elim
      | exc y ρ2=>rw [eo] at p; exact p.elim
      | stuck=>rw [eo] at p; exact p.elim
     | some i =>
      refine ⟨true,hb,fun _ a ha=>?_,(fun w=>by cases w)⟩
      rw [es] at p
      simp only at p
      split at p
      ·rename_i hi
       have R1:=s.rel.suite (a:=a) hn q
       have s1:Stp (Gs Γ a x d) ρ1 σ1 F1 H1 (ρ1.set i (some (.exn none))) (σ1.set i (some (.ref a))) F1 H1:=(Stp.refl R1).set (L:=[]) hi ⟨rfl,rfl⟩ fresh_nil
       refine ⟨x,rfl,_,F1,s1.rel,?_⟩
       cases eo:h.ms x (ρ1.set i (some (.exn none))) with
       | nx ρ2 =>
        rw [eo] at p; simp only [offS] at p; split at p
        ·rename_i w; exact fun σ2 F2 H2 s2=>p _ F2 H2 (s.trans (((s1.trans s2).off i).1.unsuite w s.rel.inv))
        ·exact p.elim
       | bk ρ2 =>
        rw [eo] at p; simp only [offS] at p; split at p
        ·rename_i w; exact fun σ2 F2 H2 s2=>p _ F2 H2 (s.trans (((s1.trans s2).off i).1.unsuite w s.rel.inv))
        ·exact p.elim
       | ct ρ2 =>
        rw [eo] at p; simp only [offS] at p; split at p
        ·rename_i w; exact fun σ2 F2 H2 s2=>p _ F2 H2 (s.trans (((s1.trans s2).off i).1.unsuite w s.rel.inv))
        ·exact p.elim
       | ret r2 ρ2 =>
        rw [eo] at p; simp only [offS] at p; split at p
        ·rename_i w; exact fun v σ2 F2 H2 s2 o2=>p v _ F2 H2 (s.trans (((s1.trans s2).off i).1.unsuite w s.rel.inv)) (o2.sub ((s1.trans s2).off i).2).gs
        ·exact p.elim
       | exc y ρ2=>rw [eo] at p; exact p.elim
       | stuck=>rw [eo] at p; exact p.elim
      ·exact p.elim
    ·exact p.elim
end
theorem js_try {X:Cx}{Γ:Gm}{W:WX}{body:List Stmt}{h₀:ExceptHandler}{hds:List ExceptHandler}{l:List (Value×Option Nat×TSx)}{hs:List Hd}{mb:MS}{pos:Pos}(hst:X.stack=X.env::X.outer)(hf:X.env.frame=some X.env.locals)(hN:X.N.Nodup)(tk:Takes X W)
  (hb:∀ (W:WX) (pn:List (Addr×Obj)) (xe:Value→Shared→Prop),Takes (X.tr pn xe) W→PassesOwn (model X.prog X.w) X.A X.env xe→PSs (X.tr pn xe) body (tMS Γ W mb))
  (hh:Cls' X (h₀::hds) l) (hr:HdR X.K Γ hs l):PS X (.Try body (h₀::hds) [] [] pos) (tMS Γ W (mTry mb hs)) :=
 (ps_tryM hst hf hN tk hb hh).imp fun D σ H ⟨ρ,F,R,p⟩=>⟨ρ,F,R,by
  unfold mTry at p
  cases e:mb ρ with
  | exc x ρ1=>rw [e] at p; exact fun d σ' F' H' s q=>hd_ok s q hr p
  | nx ρ1=>rw [e] at p; exact p
  | ret r ρ1=>rw [e] at p; exact p
  | bk ρ1=>rw [e] at p; exact p
  | ct ρ1=>rw [e] at p; exact p
  | stuck=>rw [e] at p; exact p.elim⟩
def xcO (x:Exc)(c:Nat):Bool:=match x.c with
 | .own c'=>c'==c
 | _=>false
def exnAt (ρ:Rho)(i:Nat):Bool:=match ρ[i]? with
 | some (some (.exn none))=>true
 | _=>false
def mXf (c i:Nat)(x:Exc)(f:Str):M:=fun ρ=>if exnAt ρ i&&xcO x c then (match x.fs.lookup f with
 | some d=>.ok (.val d) ρ
 | none=>.stuck) else .stuck
theorem exnAt_ok {ρ:Rho}{i:Nat}(h:exnAt ρ i=true):ρ[i]?=some (some (.exn none)):=by
 unfold exnAt at h; split at h
 ·assumption
 ·cases h
theorem xcO_ok {G:Gx}{x:Exc}{c:Nat}(h:xcO x c=true):ecV G x.c=.ref (G.cl c):=by
 unfold xcO at h; split at h
 ·rename_i c' e; rw [e]; obtain rfl:c'=c:=by simpa using h
  rfl
 ·cases h
section
variable {X:Cx}{Γ:Gm}{W:WX}{a:Addr}{oe:Obj}{cls:Value}{d:Option Addr}{pn:List (Addr×Obj)}{x:Exc}{n f:Str}{c i:Nat}{p pos:Pos}
theorem je_xf (T:XfC X.K (Γ.G.cl c))(hno:PySem.W.findIn X.K (.ref (Γ.G.cl c)) f=some none)(hz:Zc cls d oe)(hf:∃ vs,oe.data=.fields vs)(hc:cls=ecV Γ.G x.c)(hN:X.N[i]?=some n:=by rfl)
  (hv:Vis X.env.scope n:=by first | exact Or.inl rfl | exact Or.inr (Or.inl rfl) | exact Or.inr (Or.inr rfl)) (hd1:(n==("__debug__" : Str))=false:=by decide) (hcd:(n==("__classdict__" : Str))=false:=by decide)
  (hb:attributeBase (.Name n p) f X.env (eval (.Name n p) X.env)=eval (.Name n p) X.env:=by rfl):PE (X.suite a ((a,oe)::pn)) (.Attribute (.Name n p) f pos) (tM (Gs Γ a x d) W (mXf c i x f)) :=
 (pe_xf T hno hz hf (pe_var (X:=X.suite a ((a,oe)::pn)) hN hv hd1 hcd) hb).imp fun σ H Q ⟨ρ,F,R,q⟩=>by
  unfold mXf at q
  split at q
  ·rename_i w
   obtain ⟨w1,w2⟩:=Bool.and_eq_true_iff.mp w
   obtain ⟨v,_,h1,h2,_⟩:=R.slot i _ (exnAt_ok w1)
   split at q
   ·rename_i z e
    have J:=R.inv
    cases d with
    | none=>rw [show x.fs=[] from J] at e; cases e
    | some dd =>
     obtain ⟨fvs,g1,g2⟩:=J
     obtain ⟨u,g3,g4⟩:=g2.look e
     exact ⟨v,h1,h2,by rw [hc,xcO_ok w2],dd,fvs,u,rfl,R.sub _ _ g1,g3,q u F H (.refl R) g4⟩
   ·exact q.elim
  ·exact q.elim
end
end PyD
namespace PyQ
open PySem PySem.SeqAt GQ
open AutoSeq1 (wpAny_loadPart')
open MeetsSeq MeetsSeq2 MeetsSeq3 SeqRoads2
section
variable {prog:Program}{w:World}{A:Around}{R:Result→Shared→Prop}{neg:Bool}
end
end PyQ
namespace PyD
open PySem PySem.Spec PyProof.Rows L2
def flatE:D→D→Option Bool
 | .non,.non=>some true
 | .bl a,.bl b=>some (a==b)
 | .bl a,.int b=>some ((if a then 1 else 0)==b)
 | .int a,.bl b=>some (a==(if b then 1 else 0))
 | .int a,.int b=>some (a==b)
 | .str a,.str b=>some (a==b)
 | .non,.bl _=>some false
 | .non,.int _=>some false
 | .non,.str _=>some false
 | .bl _,.non=>some false
 | .int _,.non=>some false
 | .str _,.non=>some false
 | .bl _,.str _=>some false
 | .int _,.str _=>some false
 | .str _,.bl _=>some false
 | .str _,.int _=>some false
 | _,_=>none
def apartF:List (Str×D)→List (Str×D)→Bool
 | (k,d)::r,(k',d')::r'=>(decide (k=k')&&(flatE d d'==some false))||apartF r r'
 | _,_=>false
def apart:D→D→Bool
 | .obj _ fs,.obj _ gs=>apartF fs gs
 | .obj _ _,.non=>true
 | .obj _ _,.int _=>true
 | .obj _ _,.str _=>true
 | .obj _ _,.bl _=>true
 | _,_=>false
def orE (e e':D→D→Option Bool):D→D→Option Bool:=fun x y=>match e x y with
 | some b=>some b
 | none=>e' x y
structure EqFact (P:Program)(w:World)(K:PySem.W.Frag)(mg:Str→Option Value)(base:Heap)(G:Gx)(c k:Nat)(f:Fn):Prop where
 ex:∃ g fd ps,PySem.W.findIn K (.ref (G.cl c)) "__eq__"=some (some (.ref g))∧PySem.W.isFn K (.ref g)=true∧Binds K fd ps []∧FnOkG P w K mg base k g fd ps (spF G [] 2 f)
 ne:PySem.W.findIn K (.ref (G.cl c)) "__ne__"=some (some (.builtin "object.__ne__"))
 mo:PySem.W.mroIn K (G.cl c) (.type "object")=some true
 nfB:∀ t∈baseT,PySem.W.notFirst K (G.cl c) (.type t)=true
def EqTab (P:Program)(w:World)(K:PySem.W.Frag)(mg:Str→Option Value)(base:Heap)(G:Gx)(T:Tab)(k:Nat)(E:Nat→Option Fn):Prop :=
 ∀ c f,E c=some f→c<T.n∧EqFact P w K mg base G c k f∧∀ c',c'<T.n→PySem.W.notFirst K (G.cl c) (.ref (G.cl c'))=true
theorem Alc.trans {F H F1 H1 F2 H2:Hp}(a:Alc F H F1 H1)(b:Alc F1 H1 F2 H2):Alc F H F2 H2 :=
 ⟨a.subF.trans b.subF,a.subH.trans b.subH,b.fh,fun c o h f=>b.frn c o (a.subH c o h) (a.frn c o h f)⟩
section
variable {X:Cx}{G:Gx}{T:Tab}{E:Nat→Option Fn}{k:Nat}
def RcS (X:Cx)(G:Gx)(n:Nat)(neg:Bool)(e:D→D→Option Bool):Prop:=∀ (A:Around) (pins:List (Addr×Obj)) (s:Shared) (σ:St) (F H:Hp) (x y:V) (u v:Value) (dx dy:D) (b:Bool),SubG X n A→Inv X pins σ H s→RelV x u→RelV y v→Same F H→Dp G F x dx→Dp G F y dy→e dx dy=some b →
 wpAny (model X.prog X.w) A (richCompare (if neg then .NotEq else .Eq) u v) (fun r s'=>r=.bool (neg != b)∧∃ F' H',Inv X pins σ H' s'∧Alc F H F' H') X.xe s
end
end PyD
namespace PyQ
open PySem PySem.W PySem.Calls PyProof.Rows
section
variable {prog:Program}{w:World}{A:Around}{E:Value→Shared→Prop}{s:Shared}{K:Frag}{x C f:Addr}{ox:Obj}{od:Option Obj}{b tb:Value}
end
end PyQ
namespace PyD
open PySem PySem.Spec PyProof.Rows L2
section
variable {X:Cx}{G:Gx}{T:Tab}{E:Nat→Option Fn}{k:Nat}
theorem EqTab.mono {P:Program}{w:World}{K:PySem.W.Frag}{mg:Str→Option Value}{base:Heap}(h:EqTab P w K mg base G T k E):True:=trivial
end
section
variable {X:Cx}{G:Gx}{k:Nat}
theorem RcS.or {n:Nat}{neg:Bool}{e e':D→D→Option Bool}(h:RcS X G n neg e)(h':RcS X G n neg e'):RcS X G n neg (orE e e'):=fun A pins s σ F H x y u v dx dy b sb I rx ry eS hx hy q=>by
 unfold orE at q
 split at q
 ·rename_i b' w; cases q; exact h A pins s σ F H x y u v dx dy _ sb I rx ry eS hx hy w
 ·exact h' A pins s σ F H x y u v dx dy b sb I rx ry eS hx hy q
theorem RcS.mono {n m:Nat}{neg:Bool}{e:D→D→Option Bool}(h:RcS X G n neg e)(hn:n≤m):RcS X G m neg e:=fun A pins s σ F H x y u v dx dy b sb=>h A pins s σ F H x y u v dx dy b (sb.mono hn)
end
theorem frzH_sub' {F H:Hp}{L:List Addr}(e:Same F H):Same F (frzH F H L):=fun b o q=>by
 by_cases h:b∈L
 ·rw [frzH_in h]; exact e b o q
 ·rw [frzH_out h]; exact q
def notO:D→Bool
 | .lstO _=>false
 | .dctO _=>false
 | .objO _ _=>false
 | .kid _=>false
 | _=>true
theorem View.frz {G:Gx}{F H:Hp}{v:V}{d:D}(e:Same F H)(h:View G F H v d)(hn:notO d=true):∃ L:List Addr,∀ L':List Addr,(∀ b∈L,b∈L')→Dp G (frzH F H L') v d:=by
 rcases h with h | ⟨a,L,rfl,c⟩
 ·exact ⟨[],fun L' _=>h.mono (frzH_sub' e)⟩
 ·cases c with
  | flat c =>
   refine ⟨[a],fun L' sb=>?_⟩
   have ha:frzH F H L' a=H a:=frzH_in (sb a (List.mem_cons_self ..))
   have es:=frzH_sub' (L:=L') e
   cases d with
   | lst ds=>obtain ⟨vs,h,t⟩:=c; exact .lst (by rw [ha]; exact h) (t.mono es)
   | dct ds=>obtain ⟨vs,h,t⟩:=c; exact .dct (by rw [ha]; exact h) (t.mono es)
   | obj c fs=>obtain ⟨dx,vs,h,t⟩:=c; exact .obj (by rw [ha]; exact h) (t.mono es)
   | dctN ds=>obtain ⟨vs,h,t⟩:=c; exact .dctN (.inl (by rw [ha]; exact h)) (t.mono es)
   | _=>exact c.elim
  | _=>cases hn
structure SpFact (P:Program)(w:World)(K:PySem.W.Frag)(mg:Str→Option Value)(base:Heap)(G:Gx)(Θ:List NdefX.NTab)(c:Nat)(m:Str)(n k:Nat)(f:Fn):Prop where
 ex:∃ g fd ps,PySem.W.findIn K (.ref (G.cl c)) m=some (some (.ref g))∧PySem.W.isFn K (.ref g)=true∧PySem.W.fnIn K g=true∧Binds K fd ps []∧FnOkG P w K mg base k g fd ps (spF G Θ n f)
section
variable {X:Cx}{G:Gx}{T:Tab}{E:Nat→Option Fn}{k:Nat}
structure NfTab (K:PySem.W.Frag)(G:Gx)(T:Tab)(E:Nat→Option Fn):Prop where
 lt:∀ c f,E c=some f→c<T.n
 nfB:∀ c f,E c=some f→∀ t∈baseT,PySem.W.notFirst K (G.cl c) (.type t)=true
 nf:∀ c f,E c=some f→∀ c',c'<T.n→PySem.W.notFirst K (G.cl c) (.ref (G.cl c'))=true
end
section
variable {X:Cx}{Γ:Gm}{W:WX}
end
section
variable {X:Cx}{Γ:Gm}{W:WX}
def ixCall (E:Nat→Option Fn)(c:Nat)(a b:Res)(ρ:Rho):Out Res:=match E c with
 | some f=>callR [false,false] f [a,b] ρ
 | none=>.stuck
def ixDisp (E:Nat→Option Fn)(o:Option D)(a b:Res)(ρ:Rho):Out Res:=match o with
 | some (.obj c _)=>ixCall E c a b ρ
 | _=>op2 ixD a b ρ
end
theorem hu190 {A:Around}{k:Nat}(hr:RG k A):A.units+190<cLine:=by have:=hr.un; omega
def strD:List D→Option Res
 | [.str x]=>some (.val (.str x))
 | [.int i]=>if i.natAbs.log2<1920 then some (.val (.str (Str.ofString (toString i)))) else none
 | _=>none
theorem call_strAll {X:Cx}:CallR X (.type "str") (OrC (fun xs H Q=>∃ a,xs=[.str a]∧Q (.str a) H) (fun xs H Q=>∃ i:Int,xs=[.int i]∧i.natAbs.log2<1920∧Q (.str (toString i)) H)):=SkE.call_str_str.or call_str_int
theorem strD_ok {G:Gx}:CallOk G (OrC (fun xs H Q=>∃ a,xs=[.str a]∧Q (.str a) H) (fun xs H Q=>∃ i:Int,xs=[.int i]∧i.natAbs.log2<1920∧Q (.str (toString i)) H)) strD:=by
 intro F H xs ds res Q e v q k
 unfold strD at q
 split at q
 ·rename_i z
  cases q
  cases v with | cons vx t=>cases t; rw [vx.str]; exact .inl ⟨z,rfl,k _ F H (.refl e) (.str _)⟩
 ·rename_i i
  split at q
  ·rename_i w
   cases q
   cases v with | cons vx t=>cases t; rw [vx.int]; exact .inr ⟨i,rfl,w,k _ F H (.refl e) (.str _)⟩
  ·cases q
 ·cases q
theorem and2 {a b:Bool}(h:(a&&b)=true):a=true∧b=true:=Bool.and_eq_true_iff.mp h
theorem clsB_ok {K:PySem.W.Frag}{a:Addr}(h:clsB K a=true):Cls K a:=by
 obtain ⟨h1,h⟩:=and2 h
 obtain ⟨h2,h⟩:=and2 h
 obtain ⟨h3,h4⟩:=and2 h
 exact ⟨h1,h2,h3,of_decide_eq_true h4⟩
theorem tabB_ok {G:Gx}{T:Tab}(h:tabB G.K G.cl T=true):TabOk G T:=by
 have key:∀ c,c<T.n→tab1 G.K G.cl T c=true:=fun c hc=>List.all_eq_true.mp h c (List.mem_range.mpr hc)
 refine ⟨fun c hc t ht=>?_,fun c hc c' hc'=>?_,fun c hc t ht=>?_,fun c hc=>?_,fun c hc=>?_,fun hn=>?_,fun hn=>?_,fun c hc=>?_,fun c hc f hf=>?_⟩
 all_goals first
  | (have k:=key c hc
     obtain ⟨a1,k⟩:=and2 k
     obtain ⟨a2,k⟩:=and2 k
     obtain ⟨a3,k⟩:=and2 k
     obtain ⟨a4,k⟩:=and2 k
     obtain ⟨a5,k⟩:=and2 k
     obtain ⟨a6,k⟩:=and2 k
     obtain ⟨a7,k⟩:=and2 k
     first
      | exact of_decide_eq_true (List.all_eq_true.mp a1 t ht)
      | exact of_decide_eq_true (List.all_eq_true.mp a2 c' (List.mem_range.mpr hc'))
      | exact of_decide_eq_true (List.all_eq_true.mp a3 t ht)
      | exact clsB_ok a4
      | exact of_decide_eq_true a5
      | exact of_decide_eq_true a6
      | exact (show PySem.W.findIn G.K (.ref (G.cl c)) f=some none from of_decide_eq_true (List.all_eq_true.mp a7 f hf)))
  | (have k:=key 0 hn
     obtain ⟨a1,k⟩:=and2 k
     obtain ⟨a2,k⟩:=and2 k
     obtain ⟨a3,k⟩:=and2 k
     obtain ⟨a4,k⟩:=and2 k
     obtain ⟨a5,k⟩:=and2 k
     obtain ⟨a6,k⟩:=and2 k
     obtain ⟨a7,k⟩:=and2 k
     obtain ⟨a8,a9⟩:=and2 k
     first | exact of_decide_eq_true a8 | exact of_decide_eq_true a9)
def nfB (K:PySem.W.Frag)(cl:Nat→Addr)(n:Nat)(a:Addr):Bool:=(baseT.all fun t=>PySem.W.notFirst K a (.type t))&&((List.range n).all fun c=>PySem.W.notFirst K a (.ref (cl c)))
section
variable {P:Program}{w:World}{K:PySem.W.Frag}{mg:Str→Option Value}{base:Heap}{G:Gx}{c n k:Nat}{m:Str}{f:Fn}{g:Addr}{fd:FuncData}{ps:List Str}
theorem FnOkG.mono {j k:Nat}{f:Addr}{sp:Sp}(F:FnOkG P w K mg base j f fd ps sp)(h:j≤k):FnOkG P w K mg base k f fd ps sp:=⟨F.len,fun A outer s H args us vs Q E hr=>F.run A outer s H args us vs Q E (hr.mono h)⟩
end
theorem xcB_ok {K:PySem.W.Frag}{C:Addr}{tl:List Value}{newId:String}(h:xcB K C tl newId=true):XC K C tl newId:=by
 obtain ⟨q,h⟩:=and2 h
 obtain ⟨h1,h⟩:=and2 h
 obtain ⟨h2,h⟩:=and2 h
 obtain ⟨h3,h4⟩:=and2 h
 refine ⟨?_,of_decide_eq_true h1,of_decide_eq_true h2,of_decide_eq_true h3,h4⟩
 split at q
 ·rename_i dd cd sl ho
  split at q
  ·rename_i C' bm k0 k1 k2 k3 n k5 hm hs
   obtain ⟨q1,q⟩:=and2 q
   obtain ⟨q2,q⟩:=and2 q
   obtain ⟨q3,q⟩:=and2 q
   obtain ⟨q4,q5⟩:=and2 q
   obtain rfl:=beq_iff_eq.mp q1
   obtain rfl:=beq_iff_eq.mp q2
   obtain ⟨nm,bs,mro,ns,qn,hd,sn,sub,ab,col,del⟩:=cd
   dsimp only at hm q3 q4
   subst hm
   have e1:del=false:=by simpa using q3
   subst e1 q4
   obtain ⟨l⟩:=sl
   simp only at hs
   subst hs
   exact ⟨nm,qn,ns,bs,bm,sn,sub,ab,col,dd,k0,k1,k2,k3,k5,ho,q5⟩
  ·cases q
 ·cases q
theorem excCB_ok {K:PySem.W.Frag}{D:Addr}(h:excCB K D=true):ExcC K D:=by
 obtain ⟨h0,h⟩:=and2 h
 obtain ⟨h1,h⟩:=and2 h
 obtain ⟨h2,h⟩:=and2 h
 obtain ⟨h3,h4⟩:=and2 h
 have x:=xfB_ok h0
 exact ⟨x.ga,x.gg,x.exC,x.hdC,of_decide_eq_true h1,of_decide_eq_true h2,of_decide_eq_true h3,of_decide_eq_true h4⟩
theorem okx_of {P:Program}{w:World}{K:PySem.W.Frag}{mg:Str→Option Value}{base:Heap}{qual b f sl txt:Str}{params:Arguments}{scope:Scope}{fI:Addr}{fd:FuncData}{B newId initId:String}{tl:List Value}{p1 p2 p3 p4 p5 p6 p7 p8 p9 p10:Pos}{j:Nat}(Z:EBase B newId initId tl)
  (F:FunD K "__init__" qual params [.Expr (.Call (.Attribute (.Name b p1) "__init__" p2) [.Name sl p3,.Constant (.str txt) j p4] [] p5) p6,.Assign [.Attribute (.Name sl p7) f p8] (.Name f p9) p10] scope [] [] fI fd) (S:FnScope [sl,f] [sl,f] scope)
  (hB:∀ (cdv:Value) (A:Around) (outer:List Env) (s:Shared) (H:Hp) (E:XK),BaseAt (cxOf (L2.CX P w) P w K mg base [sl,f] qual scope fI cdv A outer s H E) b initId)
  (v0:Vis scope sl) (v1:Vis scope f) (d0:(sl==("__debug__" : Str))=false) (d1:(f==("__debug__" : Str))=false) (c0:(sl==("__classdict__" : Str))=false) (c1:(f==("__classdict__" : Str))=false)
  (hpl:∀ (env:Env),∃ pl,eval (.Call (.Attribute (.Name b p1) "__init__" p2) [.Name sl p3,.Constant (.str txt) j p4] [] p5) env=(do let ov ← eval (.Name b p1) env; standAt p2.atName; let (f,first) ← holding [ov] (getMethod ov "__init__" pl); callWith p5 f first (backTo p5 (starEach [.Name sl p3,.Constant (.str txt) j p4] env)) (backToKw p5 (keywordEach [] env))):=by intro _; exact ⟨_,rfl⟩)
  (hs1:∀ (env:Env),swapsWith (.Call (.Attribute (.Name b p1) "__init__" p2) [.Name sl p3,.Constant (.str txt) j p4] [] p5) none p6.line env=pure false:=by intro _; rfl)
  (hs2:∀ (env:Env),swapsWith (.Name f p9) (some (.Attribute (.Name sl p7) f p8)) p10.line env=pure false:=by intro _; rfl) :
  FnOkG P w K mg base 1 fI fd [sl,f] (spX K tl newId f) :=
 okg_of F S (fun vs H Q E ⟨a,C,v,e,_⟩=>by rw [e]; rfl) fun cdv A outer s H vs Q E hr ⟨a,C,v,e,T,hn,ha,q⟩=>by
  obtain ⟨pl,hpl⟩:=hpl (cxOf (L2.CX P w) P w K mg base [sl,f] qual scope fI cdv A outer s H E).env
  refine ⟨_,pss_cons (ps_expr (pe_binit (pl:=pl) Z (hB cdv A outer s H E) (pa_cons (pe_var (i:=0) rfl v0 d0 c0) (pa_cons pe_str pa_nil)) hpl) (hs1 _)) (pss_one (ps_xst Z (pe_var (i:=0) rfl v0 d0 c0) (pe_var (i:=1) rfl v1 d1 c1) (hs2 _))),?_⟩
  subst e
  exact ⟨.ref a,rfl,a,C,[.str txt],rfl,(by simp),T,ha,v,rfl,.ref a,rfl,a,C,rfl,T,hn,ha,fun dx h1 h2=>q dx h1 h2⟩
theorem js_tryR {X:Cx}{Γ:Gm}{W:WX}{body:List Stmt}{h₀:ExceptHandler}{hds:List ExceptHandler}{l:List (Value×Option Nat×TSx)}{hs:List Hd}{mb:MS}{pos:Pos}(hst:X.stack=X.env::X.outer)(hf:X.env.frame=some X.env.locals)(hN:X.N.Nodup)(tk:Takes X W)(hr:HdR X.K Γ hs l)
  (hb:∀ (W:WX) (pn:List (Addr×Obj)) (xe:Value→Shared→Prop),Takes (X.tr pn xe) W→PassesOwn (model X.prog X.w) X.A X.env xe→PSs (X.tr pn xe) body (tMS Γ W mb)) (hh:Cls' X (h₀::hds) l):PS X (.Try body (h₀::hds) [] [] pos) (tMS Γ W (mTry mb hs)):=js_try hst hf hN tk hb hh hr
section
variable {P:Program}{w:World}{K:PySem.W.Frag}{mg:Str→Option Value}{base:Heap}{G:Gx}{T:Tab}{c k n:Nat}{m:Str}{f:Fn}{l:List (Nat×Fn)}
end
def xlook:List (Nat×Nat×Bool)→Nat→Nat→Option Bool
 | [],_,_=>none
 | (a,b,r)::l,c,d=>if a=c∧b=d then some r else xlook l c d
theorem xl_ok {K:PySem.W.Frag}{cl:Nat→Addr}:∀ {l:List (Nat×Nat×Bool)} {a b:Nat} {r:Bool},xlB K cl l=true→xlook l a b=some r→PySem.W.exmOne K (.ref (cl a)) (.ref (cl b))=some r
 | [],a,b,r,_,h=>by cases h
 | (a',b',r')::l,a,b,r,q,h=>by
  obtain ⟨q1,q2⟩:=and2 q
  simp only [xlook] at h
  split at h
  ·rename_i e; obtain ⟨rfl,rfl⟩:=e; cases h; exact of_decide_eq_true q1
  ·exact xl_ok q2 h
theorem xfc_ok {K:PySem.W.Frag}{a:Addr}{id:String}(h:xfc K a id=true):PySem.W.findCls K (.ref a) (.type "type") "__init__"=some (.val (.builtin id)):=by
 unfold xfc at h
 split at h
 ·rename_i i e; rw [e,beq_iff_eq.mp h]
 ·cases h
def Gm.alsoL (Γ:Gm)(L:List Addr):Gm:={ Γ with U:=fun b=>Γ.U b∨b∈L }
section
variable {Γ:Gm}{ρ ρ':Rho}{σ σ':St}{F H F' H':Hp}{L:List Addr}
theorem slotOk_alsoL {v:V}{M:List Addr}{s:Slot}:SlotOk (Γ.alsoL L) F H v M s↔SlotOk Γ F H v M s:=by cases s <;> exact Iff.rfl
theorem ownAt_alsoL {i:Nat}{c:Addr}:OwnAt (Γ.alsoL L) ρ σ F H i c↔OwnAt Γ ρ σ F H i c :=
 ⟨fun ⟨s,v,M,h1,h2,h3,h4⟩=>⟨s,v,M,h1,h2,slotOk_alsoL.mp h3,h4⟩,fun ⟨s,v,M,h1,h2,h3,h4⟩=>⟨s,v,M,h1,h2,slotOk_alsoL.mpr h3,h4⟩⟩
theorem Rel.alsoL (R:Rel Γ ρ σ F H)(h:∀ b∈L,F b=none∧¬ Own Γ ρ σ F H b∧∃ o,H b=some o∧okU o):Rel (Γ.alsoL L) ρ σ F H :=
 ⟨R.sub,fun i s q=>by obtain ⟨v,M,h1,h2⟩:=R.slot i s q; exact ⟨v,M,h1,slotOk_alsoL.mpr h2⟩,fun i j c h1 h2=>R.inj i j c (ownAt_alsoL.mp h1) (ownAt_alsoL.mp h2),fun i c q=>⟨(R.own i c (ownAt_alsoL.mp q)).1,fun z=>by
  rcases z with z | z
  ·exact (R.own i c (ownAt_alsoL.mp q)).2 z
  ·exact (h c z).2.1 ⟨i,ownAt_alsoL.mp q⟩⟩,R.len,R.inv,fun c q=>by
  rcases q with q | q
  ·exact R.ali c q
  ·obtain ⟨h1,_,o,h2,_⟩:=h c q; exact ⟨h1,o,h2⟩,R.tab.on,fun p hp q=>by
  rcases q with q | q
  ·exact R.tab.off p hp q
  ·obtain ⟨_,_,o,h2,h3⟩:=h _ q
   obtain ⟨ps,e,_⟩:=R.tab.on p hp
   rw [h2] at e; cases e; exact h3.1 ps rfl,R.tab.fr⟩
theorem Rel.unalsoL (R:Rel (Γ.alsoL L) ρ σ F H):Rel Γ ρ σ F H∧∀ b∈L,¬ Own Γ ρ σ F H b :=
 ⟨⟨R.sub,fun i s q=>by obtain ⟨v,M,h1,h2⟩:=R.slot i s q; exact ⟨v,M,h1,slotOk_alsoL.mp h2⟩,fun i j c h1 h2=>R.inj i j c (ownAt_alsoL.mpr h1) (ownAt_alsoL.mpr h2),fun i c h=>⟨(R.own i c (ownAt_alsoL.mpr h)).1,fun z=>(R.own i c (ownAt_alsoL.mpr h)).2 (.inl z)⟩,R.len,R.inv,fun c h=>R.ali c (.inl h),R.tab.on,fun p hp h=>R.tab.off p hp (.inl h),R.tab.fr⟩,fun b hb ⟨i,h⟩=>(R.own i b (ownAt_alsoL.mpr h)).2 (.inr hb)⟩
theorem Stp.unalsoL (s:Stp (Γ.alsoL L) ρ σ F H ρ' σ' F' H'):Stp Γ ρ σ F H ρ' σ' F' H'∧∀ b∈L,H' b=H b∧F' b=none∧¬ Own Γ ρ' σ' F' H' b :=
 ⟨⟨s.rel.unalsoL.1,s.subF,fun c h=>s.keep c (.inl h),s.there⟩,fun b hb=>⟨s.keep b (.inr hb),(s.rel.ali b (.inr hb)).1,s.rel.unalsoL.2 b hb⟩⟩
end
inductive RepN (Γ:Gm)(σ:St)(ρ:Rho)(F H:Hp):List V→List Res→List Addr→Prop
 | nil:RepN Γ σ ρ F H [] [] []
 | val {v:V} {d:D} {vs:List V} {rs:List Res} {Ls:List Addr}:Dp Γ.G F v d→RepN Γ σ ρ F H vs rs Ls→RepN Γ σ ρ F H (v::vs) (.val d::rs) Ls
 | at {v:V} {i:Nat} {vs:List V} {rs:List Res} {Ls:List Addr}:σ[i]?=some (some v)→RepN Γ σ ρ F H vs rs Ls→RepN Γ σ ρ F H (v::vs) (.at i::rs) Ls
 | new {a:Addr} {d:D} {L:List Addr} {vs:List V} {rs:List Res} {Ls:List Addr}:Ct Γ.G F H a d L→Fresh Γ ρ σ F H L→(∀ b∈L,b∉Ls)→RepN Γ σ ρ F H vs rs Ls→RepN Γ σ ρ F H (.ref a::vs) (.new d::rs) (L++Ls)
theorem RepN.fresh {Γ:Gm}{σ:St}{ρ:Rho}{F H:Hp}:∀ {vs:List V} {rs:List Res} {Ls:List Addr},RepN Γ σ ρ F H vs rs Ls→Fresh Γ ρ σ F H Ls
 | _,_,_,.nil=>fresh_nil
 | _,_,_,.val _ t=>t.fresh
 | _,_,_,.at _ t=>t.fresh
 | _,_,_,.new c f _ t=>fun b hb=>by
  rcases List.mem_append.mp hb with z | z
  ·exact f b z
  ·exact t.fresh b z
theorem RepN.there {Γ:Gm}{σ:St}{ρ:Rho}{F H:Hp}:∀ {vs:List V} {rs:List Res} {Ls:List Addr},RepN Γ σ ρ F H vs rs Ls→∀ b∈Ls,∃ o,H b=some o
 | _,_,_,.nil,b,h=>by cases h
 | _,_,_,.val _ t,b,h=>t.there b h
 | _,_,_,.at _ t,b,h=>t.there b h
 | _,_,_,.new c f _ t,b,hb=>by
  rcases List.mem_append.mp hb with z | z
  ·exact c.there b z
  ·exact t.there b z
theorem RepN.okU {Γ:Gm}{σ:St}{ρ:Rho}{F H:Hp}:∀ {vs:List V} {rs:List Res} {Ls:List Addr},RepN Γ σ ρ F H vs rs Ls→∀ b∈Ls,∃ o,H b=some o∧PyD.okU o
 | _,_,_,.nil,b,h=>by cases h
 | _,_,_,.val _ t,b,h=>t.okU b h
 | _,_,_,.at _ t,b,h=>t.okU b h
 | _,_,_,.new c f _ t,b,hb=>by
  rcases List.mem_append.mp hb with z | z
  ·exact c.okU b z
  ·exact t.okU b z
theorem RepN.move {Γ Γ':Gm}{σ:St}{ρ ρ':Rho}{F H F' H':Hp}(eG:Γ'.G=Γ.G)(e:Same F F'):∀ {vs:List V} {rs:List Res} {Ls:List Addr},RepN Γ σ ρ F H vs rs Ls→(∀ b∈Ls,H' b=H b)→Fresh Γ' ρ' σ F' H' Ls→RepN Γ' σ ρ' F' H' vs rs Ls
 | _,_,_,.nil,_,_=>.nil
 | _,_,_,.val h t,k,f=>.val (by rw [eG]; exact h.mono e) (t.move eG e k f)
 | _,_,_,.at h t,k,f=>.at h (t.move eG e k f)
 | _,_,_,.new c _ dj t,k,f=>.new (by rw [eG]; exact c.mono e fun b hb o q=>by rw [k b (List.mem_append_left _ hb)]; exact q) (fun b hb=>f b (List.mem_append_left _ hb)) dj (t.move eG e (fun b hb=>k b (List.mem_append_right _ hb)) fun b hb=>f b (List.mem_append_right _ hb))
def PostN (Γ:Gm)(W:WX)(o:Out (List Res))(ρ:Rho)(σ:St)(F H:Hp)(Q:List V→Hp→Prop):Prop :=
 match o with
 | .ok rs ρ'=>∀ vs F' H' Ls,Stp Γ ρ σ F H ρ' σ F' H'→RepN Γ σ ρ' F' H' vs rs Ls→Q vs H'
 | .exc x ρ'=>∀ d F' H',Stp Γ ρ σ F H ρ' σ F' H'→ExcRep Γ.G F' H' x d→W (ecV Γ.G x.c) d σ H'
 | .stuck=>False
def tMN (Γ:Gm)(W:WX)(m:MA):TA:=fun σ H Q=>∃ ρ F,Rel Γ ρ σ F H∧PostN Γ W (m ρ) ρ σ F H Q
def tAN (Γ:Gm)(W:WX)(m:MA):TA:=fun σ H Q=>∃ L,tMN (Γ.alsoL L) W m σ H Q
def mConsN (ma:M)(mr:MA):MA:=fun ρ=>bindO (ma ρ) fun a ρ1=>bindO (mr ρ1) fun as ρ2=>.ok (a::as) ρ2
section
variable {X:Cx}{Γ:Gm}{W:WX}{e:Expr}{es:List Expr}{ma:M}{mr:MA}
theorem jn_nil:PA X [] (tMN Γ W mNil):=pa_nil.imp fun σ H Q ⟨ρ,F,R,p⟩=>p [] F H [] (.refl R) .nil
theorem consN_ok:∀ σ H Q,tMN Γ W (mConsN ma mr) σ H Q→tCons (tM Γ W ma) (tAN Γ W mr) σ H Q:=fun σ H Q ⟨ρ,F,R,p⟩=>by
 refine ⟨ρ,F,R,?_⟩
 unfold mConsN at p
 cases e1:ma ρ with
 | stuck=>rw [e1] at p; exact p.elim
 | exc x ρ1=>rw [e1] at p; exact p
 | ok r ρ1 =>
  rw [e1] at p
  simp only [bindO] at p
  intro v F1 H1 s1 hr
  have key:∃ L,(∀ b∈L,F1 b=none∧¬ Γ.U b∧¬ Own Γ ρ1 σ F1 H1 b∧∃ o,H1 b=some o∧okU o)∧∀ {F2 H2:Hp} {ρ2:Rho} {vs:List V} {rs:List Res} {Ls:List Addr},Stp (Γ.alsoL L) ρ1 σ F1 H1 ρ2 σ F2 H2→RepN (Γ.alsoL L) σ ρ2 F2 H2 vs rs Ls→∃ Ls',RepN Γ σ ρ2 F2 H2 (v::vs) (r::rs) Ls':=by
   have down:∀ {L:List Addr} {F2 H2:Hp} {ρ2:Rho} {vs:List V} {rs:List Res} {Ls:List Addr},RepN (Γ.alsoL L) σ ρ2 F2 H2 vs rs Ls→RepN Γ σ ρ2 F2 H2 vs rs Ls∧∀ b∈Ls,b∉L:=fun {L F2 H2 ρ2 vs rs Ls} t=>by
    have f:=t.fresh
    exact ⟨RepN.move (Γ:=Γ.alsoL L) (Γ':=Γ) rfl (Same.refl _) t (fun _ _=>rfl) fun b hb=>⟨(f b hb).1,fun z=>(f b hb).2.1 (.inl z),fun ⟨j,z⟩=>(f b hb).2.2 ⟨j,ownAt_alsoL.mpr z⟩⟩,fun b hb z=>(f b hb).2.1 (.inr z)⟩
   cases r with
   | val d=>exact ⟨[],(fun b h=>by cases h),fun {F2 H2 ρ2 vs rs Ls} s2 t=>⟨Ls,.val (Dp.mono s2.subF hr) (down t).1⟩⟩
   | «at» i=>exact ⟨[],(fun b h=>by cases h),fun {F2 H2 ρ2 vs rs Ls} s2 t=>⟨Ls,.at hr (down t).1⟩⟩
   | new d =>
    obtain ⟨a,L,rfl,c,fr⟩:=hr
    refine ⟨L,fun b hb=>⟨(fr b hb).1,(fr b hb).2.1,(fr b hb).2.2,c.okU b hb⟩,fun {F2 H2 ρ2 vs rs Ls} s2 t=>?_⟩
    obtain ⟨u1,u2⟩:=s2.unalsoL
    obtain ⟨t1,t2⟩:=down t
    exact ⟨L++Ls,.new (c.mono s2.subF fun b hb o q=>by rw [(u2 b hb).1]; exact q) (fun b hb=>⟨(u2 b hb).2.1,(fr b hb).2.1,(u2 b hb).2.2⟩) (fun b hb z=>t2 b z hb) t1⟩
  obtain ⟨L,hL,fin⟩:=key
  refine ⟨L,ρ1,F1,s1.rel.alsoL (fun b hb=>⟨(hL b hb).1,(hL b hb).2.2.1,(hL b hb).2.2.2⟩),?_⟩
  cases e2:mr ρ1 with
  | stuck=>rw [e2] at p; exact p.elim
  | exc x ρ2=>rw [e2] at p; exact fun d F2 H2 s2 q=>p d F2 H2 (s1.trans s2.unalsoL.1) q
  | ok as ρ2 =>
   rw [e2] at p
   intro vs F2 H2 Ls s2 t
   obtain ⟨Ls',t'⟩:=fin s2 t
   exact p (v::vs) F2 H2 Ls' (s1.trans s2.unalsoL.1) t'
theorem pa_any (h:∀ L,PA X es (tMN (Γ.alsoL L) W mr)):PA X es (tAN Γ W mr):=⟨fun pos pins s σ H Q I ⟨L,q⟩=>(h L).run pos pins s σ H Q I q⟩
theorem jn_cons (ha:PE X e (tM Γ W ma))(hr:∀ L,PA X es (tMN (Γ.alsoL L) W mr))(hs:starEach (e::es) X.env=(false,eval e X.env)::starEach es X.env:=by rfl):PA X (e::es) (tMN Γ W (mConsN ma mr)) :=
 (pa_cons ha (pa_any hr) hs).imp consN_ok
end
inductive RepM (G:Gx)(F H:Hp):List V→List Res→List Addr→Prop
 | nil:RepM G F H [] [] []
 | val {v:V} {d:D} {vs:List V} {rs:List Res} {Ls:List Addr}:Dp G F v d→RepM G F H vs rs Ls→RepM G F H (v::vs) (.val d::rs) Ls
 | new {a:Addr} {d:D} {L:List Addr} {vs:List V} {rs:List Res} {Ls:List Addr}:Ct G F H a d L→(∀ b∈L,b∉Ls)→RepM G F H vs rs Ls→RepM G F H (.ref a::vs) (.new d::rs) (L++Ls)
def settleN:List Res→Rho→Option (List Res×Rho)
 | [],ρ=>some ([],ρ)
 | .at i::rs,ρ=>match settle (.at i) ρ with
  | some (d,ρ1)=>(settleN rs ρ1).map fun p=>(.val d::p.1,p.2)
  | none=>none
 | r::rs,ρ=>(settleN rs ρ).map fun p=>(r::p.1,p.2)
def setsR:List Nat→List Res→Rho→SOut
 | [],[],ρ=>.nx ρ
 | i::is,r::rs,ρ=>if i<ρ.length then (match r with
  | .val d=>setsR is rs (ρ.set i (some (.val d)))
  | .new d=>setsR is rs (ρ.set i (some (.own none d)))
  | .at _=>.stuck) else .stuck
 | _,_,_=>.stuck
def parR (is:List Nat)(rs:List Res)(ρ:Rho):SOut:=match settleN rs ρ with
 | some (rs2,ρ2)=>setsR is rs2 ρ2
 | none=>.stuck
def mPar (is:List Nat)(ma:MA):MS:=fun ρ=>bindSO (ma ρ) fun rs ρ1=>parR is rs ρ1
def sets (σ:St):List Nat→List V→St
 | i::is,v::vs=>sets (σ.set i (some v)) is vs
 | _,_=>σ
section
variable {Γ:Gm}{W:WX}
theorem settleN_ok:∀ {Γ:Gm} {rs rs2:List Res} {ρ ρ2:Rho} {σ:St} {F H:Hp} {vs:List V} {Ls:List Addr},Rel Γ ρ σ F H→RepN Γ σ ρ F H vs rs Ls→settleN rs ρ=some (rs2,ρ2)→∃ F',Stp Γ ρ σ F H ρ2 σ F' H∧RepM Γ.G F' H vs rs2 Ls∧Fresh Γ ρ2 σ F' H Ls
 | Γ,_,rs2,ρ,ρ2,σ,F,H,_,_,R,.nil,e=>by
  simp only [settleN,Option.some.injEq,Prod.mk.injEq] at e
  obtain ⟨rfl,rfl⟩:=e
  exact ⟨F,.refl R,.nil,fresh_nil⟩
 | Γ,_,rs2,ρ,ρ2,σ,F,H,_,Ls,R,.val h t,e=>by
  simp only [settleN,Option.map_eq_some_iff] at e
  obtain ⟨⟨q1,q2⟩,e1,e2⟩:=e
  cases e2
  obtain ⟨F',s,t',f'⟩:=settleN_ok R t e1
  exact ⟨F',s,.val (h.mono s.subF) t',f'⟩
 | Γ,_,rs2,ρ,ρ2,σ,F,H,_,_,R,.new (L:=L) c f dj t,e=>by
  simp only [settleN,Option.map_eq_some_iff] at e
  obtain ⟨⟨q1,q2⟩,e1,e2⟩:=e
  cases e2
  have R':Rel (Γ.alsoL L) ρ σ F H:=R.alsoL fun b hb=>⟨(f b hb).1,(f b hb).2.2,c.okU b hb⟩
  have t0:=t.fresh
  have t2:=RepN.move (Γ:=Γ) (Γ':=Γ.alsoL L) (ρ':=ρ) rfl (Same.refl _) t (fun _ _=>rfl) fun b hb=>⟨(t0 b hb).1,fun z=>by
   rcases z with z | z
   ·exact (t0 b hb).2.1 z
   ·exact dj b z hb,fun ⟨j,z⟩=>(t0 b hb).2.2 ⟨j,ownAt_alsoL.mp z⟩⟩
  obtain ⟨F',s,t',f'⟩:=settleN_ok R' t2 e1
  obtain ⟨u1,u2⟩:=s.unalsoL
  refine ⟨F',u1,.new (c.mono s.subF fun b hb o q=>q) dj t',fun b hb=>?_⟩
  rcases List.mem_append.mp hb with z | z
  ·exact ⟨(u2 b z).2.1,(f b z).2.1,(u2 b z).2.2⟩
  ·exact ⟨(f' b z).1,fun w=>(f' b z).2.1 (.inl w),fun ⟨j,w⟩=>(f' b z).2.2 ⟨j,ownAt_alsoL.mpr w⟩⟩
 | Γ,_,rs2,ρ,ρ2,σ,F,H,_,Ls,R,.at (i:=i) h t,e=>by
  simp only [settleN] at e
  split at e
  ·rename_i d ρ1 e1
   obtain ⟨⟨q1,q2⟩,e2,e3⟩:=Option.map_eq_some_iff.mp e
   cases e3
   have t0:=t.fresh
   have R':Rel (Γ.alsoL Ls) ρ σ F H:=R.alsoL fun b hb=>⟨(t0 b hb).1,(t0 b hb).2.2,t.okU b hb⟩
   obtain ⟨F1,s1,dp⟩:=settle_ok R' (show RepF (Γ.alsoL Ls).G σ F _ (.at i) from h) e1
   obtain ⟨u1,u2⟩:=s1.unalsoL
   have t1:=RepN.move (Γ:=Γ) (Γ':=Γ) (ρ':=ρ1) (H':=H) rfl s1.subF t (fun _ _=>rfl) fun b hb=>⟨(u2 b hb).2.1,(t0 b hb).2.1,(u2 b hb).2.2⟩
   obtain ⟨F',s,t',f'⟩:=settleN_ok u1.rel t1 e2
   exact ⟨F',u1.trans s,.val (Dp.mono s.subF dp) t',f'⟩
  ·cases e
theorem sets_ok {D:Ends}:∀ {is:List Nat} {rs:List Res} {ρ:Rho} {σ:St} {F H:Hp} {vs:List V} {Ls:List Addr},Rel Γ ρ σ F H→RepM Γ.G F H vs rs Ls→Fresh Γ ρ σ F H Ls→PostS Γ W (setsR is rs ρ) ρ σ F H D→vs.length=is.length∧D.nx (sets σ is vs) H
 | [],_,ρ,σ,F,H,_,_,R,.nil,f,p=>⟨rfl,p σ F H (.refl R)⟩
 | [],_,ρ,σ,F,H,_,_,R,.val _ _,f,p=>p.elim
 | [],_,ρ,σ,F,H,_,_,R,.new _ _ _,f,p=>p.elim
 | i::is,_,ρ,σ,F,H,_,_,R,.nil,f,p=>p.elim
 | i::is,_,ρ,σ,F,H,_,Ls,R,.val (v:=v) (d:=d) h t,f,p=>by
  simp only [setsR] at p
  split at p
  ·rename_i hi
   obtain ⟨R1,bk⟩:=R.put (σ':=σ.set i (some v)) (i:=i) (L:=[]) (sl:=.val d) hi (by rw [List.getElem?_set_self (by rw [← R.len]; exact hi)]) (fun j e=>by rw [List.getElem?_set_ne (Ne.symm e)]) (by simp) ⟨h,rfl⟩ (fun b hb=>by cases hb)
   have s1:Stp Γ ρ σ F H (ρ.set i (some (.val d))) (σ.set i (some v)) F H:=(Stp.refl R).setV hi h
   have r:=sets_ok R1 t (fun b hb=>⟨(f b hb).1,(f b hb).2.1,fun w=>by
    obtain ⟨j,o⟩:=w
    rcases bk j b o with ⟨_,z⟩ | ⟨_,z⟩
    ·cases z
    ·exact (f b hb).2.2 ⟨j,z⟩⟩) (p.shift s1)
   exact ⟨by simp [r.1],r.2⟩
  ·exact p.elim
 | i::is,_,ρ,σ,F,H,_,_,R,.new (a:=a) (d:=d) (L:=L) c dj t,f,p=>by
  simp only [setsR] at p
  split at p
  ·rename_i hi
   have fL:∀ b∈L,F b=none∧¬ Γ.U b∧¬ Own Γ ρ σ F H b:=fun b hb=>f b (List.mem_append_left _ hb)
   obtain ⟨R1,bk⟩:=R.put (σ':=σ.set i (some (.ref a))) (i:=i) (L:=L) (sl:=.own none d) hi (by rw [List.getElem?_set_self (by rw [← R.len]; exact hi)]) (fun j e=>by rw [List.getElem?_set_ne (Ne.symm e)]) (by simp) ⟨a,rfl,c,fun k z=>nomatch z⟩ (fun b hb=>⟨(fL b hb).1,(fL b hb).2.1,fun j _ o=>(fL b hb).2.2 ⟨j,o⟩⟩)
   have s1:Stp Γ ρ σ F H (ρ.set i (some (.own none d))) (σ.set i (some (.ref a))) F H:=(Stp.refl R).set hi ⟨a,rfl,c,fun k z=>nomatch z⟩ fL
   have r:=sets_ok R1 t (fun b hb=>⟨(f b (List.mem_append_right _ hb)).1,(f b (List.mem_append_right _ hb)).2.1,fun w=>by
    obtain ⟨j,o⟩:=w
    rcases bk j b o with ⟨_,z⟩ | ⟨_,z⟩
    ·exact dj b z hb
    ·exact (f b (List.mem_append_right _ hb)).2.2 ⟨j,z⟩⟩) (p.shift s1)
   exact ⟨by simp [r.1],r.2⟩
  ·exact p.elim
theorem par_ok {D:Ends}{is:List Nat}{rs:List Res}{ρ ρ1:Rho}{σ:St}{F H F1 H1:Hp}{vs:List V}{Ls:List Addr}(s:Stp Γ ρ σ F H ρ1 σ F1 H1)(t:RepN Γ σ ρ1 F1 H1 vs rs Ls)(p:PostS Γ W (parR is rs ρ1) ρ σ F H D):vs.length=is.length∧D.nx (sets σ is vs) H1:=by
 unfold parR at p
 split at p
 ·rename_i rs2 ρ2 e
  obtain ⟨F2,s2,m,f⟩:=settleN_ok s.rel t e
  exact sets_ok s2.rel m f (p.shift (s.trans s2))
 ·exact p.elim
end
section
variable {X:Cx}{Γ:Gm}{W:WX}{ma:MA}{pos:Pos}
theorem mPar_ok {is:List Nat}{D:Ends}{σ:St}{H:Hp}(h:tMS Γ W (mPar is ma) D σ H):tMN Γ W ma σ H fun vs H1=>vs.length=is.length∧D.nx (sets σ is vs) H1:=by
 obtain ⟨ρ,F,R,p⟩:=h
 refine ⟨ρ,F,R,?_⟩
 unfold mPar at p
 cases e:ma ρ with
 | ok rs ρ1=>rw [e] at p; exact fun vs F1 H1 Ls s t=>par_ok s t p
 | exc x ρ1=>rw [e] at p; exact fun d F1 H1 s q=>p d σ F1 H1 s q
 | stuck=>rw [e] at p; exact p.elim
theorem js_par2 {i j:Nat}{x y:Str}{a b:Expr}{px py pt:Pos}{kt k2 pt2}(hc:X.calm=true)(hN:X.N.Nodup)(ha:PA X [a,b] (tMN Γ W ma))(hi:X.N[i]?=some x:=by rfl)(hj:X.N[j]?=some y:=by rfl)(hij:i≠j:=by decide)
  (hx:X.env.scope.names.lookup x=some .local:=by rfl) (hy:X.env.scope.names.lookup y=some .local:=by rfl) (hw:swappedStores [.Tuple [.Name x px,.Name y py] kt pt] (.Tuple [a,b] k2 pt2) X.env=pure (some [x,y]):=by rfl)
  (hs:swapsWithSole [.Tuple [.Name x px,.Name y py] kt pt] (.Tuple [a,b] k2 pt2) pos.line X.env=pure false:=by rfl):PS X (.Assign [.Tuple [.Name x px,.Name y py] kt pt] (.Tuple [a,b] k2 pt2) pos) (tMS Γ W (mPar [i,j] ma)) :=
 (ps_par hc hN hi hj hij hx hy ha hw hs).imp fun D σ H h=>by
  obtain ⟨ρ,F,R,p⟩:=mPar_ok h
  refine ⟨ρ,F,R,?_⟩
  cases e:ma ρ with
  | ok rs ρ1 =>
   rw [e] at p
   intro vs F1 H1 Ls s t
   obtain ⟨l,q⟩:=p vs F1 H1 Ls s t
   exact (match vs,l,q with
    | [v,w],_,q=>⟨v,w,rfl,q⟩)
  | exc x ρ1=>rw [e] at p; exact p
  | stuck=>rw [e] at p; exact p
theorem js_par3 {i j l:Nat}{x y z:Str}{a b c:Expr}{px py pz pt:Pos}{kt k2 pt2}(hc:X.calm=true)(hN:X.N.Nodup)(ha:PA X [a,b,c] (tMN Γ W ma))(hi:X.N[i]?=some x:=by rfl)(hj:X.N[j]?=some y:=by rfl)(hl:X.N[l]?=some z:=by rfl)(hij:i≠j:=by decide)(hil:i≠l:=by decide)(hjl:j≠l:=by decide)
  (hx:X.env.scope.names.lookup x=some .local:=by rfl) (hy:X.env.scope.names.lookup y=some .local:=by rfl) (hz:X.env.scope.names.lookup z=some .local:=by rfl) (hw:swappedStores [.Tuple [.Name x px,.Name y py,.Name z pz] kt pt] (.Tuple [a,b,c] k2 pt2) X.env=pure (some [x,y,z]):=by rfl)
  (hs:swapsWithSole [.Tuple [.Name x px,.Name y py,.Name z pz] kt pt] (.Tuple [a,b,c] k2 pt2) pos.line X.env=pure false:=by rfl):PS X (.Assign [.Tuple [.Name x px,.Name y py,.Name z pz] kt pt] (.Tuple [a,b,c] k2 pt2) pos) (tMS Γ W (mPar [i,j,l] ma)) :=
 (ps_par3 hc hN hi hj hl hij hil hjl hx hy hz ha hw hs).imp fun D σ H h=>by
  obtain ⟨ρ,F,R,p⟩:=mPar_ok h
  refine ⟨ρ,F,R,?_⟩
  cases e:ma ρ with
  | ok rs ρ1 =>
   rw [e] at p
   intro vs F1 H1 Ls s t
   obtain ⟨l,q⟩:=p vs F1 H1 Ls s t
   exact (match vs,l,q with
    | [u,v,w],_,q=>⟨u,v,w,rfl,q⟩)
  | exc x ρ1=>rw [e] at p; exact p
  | stuck=>rw [e] at p; exact p
end
def gNames:List Nat→TGs
 | []=>gNil
 | i::is=>gCons (gName i) (gNames is)
theorem gNames_ok {Q:St→Hp→Prop}{H:Hp}:∀ {is:List Nat} {vs:List V} {σ:St},vs.length=is.length→Q (sets σ is vs) H→gNames is vs σ H Q
 | [],[],σ,_,q=>⟨rfl,q⟩
 | i::is,v::vs,σ,l,q=>⟨v,vs,rfl,gNames_ok (by simpa using l) q⟩
 | [],_::_,σ,l,q=>by simp at l
 | _::_,[],σ,l,q=>by simp at l
theorem js_parN {X:Cx}{Γ:Gm}{W:WX}{ma:MA}{pos pt pt2:Pos}{ts es:List Expr}{is:List Nat}{kt k2}{n:Nat}(hK:X.K=Γ.G.K)(hg:PG X (.Tuple ts kt pt) (gTup X.K n (gNames is)))(hn:is.length=n)(hz:n≤1000)(ha:PA X es (tMN Γ W ma))(hs:swapsWithSole [.Tuple ts kt pt] (.Tuple es k2 pt2) pos.line X.env=pure false:=by rfl)(hw:swappedStores [.Tuple ts kt pt] (.Tuple es k2 pt2) X.env=pure none:=by rfl)
  (h1:(assignEach [.Tuple ts kt pt] X.env).map (·.2)=[assign (.Tuple ts kt pt) X.env]:=by rfl):PS X (.Assign [.Tuple ts kt pt] (.Tuple es k2 pt2) pos) (tMS Γ W (mPar is ma)) :=
 (ps_asg (pe_tup ha) hg hs hw h1).imp fun D σ H ⟨ρ,F,R,p⟩=>by
  refine ⟨ρ,F,R,?_⟩
  unfold mPar at p
  cases e:ma ρ with
  | ok rs ρ1 =>
   rw [e] at p
   intro vs F1 H1 Ls s t
   have ln:vs.length=is.length:=(par_ok s t p).1
   refine ⟨by rw [ln,hn,sizeLine_eq]; omega,fun q hq=>?_⟩
   refine ⟨q,vs,rfl,SqT.of upd_same,by rw [ln,hn],gNames_ok ln ?_⟩
   have al:Alc F1 H1 F1 (upd H1 q (.tup vs)):=Alc.cell s.rel.sub hq
   have s2:=s.trans (al.stp s.rel)
   have f0:=t.fresh
   have t2:=RepN.move (Γ:=Γ) (Γ':=Γ) (ρ':=ρ1) (F':=F1) (H':=upd H1 q (.tup vs)) rfl (Same.refl _) t (fun b hb=>by
    obtain ⟨o,ho⟩:=t.there b hb
    exact upd_ne (ne_of_none ho hq)) fun b hb=>⟨(f0 b hb).1,(f0 b hb).2.1,fun ⟨j,z⟩=>(f0 b hb).2.2 ⟨j,al.own s.rel z⟩⟩
   exact (par_ok s2 t2 p).2
  | exc x ρ1=>rw [e] at p; exact fun d F1 H1 s q=>p d σ F1 H1 s q
  | stuck=>rw [e] at p; exact p.elim
def orR (o:Option Res)(p:Option Res):Option Res:=match o with | some r=>some r | none=>p
@[simp] theorem x_orRs {r:Res}{p:Option Res}:orR (some r) p=some r:=rfl
@[simp] theorem x_orRn {p:Option Res}:orR none p=p:=rfl
@[simp] theorem x_orF {f g:D→D→Option Res}{a b:D}:orF f g a b=orR (f a b) (g a b):=by unfold orF orR; cases f a b <;> rfl
@[simp] theorem x_pickN {α:Type}{l:List α}:pick [] l=[]:=rfl
def picC {α:Type}(o:Option α)(r:List α):List α:=match o with | some a=>a::r | none=>r
@[simp] theorem x_picC {α:Type}{a:α}{r:List α}:picC (some a) r=a::r:=rfl
@[simp] theorem x_pickC {α:Type}{i:Nat}{p:List Nat}{l:List α}:pick (i::p) l=picC l[i]? (pick p l):=by
 unfold pick picC; simp only [List.filterMap_cons]; cases l[i]? <;> rfl
@[simp] theorem x_putN {f:Str}{v:D}:putD f v []=[(f,v)]:=rfl
@[simp] theorem x_putC {f k:Str}{v w:D}{r:List (Str×D)}:putD f v ((k,w)::r)=if k=f then (f,v)::r else (k,w)::putD f v r:=rfl
@[simp] theorem x_lookN {f:Str}:([]:List (Str×D)).lookup f=none:=rfl
@[simp] theorem x_lookC {f k:Str}{v:D}{r:List (Str×D)}:((k,v)::r).lookup f=if f=k then some v else r.lookup f:=by
 rw [List.lookup_cons]
 by_cases h:f=k
 ·subst h; simp
 ·simp only [beq_eq_false_iff_ne.mpr h,if_neg h]
@[simp] theorem x_ofSE {a b:String}:(Str.ofString a=Str.ofString b)=(a=b):=by rw [ofS_inj]
@[simp] theorem x_raiseR {c:Nat}{f:Str}{r:Res}{ρ:Rho}:raiseR c f r ρ=optS (PyD.settle r ρ) fun p=>.exc ⟨.own c,[(f,p.1)]⟩ p.2:=by
 unfold raiseR optS; cases PyD.settle r ρ <;> rfl
@[simp] theorem x_mRaise {c:Nat}{f:Str}{me:M}{ρ:Rho}:mRaise c f me ρ=bindSF (me ρ) fun r ρ1=>raiseR c f r ρ1:=rfl
def tryS (o:SOut)(hs:List Hd):SOut:=match o with | .exc x ρ=>mHd hs x ρ | o=>o
@[simp] theorem x_trySx {x:Exc}{ρ:Rho}{hs:List Hd}:tryS (.exc x ρ) hs=mHd hs x ρ:=rfl
@[simp] theorem x_trySn {ρ:Rho}{hs:List Hd}:tryS (.nx ρ) hs=.nx ρ:=rfl
@[simp] theorem x_trySr {r:Res}{ρ:Rho}{hs:List Hd}:tryS (.ret r ρ) hs=.ret r ρ:=rfl
@[simp] theorem x_trySb {ρ:Rho}{hs:List Hd}:tryS (.bk ρ) hs=.bk ρ:=rfl
@[simp] theorem x_trySc {ρ:Rho}{hs:List Hd}:tryS (.ct ρ) hs=.ct ρ:=rfl
@[simp] theorem x_mTry {mb:MS}{hs:List Hd}{ρ:Rho}:mTry mb hs ρ=tryS (mb ρ) hs:=by unfold mTry tryS; cases mb ρ <;> rfl
def hdB (o:Option Bool)(y n:SOut):SOut:=match o with | some true=>y | some false=>n | none=>.stuck
@[simp] theorem x_hdT {y n:SOut}:hdB (some true) y n=y:=rfl
@[simp] theorem x_hdF {y n:SOut}:hdB (some false) y n=n:=rfl
@[simp] theorem x_hdI {p:Prop}[Decidable p]{a b:Option Bool}{y n:SOut}:hdB (if p then a else b) y n=if p then hdB a y n else hdB b y n:=by split <;> rfl
@[simp] theorem x_mHdN {x:Exc}{ρ:Rho}:mHd [] x ρ=.exc x ρ:=rfl
@[simp] theorem x_mHdS {t:ECl→Option Bool}{i:Nat}{ms:Exc→MS}{r:List Hd}{x:Exc}{ρ:Rho}:mHd (⟨t,some i,ms⟩::r) x ρ=hdB (t x.c) (if noExn ρ=true then if i<ρ.length then offS i (ms x (ρ.set i (some (.exn none)))) else .stuck else .stuck) (mHd r x ρ):=by
 unfold hdB
 cases h:t x.c with
 | none=>simp only [mHd,h]
 | some b=>cases b <;> simp only [mHd,h]
@[simp] theorem x_mHdO {t:ECl→Option Bool}{ms:Exc→MS}{r:List Hd}{x:Exc}{ρ:Rho}:mHd (⟨t,none,ms⟩::r) x ρ=hdB (t x.c) (if noExn ρ=true then onS (ms x ρ) else .stuck) (mHd r x ρ):=by
 unfold hdB
 cases h:t x.c with
 | none=>simp only [mHd,h]
 | some b=>cases b <;> simp only [mHd,h]
@[simp] theorem x_offN {i:Nat}{ρ:Rho}:offS i (.nx ρ)=if noExn (ρ.set i none)=true then .nx (ρ.set i none) else .stuck:=rfl
@[simp] theorem x_offR {i:Nat}{r:Res}{ρ:Rho}:offS i (.ret r ρ)=if noExn (ρ.set i none)=true then .ret r (ρ.set i none) else .stuck:=rfl
@[simp] theorem x_offB {i:Nat}{ρ:Rho}:offS i (.bk ρ)=if noExn (ρ.set i none)=true then .bk (ρ.set i none) else .stuck:=rfl
@[simp] theorem x_offC {i:Nat}{ρ:Rho}:offS i (.ct ρ)=if noExn (ρ.set i none)=true then .ct (ρ.set i none) else .stuck:=rfl
@[simp] theorem x_onN {ρ:Rho}:onS (.nx ρ)=if noExn ρ=true then .nx ρ else .stuck:=rfl
@[simp] theorem x_onR {r:Res}{ρ:Rho}:onS (.ret r ρ)=if noExn ρ=true then .ret r ρ else .stuck:=rfl
@[simp] theorem x_noExnN:noExn []=true:=rfl
def exS (s:Option Slot):Bool:=match s with
 | some (.exn none)=>false
 | _=>true
@[simp] theorem x_exSn:exS none=true:=rfl
@[simp] theorem x_exSv {d:D}:exS (some (.val d))=true:=rfl
@[simp] theorem x_exSo {b:Option Nat}{d:D}:exS (some (.own b d))=true:=rfl
@[simp] theorem x_exSx:exS (some (.exn none))=false:=rfl
@[simp] theorem x_noExnC {s:Option Slot}{ρ:Rho}:noExn (s::ρ)=(exS s&&noExn ρ):=by
 show ((match s with | some (.exn none)=>false | _=>true)&&noExn ρ)=_
 unfold exS; rfl
def exA (o:Option (Option Slot)):Bool:=match o with
 | some (some (.exn none))=>true
 | _=>false
@[simp] theorem x_exA:exA (some (some (.exn none)))=true:=rfl
@[simp] theorem x_exnAt {ρ:Rho}{i:Nat}:exnAt ρ i=exA ρ[i]?:=by unfold exnAt exA; rfl
@[simp] theorem x_xcO {c c':Nat}{fs:List (Str×D)}:xcO ⟨.own c',fs⟩ c=(c'==c):=rfl
def valM (o:Option D)(ρ:Rho):Out Res:=match o with | some d=>.ok (.val d) ρ | none=>.stuck
@[simp] theorem x_valM {d:D}{ρ:Rho}:valM (some d) ρ=.ok (.val d) ρ:=rfl
@[simp] theorem x_mXf {c i:Nat}{x:Exc}{f:Str}{ρ:Rho}:mXf c i x f ρ=if exnAt ρ i&&xcO x c then valM (x.fs.lookup f) ρ else .stuck:=by
 unfold mXf valM; rfl
@[simp] theorem x_xlookN {c d:Nat}:xlook [] c d=none:=rfl
@[simp] theorem x_xlookC {a b:Nat}{r:Bool}{l:List (Nat×Nat×Bool)}{c d:Nat}:xlook ((a,b,r)::l) c d=if a=c∧b=d then some r else xlook l c d:=rfl
@[simp] theorem x_notOo {c:Nat}{fs:List (Str×D)}:notO (.obj c fs)=true:=rfl
@[simp] theorem x_notOi {i:Int}:notO (.int i)=true:=rfl
@[simp] theorem x_notOs {i:Str}:notO (.str i)=true:=rfl
@[simp] theorem x_notOb {i:Bool}:notO (.bl i)=true:=rfl
@[simp] theorem x_notOn:notO .non=true:=rfl
@[simp] theorem x_notOl {xs:List D}:notO (.lst xs)=true:=rfl
@[simp] theorem x_notOt {xs:List D}:notO (.tup xs)=true:=rfl
@[simp] theorem x_notOd {xs:List (Key×D)}:notO (.dct xs)=true:=rfl
def orB (o p:Option Bool):Option Bool:=match o with | some b=>some b | none=>p
@[simp] theorem x_orBs {b:Bool}{p:Option Bool}:orB (some b) p=some b:=rfl
@[simp] theorem x_orBn {p:Option Bool}:orB none p=p:=rfl
@[simp] theorem x_orE {e e':D→D→Option Bool}{x y:D}:orE e e' x y=orB (e x y) (e' x y):=by unfold orE orB; cases e x y <;> rfl
@[simp] theorem x_mConsN {ma:M}{mr:MA}{ρ:Rho}:mConsN ma mr ρ=bindO (ma ρ) fun a ρ1=>bindO (mr ρ1) fun as ρ2=>.ok (a::as) ρ2:=rfl
@[simp] theorem x_stNN {ρ:Rho}:settleN [] ρ=some ([],ρ):=rfl
@[simp] theorem x_stNv {d:D}{rs:List Res}{ρ:Rho}:settleN (.val d::rs) ρ=(settleN rs ρ).map fun p=>(.val d::p.1,p.2):=rfl
@[simp] theorem x_stNn {d:D}{rs:List Res}{ρ:Rho}:settleN (.new d::rs) ρ=(settleN rs ρ).map fun p=>(.new d::p.1,p.2):=rfl
def stNC (o:Option (D×Rho))(k:Rho→Option (List Res×Rho)):Option (List Res×Rho):=match o with
 | some (d,ρ)=>(k ρ).map fun p=>(.val d::p.1,p.2)
 | none=>none
@[simp] theorem x_stNC {d:D}{ρ:Rho}{k:Rho→Option (List Res×Rho)}:stNC (some (d,ρ)) k=(k ρ).map fun p=>(.val d::p.1,p.2):=rfl
@[simp] theorem x_stNa {i:Nat}{rs:List Res}{ρ:Rho}:settleN (.at i::rs) ρ=stNC (PyD.settle (.at i) ρ) fun ρ1=>settleN rs ρ1:=by
 unfold stNC
 cases h:PyD.settle (.at i) ρ <;> simp only [settleN,h] <;> rfl
@[simp] theorem x_setsN {ρ:Rho}:setsR [] [] ρ=.nx ρ:=rfl
@[simp] theorem x_setsV {i:Nat}{is:List Nat}{d:D}{rs:List Res}{ρ:Rho}:setsR (i::is) (.val d::rs) ρ=if i<ρ.length then setsR is rs (ρ.set i (some (.val d))) else .stuck:=rfl
@[simp] theorem x_setsW {i:Nat}{is:List Nat}{d:D}{rs:List Res}{ρ:Rho}:setsR (i::is) (.new d::rs) ρ=if i<ρ.length then setsR is rs (ρ.set i (some (.own none d))) else .stuck:=rfl
@[simp] theorem x_parR {is:List Nat}{rs:List Res}{ρ:Rho}:parR is rs ρ=optS (settleN rs ρ) fun p=>setsR is p.1 p.2:=by
 unfold parR optS; cases settleN rs ρ <;> rfl
@[simp] theorem x_mPar {is:List Nat}{ma:MA}{ρ:Rho}:mPar is ma ρ=bindSO (ma ρ) fun rs ρ1=>parR is rs ρ1:=rfl
@[simp] theorem x_eqOb {c:Nat}{fs:List (Str×D)}{y:D}:eqD (.obj c fs) y=none:=by cases y <;> rfl
@[simp] theorem x_neOb {c:Nat}{fs:List (Str×D)}{y:D}:neD (.obj c fs) y=none:=by cases y <;> rfl
@[simp] theorem x_leOb {c:Nat}{fs:List (Str×D)}{y:D}:leD (.obj c fs) y=none:=by cases y <;> rfl
@[simp] theorem x_eqLL {xs ys:List D}:eqD (.lst xs) (.lst ys)=(eqB (.lst xs) (.lst ys)).map fun b=>.val (.bl b):=rfl
@[simp] theorem x_eqTT {xs ys:List D}:eqD (.tup xs) (.tup ys)=(eqB (.tup xs) (.tup ys)).map fun b=>.val (.bl b):=rfl
@[simp] theorem x_neLL {xs ys:List D}:neD (.lst xs) (.lst ys)=(eqB (.lst xs) (.lst ys)).map fun b=>.val (.bl (!b)):=rfl
@[simp] theorem x_neTT {xs ys:List D}:neD (.tup xs) (.tup ys)=(eqB (.tup xs) (.tup ys)).map fun b=>.val (.bl (!b)):=rfl
@[simp] theorem x_tpN:toPy .non=some .none:=by simp [toPy]
@[simp] theorem x_tpB {b:Bool}:toPy (.bl b)=some (.bool b):=by simp [toPy]
@[simp] theorem x_tpI {b:Int}:toPy (.int b)=some (.int b):=by simp [toPy]
@[simp] theorem x_tpS {b:Str}:toPy (.str b)=some (.str b):=by simp [toPy]
@[simp] theorem x_tpL {b:List D}:toPy (.lst b)=(toPys b).map .list:=by simp [toPy]
@[simp] theorem x_tpT {b:List D}:toPy (.tup b)=(toPys b).map .tuple:=by simp [toPy]
@[simp] theorem x_tpsN:toPys []=some []:=by simp [toPys]
@[simp] theorem x_tpsC {d:D}{ds:List D}:toPys (d::ds)=consO (toPy d) (toPys ds):=by
 rw [toPys]; cases toPy d <;> cases toPys ds <;> rfl
@[simp] theorem x_clN:PyData.canLay0 .none=true:=by simp [PyData.canLay0]
@[simp] theorem x_clB {b:Bool}:PyData.canLay0 (.bool b)=true:=by simp [PyData.canLay0]
@[simp] theorem x_clI {b:Int}:PyData.canLay0 (.int b)=true:=by simp [PyData.canLay0]
@[simp] theorem x_clS {b:Str}:PyData.canLay0 (.str b)=PyData.strOk b:=by simp [PyData.canLay0]
@[simp] theorem x_clL {b:List PyData}:PyData.canLay0 (.list b)=PyData.canLayAll0 b:=by simp [PyData.canLay0]
@[simp] theorem x_clT {b:List PyData}:PyData.canLay0 (.tuple b)=PyData.canLayAll0 b:=by simp [PyData.canLay0]
@[simp] theorem x_claN:PyData.canLayAll0 []=true:=by simp [PyData.canLayAll0]
@[simp] theorem x_claC {d:PyData}{ds:List PyData}:PyData.canLayAll0 (d::ds)=(PyData.canLay0 d&&PyData.canLayAll0 ds):=by simp [PyData.canLayAll0]
@[simp] theorem x_dpN:PyData.depth .none=0:=by simp [PyData.depth]
@[simp] theorem x_dpB {b:Bool}:PyData.depth (.bool b)=0:=by simp [PyData.depth]
@[simp] theorem x_dpI {b:Int}:PyData.depth (.int b)=0:=by simp [PyData.depth]
@[simp] theorem x_dpS {b:Str}:PyData.depth (.str b)=0:=by simp [PyData.depth]
@[simp] theorem x_dpL {b:List PyData}:PyData.depth (.list b)=PyData.depthAll b+1:=by simp [PyData.depth]
@[simp] theorem x_dpT {b:List PyData}:PyData.depth (.tuple b)=PyData.depthAll b+1:=by simp [PyData.depth]
@[simp] theorem x_dpaN:PyData.depthAll []=0:=by simp [PyData.depthAll]
@[simp] theorem x_dpaC {d:PyData}{ds:List PyData}:PyData.depthAll (d::ds)=max (PyData.depth d) (PyData.depthAll ds):=by simp [PyData.depthAll]
@[simp] theorem x_shp {d:PyData}:SeqAt.shaped d=(d.canLay0&&decide (d.depth≤64)):=rfl
@[simp] theorem x_evNN:PyData.eqv .none .none=true:=by simp [PyData.eqv]
@[simp] theorem x_evII {a b:Int}:PyData.eqv (.int a) (.int b)=decide (a=b):=by simp only [PyData.eqv]; rfl
@[simp] theorem x_evSS {a b:Str}:PyData.eqv (.str a) (.str b)=decide (a=b):=by simp only [PyData.eqv]; rfl
@[simp] theorem x_evBB {a b:Bool}:PyData.eqv (.bool a) (.bool b)=decide (a=b):=by cases a <;> cases b <;> rfl
@[simp] theorem x_evSI {a:Str}{b:Int}:PyData.eqv (.str a) (.int b)=false:=by simp [PyData.eqv]
@[simp] theorem x_evIS {a:Str}{b:Int}:PyData.eqv (.int b) (.str a)=false:=by simp [PyData.eqv]
@[simp] theorem x_evSN {a:Str}:PyData.eqv (.str a) .none=false:=by simp [PyData.eqv]
@[simp] theorem x_evNS {a:Str}:PyData.eqv .none (.str a)=false:=by simp [PyData.eqv]
@[simp] theorem x_evSB {a:Str}{b:Bool}:PyData.eqv (.str a) (.bool b)=false:=by simp [PyData.eqv]
@[simp] theorem x_evBS {a:Str}{b:Bool}:PyData.eqv (.bool b) (.str a)=false:=by simp [PyData.eqv]
@[simp] theorem x_evIN {a:Int}:PyData.eqv (.int a) .none=false:=by simp [PyData.eqv]
@[simp] theorem x_evNI {a:Int}:PyData.eqv .none (.int a)=false:=by simp [PyData.eqv]
@[simp] theorem x_evBN {a:Bool}:PyData.eqv (.bool a) .none=false:=by simp [PyData.eqv]
@[simp] theorem x_evNB {a:Bool}:PyData.eqv .none (.bool a)=false:=by simp [PyData.eqv]
@[simp] theorem x_evLL {a b:List PyData}:PyData.eqv (.list a) (.list b)=PyData.eqvAll a b:=by simp [PyData.eqv]
@[simp] theorem x_evTT {a b:List PyData}:PyData.eqv (.tuple a) (.tuple b)=PyData.eqvAll a b:=by simp [PyData.eqv]
@[simp] theorem x_evLS {a:List PyData}{b:Str}:PyData.eqv (.list a) (.str b)=false:=by simp [PyData.eqv]
@[simp] theorem x_evSL {a:List PyData}{b:Str}:PyData.eqv (.str b) (.list a)=false:=by simp [PyData.eqv]
@[simp] theorem x_evTS {a:List PyData}{b:Str}:PyData.eqv (.tuple a) (.str b)=false:=by simp [PyData.eqv]
@[simp] theorem x_evST {a:List PyData}{b:Str}:PyData.eqv (.str b) (.tuple a)=false:=by simp [PyData.eqv]
@[simp] theorem x_evaN:PyData.eqvAll [] []=true:=by simp [PyData.eqvAll]
@[simp] theorem x_evaL {a:PyData}{b:List PyData}:PyData.eqvAll (a::b) []=false:=by simp [PyData.eqvAll]
@[simp] theorem x_evaR {a:PyData}{b:List PyData}:PyData.eqvAll [] (a::b)=false:=by simp [PyData.eqvAll]
@[simp] theorem x_evaC {a c:PyData}{b d:List PyData}:PyData.eqvAll (a::b) (c::d)=(PyData.eqv a c&&PyData.eqvAll b d):=by simp [PyData.eqvAll]
def pyB (o p:Option PyData):Option Bool:=match o,p with
 | some a,some b=>if SeqAt.shaped a&&SeqAt.shaped b then some (PyData.eqv a b) else none
 | _,_=>none
@[simp] theorem x_pyB {a b:PyData}:pyB (some a) (some b)=if SeqAt.shaped a&&SeqAt.shaped b then some (PyData.eqv a b) else none:=rfl
@[simp] theorem x_eqB {x y:D}:eqB x y=pyB (toPy x) (toPy y):=by unfold eqB pyB; rfl
def anyB (o:Option PyData)(p:Option (List PyData)):Option Bool:=match o,p with
 | some p,some ps=>if SeqAt.shaped p&&SeqAt.shaped (.list ps) then some (ps.any fun z=>PyData.eqv z p) else none
 | _,_=>none
@[simp] theorem x_anyB {p:PyData}{ps:List PyData}:anyB (some p) (some ps)=if SeqAt.shaped p&&SeqAt.shaped (.list ps) then some (ps.any fun z=>PyData.eqv z p) else none:=rfl
@[simp] theorem x_inD {neg:Bool}{x y:D}:inD neg x y=(inB x y).map fun b=>.val (.bl (neg != b)):=rfl
@[simp] theorem x_inBl {x:D}{ys:List D}:inB x (.lst ys)=anyB (toPy x) (toPys ys):=by cases x <;> rfl
@[simp] theorem x_inBt {x:D}{ys:List D}:inB x (.tup ys)=anyB (toPy x) (toPys ys):=by
 have h:∀ ps,SeqAt.shaped (.tuple ps)=SeqAt.shaped (.list ps):=fun ps=>by simp
 have e:inB x (.tup ys)=(match toPy x,toPys ys with
  | some p,some ps=>if SeqAt.shaped p&&SeqAt.shaped (.tuple ps) then some (ps.any fun z=>PyData.eqv z p) else none
  | _,_=>none):=by cases x <;> rfl
 rw [e]
 unfold anyB
 cases toPy x with
 | none=>rfl
 | some p =>
  cases toPys ys with
  | none=>rfl
  | some ps=>simp only [h]
@[simp] theorem x_inBc {c:Nat}{z:Str}:inB (.str ⟨#[c]⟩) (.str z)=some (decide (c∈z.cps.toList)):=rfl
@[simp] theorem strOk_lit {s:String}:PyData.strOk (Str.ofString s)=true:=by
 rw [Str.ofString_eq_toList]
 unfold PyData.strOk
 simp only [Array.all_eq_true',List.mem_toArray,List.mem_map,decide_eq_true_eq]
 rintro x ⟨c,_,rfl⟩
 have:=c.valid
 have h:c.toNat.isValidChar:=c.valid
 rcases h with h | h
 ·exact Nat.lt_trans h (by decide)
 ·exact h.2
theorem strOk_of {s:Str}(h:∀ c∈s.cps.toList,c<1114112):PyData.strOk s=true:=by
 unfold PyData.strOk
 simp only [Array.all_eq_true',decide_eq_true_eq]
 exact fun c hc=>h c (by simpa using hc)
def enumFromD:Nat→List D→List D
 | _,[]=>[]
 | n,x::xs=>D.tup [.int (n:Nat),x]::enumFromD (n+1) xs
def enumD (xs:List D):List D:=enumFromD 0 xs
theorem enumFrom_len:∀ (n:Nat) (xs:List D),(enumFromD n xs).length=xs.length∧∀ (i:Nat) x,xs[i]?=some x→(enumFromD n xs)[i]?=some (.tup [.int ((n+i:Nat):Int),x])
 | n,[]=>⟨rfl,fun i x h=>by simp at h⟩
 | n,y::ys=>by
  obtain ⟨l,g⟩:=enumFrom_len (n+1) ys
  refine ⟨by simp [enumFromD,l],fun i x h=>?_⟩
  cases i with
  | zero=>simp at h; subst h; simp [enumFromD]
  | succ i =>
   have:=g i x (by simpa using h)
   simp only [enumFromD,List.getElem?_cons_succ,this]
   rw [show n+1+i=n+(i+1) by omega]
theorem enumD_len (xs:List D):(enumD xs).length=xs.length∧∀ (i:Nat) x,xs[i]?=some x→(enumD xs)[i]?=some (.tup [.int (i:Nat),x]):=by
 obtain ⟨h1,h2⟩:=enumFrom_len 0 xs
 exact ⟨h1,fun i x h=>by have:=h2 i x h; rwa [Nat.zero_add] at this⟩
theorem wlk_enum {G:Gx}{F:Hp}{a:Addr}{vs:List V}{ds:List D}(h:F a=some (.lst vs))(t:DpL G F vs ds):Wlk G (Ite G.K a) F (enumD ds):=by
 obtain ⟨l,g⟩:=enumD_len ds
 refine ⟨fun i H s hi=>⟨vs,vs[i]'(by rw [t.length,← l]; exact hi),SqL.of (s _ _ h),by simp⟩,fun i H x H' s hi ⟨T,y,ex,hT,hH,q⟩=>?_,fun i H s hi=>⟨vs,SqL.of (s _ _ h),by rw [t.length,← l]; exact hi⟩⟩
 obtain ⟨d,h1,h2⟩:=t.getV (q vs (SqL.of (s _ _ h)))
 subst ex hH
 exact ⟨_,g i d h1,fun F1 s1 s2=>⟨upd F1 T (.tup [.int (i:Nat),y]),.tup s2 hT,.tup (SqT.of upd_same) (.cons (.int _) (.cons ((h2.mono s1).mono (Alc.tup (o:=.tup [.int (i:Nat),y]) s2 hT).subF) .nil))⟩⟩
section
variable {X:Cx}{Γ:Gm}{W:WX}{e tg:Expr}{m:M}{ma:MA}{pos p:Pos}
end
theorem ltC_irr:∀ a:List Nat,ltCps a a=false
 | []=>rfl
 | x::a=>by simp [ltCps,ltC_irr a]
theorem ltC_tri:∀ a b:List Nat,ltCps a b=true∨a=b∨ltCps b a=true
 | [],[]=>.inr (.inl rfl)
 | [],_::_=>.inl rfl
 | _::_,[]=>.inr (.inr rfl)
 | x::a,y::b=>by
  simp only [ltCps,Bool.or_eq_true,decide_eq_true_eq,Bool.and_eq_true,beq_iff_eq]
  rcases Nat.lt_trichotomy x y with h | h | h
  ·exact .inl (.inl h)
  ·subst h
   rcases ltC_tri a b with q | q | q
   ·exact .inl (.inr ⟨rfl,q⟩)
   ·exact .inr (.inl (by rw [q]))
   ·exact .inr (.inr (.inr ⟨rfl,q⟩))
  ·exact .inr (.inr (.inl h))
theorem ltC_trans:∀ a b c:List Nat,ltCps a b=true→ltCps b c=true→ltCps a c=true
 | [],[],_,h,_=>by cases h
 | [],_::_,[],_,h=>by cases h
 | [],_::_,_::_,_,_=>rfl
 | _::_,[],_,h,_=>by cases h
 | _::_,_::_,[],_,h=>by cases h
 | x::a,y::b,z::c,h1,h2=>by
  simp only [ltCps,Bool.or_eq_true,decide_eq_true_eq,Bool.and_eq_true,beq_iff_eq] at h1 h2 ⊢
  rcases h1 with h1 | ⟨e1,h1⟩ <;> rcases h2 with h2 | ⟨e2,h2⟩
  ·exact .inl (by omega)
  ·exact .inl (by omega)
  ·exact .inl (by omega)
  ·exact .inr ⟨by omega,ltC_trans a b c h1 h2⟩
theorem ltC_asym {a b:List Nat}(h:ltCps a b=true):ltCps b a=false:=by
 cases q:ltCps b a with
 | false=>rfl
 | true=>have:=ltC_trans a b a h q; rw [ltC_irr] at this; cases this
def ltS (a b:Str):Bool:=ltCps a.cps.toList b.cps.toList
def insS (x:Str):List Str→List Str
 | []=>[x]
 | y::ys=>if ltS y x=true then y::insS x ys else x::y::ys
def sortS:List Str→List Str
 | []=>[]
 | x::xs=>insS x (sortS xs)
theorem insS_perm (x:Str):∀ ys:List Str,(insS x ys).Perm (x::ys)
 | []=>.refl _
 | y::ys=>by
  unfold insS
  split
  ·exact ((insS_perm x ys).cons y).trans (.swap x y ys)
  ·exact .refl _
theorem sortS_perm:∀ xs:List Str,(sortS xs).Perm xs
 | []=>.refl _
 | x::xs=>(insS_perm x (sortS xs)).trans ((sortS_perm xs).cons x)
abbrev leS (a b:Str):Prop:=ltS b a=false
theorem str_cps {a b:Str}(h:a.cps.toList=b.cps.toList):a=b:=by
 obtain ⟨⟨a⟩⟩:=a
 obtain ⟨⟨b⟩⟩:=b
 simp only at h; subst h; rfl
theorem leS_anti {a b:Str}(h1:leS a b)(h2:leS b a):a=b:=by
 unfold leS ltS at h1 h2
 rcases ltC_tri a.cps.toList b.cps.toList with h | h | h
 ·rw [h] at h2; cases h2
 ·exact str_cps h
 ·rw [h] at h1; cases h1
theorem leS_trans {a b c:Str}(h1:leS a b)(h2:leS b c):leS a c:=by
 unfold leS ltS at *
 cases q:ltCps c.cps.toList a.cps.toList with
 | false=>rfl
 | true =>
  rcases ltC_tri a.cps.toList b.cps.toList with h | h | h
  ·have:=ltC_trans _ _ _ q h; rw [this] at h2; cases h2
  ·rw [h] at q; rw [q] at h2; cases h2
  ·rw [h] at h1; cases h1
theorem insS_mem {x z:Str}{ys:List Str}(h:z∈insS x ys):z=x∨z∈ys:=by
 have:=(insS_perm x ys).mem_iff.mp h
 simpa using this
theorem insS_pw (x:Str):∀ ys:List Str,ys.Pairwise leS→(insS x ys).Pairwise leS
 | [],_=>by simp [insS]
 | y::ys,h=>by
  obtain ⟨h1,h2⟩:=List.pairwise_cons.mp h
  unfold insS
  split
  ·rename_i q
   refine List.pairwise_cons.mpr ⟨fun z hz=>?_,insS_pw x ys h2⟩
   rcases insS_mem hz with e | e
   ·subst e; exact ltC_asym q
   ·exact h1 z e
  ·rename_i q
   have q:leS x y:=by cases w:ltS y x with | true=>exact absurd w q | false=>exact w
   refine List.pairwise_cons.mpr ⟨fun z hz=>?_,h⟩
   rcases List.mem_cons.mp hz with e | e
   ·subst e; exact q
   ·exact leS_trans q (h1 z e)
theorem sortS_pw:∀ xs:List Str,(sortS xs).Pairwise leS
 | []=>.nil
 | x::xs=>insS_pw x _ (sortS_pw xs)
theorem rising_pw:∀ (p:Str) (xs:List Str),risingS p xs=true→(p::xs).Pairwise leS
 | p,[],_=>by simp
 | p,x::xs,h=>by
  simp only [risingS,Bool.and_eq_true,Bool.not_eq_true'] at h
  have ih:=rising_pw x xs h.2
  obtain ⟨h1,h2⟩:=List.pairwise_cons.mp ih
  refine List.pairwise_cons.mpr ⟨fun z hz=>?_,ih⟩
  rcases List.mem_cons.mp hz with e | e
  ·subst e; exact h.1
  ·exact leS_trans (show leS p x from h.1) (h1 z e)
theorem sorted_pw:∀ xs:List Str,sortedS xs=true→xs.Pairwise leS
 | [],_=>.nil
 | x::xs,h=>rising_pw x xs h
theorem sorted_is {xs ys:List Str}(p:ys.Perm xs)(h:sortedS ys=true):ys=sortS xs :=
 List.Perm.eq_of_pairwise (le:=leS) (fun _ _ _ _=>leS_anti) (sorted_pw ys h) (sortS_pw xs) (p.trans (sortS_perm xs).symm)
def sortedD:List D→Option Res
 | [.lst xs]=>match strsD xs with
  | some ss=>if ss.length<64 then some (.new (.lst ((sortS ss).map .str))) else none
  | none=>none
 | _=>none
theorem dpl_strs {G:Gx}{F:Hp}:∀ ss:List Str,DpL G F (ss.map V.str) (ss.map D.str)
 | []=>.nil
 | s::ss=>.cons (.str s) (dpl_strs ss)
theorem sortedD_ok {G:Gx}:CallOk G (rSortedS G.K) sortedD:=by
 intro F H xs ds res Q e v q k
 unfold sortedD at q
 split at q
 ·rename_i ys
  split at q
  ·rename_i ss e1
   split at q
   ·rename_i w
    cases q
    obtain ⟨x,rfl,vx⟩:=v.one
    obtain ⟨a,vs,rfl,h1,t⟩:=vx.lst e
    refine ⟨a,ss,rfl,by rw [← strs_ok t e1]; exact SqL.of h1,w,fun zs p hp hs hn=>?_⟩
    rw [sorted_is hp hs]
    exact k _ F _ (.cell e hn) ⟨p,rfl,Same.free e hn,⟨_,upd_same,dpl_strs _⟩,hn⟩
   ·cases q
  ·cases q
 ·cases q
def mergeD (kvs more:List (Key×D)):List (Key×D):=more.foldl (fun acc kv=>putKD acc kv.1 kv.2) kvs
theorem dpk_merge {G:Gx}{F:Hp}:∀ {ks:List Key} {vs:List V} {ds:List D} {as:List (Key×V)} {bs:List (Key×D)},DpL G F vs ds→DpK G F as bs→DpK G F (mergeK as (ks.zip vs)) (mergeD bs (ks.zip ds))
 | [],_,_,_,_,_,h=>by simpa [mergeK,mergeD] using h
 | k::ks,_,_,_,_,.nil,h=>by simpa [mergeK,mergeD] using h
 | k::ks,_,_,_,_,.cons hv t,h=>by
  simp only [List.zip_cons_cons,mergeK,mergeD,List.foldl_cons]
  exact dpk_merge (ks:=ks) t (h.put hv)
def dctR (ks:List Key)(rs:List Res)(ρ:Rho):Out Res:=match settles rs ρ with
 | some (ds,ρ2)=>.ok (.new (.dct (mergeD [] (ks.zip ds)))) ρ2
 | none=>.stuck
def mDct (ks:List Key)(ma:MA):M:=fun ρ=>bindO (ma ρ) fun rs ρ1=>dctR ks rs ρ1
def tDF (Γ:Gm)(W:WX)(m:M):TE:=fun σ H Q=>∃ D,tF (Γ.also D) W m σ H Q
structure JP (X:Cx)(Γ:Gm)(W:WX)(pos:Pos)(keys:List (Option Expr))(values:List Expr)(ks:List Key)(ma:MA):Prop where
 ex:∃ trs,PPs X pos keys values trs∧∀ D σ H Q,tMA (Γ.also D) W ma σ H (fun vs H'=>Q ((ks.zip vs).map fun kv=>(kV kv.1,kv.2)) H')→tPairs trs σ H Q
 kl:keys.length=ks.length
section
variable {X:Cx}{Γ:Gm}{W:WX}{pos:Pos}{keys:List (Option Expr)}{values:List Expr}{ks:List Key}{ma:MA}{k v:Expr}{m:M}{key:Key}
theorem jp_nil:JP X Γ W pos [] [] [] mNil:=⟨⟨[],pps_nil,fun D σ H Q ⟨ρ,F,R,p⟩=>p [] F H (.refl R) .nil⟩,rfl⟩
theorem jp_cons (hk:PE X k (tC (kV key)))(hv:∀ D,PE X v (tM (Γ.also D) W m))(hr:JP X Γ W pos keys values ks ma):JP X Γ W pos (some k::keys) (v::values) (key::ks) (mCons m ma):=by
 obtain ⟨trs,h1,h2⟩:=hr.ex
 refine ⟨⟨(tC (kV key),tDF Γ W m)::trs,pps_cons hk ⟨fun pins s σ H Q I ⟨D,q⟩=>(je_f (hv D)).run pins s σ H Q I q⟩ h1,fun D σ H Q q=>?_⟩,by simp [hr.kl]⟩
 obtain ⟨ρ,F,R,p⟩:=q
 refine ⟨D,ρ,F,R,p.bindF fun r ρ1 v F1 H1 s1 hr p1=>?_⟩
 exact h2 D σ H1 (fun ps H2=>Q ((kV key,v)::ps) H2) ⟨ρ1,F1,s1.rel,p1.bindA fun rs ρ2 vs F2 H2 s2 hrs p2=>p2 (v::vs) F2 H2 (.refl s2.rel) (.cons (hr.mono s2.subF) hrs)⟩
theorem je_dict (h:JP X Γ W pos keys values ks ma)(h0:keys≠[]:=by simp)(h15:keys.length≤15:=by decide)(hall:keys.all (·.isSome)=true:=by rfl)(hl:keys.length=values.length:=by rfl):PE X (.Dict keys values pos) (tM Γ W (mDct ks ma)):=by
 obtain ⟨trs,h1,h2⟩:=h.ex
 refine (pe_disp h1 hall hl h0 h15).imp fun σ H Q ⟨ρ,F,R,pp⟩ p hp=>?_
 have uD:¬ Γ.U p:=fun z=>by
  obtain ⟨_,u,hu⟩:=R.ali p z; rw [hp] at hu; cases hu
 have n0:¬ Own Γ ρ σ F H p:=fun ⟨j,z⟩=>by
  obtain ⟨u,hu⟩:=Rel.ownH z; rw [hp] at hu; cases hu
 obtain ⟨s0,n1⟩:=(Stp.refl R).out (o:=.dK []) hp uD (Same.free R.sub hp) n0 (okN hp)
 have R1:=s0.rel.also (Same.free R.sub hp) upd_same n1 okU_dK
 refine h2 p σ _ _ ⟨ρ,F,R1,?_⟩
 unfold mDct at pp
 cases e:ma ρ with
 | ok rs ρ1 =>
  rw [e] at pp
  simp only [bindO] at pp
  intro vs F1 H1 s1 hr
  unfold dctR at pp
  split at pp
  ·rename_i ds ρ2 es
   obtain ⟨F2,s2,hd⟩:=settles_ok s1.rel hr es
   obtain ⟨u1,u2,u3,u4⟩:=(s1.trans s2).unalso
   have st:=s0.trans u1
   refine ⟨by rw [u2,upd_same],ks.zip vs,rfl,by rw [List.length_zip,← h.kl]; omega,?_⟩
   obtain ⟨so,no⟩:=st.out (o:=.dK (mergeK [] (ks.zip vs))) hp uD u3 u4 (okS (by rw [u2,upd_same]) okU_dK)
   refine pp _ F2 _ so ⟨p,[p],rfl,.flat ⟨_,upd_same,dpk_merge hd .nil⟩,fun b hb=>?_⟩
   obtain rfl:b=p:=by simpa using hb
   exact ⟨u3,uD,no⟩
  ·exact pp.elim
 | exc x ρ1 =>
  rw [e] at pp
  exact fun d F' H' s q=>pp d F' H' (s0.trans s.unalso.1) q
 | stuck=>rw [e] at pp; exact pp.elim
end
section
variable {X:Cx}{Γ:Gm}{W:WX}{kx vx tg iter:Expr}{ifs:List Expr}{scope:Scope}{own:List (Str×Nat)}{pos spos:Pos}{mi:MI}{g:TG}{f:Tg}{t:MB}{mk mv:M}
end
section
variable {G:Gx}{F H:Hp}{d:Addr}{od:Obj}{kv:List (Key×V)}
end
section
variable {X:Cx}{Γ:Gm}{W:WX}{elt tg:Expr}{ifs:List Expr}{scope:Scope}{own:List (Str×Nat)}{pos spos:Pos}{mi:MI}{g:TG}{f:Tg}{t:MB}{me:M}
end
def TgX (Γ:Gm)(g:TG)(f:Tg):Prop:=∀ v d ρ ρ' σ F H Q,Rel Γ ρ σ F H→Dp Γ.G F v d→f d ρ=some ρ'→(∀ σ' F' H',Stp Γ ρ σ F H ρ' σ' F' H'→Q σ' H')→g v σ H Q
def TgsX (Γ:Gm)(g:TGs)(f:Tgs):Prop:=∀ vs ds ρ ρ' σ F H Q,Rel Γ ρ σ F H→DpL Γ.G F vs ds→f ds ρ=some ρ'→(∀ σ' F' H',Stp Γ ρ σ F H ρ' σ' F' H'→Q σ' H')→g vs σ H Q
theorem TgOk.x {Γ:Gm}{g:TG}{f:Tg}(h:TgOk Γ g f):TgX Γ g f:=fun v d ρ ρ' σ F H Q R dp e k=>h v d ρ ρ' σ F H Q R dp e fun σ' s=>k σ' F H s
theorem tgsx_nil {Γ:Gm}:TgsX Γ gNil gsNil:=by
 intro us ds ρ ρ' σ F H Q R h e k
 unfold gsNil at e
 split at e
 ·cases e; cases h; exact ⟨rfl,k σ F H (.refl R)⟩
 ·cases e
theorem tgsx_cons {Γ:Gm}{t:TG}{u:TGs}{f:Tg}{g:Tgs}(h1:TgX Γ t f)(h2:TgsX Γ u g):TgsX Γ (gCons t u) (gsCons f g):=by
 intro us ds ρ ρ' σ F H Q R h e k
 unfold gsCons at e
 split at e
 ·rename_i d ds
  obtain ⟨ρ1,e1,e2⟩:=Option.bind_eq_some_iff.mp e
  cases h with
  | cons ha hb=>exact ⟨_,_,rfl,h1 _ d ρ ρ1 σ F H _ R ha e1 fun σ1 F1 H1 s1=>h2 _ ds ρ1 ρ' σ1 F1 H1 Q s1.rel (hb.mono s1.subF) e2 fun σ2 F2 H2 s2=>k σ2 F2 H2 (s1.trans s2)⟩
 ·cases e
theorem tgx_tup {Γ:Gm}{u:TGs}{g:Tgs}{n:Nat}(h2:TgsX Γ u g):TgX Γ (gTup Γ.G.K n u) (gT n g):=by
 intro v d ρ ρ' σ F H Q R h e k
 unfold gT at e
 split at e
 ·rename_i ds
  split at e
  ·rename_i hn
   cases h with
   | tup hs t=>exact ⟨_,_,rfl,sqT_ext hs R.sub,by rw [t.length]; exact hn,h2 _ ds ρ ρ' σ F H Q R t e k⟩
  ·cases e
 ·cases e
def gSV (s:Nat)(k:D):Tg:=fun d ρ=>match ρ[s]? with
 | some (some (.own b c))=>(setD c k d).map fun c'=>ρ.set s (some (.own b c'))
 | _=>none
theorem tgx_sub {Γ:Gm}{s:Nat}{k:D}{y:V}(hk:∀ F,Dp Γ.G F y k):TgX Γ (gSub (tVar s) (tC y) rSetD) (gSV s k):=by
 intro v d ρ ρ' σ F H Q R dp e q
 unfold gSV at e
 split at e
 ·rename_i b c e2
  obtain ⟨c',e4,rfl⟩:=Option.map_eq_some_iff.mp e
  obtain ⟨x,L,h1,a,rfl,ce,hb⟩:=R.slot s _ e2
  have fin:flatD c=true→∀ oo,Cell Γ.G F (L2.upd H a oo) a c'→Q σ (L2.upd H a oo):=fun fl oo cc=>q σ F _ (R.upd e2 h1 ce fl cc)
  refine ⟨_,h1,?_⟩
  show rSetD (.ref a) y v H fun H3=>Q σ H3
  have vi:View Γ.G F H y k:=View.of (hk F)
  cases c with
  | lst xs =>
   cases k with
   | int i =>
    simp only [setD,Option.map_eq_some_iff] at e4
    obtain ⟨j,g1,rfl⟩:=e4
    obtain ⟨vs,g2,t⟩:=(ce.cell rfl).1
    exact .inl ⟨a,vs,i,j,rfl,vi.int,g2,by rw [t.length]; exact g1,fin rfl _ ⟨_,upd_same,t.set dp j⟩⟩
   | _=>simp [setD] at e4
  | dct kvs =>
   simp only [setD] at e4
   split at e4
   ·rename_i w
    obtain ⟨kk,g1,rfl⟩:=Option.map_eq_some_iff.mp e4
    obtain ⟨vs,g2,t⟩:=(ce.cell rfl).1
    have hk:=keyD_ok vi g1
    subst hk
    exact .inr ⟨a,_,rfl,DPut.k g2 (by rw [t.length]; exact w),fin rfl _ ⟨_,upd_same,t.put dp⟩⟩
   ·cases e4
  | dctO kvs =>
   simp only [setD] at e4
   split at e4
   ·rename_i w
    obtain ⟨kk,g1,h2⟩:=Option.bind_eq_some_iff.mp e4
    split at h2
    ·rename_i u
     cases h2
     obtain ⟨vs,g3,g4,st⟩:=R.setO e2 h1 ce dp u
     have hk:=keyD_ok vi g1
     subst hk
     exact .inr ⟨a,_,rfl,DPut.k g3 (by rw [g4]; exact w),q σ F _ st⟩
    ·cases h2
   ·cases e4
  | _=>simp [setD] at e4
 ·cases e
section
variable {X:Cx}{Γ:Gm}{W:WX}{e tg:Expr}{m:M}{pos pos':Pos}
theorem js_asgX {g:TG}{f:Tg}(hg:PG X tg g)(hf:TgX Γ g f)(he:PE X e (tM Γ W m))(hs:swapsWithSole [tg] e pos.line X.env=pure false:=by rfl)(hw:swappedStores [tg] e X.env=pure none:=by rfl)(h1:(assignEach [tg] X.env).map (·.2)=[assign tg X.env]:=by rfl):PS X (.Assign [tg] e pos) (tMS Γ W (mAsg f m)) :=
 (ps_asg (je_f he) hg hs hw h1).imp fun D σ H ⟨ρ,F,R,p⟩=>⟨ρ,F,R,p.bindF fun r ρ1 v F1 H1 s1 hr p1=>by
  unfold tgtR at p1
  split at p1
  ·rename_i d ρ2 e1
   split at p1
   ·rename_i ρ3 e2
    obtain ⟨F2,s2,q⟩:=settle_ok s1.rel hr e1
    exact hf v d ρ2 ρ3 σ F2 H1 _ s2.rel q e2 fun σ' F' H' s3=>p1 σ' F' H' (s2.trans s3)
   ·exact p1.elim
  ·exact p1.elim⟩
end
@[simp] theorem x_enumN {n:Nat}:enumFromD n []=[]:=rfl
@[simp] theorem x_enumC {n:Nat}{x:D}{xs:List D}:enumFromD n (x::xs)=D.tup [.int (n:Nat),x]::enumFromD (n+1) xs:=rfl
@[simp] theorem x_enumD {xs:List D}:enumD xs=enumFromD 0 xs:=rfl
@[simp] theorem x_dctR {ks:List Key}{rs:List Res}{ρ:Rho}:dctR ks rs ρ=optO (settles rs ρ) fun p=>.ok (.new (.dct (mergeD [] (ks.zip p.1)))) p.2:=by
 unfold dctR optO; cases settles rs ρ <;> rfl
@[simp] theorem x_mDct {ks:List Key}{ma:MA}{ρ:Rho}:mDct ks ma ρ=bindO (ma ρ) fun rs ρ1=>dctR ks rs ρ1:=rfl
@[simp] theorem x_mergeN {kvs:List (Key×D)}:mergeD kvs []=kvs:=rfl
@[simp] theorem x_mergeC {kvs r:List (Key×D)}{kv:Key×D}:mergeD kvs (kv::r)=mergeD (putKD kvs kv.1 kv.2) r:=rfl
def ownD (o:Option (Option Slot))(k:Option Nat→D→Option Rho):Option Rho:=match o with
 | some (some (.own b c))=>k b c
 | _=>none
@[simp] theorem x_ownD {b:Option Nat}{c:D}{k:Option Nat→D→Option Rho}:ownD (some (some (.own b c))) k=k b c:=rfl
@[simp] theorem x_gSV {s:Nat}{k d:D}{ρ:Rho}:gSV s k d ρ=ownD ρ[s]? fun b c=>(setD c k d).map fun c'=>ρ.set s (some (.own b c')):=by
 unfold gSV ownD; rfl
@[simp] theorem x_keyDS {s:Str}:keyD (.str s)=some (.inr s):=rfl
@[simp] theorem x_keyDI {s:Int}:keyD (.int s)=some (.inl s):=rfl
theorem meets_enm {v:Value}{o:Obj}{P:Heap→Prop}(B:Begins v o P) :
  Meets (Builtin.«enumerate.__new__» ⟨[.type "enumerate",v],[]⟩) (fun _ R s=>P s.heap ∧
   R (.ok (.ret (.ref (s.heap.push o).objs.size))) { s with heap:=(s.heap.push o).push { cls:=.type "enumerate",data:=.fields #[.none,.bool false,.ref s.heap.objs.size,rawInt 0,.none,.none] } }) :=
 .of_wp fun prog w A R s h=>by
  obtain ⟨hp,gs,dr,tk,os⟩:=s
  obtain ⟨h1,h⟩:=h
  have sb:=sub_enumerate
  have q1:∀ {A':Around} {E:Value→Shared→Prop} {Q:Value→Shared→Prop},Q (.ref hp.objs.size) ⟨hp.push o,gs,dr,tk,os⟩→wpAny (model prog w) A' (pyIter v) Q E ⟨hp,gs,dr,tk,os⟩ :=
   fun q=>B.iter prog w _ _ ⟨hp,gs,dr,tk,os⟩ _ h1 q
  wp_walk using q1
  refine wpAny_stack_any fun st=>wpAny_pure ?_
  split
  ·rename_i cc _ _ _ _ _
   cases (cc==Value.type "enumerate") <;> (wp_walk using q1; exact ⟨_,rfl,h⟩)
  ·wp_walk using q1
   exact ⟨_,rfl,h⟩
theorem call_enm {prog:Program}{w:World}{A:Around}{E:Value→Shared→Prop}{s:Shared}{v:Value}{o:Obj}{P:Heap→Prop}{Q:Value→Shared→Prop}(B:Begins v o P)(h1:P s.heap)
  (h:∀ h',IsEnum h' (s.heap.objs.size+1) s.heap.objs.size 0 .none→h'.get? s.heap.objs.size=some o→(∀ b o,s.heap.get? b=some o→h'.get? b=some o)→Q (.ref (s.heap.objs.size+1)) { s with heap:=h' }) :
  wpAny (model prog w) A (call (.type "enumerate") [v]) Q E s:=by
 refine callType_new F.called_enumerate (by decide) (F.typeCall_enumerate_1 _) (F.newCall_enumerate_1 _) (fun obj=>F.args_object_init_2 obj _) F.entry_enumerate_new (meets_enm B) ⟨h1,?_⟩
 have z:(s.heap.push o).objs.size=s.heap.objs.size+1:=Heap.size_push ..
 show _∧_
 rw [z]
 have he:IsEnum ((s.heap.push o).push { cls:=.type "enumerate",data:=.fields #[.none,.bool false,.ref s.heap.objs.size,rawInt 0,.none,.none] }) (s.heap.objs.size+1) s.heap.objs.size 0 .none:=by
  have q:=Heap.get?_push_size (s.heap.push o) (o:={ cls:=.type "enumerate",data:=.fields #[.none,.bool false,.ref s.heap.objs.size,rawInt 0,.none,.none] }) rfl
  rw [z] at q; exact q
 exact ⟨⟨_,he,rfl⟩,h _ he (Heap.get?_push_of_some _ (Heap.get?_push_size _ B.free)) fun b o x=>Heap.get?_push_of_some _ (Heap.get?_push_of_some _ x)⟩
def IteT (K:PySem.W.Frag)(a:Addr):It :=
 ⟨fun i H=>∃ (xs:List V) (x:V),SqT K H a xs∧xs[i]?=some x,fun i H v H'=>∃ T x,v=.ref T∧H T=none∧H'=upd H T (.tup [.int (i:Nat),x])∧∀ xs,SqT K H a xs→xs[i]?=some x,fun i H=>∃ xs:List V,SqT K H a xs∧xs.length≤i⟩
theorem turn_enumT {P:Program}{w:World}{K:PySem.W.Frag}{elts:List Expr}{kk:Nat}{tpos:Pos}(a e it:Addr) :
  Turn P w K (.Tuple elts kk tpos) (IteT K a) [e,it] e (fun i h=>(∃ old,IsEnum h e it ((i:Nat):Int) old)∧h.IsTupleIter it a i∧e≠it) where
 mem:=by simp
 obj:=fun i h st b hb=>by
  obtain ⟨⟨old,he⟩,⟨o,ho,hc,hd⟩,_⟩:=st
  rcases (show b=e∨b=it by simpa using hb) with z | z
  ·subst z; exact ⟨_,he,fun v q=>nomatch q⟩
  ·subst z; exact ⟨o,ho,fun v q=>by rw [hd] at q; cases q⟩
 keep:=fun i h h' st k=>by
  obtain ⟨⟨old,he⟩,⟨o,ho,hc,hd⟩,hne⟩:=st
  exact ⟨⟨old,k e (by simp) _ he⟩,⟨o,k it (by simp) _ ho,hc,hd⟩,hne⟩
 item:=by
  intro X hP hw hK hc i pins s σ H E I hf st hg
  subst hP hw hK
  obtain ⟨⟨old,he⟩,hit,hne⟩:=st
  obtain ⟨xs,x,hq,hx⟩:=hg
  obtain ⟨its,rv,p,hz⟩:=I.tuple hq
  obtain ⟨u,hu,ru⟩:=rv.get hx
  have hel:e<s.heap.objs.size:=Heap.lt_size he
  have hil:it<s.heap.objs.size:=by obtain ⟨_,q,_⟩:=hit; exact Heap.lt_size q
  have hT:s.heap.IsTuple a its.toArray:=p
  have nae:a≠e:=fun z=>by
   obtain ⟨o,ho,hoc,_⟩:=hT
   rw [z] at ho
   rw [show s.heap.get? e=some _ from he] at ho
   cases ho
   exact absurd (Value.type.inj hoc) (by decide)
  have nai:a≠it:=fun z=>by
   obtain ⟨o,ho,hoc,_⟩:=hT
   obtain ⟨o2,ho2,hoc2,_⟩:=hit
   rw [z,ho2] at ho
   cases ho; rw [hoc] at hoc2
   exact absurd (Value.type.inj hoc2) (by decide)
  have hlt:i<its.toArray.size:=by
   have:=List.getElem?_eq_some_iff.mp hu
   simpa using this.1
  have hh:X.A.in1.handled=none:=I.ok.hd hc
  refine wpAny_pyNext_enum_itemD (Draws.tuple hh it a nai its.toArray) he ⟨hit,hT⟩ hlt hne (by simp [hne,Ne.symm nae]) fun x' h' tk hP ho hst' hT' hsz hk=>?_
  have eu:x'=u:=by
   have q:its.toArray[i]?=some x':=hP
   rw [List.getElem?_toArray,hu] at q
   exact (Option.some.inj q).symm
  subst eu
  refine ⟨_,rfl,wpAny_letOwnedTupleGo_enum (s:={ s with heap:=h',toks:=tk+1 }) ho fun h'' he' sb=>?_⟩
  have hT2:h''.get? s.heap.objs.size=some { cls:=.type "tuple",data:=.seq #[.int i tk,x'] }:=(sb.2 _ (Nat.ne_of_gt hel)).trans hT'
  have new:ObjOk X.prog X.w (upd H s.heap.objs.size (.tup [.int (i:Nat),x])) h'' s.heap.objs.size (.tup [.int (i:Nat),x]) :=
   ⟨by show 2≤sizeLine; decide,[.int i tk,x'],.cons ⟨_,rfl⟩ (.cons ru .nil),⟨_,hT2,rfl,_,rfl⟩⟩
  have J1:Inv X pins σ (upd H s.heap.objs.size (.tup [.int (i:Nat),x])) { s with heap:=h'',toks:=tk+1 } :=
   I.turnedNew (ch:=[e,it]) (fun b ob hb q=>by
    have n1:b≠e:=fun z=>hb (by simp [z])
    have n2:b≠it:=fun z=>hb (by simp [z])
    exact (sb.2 b n1).trans (hk b ob n1 n2 q)) hf (Nat.le_refl _) new
  refine ⟨.ref s.heap.objs.size,_,J1,rfl,⟨_,x,rfl,I.hok.fresh (Nat.le_refl _),rfl,fun ys hy=>by rw [I.tuple_inj hy hq]; exact hx⟩,⟨⟨x',?_⟩,?_,hne⟩,fun b hb=>?_⟩
  ·have e1:((i+1:Nat):Int)=(i:Int)+1:=by omega
   rw [e1]; exact he'
  ·obtain ⟨o3,ho3,hc3,hd3⟩:=hst'.1
   exact ⟨o3,(sb.2 it (Ne.symm hne)).trans ho3,hc3,hd3⟩
  ·have hb':b<s.heap.objs.size:=by
    rcases (show b=e∨b=it by simpa using hb) with z | z
    ·subst z; exact hel
    ·subst z; exact hil
   rw [upd_ne (Nat.ne_of_lt hb')]
   exact (hf b hb).1
 done:=by
  intro X hP hw hK hc i pins s σ H E I hf st hg
  subst hP hw hK
  obtain ⟨⟨old,he⟩,hit,hne⟩:=st
  obtain ⟨xs,hq,hx⟩:=hg
  obtain ⟨its,rv,p,hz⟩:=I.tuple hq
  obtain ⟨f0,f1,f2,f3,f4,f5⟩:=hf it (by simp)
  have hT:s.heap.IsTuple a its.toArray:=p
  have nai:a≠it:=fun z=>by
   obtain ⟨o,ho,hoc,_⟩:=hT
   obtain ⟨o2,ho2,hoc2,_⟩:=hit
   rw [z,ho2] at ho
   cases ho; rw [hoc] at hoc2
   exact absurd (Value.type.inj hoc2) (by decide)
  have hh:X.A.in1.handled=none:=I.ok.hd hc
  have hh2:X.A.in1.in1.handled=none:=I.ok.hd hc
  have hl:=rv.length
  unfold pyNext
  have hTy:s.TypeIs (.ref e) "enumerate":=⟨_,he,rfl⟩
  refine wpAny_bind (wpAny_attempt (wpAny_callSpecial?_slot (name:=s!"__next__") hTy F.slot_enumerate_next (wpAny_call_entry F.slot_enumerate_next hTy F.entry_enumerate_next ?_ (F.args_enumerate_next_1 _))))
  show wpAny _ _ (field (.ref e) 2 >>= _) _ _ _
  refine wpAny_bind (wpAny_field he rfl (x:=.ref it) rfl ?_)
  refine wpAny_bind (wpAny_nextOf_tuple_end hh hit hT (by simp; omega) fun h' ex he' hx'=>?_)
  obtain ⟨o,ho,hoc⟩:=hx'
  refine wpAny_bind (wpAny_isInstance (T := "StopIteration") (b:=true) ⟨o,ho,hoc⟩ isSubtype_stop ?_)
  exact wpAny_pure ⟨rfl,I.turned (t':=s.toks) (fun b o hb q=>he' b o hb q) f0 f1 f3 f4 f5⟩
 self:=fun A i s Q E st h=>let ⟨⟨_,he⟩,_⟩:=st; wpAny_pyIter_enum he h
theorem pi_enm {X:Cx}{e:Expr}{ta:TA}{p pos tpos:Pos}{elts:List Expr}{kk:Nat}(hg:Gl X "enumerate")(hm:X.mg "enumerate"=none)(ha:PA X [e] ta)(hs:starEach [e] X.env=[(false,eval e X.env)]:=by rfl) :
  PI X (.Tuple elts kk tpos) (.Call (.Name "enumerate" p) [e] [] pos) (fun σ H R=>ta σ H fun vs H1=>∃ a xs,vs=[.ref a]∧((SqL X.K H1 a xs∧R (Ite X.K a) H1)∨(SqT X.K H1 a xs∧R (IteT X.K a) H1))):=by
 refine ⟨fun pins s σ H R I h=>?_⟩
 refine Call_ (ld_blt I hg hm boot_enumerate (PyProof.Rows.callWith_type1 (thn (ha.run pos pins s σ H _ I h) fun us s1 ⟨vs,H1,I1,r1,q1⟩=>?_) hs rfl))
 obtain ⟨a,xs,ex,q⟩:=q1
 subst ex
 cases r1 with
 | cons r rr =>
  cases rr
  cases r
  have fp:∀ b∈[s1.heap.objs.size+1,s1.heap.objs.size],FpOk X pins H1 b:=fun b hb=>by
   have hle:s1.heap.objs.size≤b:=by
    rcases (show b=s1.heap.objs.size+1∨b=s1.heap.objs.size by simpa using hb) with z | z
    ·subst z; exact Nat.le_succ _
    ·subst z; exact Nat.le_refl _
   exact I1.fpOk hle (I1.hok.fresh hle)
  rcases q with ⟨hq,q⟩ | ⟨hq,q⟩
  ·obtain ⟨its,rv,p',hz⟩:=I1.list hq
   refine call_enumerate_list p'.isList fun h' he hit hsz hk=>wpAny_pyIter_enum he ?_
   exact ⟨s1.heap.objs.size+1,[s1.heap.objs.size+1,s1.heap.objs.size],_,_,H1,rfl,I1.kept (t':=s1.toks) hk,turn_enum a (s1.heap.objs.size+1) s1.heap.objs.size,⟨⟨.none,he⟩,hit,Nat.succ_ne_self _⟩,fp,q⟩
  ·obtain ⟨its,rv,p',hz⟩:=I1.tuple hq
   refine call_enm (begins_tuple a its.toArray) p' fun h' he hit hk=>wpAny_pyIter_enum he ?_
   exact ⟨s1.heap.objs.size+1,[s1.heap.objs.size+1,s1.heap.objs.size],_,_,H1,rfl,I1.kept (t':=s1.toks) hk,turn_enumT a (s1.heap.objs.size+1) s1.heap.objs.size,⟨⟨.none,he⟩,⟨_,hit,rfl,rfl⟩,Nat.succ_ne_self _⟩,fp,q⟩
theorem wlk_enumT {G:Gx}{F:Hp}{a:Addr}{vs:List V}{ds:List D}(h:SqT G.K F a vs)(t:DpL G F vs ds):Wlk G (IteT G.K a) F (enumD ds):=by
 obtain ⟨l,g⟩:=enumD_len ds
 refine ⟨fun i H s hi=>⟨vs,vs[i]'(by rw [t.length,← l]; exact hi),sqT_ext h s,by simp⟩,fun i H x H' s hi ⟨T,y,ex,hT,hH,q⟩=>?_,fun i H s hi=>⟨vs,sqT_ext h s,by rw [t.length,← l]; exact hi⟩⟩
 obtain ⟨d,h1,h2⟩:=t.getV (q vs (sqT_ext h s))
 subst ex hH
 exact ⟨_,g i d h1,fun F1 s1 s2=>⟨upd F1 T (.tup [.int (i:Nat),y]),.tup s2 hT,.tup (SqT.of upd_same) (.cons (.int _) (.cons ((h2.mono s1).mono (Alc.tup (o:=.tup [.int (i:Nat),y]) s2 hT).subF) .nil))⟩⟩
def iEnT (ma:MA):MI:=fun ρ=>bindO (ma ρ) fun rs ρ1=>match settles rs ρ1 with
 | some ([.lst xs],ρ2)=>.ok (enumD xs) ρ2
 | some ([.tup xs],ρ2)=>.ok (enumD xs) ρ2
 | _=>.stuck
section
variable {X:Cx}{Γ:Gm}{W:WX}{e tg:Expr}{m:M}{ma:MA}{pos p:Pos}
theorem ji_enm {a:Expr}{elts:List Expr}{kk:Nat}{tpos:Pos}(hK:X.K=Γ.G.K)(hm:X.mg "enumerate"=none)(ha:PA X [a] (tMA Γ W ma))(hg:Gl X "enumerate":=by rfl)(hs:starEach [a] X.env=[(false,eval a X.env)]:=by rfl):PI X (.Tuple elts kk tpos) (.Call (.Name "enumerate" p) [a] [] pos) (iM Γ W (iEnT ma)) :=
 (pi_enm hg hm ha hs).imp fun σ H R ⟨ρ,F,Rl,h⟩=>⟨ρ,F,Rl,iM_bindA h (fun rs ρ1 vs F1 H1 s1 hr hk ⟨ds,ρ2,ek⟩=>by
  have hk:=hk ds ρ2 ek
  split at ek
  ·rename_i xs ρ3 er
   cases ek
   obtain ⟨F2,s2,hd⟩:=settles_ok s1.rel hr er
   cases hd with
   | cons h1 t =>
    cases t
    cases h1 with
    | lst hq t=>exact ⟨_,_,rfl,.inl ⟨SqL.of (s2.rel.sub _ _ hq),hk _ F2 H1 s2 (hK▸wlk_enum hq t)⟩⟩
  ·rename_i xs ρ3 er
   cases ek
   obtain ⟨F2,s2,hd⟩:=settles_ok s1.rel hr er
   cases hd with
   | cons h1 t =>
    cases t
    cases h1 with
    | tup hq t=>exact ⟨_,_,rfl,.inr ⟨hK▸sqT_ext hq s2.rel.sub,hk _ F2 H1 s2 (hK▸wlk_enumT hq t)⟩⟩
  ·cases ek) (fun r ρ1=>by
  split
  ·exact .inl ⟨_,_,rfl⟩
  ·exact .inl ⟨_,_,rfl⟩
  ·exact .inr rfl)⟩
end
def sqO1 (o:Option (List D×Rho)):Out (List D):=match o with
 | some ([.lst xs],ρ)=>.ok (enumD xs) ρ
 | some ([.tup xs],ρ)=>.ok (enumD xs) ρ
 | _=>.stuck
@[simp] theorem x_sqO1l {xs:List D}{ρ:Rho}:sqO1 (some ([.lst xs],ρ))=.ok (enumD xs) ρ:=rfl
@[simp] theorem x_sqO1t {xs:List D}{ρ:Rho}:sqO1 (some ([.tup xs],ρ))=.ok (enumD xs) ρ:=rfl
@[simp] theorem x_iEnT {ma:MA}{ρ:Rho}:iEnT ma ρ=bindO (ma ρ) fun rs ρ1=>sqO1 (settles rs ρ1):=rfl
def gEi (g g':TG):TG:=fun v σ H Q=>g v σ H Q∨g' v σ H Q
theorem pg_ei {X:Cx}{tg:Expr}{g g':TG}(h:PG X tg g)(h':PG X tg g'):PG X tg (gEi g g'):=⟨fun pins s σ H v u Q I r q=>q.elim (fun q=>h.run pins s σ H v u Q I r q) fun q=>h'.run pins s σ H v u Q I r q⟩
def gL (n:Nat)(g:Tgs):Tg:=fun d ρ=>match d with
 | .tup ds=>if ds.length=n then g ds ρ else none
 | .lst ds=>if ds.length=n then g ds ρ else none
 | _=>none
theorem tgx_l {Γ:Gm}{u:TGs}{g:Tgs}{n:Nat}(h2:TgsX Γ u g):TgX Γ (gEi (gTup Γ.G.K n u) (gUnl Γ.G.K n u)) (gL n g):=by
 intro v d ρ ρ' σ F H Q R h e k
 unfold gL at e
 split at e
 ·rename_i ds
  split at e
  ·rename_i hn
   cases h with
   | tup hs t=>exact .inl ⟨_,_,rfl,sqT_ext hs R.sub,by rw [t.length]; exact hn,h2 _ ds ρ ρ' σ F H Q R t e k⟩
  ·cases e
 ·rename_i ds
  split at e
  ·rename_i hn
   cases h with
   | lst hs t=>exact .inr ⟨_,_,rfl,SqL.of (R.sub _ _ hs),by rw [t.length]; exact hn,h2 _ ds ρ ρ' σ F H Q R t e k⟩
  ·cases e
 ·cases e
theorem TgsOk.x {Γ:Gm}{g:TGs}{f:Tgs}(h:TgsOk Γ g f):TgsX Γ g f:=fun v d ρ ρ' σ F H Q R dp e k=>h v d ρ ρ' σ F H Q R dp e fun σ' s=>k σ' F H s
@[simp] theorem x_gLt {n:Nat}{g:Tgs}{ds:List D}{ρ:Rho}:gL n g (.tup ds) ρ=if ds.length=n then g ds ρ else none:=rfl
@[simp] theorem x_gLl {n:Nat}{g:Tgs}{ds:List D}{ρ:Rho}:gL n g (.lst ds) ρ=if ds.length=n then g ds ρ else none:=rfl
@[simp] theorem x_ixDl {E:Nat→Option Fn}{xs:List D}{a b:Res}{ρ:Rho}:ixDisp E (some (.lst xs)) a b ρ=op2 ixD a b ρ:=rfl
@[simp] theorem x_ixDt {E:Nat→Option Fn}{xs:List D}{a b:Res}{ρ:Rho}:ixDisp E (some (.tup xs)) a b ρ=op2 ixD a b ρ:=rfl
@[simp] theorem x_ixDr {E:Nat→Option Fn}{xs:List Int}{a b:Res}{ρ:Rho}:ixDisp E (some (.scr xs)) a b ρ=op2 ixD a b ρ:=rfl
@[simp] theorem x_ixDs {E:Nat→Option Fn}{xs:Str}{a b:Res}{ρ:Rho}:ixDisp E (some (.str xs)) a b ρ=op2 ixD a b ρ:=rfl
@[simp] theorem x_ixDd {E:Nat→Option Fn}{xs:List (Key×D)}{a b:Res}{ρ:Rho}:ixDisp E (some (.dct xs)) a b ρ=op2 ixD a b ρ:=rfl
def ixFn (o:Option Fn)(a b:Res)(ρ:Rho):Out Res:=match o with | some f=>callR [false,false] f [a,b] ρ | none=>.stuck
@[simp] theorem x_ixFn {f:Fn}{a b:Res}{ρ:Rho}:ixFn (some f) a b ρ=callR [false,false] f [a,b] ρ:=rfl
@[simp] theorem x_ixDo {E:Nat→Option Fn}{c:Nat}{fs:List (Str×D)}{a b:Res}{ρ:Rho}:ixDisp E (some (.obj c fs)) a b ρ=ixFn (E c) a b ρ:=by
 show ixCall E c a b ρ=_
 unfold ixCall ixFn; rfl
@[simp] theorem x_orC {f g:List D→Option Res}{ds:List D}:orC f g ds=orR (f ds) (g ds):=by unfold orC orR; cases f ds <;> rfl
@[simp] theorem x_appD {xs:List D}{y:D}:appendD (.lst xs) [y]=if xs.length<sizeLine then some (.lst (xs++[y]),.non) else none:=rfl
@[simp] theorem x_tyOl {xs:List D}:tyOk "list" (.lst xs)=true:=rfl
@[simp] theorem x_tyOs {xs:Str}:tyOk "str" (.str xs)=true:=rfl
@[simp] theorem x_blsN:blsD []=some []:=rfl
@[simp] theorem x_blsC {b:Bool}{ds:List D}:blsD (.bl b::ds)=(blsD ds).map (b::·):=rfl
@[simp] theorem x_strsN:strsD []=some []:=rfl
@[simp] theorem x_strsC {b:Str}{ds:List D}:strsD (.str b::ds)=(strsD ds).map (b::·):=rfl
@[simp] theorem x_allD {ds:List D}:allD [.lst ds]=(blsD ds).map fun bs=>.val (.bl (bs.all id)):=rfl
def sortO (o:Option (List Str)):Option Res:=match o with
 | some ss=>if ss.length<64 then some (.new (.lst ((sortS ss).map .str))) else none
 | none=>none
@[simp] theorem x_sortO {ss:List Str}:sortO (some ss)=if ss.length<64 then some (.new (.lst ((sortS ss).map .str))) else none:=rfl
@[simp] theorem x_sortedD {xs:List D}:sortedD [.lst xs]=sortO (strsD xs):=by unfold sortedD sortO; rfl
def joinO (a:Str)(o:Option (List Str)):Option Res:=match o with
 | some ys=>if (ys.map (·.length)).sum+ys.length * a.length≤16777216 then some (.val (.str (Txt.join a ys))) else none
 | none=>none
@[simp] theorem x_joinO {a:Str}{ys:List Str}:joinO a (some ys)=if (ys.map (·.length)).sum+ys.length * a.length≤16777216 then some (.val (.str (Txt.join a ys))) else none:=rfl
@[simp] theorem x_joinL {a:Str}{xs:List D}:joinD (.str a) [.lst xs]=joinO a (strsD xs):=by unfold joinD joinO; rfl
@[simp] theorem x_joinT {a:Str}{xs:List D}:joinD (.str a) [.tup xs]=joinO a (strsD xs):=by unfold joinD joinO; rfl
@[simp] theorem x_strDs {a:Str}:strD [.str a]=some (.val (.str a)):=rfl
@[simp] theorem x_repL {xs:List D}{k:Int}:mulD (.lst xs) (.int k)=if decide (-(2 ^ 63)≤k)&&decide (k<2 ^ 63)&&decide (xs.length * k.toNat≤sizeLine) then some (.new (.lst (List.replicate k.toNat xs).flatten)) else none:=by
 simp only [mulD,orF,fII,fRepL]
 split
 ·rename_i r h; split at h <;> simp_all
 ·rename_i h; split at h <;> simp_all [fRepT]
@[simp] theorem x_slL {xs:List D}{lo hi:Option Int}:slD (.lst xs) lo hi=some (.new (.lst (cutD xs lo hi))):=rfl
@[simp] theorem x_dctI {kvs:List (Key×D)}{k:D}:ixD (.dct kvs) k=((keyD k).bind fun k=>valK kvs k).map .val:=by
 cases k <;> rfl
@[simp] theorem x_valKN {k:Key}:valK [] k=none:=rfl
theorem x_valKC {k k':Key}{v:D}{r:List (Key×D)}:valK ((k',v)::r) k=if k'=k then some v else valK r k:=by
 unfold valK
 simp only [List.find?_cons]
 by_cases h:k'=k <;> simp [h]
@[simp] theorem x_putKN {k:Key}{v:D}:putKD [] k v=[(k,v)]:=rfl
section
variable {X:Cx}{Γ:Gm}{W:WX}{e:Expr}{ma:M}{mr:MA}{pos p:Pos}{es:List Expr}
end
@[simp] theorem resolves_app {ρ:Rho}:∀ {ds:List D} {rs:List Res},resolves ρ (ds.map .val++rs)=(resolves ρ rs).map (ds++·)
 | [],rs=>by simp
 | d::ds,rs=>by
  simp only [List.map_cons,List.cons_append,x_resC,x_resV,resolves_app (ds:=ds)]
  cases resolves ρ rs <;> rfl
@[simp] theorem settles_app {ρ:Rho}:∀ {ds:List D} {rs:List Res},settles (ds.map .val++rs) ρ=(settles rs ρ).map fun p=>(ds++p.1,p.2)
 | [],rs=>by simp
 | d::ds,rs=>by
  simp only [List.map_cons,List.cons_append,x_stCons,x_setV,x_stC,settles_app (ds:=ds)]
  cases settles rs ρ <;> rfl
section
variable {X:Cx}{Γ:Gm}{W:WX}{elt tg iter tg1 iter1:Expr}{ifs ifs1:List Expr}{scope:Scope}{own:List (Str×Nat)}{vs1:List Nat}{pos spos:Pos}{mi mi1:MI}{g g1:TG}{f f1:Tg}{t t1:MB}{me:M}
end
section
variable {X:Cx}{Γ:Gm}{W:WX}{a b:Expr}{ma mb:M}{p q pos pos2:Pos}
end
section
variable {X:Cx}{Γ:Gm}{W:WX}{e o:Expr}{mo me:M}{pos tpos:Pos}{f:Str}{T:Tab}{op:Operator}{rd:R2}{fo:D→D→Option Res}
end
section
variable {K:PySem.W.Frag}{x qual:Str}{params:Arguments}{body:List Stmt}{scope:Scope}{dvs:List V}{kws:List (Str×V)}{f:Addr}{fd:FuncData}{ps ks:List Str}{p:List Nat}
end
inductive Al {α β:Type}(R:α→β→Prop):List α→List β→Prop
 | nil:Al R [] []
 | cons {a:α} {b:β} {as:List α} {bs:List β}:R a b→Al R as bs→Al R (a::as) (b::bs)
theorem Al.len {α β:Type}{R:α→β→Prop}{as:List α}{bs:List β}(h:Al R as bs):as.length=bs.length:=by
 induction h with
 | nil=>rfl
 | cons _ _ ih=>simp [ih]
theorem lc_rel {vs:List Nat}{f:Tg}{t:MB}{me:M}{α:Type}(St:α→Rho)(R:D→D→Prop):∀ (ds acc:List D) (a:α),(∀ d∈ds,∀ a,∃ ρ1 ρ2 r ρ3 y ρ4 a',f d (St a)=some ρ1∧t ρ1=.ok true ρ2∧me ρ2=.ok r ρ3∧PyD.settle r.frz ρ3=some (y,ρ4)∧wipeR ρ4 vs=St a'∧R d y)→acc.length+ds.length≤sizeLine →
  ∃ ys a',lcD vs f t me ds acc (St a)=.ok (acc++ys) (St a')∧Al R ds ys
 | [],acc,a,_,_=>⟨[],a,by simp,.nil⟩
 | d::ds,acc,a,h,hl=>by
  obtain ⟨ρ1,ρ2,r,ρ3,y,ρ4,a1,h1,h2,h3,h4,h5,h6⟩:=h d (List.mem_cons_self ..) a
  have hl':acc.length<sizeLine:=by simp only [List.length_cons] at hl; omega
  obtain ⟨ys,a',e,al⟩:=lc_rel St R ds (acc++[y]) a1 (fun d' hd=>h d' (List.mem_cons_of_mem _ hd)) (by simp only [List.length_append,List.length_cons,List.length_nil] at hl ⊢; omega)
  refine ⟨y::ys,a',?_,.cons h6 al⟩
  rw [x_lcC,h1]
  simp only [x_optO,h2,x_bindN,if_true,h3,h4,hl',h5]
  rw [e]
  simp
def lkD (p:Str×Str):D:=.tup [.str p.1,.str p.2]
mutual
def okd:Nat→D→Bool
 | _,.non=>true
 | _,.bl _=>true
 | _,.int _=>true
 | _,.str x=>PyData.strOk x
 | n,.lst xs=>okdS n xs
 | n,.tup xs=>okdS n xs
 | _,_=>false
def okdS:Nat→List D→Bool
 | 0,_=>false
 | n+1,xs=>okds n xs
def okds:Nat→List D→Bool
 | _,[]=>true
 | n,d::ds=>okd n d&&okds n ds
end
mutual
def smk:D→D→Bool
 | .bl _,.int _=>false
 | .int _,.bl _=>false
 | .lst xs,.lst ys=>smks xs ys
 | .tup xs,.tup ys=>smks xs ys
 | _,_=>true
def smks:List D→List D→Bool
 | x::xs,y::ys=>smk x y&&smks xs ys
 | _,_=>true
end
@[simp] theorem x_okN {n:Nat}:okd n .non=true:=by simp [okd]
@[simp] theorem x_okB {n:Nat}{b:Bool}:okd n (.bl b)=true:=by simp [okd]
@[simp] theorem x_okI {n:Nat}{b:Int}:okd n (.int b)=true:=by simp [okd]
@[simp] theorem x_okS {n:Nat}{b:Str}:okd n (.str b)=PyData.strOk b:=by simp [okd]
@[simp] theorem x_okL {n:Nat}{xs:List D}:okd (n+1) (.lst xs)=okds n xs:=by simp [okd,okdS]
@[simp] theorem x_okT {n:Nat}{xs:List D}:okd (n+1) (.tup xs)=okds n xs:=by simp [okd,okdS]
@[simp] theorem x_oksN {n:Nat}:okds n []=true:=by simp [okds]
@[simp] theorem x_oksC {n:Nat}{x:D}{xs:List D}:okds n (x::xs)=(okd n x&&okds n xs):=by simp [okds]
theorem okds_iff {n:Nat}:∀ {xs:List D},okds n xs=true↔∀ x∈xs,okd n x=true
 | []=>by simp
 | x::xs=>by simp [okds_iff (xs:=xs)]
theorem smk_self (x:D):smk x x=true:=by
 refine D.rec (motive_1:=fun x=>smk x x=true) (motive_2:=fun xs=>smks xs xs=true) (motive_3:=fun _=>True) (motive_4:=fun _=>True) (motive_5:=fun _=>True) (motive_6:=fun _=>True) (motive_7:=fun _=>True) (motive_8:=fun _=>True) ?_ ?_ ?_ ?_ ?_ ?_ ?_ ?_ ?_ ?_ ?_ ?_ ?_ ?_ ?_ ?_ ?_ ?_ ?_ ?_ ?_ ?_ ?_ ?_ ?_ ?_ ?_ ?_ ?_ ?_ x <;> intros <;> first | trivial | (simp only [smk,smks,Bool.and_eq_true]; first | assumption | exact ⟨by assumption,by assumption⟩ | trivial) | simp_all [smk,smks]
theorem okd_py (x:D):∀ n,okd n x=true→∃ p,toPy x=some p∧PyData.canLay0 p=true∧PyData.depth p≤n:=by
 refine D.rec (motive_1:=fun x=>∀ n,okd n x=true→∃ p,toPy x=some p∧PyData.canLay0 p=true∧PyData.depth p≤n) (motive_2:=fun xs=>∀ n,okds n xs=true→∃ ps,toPys xs=some ps∧PyData.canLayAll0 ps=true∧PyData.depthAll ps≤n) (motive_3:=fun _=>True) (motive_4:=fun _=>True) (motive_5:=fun _=>True) (motive_6:=fun _=>True) (motive_7:=fun _=>True) (motive_8:=fun _=>True)
  ?_ ?_ ?_ ?_ ?_ ?_ ?_ ?_ ?_ ?_ ?_ ?_ ?_ ?_ ?_ ?_ ?_ ?_ ?_ ?_ ?_ ?_ ?_ ?_ ?_ ?_ ?_ ?_ ?_ ?_ x
 ·intro n _; exact ⟨.none,by simp,by simp,by simp⟩
 ·intro b n _; exact ⟨.bool b,by simp,by simp,by simp⟩
 ·intro b n _; exact ⟨.int b,by simp,by simp,by simp⟩
 ·intro b n h; exact ⟨.str b,by simp,by simpa using h,by simp⟩
 ·intro b n h; simp [okd] at h
 ·intro xs ih n h
  cases n with
  | zero=>simp [okd,okdS] at h
  | succ n =>
   obtain ⟨ps,h1,h2,h3⟩:=ih n (by simpa using h)
   exact ⟨.list ps,by simp [h1],by simpa using h2,by simp; omega⟩
 ·intro xs ih n h
  cases n with
  | zero=>simp [okd,okdS] at h
  | succ n =>
   obtain ⟨ps,h1,h2,h3⟩:=ih n (by simpa using h)
   exact ⟨.tuple ps,by simp [h1],by simpa using h2,by simp; omega⟩
 ·intro b n h; simp [okd] at h
 ·intro b ih n h; simp [okd] at h
 ·intro c b ih n h; simp [okd] at h
 ·intro b n h; simp [okd] at h
 ·intro b n h; simp [okd] at h
 ·intro b ih n h; simp [okd] at h
 ·intro b ih n h; simp [okd] at h
 ·intro c b ih n h; simp [okd] at h
 ·intro b ih n h; simp [okd] at h
 ·intro c b ih n h; simp [okd] at h
 ·intro b ih n h; simp [okd] at h
 ·intro n h; simp [okd] at h
 ·intro n _; exact ⟨[],by simp,by simp,by simp⟩
 ·intro d ds i1 i2 n h
  simp only [x_oksC,Bool.and_eq_true] at h
  obtain ⟨p,h1,h2,h3⟩:=i1 n h.1
  obtain ⟨ps,h4,h5,h6⟩:=i2 n h.2
  exact ⟨p::ps,by simp [h1,h4],by simp [h2,h5],by simp; omega⟩
 all_goals (intros; trivial)
theorem eqv_iff (x:D):∀ y,smk x y=true→∀ p q,toPy x=some p→toPy y=some q→(PyData.eqv p q=true↔x=y):=by
 refine D.rec (motive_1:=fun x=>∀ y,smk x y=true→∀ p q,toPy x=some p→toPy y=some q→(PyData.eqv p q=true↔x=y)) (motive_2:=fun xs=>∀ ys,smks xs ys=true→∀ ps qs,toPys xs=some ps→toPys ys=some qs→(PyData.eqvAll ps qs=true↔xs=ys)) (motive_3:=fun _=>True) (motive_4:=fun _=>True) (motive_5:=fun _=>True) (motive_6:=fun _=>True) (motive_7:=fun _=>True) (motive_8:=fun _=>True)
  ?_ ?_ ?_ ?_ ?_ ?_ ?_ ?_ ?_ ?_ ?_ ?_ ?_ ?_ ?_ ?_ ?_ ?_ ?_ ?_ ?_ ?_ ?_ ?_ ?_ ?_ ?_ ?_ ?_ ?_ x
 ·intro y h p q e1 e2
  cases y <;> simp [toPy] at e1 e2 <;> (try subst e1) <;> (try subst e2) <;> first | (obtain ⟨ps,_,rfl⟩:=e2; simp [PyData.eqv]; done) | simp [PyData.eqv]
 ·intro b y h p q e1 e2
  cases y <;> simp [toPy] at e1 e2 <;> (try subst e1) <;> (try subst e2) <;> first | (simp [smk] at h; done) | (obtain ⟨ps,_,rfl⟩:=e2; simp [PyData.eqv]; done) | simp [PyData.eqv]
 ·intro b y h p q e1 e2
  cases y <;> simp [toPy] at e1 e2 <;> (try subst e1) <;> (try subst e2) <;> first | (simp [smk] at h; done) | (obtain ⟨ps,_,rfl⟩:=e2; simp [PyData.eqv]; done) | simp [PyData.eqv]
 ·intro b y h p q e1 e2
  cases y <;> simp [toPy] at e1 e2 <;> (try subst e1) <;> (try subst e2) <;> first | (obtain ⟨ps,_,rfl⟩:=e2; simp [PyData.eqv]; done) | simp [PyData.eqv]
 ·intro b y h p q e1 e2; simp [toPy] at e1
 ·intro xs ih y h p q e1 e2
  simp only [toPy,Option.map_eq_some_iff] at e1
  obtain ⟨ps,e3,rfl⟩:=e1
  cases y <;> simp [toPy] at e2 <;> (try subst e2) <;> first | (simp [PyData.eqv]; done) | (obtain ⟨qs,e4,rfl⟩:=e2; first | (simp [PyData.eqv]; done) | (simp only [smk] at h; simpa [PyData.eqv] using ih _ h ps qs e3 e4))
 ·intro xs ih y h p q e1 e2
  simp only [toPy,Option.map_eq_some_iff] at e1
  obtain ⟨ps,e3,rfl⟩:=e1
  cases y <;> simp [toPy] at e2 <;> (try subst e2) <;> first | (simp [PyData.eqv]; done) | (obtain ⟨qs,e4,rfl⟩:=e2; first | (simp [PyData.eqv]; done) | (simp only [smk] at h; simpa [PyData.eqv] using ih _ h ps qs e3 e4))
 ·intro b y h p q e1 e2; simp [toPy] at e1
 ·intro b ih y h p q e1 e2; simp [toPy] at e1
 ·intro c b ih y h p q e1 e2; simp [toPy] at e1
 ·intro b y h p q e1 e2; simp [toPy] at e1
 ·intro b y h p q e1 e2; simp [toPy] at e1
 ·intro b ih y h p q e1 e2; simp [toPy] at e1
 ·intro b ih y h p q e1 e2; simp [toPy] at e1
 ·intro c b ih y h p q e1 e2; simp [toPy] at e1
 ·intro b ih y h p q e1 e2; simp [toPy] at e1
 ·intro c b ih y h p q e1 e2; simp [toPy] at e1
 ·intro b ih y h p q e1 e2; simp [toPy] at e1
 ·intro y h p q e1 e2; simp [toPy] at e1
 ·intro ys h ps qs e1 e2
  simp at e1; subst e1
  cases ys with
  | nil=>simp at e2; subst e2; simp
  | cons y ys =>
   simp only [x_tpsC] at e2
   cases h1:toPy y with
   | none=>rw [h1] at e2; simp [consO] at e2
   | some b=>cases h2:toPys ys with
    | none=>rw [h1,h2] at e2; simp [consO] at e2
    | some bs=>rw [h1,h2] at e2; simp at e2; subst e2; simp
 ·intro d ds i1 i2 ys h ps qs e1 e2
  simp only [x_tpsC] at e1
  cases h1:toPy d with
  | none=>rw [h1] at e1; simp [consO] at e1
  | some a=>cases h2:toPys ds with
   | none=>rw [h1,h2] at e1; simp [consO] at e1
   | some as =>
    rw [h1,h2] at e1; simp at e1; subst e1
    cases ys with
    | nil=>simp at e2; subst e2; simp
    | cons y ys =>
     simp only [x_tpsC] at e2
     cases h3:toPy y with
     | none=>rw [h3] at e2; simp [consO] at e2
     | some b=>cases h4:toPys ys with
      | none=>rw [h3,h4] at e2; simp [consO] at e2
      | some bs =>
       rw [h3,h4] at e2; simp at e2; subst e2
       simp only [smks,Bool.and_eq_true] at h
       simp [i1 y h.1 a b h1 h3,i2 ys h.2 as bs h2 h4]
 all_goals (intros; trivial)
theorem okd_shaped {x:D}(h:okd 60 x=true):∃ p,toPy x=some p∧SeqAt.shaped p=true:=by
 obtain ⟨p,h1,h2,h3⟩:=okd_py x 60 h
 exact ⟨p,h1,by simp [h2]; omega⟩
theorem eqB_of {x y:D}{b:Bool}(hx:okd 60 x=true)(hy:okd 60 y=true)(h:smk x y=true)(hb:b=true↔x=y):eqB x y=some b:=by
 obtain ⟨p,h1,h2⟩:=okd_shaped hx
 obtain ⟨q,h3,h4⟩:=okd_shaped hy
 rw [x_eqB,h1,h3,x_pyB,h2,h4]
 have:=eqv_iff x y h p q h1 h3
 simp only [Bool.and_self,if_true,Option.some.injEq]
 cases b <;> cases e:PyData.eqv p q <;> simp_all
theorem eqF_of {x y:D}{b:Bool}(h:smk x y=true)(e:eqF x y=some b):b=true↔x=y:=by
 unfold eqF at e
 split at e <;> simp at e <;> subst e <;> simp
theorem eqD_of {x y:D}{b:Bool}(hx:okd 60 x=true)(hy:okd 60 y=true)(h:smk x y=true)(hb:b=true↔x=y):eqD x y=some (.val (.bl b)):=by
 unfold eqD orF
 cases e:eqF x y with
 | some c =>
  have:=eqF_of h e
  have:c=b:=by cases b <;> cases c <;> simp_all
  subst this
  simp [e]
 | none=>simp [eqD0,-x_eqB,eqB_of hx hy h hb,e]
theorem neD_of {x y:D}{b:Bool}(hx:okd 60 x=true)(hy:okd 60 y=true)(h:smk x y=true)(hb:b=true↔x=y):neD x y=some (.val (.bl (!b))):=by
 unfold neD orF
 cases e:eqF x y with
 | some c =>
  have:=eqF_of h e
  have:c=b:=by cases b <;> cases c <;> simp_all
  subst this
  simp [e]
 | none=>simp [neD0,-x_eqB,eqB_of hx hy h hb,e]
theorem eqD_t {x:D}(hx:okd 60 x=true):eqD x x=some (.val (.bl true)):=eqD_of hx hx (smk_self x) (by simp)
theorem neD_t {x:D}(hx:okd 60 x=true):neD x x=some (.val (.bl false)):=neD_of (b:=true) hx hx (smk_self x) (by simp)
theorem eqD_f {x y:D}(hx:okd 60 x=true)(hy:okd 60 y=true)(h:smk x y=true)(n:x≠y):eqD x y=some (.val (.bl false)):=eqD_of hx hy h (by simp [n])
theorem neD_f {x y:D}(hx:okd 60 x=true)(hy:okd 60 y=true)(h:smk x y=true)(n:x≠y):neD x y=some (.val (.bl true)):=neD_of (b:=false) hx hy h (by simp [n])
theorem anyB_of {x:D}{ys:List D}{b:Bool}(hx:okd 60 x=true)(hy:okds 59 ys=true)(h:∀ y∈ys,smk y x=true)(hb:b=true↔x∈ys):anyB (toPy x) (toPys ys)=some b:=by
 obtain ⟨p,h1,h2⟩:=okd_shaped hx
 have hl:okd 60 (.lst ys)=true:=by simpa using hy
 obtain ⟨q,h3,h4⟩:=okd_shaped hl
 simp only [x_tpL,Option.map_eq_some_iff] at h3
 obtain ⟨qs,h5,rfl⟩:=h3
 rw [h1,h5,x_anyB,h2,h4]
 have key:∀ (ys:List D) (qs:List PyData),toPys ys=some qs→(∀ y∈ys,smk y x=true)→((qs.any fun z=>PyData.eqv z p)=true↔x∈ys):=fun ys=>by
  induction ys with
  | nil=>intro qs e _; simp at e; subst e; simp
  | cons y ys ih =>
   intro qs e hs
   simp only [x_tpsC] at e
   cases g1:toPy y with
   | none=>rw [g1] at e; simp [consO] at e
   | some b=>cases g2:toPys ys with
    | none=>rw [g1,g2] at e; simp [consO] at e
    | some bs =>
     rw [g1,g2] at e; simp at e; subst e
     simp only [List.any_cons,Bool.or_eq_true,List.mem_cons]
     rw [eqv_iff y x (hs y (List.mem_cons_self ..)) b p g1 h1,ih bs g2 fun z hz=>hs z (List.mem_cons_of_mem _ hz)]
     exact or_congr eq_comm Iff.rfl
 have:=key ys qs h5 h
 simp only [Bool.and_self,if_true,Option.some.injEq]
 cases b <;> cases e:(qs.any fun z=>PyData.eqv z p) <;> simp_all
theorem Stp.outA {Γ:Gm}{ρ₀ ρ:Rho}{σ₀ σ:St}{F₀ H₀ F H:Hp}{a:Addr}{o:HO}(s:Stp Γ ρ₀ σ₀ F₀ H₀ ρ σ F H)(hu:¬ Γ.U a)(hF:F a=none)(no:¬ Own Γ ρ σ F H a)(hk:∀ u,H a=some u→okU u):Stp Γ ρ₀ σ₀ F₀ H₀ ρ σ F (upd H a o):=by
 have kp:∀ j b,OwnAt Γ ρ σ F H j b→∀ u,H b=some u→upd H a o b=some u:=fun j b ob u q=>by rw [upd_ne (fun z:b=a=>no (z▸⟨j,ob⟩))]; exact q
 have bk:∀ j c,OwnAt Γ ρ σ F (upd H a o) j c→OwnAt Γ ρ σ F H j c:=fun j c q=>own_back s.rel (Same.refl _) j (fun _ q=>q) rfl (kp j) q
 refine ⟨⟨fun b u q=>by rw [upd_ne (ne_of_none q hF)]; exact s.rel.sub b u q,fun i sl q=>slot_keep s.rel (Same.refl _) i q rfl (kp i),fun i j c h1 h2=>s.rel.inj i j c (bk i c h1) (bk j c h2),fun i c h=>s.rel.own i c (bk i c h),s.rel.len,s.rel.inv,fun c h=>?_,tab_upd s.rel.tab.on hk,s.rel.tab.off,s.rel.tab.fr⟩,s.subF,fun c h=>?_,fun b u q=>?_⟩
 ·obtain ⟨h1,u,h2⟩:=s.rel.ali c h
  exact ⟨h1,u,by rw [upd_ne (fun z:c=a=>hu (z▸h))]; exact h2⟩
 ·rw [upd_ne (fun z:c=a=>hu (z▸h))]; exact s.keep c h
 ·by_cases e:b=a
  ·subst e; exact ⟨o,upd_same⟩
  ·rw [upd_ne e]; exact s.there b u q
section
variable {X:Cx}{Γ:Gm}{W:WX}{o e:Expr}{es:List Expr}{mo:M}{ma:MA}{name:Str}{apos cpos:Pos}{T id:String}{r:V→List V→Hp→VK→Prop}
end
@[simp] theorem x_flatL {xs:List D}:flatD (.lst xs)=true:=rfl
abbrev MP:=Rho→Option D
section
variable {X:Cx}{Γ:Gm}{W:WX}{a b e:Expr}{ma mb:MP}{pos p2:Pos}
end
inductive VD where
 | f (d:D)
 | s (d:D)
def VD.d:VD→D
 | .f d=>d
 | .s d=>d
def VD.Rep (G:Gx)(F H:Hp)(v:V):VD→Prop
 | .f d=>Dp G F v d
 | .s d=>View G F H v d
theorem VD.Rep.view {G:Gx}{F H:Hp}{v:V}{x:VD}(h:x.Rep G F H v):View G F H v x.d:=by
 cases x with
 | f d=>exact .of h
 | s d=>exact h
theorem VD.Rep.mono {G:Gx}{F F' H:Hp}{v:V}{x:VD}(e:Same F F')(h:x.Rep G F H v):x.Rep G F' H v:=by
 cases x with
 | f d=>exact Dp.mono e h
 | s d=>exact View.mono e (Same.refl _) h
abbrev MV:=Rho→Option VD
section
variable {X:Cx}{Γ:Gm}{W:WX}{a b e:Expr}{ma mb:MP}{mv:MV}{pos p2 p3:Pos}
end
theorem Rel.kid {Γ:Gm}{ρ:Rho}{σ:St}{F H:Hp}{s:Nat}{b:Option Nat}{kvs:List (Key×D)}{k:Key}{c:D}(R:Rel Γ ρ σ F H)(q:ρ[s]?=some (some (.own b (.dctO kvs))))(g:gV k kvs=some (.kid c))(fl:flatD c=true) :
  ∃ a vs a',σ[s]?=some (some (.ref a))∧H a=some (.dK vs)∧gV k vs=some (.ref a')∧Cell Γ.G F H a' c ∧
   ∀ o c',Cell Γ.G F (L2.upd H a' o) a' c'→Stp Γ ρ σ F H (ρ.set s (some (.own b (.dctO (gP k (.kid c') kvs))))) σ F (L2.upd H a' o):=by
 obtain ⟨v,L,h1,a,rfl,ct,hb⟩:=R.slot s _ q
 have ct0:=ct
 cases ct with
 | flat z=>exact z.elim
 | dct h e t n =>
  rename_i vs L1
  obtain ⟨a',L',g1,ck,sb,bk⟩:=kdp_in (k:=k) ⟨e,t⟩ g
  obtain ⟨ce,rfl⟩:=ck.cell fl
  refine ⟨a,vs,a',h1,h,g1,ce,fun o c' cc=>?_⟩
  have hne:a'≠a:=by rintro rfl; exact n (sb _ (List.mem_cons_self ..))
  obtain ⟨e2,t2⟩:=bk (L2.upd H a' o) c' (fun x hx nx w hw=>by rw [upd_ne (by simpa using nx)]; exact hw) (.flat cc)
  refine R.chg q h1 ct0 (fun x hx w hw=>?_) (fun x w hw=>?_) (.dct (by rw [upd_ne hne.symm]; exact h) e2 t2 n) fun x hx=>.inl hx
  ·rw [upd_ne (show x≠a' by rintro rfl; exact hx (List.mem_cons_of_mem _ (sb _ (List.mem_cons_self ..))))]; exact hw
  ·by_cases z:x=a'
   ·subst z; exact ⟨o,upd_same⟩
   ·exact ⟨w,by rw [upd_ne z]; exact hw⟩
section
variable {X:Cx}{Γ:Gm}{W:WX}{k i e:Expr}{mk mi:MP}{me:M}{pos p1 p2 p3:Pos}
end
@[simp] theorem x_vdf {d:D}:(VD.f d).d=d:=rfl
@[simp] theorem x_vds {d:D}:(VD.s d).d=d:=rfl
@[simp] theorem x_dctIO {kvs:List (Key×D)}{k:D}:ixD (.dctO kvs) k=(keyD k).bind fun k=>(gV k kvs).bind fun d=>if isKid d then none else some (.val d):=by
 cases k <;> rfl
@[simp] theorem x_gVN {α:Type}[DecidableEq α]{k:α}:gV k ([]:List (α×D))=none:=rfl
theorem x_gVC {α:Type}[DecidableEq α]{k k':α}{v:D}{r:List (α×D)}:gV k ((k',v)::r)=if k'=k then some v else gV k r:=rfl
@[simp] theorem x_gPN {α:Type}[DecidableEq α]{k:α}{v:D}:gP k v ([]:List (α×D))=[(k,v)]:=rfl
theorem x_gPC {α:Type}[DecidableEq α]{k k':α}{v w:D}{r:List (α×D)}:gP k v ((k',w)::r)=if k'=k then (k',v)::r else (k',w)::gP k v r:=rfl
def itB:Bool→Heap→Addr→Addr→Nat→Prop
 | true,h,it,a,i=>h.IsListIter it a i
 | false,h,it,a,i=>h.IsTupleIter it a i
def seB:Bool→Heap→Addr→Array Value→Prop
 | true,h,a,xs=>h.IsList a xs
 | false,h,a,xs=>h.IsTuple a xs
theorem itB.there {k:Bool}{h:Heap}{it a:Addr}{i:Nat}(q:itB k h it a i):∃ o,h.get? it=some o∧∀ v,o.data≠.cell v:=by
 cases k <;> (obtain ⟨o,e,_,d⟩:=q; exact ⟨o,e,fun v z=>by rw [d] at z; cases z⟩)
theorem itB.at {k:Bool}{h h':Heap}{it a:Addr}{i:Nat}(q:itB k h it a i)(e:∀ o,h.get? it=some o→h'.get? it=some o):itB k h' it a i:=by
 cases k <;> (obtain ⟨o,e1,c,d⟩:=q; exact ⟨o,e _ e1,c,d⟩)
theorem seB.lt {k:Bool}{h:Heap}{a:Addr}{xs:Array Value}(q:seB k h a xs):a<h.objs.size:=by
 cases k <;> (obtain ⟨o,e,_⟩:=q; exact Heap.lt_size e)
section
variable {prog:Program}{w:World}{A:Around}{E:Value→Shared→Prop}{s:Shared}{z TI TO i1 i2:Addr}{fp1 fp2:List Addr}{n1 n2 i:Nat}{P1 P2:Nat→Value→Prop}{St1 St2:Nat→Heap→Prop}{a1 a2:Value}
end
section
variable {X:Cx}{Γ:Gm}{W:WX}{e tg:Expr}{m:M}{ma:MA}{pos p:Pos}
end
section
variable {X:Cx}{Γ:Gm}{W:WX}{i e:Expr}{mi:MP}{me:M}{T:Tab}{f:Str}{pos p1 p2 p3:Pos}
end
theorem tuple_mulOne (l:Addr)(items:Array Value)(n:Nat)(dd:Option Addr)(sl:Array (Option Value))(u:Tok) :
  Meets (Builtin.«tuple.__mul__» ⟨[.ref l,.int 1 u],[]⟩) (fun _ R s=>s.heap.get? l=some { cls:=.type "tuple",dict:=dd,data:=.seq items n,slots:=sl } ∧
   R (.ok (.ret (Value.ref l))) s) :=
 .of_wp fun prog w A R s h=>by
  obtain ⟨hp,g,d,tk,os⟩:=s
  obtain ⟨hl,h⟩:=h
  have f1:=AutoSeq1.idx_int
  have c1:(items.isEmpty||(1:Int)==1)=true:=by simp
  wp_walk using wpAny_loadPart' hl
  exact ⟨_,rfl,h⟩
def rRepT1 (K:PySem.W.Frag):R2:=fun x y H Q=>∃ l xs,x=.ref l∧y=.int 1∧SqT K H l xs∧Q (.ref l) H
theorem op_repT1 {X:Cx}:OpR X (binaryOp .Mult) (rRepT1 X.K):=by
 intro pins s σ H x y v u Q I rx ry h
 obtain ⟨l,xs,rfl,rfl,hT,q⟩:=h
 cases rx
 obtain ⟨t,rfl⟩:=ry
 obtain ⟨its,r,⟨⟨cls,dd,data,sl⟩,ho,hc,n,hd⟩,hs⟩:=I.tuple hT
 simp only at hc hd
 subst hc hd
 refine wpAny_binaryOp_repeat_ref (T := "tuple") (U := "int") (by decide) ⟨_,ho,rfl⟩ (fun s'=>typeIs_int s' 1 t) noFill_tuple_mul F.fills_int_mul F.slot_int_rmul repeat_tuple F.slot_int_index.lookup
  (call_meets F.slot_int_rmul (typeIs_int s 1 t) F.entry_int_rmul (F.args_int_rmul_2 _ _) (int_rmul_tuple 1 t l its.toArray n dd sl)
   ⟨ho,rfl,⟨_,ho,rfl⟩,call_meets F.slot_tuple_mul ⟨_,ho,rfl⟩ F.entry_tuple_mul (F.args_tuple_mul_2 _ _) (tuple_mulOne l its.toArray n dd sl t) ⟨ho,?_⟩⟩)
 exact ⟨.ref l,H,I,rfl,q⟩
def fRepT1:D→D→Option Res
 | .tup xs,.int 1=>some (.val (.tup xs))
 | _,_=>none
theorem repT1_ok {G:Gx}:BinOk G (rRepT1 G.K) fRepT1:=by
 intro F H x y dx dy res Q e vx vy q k
 unfold fRepT1 at q
 split at q
 ·cases q
  obtain ⟨a,vs,rfl,h1,t1⟩:=vx.tup e
  rcases vx with h | ⟨b,L,_,c⟩
  ·exact ⟨a,vs,rfl,vy.int,h1,k _ F H (.refl e) h⟩
  ·cases c with | flat c=>exact c.elim
 ·cases q
def mulE:D→D→Option Res:=orF mulD fRepT1
def rMulE (K:PySem.W.Frag):R2:=OrR (rMulD K) (rRepT1 K)
theorem mulE_ok {G:Gx}:BinOk G (rMulE G.K) mulE:=mulD_ok.or repT1_ok
theorem op_mulE {X:Cx}:OpR X (binaryOp .Mult) (rMulE X.K):=op_mulD.or op_repT1
theorem obsZ_eq {as:List Addr}{fa:List He.Fa}{fn:List He.DefD}{ex:PySem.W.Frag→Bool}{g:Addr→Option Obj}{s:Shared}(h:∀ a,g a=s.heap.get? a):obsZ as fa fn ex g=(hookZ as fa fn ex).obs s:=by
 have e:g=s.heap.get?:=funext h
 rw [e]; rfl
section
variable {prog:Program}{w:World}{A:Around}{E:Value→Shared→Prop}{s:Shared}{z TI TO T i1 i2:Addr}{fp1 fp2:List Addr}{n1 n2 i:Nat}{P1 P2:Nat→Value→Prop}{St1 St2:Nat→Heap→Prop}{f:Bool}{oT:Obj}
end
section
variable {X:Cx}{Γ:Gm}{W:WX}{ma:MA}{a b:Expr}{p p2 pos pos2:Pos}
end
def Gm.bet (Γ:Gm)(K:Nat)(a:Addr):Gm:={ Γ with β:=fun k=>if k=K then a else Γ.β k }
def noTag (K:Nat)(ρ:Rho):Prop:=∀ (i:Nat),(∀ d,ρ[i]?≠some (some (.own (some K) d)))∧ρ[i]?≠some (some (.exn (some K)))
section
variable {Γ:Gm}{K:Nat}{a:Addr}{ρ:Rho}{σ:St}{F H:Hp}
theorem bet_ne {k:Nat}(h:k≠K):(Γ.bet K a).β k=Γ.β k:=by simp [Gm.bet,h]
theorem slotOk_bet {v:V}{L:List Addr}{s:Slot}(h:(∀ d,s≠.own (some K) d)∧s≠.exn (some K)):SlotOk (Γ.bet K a) F H v L s↔SlotOk Γ F H v L s:=by
 cases s with
 | val d=>exact Iff.rfl
 | exn b =>
  cases b with
  | none=>exact Iff.rfl
  | some k =>
   show (v=.ref ((Γ.bet K a).β k)∧L=[])↔(v=.ref (Γ.β k)∧L=[])
   rw [bet_ne (fun z=>h.2 (by rw [z]))]
 | own b d =>
  constructor
  ·rintro ⟨c,e,ct,hb⟩
   exact ⟨c,e,ct,fun k hk=>by rw [hb k hk,bet_ne (fun z=>h.1 d (by rw [hk,z]))]⟩
  ·rintro ⟨c,e,ct,hb⟩
   exact ⟨c,e,ct,fun k hk=>by rw [hb k hk,bet_ne (fun z=>h.1 d (by rw [hk,z]))]⟩
theorem ownAt_bet (h:noTag K ρ){i:Nat}{c:Addr}:OwnAt (Γ.bet K a) ρ σ F H i c↔OwnAt Γ ρ σ F H i c :=
 ⟨fun ⟨s,v,L,h1,h2,h3,h4⟩=>⟨s,v,L,h1,h2,(slotOk_bet ⟨fun d z=>(h i).1 d (z▸h1),fun z=>(h i).2 (z▸h1)⟩).mp h3,h4⟩,fun ⟨s,v,L,h1,h2,h3,h4⟩=>⟨s,v,L,h1,h2,(slotOk_bet ⟨fun d z=>(h i).1 d (z▸h1),fun z=>(h i).2 (z▸h1)⟩).mpr h3,h4⟩⟩
theorem Rel.bet (R:Rel Γ ρ σ F H)(h:noTag K ρ):Rel (Γ.bet K a) ρ σ F H :=
 ⟨R.sub,fun i s q=>by obtain ⟨v,L,h1,h2⟩:=R.slot i s q; exact ⟨v,L,h1,(slotOk_bet ⟨fun d z=>(h i).1 d (z▸q),fun z=>(h i).2 (z▸q)⟩).mpr h2⟩,fun i j c h1 h2=>R.inj i j c ((ownAt_bet h).mp h1) ((ownAt_bet h).mp h2),fun i c q=>R.own i c ((ownAt_bet h).mp q),R.len,R.inv,R.ali,R.tab⟩
end
section
variable {Γ:Gm}{K:Nat}{a:Addr}{b:Option Nat}{ρ:Rho}{σ:St}{F H:Hp}
end
section
variable {X:Cx}{Γ:Gm}{W:WX}{iter tg:Expr}{g:TG}{f:Tg}{b:MS}{body:List Stmt}{pos:Pos}{K i:Nat}{a:Addr}
end
section
variable {X:Cx}{Γ:Gm}{W:WX}{tg:Expr}{g:TG}{f:Tg}{b:MS}{body:List Stmt}{pos p:Pos}{K i:Nat}{a:Addr}
end
def insI (x:Int):List Int→List Int
 | []=>[x]
 | y::ys=>if y<x then y::insI x ys else x::y::ys
def sortI:List Int→List Int
 | []=>[]
 | x::xs=>insI x (sortI xs)
theorem insI_perm (x:Int):∀ ys:List Int,(insI x ys).Perm (x::ys)
 | []=>.refl _
 | y::ys=>by
  unfold insI
  split
  ·exact ((insI_perm x ys).cons y).trans (.swap x y ys)
  ·exact .refl _
theorem sortI_perm:∀ xs:List Int,(sortI xs).Perm xs
 | []=>.refl _
 | x::xs=>(insI_perm x (sortI xs)).trans ((sortI_perm xs).cons x)
theorem insI_pw (x:Int):∀ ys:List Int,ys.Pairwise (·≤·)→(insI x ys).Pairwise (·≤·)
 | [],_=>by simp [insI]
 | y::ys,h=>by
  have h1:=List.pairwise_cons.mp h
  unfold insI
  split
  ·rename_i hl
   refine List.pairwise_cons.mpr ⟨fun z hz=>?_,insI_pw x ys h1.2⟩
   rcases List.mem_cons.mp ((insI_perm x ys).mem_iff.mp hz) with rfl | hz
   ·exact Int.le_of_lt hl
   ·exact h1.1 z hz
  ·rename_i hl
   refine List.pairwise_cons.mpr ⟨fun z hz=>?_,h⟩
   rcases List.mem_cons.mp hz with rfl | hz
   ·omega
   ·have:=h1.1 z hz; omega
theorem sortI_pw:∀ xs:List Int,(sortI xs).Pairwise (·≤·)
 | []=>.nil
 | x::xs=>insI_pw x _ (sortI_pw xs)
theorem sortI_is {xs ys:List Int}(p:ys.Perm xs)(h:ys.Pairwise (·≤·)):ys=sortI xs :=
 List.Perm.eq_of_pairwise (le:=(·≤·)) (fun _ _ _ _ h1 h2=>Int.le_antisymm h1 h2) h (sortI_pw xs) (p.trans (sortI_perm xs).symm)
theorem dpl_ints {G:Gx}{F:Hp}:∀ ss:List Int,DpL G F (ss.map V.int) (ss.map D.int)
 | []=>.nil
 | s::ss=>.cons (.int s) (dpl_ints ss)
def sortedID:List D→Option Res
 | [.lst xs]=>(intsD xs).map fun ss=>.new (.lst ((sortI ss).map .int))
 | _=>none
theorem sortedID_ok {G:Gx}:CallOk G (rSortedI G.K) sortedID:=by
 intro F H xs ds res Q e v q k
 unfold sortedID at q
 split at q
 ·rename_i ys
  obtain ⟨ss,e1,rfl⟩:=Option.map_eq_some_iff.mp q
  obtain ⟨x,rfl,vx⟩:=v.one
  obtain ⟨a,vs,rfl,h1,t⟩:=vx.lst e
  refine ⟨a,ss,rfl,by rw [← ints_ok t e1]; exact SqL.of h1,fun zs p hp hs hn=>?_⟩
  rw [sortI_is hp hs]
  exact k _ F _ (.cell e hn) ⟨p,rfl,Same.free e hn,⟨_,upd_same,dpl_ints _⟩,hn⟩
 ·cases q
def mxI:Int→List Int→Int
 | m,[]=>m
 | m,x::xs=>mxI (if m<x then x else m) xs
theorem mxI_mem:∀ (xs:List Int) (m:Int),mxI m xs∈m::xs
 | [],m=>by simp [mxI]
 | x::xs,m=>by
  have:=mxI_mem xs (if m<x then x else m)
  unfold mxI
  rcases List.mem_cons.mp this with h | h
  ·rw [h]; split <;> simp
  ·exact List.mem_cons_of_mem _ (List.mem_cons_of_mem _ h)
theorem mxI_le:∀ (xs:List Int) (m:Int),m≤mxI m xs∧∀ y∈xs,y≤mxI m xs
 | [],m=>by simp [mxI]
 | x::xs,m=>by
  obtain ⟨h1,h2⟩:=mxI_le xs (if m<x then x else m)
  unfold mxI
  refine ⟨?_,fun y hy=>?_⟩
  ·split at h1 <;> rename_i c
   ·rw [if_pos c]; omega
   ·rw [if_neg c]; omega
  ·rcases List.mem_cons.mp hy with rfl | hy
   ·split at h1 <;> rename_i c
    ·rw [if_pos c]; omega
    ·rw [if_neg c]; omega
   ·exact h2 y hy
def maxLD:List D→Option Res
 | [.lst xs]=>match intsD xs with
  | some (x::xs)=>some (.val (.int (mxI x xs)))
  | _=>none
 | _=>none
theorem maxLD_ok {G:Gx}:CallOk G (rMax G.K) maxLD:=by
 intro F H xs ds res Q e v q k
 unfold maxLD at q
 split at q
 ·rename_i ys
  split at q
  ·rename_i m ms e1
   cases q
   obtain ⟨x,rfl,vx⟩:=v.one
   obtain ⟨a,vs,rfl,h1,t⟩:=vx.lst e
   refine ⟨a,m::ms,rfl,by rw [← ints_ok t e1]; exact SqL.of h1,by simp,fun z hz hle=>?_⟩
   obtain ⟨g1,g2⟩:=mxI_le ms m
   have gm:=mxI_mem ms m
   have:z=mxI m ms:=Int.le_antisymm (by rcases List.mem_cons.mp hz with rfl | hz; exact g1; exact g2 z hz) (hle _ gm)
   subst this
   exact k _ F H (.refl e) (.int _)
  ·cases q
 ·cases q
theorem for_step {f:Tg}{b:MS}{d:D}{ds:List D}{ρ ρ1 ρ2:Rho}{R:SOut}(g:f d ρ=some ρ1)(st:b ρ1=.nx ρ2)(r:forD f b ds ρ2=R):forD f b (d::ds) ρ=R:=by rw [x_forC,g,x_optS,st,x_loopSn,r]
def rgR2 (o:Option (List D))(ρ:Rho):Out (List D):=match o with
 | some [.int i,.int j]=>if (decide (-(2 ^ 62)≤i)&&decide (i<2 ^ 62))&&(decide (-(2 ^ 62)≤j)&&decide (j<2 ^ 62)) then .ok (rangeD i (j-i).toNat) ρ else .stuck
 | _=>.stuck
@[simp] theorem x_rgR2 {i j:Int}{ρ:Rho}:rgR2 (some [.int i,.int j]) ρ=if (decide (-(2 ^ 62)≤i)&&decide (i<2 ^ 62))&&(decide (-(2 ^ 62)≤j)&&decide (j<2 ^ 62)) then .ok (rangeD i (j-i).toNat) ρ else .stuck:=rfl
@[simp] theorem x_iRange2 {ma:MA}{ρ:Rho}:iRange2 ma ρ=bindO (ma ρ) fun rs ρ1=>rgR2 (resolves ρ1 rs) ρ1:=rfl
theorem lc_fm {α:Type}{vs:List Nat}{f:Tg}{t:MB}{me:M}{ρ:Rho}(dm g:α→D)(p:α→Bool):∀ (as:List α) (acc:List D),(∀ a∈as,∃ ρ1,f (dm a) ρ=some ρ1∧t ρ1=.ok (p a) ρ1∧wipeR ρ1 vs=ρ∧(p a=true→∃ r,me ρ1=.ok r ρ1∧r.frz=.val (g a)))→acc.length+as.length≤sizeLine →
  lcD vs f t me (as.map dm) acc ρ=.ok (acc++(as.filter p).map g) ρ
 | [],acc,_,_=>by simp
 | a::as,acc,h,hl=>by
  obtain ⟨ρ1,h1,h2,h5,h6⟩:=h a (List.mem_cons_self ..)
  have hl':acc.length<sizeLine:=by simp only [List.length_cons] at hl; omega
  rw [List.map_cons,x_lcC,h1]
  simp only [x_optO,h2,x_bindN]
  cases hp:p a with
  | true =>
   obtain ⟨r,h3,h4⟩:=h6 hp
   simp only [if_true,h3,h4,x_setV,hl',h5,x_bindN,x_optO]
   rw [lc_fm dm g p as (acc++[g a]) (fun d hd=>h d (List.mem_cons_of_mem _ hd)) (by simp only [List.length_append,List.length_cons,List.length_nil] at hl ⊢; omega)]
   simp [hp]
  | false =>
   simp only [Bool.false_eq_true,if_false,h5]
   rw [lc_fm dm g p as acc (fun d hd=>h d (List.mem_cons_of_mem _ hd)) (by simp only [List.length_cons] at hl; omega)]
   simp [hp]
def argR:Res→Arg
 | .val d=>.v d
 | .new d=>.o d
 | .at _=>.v .non
theorem RepM.arel {G:Gx}{F H:Hp}:∀ {vs:List V} {rs:List Res} {Ls:List Addr},RepM G F H vs rs Ls→ARel G F H vs (rs.map argR) Ls
 | _,_,_,.nil=>.nil
 | _,_,_,.val h t=>.v h t.arel
 | _,_,_,.new c dj t=>.o c dj t.arel
theorem RepN.len {Γ:Gm}{σ:St}{ρ:Rho}{F H:Hp}:∀ {vs:List V} {rs:List Res} {Ls:List Addr},RepN Γ σ ρ F H vs rs Ls→vs.length=rs.length
 | _,_,_,.nil=>rfl
 | _,_,_,.val _ t=>by simp [t.len]
 | _,_,_,.at _ t=>by simp [t.len]
 | _,_,_,.new _ _ _ t=>by simp [t.len]
theorem Post.bindN {Γ:Gm}{W:WX}{o:Out (List Res)}{k:List Res→Rho→Out Res}{ρ:Rho}{σ:St}{F H:Hp}{Q:VK}{Q1:List V→Hp→Prop}(h:Post Γ W (bindO o k) ρ σ F H Q)
  (hk:∀ r ρ1 v F1 H1 Ls,Stp Γ ρ σ F H ρ1 σ F1 H1→RepN Γ σ ρ1 F1 H1 v r Ls→Post Γ W (k r ρ1) ρ1 σ F1 H1 Q→Q1 v H1):PostN Γ W o ρ σ F H Q1:=by
 cases o with
 | ok r ρ'=>exact fun v F' H' Ls s q=>hk r ρ' v F' H' Ls s q (h.shift s)
 | exc x ρ'=>exact h
 | stuck=>exact h
section
variable {X:Cx}{Γ:Gm}{W:WX}{e:Expr}{ma:MA}{pos p:Pos}{es:List Expr}{x:Str}{k:Nat}{ps:List Str}{n:Nat}{g:Fn}
end
@[simp] theorem x_argRv {d:D}:argR (.val d)=.v d:=rfl
@[simp] theorem x_argRn {d:D}:argR (.new d)=.o d:=rfl
section
variable {X:Cx}{a b c d:Expr}{ta tb tc td:TE}{pos:Pos}
end
section
variable {X:Cx}{Γ:Gm}{W:WX}{a b c d:Expr}{ma mb mc md:M}{pos:Pos}
end
theorem DpK.mem {G:Gx}{F:Hp}{p:Key×V}:∀ {vs:List (Key×V)} {ds:List (Key×D)},DpK G F vs ds→p∈vs→∃ d,(p.1,d)∈ds∧Dp G F p.2 d
 | _,_,.nil,h=>by cases h
 | _,_,.cons (d:=d) hd t,h=>by
  rcases List.mem_cons.mp h with rfl | h
  ·exact ⟨d,List.mem_cons_self ..,hd⟩
  ·obtain ⟨d',h1,h2⟩:=DpK.mem t h
   exact ⟨d',List.mem_cons_of_mem _ h1,h2⟩
abbrev Gk (Γ:Gm)(d:Addr)(kvs:List (Key×D)):Gm:={ Γ with x:=d,J:=fun F=>∃ od kv,F d=some (.frz od (.dK kv))∧DpK Γ.G F kv kvs,Jm:=fun F F' e ⟨od,kv,h1,h2⟩=>⟨od,kv,e _ _ h1,h2.mono e⟩ }
section
variable {Γ:Gm}{ρ ρ':Rho}{σ σ':St}{F H F' H':Hp}{d:Addr}{kvs:List (Key×D)}
theorem own_gk {i:Nat}{c:Addr}:OwnAt (Gk Γ d kvs) ρ σ F H i c↔OwnAt Γ ρ σ F H i c:=by
 constructor
 ·rintro ⟨s,v,L,h1,h2,h3,h4⟩
  cases s with
  | val d=>rw [h3.2] at h4; cases h4
  | exn b=>cases b <;> (rw [h3.2] at h4; cases h4)
  | own b d=>exact ⟨_,v,L,h1,h2,h3,h4⟩
 ·rintro ⟨s,v,L,h1,h2,h3,h4⟩
  cases s with
  | val d=>rw [h3.2] at h4; cases h4
  | exn b=>cases b <;> (rw [h3.2] at h4; cases h4)
  | own b d=>exact ⟨_,v,L,h1,h2,h3,h4⟩
theorem Rel.lk (R:Rel Γ ρ σ F H)(n:noExn ρ=true)(q:∃ od kv,F d=some (.frz od (.dK kv))∧DpK Γ.G F kv kvs):Rel (Gk Γ d kvs) ρ σ F H :=
 ⟨R.sub,fun i s h=>by
  obtain ⟨v,L,h1,h2⟩:=R.slot i s h
  refine ⟨v,L,h1,?_⟩
  cases s with
  | val d=>exact h2
  | own b d=>exact h2
  | exn b=>cases b with
   | none=>exact absurd h (noExn_at n)
   | some k=>exact h2,fun i j c h1 h2=>R.inj i j c (own_gk.mp h1) (own_gk.mp h2),fun i c h=>R.own i c (own_gk.mp h),R.len,q,R.ali,R.tab⟩
end
section
variable {X:Cx}{Γ:Gm}{W:WX}{elt tg e:Expr}{ifs:List Expr}{scope:Scope}{own:List (Str×Nat)}{pos spos:Pos}{mk:M}{g:TG}{f:Tg}{t:List (Key×D)→MB}{me:List (Key×D)→M}{kvs:List (Key×D)}
end
end PyD
namespace HT
open PySem PyProof.Rows
section
variable {prog:Program}{w:World}{A:Around}{E:Value→Shared→Prop}{s:Shared}
end
end HT
namespace PyD
open PySem PySem.Spec PyProof.Rows L2
structure CSta (K:PySem.W.Frag)(C:Addr)(mc:Value)(m:Str)(p g:Addr):Prop where
 at_:PySem.W.findCls K (.ref C) mc m=some (.get (.builtin "staticmethod.__get__") (.ref p) .none (.ref C))
 rc:∃ rest,PySem.W.recIn K p "staticmethod"=some (.ref g::rest)
 kp:PySem.W.keepIn K (.ref g)=true
structure SmFact (P:Program)(w:World)(K:PySem.W.Frag)(mg:Str→Option Value)(base:Heap)(G:Gx)(Θ:List NdefX.NTab)(x m:Str)(n k:Nat)(ps:List Str)(f:Fn):Prop where
 ex:∃ C p g fd mc,mg x=some (.ref C)∧ClX.CRead K C mc∧CSta K C mc m p g∧Binds K fd ps []∧FnOkG P w K mg base k g fd ps (spF G Θ n f)
section
variable {X:Cx}{Γ:Gm}{W:WX}{e:Expr}{es:List Expr}{ma:MA}{pos apos p:Pos}{x m:Str}{k n:Nat}{ps:List Str}{mk:List Bool}{f:Fn}
end
def StaOk (fn2:List He5.DefA)(K:PySem.W.Frag):Prop:=(fn2.all fun d=>d.ok K)=true∧(fn2.map fun d=>He5.fnA K (d.at_ K))=fn2.map He5.DefA.val
theorem StaOk.def_ {fn:List He5.DefA}{K:PySem.W.Frag}(c:StaOk fn K)(i:Nat){d:He5.DefA}(h:fn[i]?=some d:=by rfl):∃ fd,L2.FunD K d.name d.qual d.params d.body d.scope (d.dvs K) (d.kws K) (d.at_ K) fd:=by
 have e2:(fn.map fun d=>He5.fnA K (d.at_ K))[i]?=(fn.map He5.DefA.val)[i]?:=by rw [c.2]
 rw [List.getElem?_map,List.getElem?_map,h] at e2
 exact He5.DefA.funD (Option.some.inj e2) (List.all_eq_true.mp c.1 d (List.mem_of_getElem? h))
end PyD
namespace PyD
open PySem PySem.Spec PyProof.Rows L2 L2H
theorem roomH_in1 {k:Nat}{A:Around}(r:RoomH (k+1) A):RoomH k A.in1:=⟨by have:=r.dp; show A.depth+3 * k+5<_; omega,by have:=r.un; show A.units+1+16 * k+200<_; omega⟩
structure FnZ (P:Program)(w:World)(K:PySem.W.Frag)(mg:Str→Option Value)(base:Heap)(CX:CXT)(k:Nat)(f:Addr)(fd:FuncData)(ps:List Str)(sp:Sp):Prop where
 len:∀ vs H Q E,sp vs H Q E→vs.length=ps.length
 run:∀ (A:Around) (outer:List Env) (s:Shared) (H:Hp) (args:Args) (us:List Value) (vs:List V) (Q:VK) (E:XK),RoomH k A→Env0 P w K mg base A outer s H→BindsTo s fd args (ps.zip us)→Vals vs us→sp vs H Q E →
  codeAny (model P w) A (.call (.ref f) args) (CR CX outer P w H s Q E) s
structure SubH (X:Cx)(n:Nat)(A:Around):Prop where
 room:RoomH n A
 fr:A.frames=X.A.frames
theorem SubH.in1 {X:Cx}{n:Nat}{A:Around}(s:SubH X (n+1) A):SubH X n A.in1:=⟨roomH_in1 s.room,s.fr⟩
theorem SubH.mono {X:Cx}{n m:Nat}{A:Around}(s:SubH X n A)(h:m≤n):SubH X m A:=⟨s.room.mono h,s.fr⟩
structure EqFactH (P:Program)(w:World)(K:PySem.W.Frag)(mg:Str→Option Value)(base:Heap)(G:Gx)(c k:Nat)(f:Fn):Prop where
 ex:∃ g fd ps,PySem.W.findIn K (.ref (G.cl c)) "__eq__"=some (some (.ref g))∧PySem.W.isFn K (.ref g)=true∧Binds K fd ps []∧FnZ P w K mg base (L2.CX P w) k g fd ps (spF G [] 2 f)
 ne:PySem.W.findIn K (.ref (G.cl c)) "__ne__"=some (some (.builtin "object.__ne__"))
 mo:PySem.W.mroIn K (G.cl c) (.type "object")=some true
 nfB:∀ t∈baseT,PySem.W.notFirst K (G.cl c) (.type t)=true
section
variable {X:Cx}{G:Gx}{T:Tab}{E:Nat→Option Fn}{k:Nat}
def RcSH (X:Cx)(G:Gx)(n:Nat)(neg:Bool)(e:D→D→Option Bool):Prop:=∀ (A:Around) (pins:List (Addr×Obj)) (s:Shared) (σ:St) (F H:Hp) (x y:V) (u v:Value) (dx dy:D) (b:Bool),SubH X n A→Inv X pins σ H s→RelV x u→RelV y v→Same F H→Dp G F x dx→Dp G F y dy→e dx dy=some b →
 wpAny (model X.prog X.w) A (richCompare (if neg then .NotEq else .Eq) u v) (fun r s'=>r=.bool (neg != b)∧∃ F' H',Inv X pins σ H' s'∧Alc F H F' H') X.xe s
end
section
variable {X:Cx}{G:Gx}{k:Nat}
theorem RcSH.or {n:Nat}{neg:Bool}{e e':D→D→Option Bool}(h:RcSH X G n neg e)(h':RcSH X G n neg e'):RcSH X G n neg (orE e e'):=fun A pins s σ F H x y u v dx dy b sb I rx ry eS hx hy q=>by
 unfold orE at q
 split at q
 ·rename_i b' w; cases q; exact h A pins s σ F H x y u v dx dy _ sb I rx ry eS hx hy w
 ·exact h' A pins s σ F H x y u v dx dy b sb I rx ry eS hx hy q
theorem RcSH.mono {n m:Nat}{neg:Bool}{e:D→D→Option Bool}(h:RcSH X G n neg e)(hn:n≤m):RcSH X G m neg e:=fun A pins s σ F H x y u v dx dy b sb=>h A pins s σ F H x y u v dx dy b (sb.mono hn)
end
section
variable {P:Program}{w:World}{K:PySem.W.Frag}{mg:Str→Option Value}{base:Heap}{G:Gx}{T:Tab}{c k j:Nat}{f:Fn}{g:Addr}{fd:FuncData}{ps:List Str}{l:List (Nat×Fn)}{sp:Sp}
end
structure MtwFact (P:Program)(w:World)(K:PySem.W.Frag)(mg:Str→Option Value)(base:Heap)(G:Gx)(Θ:List NdefX.NTab)(c:Nat)(m:Str)(np k:Nat)(n:Nat)(ks:List Str)(q:List Nat)(dds:List D)(g:Fn):Prop where
 ex:∃ f fd ps dvs,Meth K (G.cl c) m f∧Ways K fd ps (n+1) ks dvs (0::q.map (·+1))∧Dfl G dvs dds∧FnOkG P w K mg base k f fd ps (spF G Θ np g)
section
variable {X:Cx}{Γ:Gm}{W:WX}{o e:Expr}{es:List Expr}{kws:List Keyword}{mo:M}{ma mz:MA}{pos apos:Pos}{m:Str}{c n k np nk:Nat}{ks:List Str}{pl':List Nat}{dds:List D}{mk:List Bool}{g:Fn}
end
structure SmwFact (P:Program)(w:World)(K:PySem.W.Frag)(mg:Str→Option Value)(base:Heap)(G:Gx)(Θ:List NdefX.NTab)(x m:Str)(np k n:Nat)(ks:List Str)(p:List Nat)(dds:List D)(f:Fn):Prop where
 ex:∃ C r g fd mc ps dvs,mg x=some (.ref C)∧ClX.CRead K C mc∧CSta K C mc m r g∧Ways K fd ps n ks dvs p∧Dfl G dvs dds∧FnOkG P w K mg base k g fd ps (spF G Θ np f)
section
variable {X:Cx}{Γ:Gm}{W:WX}{kws:List Keyword}{mz:MA}{pos apos p:Pos}{x m:Str}{k np nk:Nat}{ks:List Str}{pl':List Nat}{dds:List D}{mk:List Bool}{f:Fn}
end
section
variable {prog:Program}{w:World}{A:Around}{E:Value→Shared→Prop}{s:Shared}{z TI TO i1 i2 i3:Addr}{fp1 fp2 fp3:List Addr}{n1 n2 n3 i:Nat}{P1 P2 P3:Nat→Value→Prop}{St1 St2 St3:Nat→Heap→Prop}{a1 a2 a3:Value}
end
section
variable {X:Cx}{Γ:Gm}{W:WX}{e tg:Expr}{m:M}{ma:MA}{pos p:Pos}
end
section
variable {X:Cx}{Γ:Gm}{W:WX}{e:Expr}{ma:MA}{pos p p1 p2:Pos}{jj}
end
section
variable {X:Cx}{Γ:Gm}{W:WX}{tg:Expr}{ma:MA}{pos p:Pos}
end
theorem View.dn {G:Gx}{F H:Hp}{v:V}{kds:List (D×D)}(s:Same F H)(h:View G F H v (.dctN kds)):∃ a kvs,v=.ref a∧DnA G.P G.w H a kvs∧DpN G F kvs kds:=by
 rcases h with h | ⟨a,L,e,c⟩
 ·cases h with | dctN h t=>exact ⟨_,_,rfl,h.mono fun o q=>s _ _ q,t⟩
 ·cases c with | flat c=>obtain ⟨vs,c,t⟩:=c; exact ⟨a,vs,e,.inl c,t⟩
structure Pw (X:Cx)(G:Gx):Prop where
 K:X.K=G.K
 P:X.prog=G.P
 w:X.w=G.w
section
variable {X:Cx}{Γ:Gm}{W:WX}{a b e o i:Expr}{ma mb me mo mi:M}{pos pos' p1 p2 p3 apos cpos:Pos}
end
section
variable {X:Cx}{Γ:Gm}{W:WX}{pos:Pos}{k v:Expr}{mk mv:M}
end
section
variable {X:Cx}{Γ:Gm}{W:WX}{T:Tab}{name:Str}{p1 p2 p3 apos cpos:Pos}{t id:String}{r:V→List V→Hp→VK→Prop}
end
def pairV:List V→List (V×V)
 | k::v::r=>(k,v)::pairV r
 | _=>[]
structure JQ (X:Cx)(Γ:Gm)(W:WX)(pos:Pos)(keys:List (Option Expr))(values:List Expr)(ma:MA):Prop where
 ex:∃ trs,PPs X pos keys values trs∧∀ D σ H Q,tMA (Γ.also D) W ma σ H (fun vs H'=>Q (pairV vs) H')→tPairs trs σ H Q
section
variable {X:Cx}{Γ:Gm}{W:WX}{pos:Pos}{keys:List (Option Expr)}{values:List Expr}{ma:MA}{k v:Expr}{mk mv:M}
end
end PyD
namespace PySem
namespace KeyX
open Builtin Builtin.ObjectAttr HandSPX
section
variable {M:Model}{A:Around}{E:Value→Shared→Prop}{hp:Heap}{g:Array GenState}{dr:Drawn}{tk:Nat}{os:OsState}
variable {B newId initId:String}{bmB tl:List Value}{nm qn:Str}{C N:Addr}{bs bm:List Value}{hd:Bool}{sn:List Str}{sb:List Value}{ab:Bool}{co:Option Bool}{da:Option Addr}{k0 k1 k2 k3 k5:Option Value}
end
section
variable {prog:Program}{w:World}{A:Around}{E:Value→Shared→Prop}{R:Result→Shared→Prop}{hp:Heap}{g:Array GenState}{dr:Drawn}{tk:Nat}{os:OsState}
variable {B newId initId:String}{bmB tl:List Value}{nm qn:Str}{C N:Addr}{bs bm:List Value}{hd:Bool}{sn:List Str}{sb:List Value}{ab:Bool}{co:Option Bool}{da:Option Addr}{k0 k1 k2 k3 k5:Option Value}
end
end KeyX
end PySem
namespace PyD
open PySem PySem.Spec PyProof.Rows L2
structure EBw (newId:String)(tl:List Value):Prop where
 made:∀ {prog:Program} {w:World} {A:Around} {R:Result→Shared→Prop} {hp:Heap} {g:Array GenState} {dr:Drawn} {tk:Nat} {os:OsState}
  {nm qn:Str} {C N:Addr} {bs bm:List Value} {hd:Bool} {sn:List Str} {sb:List Value} {ab:Bool} {co:Option Bool} {da:Option Addr} {k0 k1 k2 k3 k5:Option Value} {us:List Value} {kw:List (Str×Value)} {fI:Addr},
  (∀ X:String,bm.contains (.type X)=tl.contains (.type X))→hp.get? C=some (excClassObj nm qn C N bs bm hd sn sb ab co da k0 k1 k2 k3 k5 newId) →
  PySem.W.Looks (model prog w) hp (typeLookup (.ref C) "__init__") (some (.ref fI))→(∀ self,PySem.W.Looks (model prog w) hp (bindSpecial (.ref fI) self) (.ref fI,[self]))→us.length≤sizeLine →
  codeAny (model prog w) (A.under (.builtin "type.__call__" ⟨.ref C::us,kw⟩)) (.call (.ref fI) ⟨.ref (hp.objs.size+1)::us,kw⟩) (PySem.W.InitBack (hp.objs.size+1) R)
   ⟨(hp.push (PySem.W.kdv_tup us)).push (PySem.HandSPX.excO C hp.objs.size),g,dr,tk,os⟩→codeAny (model prog w) A (.call (.ref C) ⟨us,kw⟩) R ⟨hp,g,dr,tk,os⟩
def w0:World:=⟨fun _ _=>0,{ strHash:=fun _=>0,shareClass:=fun _=>0,mergeTok:=fun t=>t,idOf:=fun _=>0,idOfShared:=fun _ _=>0,followText:=fun _=>false,idOfImm:=fun _=>0 }⟩
structure XcwFact (P:Program)(w:World)(K:PySem.W.Frag)(mg:Str→Option Value)(base:Heap)(G:Gx)(x:Str)(c k:Nat)(f:Str)(n:Nat)(ks:List Str):Prop where
 ex:∃ tl newId fI fd ps,EBw newId tl∧XC K (G.cl c) tl newId∧PySem.W.findIn K (.ref (G.cl c)) f=some none∧mg x=some (.ref (G.cl c))∧PySem.W.findIn K (.ref (G.cl c)) "__init__"=some (some (.ref fI)) ∧
  PySem.W.typeIn K (.ref fI)=some (.type "function")∧Ways K fd ps (n+1) ks [] [0,1]∧FnOkG P w K mg base k fI fd ps (spX K tl newId f)
section
variable {X:Cx}{Γ:Gm}{W:WX}{e:Expr}{ma:MA}{x f:Str}{c k:Nat}{ks:List Str}{kws:List Keyword}{p pos:Pos}
end
end PyD
namespace PyD
open PySem PySem.Spec PyProof.Rows L2 LamX NdefX
theorem among_keep {pos:Pos}{cv:Value}(l more:List Value)(h:TriplesOk l)(hc:codeAmong pos l=some cv):codeAmong pos (l++more)=some cv:=by
 fun_induction TriplesOk l with
 | case1=>simp [codeAmong] at hc
 | case2 a t b u x rest ih =>
  simp only [List.cons_append,codeAmong] at hc ⊢
  split at hc
  ·rename_i q; rw [if_pos q]; exact hc
  ·rename_i q; rw [if_neg q]; exact ih h hc
 | case3 l h1 h2=>exact h.elim
abbrev lamF (qual:Str)(params:Arguments)(scope:Scope)(cl:List (Str×Addr))(c:Addr):NF:=⟨"<lambda>",qual,params,[],scope,cl,c⟩
def LamAt (h:Heap)(f:Addr)(F:NF)(body:Expr):Prop:=∃ (pm ctv:Value) (sl:Array (Option Value)),h.get? f=some { PySem.W.kla_obj "<lambda>" F.qual F.params body F.scope F.cl pm F.c ctv with slots:=sl }
section
variable {X:Cx}{pins:List (Addr×Obj)}{σ:L2.St}{H:Hp}{s:Shared}
structure Made (X:Cx)(s s':Shared)(H H1:Hp)(P:Addr)(pos:Pos)(f:Addr)(F:NF)(body:Expr):Prop where
 heap:∀ b o,b≠P→s.heap.get? b=some o→s'.heap.get? b=some o
 grow:∀ b ps,H b=some (.tbl ps)→∃ more,H1 b=some (.tbl (ps++more))
 ext:∀ b o,b≠P→H b=some o→H1 b=some o
 obj:LamAt s'.heap f F body
 none_:H1 f=none
 tab:∃ ps,H1 P=some (.tbl ps)∧TriplesOk ps.toList∧codeAmong pos ps.toList=some (.ref F.c)
 back:∀ b,H1 b=none→H b=none
 fresh:∀ b o,H b=none→H1 b=some o→s.heap.objs.size≤b
end
inductive CapR (G:Gx)(F:Hp):List (Option V)→List (Option D)→Prop
 | nil:CapR G F [] []
 | un {o:Option V} {ws:List (Option V)} {cs:List (Option D)}:CapR G F ws cs→CapR G F (o::ws) (none::cs)
 | cap {v:V} {d:D} {ws:List (Option V)} {cs:List (Option D)}:Dp G F v d→CapR G F ws cs→CapR G F (some v::ws) (some d::cs)
theorem CapR.mono {G:Gx}{F F':Hp}(e:Same F F'):∀ {ws:List (Option V)} {cs:List (Option D)},CapR G F ws cs→CapR G F' ws cs
 | _,_,.nil=>.nil
 | _,_,.un t=>.un (t.mono e)
 | _,_,.cap h t=>.cap (h.mono e) (t.mono e)
theorem CapR.len {G:Gx}{F:Hp}:∀ {ws:List (Option V)} {cs:List (Option D)},CapR G F ws cs→ws.length=cs.length
 | _,_,.nil=>rfl
 | _,_,.un t=>by simp [t.len]
 | _,_,.cap _ t=>by simp [t.len]
theorem CapR.get {G:Gx}{F:Hp}:∀ {ws:List (Option V)} {cs:List (Option D)} {i:Nat} {d:D},CapR G F ws cs→cs[i]?=some (some d)→∃ v,ws[i]?=some (some v)∧Dp G F v d
 | _,_,_,_,.nil,e=>by simp at e
 | _,_,0,_,.un t,e=>by simp at e
 | _,_,0,_,.cap h t,e=>by simp at e; subst e; exact ⟨_,rfl,h⟩
 | _,_,i+1,d,.un t,e=>by obtain ⟨v,h1,h2⟩:=t.get (i:=i) (d:=d) (by simpa using e); exact ⟨v,by simpa using h1,h2⟩
 | _,_,i+1,d,.cap h t,e=>by obtain ⟨v,h1,h2⟩:=t.get (i:=i) (d:=d) (by simpa using e); exact ⟨v,by simpa using h1,h2⟩
abbrev LFn:=List (Option D)→List D→FOut
def spL (G:Gx)(T:List NTab)(n:Nat)(f:LFn):List (Option V)→Sp:=fun ws vs H Q E=>vs.length=n∧∃ F U cs ds,Same F H∧CapR G F ws cs∧DpL G F vs ds∧Ali T U F H∧match f cs ds with
 | .ret r _=>∀ v F' H',CStp T U F H F' H'→RepRet G U [] F' H' v r→Q v H'
 | .exc x _=>∀ d F' H',CStp T U F H F' H'→ExcRep G F' H' x d→E (ecV G x.c) d H'
 | .stuck=>False
structure LOk (P:Program)(w:World)(K:PySem.W.Frag)(mg:Str→Option Value)(base:Heap)(k:Nat)(qual:Str)(params:Arguments)(body:Expr)(scope:Scope)(ps fr:List Str)(sp:List (Option V)→Sp):Prop where
 run:∀ (A:Around) (outer:List Env) (s:Shared) (H:Hp) (us:List Value) (vs:List V) (ws:List (Option V)) (Q:VK) (E:XK) (f c:Addr) (cl:List (Str×Addr)),RG k A→Env0 P w K mg base A outer s H→LamAt s.heap f (lamF qual params scope cl c) body→s.heap.CodeRec (.ref c) qual →
  CellsAt cl fr ws s.heap H→Vals vs us→sp ws vs H Q E→codeAny (model P w) A (.call (.ref f) ⟨us,[]⟩) (CR (L2.CX P w) outer P w H s Q E) s
section
variable {P:Program}{w:World}{K:PySem.W.Frag}{mg:Str→Option Value}{base:Heap}{N ps fr:List Str}{k j:Nat}{sp:List (Option V)→Sp}{qual:Str}{params:Arguments}{body:Expr}{scope:Scope}
theorem LOk.mono (o:LOk P w K mg base j qual params body scope ps fr sp)(h:j≤k):LOk P w K mg base k qual params body scope ps fr sp :=
 ⟨fun A outer s H us vs ws Q E f c cl hr=>o.run A outer s H us vs ws Q E f c cl (hr.mono h)⟩
end
def cbOut (o:FOut)(ρ:Rho):Out Res:=match o with
 | .ret r _=>.ok r ρ
 | .exc x _=>.exc x ρ
 | .stuck=>.stuck
structure CbAt (T:List NTab)(s:Shared)(H:Hp)(fa:Addr)(F:NF)(body:Expr)(fr:List Str)(ws:List (Option V)):Prop where
 obj:LamAt s.heap fa F body
 none_:H fa=none
 cells:CellsAt F.cl fr ws s.heap H
 tab:∃ P nm pos ps,(P,nm)∈T∧nm pos.line pos.col=F.qual∧H P=some (.tbl ps)∧TriplesOk ps.toList∧codeAmong pos ps.toList=some (.ref F.c)
structure SameZ (X:Cx)(P:Program)(w:World)(K:PySem.W.Frag)(mg:Str→Option Value)(base:Heap)(s:Shared)(H:Hp)(outer:List Env):Prop where
 P:X.prog=P
 w:X.w=w
 K:X.K=K
 mg:X.mg=mg
 base:X.base=base
 s0:X.s_0=s
 H0:X.H_0=H
 out:X.outer=outer
 ex:X.ex=[]
section
variable {X:Cx}{P:Program}{w:World}{K:PySem.W.Frag}{mg:Str→Option Value}{base:Heap}{s0:Shared}{H0:Hp}{outer:List Env}
end
def Cb (P:Program)(w:World)(K:PySem.W.Frag)(mg:Str→Option Value)(base:Heap)(s0:Shared)(H0:Hp)(outer:List Env)(G:Gx)(T:List NTab)(J:Hp→Prop)(fa:Addr)(k n:Nat)(g:List D→FOut):Prop :=
 ∀ X:Cx,SameZ X P w K mg base s0 H0 outer→(∀ pins s σ H,Inv X pins σ H s→PySem.W.FnAt fa s.heap)∧(RG k X.A→∀ {Γ:Gm} {W:WX},Takes X W→Γ.G=G→Γ.T=T→(∀ F,Γ.J F→J F)→∀ (pins:List (Addr×Obj)) (s:Shared) (σ:St) (H:Hp) (ρ:Rho) (F:Hp) (Q:VK) (us:List Value) (vs:List V) (ds:List D),Inv X pins σ H s→Rel Γ ρ σ F H→Vals vs us→DpL G F vs ds→ds.length=n →
  Post Γ W (cbOut (g ds) ρ) ρ σ F H Q→wpAny (model X.prog X.w) X.A (call (.ref fa) us) (EP X pins σ Q) X.xe s)
section
variable {X:Cx}{Γ:Gm}{W:WX}{P:Program}{w:World}{K:PySem.W.Frag}{mg:Str→Option Value}{base:Heap}{s0:Shared}{H0:Hp}{outer:List Env}{T:List NTab}{J:Hp→Prop}{k n i lv:Nat}{g:List D→FOut}{x:Str}{p pos:Pos}{e:Expr}{es:List Expr}{ma:MA}{G:Gx}{fa:Addr}
end
def spFJ (G:Gx)(T:List NTab)(n:Nat)(J:Hp→Prop)(f:Fn):Sp:=fun vs H Q E=>vs.length=n∧∃ F as L U,J F∧Same F H∧ARel G F H vs as L∧Off U F L∧Ali T U F H∧match f as with
 | .ret r os=>∀ v F' H' L',CStp T U F H F' H'→ORel G F' H' vs as os L'→Off U F' L'→RepRet G U L' F' H' v r→Q v H'
 | .exc x os=>∀ d F' H' L',CStp T U F H F' H'→ORel G F' H' vs as os L'→Off U F' L'→ExcRep G F' H' x d→E (ecV G x.c) d H'
 | .stuck=>False
def cbS:List Nat→Rho→Rho
 | [],ρ=>ρ
 | j::r,ρ=>cbS r (ρ.set j (some (.exn (some j))))
theorem Rel.cbs {Γ:Gm}{σ:St}{F H:Hp}:∀ {cbs:List Nat} {ρ:Rho},Rel Γ ρ σ F H→(∀ j∈cbs,j<ρ.length∧σ[j]?=some (some (.ref (Γ.β j))))→Rel Γ (cbS cbs ρ) σ F H
 | [],_,R,_=>R
 | j::r,ρ,R,h=>by
  obtain ⟨h1,h2⟩:=h j (List.mem_cons_self ..)
  refine Rel.cbs (cbs:=r) (ρ:=ρ.set j (some (.exn (some j)))) (R.put (L:=[]) (sl:=.exn (some j)) h1 h2 (fun _ _=>rfl) rfl ⟨rfl,rfl⟩ fun b hb=>by cases hb).1 fun i hi=>?_
  obtain ⟨g1,g2⟩:=h i (List.mem_cons_of_mem _ hi)
  exact ⟨by simpa using g1,g2⟩
abbrev CbL:=List (Nat×Nat×Nat)
abbrev CbFs:=Nat→List D→FOut
structure FnC (P:Program)(w:World)(K:PySem.W.Frag)(mg:Str→Option Value)(base:Heap)(G:Gx)(T:List NTab)(k:Nat)(f:Addr)(fd:FuncData)(ps:List Str)(n:Nat)(cbs:CbL)(mm:CbFs→Fn):Prop where
 len:ps.length=n
 run:∀ (cb:CbFs) (J:Hp→Prop),(∀ F F',Same F F'→J F→J F')→∀ (A:Around) (outer:List Env) (s:Shared) (H:Hp) (args:Args) (us:List Value) (vs:List V) (Q:VK) (E:XK),RG k A→Env0 P w K mg base A outer s H→BindsTo s fd args (ps.zip us)→Vals vs us →
  (∀ c∈cbs,∃ a,vs[c.1]?=some (.ref a)∧Cb P w K mg base s H outer G T J a c.2.2 c.2.1 (cb c.1))→spFJ G T n J (mm cb) vs H Q E→codeAny (model P w) A (.call (.ref f) args) (CR (L2.CX P w) outer P w H s Q E) s
section
variable {X:Cx}{Γ:Gm}{W:WX}{a b:Expr}{ma:M}{pos:Pos}
end
section
variable {X:Cx}{Γ:Gm}{W:WX}{o e:Expr}{es:List Expr}{mo:M}{ma:MA}{pos apos:Pos}{m:Str}{c n k:Nat}{ps:List Str}{g:Fn}
end
structure MtcFact (P:Program)(w:World)(K:PySem.W.Frag)(mg:Str→Option Value)(base:Heap)(G:Gx)(Θ:List NTab)(c:Nat)(m:Str)(n k:Nat)(ps:List Str)(cbs:CbL)(mm:CbFs→Fn):Prop where
 ex:∃ f fd,Meth K (G.cl c) m f∧Binds K fd ps []∧FnC P w K mg base G Θ k f fd ps n cbs mm
theorem any_dp {G:Gx}{F:Hp}{v:V}:Dp G F v .any:=.any v
section
variable {X:Cx}{Γ:Gm}{W:WX}{o:Expr}{mo:M}{pos apos lpos:Pos}{m:Str}{c n k lv nl:Nat}{ps lps fr:List Str}{mm:CbFs→Fn}{f:LFn}{js:List Nat}{params:Arguments}{body:Expr}{scope:Scope}{cd Pt:Addr}{nm:Nat→Nat→Str}
end
@[simp] theorem x_cbOutR {r:Res}{os:List D}{ρ:Rho}:cbOut (.ret r os) ρ=.ok r ρ:=rfl
@[simp] theorem x_cbOutX {x:Exc}{os:List D}{ρ:Rho}:cbOut (.exc x os) ρ=.exc x ρ:=rfl
@[simp] theorem x_cbS0 {ρ:Rho}:cbS [] ρ=ρ:=rfl
@[simp] theorem x_cbS1 {j:Nat}{r:List Nat}{ρ:Rho}:cbS (j::r) ρ=cbS r (ρ.set j (some (.exn (some j)))):=rfl
structure LamSp where
 js:List Nat
 f:LFn
 n:Nat
 lv:Nat
structure LamHere (T:List NTab)(s:Shared)(H:Hp)(fa:Addr)(F:NF)(body:Expr):Prop where
 obj:LamAt s.heap fa F body
 none_:H fa=none
 tab:∃ P nm pos ps,(P,nm)∈T∧nm pos.line pos.col=F.qual∧H P=some (.tbl ps)∧TriplesOk ps.toList∧codeAmong pos ps.toList=some (.ref F.c)
theorem LamHere.made {X:Cx}{T:List NTab}{s s':Shared}{H H1:Hp}{P f fa:Addr}{pos:Pos}{F F0:NF}{body body0:Expr}{ps0:Array Value}(h:LamHere T s H fa F body)(M:Made X s s' H H1 P pos f F0 body0)(hP:H P=some (.tbl ps0)):LamHere T s' H1 fa F body:=by
 have ne:fa≠P:=fun e=>by have:=h.none_; rw [e,hP] at this; cases this
 obtain ⟨pm,ctv,sl,ho⟩:=h.obj
 refine ⟨⟨pm,ctv,sl,M.heap fa _ ne ho⟩,?_,?_⟩
 ·cases e:H1 fa with
  | none=>rfl
  | some o =>
   have h1:=M.fresh fa o h.none_ e
   exact absurd h1 (Nat.not_le.mpr (Heap.lt_size ho))
 ·obtain ⟨Q,nm,pos,ps,hm,hn,hQ,ht,hc⟩:=h.tab
  by_cases e:Q=P
  ·subst e
   obtain ⟨more,e2⟩:=M.grow _ _ hQ
   obtain ⟨qs,q1,q2,q3⟩:=M.tab
   rw [e2] at q1
   cases q1
   exact ⟨Q,nm,pos,_,hm,hn,e2,q2,by rw [Array.toList_append]; exact among_keep _ _ ht hc⟩
  ·exact ⟨Q,nm,pos,ps,hm,hn,M.ext _ _ e hQ,ht,hc⟩
inductive LamsOk (X:Cx)(Γ:Gm):List Expr→List LamSp→Prop
 | nil:LamsOk X Γ [] []
 | cons {params:Arguments} {body:Expr} {scope:Scope} {lpos:Pos} {lps fr:List Str} {z:LamSp} {es:List Expr} {zs:List LamSp}
  (Lo:LOk X.prog X.w X.K X.mg X.base z.lv (X.env.qual ++ "<lambda>") params body scope lps fr (spL Γ.G Γ.T z.n z.f))
  (hfree:∀ y∈scope.names,y.2=.free→X.env.scope.names.lookup y.1=some .cell∨X.env.scope.names.lookup y.1=some .free) (hfr:∀ y∈fr,(y,NameKind.free)∈scope.names) (hjs:z.js.map (fun j=>X.N[j]?)=fr.map some)
  (t:LamsOk X Γ es zs) (hdef:defaultsOf params X.env=([],[]):=by rfl) (hst:starEach (.Lambda params body scope lpos::es) X.env=(false,eval (.Lambda params body scope lpos) X.env)::starEach es X.env:=by rfl) :
  LamsOk X Γ (.Lambda params body scope lpos::es) (z::zs)
inductive LamsAt (X:Cx)(Γ:Gm)(s:Shared)(H:Hp):List Addr→List LamSp→Prop
 | nil:LamsAt X Γ s H [] []
 | cons {params:Arguments} {body:Expr} {scope:Scope} {c fa:Addr} {lps fr:List Str} {z:LamSp} {fas:List Addr} {zs:List LamSp}
  (h:LamHere Γ.T s H fa (lamF (X.env.qual ++ "<lambda>") params scope (cloFrom X.env.cells scope.names []) c) body) (Lo:LOk X.prog X.w X.K X.mg X.base z.lv (X.env.qual ++ "<lambda>") params body scope lps fr (spL Γ.G Γ.T z.n z.f))
  (cap:X.Ok→Caps X (cloFrom X.env.cells scope.names []) fr z.js) (t:LamsAt X Γ s H fas zs):LamsAt X Γ s H (fa::fas) (z::zs)
theorem LamsAt.len {X:Cx}{Γ:Gm}{s:Shared}{H:Hp}:∀ {fas:List Addr} {zs:List LamSp},LamsAt X Γ s H fas zs→fas.length=zs.length
 | _,_,.nil=>rfl
 | _,_,.cons _ _ _ t=>by simp [t.len]
section
variable {X:Cx}{Γ:Gm}{W:WX}{cd Pt:Addr}{nm:Nat→Nat→Str}
end
section
variable {X:Cx}{Γ:Gm}{W:WX}
structure FncFact (P:Program)(w:World)(K:PySem.W.Frag)(mg:Str→Option Value)(base:Heap)(G:Gx)(Θ:List NdefX.NTab)(x:Str)(n k:Nat)(ps:List Str)(cbs:CbL)(mm:CbFs→Fn):Prop where
 ex:∃ f fd,mg x=some (.ref f)∧PySem.W.keepIn K (.ref f)=true∧Binds K fd ps []∧FnC P w K mg base G Θ k f fd ps n cbs mm
end
section
variable {X:Cx}{Γ:Gm}{W:WX}{cd Pt:Addr}{nm:Nat→Nat→Str}{zs:List LamSp}{mm:CbFs→Fn}{n k:Nat}{mk:List Bool}{ps:List Str}{e e1:Expr}{es:List Expr}{m1 mo:M}{x m:Str}{pos p apos:Pos}{o:Expr}{c:Nat}
end
section
variable {G:Gx}{F H H':Hp}
theorem KdL.length {vs:List V}{ds:List D}{L:List Addr}(h:KdL G F H vs ds L):vs.length=ds.length:=by
 have key:∀ {vs:List V} {ds:List D} {L:List Addr},KdL G F H vs ds L→vs.length=ds.length:=by
  intro vs
  induction vs with
  | nil=>intro ds L h; cases h; rfl
  | cons v vs ih=>intro ds L h; cases h with | cons a t dj=>simp [ih t]
 exact key h
end
section
variable {X:Cx}{Γ:Gm}{W:WX}{name:Str}{p1 p2 p3 apos cpos:Pos}{t id:String}{r:V→List V→Hp→VK→Prop}{k:Expr}{mk:MP}
end
section
variable {X:Cx}{Γ:Gm}{W:WX}{elt tg iter:Expr}{ifs:List Expr}{scope:Scope}{own:List (Str×Nat)}{pos spos:Pos}{mi:MI}{g:TG}{f:Tg}{t:MB}{me:M}
end
section
variable {G:Gx}{F H:Hp}
theorem KdL.freeze:∀ {vs:List V} {ds:List D} {L:List Addr},KdL G F H vs ds L→(∀ b∈L,F b=none)→DpL G (frzH F H L) vs (strips ds)
 | _,_,_,.nil,_=>by simp only [strips]; exact .nil
 | _,_,_,.cons (L1:=L1) (L2:=L2) a t dj,n=>by
  simp only [strips]
  refine .cons ?_ ((KdL.freeze t fun b hb=>n b (List.mem_append_right _ hb)).mono (frzH_le n fun b hb=>List.mem_append_right _ hb))
  have n1:∀ b∈L1,F b=none:=fun b hb=>n b (List.mem_append_left _ hb)
  have le:=frzH_le (H:=H) n (L:=L1) fun b hb=>List.mem_append_left _ hb
  cases a with
  | fz h=>rw [h.strip]; exact h.mono (frzH_sub n)
  | ow h=>simp only [strip]; exact (h.freeze n1).mono le
end
section
variable {X:Cx}
end
section
variable {X:Cx}{Γ:Gm}{W:WX}{kx vx tg iter:Expr}{ifs:List Expr}{scope:Scope}{own:List (Str×Nat)}{pos spos:Pos}{mi:MI}{g:TG}{f:Tg}{t:MB}{mk mv:M}
end
section
variable {X:Cx}
end
def DnO (P:Program)(w:World)(D:Addr)(H:Hp)(kvs:List (NestedKey×Addr×V)):Prop:=(kvs=[]∧H D=some (.dK []))∨(kvs≠[]∧H D=some (dnO P w D kvs))
theorem DnO.okU {P:Program}{w:World}{D:Addr}{H:Hp}{kvs:List (NestedKey×Addr×V)}(h:DnO P w D H kvs):∃ o,H D=some o∧okU o:=by
 rcases h with ⟨_,h⟩ | ⟨_,h⟩
 ·exact ⟨_,h,okU_dK⟩
 ·exact ⟨_,h,okU_dn⟩
theorem DnO.at {P:Program}{w:World}{D:Addr}{H H':Hp}{kvs:List (NestedKey×Addr×V)}(h:DnO P w D H kvs)(e:H' D=H D):DnO P w D H' kvs:=by
 rcases h with ⟨a,b⟩ | ⟨a,b⟩
 ·exact .inl ⟨a,e.trans b⟩
 ·exact .inr ⟨a,e.trans b⟩
section
variable {X:Cx}{Γ:Gm}{W:WX}{kx vx tg iter:Expr}{ifs:List Expr}{scope:Scope}{own:List (Str×Nat)}{pos spos:Pos}{mi:MI}{g:TG}{f:Tg}{t:MB}{mk mv:M}
end
def degive:List Bool→List Arg→List Arg
 | [],as=>as
 | _,[]=>[]
 | true::gm,.o _::as=>.v .any::degive gm as
 | _::gm,a::as=>a::degive gm as
def spFG (gm:List Bool)(G:Gx)(T:List NdefX.NTab)(n:Nat)(f:Fn):Sp:=fun vs H Q E=>vs.length=n∧∃ F as L U,Same F H∧ARel G F H vs as L∧Off U F L∧Ali T U F H∧match f as with
 | .ret r os=>∀ v F' H' L',CStp T U F H F' H'→ORel G F' H' vs (degive gm as) os L'→Off U F' L'→RepRet G U L' F' H' v r→Q v H'
 | .exc x os=>∀ d F' H' L',CStp T U F H F' H'→ORel G F' H' vs (degive gm as) os L'→Off U F' L'→ExcRep G F' H' x d→E (ecV G x.c) d H'
 | .stuck=>False
theorem ARel.degive {G:Gx}{F H:Hp}:∀ {gm:List Bool} {vs:List V} {as:List Arg} {L:List Addr},ARel G F H vs as L→∃ L2,ARel G F H vs (PyD.degive gm as) L2∧∀ a∈L2,a∈L
 | [],_,_,L,h=>⟨L,by simpa [PyD.degive] using h,fun _ h=>h⟩
 | g::gm,_,_,_,.nil=>⟨[],by simpa [PyD.degive] using .nil,fun _ h=>h⟩
 | g::gm,_,_,_,.v d t=>by
  obtain ⟨L2,t2,s⟩:=t.degive (gm:=gm)
  refine ⟨L2,?_,s⟩
  cases g <;> exact .v d t2
 | true::gm,_,_,_,.o c dj t=>by
  obtain ⟨L2,t2,s⟩:=t.degive (gm:=gm)
  exact ⟨L2,.v any_dp t2,fun a h=>List.mem_append_right _ (s a h)⟩
 | false::gm,_,_,_,.o (L1:=L1) c dj t=>by
  obtain ⟨L2,t2,s⟩:=t.degive (gm:=gm)
  refine ⟨L1++L2,.o c (fun b hb h=>dj b hb (s b h)) t2,fun a h=>?_⟩
  rcases List.mem_append.mp h with z | z
  ·exact List.mem_append_left _ z
  ·exact List.mem_append_right _ (s a z)
structure FnFactG (gm:List Bool)(P:Program)(w:World)(K:PySem.W.Frag)(mg:Str→Option Value)(base:Heap)(G:Gx)(Θ:List NdefX.NTab)(x:Str)(n k:Nat)(ps:List Str)(g:Fn):Prop where
 ex:∃ f fd,mg x=some (.ref f)∧PySem.W.keepIn K (.ref f)=true∧Binds K fd ps []∧FnOkG P w K mg base k f fd ps (spFG gm G Θ n g)
section
variable {X:Cx}{Γ:Gm}{W:WX}{e:Expr}{ma:MA}{pos p:Pos}{es:List Expr}{x:Str}{k:Nat}{ps:List Str}{n:Nat}{g:Fn}{gm mk:List Bool}
end
section
variable {X:Cx}{pins:List (Addr×Obj)}{σ:St}{H:Hp}{s:Shared}{d:Addr}{o:Obj}
end
section
variable {X:Cx}{Γ:Gm}{W:WX}{a b e o i:Expr}{ma mb me mo mi:M}{pos pos' p1 p2 p3 apos cpos:Pos}
end
section
variable {X:Cx}{Γ:Gm}{W:WX}{m:MS}{s:Stmt}(i:Nat)
end
def ZSt (k1 k2:Bool)(z TI TO i1 i2 a b S:Addr)(xs ys:Array Value)(i:Nat)(h:Heap):Prop :=
 i≤min xs.size ys.size∧IsTupOf2 h TI (.ref i1) (.ref i2)∧(itB k1 h i1 a i∧seB k1 h a xs)∧(itB k2 h i2 b i∧seB k2 h b ys) ∧
  ((IsZip h z TI TO .none∧∃ u v,IsTupOf2 h TO u v)∨∃ T f oT,IsZipHeld h z TI TO T f∧h.get? T=some oT∧T≠z∧T≠i1∧T≠i2∧T≠S)
def Hld (z TO i1 i2 S:Addr)(xs ys:Array Value)(h:Heap)(acc:Array Value)(N i:Nat):Prop :=
 acc.size=i∧∃ p:Nat→Nat,(∀ j,j<i→N≤p j∧p j<h.objs.size)∧(∀ j k,j<k→k<i→p j<p k) ∧
  ∀ j v,acc[j]?=some v→∃ x y,v=.ref (p j)∧xs[j]?=some x∧ys[j]?=some y∧IsTupOf2 h (p j) x y
section
variable {prog:Program}{w:World}{A:Around}{z TI TO i1 i2 a b S:Addr}{k1 k2:Bool}{xs ys:Array Value}
theorem ZSt.frame (Z:ZipSep2 z TI TO i1 i2 [i1,a] [i2,b])(n1:a≠i1)(n2:b≠i2)(hS:S∉[z,TI,TO,i1,i2,a,b]){i:Nat}{h₁ h₂:Heap}(st:ZSt k1 k2 z TI TO i1 i2 a b S xs ys i h₁)(hk:∀ c o,c≠S→h₁.get? c=some o→h₂.get? c=some o):ZSt k1 k2 z TI TO i1 i2 a b S xs ys i h₂:=by
 simp only [List.mem_cons,List.not_mem_nil,or_false,not_or] at hS
 obtain ⟨dz,dTI,dTO,di1,di2,dl1,dl2⟩:=hS
 obtain ⟨hN,hTI,s1,s2,hz⟩:=st
 have sb:∀ (k:Bool) (a:Addr) (xs:Array Value),seB k h₁ a xs→a≠S→seB k h₂ a xs:=fun k a xs q e=>by
  cases k
  ·exact Heap.IsTuple.at q fun o e'=>hk _ o e e'
  ·exact Heap.IsList.at q fun o e'=>hk _ o e e'
 refine ⟨hN,hk _ _ (Ne.symm dTI) hTI,⟨s1.1.at fun o e=>hk _ o (Ne.symm di1) e,sb _ _ _ s1.2 (Ne.symm dl1)⟩,⟨s2.1.at fun o e=>hk _ o (Ne.symm di2) e,sb _ _ _ s2.2 (Ne.symm dl2)⟩,?_⟩
 ·rcases hz with ⟨hz,u,v,hTO⟩ | ⟨T,f,oT,hz,hT,r1,r2,r3,r4⟩
  ·exact .inl ⟨hk _ _ (Ne.symm dz) hz,u,v,hk _ _ (Ne.symm dTO) hTO⟩
  ·exact .inr ⟨T,f,oT,hk _ _ (Ne.symm dz) hz,hk _ _ r4 hT,r1,r2,r3,r4⟩
theorem Hld.at {h h':Heap}{acc:Array Value}{N i:Nat}(H:Hld z TO i1 i2 S xs ys h acc N i)(hs:h.objs.size≤h'.objs.size)(hk:∀ c o,N≤c→h.get? c=some o→h'.get? c=some o):Hld z TO i1 i2 S xs ys h' acc N i:=by
 obtain ⟨e,p,p1,p2,p3⟩:=H
 refine ⟨e,p,fun j hj=>⟨(p1 j hj).1,by have:=(p1 j hj).2; omega⟩,p2,fun j v hv=>?_⟩
 obtain ⟨x,y,e1,e2,e3,e4⟩:=p3 j v hv
 have hj:j<i:=by rw [← e]; exact (Array.getElem?_eq_some_iff.mp hv).1
 exact ⟨x,y,e1,e2,e3,hk _ _ (p1 j hj).1 e4⟩
end
section
variable {X:Cx}{Γ:Gm}{W:WX}{ma:MA}{a b:Expr}{p p2 pos pos2:Pos}
end
section
variable {X:Cx}{Γ:Gm}{W:WX}{o e:Expr}{es:List Expr}{mo:M}{ma:MA}{apos cpos:Pos}
end
theorem kitS {P:Program}{w:World}{K:PySem.W.Frag}{mg:Str→Option Value}{base:Heap}{N ps:List Str}{qual:Str}{scope:Scope}{f:Addr}{cdv:Value}{A:Around}{outer:List Env}{s:Shared}{H:Hp}{E:XK}{k:Nat}{body:List Stmt}{t:TS}
  (hr:RG k (A.deeper (envOfC qual scope s.heap.objs.size f cdv))) (S:FnScope N ps scope)
  (h:N.Nodup→(A.deeper (envOfC qual scope s.heap.objs.size f cdv)).units+1<cLine→(A.deeper (envOfC qual scope s.heap.objs.size f cdv)).units+64<cLine→(A.deeper (envOfC qual scope s.heap.objs.size f cdv)).units+65<cLine→(A.deeper (envOfC qual scope s.heap.objs.size f cdv)).units+190<cLine→(A.deeper (envOfC qual scope s.heap.objs.size f cdv)).guards=some [] →
   Takes (cxOf (L2.CX P w) P w K mg base N qual scope f cdv A outer s H E) (fun cls d _ H'=>E cls d H')→PassesOwn (model P w) (A.deeper (envOfC qual scope s.heap.objs.size f cdv)) (envOfC qual scope s.heap.objs.size f cdv) (cxOf (L2.CX P w) P w K mg base N qual scope f cdv A outer s H E).xe →
   PSs (cxOf (L2.CX P w) P w K mg base N qual scope f cdv A outer s H E) body t):PSs (cxOf (L2.CX P w) P w K mg base N qual scope f cdv A outer s H E) body t :=
 h S.nd (hu1 hr) (hu64 hr) (hu65 hr) (hu190 hr) hr.gd (takes_of rfl rfl rfl rfl) (passes_of (X:=cxOf (L2.CX P w) P w K mg base N qual scope f cdv A outer s H E) rfl)
section
variable {X:Cx}{Γ:Gm}{W:WX}{pos pos':Pos}{m:M}{e:Expr}{x:Str}
theorem pgN (i:Nat)(hN:X.N.Nodup)(hi:X.N[i]?=some x:=by rfl)(hx:Loc X.env.scope x:=by first | exact Or.inl rfl | exact Or.inr rfl)(hf:X.fn x=true∨X.env.scope.names.lookup x=some .local:=by first | exact .inl rfl | exact .inr rfl | assumption):PG X (.Name x pos) (gName i):=pg_name hN hi hx hf
theorem jsN (i:Nat)(hN:X.N.Nodup)(he:PE X e (tM Γ W m))(hx:Loc X.env.scope x:=by first | exact Or.inl rfl | exact Or.inr rfl)(hi:X.N[i]?=some x:=by rfl)(hs:swapsWith e (some (.Name x pos')) pos.line X.env=pure false:=by rfl)
  (hf:X.fn x=true∨X.env.scope.names.lookup x=some .local:=by first | exact .inl rfl | exact .inr rfl | assumption) :
  PS X (.Assign [.Name x pos'] e pos) (tMS Γ W (mSet i m)):=js_set hN hx he hi hs hf
end
section
variable {X:Cx}{Γ:Gm}{W:WX}{name:Str}{p1 p2 apos cpos:Pos}{t id:String}{r:V→List V→Hp→VK→Prop}{k e:Expr}{me:M}{mv:MP}
end
section
variable {X:Cx}{Γ:Gm}{W:WX}{p p2 pos:Pos}
end
def splitD:D→List D→Option Res
 | .str a,[.str b]=>if (b.length==0)=false∧a.length≤16777000 then some (.new (.lst ((Txt.split a b).map .str))) else none
 | _,_=>none
def rSplit:V→List V→Hp→VK→Prop:=fun x xs H Q=>∃ a b,x=.str a∧xs=[.str b]∧(b.length==0)=false∧a.length+2≤sizeLine∧rNewStrs (Txt.split a b) H Q
theorem split_fit {n:Nat}(h:n≤16777000):n+2≤sizeLine:=by
 have:(16777002:Nat)≤sizeLine:=by decide +kernel
 omega
theorem splitD_ok {G:Gx}:MtOk G rSplit splitD:=by
 intro F H x xs d ds res Q e v vs q k
 unfold splitD at q
 split at q
 ·rename_i a b
  split at q
  ·rename_i w
   cases q
   obtain ⟨y,rfl,vy⟩:=vs.one
   exact ⟨a,b,v.str,by rw [vy.str],w.1,split_fit w.2,fun l hl=>k _ F _ (.cell e hl) ⟨l,rfl,Same.free e hl,⟨_,upd_same,dpl_strs _⟩,hl⟩⟩
  ·cases q
 ·cases q
@[simp] theorem x_splitD (a b:Str):splitD (.str a) [.str b]=if (b.length==0)=false∧a.length≤16777000 then some (.new (.lst ((Txt.split a b).map .str))) else none:=rfl
theorem mt_splitD {X:Cx}:MtR X "str.split" rSplit:=mt_split
def intTD:List D→Option Res
 | [.str a]=>match PySem.intText? a with
  | some n=>if a.length≤640 then some (.val (.int n)) else none
  | none=>none
 | _=>none
def rIntT:List V→Hp→VK→Prop:=fun xs H Q=>∃ a n,xs=[.str a]∧PySem.intText? a=some n∧a.length≤640∧Q (.int n) H
theorem intTD_ok {G:Gx}:CallOk G rIntT intTD:=by
 intro F H xs ds res Q e v q k
 unfold intTD at q
 split at q
 ·rename_i a
  split at q
  ·rename_i n en
   split at q
   ·rename_i w
    cases q
    obtain ⟨x,rfl,vx⟩:=v.one
    exact ⟨a,n,by rw [vx.str],en,w,k _ F H (.refl e) (.int _)⟩
   ·cases q
  ·cases q
 ·cases q
theorem call_intT {X:Cx}:CallR X (.type "int") rIntT:=call_int_str
@[simp] theorem x_intTD (a:Str):intTD [.str a]=match PySem.intText? a with
  | some n=>if a.length≤640 then some (.val (.int n)) else none
  | none=>none:=rfl
end PyD
namespace Lw
open PySem PySem.Spec PyProof.Rows L2 PyD
abbrev C_BadText:Nat:=1
def xt_BadText:ECl→Option Bool
 | .own c=>xlook XL c C_BadText
 | .blt _=>none
def b_event_text:MS:=(mRet (mMtT "str" joinD (mC (.str s!" ")) (mCons (mLc [1] (iSeq (mVar 0)) (gN 1) mYes (mCB strD (mCons (mVar 1) mNil))) mNil)))
def f_event_text:Fn:=mkFn 1 b_event_text
def b_write_events:MS:=(mRet (mMtT "str" joinD (mC (.str s!"; ")) (mCons (mLc [1] (iSeq (mVar 0)) (gN 1) mYes (mCall 1 [false] f_event_text (mCons (mVar 1) mNil))) mNil)))
def f_write_events:Fn:=mkFn 1 b_write_events
def b_is_name:MS:=(mRet (mAndV (mCB (isiD' T) (mCons (mVar 0) (mCons (mC (.ty "str")) mNil))) (mAndV (mChain leD leD (mC (.int 1)) (mCB lenD (mCons (mVar 0) mNil)) (mC (.int 8))) (mCB allD (mCons (mLc [1] (iSeq (mVar 0)) (gN 1) mYes (mBin (inD false) (mVar 1) (mC (.str s!"abcdefghijklmnopqrstuvwxyz")))) mNil)))))
def f_is_name:Fn:=mkFn 1 b_is_name
def b_is_figure:MS:=(mRet (mAndV (mBin eqD (mCB lenD (mCons (mVar 0) mNil)) (mC (.int 1))) (mBin (inD false) (mVar 0) (mC (.str s!"0123456789")))))
def f_is_figure:Fn:=mkFn 0 b_is_figure
def b_event_in:MS:=(mSeq (mSet 1 (mMtT "str" splitD (mVar 0) (mCons (mC (.str s!" ")) mNil))) (mSeq (mIfS (mBinB eqD (mVar 1) (mCS lstD (mCons (mC (.str s!"lose")) mNil))) (mRet (mCS tupD (mCons (mC (.str s!"lose")) mNil))) mNext) (mSeq (mIfS (mAndB (mBinB eqD (mCB lenD (mCons (mVar 1) mNil)) (mC (.int 2))) (mAndB (mBinB (inD false) (mBin ixD (mVar 1) (mC (.int 0))) (mCS tupD (mCons (mC (.str s!"cut")) (mCons (mC (.str s!"line")) (mCons (mC (.str s!"again")) mNil))))) (mTru (mCall 1 [false] f_is_name (mCons (mBin ixD (mVar 1) (mC (.int 1))) mNil))))) (mRet (mCS tupD (mCons (mBin ixD (mVar 1) (mC (.int 0))) (mCons (mBin ixD (mVar 1) (mC (.int 1))) mNil)))) mNext) (mSeq (mIfS (mAndB (mBinB eqD (mCB lenD (mCons (mVar 1) mNil)) (mC (.int 2))) (mAndB (mBinB eqD (mBin ixD (mVar 1) (mC (.int 0))) (mC (.str s!"top"))) (mTru (mCall 1 [false] f_is_figure (mCons (mBin ixD (mVar 1) (mC (.int 1))) mNil))))) (mRet (mCS tupD (mCons (mC (.str s!"top")) (mCons (mCB (orC intD intTD) (mCons (mBin ixD (mVar 1) (mC (.int 1))) mNil)) mNil)))) mNext) (mSeq (mIfS (mAndB (mBinB eqD (mCB lenD (mCons (mVar 1) mNil)) (mC (.int 3))) (mAndB (mBinB eqD (mBin ixD (mVar 1) (mC (.int 0))) (mC (.str s!"pay"))) (mAndB (mTru (mCall 1 [false] f_is_name (mCons (mBin ixD (mVar 1) (mC (.int 1))) mNil))) (mTru (mCall 1 [false] f_is_figure (mCons (mBin ixD (mVar 1) (mC (.int 2))) mNil)))))) (mRet (mCS tupD (mCons (mC (.str s!"pay")) (mCons (mBin ixD (mVar 1) (mC (.int 1))) (mCons (mCB (orC intD intTD) (mCons (mBin ixD (mVar 1) (mC (.int 2))) mNil)) mNil))))) mNext) (mRet (mC .non)))))))
def f_event_in:Fn:=mkFn 1 b_event_in
def b_read_events_L1:MS:=(mSeq (mSet 4 (mCall 1 [false] f_event_in (mCons (mVar 3) mNil))) (mSeq (mIfS (mBinB isD (mVar 4) (mC .non)) (mRaise C_BadText s!"index" (mVar 2)) mNext) (mExpr (mMutT "list" appendD (mVar 1) (mCons (mVar 4) mNil)))))
def b_read_events:MS:=(mSeq (mIfS (mNotB (mTru (mCB (isiD' T) (mCons (mVar 0) (mCons (mC (.ty "str")) mNil))))) (mRaise C_BadText s!"index" (mC .non)) mNext) (mSeq (mSet 1 (mCS lstD mNil)) (mSeq (mFor (iEnT (mCons (mIf (mBinB neD (mVar 0) (mC (.str s!""))) (mMtT "str" splitD (mVar 0) (mCons (mC (.str s!"; ")) mNil)) (mCS lstD mNil)) mNil)) (gT 2 (gsCons (gN 2) (gsCons (gN 3) gsNil))) b_read_events_L1) (mRet (mVar 1)))))
def f_read_events:Fn:=mkFn 4 b_read_events
def b__law_refused:MS:=(mSeq (mSet 1 (mC .non)) (mSeq (mTry (mSet 1 (mCall 1 [false] f_read_events (mCons (mVar 0) mNil))) [⟨xt_BadText,(some 2),fun x=>(mRet (mCS lstD (mCons (mC (.str s!"text")) (mCons (mXf C_BadText 2 x s!"index") mNil))))⟩]) (mRet (mCS lstD (mCons (mC .non) (mCons (mVar 1) mNil))))))
def f__law_refused:Fn:=mkFn 2 b__law_refused
def b__law_pool:MS:=(mSeq (mSet 2 (mIf (mBinB ltD (mVar 1) (mCB lenD (mCons (mVar 0) mNil))) (mBin ixD (mVar 0) (mVar 1)) (mBin addD (mBin mulD (mC (.int 7)) (mCB sumD (mCons (mSl (mVar 0) none (some (mC (.int 63)))) mNil))) (mVar 1)))) (mSeq (mSet 3 (mCB absD (mCons (mVar 2) mNil))) (mSeq (mSet 4 (mBin addD (mBin addD (mBin addD (mBin modD (mCB intD (mCons (mVar 3) mNil)) (mC (.int 2147483629))) (mBin mulD (mBin mulD (mC (.int 7919)) (mVar 1)) (mVar 1))) (mBin mulD (mC (.int 31)) (mVar 1))) (mC (.int 17)))) (mSeq (mSet 4 (mBin modD (mCB intD (mCons (mBin mulD (mVar 4) (mC (.int 48271))) mNil)) (mC (.int 2147483647)))) (mRet (mCS lstD (mCons (mBin mulD (mVar 3) (mCB intD (mCons (mBin geD (mVar 3) (mBin powD (mC (.int 10)) (mC (.int 18)))) mNil))) (mCons (mBin modD (mCB intD (mCons (mBin mulD (mVar 4) (mVar 4)) mNil)) (mC (.int 2147483629))) mNil))))))))
def f__law_pool:Fn:=mkFn 3 b__law_pool
def b__law_draw:MS:=(mSeq (mIfS (mBinB gtD (mBin ixD (mVar 0) (mC (.int 0))) (mC (.int 0))) (mSeq (mSet 2 (mBin modD (mCB intD (mCons (mBin ixD (mVar 0) (mC (.int 0))) mNil)) (mVar 1))) (mSeq (mStore (mVar 0) (mC (.int 0)) (mBin fdivD (mBin ixD (mVar 0) (mC (.int 0))) (mVar 1))) (mRet (mVar 2)))) mNext) (mSeq (mStore (mVar 0) (mC (.int 1)) (mBin modD (mCB intD (mCons (mBin addD (mBin mulD (mBin ixD (mVar 0) (mC (.int 1))) (mC (.int 48271))) (mC (.int 11))) mNil)) (mC (.int 2147483647)))) (mRet (mBin modD (mCB intD (mCons (mBin fdivD (mBin modD (mCB intD (mCons (mBin mulD (mBin ixD (mVar 0) (mC (.int 1))) (mBin ixD (mVar 0) (mC (.int 1)))) mNil)) (mC (.int 2147483629))) (mC (.int 16))) mNil)) (mVar 1)))))
def f__law_draw:Fn:=mkFn 1 b__law_draw
def b__law_pick:MS:=(mRet (mBin ixD (mVar 1) (mCall 2 [true,false] f__law_draw (mCons (mVar 0) (mCons (mCB lenD (mCons (mVar 1) mNil)) mNil)))))
def f__law_pick:Fn:=mkFn 0 b__law_pick
def b__law_names:MS:=(mSeq (mSet 2 (mC (.str s!"abcdefghijklmnopqrstuvwxyz"))) (mSeq (mPar [4,5] (mConsN (mCall 2 [true,false] f__law_draw (mCons (mVar 0) (mCons (mC (.int 26)) mNil))) (mConsN (mBin addD (mC (.int 1)) (mBin mulD (mC (.int 2)) (mCall 2 [true,false] f__law_draw (mCons (mVar 0) (mCons (mC (.int 6)) mNil))))) mNil))) (mSeq (mSet 3 (mCS lstD (mCons (mCS tupD (mCons (mC (.str s!"")) (mCons (mC (.str s!"")) mNil))) (mCons (mCS tupD (mCons (mC (.str s!"")) (mCons (mC (.str s!"q")) mNil))) (mCons (mCS tupD (mCons (mC (.str s!"ab")) (mCons (mC (.str s!"")) mNil))) (mCons (mCS tupD (mCons (mC (.str s!"abcdefg")) (mCons (mC (.str s!"")) mNil))) (mCons (mCS tupD (mCons (mC (.str s!"")) (mCons (mC (.str s!"abcdefg")) mNil))) mNil))))))) (mSeq (mAsg (gL 2 (gsCons (gN 6) (gsCons (gN 7) gsNil))) (mCall 2 [true,false] f__law_pick (mCons (mVar 0) (mCons (mVar 3) mNil)))) (mRet (mLc [8] (iRange (mCons (mVar 1) mNil)) (gN 8) mYes (mBin addD (mBin addD (mVar 6) (mBin ixD (mVar 2) (mBin modD (mCB intD (mCons (mBin addD (mVar 4) (mBin mulD (mVar 5) (mVar 8))) mNil)) (mC (.int 26))))) (mVar 7))))))))
def f__law_names:Fn:=mkFn 7 b__law_names
def b__law_plan_L1:MS:=(mSeq (mSet 8 (mCB tupleD (mCons (mCB sortedD (mCons (mCS lstD (mCons (mCB strD (mCons (mBin ixD (mVar 3) (mVar 5)) mNil)) (mCons (mCB strD (mCons (mBin ixD (mVar 3) (mVar 6)) mNil)) mNil))) mNil)) mNil))) (mStore (mVar 4) (mC (.str s!"links")) (mBin addD (mBin ixD (mVar 4) (mC (.str s!"links"))) (mIf (mBinB eqD (mCall 2 [true,false] f__law_draw (mCons (mVar 0) (mCons (mC (.int 3)) mNil))) (mC (.int 0))) (mCS lstD (mCons (mVar 8) mNil)) (mCS lstD mNil)))))
def b__law_plan_L2:MS:=(mFor (iRange2 (mCons (mBin addD (mVar 5) (mC (.int 1))) (mCons (mCB lenD (mCons (mVar 3) mNil)) mNil))) (gN 6) b__law_plan_L1)
def b__law_plan_t7:MS:=(mRet (mVar 4))
def b__law_plan_t6:MS:=(mSeq (mStore (mVar 4) (mC (.str s!"numbered")) (mBin gtD (mCall 2 [true,false] f__law_draw (mCons (mVar 0) (mCons (mC (.int 3)) mNil))) (mC (.int 0)))) b__law_plan_t7)
def b__law_plan_t5:MS:=(mSeq (mStore (mVar 4) (mC (.str s!"memory")) (mCall 2 [true,false] f__law_pick (mCons (mVar 0) (mCons (mCS lstD (mCons (mCS tupD (mCons (mC (.str s!"nothing")) mNil)) (mCons (mCS tupD (mCons (mC (.str s!"times")) (mCons (mC (.int 1)) mNil))) (mCons (mCS tupD (mCons (mC (.str s!"times")) (mCons (mC (.int 2)) mNil))) (mCons (mCS tupD (mCons (mC (.str s!"sum")) (mCons (mC (.int 1)) mNil))) (mCons (mCS tupD (mCons (mC (.str s!"sum")) (mCons (mC (.int 2)) mNil))) (mCons (mCS tupD (mCons (mC (.str s!"sum")) (mCons (mC (.int 3)) mNil))) mNil))))))) mNil)))) b__law_plan_t6)
def b__law_plan_t4:MS:=(mSeq (mAsg (gT 2 (gsCons (gSV 4 (.str s!"money")) (gsCons (gSV 4 (.str s!"tops")) gsNil))) (mCS tupD (mCons (mCall 2 [true,false] f__law_draw (mCons (mVar 0) (mCons (mBin addD (mVar 2) (mC (.int 1))) mNil))) (mCons (mCall 2 [true,false] f__law_draw (mCons (mVar 0) (mCons (mC (.int 3)) mNil))) mNil)))) b__law_plan_t5)
def b__law_plan_t3:MS:=(mSeq (mFor (iRange (mCons (mCB lenD (mCons (mVar 3) mNil)) mNil)) (gN 5) b__law_plan_L2) b__law_plan_t4)
def b__law_plan_t2:MS:=(mSeq (mStore (mVar 4) (mC (.str s!"heeds")) (mLc [7] (iSeq (mVar 3)) (gN 7) mYes (mBin gtD (mCall 2 [true,false] f__law_draw (mCons (mVar 0) (mCons (mC (.int 4)) mNil))) (mC (.int 0))))) b__law_plan_t3)
def b__law_plan_t1:MS:=(mSeq (mSet 4 (mDct [.inr s!"names",.inr s!"limits",.inr s!"links"] (mCons (mVar 3) (mCons (mLc [7] (iSeq (mVar 3)) (gN 7) mYes (mCall 2 [true,false] f__law_draw (mCons (mVar 0) (mCons (mBin addD (mVar 2) (mC (.int 1))) mNil)))) (mCons (mCS lstD mNil) mNil))))) b__law_plan_t2)
def b__law_plan:MS:=(mSeq (mSet 3 (mCall 2 [true,false] f__law_names (mCons (mVar 0) (mCons (mBin addD (mC (.int 1)) (mCall 2 [true,false] f__law_draw (mCons (mVar 0) (mCons (mVar 1) mNil)))) mNil)))) b__law_plan_t1)
def f__law_plan:Fn:=mkFn 6 b__law_plan
def b__law_first:MS:=(mSeq (mSet 1 (mCB lenD (mCons (mBin ixD (mVar 0) (mC (.str s!"names"))) mNil))) (mRet (mCS tupD (mCons (mBin mulE (mCS tupD (mCons (mC (.bl true)) mNil)) (mVar 1)) (mCons (mBin mulE (mCS tupD (mCons (mC (.int 0)) mNil)) (mVar 1)) (mCons (mBin mulE (mCS tupD (mCons (mC (.bl false)) mNil)) (mVar 1)) (mCons (mC (.int 0)) (mCons (mBin ixD (mVar 0) (mC (.str s!"money"))) (mCons (mC (.bl false)) (mCons (mBin ixD (mVar 0) (mC (.str s!"tops"))) mNil))))))))))
def f__law_first:Fn:=mkFn 1 b__law_first
def b__law_events_L1:MS:=(mSet 1 (mBin addD (mVar 1) (mCS lstD (mCons (mCS tupD (mCons (mC (.str s!"pay")) (mCons (mVar 2) (mCons (mC (.int 1)) mNil)))) (mCons (mCS tupD (mCons (mC (.str s!"pay")) (mCons (mVar 2) (mCons (mC (.int 2)) mNil)))) mNil)))))
def b__law_events:MS:=(mSeq (mSet 1 (mBin addD (mLc [2] (iSeq (mBin ixD (mVar 0) (mC (.str s!"names")))) (gN 2) mYes (mCS tupD (mCons (mC (.str s!"cut")) (mCons (mVar 2) mNil)))) (mLc [2] (iSeq (mBin ixD (mVar 0) (mC (.str s!"names")))) (gN 2) mYes (mCS tupD (mCons (mC (.str s!"line")) (mCons (mVar 2) mNil)))))) (mSeq (mFor (iSeq (mBin ixD (mVar 0) (mC (.str s!"names")))) (gN 2) b__law_events_L1) (mSeq (mSet 1 (mBin addD (mVar 1) (mCS lstD (mCons (mCS tupD (mCons (mC (.str s!"top")) (mCons (mC (.int 1)) mNil))) (mCons (mCS tupD (mCons (mC (.str s!"top")) (mCons (mC (.int 2)) mNil))) (mCons (mCS tupD (mCons (mC (.str s!"lose")) mNil)) mNil)))))) (mRet (mBin addD (mVar 1) (mLc [2] (iSeq (mBin ixD (mVar 0) (mC (.str s!"names")))) (gN 2) mYes (mCS tupD (mCons (mC (.str s!"again")) (mCons (mVar 2) mNil)))))))))
def f__law_events:Fn:=mkFn 2 b__law_events
def b__law_can:MS:=(mSeq (mIfS (mBinB eqD (mBin ixD (mVar 2) (mC (.int 0))) (mC (.str s!"again"))) (mRet (mC (.bl false))) mNext) (mSeq (mIfS (mBinB eqD (mBin ixD (mVar 2) (mC (.int 0))) (mC (.str s!"pay"))) (mRet (mC (.bl true))) mNext) (mSeq (mIfS (mBinB eqD (mBin ixD (mVar 2) (mC (.int 0))) (mC (.str s!"lose"))) (mRet (mNotV (mBin ixD (mVar 1) (mC (.int 5))))) mNext) (mSeq (mIfS (mBinB eqD (mBin ixD (mVar 2) (mC (.int 0))) (mC (.str s!"top"))) (mRet (mAndV (mNotV (mBin ixD (mVar 1) (mC (.int 5)))) (mBin leD (mBin ixD (mVar 2) (mC (.int 1))) (mBin ixD (mVar 1) (mC (.int 6)))))) mNext) (mRet (mBin eqD (mBin ixD (mBin ixD (mVar 1) (mC (.int 0))) (mMtT "list" indexD (mBin ixD (mVar 0) (mC (.str s!"names"))) (mCons (mBin ixD (mVar 2) (mC (.int 1))) mNil))) (mBin eqD (mBin ixD (mVar 2) (mC (.int 0))) (mC (.str s!"cut")))))))))
def f__law_can:Fn:=mkFn 0 b__law_can
def b__law_choices:MS:=(mRet (mLc [2] (iSeq (mCall 1 [false] f__law_events (mCons (mVar 0) mNil))) (gN 2) (mTru (mCall 3 [false,false,false] f__law_can (mCons (mVar 0) (mCons (mVar 1) (mCons (mVar 2) mNil))))) (mVar 2)))
def f__law_choices:Fn:=mkFn 1 b__law_choices
def b__law_group_L1:MS:=(mSeq (mSet 6 (mLc [7] (iSeq (mVar 3)) (gN 7) (mBinB (inD false) (mCB tupleD (mCons (mCB sortedD (mCons (mCS lstD (mCons (mCB strD (mCons (mBin ixD (mVar 4) (mVar 5)) mNil)) (mCons (mCB strD (mCons (mBin ixD (mVar 4) (mVar 7)) mNil)) mNil))) mNil)) mNil)) (mBin ixD (mVar 0) (mC (.str s!"links")))) (mVar 7))) (mSet 3 (mBin addD (mVar 3) (mBin mulD (mCS lstD (mCons (mVar 5) mNil)) (mCB intD (mCons (mAndV (mBin neD (mVar 6) (mCS lstD mNil)) (mBin (inD true) (mVar 5) (mVar 3))) mNil))))))
def b__law_group_L2:MS:=(mFor (iRange (mCons (mCB lenD (mCons (mVar 4) mNil)) mNil)) (gN 5) b__law_group_L1)
def b__law_group:MS:=(mSeq (mPar [3,4] (mConsN (mCS lstD (mCons (mVar 1) mNil)) (mConsN (mBin ixD (mVar 0) (mC (.str s!"names"))) mNil))) (mSeq (mFor (iRange (mCons (mCB lenD (mCons (mVar 4) mNil)) mNil)) (gN 2) b__law_group_L2) (mRet (mCB sortedID (mCons (mLc [5] (iSeq (mVar 3)) (gN 5) mYes (mCB intD (mCons (mVar 5) mNil))) mNil)))))
def f__law_group:Fn:=mkFn 6 b__law_group
def b__law_stopped:MS:=(mRet (mOrV (mBin ixD (mVar 0) (mC (.int 5))) (mBin leD (mBin ixD (mVar 0) (mC (.int 4))) (mC (.int 0)))))
def f__law_stopped:Fn:=mkFn 0 b__law_stopped
def b__law_word:MS:=(mSeq (mIfS (mTru (mBin ixD (mBin ixD (mVar 1) (mC (.int 0))) (mVar 2))) (mRet (mIf (mAndB (mNotB (mTru (mBin ixD (mVar 1) (mC (.int 5))))) (mBinB geD (mBin ixD (mVar 1) (mC (.int 4))) (mVar 3))) (mC (.str s!"taken")) (mC (.str s!"house")))) mNext) (mSeq (mSet 4 (mCall 2 [false,false] f__law_group (mCons (mVar 0) (mCons (mVar 2) mNil)))) (mSeq (mSet 5 (mIf (mBinB neD (mLc [7] (iSeq (mVar 4)) (gN 7) (mTru (mBin ixD (mBin ixD (mVar 1) (mC (.int 0))) (mVar 7))) (mVar 7)) (mCS lstD mNil)) (mCall 1 [false] f__law_stopped (mCons (mVar 1) mNil)) (mBin ixD (mBin ixD (mVar 1) (mC (.int 2))) (mVar 2)))) (mSeq (mIfS (mAndB (mTru (mBin ixD (mBin ixD (mVar 0) (mC (.str s!"heeds"))) (mVar 2))) (mTru (mVar 5))) (mRet (mC (.str s!"list"))) mNext) (mSeq (mIfS (mBinB gtD (mBin addD (mCB sumD (mCons (mLc [7] (iSeq (mVar 4)) (gN 7) (mNotB (mTru (mBin ixD (mBin ixD (mVar 1) (mC (.int 0))) (mVar 7)))) (mBin ixD (mBin ixD (mVar 1) (mC (.int 1))) (mVar 7))) mNil)) (mVar 3)) (mBin ixD (mBin ixD (mVar 0) (mC (.str s!"limits"))) (mVar 2))) (mRet (mC (.str s!"limit"))) mNext) (mSeq (mSet 6 (mBin ixD (mDct [.inr s!"nothing",.inr s!"times",.inr s!"sum"] (mCons (mC (.int 0)) (mCons (mC (.int 1)) (mCons (mVar 3) mNil)))) (mBin ixD (mBin ixD (mVar 0) (mC (.str s!"memory"))) (mC (.int 0))))) (mSeq (mIfS (mAndB (mBinB neD (mBin ixD (mBin ixD (mVar 0) (mC (.str s!"memory"))) (mC (.int 0))) (mC (.str s!"nothing"))) (mBinB gtD (mBin addD (mBin ixD (mVar 1) (mC (.int 3))) (mVar 6)) (mBin ixD (mBin ixD (mVar 0) (mC (.str s!"memory"))) (mC (.int 1))))) (mRet (mC (.str s!"memory"))) mNext) (mRet (mC (.str s!"taken"))))))))))
def f__law_word:Fn:=mkFn 4 b__law_word
def b__law_low:MS:=(mRet (mCB maxLD (mCons (mCS lstD (mCons (mCB intD (mCons (mVar 0) mNil)) (mCons (mCB intD (mCons (mBin subD (mC (.int 0)) (mVar 1)) mNil)) mNil))) mNil)))
def f__law_low:Fn:=mkFn 0 b__law_low
def b__law_put:MS:=(mRet (mBin addD (mBin addD (mSl (mVar 0) none (some (mVar 1))) (mCS tupD (mCons (mVar 2) mNil))) (mSl (mVar 0) (some (mBin addD (mVar 1) (mC (.int 1)))) none)))
def f__law_put:Fn:=mkFn 0 b__law_put
def b__law_paid:MS:=(mSeq (mSet 4 (mCall 4 [false,false,false,false] f__law_word (mCons (mVar 0) (mCons (mVar 1) (mCons (mVar 2) (mCons (mVar 3) mNil)))))) (mSeq (mIfS (mBinB neD (mVar 4) (mC (.str s!"taken"))) (mRet (mCS lstD (mCons (mVar 1) (mCons (mVar 4) mNil)))) mNext) (mSeq (mIfS (mTru (mBin ixD (mBin ixD (mVar 1) (mC (.int 0))) (mVar 2))) (mRet (mCS lstD (mCons (mBin addD (mBin addD (mSl (mVar 1) none (some (mC (.int 3)))) (mCS tupD (mCons (mC (.int 0)) (mCons (mCall 2 [false,false] f__law_low (mCons (mBin subD (mBin ixD (mVar 1) (mC (.int 4))) (mVar 3)) (mCons (mBin ixD (mVar 1) (mC (.int 6))) mNil))) mNil)))) (mSl (mVar 1) (some (mC (.int 5))) none)) (mCons (mVar 4) mNil)))) mNext) (mSeq (mSet 5 (mBin ixD (mDct [.inr s!"nothing",.inr s!"times",.inr s!"sum"] (mCons (mC (.int 0)) (mCons (mC (.int 1)) (mCons (mVar 3) mNil)))) (mBin ixD (mBin ixD (mVar 0) (mC (.str s!"memory"))) (mC (.int 0))))) (mRet (mCS lstD (mCons (mBin addD (mCS tupD (mCons (mBin ixD (mVar 1) (mC (.int 0))) (mCons (mCall 3 [false,false,false] f__law_put (mCons (mBin ixD (mVar 1) (mC (.int 1))) (mCons (mVar 2) (mCons (mBin addD (mBin ixD (mBin ixD (mVar 1) (mC (.int 1))) (mVar 2)) (mVar 3)) mNil)))) (mCons (mBin ixD (mVar 1) (mC (.int 2))) (mCons (mBin addD (mBin ixD (mVar 1) (mC (.int 3))) (mVar 5)) mNil))))) (mSl (mVar 1) (some (mC (.int 4))) none)) (mCons (mVar 4) mNil))))))))
def f__law_paid:Fn:=mkFn 2 b__law_paid
def b__law_lined_L1:MS:=(mSet 9 (mCall 3 [false,false,false] f__law_put (mCons (mVar 9) (mCons (mVar 6) (mCons (mVar 5) mNil)))))
def b__law_lined:MS:=(mSeq (mSet 4 (mIf (mTru (mVar 3)) (mCall 2 [false,false] f__law_low (mCons (mBin subD (mBin ixD (mVar 1) (mC (.int 4))) (mBin ixD (mBin ixD (mVar 1) (mC (.int 1))) (mVar 2))) (mCons (mBin ixD (mVar 1) (mC (.int 6))) mNil))) (mBin ixD (mVar 1) (mC (.int 4))))) (mSeq (mPar [7,8,9] (mConsN (mCall 3 [false,false,false] f__law_put (mCons (mBin ixD (mVar 1) (mC (.int 0))) (mCons (mVar 2) (mCons (mVar 3) mNil)))) (mConsN (mCall 2 [false,false] f__law_group (mCons (mVar 0) (mCons (mVar 2) mNil))) (mConsN (mBin ixD (mVar 1) (mC (.int 2))) mNil)))) (mSeq (mSet 5 (mAndV (mBin eqD (mLc [6] (iSeq (mVar 8)) (gN 6) (mTru (mBin ixD (mVar 7) (mVar 6))) (mVar 6)) (mCS lstD mNil)) (mCall 1 [false] f__law_stopped (mCons (mVar 1) mNil)))) (mSeq (mFor (iSeq (mVar 8)) (gN 6) b__law_lined_L1) (mRet (mCS lstD (mCons (mBin addD (mCS tupD (mCons (mVar 7) (mCons (mCall 3 [false,false,false] f__law_put (mCons (mBin ixD (mVar 1) (mC (.int 1))) (mCons (mVar 2) (mCons (mC (.int 0)) mNil)))) (mCons (mVar 9) (mCons (mBin ixD (mVar 1) (mC (.int 3))) (mCons (mVar 4) mNil)))))) (mSl (mVar 1) (some (mC (.int 5))) none)) (mCons (mC (.str s!"done")) mNil))))))))
def f__law_lined:Fn:=mkFn 6 b__law_lined
def b__law_after:MS:=(mSeq (mIfS (mBinB eqD (mBin ixD (mVar 2) (mC (.int 0))) (mC (.str s!"pay"))) (mRet (mCall 4 [false,false,false,false] f__law_paid (mCons (mVar 0) (mCons (mVar 1) (mCons (mMtT "list" indexD (mBin ixD (mVar 0) (mC (.str s!"names"))) (mCons (mBin ixD (mVar 2) (mC (.int 1))) mNil)) (mCons (mBin ixD (mVar 2) (mC (.int 2))) mNil)))))) mNext) (mSeq (mIfS (mBinB eqD (mBin ixD (mVar 2) (mC (.int 0))) (mC (.str s!"lose"))) (mRet (mCS lstD (mCons (mBin addD (mSl (mVar 1) none (some (mC (.int 4)))) (mCS tupD (mCons (mCall 2 [false,false] f__law_low (mCons (mBin ixD (mVar 1) (mC (.int 4))) (mCons (mC (.int 0)) mNil))) (mCons (mC (.bl true)) (mCons (mC (.int 0)) mNil))))) (mCons (mC (.str s!"done")) mNil)))) mNext) (mSeq (mIfS (mBinB eqD (mBin ixD (mVar 2) (mC (.int 0))) (mC (.str s!"top"))) (mRet (mCS lstD (mCons (mBin addD (mSl (mVar 1) none (some (mC (.int 4)))) (mCS tupD (mCons (mBin addD (mBin ixD (mVar 1) (mC (.int 4))) (mBin ixD (mVar 2) (mC (.int 1)))) (mCons (mBin ixD (mVar 1) (mC (.int 5))) (mCons (mBin subD (mBin ixD (mVar 1) (mC (.int 6))) (mBin ixD (mVar 2) (mC (.int 1)))) mNil))))) (mCons (mC (.str s!"done")) mNil)))) mNext) (mRet (mCall 4 [false,false,false,false] f__law_lined (mCons (mVar 0) (mCons (mVar 1) (mCons (mMtT "list" indexD (mBin ixD (mVar 0) (mC (.str s!"names"))) (mCons (mBin ixD (mVar 2) (mC (.int 1))) mNil)) (mCons (mBin eqD (mBin ixD (mVar 2) (mC (.int 0))) (mC (.str s!"line"))) mNil)))))))))
def f__law_after:Fn:=mkFn 0 b__law_after
def b__law_run_of_L1:MS:=(mSeq (mSet 6 (mCall 2 [true,false] f__law_pick (mCons (mVar 0) (mCons (mCall 2 [false,false] f__law_choices (mCons (mVar 1) (mCons (mVar 4) mNil))) mNil)))) (mPar [5,4] (mConsN (mBin addD (mVar 5) (mCS lstD (mCons (mVar 6) mNil))) (mConsN (mBin ixD (mCall 3 [false,false,false] f__law_after (mCons (mVar 1) (mCons (mVar 4) (mCons (mVar 6) mNil)))) (mC (.int 0))) mNil))))
def b__law_run_of:MS:=(mSeq (mPar [4,5] (mConsN (mCall 1 [false] f__law_first (mCons (mVar 1) mNil)) (mConsN (mCS lstD mNil) mNil))) (mSeq (mFor (iRange (mCons (mVar 2) mNil)) (gN 3) b__law_run_of_L1) (mRet (mVar 5))))
def f__law_run_of:Fn:=mkFn 4 b__law_run_of
def b__law_event_text:MS:=(mRet (mMtT "str" joinD (mC (.str s!" ")) (mCons (mLc [1] (iSeq (mVar 0)) (gN 1) mYes (mCB strD (mCons (mVar 1) mNil))) mNil)))
def f__law_event_text:Fn:=mkFn 1 b__law_event_text
def b_law_L1:MS:=(mIfS (mBinB neD (mCall 1 [false] f__law_refused (mCons (mVar 1) mNil)) (mCS lstD (mCons (mC (.str s!"text")) (mCons (mC .non) mNil)))) (mRet (mC (.bl false))) mNext)
def b_law_L2:MS:=(mSeq (mSet 10 (mCall 1 [false] f_read_events (mCons (mMtT "str" joinD (mC (.str s!"; ")) (mCons (mVar 6) mNil)) mNil))) (mSeq (mIfS (mOrB (mBinB neD (mVar 10) (mVar 5)) (mOrB (mBinB neD (mCall 1 [false] f_write_events (mCons (mVar 5) mNil)) (mMtT "str" joinD (mC (.str s!"; ")) (mCons (mVar 6) mNil))) (mBinB neD (mCall 1 [false] f_write_events (mCons (mCB tupleD (mCons (mVar 5) mNil)) mNil)) (mMtT "str" joinD (mC (.str s!"; ")) (mCons (mVar 6) mNil))))) (mRet (mC (.bl false))) mNext) (mExpr (mMutT "list" appendD (mVar 10) (mCons (mC .non) mNil)))))
def b_law_L3:MS:=(mSeq (mSet 11 (mMtT "str" joinD (mC (.str s!"; ")) (mCons (mBin addD (mBin addD (mBin addD (mSl (mVar 6) none (some (mVar 8))) (mCS lstD (mCons (mVar 1) mNil))) (mSl (mVar 6) (some (mBin addD (mVar 8) (mC (.int 1)))) none)) (mCS lstD (mCons (mC (.str s!"")) mNil))) mNil))) (mIfS (mBinB neD (mCall 1 [false] f__law_refused (mCons (mVar 11) mNil)) (mCS lstD (mCons (mC (.str s!"text")) (mCons (mVar 8) mNil)))) (mRet (mC (.bl false))) mNext))
def b_law_t7:MS:=(mFor (iSeq (mBin addD (mVar 9) (mCS lstD (mCons (mC (.str s!"pay a x")) (mCons (mC (.str s!"top")) (mCons (mC (.str s!"top -1")) (mCons (mC (.str s!"go a")) mNil))))))) (gN 1) b_law_L3)
def b_law_t6:MS:=(mSeq (mSet 9 (mCS lstD (mCons (mC (.str s!"")) (mCons (mC (.str s!"lose ")) (mCons (mC (.str s!" lose")) (mCons (mC (.str s!"Lose")) (mCons (mC (.str s!"lose it")) (mCons (mC (.str s!"cut")) (mCons (mC (.str s!"cut A")) (mCons (mC (.str s!"pay a")) (mCons (mC (.str s!"pay a 12")) mNil))))))))))) b_law_t7)
def b_law_t5:MS:=(mSeq (mSet 8 (mCall 2 [true,false] f__law_draw (mCons (mVar 3) (mCons (mCB lenD (mCons (mVar 6) mNil)) mNil)))) b_law_t6)
def b_law_t4:MS:=(mSeq (mFor (iRange (mCons (mC (.int 2)) mNil)) (gN 7) b_law_L2) b_law_t5)
def b_law_t3:MS:=(mSeq (mSet 6 (mLc [12] (iSeq (mVar 5)) (gN 12) mYes (mCall 1 [false] f__law_event_text (mCons (mVar 12) mNil)))) b_law_t4)
def b_law_t2:MS:=(mSeq (mSet 5 (mCall 3 [true,false,false] f__law_run_of (mCons (mVar 3) (mCons (mVar 4) (mCons (mBin addD (mC (.int 1)) (mCall 2 [true,false] f__law_draw (mCons (mVar 3) (mCons (mC (.int 10)) mNil)))) mNil))))) b_law_t3)
def b_law_t1:MS:=(mSeq (mSet 4 (mCall 3 [true,false,false] f__law_plan (mCons (mVar 3) (mCons (mC (.int 3)) (mCons (mC (.int 3)) mNil))))) b_law_t2)
def b_law_L4:MS:=(mSeq (mSet 3 (mCall 2 [false,false] f__law_pool (mCons (mVar 0) (mCons (mVar 2) mNil)))) b_law_t1)
def b_law:MS:=(mSeq (mIfS (mOrB (mBinB neD (mCall 1 [false] f_write_events (mCons (mCS lstD mNil) mNil)) (mC (.str s!""))) (mOrB (mBinB neD (mCall 1 [false] f_read_events (mCons (mC (.str s!"")) mNil)) (mCS lstD mNil)) (mBinB neD (mCall 1 [false] f_read_events (mCons (mC (.str s!"again a")) mNil)) (mCS lstD (mCons (mCS tupD (mCons (mC (.str s!"again")) (mCons (mC (.str s!"a")) mNil))) mNil))))) (mRet (mC (.bl false))) mNext) (mSeq (mFor (iSeq (mCS lstD (mCons (mC .non) (mCons (mC (.int 5)) (mCons (mCS lstD (mCons (mC (.str s!"lose")) mNil)) (mCons (mC (.bl true)) mNil)))))) (gN 1) b_law_L1) (mSeq (mFor (iRange (mCons (mCB maxD (mCons (mC (.int 1)) (mCons (mCB minD (mCons (mCB lenD (mCons (mVar 0) mNil)) (mCons (mC (.int 6)) mNil))) mNil))) mNil)) (gN 2) b_law_L4) (mRet (mC (.bl true))))))
def f_law:Fn:=mkFn 12 b_law
abbrev N_event_text:List PySem.Str:=[s!"event",s!"item"]
abbrev P_event_text:List PySem.Str:=[s!"event"]
abbrev N_write_events:List PySem.Str:=[s!"events",s!"event"]
abbrev P_write_events:List PySem.Str:=[s!"events"]
abbrev N_is_name:List PySem.Str:=[s!"value",s!"sign"]
abbrev P_is_name:List PySem.Str:=[s!"value"]
abbrev N_is_figure:List PySem.Str:=[s!"word"]
abbrev P_is_figure:List PySem.Str:=[s!"word"]
abbrev N_event_in:List PySem.Str:=[s!"text",s!"words"]
abbrev P_event_in:List PySem.Str:=[s!"text"]
abbrev N_read_events:List PySem.Str:=[s!"text",s!"found",s!"index",s!"row",s!"event"]
abbrev P_read_events:List PySem.Str:=[s!"text"]
abbrev N__law_refused:List PySem.Str:=[s!"_law_text",s!"_law_told",s!"e"]
abbrev P__law_refused:List PySem.Str:=[s!"_law_text"]
abbrev N__law_pool:List PySem.Str:=[s!"_law_script",s!"_law_k",s!"_law_cell",s!"_law_size",s!"_law_mixed"]
abbrev P__law_pool:List PySem.Str:=[s!"_law_script",s!"_law_k"]
abbrev N__law_draw:List PySem.Str:=[s!"_law_pool_here",s!"_law_many",s!"_law_found"]
abbrev P__law_draw:List PySem.Str:=[s!"_law_pool_here",s!"_law_many"]
abbrev N__law_pick:List PySem.Str:=[s!"_law_pool_here",s!"_law_row"]
abbrev P__law_pick:List PySem.Str:=[s!"_law_pool_here",s!"_law_row"]
abbrev N__law_names:List PySem.Str:=[s!"_law_pool_here",s!"_law_count",s!"_law_signs",s!"_law_ends",s!"_law_origin",s!"_law_step",s!"_law_head",s!"_law_tail",s!"_law_k"]
abbrev P__law_names:List PySem.Str:=[s!"_law_pool_here",s!"_law_count"]
abbrev N__law_plan:List PySem.Str:=[s!"_law_pool_here",s!"_law_many",s!"_law_most",s!"_law_names_here",s!"_law_t",s!"_law_one",s!"_law_other",s!"_law_name",s!"_law_pair"]
abbrev P__law_plan:List PySem.Str:=[s!"_law_pool_here",s!"_law_many",s!"_law_most"]
abbrev N__law_first:List PySem.Str:=[s!"_law_t",s!"_law_many"]
abbrev P__law_first:List PySem.Str:=[s!"_law_t"]
abbrev N__law_events:List PySem.Str:=[s!"_law_t",s!"_law_found",s!"_law_name"]
abbrev P__law_events:List PySem.Str:=[s!"_law_t"]
abbrev N__law_can:List PySem.Str:=[s!"_law_t",s!"_law_s",s!"_law_event"]
abbrev P__law_can:List PySem.Str:=[s!"_law_t",s!"_law_s",s!"_law_event"]
abbrev N__law_choices:List PySem.Str:=[s!"_law_t",s!"_law_s",s!"_law_event"]
abbrev P__law_choices:List PySem.Str:=[s!"_law_t",s!"_law_s"]
abbrev N__law_group:List PySem.Str:=[s!"_law_t",s!"_law_at",s!"_law_turn",s!"_law_found",s!"_law_names_here",s!"_law_one",s!"_law_near",s!"_law_other"]
abbrev P__law_group:List PySem.Str:=[s!"_law_t",s!"_law_at"]
abbrev N__law_stopped:List PySem.Str:=[s!"_law_s"]
abbrev P__law_stopped:List PySem.Str:=[s!"_law_s"]
abbrev N__law_word:List PySem.Str:=[s!"_law_t",s!"_law_s",s!"_law_at",s!"_law_units",s!"_law_group_here",s!"_law_knows",s!"_law_cost",s!"_law_one"]
abbrev P__law_word:List PySem.Str:=[s!"_law_t",s!"_law_s",s!"_law_at",s!"_law_units"]
abbrev N__law_low:List PySem.Str:=[s!"_law_left",s!"_law_more"]
abbrev P__law_low:List PySem.Str:=[s!"_law_left",s!"_law_more"]
abbrev N__law_put:List PySem.Str:=[s!"_law_row",s!"_law_at",s!"_law_value"]
abbrev P__law_put:List PySem.Str:=[s!"_law_row",s!"_law_at",s!"_law_value"]
abbrev N__law_paid:List PySem.Str:=[s!"_law_t",s!"_law_s",s!"_law_at",s!"_law_units",s!"_law_word_here",s!"_law_cost"]
abbrev P__law_paid:List PySem.Str:=[s!"_law_t",s!"_law_s",s!"_law_at",s!"_law_units"]
abbrev N__law_lined:List PySem.Str:=[s!"_law_t",s!"_law_s",s!"_law_at",s!"_law_has_line",s!"_law_left",s!"_law_has_heard",s!"_law_one",s!"_law_lines",s!"_law_group_here",s!"_law_heard"]
abbrev P__law_lined:List PySem.Str:=[s!"_law_t",s!"_law_s",s!"_law_at",s!"_law_has_line"]
abbrev N__law_after:List PySem.Str:=[s!"_law_t",s!"_law_s",s!"_law_event"]
abbrev P__law_after:List PySem.Str:=[s!"_law_t",s!"_law_s",s!"_law_event"]
abbrev N__law_run_of:List PySem.Str:=[s!"_law_pool_here",s!"_law_t",s!"_law_many",s!"_law_turn",s!"_law_s",s!"_law_run",s!"_law_event"]
abbrev P__law_run_of:List PySem.Str:=[s!"_law_pool_here",s!"_law_t",s!"_law_many"]
abbrev N__law_event_text:List PySem.Str:=[s!"_law_event",s!"_law_one"]
abbrev P__law_event_text:List PySem.Str:=[s!"_law_event"]
abbrev N_law:List PySem.Str:=[s!"_law_script",s!"_law_odd",s!"_law_k",s!"_law_pool_here",s!"_law_t",s!"_law_run",s!"_law_words",s!"_law_turn",s!"_law_at",s!"_law_odds",s!"_law_told",s!"_law_text",s!"_law_event"]
abbrev P_law:List PySem.Str:=[s!"_law_script"]
abbrev N_BadText___init__:List PySem.Str:=[s!"self",s!"index"]
abbrev P_BadText___init__:List PySem.Str:=[s!"self",s!"index"]
def G (P:Program)(w:World)(K:PySem.W.Frag):Gx:=⟨K,cl K,fun _=>0,P,w⟩
structure Fx (P:Program)(w:World)(K:PySem.W.Frag)(mg:PySem.Str→Option Value):Prop where
 tab:TabOk (G P w K) T
 b_abs:mg s!"abs"=none
 b_all:mg s!"all"=none
 b_enumerate:mg s!"enumerate"=none
 b_int:mg s!"int"=none
 b_isinstance:mg s!"isinstance"=none
 b_len:mg s!"len"=none
 b_max:mg s!"max"=none
 b_min:mg s!"min"=none
 b_range:mg s!"range"=none
 b_sorted:mg s!"sorted"=none
 b_str:mg s!"str"=none
 b_sum:mg s!"sum"=none
 b_tuple:mg s!"tuple"=none
 c_FIGURES:∃ t,mg s!"FIGURES"=some (.str s!"0123456789" t)
 c_LETTERS:∃ t,mg s!"LETTERS"=some (.str s!"abcdefghijklmnopqrstuvwxyz" t)
 c_MOST_LETTERS:∃ t,mg s!"MOST_LETTERS"=some (.int (8) t)
 gc_BadText:mg s!"BadText"=some (.ref (He.ga K s!"BadText"))
 d_event_text:∃ fd,FunD K s!"event_text" s!"event_text" (defArgs s_event_text) (defBody s_event_text) (defScope s_event_text) [] [] (He.fAd K (s!"event_text",none)) fd
 g_event_text:mg s!"event_text"=some (.ref (He.fAd K (s!"event_text",none)))
 d_write_events:∃ fd,FunD K s!"write_events" s!"write_events" (defArgs s_write_events) (defBody s_write_events) (defScope s_write_events) [] [] (He.fAd K (s!"write_events",none)) fd
 g_write_events:mg s!"write_events"=some (.ref (He.fAd K (s!"write_events",none)))
 d_is_name:∃ fd,FunD K s!"is_name" s!"is_name" (defArgs s_is_name) (defBody s_is_name) (defScope s_is_name) [] [] (He.fAd K (s!"is_name",none)) fd
 g_is_name:mg s!"is_name"=some (.ref (He.fAd K (s!"is_name",none)))
 d_is_figure:∃ fd,FunD K s!"is_figure" s!"is_figure" (defArgs s_is_figure) (defBody s_is_figure) (defScope s_is_figure) [] [] (He.fAd K (s!"is_figure",none)) fd
 g_is_figure:mg s!"is_figure"=some (.ref (He.fAd K (s!"is_figure",none)))
 d_event_in:∃ fd,FunD K s!"event_in" s!"event_in" (defArgs s_event_in) (defBody s_event_in) (defScope s_event_in) [] [] (He.fAd K (s!"event_in",none)) fd
 g_event_in:mg s!"event_in"=some (.ref (He.fAd K (s!"event_in",none)))
 d_read_events:∃ fd,FunD K s!"read_events" s!"read_events" (defArgs s_read_events) (defBody s_read_events) (defScope s_read_events) [] [] (He.fAd K (s!"read_events",none)) fd
 g_read_events:mg s!"read_events"=some (.ref (He.fAd K (s!"read_events",none)))
 d__law_refused:∃ fd,FunD K s!"_law_refused" s!"_law_refused" (defArgs s__law_refused) (defBody s__law_refused) (defScope s__law_refused) [] [] (He.fAd K (s!"_law_refused",none)) fd
 g__law_refused:mg s!"_law_refused"=some (.ref (He.fAd K (s!"_law_refused",none)))
 d__law_pool:∃ fd,FunD K s!"_law_pool" s!"_law_pool" (defArgs s__law_pool) (defBody s__law_pool) (defScope s__law_pool) [] [] (He.fAd K (s!"_law_pool",none)) fd
 g__law_pool:mg s!"_law_pool"=some (.ref (He.fAd K (s!"_law_pool",none)))
 d__law_draw:∃ fd,FunD K s!"_law_draw" s!"_law_draw" (defArgs s__law_draw) (defBody s__law_draw) (defScope s__law_draw) [] [] (He.fAd K (s!"_law_draw",none)) fd
 g__law_draw:mg s!"_law_draw"=some (.ref (He.fAd K (s!"_law_draw",none)))
 d__law_pick:∃ fd,FunD K s!"_law_pick" s!"_law_pick" (defArgs s__law_pick) (defBody s__law_pick) (defScope s__law_pick) [] [] (He.fAd K (s!"_law_pick",none)) fd
 g__law_pick:mg s!"_law_pick"=some (.ref (He.fAd K (s!"_law_pick",none)))
 d__law_names:∃ fd,FunD K s!"_law_names" s!"_law_names" (defArgs s__law_names) (defBody s__law_names) (defScope s__law_names) [] [] (He.fAd K (s!"_law_names",none)) fd
 g__law_names:mg s!"_law_names"=some (.ref (He.fAd K (s!"_law_names",none)))
 d__law_plan:∃ fd,FunD K s!"_law_plan" s!"_law_plan" (defArgs s__law_plan) (defBody s__law_plan) (defScope s__law_plan) [] [] (He.fAd K (s!"_law_plan",none)) fd
 g__law_plan:mg s!"_law_plan"=some (.ref (He.fAd K (s!"_law_plan",none)))
 d__law_first:∃ fd,FunD K s!"_law_first" s!"_law_first" (defArgs s__law_first) (defBody s__law_first) (defScope s__law_first) [] [] (He.fAd K (s!"_law_first",none)) fd
 g__law_first:mg s!"_law_first"=some (.ref (He.fAd K (s!"_law_first",none)))
 d__law_events:∃ fd,FunD K s!"_law_events" s!"_law_events" (defArgs s__law_events) (defBody s__law_events) (defScope s__law_events) [] [] (He.fAd K (s!"_law_events",none)) fd
 g__law_events:mg s!"_law_events"=some (.ref (He.fAd K (s!"_law_events",none)))
 d__law_can:∃ fd,FunD K s!"_law_can" s!"_law_can" (defArgs s__law_can) (defBody s__law_can) (defScope s__law_can) [] [] (He.fAd K (s!"_law_can",none)) fd
 g__law_can:mg s!"_law_can"=some (.ref (He.fAd K (s!"_law_can",none)))
 d__law_choices:∃ fd,FunD K s!"_law_choices" s!"_law_choices" (defArgs s__law_choices) (defBody s__law_choices) (defScope s__law_choices) [] [] (He.fAd K (s!"_law_choices",none)) fd
 g__law_choices:mg s!"_law_choices"=some (.ref (He.fAd K (s!"_law_choices",none)))
 d__law_group:∃ fd,FunD K s!"_law_group" s!"_law_group" (defArgs s__law_group) (defBody s__law_group) (defScope s__law_group) [] [] (He.fAd K (s!"_law_group",none)) fd
 g__law_group:mg s!"_law_group"=some (.ref (He.fAd K (s!"_law_group",none)))
 d__law_stopped:∃ fd,FunD K s!"_law_stopped" s!"_law_stopped" (defArgs s__law_stopped) (defBody s__law_stopped) (defScope s__law_stopped) [] [] (He.fAd K (s!"_law_stopped",none)) fd
 g__law_stopped:mg s!"_law_stopped"=some (.ref (He.fAd K (s!"_law_stopped",none)))
 d__law_word:∃ fd,FunD K s!"_law_word" s!"_law_word" (defArgs s__law_word) (defBody s__law_word) (defScope s__law_word) [] [] (He.fAd K (s!"_law_word",none)) fd
 g__law_word:mg s!"_law_word"=some (.ref (He.fAd K (s!"_law_word",none)))
 d__law_low:∃ fd,FunD K s!"_law_low" s!"_law_low" (defArgs s__law_low) (defBody s__law_low) (defScope s__law_low) [] [] (He.fAd K (s!"_law_low",none)) fd
 g__law_low:mg s!"_law_low"=some (.ref (He.fAd K (s!"_law_low",none)))
 d__law_put:∃ fd,FunD K s!"_law_put" s!"_law_put" (defArgs s__law_put) (defBody s__law_put) (defScope s__law_put) [] [] (He.fAd K (s!"_law_put",none)) fd
 g__law_put:mg s!"_law_put"=some (.ref (He.fAd K (s!"_law_put",none)))
 d__law_paid:∃ fd,FunD K s!"_law_paid" s!"_law_paid" (defArgs s__law_paid) (defBody s__law_paid) (defScope s__law_paid) [] [] (He.fAd K (s!"_law_paid",none)) fd
 g__law_paid:mg s!"_law_paid"=some (.ref (He.fAd K (s!"_law_paid",none)))
 d__law_lined:∃ fd,FunD K s!"_law_lined" s!"_law_lined" (defArgs s__law_lined) (defBody s__law_lined) (defScope s__law_lined) [] [] (He.fAd K (s!"_law_lined",none)) fd
 g__law_lined:mg s!"_law_lined"=some (.ref (He.fAd K (s!"_law_lined",none)))
 d__law_after:∃ fd,FunD K s!"_law_after" s!"_law_after" (defArgs s__law_after) (defBody s__law_after) (defScope s__law_after) [] [] (He.fAd K (s!"_law_after",none)) fd
 g__law_after:mg s!"_law_after"=some (.ref (He.fAd K (s!"_law_after",none)))
 d__law_run_of:∃ fd,FunD K s!"_law_run_of" s!"_law_run_of" (defArgs s__law_run_of) (defBody s__law_run_of) (defScope s__law_run_of) [] [] (He.fAd K (s!"_law_run_of",none)) fd
 g__law_run_of:mg s!"_law_run_of"=some (.ref (He.fAd K (s!"_law_run_of",none)))
 d__law_event_text:∃ fd,FunD K s!"_law_event_text" s!"_law_event_text" (defArgs s__law_event_text) (defBody s__law_event_text) (defScope s__law_event_text) [] [] (He.fAd K (s!"_law_event_text",none)) fd
 g__law_event_text:mg s!"_law_event_text"=some (.ref (He.fAd K (s!"_law_event_text",none)))
 d_law:∃ fd,FunD K s!"law" s!"law" (defArgs s_law) (defBody s_law) (defScope s_law) [] [] (He.fAd K (s!"law",none)) fd
 g_law:mg s!"law"=some (.ref (He.fAd K (s!"law",none)))
 d_BadText___init__:∃ fd,FunD K s!"__init__" s!"BadText.__init__" (defArgs s_BadText___init__) (defBody s_BadText___init__) (defScope s_BadText___init__) [] [] (He.fAd K (s!"BadText",some s!"__init__")) fd
 xc_BadText:XC K (He.ga K s!"BadText") [.type "ValueError",.type "Exception",.type "BaseException",.type "object"] "ValueError.__new__"
 xi0_BadText:PySem.W.findIn K (.ref (He.ga K s!"BadText")) "__init__"=some (some (.ref (He.fAd K (s!"BadText",some s!"__init__"))))∧PySem.W.typeIn K (.ref (He.fAd K (s!"BadText",some s!"__init__")))=some (.type "function")
 xb_BadText:PySem.W.specialIn K (.ref (He.ga K s!"TownError")) "__getattribute__"=some (some (.builtin "type.__getattribute__"))∧PySem.W.readsIn K (He.ga K s!"TownError") (.type "type")=true∧PySem.W.findCls K (.ref (He.ga K s!"TownError")) (.type "type") "__init__"=some (.val (.builtin "ValueError.__init__"))∧mg s!"TownError"=some (.ref (He.ga K s!"TownError"))
 xn_BadText:PySem.W.findIn K (.ref (He.ga K s!"BadText")) s!"index"=some none
 xf_BadText:XfC K (He.ga K s!"BadText")
 xi_BadText:ExcC K (He.ga K s!"BadText")
 xl:xlB K (cl K) XL=true
variable {P:Program}{w:World}{K:PySem.W.Frag}{mg:PySem.Str→Option Value}{base:Heap}{Θ:List NdefX.NTab}
theorem xt_ok_BadText (Z:Fx P w K mg):∀ e b,xt_BadText e=some b→PySem.W.exmOne K (ecV (G P w K) e) (.ref (He.ga K s!"BadText"))=some b:=fun e b h=>match e,h with | .own c,h=>xl_ok (cl:=cl K) (b:=1) Z.xl h
theorem sc_BadText___init__:FnScope N_BadText___init__ P_BadText___init__ (defScope s_BadText___init__):=⟨rfl,rfl,rfl,by decide +kernel,rfl,by decide +kernel,by decide +kernel⟩
theorem xc_BadText (Z:Fx P w K mg):XcFact P w K mg base (G P w K) s!"BadText" C_BadText 1 s!"index":=by
 obtain ⟨fd,F⟩:=Z.d_BadText___init__
 exact ⟨_,_,_,_,_,fd,P_BadText___init__,eb_ve,Z.xc_BadText,Z.xn_BadText,Z.gc_BadText,Z.xi0_BadText.1,Z.xi0_BadText.2,F.bindsN fun _ _ _ _ _ _ us hl=>match us,hl with | [_,_],_=>rfl,okx_of eb_ve F sc_BadText___init__ (fun cdv A outer s H E=>base_own Z.xb_BadText.2.2.2 Z.xb_BadText.1 Z.xb_BadText.2.1 Z.xb_BadText.2.2.1) (by first | exact Or.inl rfl | exact Or.inr (Or.inl rfl)) (by first | exact Or.inl rfl | exact Or.inr (Or.inl rfl)) (by decide) (by decide) (by decide) (by decide)⟩
theorem sc_event_text:FnScope N_event_text P_event_text (defScope s_event_text):=⟨rfl,rfl,rfl,by decide +kernel,rfl,by decide +kernel,by decide +kernel⟩
theorem okf_event_text (Z:Fx P w K mg){fd:FuncData}(F:FunD K s!"event_text" s!"event_text" (defArgs s_event_text) (defBody s_event_text) (defScope s_event_text) [] [] (He.fAd K (s!"event_text",none)) fd):FnOkG P w K mg base 1 (He.fAd K (s!"event_text",none)) fd P_event_text (spF (G P w K) Θ 1 f_event_text):=by
 refine okf_of F sc_event_text rfl rfl fun cdv A outer s H vs E U hr=>?_
 refine kitS hr sc_event_text fun nd u1 u64 u65 u190 gd tk hp=>?_
 exact (js_one (js_ret (je_mt PySem.F.plainAttrs_str PySem.F.slot_str_join PySem.F.type_str_join mt_join joinD_ok rfl je_str (ja_cons (je_lc (own:=[(s!"item",1)]) (g:=(gName 1)) rfl nd (ji_seq rfl (je_var 0)) (blkOk_by (own:=[(s!"item",1)]) (N:=N_event_text) (sc:=defScope s_event_text) (by decide +kernel)) (by exact fun _=>(tv_name (by decide))) (fun _ _ _ _ _=>(pgN 1 nd)) (fun _ _ _ _ _ _=>jts_nil) (fun _ _ _ _ _ _=>(je_callTy call_strAll strD_ok Z.b_str (by decide +kernel) (ja_cons (je_var 1) ja_nil)))) ja_nil))))
theorem fact_event_text (Z:Fx P w K mg):FnFact P w K mg base (G P w K) Θ s!"event_text" 1 1 P_event_text f_event_text:=by
 obtain ⟨fd,F⟩:=Z.d_event_text
 exact fact_of F Z.g_event_text (fun _ _ _ _ _ _ us hl=>match us,hl with | [_],_=>rfl) (okf_event_text Z F)
theorem sc_write_events:FnScope N_write_events P_write_events (defScope s_write_events):=⟨rfl,rfl,rfl,by decide +kernel,rfl,by decide +kernel,by decide +kernel⟩
theorem okf_write_events (Z:Fx P w K mg){fd:FuncData}(F:FunD K s!"write_events" s!"write_events" (defArgs s_write_events) (defBody s_write_events) (defScope s_write_events) [] [] (He.fAd K (s!"write_events",none)) fd):FnOkG P w K mg base 2 (He.fAd K (s!"write_events",none)) fd P_write_events (spF (G P w K) Θ 1 f_write_events):=by
 refine okf_of F sc_write_events rfl rfl fun cdv A outer s H vs E U hr=>?_
 refine kitS hr sc_write_events fun nd u1 u64 u65 u190 gd tk hp=>?_
 exact (js_one (js_ret (je_mt PySem.F.plainAttrs_str PySem.F.slot_str_join PySem.F.type_str_join mt_join joinD_ok rfl je_str (ja_cons (je_lc (own:=[(s!"event",1)]) (g:=(gName 1)) rfl nd (ji_seq rfl (je_var 0)) (blkOk_by (own:=[(s!"event",1)]) (N:=N_write_events) (sc:=defScope s_write_events) (by decide +kernel)) (by exact fun _=>(tv_name (by decide))) (fun _ _ _ _ _=>(pgN 1 nd)) (fun _ _ _ _ _ _=>jts_nil) (fun _ _ _ _ _ _=>(je_callF takes0 (fact_event_text Z) (hr.mono (by decide)) (ja_cons (je_var 1) ja_nil)))) ja_nil))))
theorem fact_write_events (Z:Fx P w K mg):FnFact P w K mg base (G P w K) Θ s!"write_events" 1 2 P_write_events f_write_events:=by
 obtain ⟨fd,F⟩:=Z.d_write_events
 exact fact_of F Z.g_write_events (fun _ _ _ _ _ _ us hl=>match us,hl with | [_],_=>rfl) (okf_write_events Z F)
theorem sc_is_name:FnScope N_is_name P_is_name (defScope s_is_name):=⟨rfl,rfl,rfl,by decide +kernel,rfl,by decide +kernel,by decide +kernel⟩
theorem okf_is_name (Z:Fx P w K mg){fd:FuncData}(F:FunD K s!"is_name" s!"is_name" (defArgs s_is_name) (defBody s_is_name) (defScope s_is_name) [] [] (He.fAd K (s!"is_name",none)) fd):FnOkG P w K mg base 1 (He.fAd K (s!"is_name",none)) fd P_is_name (spF (G P w K) Θ 1 f_is_name):=by
 refine okf_of F sc_is_name rfl rfl fun cdv A outer s H vs E U hr=>?_
 refine kitS hr sc_is_name fun nd u1 u64 u65 u190 gd tk hp=>?_
 exact (js_one (js_ret (je_and (je_callB call_isiAll (by exact isiD_ok Z.tab) Z.b_isinstance (by decide +kernel) (ja_cons (je_var 0) (ja_cons (je_ty Z.b_str (by decide +kernel)) ja_nil))) (je_and (je_chain op_le op_le leD_ok leD_ok je_int (je_callB call_lenAll lenD_ok Z.b_len boot_len (ja_cons (je_var 0) ja_nil)) (je_gint Z.c_MOST_LETTERS)) (pe_one (je_callB (cr_all rfl) allD_ok Z.b_all (by decide +kernel) (ja_cons (je_lc (own:=[(s!"sign",1)]) (g:=(gName 1)) rfl nd (ji_seq rfl (je_var 0)) (blkOk_by (own:=[(s!"sign",1)]) (N:=N_is_name) (sc:=defScope s_is_name) (by decide +kernel)) (by exact fun _=>(tv_name (by decide))) (fun _ _ _ _ _=>(pgN 1 nd)) (fun _ _ _ _ _ _=>jts_nil) (fun _ _ _ _ _ _=>(je_cmp (op_inB u65) inD_ok (je_var 1) (je_gstr Z.c_LETTERS) rfl))) ja_nil)))))))
theorem fact_is_name (Z:Fx P w K mg):FnFact P w K mg base (G P w K) Θ s!"is_name" 1 1 P_is_name f_is_name:=by
 obtain ⟨fd,F⟩:=Z.d_is_name
 exact fact_of F Z.g_is_name (fun _ _ _ _ _ _ us hl=>match us,hl with | [_],_=>rfl) (okf_is_name Z F)
theorem sc_is_figure:FnScope N_is_figure P_is_figure (defScope s_is_figure):=⟨rfl,rfl,rfl,by decide +kernel,rfl,by decide +kernel,by decide +kernel⟩
theorem okf_is_figure (Z:Fx P w K mg){fd:FuncData}(F:FunD K s!"is_figure" s!"is_figure" (defArgs s_is_figure) (defBody s_is_figure) (defScope s_is_figure) [] [] (He.fAd K (s!"is_figure",none)) fd):FnOkG P w K mg base 1 (He.fAd K (s!"is_figure",none)) fd P_is_figure (spF (G P w K) Θ 1 f_is_figure):=by
 refine okf_of F sc_is_figure rfl rfl fun cdv A outer s H vs E U hr=>?_
 refine kitS hr sc_is_figure fun nd u1 u64 u65 u190 gd tk hp=>?_
 exact (js_one (js_ret (je_and (je_cmp (op_eqAll u64) eqD_ok (je_callB call_lenAll lenD_ok Z.b_len boot_len (ja_cons (je_var 0) ja_nil)) je_int (nomark _)) (pe_one (je_cmp (op_inB u65) inD_ok (je_var 0) (je_gstr Z.c_FIGURES) rfl)))))
theorem fact_is_figure (Z:Fx P w K mg):FnFact P w K mg base (G P w K) Θ s!"is_figure" 1 1 P_is_figure f_is_figure:=by
 obtain ⟨fd,F⟩:=Z.d_is_figure
 exact fact_of F Z.g_is_figure (fun _ _ _ _ _ _ us hl=>match us,hl with | [_],_=>rfl) (okf_is_figure Z F)
theorem sc_event_in:FnScope N_event_in P_event_in (defScope s_event_in):=⟨rfl,rfl,rfl,by decide +kernel,rfl,by decide +kernel,by decide +kernel⟩
theorem okf_event_in (Z:Fx P w K mg){fd:FuncData}(F:FunD K s!"event_in" s!"event_in" (defArgs s_event_in) (defBody s_event_in) (defScope s_event_in) [] [] (He.fAd K (s!"event_in",none)) fd):FnOkG P w K mg base 2 (He.fAd K (s!"event_in",none)) fd P_event_in (spF (G P w K) Θ 1 f_event_in):=by
 refine okf_of F sc_event_in rfl rfl fun cdv A outer s H vs E U hr=>?_
 refine kitS hr sc_event_in fun nd u1 u64 u65 u190 gd tk hp=>?_
 exact (js_cons (jsN 1 nd (je_mt PySem.F.plainAttrs_str PySem.F.slot_str_split PySem.F.type_str_split mt_splitD splitD_ok rfl (je_var 0) (ja_cons je_str ja_nil))) (js_cons (js_if (jt_cmp (op_eqAll u64) eqD_ok (je_var 1) (je_lst (ja_cons je_str ja_nil)) (nomark _)) (js_one (js_ret (je_tup (ja_cons je_str ja_nil)))) js_nil) (js_cons (js_if (L2.PW.pt (jw_and (jt_cmp (op_eqAll u64) eqD_ok (je_callB call_lenAll lenD_ok Z.b_len boot_len (ja_cons (je_var 1) ja_nil)) je_int (nomark _)) (jw_and (jt_cmp (op_inB u65) inD_ok (je_ix rfl u1 (je_var 1) je_int) (je_tup (ja_cons je_str (ja_cons je_str (ja_cons je_str ja_nil)))) rfl) (pw_and1 (jt_tru rfl (je_callF tk (fact_is_name Z) (hr.mono (by decide)) (ja_cons (je_ix rfl u1 (je_var 1) je_int) ja_nil))))))) (js_one (js_ret (je_tup (ja_cons (je_ix rfl u1 (je_var 1) je_int) (ja_cons (je_ix rfl u1 (je_var 1) je_int) ja_nil))))) js_nil) (js_cons (js_if (L2.PW.pt (jw_and (jt_cmp (op_eqAll u64) eqD_ok (je_callB call_lenAll lenD_ok Z.b_len boot_len (ja_cons (je_var 1) ja_nil)) je_int (nomark _)) (jw_and (jt_cmp (op_eqAll u64) eqD_ok (je_ix rfl u1 (je_var 1) je_int) je_str (nomark _)) (pw_and1 (jt_tru rfl (je_callF tk (fact_is_figure Z) (hr.mono (by decide)) (ja_cons (je_ix rfl u1 (je_var 1) je_int) ja_nil))))))) (js_one (js_ret (je_tup (ja_cons je_str (ja_cons (je_callTy (call_int1.or call_intT) (CallOk.or intD_ok intTD_ok) Z.b_int (by decide +kernel) (ja_cons (je_ix rfl u1 (je_var 1) je_int) ja_nil)) ja_nil))))) js_nil) (js_cons (js_if (L2.PW.pt (jw_and (jt_cmp (op_eqAll u64) eqD_ok (je_callB call_lenAll lenD_ok Z.b_len boot_len (ja_cons (je_var 1) ja_nil)) je_int (nomark _)) (jw_and (jt_cmp (op_eqAll u64) eqD_ok (je_ix rfl u1 (je_var 1) je_int) je_str (nomark _)) (jw_and (jt_tru rfl (je_callF tk (fact_is_name Z) (hr.mono (by decide)) (ja_cons (je_ix rfl u1 (je_var 1) je_int) ja_nil))) (pw_and1 (jt_tru rfl (je_callF tk (fact_is_figure Z) (hr.mono (by decide)) (ja_cons (je_ix rfl u1 (je_var 1) je_int) ja_nil)))))))) (js_one (js_ret (je_tup (ja_cons je_str (ja_cons (je_ix rfl u1 (je_var 1) je_int) (ja_cons (je_callTy (call_int1.or call_intT) (CallOk.or intD_ok intTD_ok) Z.b_int (by decide +kernel) (ja_cons (je_ix rfl u1 (je_var 1) je_int) ja_nil)) ja_nil)))))) js_nil) (js_one (js_ret je_non)))))))
theorem fact_event_in (Z:Fx P w K mg):FnFact P w K mg base (G P w K) Θ s!"event_in" 1 2 P_event_in f_event_in:=by
 obtain ⟨fd,F⟩:=Z.d_event_in
 exact fact_of F Z.g_event_in (fun _ _ _ _ _ _ us hl=>match us,hl with | [_],_=>rfl) (okf_event_in Z F)
theorem sc_read_events:FnScope N_read_events P_read_events (defScope s_read_events):=⟨rfl,rfl,rfl,by decide +kernel,rfl,by decide +kernel,by decide +kernel⟩
theorem okf_read_events (Z:Fx P w K mg){fd:FuncData}(F:FunD K s!"read_events" s!"read_events" (defArgs s_read_events) (defBody s_read_events) (defScope s_read_events) [] [] (He.fAd K (s!"read_events",none)) fd):FnOkG P w K mg base 3 (He.fAd K (s!"read_events",none)) fd P_read_events (spF (G P w K) Θ 1 f_read_events):=by
 refine okf_of F sc_read_events rfl rfl fun cdv A outer s H vs E U hr=>?_
 refine kitS hr sc_read_events fun nd u1 u64 u65 u190 gd tk hp=>?_
 exact (js_cons (js_if (jt_not (jt_tru rfl (je_callB call_isiAll (by exact isiD_ok Z.tab) Z.b_isinstance (by decide +kernel) (ja_cons (je_var 0) (ja_cons (je_ty Z.b_str (by decide +kernel)) ja_nil))))) (js_one (js_raise rfl tk (xc_BadText Z) (hr.mono (by decide)) je_non)) js_nil) (js_cons (jsN 1 nd (je_lst ja_nil)) (js_cons (js_for hp rfl (ji_enm rfl Z.b_enumerate (ja_cons (je_if (jt_cmp (op_neAll u64) neD_ok (je_var 0) je_str (nomark _)) (je_mt PySem.F.plainAttrs_str PySem.F.slot_str_split PySem.F.type_str_split mt_splitD splitD_ok rfl (je_var 0) (ja_cons je_str ja_nil)) (je_lst ja_nil)) ja_nil)) (pg_tup rfl (pgs_cons (pgN 2 nd) (pgs_cons (pgN 3 nd) pgs_nil))) (tg_tup (tgs_cons tg_name (tgs_cons tg_name tgs_nil))) (js_cons (jsN 4 nd (je_callF tk (fact_event_in Z) (hr.mono (by decide)) (ja_cons (je_var 3) ja_nil))) (js_cons (js_if (jt_cmp op_isD isD_ok (je_var 4) je_non (nomark _)) (js_one (js_raise rfl tk (xc_BadText Z) (hr.mono (by decide)) (je_var 2))) js_nil) (js_one (js_expr (je_mut PySem.F.plainAttrs_list PySem.F.slot_list_append PySem.F.type_list_append mt_append appendD_ok rfl (je_var 1) (ja_cons (je_var 4) ja_nil))))))) (js_one (js_ret (je_var 1))))))
theorem fact_read_events (Z:Fx P w K mg):FnFact P w K mg base (G P w K) Θ s!"read_events" 1 3 P_read_events f_read_events:=by
 obtain ⟨fd,F⟩:=Z.d_read_events
 exact fact_of F Z.g_read_events (fun _ _ _ _ _ _ us hl=>match us,hl with | [_],_=>rfl) (okf_read_events Z F)
theorem sc__law_refused:FnScope N__law_refused P__law_refused (defScope s__law_refused):=⟨rfl,rfl,rfl,by decide +kernel,rfl,by decide +kernel,by decide +kernel⟩
theorem okf__law_refused (Z:Fx P w K mg){fd:FuncData}(F:FunD K s!"_law_refused" s!"_law_refused" (defArgs s__law_refused) (defBody s__law_refused) (defScope s__law_refused) [] [] (He.fAd K (s!"_law_refused",none)) fd):FnOkG P w K mg base 4 (He.fAd K (s!"_law_refused",none)) fd P__law_refused (spF (G P w K) Θ 1 f__law_refused):=by
 refine okf_of F sc__law_refused rfl rfl fun cdv A outer s H vs E U hr=>?_
 refine kitS hr sc__law_refused fun nd u1 u64 u65 u190 gd tk hp=>?_
 exact (js_cons (jsN 1 nd je_non) (js_cons (js_tryR rfl rfl nd tk (.cons (xt_ok_BadText Z) .nil) (fun W pn xe tk hp=>(js_one (jsN 1 nd (je_callF tk (fact_read_events Z) (hr.mono (by decide)) (ja_cons (je_var 0) ja_nil))))) (.as ⟨rfl,by decide,.inl Z.gc_BadText⟩ rfl rfl (fun a oe cls d pn hz hf=>suP fun x hc=>(js_one (js_ret (je_lst (ja_cons je_str (ja_cons (je_xf Z.xf_BadText Z.xn_BadText hz hf hc) ja_nil)))))) .nil)) (js_one (js_ret (je_lst (ja_cons je_non (ja_cons (je_var 1) ja_nil)))))))
theorem fact__law_refused (Z:Fx P w K mg):FnFact P w K mg base (G P w K) Θ s!"_law_refused" 1 4 P__law_refused f__law_refused:=by
 obtain ⟨fd,F⟩:=Z.d__law_refused
 exact fact_of F Z.g__law_refused (fun _ _ _ _ _ _ us hl=>match us,hl with | [_],_=>rfl) (okf__law_refused Z F)
theorem sc__law_pool:FnScope N__law_pool P__law_pool (defScope s__law_pool):=⟨rfl,rfl,rfl,by decide +kernel,rfl,by decide +kernel,by decide +kernel⟩
theorem okf__law_pool (Z:Fx P w K mg){fd:FuncData}(F:FunD K s!"_law_pool" s!"_law_pool" (defArgs s__law_pool) (defBody s__law_pool) (defScope s__law_pool) [] [] (He.fAd K (s!"_law_pool",none)) fd):FnOkG P w K mg base 1 (He.fAd K (s!"_law_pool",none)) fd P__law_pool (spF (G P w K) Θ 2 f__law_pool):=by
 refine okf_of F sc__law_pool rfl rfl fun cdv A outer s H vs E U hr=>?_
 refine kitS hr sc__law_pool fun nd u1 u64 u65 u190 gd tk hp=>?_
 exact (js_cons (jsN 2 nd (je_if (jt_cmp op_ltD ltD_ok (je_var 1) (je_callB call_lenAll lenD_ok Z.b_len boot_len (ja_cons (je_var 0) ja_nil)) (nomark _)) (je_ix rfl u1 (je_var 0) (je_var 1)) (je_bin op_addD addD_ok (je_bin op_mulD mulD_ok je_int (je_callB (cr_sum rfl) sumD_ok Z.b_sum (by decide +kernel) (ja_cons (je_sl rfl (je_var 0) .none (.some je_int)) ja_nil))) (je_var 1)))) (js_cons (jsN 3 nd (je_callB call_abs absD_ok Z.b_abs boot_abs (ja_cons (je_var 2) ja_nil))) (js_cons (jsN 4 nd (je_bin op_addD addD_ok (je_bin op_addD addD_ok (je_bin op_addD addD_ok (je_bin op_mod modD_ok (je_callTy call_int1 intD_ok Z.b_int (by decide +kernel) (ja_cons (je_var 3) ja_nil)) je_int) (je_bin op_mulD mulD_ok (je_bin op_mulD mulD_ok je_int (je_var 1)) (je_var 1))) (je_bin op_mulD mulD_ok je_int (je_var 1))) je_int)) (js_cons (jsN 4 nd (je_bin op_mod modD_ok (je_callTy call_int1 intD_ok Z.b_int (by decide +kernel) (ja_cons (je_bin op_mulD mulD_ok (je_var 4) je_int) ja_nil)) je_int)) (js_one (js_ret (je_lst (ja_cons (je_bin op_mulD mulD_ok (je_var 3) (je_callTy call_int1 intD_ok Z.b_int (by decide +kernel) (ja_cons (je_cmp op_ge geD_ok (je_var 3) (je_bin op_pow powD_ok je_int je_int) (nomark _)) ja_nil))) (ja_cons (je_bin op_mod modD_ok (je_callTy call_int1 intD_ok Z.b_int (by decide +kernel) (ja_cons (je_bin op_mulD mulD_ok (je_var 4) (je_var 4)) ja_nil)) je_int) ja_nil)))))))))
theorem fact__law_pool (Z:Fx P w K mg):FnFact P w K mg base (G P w K) Θ s!"_law_pool" 2 1 P__law_pool f__law_pool:=by
 obtain ⟨fd,F⟩:=Z.d__law_pool
 exact fact_of F Z.g__law_pool (fun _ _ _ _ _ _ us hl=>match us,hl with | [_,_],_=>rfl) (okf__law_pool Z F)
theorem sc__law_draw:FnScope N__law_draw P__law_draw (defScope s__law_draw):=⟨rfl,rfl,rfl,by decide +kernel,rfl,by decide +kernel,by decide +kernel⟩
theorem okf__law_draw (Z:Fx P w K mg){fd:FuncData}(F:FunD K s!"_law_draw" s!"_law_draw" (defArgs s__law_draw) (defBody s__law_draw) (defScope s__law_draw) [] [] (He.fAd K (s!"_law_draw",none)) fd):FnOkG P w K mg base 1 (He.fAd K (s!"_law_draw",none)) fd P__law_draw (spF (G P w K) Θ 2 f__law_draw):=by
 refine okf_of F sc__law_draw rfl rfl fun cdv A outer s H vs E U hr=>?_
 refine kitS hr sc__law_draw fun nd u1 u64 u65 u190 gd tk hp=>?_
 exact (js_cons (js_if (jt_cmp op_gt gtD_ok (je_ix rfl u1 (je_var 0) je_int) je_int (nomark _)) (js_cons (jsN 2 nd (je_bin op_mod modD_ok (je_callTy call_int1 intD_ok Z.b_int (by decide +kernel) (ja_cons (je_ix rfl u1 (je_var 0) je_int) ja_nil)) (je_var 1))) (js_cons (js_store u1 (je_bin op_fdiv fdivD_ok (je_ix rfl u1 (je_var 0) je_int) (je_var 1)) (je_var 0) je_int (hsub:=pg_sub (je_f (je_var 0)) (je_f je_int) (set_D u1))) (js_one (js_ret (je_var 2))))) js_nil) (js_cons (js_store u1 (je_bin op_mod modD_ok (je_callTy call_int1 intD_ok Z.b_int (by decide +kernel) (ja_cons (je_bin op_addD addD_ok (je_bin op_mulD mulD_ok (je_ix rfl u1 (je_var 0) je_int) je_int) je_int) ja_nil)) je_int) (je_var 0) je_int (hsub:=pg_sub (je_f (je_var 0)) (je_f je_int) (set_D u1))) (js_one (js_ret (je_bin op_mod modD_ok (je_callTy call_int1 intD_ok Z.b_int (by decide +kernel) (ja_cons (je_bin op_fdiv fdivD_ok (je_bin op_mod modD_ok (je_callTy call_int1 intD_ok Z.b_int (by decide +kernel) (ja_cons (je_bin op_mulD mulD_ok (je_ix rfl u1 (je_var 0) je_int) (je_ix rfl u1 (je_var 0) je_int)) ja_nil)) je_int) je_int) ja_nil)) (je_var 1))))))
theorem fact__law_draw (Z:Fx P w K mg):FnFact P w K mg base (G P w K) Θ s!"_law_draw" 2 1 P__law_draw f__law_draw:=by
 obtain ⟨fd,F⟩:=Z.d__law_draw
 exact fact_of F Z.g__law_draw (fun _ _ _ _ _ _ us hl=>match us,hl with | [_,_],_=>rfl) (okf__law_draw Z F)
theorem sc__law_pick:FnScope N__law_pick P__law_pick (defScope s__law_pick):=⟨rfl,rfl,rfl,by decide +kernel,rfl,by decide +kernel,by decide +kernel⟩
theorem okf__law_pick (Z:Fx P w K mg){fd:FuncData}(F:FunD K s!"_law_pick" s!"_law_pick" (defArgs s__law_pick) (defBody s__law_pick) (defScope s__law_pick) [] [] (He.fAd K (s!"_law_pick",none)) fd):FnOkG P w K mg base 2 (He.fAd K (s!"_law_pick",none)) fd P__law_pick (spF (G P w K) Θ 2 f__law_pick):=by
 refine okf_of F sc__law_pick rfl rfl fun cdv A outer s H vs E U hr=>?_
 refine kitS hr sc__law_pick fun nd u1 u64 u65 u190 gd tk hp=>?_
 exact (js_one (js_ret (je_ix rfl u1 (je_var 1) (je_callF tk (fact__law_draw Z) (hr.mono (by decide)) (ja_cons (je_var 0) (ja_cons (je_callB call_lenAll lenD_ok Z.b_len boot_len (ja_cons (je_var 1) ja_nil)) ja_nil))))))
theorem fact__law_pick (Z:Fx P w K mg):FnFact P w K mg base (G P w K) Θ s!"_law_pick" 2 2 P__law_pick f__law_pick:=by
 obtain ⟨fd,F⟩:=Z.d__law_pick
 exact fact_of F Z.g__law_pick (fun _ _ _ _ _ _ us hl=>match us,hl with | [_,_],_=>rfl) (okf__law_pick Z F)
theorem sc__law_names:FnScope N__law_names P__law_names (defScope s__law_names):=⟨rfl,rfl,rfl,by decide +kernel,rfl,by decide +kernel,by decide +kernel⟩
theorem okf__law_names (Z:Fx P w K mg){fd:FuncData}(F:FunD K s!"_law_names" s!"_law_names" (defArgs s__law_names) (defBody s__law_names) (defScope s__law_names) [] [] (He.fAd K (s!"_law_names",none)) fd):FnOkG P w K mg base 3 (He.fAd K (s!"_law_names",none)) fd P__law_names (spF (G P w K) Θ 2 f__law_names):=by
 refine okf_of F sc__law_names rfl rfl fun cdv A outer s H vs E U hr=>?_
 refine kitS hr sc__law_names fun nd u1 u64 u65 u190 gd tk hp=>?_
 exact (js_cons (jsN 2 nd je_str) (js_cons (by first | exact (js_par2 rfl nd (jn_cons (je_callF tk (fact__law_draw Z) (hr.mono (by decide)) (ja_cons (je_var 0) (ja_cons je_int ja_nil))) (fun _=>(jn_cons (je_bin op_addD addD_ok je_int (je_bin op_mulD mulD_ok je_int (je_callF tk (fact__law_draw Z) (hr.mono (by decide)) (ja_cons (je_var 0) (ja_cons je_int ja_nil))))) (fun _=>jn_nil))))) | exact (js_parN rfl (pg_tup rfl (pgs_cons (pgN 4 nd) (pgs_cons (pgN 5 nd) pgs_nil))) rfl (by decide) (jn_cons (je_callF tk (fact__law_draw Z) (hr.mono (by decide)) (ja_cons (je_var 0) (ja_cons je_int ja_nil))) (fun _=>(jn_cons (je_bin op_addD addD_ok je_int (je_bin op_mulD mulD_ok je_int (je_callF tk (fact__law_draw Z) (hr.mono (by decide)) (ja_cons (je_var 0) (ja_cons je_int ja_nil))))) (fun _=>jn_nil)))))) (js_cons (jsN 3 nd (je_lst (ja_cons (je_tup (ja_cons je_str (ja_cons je_str ja_nil))) (ja_cons (je_tup (ja_cons je_str (ja_cons je_str ja_nil))) (ja_cons (je_tup (ja_cons je_str (ja_cons je_str ja_nil))) (ja_cons (je_tup (ja_cons je_str (ja_cons je_str ja_nil))) (ja_cons (je_tup (ja_cons je_str (ja_cons je_str ja_nil))) ja_nil))))))) (js_cons (js_asgX (pg_ei (pg_tup rfl (pgs_cons (pgN 6 nd) (pgs_cons (pgN 7 nd) pgs_nil))) (pg_unl rfl (pgs_cons (pgN 6 nd) (pgs_cons (pgN 7 nd) pgs_nil)))) (tgx_l (tgsx_cons (TgOk.x tg_name) (tgsx_cons (TgOk.x tg_name) tgsx_nil))) (je_callF tk (fact__law_pick Z) (hr.mono (by decide)) (ja_cons (je_var 0) (ja_cons (je_var 3) ja_nil)))) (js_one (js_ret (je_lc (own:=[(s!"_law_k",8)]) (g:=(gName 8)) rfl nd (ji_range Z.b_range (ja_cons (je_var 1) ja_nil)) (blkOk_by (own:=[(s!"_law_k",8)]) (N:=N__law_names) (sc:=defScope s__law_names) (by decide +kernel)) (by exact fun _=>(tv_name (by decide))) (fun _ _ _ _ _=>(pgN 8 nd)) (fun _ _ _ _ _ _=>jts_nil) (fun _ _ _ _ _ _=>(je_bin op_addD addD_ok (je_bin op_addD addD_ok (je_var 6) (je_ix rfl u1 (je_var 2) (je_bin op_mod modD_ok (je_callTy call_int1 intD_ok Z.b_int (by decide +kernel) (ja_cons (je_bin op_addD addD_ok (je_var 4) (je_bin op_mulD mulD_ok (je_var 5) (je_var 8))) ja_nil)) je_int))) (je_var 7))))))))))
theorem fact__law_names (Z:Fx P w K mg):FnFact P w K mg base (G P w K) Θ s!"_law_names" 2 3 P__law_names f__law_names:=by
 obtain ⟨fd,F⟩:=Z.d__law_names
 exact fact_of F Z.g__law_names (fun _ _ _ _ _ _ us hl=>match us,hl with | [_,_],_=>rfl) (okf__law_names Z F)
theorem sc__law_plan:FnScope N__law_plan P__law_plan (defScope s__law_plan):=⟨rfl,rfl,rfl,by decide +kernel,rfl,by decide +kernel,by decide +kernel⟩
theorem okf__law_plan (Z:Fx P w K mg){fd:FuncData}(F:FunD K s!"_law_plan" s!"_law_plan" (defArgs s__law_plan) (defBody s__law_plan) (defScope s__law_plan) [] [] (He.fAd K (s!"_law_plan",none)) fd):FnOkG P w K mg base 4 (He.fAd K (s!"_law_plan",none)) fd P__law_plan (spF (G P w K) Θ 3 f__law_plan):=by
 refine okf_of F sc__law_plan rfl rfl fun cdv A outer s H vs E U hr=>?_
 refine kitS hr sc__law_plan fun nd u1 u64 u65 u190 gd tk hp=>?_
 exact (js_cons (jsN 3 nd (je_callF tk (fact__law_names Z) (hr.mono (by decide)) (ja_cons (je_var 0) (ja_cons (je_bin op_addD addD_ok je_int (je_callF tk (fact__law_draw Z) (hr.mono (by decide)) (ja_cons (je_var 0) (ja_cons (je_var 1) ja_nil)))) ja_nil)))) (js_cons (jsN 4 nd (je_dict (jp_cons (key:=.inr s!"names") pe_str (fun _=>(je_var 3)) (jp_cons (key:=.inr s!"limits") pe_str (fun _=>(je_lc (own:=[(s!"_law_name",7)]) (g:=(gName 7)) rfl nd (ji_seq rfl (je_var 3)) (blkOk_by (own:=[(s!"_law_name",7)]) (N:=N__law_plan) (sc:=defScope s__law_plan) (by decide +kernel)) (by exact fun _=>(tv_name (by decide))) (fun _ _ _ _ _=>(pgN 7 nd)) (fun _ _ _ _ _ _=>jts_nil) (fun _ _ _ _ _ _=>(je_callF takes0 (fact__law_draw Z) (hr.mono (by decide)) (ja_cons (je_var 0) (ja_cons (je_bin op_addD addD_ok (je_var 2) je_int) ja_nil)))))) (jp_cons (key:=.inr s!"links") pe_str (fun _=>(je_lst ja_nil)) jp_nil))))) (js_cons (js_store u1 (je_lc (own:=[(s!"_law_name",7)]) (g:=(gName 7)) rfl nd (ji_seq rfl (je_var 3)) (blkOk_by (own:=[(s!"_law_name",7)]) (N:=N__law_plan) (sc:=defScope s__law_plan) (by decide +kernel)) (by exact fun _=>(tv_name (by decide))) (fun _ _ _ _ _=>(pgN 7 nd)) (fun _ _ _ _ _ _=>jts_nil) (fun _ _ _ _ _ _=>(je_cmp op_gt gtD_ok (je_callF takes0 (fact__law_draw Z) (hr.mono (by decide)) (ja_cons (je_var 0) (ja_cons je_int ja_nil))) je_int (nomark _)))) (je_var 4) je_str (hsub:=pg_sub (je_f (je_var 4)) (je_f je_str) (set_D u1))) (js_cons (js_for hp rfl (ji_range Z.b_range (ja_cons (je_callB call_lenAll lenD_ok Z.b_len boot_len (ja_cons (je_var 3) ja_nil)) ja_nil)) (pgN 5 nd) tg_name (js_one (js_for hp rfl (ji_range2 Z.b_range (ja_cons (je_bin op_addD addD_ok (je_var 5) je_int) (ja_cons (je_callB call_lenAll lenD_ok Z.b_len boot_len (ja_cons (je_var 3) ja_nil)) ja_nil))) (pgN 6 nd) tg_name (js_cons (jsN 8 nd (je_callTy call_tuple_of tupleD_ok Z.b_tuple (by decide +kernel) (ja_cons (je_callB cr_sortedS sortedD_ok Z.b_sorted (by decide +kernel) (ja_cons (je_lst (ja_cons (je_callTy call_strAll strD_ok Z.b_str (by decide +kernel) (ja_cons (je_ix rfl u1 (je_var 3) (je_var 5)) ja_nil)) (ja_cons (je_callTy call_strAll strD_ok Z.b_str (by decide +kernel) (ja_cons (je_ix rfl u1 (je_var 3) (je_var 6)) ja_nil)) ja_nil))) ja_nil)) ja_nil))) (js_one (js_store u1 (je_bin op_addD addD_ok (je_ix rfl u1 (je_var 4) je_str) (je_if (jt_cmp (op_eqAll u64) eqD_ok (je_callF tk (fact__law_draw Z) (hr.mono (by decide)) (ja_cons (je_var 0) (ja_cons je_int ja_nil))) je_int (nomark _)) (je_lst (ja_cons (je_var 8) ja_nil)) (je_lst ja_nil))) (je_var 4) je_str (hsub:=pg_sub (je_f (je_var 4)) (je_f je_str) (set_D u1)))))))) (js_cons (js_asgX (pg_tup rfl (pgs_cons (pg_sub (pe_var (i:=4) rfl (by first | exact Or.inl rfl | exact Or.inr (Or.inl rfl) | exact Or.inr (Or.inr rfl))) pe_str (set_D u1)) (pgs_cons (pg_sub (pe_var (i:=4) rfl (by first | exact Or.inl rfl | exact Or.inr (Or.inl rfl) | exact Or.inr (Or.inr rfl))) pe_str (set_D u1)) pgs_nil))) (tgx_tup (tgsx_cons (tgx_sub fun _=>(.str _)) (tgsx_cons (tgx_sub fun _=>(.str _)) tgsx_nil))) (je_tup (ja_cons (je_callF tk (fact__law_draw Z) (hr.mono (by decide)) (ja_cons (je_var 0) (ja_cons (je_bin op_addD addD_ok (je_var 2) je_int) ja_nil))) (ja_cons (je_callF tk (fact__law_draw Z) (hr.mono (by decide)) (ja_cons (je_var 0) (ja_cons je_int ja_nil))) ja_nil)))) (js_cons (js_store u1 (je_callF tk (fact__law_pick Z) (hr.mono (by decide)) (ja_cons (je_var 0) (ja_cons (je_lst (ja_cons (je_tup (ja_cons je_str ja_nil)) (ja_cons (je_tup (ja_cons je_str (ja_cons je_int ja_nil))) (ja_cons (je_tup (ja_cons je_str (ja_cons je_int ja_nil))) (ja_cons (je_tup (ja_cons je_str (ja_cons je_int ja_nil))) (ja_cons (je_tup (ja_cons je_str (ja_cons je_int ja_nil))) (ja_cons (je_tup (ja_cons je_str (ja_cons je_int ja_nil))) ja_nil))))))) ja_nil))) (je_var 4) je_str (hsub:=pg_sub (je_f (je_var 4)) (je_f je_str) (set_D u1))) (js_cons (js_store u1 (je_cmp op_gt gtD_ok (je_callF tk (fact__law_draw Z) (hr.mono (by decide)) (ja_cons (je_var 0) (ja_cons je_int ja_nil))) je_int (nomark _)) (je_var 4) je_str (hsub:=pg_sub (je_f (je_var 4)) (je_f je_str) (set_D u1))) (js_one (js_ret (je_var 4))))))))))
theorem fact__law_plan (Z:Fx P w K mg):FnFact P w K mg base (G P w K) Θ s!"_law_plan" 3 4 P__law_plan f__law_plan:=by
 obtain ⟨fd,F⟩:=Z.d__law_plan
 exact fact_of F Z.g__law_plan (fun _ _ _ _ _ _ us hl=>match us,hl with | [_,_,_],_=>rfl) (okf__law_plan Z F)
theorem sc__law_first:FnScope N__law_first P__law_first (defScope s__law_first):=⟨rfl,rfl,rfl,by decide +kernel,rfl,by decide +kernel,by decide +kernel⟩
theorem okf__law_first (Z:Fx P w K mg){fd:FuncData}(F:FunD K s!"_law_first" s!"_law_first" (defArgs s__law_first) (defBody s__law_first) (defScope s__law_first) [] [] (He.fAd K (s!"_law_first",none)) fd):FnOkG P w K mg base 1 (He.fAd K (s!"_law_first",none)) fd P__law_first (spF (G P w K) Θ 1 f__law_first):=by
 refine okf_of F sc__law_first rfl rfl fun cdv A outer s H vs E U hr=>?_
 refine kitS hr sc__law_first fun nd u1 u64 u65 u190 gd tk hp=>?_
 exact (js_cons (jsN 1 nd (je_callB call_lenAll lenD_ok Z.b_len boot_len (ja_cons (je_ix rfl u1 (je_var 0) je_str) ja_nil))) (js_one (js_ret (je_tup (ja_cons (je_bin op_mulE mulE_ok (je_tup (ja_cons je_bl ja_nil)) (je_var 1)) (ja_cons (je_bin op_mulE mulE_ok (je_tup (ja_cons je_int ja_nil)) (je_var 1)) (ja_cons (je_bin op_mulE mulE_ok (je_tup (ja_cons je_bl ja_nil)) (je_var 1)) (ja_cons je_int (ja_cons (je_ix rfl u1 (je_var 0) je_str) (ja_cons je_bl (ja_cons (je_ix rfl u1 (je_var 0) je_str) ja_nil)))))))))))
theorem fact__law_first (Z:Fx P w K mg):FnFact P w K mg base (G P w K) Θ s!"_law_first" 1 1 P__law_first f__law_first:=by
 obtain ⟨fd,F⟩:=Z.d__law_first
 exact fact_of F Z.g__law_first (fun _ _ _ _ _ _ us hl=>match us,hl with | [_],_=>rfl) (okf__law_first Z F)
theorem sc__law_events:FnScope N__law_events P__law_events (defScope s__law_events):=⟨rfl,rfl,rfl,by decide +kernel,rfl,by decide +kernel,by decide +kernel⟩
theorem okf__law_events (Z:Fx P w K mg){fd:FuncData}(F:FunD K s!"_law_events" s!"_law_events" (defArgs s__law_events) (defBody s__law_events) (defScope s__law_events) [] [] (He.fAd K (s!"_law_events",none)) fd):FnOkG P w K mg base 1 (He.fAd K (s!"_law_events",none)) fd P__law_events (spF (G P w K) Θ 1 f__law_events):=by
 refine okf_of F sc__law_events rfl rfl fun cdv A outer s H vs E U hr=>?_
 refine kitS hr sc__law_events fun nd u1 u64 u65 u190 gd tk hp=>?_
 exact (js_cons (jsN 1 nd (je_bin op_addD addD_ok (je_lc (own:=[(s!"_law_name",2)]) (g:=(gName 2)) rfl nd (ji_seq rfl (je_ix rfl u1 (je_var 0) je_str)) (blkOk_by (own:=[(s!"_law_name",2)]) (N:=N__law_events) (sc:=defScope s__law_events) (by decide +kernel)) (by exact fun _=>(tv_name (by decide))) (fun _ _ _ _ _=>(pgN 2 nd)) (fun _ _ _ _ _ _=>jts_nil) (fun _ _ _ _ _ _=>(je_tup (ja_cons je_str (ja_cons (je_var 2) ja_nil))))) (je_lc (own:=[(s!"_law_name",2)]) (g:=(gName 2)) rfl nd (ji_seq rfl (je_ix rfl u1 (je_var 0) je_str)) (blkOk_by (own:=[(s!"_law_name",2)]) (N:=N__law_events) (sc:=defScope s__law_events) (by decide +kernel)) (by exact fun _=>(tv_name (by decide))) (fun _ _ _ _ _=>(pgN 2 nd)) (fun _ _ _ _ _ _=>jts_nil) (fun _ _ _ _ _ _=>(je_tup (ja_cons je_str (ja_cons (je_var 2) ja_nil))))))) (js_cons (js_for hp rfl (ji_seq rfl (je_ix rfl u1 (je_var 0) je_str)) (pgN 2 nd) tg_name (js_one (jsN 1 nd (je_bin op_addD addD_ok (je_var 1) (je_lst (ja_cons (je_tup (ja_cons je_str (ja_cons (je_var 2) (ja_cons je_int ja_nil)))) (ja_cons (je_tup (ja_cons je_str (ja_cons (je_var 2) (ja_cons je_int ja_nil)))) ja_nil))))))) (js_cons (jsN 1 nd (je_bin op_addD addD_ok (je_var 1) (je_lst (ja_cons (je_tup (ja_cons je_str (ja_cons je_int ja_nil))) (ja_cons (je_tup (ja_cons je_str (ja_cons je_int ja_nil))) (ja_cons (je_tup (ja_cons je_str ja_nil)) ja_nil)))))) (js_one (js_ret (je_bin op_addD addD_ok (je_var 1) (je_lc (own:=[(s!"_law_name",2)]) (g:=(gName 2)) rfl nd (ji_seq rfl (je_ix rfl u1 (je_var 0) je_str)) (blkOk_by (own:=[(s!"_law_name",2)]) (N:=N__law_events) (sc:=defScope s__law_events) (by decide +kernel)) (by exact fun _=>(tv_name (by decide))) (fun _ _ _ _ _=>(pgN 2 nd)) (fun _ _ _ _ _ _=>jts_nil) (fun _ _ _ _ _ _=>(je_tup (ja_cons je_str (ja_cons (je_var 2) ja_nil)))))))))))
theorem fact__law_events (Z:Fx P w K mg):FnFact P w K mg base (G P w K) Θ s!"_law_events" 1 1 P__law_events f__law_events:=by
 obtain ⟨fd,F⟩:=Z.d__law_events
 exact fact_of F Z.g__law_events (fun _ _ _ _ _ _ us hl=>match us,hl with | [_],_=>rfl) (okf__law_events Z F)
theorem sc__law_can:FnScope N__law_can P__law_can (defScope s__law_can):=⟨rfl,rfl,rfl,by decide +kernel,rfl,by decide +kernel,by decide +kernel⟩
theorem okf__law_can (Z:Fx P w K mg){fd:FuncData}(F:FunD K s!"_law_can" s!"_law_can" (defArgs s__law_can) (defBody s__law_can) (defScope s__law_can) [] [] (He.fAd K (s!"_law_can",none)) fd):FnOkG P w K mg base 1 (He.fAd K (s!"_law_can",none)) fd P__law_can (spF (G P w K) Θ 3 f__law_can):=by
 refine okf_of F sc__law_can rfl rfl fun cdv A outer s H vs E U hr=>?_
 refine kitS hr sc__law_can fun nd u1 u64 u65 u190 gd tk hp=>?_
 exact (js_cons (js_if (jt_cmp (op_eqAll u64) eqD_ok (je_ix rfl u1 (je_var 2) je_int) je_str (nomark _)) (js_one (js_ret je_bl)) js_nil) (js_cons (js_if (jt_cmp (op_eqAll u64) eqD_ok (je_ix rfl u1 (je_var 2) je_int) je_str (nomark _)) (js_one (js_ret je_bl)) js_nil) (js_cons (js_if (jt_cmp (op_eqAll u64) eqD_ok (je_ix rfl u1 (je_var 2) je_int) je_str (nomark _)) (js_one (js_ret (je_not (je_ix rfl u1 (je_var 1) je_int)))) js_nil) (js_cons (js_if (jt_cmp (op_eqAll u64) eqD_ok (je_ix rfl u1 (je_var 2) je_int) je_str (nomark _)) (js_one (js_ret (je_and (je_not (je_ix rfl u1 (je_var 1) je_int)) (pe_one (je_cmp op_le leD_ok (je_ix rfl u1 (je_var 2) je_int) (je_ix rfl u1 (je_var 1) je_int) (nomark _)))))) js_nil) (js_one (js_ret (je_cmp (op_eqAll u64) eqD_ok (je_ix rfl u1 (je_ix rfl u1 (je_var 1) je_int) (je_mt PySem.F.plainAttrs_list PySem.F.slot_list_index PySem.F.type_list_index (mt_indexD u65) indexD_ok rfl (je_ix rfl u1 (je_var 0) je_str) (ja_cons (je_ix rfl u1 (je_var 2) je_int) ja_nil))) (je_cmp (op_eqAll u64) eqD_ok (je_ix rfl u1 (je_var 2) je_int) je_str (nomark _)) (nomark _))))))))
theorem fact__law_can (Z:Fx P w K mg):FnFact P w K mg base (G P w K) Θ s!"_law_can" 3 1 P__law_can f__law_can:=by
 obtain ⟨fd,F⟩:=Z.d__law_can
 exact fact_of F Z.g__law_can (fun _ _ _ _ _ _ us hl=>match us,hl with | [_,_,_],_=>rfl) (okf__law_can Z F)
theorem sc__law_choices:FnScope N__law_choices P__law_choices (defScope s__law_choices):=⟨rfl,rfl,rfl,by decide +kernel,rfl,by decide +kernel,by decide +kernel⟩
theorem okf__law_choices (Z:Fx P w K mg){fd:FuncData}(F:FunD K s!"_law_choices" s!"_law_choices" (defArgs s__law_choices) (defBody s__law_choices) (defScope s__law_choices) [] [] (He.fAd K (s!"_law_choices",none)) fd):FnOkG P w K mg base 2 (He.fAd K (s!"_law_choices",none)) fd P__law_choices (spF (G P w K) Θ 2 f__law_choices):=by
 refine okf_of F sc__law_choices rfl rfl fun cdv A outer s H vs E U hr=>?_
 refine kitS hr sc__law_choices fun nd u1 u64 u65 u190 gd tk hp=>?_
 exact (js_one (js_ret (je_lc (own:=[(s!"_law_event",2)]) (g:=(gName 2)) rfl nd (ji_seq rfl (je_callF tk (fact__law_events Z) (hr.mono (by decide)) (ja_cons (je_var 0) ja_nil))) (blkOk_by (own:=[(s!"_law_event",2)]) (N:=N__law_choices) (sc:=defScope s__law_choices) (by decide +kernel)) (by exact fun _=>(tv_name (by decide))) (fun _ _ _ _ _=>(pgN 2 nd)) (fun _ _ _ _ _ _=>(jts_one (jt_tru rfl (je_callF takes0 (fact__law_can Z) (hr.mono (by decide)) (ja_cons (je_var 0) (ja_cons (je_var 1) (ja_cons (je_var 2) ja_nil))))))) (fun _ _ _ _ _ _=>(je_var 2)))))
theorem fact__law_choices (Z:Fx P w K mg):FnFact P w K mg base (G P w K) Θ s!"_law_choices" 2 2 P__law_choices f__law_choices:=by
 obtain ⟨fd,F⟩:=Z.d__law_choices
 exact fact_of F Z.g__law_choices (fun _ _ _ _ _ _ us hl=>match us,hl with | [_,_],_=>rfl) (okf__law_choices Z F)
theorem sc__law_group:FnScope N__law_group P__law_group (defScope s__law_group):=⟨rfl,rfl,rfl,by decide +kernel,rfl,by decide +kernel,by decide +kernel⟩
theorem okf__law_group (Z:Fx P w K mg){fd:FuncData}(F:FunD K s!"_law_group" s!"_law_group" (defArgs s__law_group) (defBody s__law_group) (defScope s__law_group) [] [] (He.fAd K (s!"_law_group",none)) fd):FnOkG P w K mg base 1 (He.fAd K (s!"_law_group",none)) fd P__law_group (spF (G P w K) Θ 2 f__law_group):=by
 refine okf_of F sc__law_group rfl rfl fun cdv A outer s H vs E U hr=>?_
 refine kitS hr sc__law_group fun nd u1 u64 u65 u190 gd tk hp=>?_
 exact (js_cons (by first | exact (js_par2 rfl nd (jn_cons (je_lst (ja_cons (je_var 1) ja_nil)) (fun _=>(jn_cons (je_ix rfl u1 (je_var 0) je_str) (fun _=>jn_nil))))) | exact (js_parN rfl (pg_tup rfl (pgs_cons (pgN 3 nd) (pgs_cons (pgN 4 nd) pgs_nil))) rfl (by decide) (jn_cons (je_lst (ja_cons (je_var 1) ja_nil)) (fun _=>(jn_cons (je_ix rfl u1 (je_var 0) je_str) (fun _=>jn_nil)))))) (js_cons (js_for hp rfl (ji_range Z.b_range (ja_cons (je_callB call_lenAll lenD_ok Z.b_len boot_len (ja_cons (je_var 4) ja_nil)) ja_nil)) (pgN 2 nd) tg_name (js_one (js_for hp rfl (ji_range Z.b_range (ja_cons (je_callB call_lenAll lenD_ok Z.b_len boot_len (ja_cons (je_var 4) ja_nil)) ja_nil)) (pgN 5 nd) tg_name (js_cons (by first | exact (js_setLc (i:=6) (own:=[(s!"_law_other",7)]) (g:=(gName 7)) rfl nd rfl (sw_true rfl rfl rfl (by decide +kernel)) (ji_seq rfl (je_var 3)) (blkOk_by (own:=[(s!"_law_other",7)]) (N:=N__law_group) (sc:=defScope s__law_group) (by decide +kernel)) (by exact fun _=>(tv_name (by decide))) (fun _ _ _ _ _=>(pgN 7 nd)) (fun _ _ _ _ _ _=>(jts_one (jt_cmp (op_inB u65) inD_ok (je_callTy call_tuple_of tupleD_ok Z.b_tuple (by decide +kernel) (ja_cons (je_callB cr_sortedS sortedD_ok Z.b_sorted (by decide +kernel) (ja_cons (je_lst (ja_cons (je_callTy call_strAll strD_ok Z.b_str (by decide +kernel) (ja_cons (je_ix rfl u1 (je_var 4) (je_var 5)) ja_nil)) (ja_cons (je_callTy call_strAll strD_ok Z.b_str (by decide +kernel) (ja_cons (je_ix rfl u1 (je_var 4) (je_var 7)) ja_nil)) ja_nil))) ja_nil)) ja_nil)) (je_ix rfl u1 (je_var 0) je_str) rfl))) (fun _ _ _ _ _ _=>(je_var 7))) | exact (jsN 6 nd (je_lc (own:=[(s!"_law_other",7)]) (g:=(gName 7)) rfl nd (ji_seq rfl (je_var 3)) (blkOk_by (own:=[(s!"_law_other",7)]) (N:=N__law_group) (sc:=defScope s__law_group) (by decide +kernel)) (by exact fun _=>(tv_name (by decide))) (fun _ _ _ _ _=>(pgN 7 nd)) (fun _ _ _ _ _ _=>(jts_one (jt_cmp (op_inB u65) inD_ok (je_callTy call_tuple_of tupleD_ok Z.b_tuple (by decide +kernel) (ja_cons (je_callB cr_sortedS sortedD_ok Z.b_sorted (by decide +kernel) (ja_cons (je_lst (ja_cons (je_callTy call_strAll strD_ok Z.b_str (by decide +kernel) (ja_cons (je_ix rfl u1 (je_var 4) (je_var 5)) ja_nil)) (ja_cons (je_callTy call_strAll strD_ok Z.b_str (by decide +kernel) (ja_cons (je_ix rfl u1 (je_var 4) (je_var 7)) ja_nil)) ja_nil))) ja_nil)) ja_nil)) (je_ix rfl u1 (je_var 0) je_str) rfl))) (fun _ _ _ _ _ _=>(je_var 7))))) (js_one (jsN 3 nd (je_bin op_addD addD_ok (je_var 3) (je_bin op_mulD mulD_ok (je_lst (ja_cons (je_var 5) ja_nil)) (je_callTy call_int1 intD_ok Z.b_int (by decide +kernel) (ja_cons (je_and (je_cmp (op_neAll u64) neD_ok (je_var 6) (je_lst ja_nil) (nomark _)) (pe_one (je_cmp (op_notInB u65) inD_ok (je_var 5) (je_var 3) rfl))) ja_nil)))))))))) (js_one (js_ret (je_callB cr_sortedI sortedID_ok Z.b_sorted (by decide +kernel) (ja_cons (je_lc (own:=[(s!"_law_one",5)]) (g:=(gName 5)) rfl nd (ji_seq rfl (je_var 3)) (blkOk_by (own:=[(s!"_law_one",5)]) (N:=N__law_group) (sc:=defScope s__law_group) (by decide +kernel)) (by exact fun _=>(tv_name (by decide))) (fun _ _ _ _ _=>(pgN 5 nd)) (fun _ _ _ _ _ _=>jts_nil) (fun _ _ _ _ _ _=>(je_callTy call_int1 intD_ok Z.b_int (by decide +kernel) (ja_cons (je_var 5) ja_nil)))) ja_nil))))))
theorem fact__law_group (Z:Fx P w K mg):FnFact P w K mg base (G P w K) Θ s!"_law_group" 2 1 P__law_group f__law_group:=by
 obtain ⟨fd,F⟩:=Z.d__law_group
 exact fact_of F Z.g__law_group (fun _ _ _ _ _ _ us hl=>match us,hl with | [_,_],_=>rfl) (okf__law_group Z F)
theorem sc__law_stopped:FnScope N__law_stopped P__law_stopped (defScope s__law_stopped):=⟨rfl,rfl,rfl,by decide +kernel,rfl,by decide +kernel,by decide +kernel⟩
theorem okf__law_stopped (Z:Fx P w K mg){fd:FuncData}(F:FunD K s!"_law_stopped" s!"_law_stopped" (defArgs s__law_stopped) (defBody s__law_stopped) (defScope s__law_stopped) [] [] (He.fAd K (s!"_law_stopped",none)) fd):FnOkG P w K mg base 1 (He.fAd K (s!"_law_stopped",none)) fd P__law_stopped (spF (G P w K) Θ 1 f__law_stopped):=by
 refine okf_of F sc__law_stopped rfl rfl fun cdv A outer s H vs E U hr=>?_
 refine kitS hr sc__law_stopped fun nd u1 u64 u65 u190 gd tk hp=>?_
 exact (js_one (js_ret (je_or (je_ix rfl u1 (je_var 0) je_int) (pe_one (je_cmp op_le leD_ok (je_ix rfl u1 (je_var 0) je_int) je_int (nomark _))))))
theorem fact__law_stopped (Z:Fx P w K mg):FnFact P w K mg base (G P w K) Θ s!"_law_stopped" 1 1 P__law_stopped f__law_stopped:=by
 obtain ⟨fd,F⟩:=Z.d__law_stopped
 exact fact_of F Z.g__law_stopped (fun _ _ _ _ _ _ us hl=>match us,hl with | [_],_=>rfl) (okf__law_stopped Z F)
theorem sc__law_word:FnScope N__law_word P__law_word (defScope s__law_word):=⟨rfl,rfl,rfl,by decide +kernel,rfl,by decide +kernel,by decide +kernel⟩
theorem okf__law_word (Z:Fx P w K mg){fd:FuncData}(F:FunD K s!"_law_word" s!"_law_word" (defArgs s__law_word) (defBody s__law_word) (defScope s__law_word) [] [] (He.fAd K (s!"_law_word",none)) fd):FnOkG P w K mg base 2 (He.fAd K (s!"_law_word",none)) fd P__law_word (spF (G P w K) Θ 4 f__law_word):=by
 refine okf_of F sc__law_word rfl rfl fun cdv A outer s H vs E U hr=>?_
 refine kitS hr sc__law_word fun nd u1 u64 u65 u190 gd tk hp=>?_
 exact (js_cons (js_if (jt_tru rfl (je_ix rfl u1 (je_ix rfl u1 (je_var 1) je_int) (je_var 2))) (js_one (js_ret (je_if (L2.PW.pt (jw_and (jt_not (jt_tru rfl (je_ix rfl u1 (je_var 1) je_int))) (pw_and1 (jt_cmp op_ge geD_ok (je_ix rfl u1 (je_var 1) je_int) (je_var 3) (nomark _))))) je_str je_str))) js_nil) (js_cons (jsN 4 nd (je_callF tk (fact__law_group Z) (hr.mono (by decide)) (ja_cons (je_var 0) (ja_cons (je_var 2) ja_nil)))) (js_cons (jsN 5 nd (je_if (jt_cmp (op_neAll u64) neD_ok (je_lc (own:=[(s!"_law_one",7)]) (g:=(gName 7)) rfl nd (ji_seq rfl (je_var 4)) (blkOk_by (own:=[(s!"_law_one",7)]) (N:=N__law_word) (sc:=defScope s__law_word) (by decide +kernel)) (by exact fun _=>(tv_name (by decide))) (fun _ _ _ _ _=>(pgN 7 nd)) (fun _ _ _ _ _ _=>(jts_one (jt_tru rfl (je_ix rfl u1 (je_ix rfl u1 (je_var 1) je_int) (je_var 7))))) (fun _ _ _ _ _ _=>(je_var 7))) (je_lst ja_nil) (nomark _)) (je_callF tk (fact__law_stopped Z) (hr.mono (by decide)) (ja_cons (je_var 1) ja_nil)) (je_ix rfl u1 (je_ix rfl u1 (je_var 1) je_int) (je_var 2)))) (js_cons (js_if (L2.PW.pt (jw_and (jt_tru rfl (je_ix rfl u1 (je_ix rfl u1 (je_var 0) je_str) (je_var 2))) (pw_and1 (jt_tru rfl (je_var 5))))) (js_one (js_ret je_str)) js_nil) (js_cons (js_if (jt_cmp op_gt gtD_ok (je_bin op_addD addD_ok (je_callB (cr_sum rfl) sumD_ok Z.b_sum (by decide +kernel) (ja_cons (je_lc (own:=[(s!"_law_one",7)]) (g:=(gName 7)) rfl nd (ji_seq rfl (je_var 4)) (blkOk_by (own:=[(s!"_law_one",7)]) (N:=N__law_word) (sc:=defScope s__law_word) (by decide +kernel)) (by exact fun _=>(tv_name (by decide))) (fun _ _ _ _ _=>(pgN 7 nd)) (fun _ _ _ _ _ _=>(jts_one (jt_not (jt_tru rfl (je_ix rfl u1 (je_ix rfl u1 (je_var 1) je_int) (je_var 7)))))) (fun _ _ _ _ _ _=>(je_ix rfl u1 (je_ix rfl u1 (je_var 1) je_int) (je_var 7)))) ja_nil)) (je_var 3)) (je_ix rfl u1 (je_ix rfl u1 (je_var 0) je_str) (je_var 2)) (nomark _)) (js_one (js_ret je_str)) js_nil) (js_cons (jsN 6 nd (je_ix rfl u1 (je_dict (jp_cons (key:=.inr s!"nothing") pe_str (fun _=>je_int) (jp_cons (key:=.inr s!"times") pe_str (fun _=>je_int) (jp_cons (key:=.inr s!"sum") pe_str (fun _=>(je_var 3)) jp_nil)))) (je_ix rfl u1 (je_ix rfl u1 (je_var 0) je_str) je_int))) (js_cons (js_if (L2.PW.pt (jw_and (jt_cmp (op_neAll u64) neD_ok (je_ix rfl u1 (je_ix rfl u1 (je_var 0) je_str) je_int) je_str (nomark _)) (pw_and1 (jt_cmp op_gt gtD_ok (je_bin op_addD addD_ok (je_ix rfl u1 (je_var 1) je_int) (je_var 6)) (je_ix rfl u1 (je_ix rfl u1 (je_var 0) je_str) je_int) (nomark _))))) (js_one (js_ret je_str)) js_nil) (js_one (js_ret je_str)))))))))
theorem fact__law_word (Z:Fx P w K mg):FnFact P w K mg base (G P w K) Θ s!"_law_word" 4 2 P__law_word f__law_word:=by
 obtain ⟨fd,F⟩:=Z.d__law_word
 exact fact_of F Z.g__law_word (fun _ _ _ _ _ _ us hl=>match us,hl with | [_,_,_,_],_=>rfl) (okf__law_word Z F)
theorem sc__law_low:FnScope N__law_low P__law_low (defScope s__law_low):=⟨rfl,rfl,rfl,by decide +kernel,rfl,by decide +kernel,by decide +kernel⟩
theorem okf__law_low (Z:Fx P w K mg){fd:FuncData}(F:FunD K s!"_law_low" s!"_law_low" (defArgs s__law_low) (defBody s__law_low) (defScope s__law_low) [] [] (He.fAd K (s!"_law_low",none)) fd):FnOkG P w K mg base 1 (He.fAd K (s!"_law_low",none)) fd P__law_low (spF (G P w K) Θ 2 f__law_low):=by
 refine okf_of F sc__law_low rfl rfl fun cdv A outer s H vs E U hr=>?_
 refine kitS hr sc__law_low fun nd u1 u64 u65 u190 gd tk hp=>?_
 exact (js_one (js_ret (je_callB (cr_max rfl) maxLD_ok Z.b_max (by decide +kernel) (ja_cons (je_lst (ja_cons (je_callTy call_int1 intD_ok Z.b_int (by decide +kernel) (ja_cons (je_var 0) ja_nil)) (ja_cons (je_callTy call_int1 intD_ok Z.b_int (by decide +kernel) (ja_cons (je_bin op_sub subD_ok je_int (je_var 1)) ja_nil)) ja_nil))) ja_nil))))
theorem fact__law_low (Z:Fx P w K mg):FnFact P w K mg base (G P w K) Θ s!"_law_low" 2 1 P__law_low f__law_low:=by
 obtain ⟨fd,F⟩:=Z.d__law_low
 exact fact_of F Z.g__law_low (fun _ _ _ _ _ _ us hl=>match us,hl with | [_,_],_=>rfl) (okf__law_low Z F)
theorem sc__law_put:FnScope N__law_put P__law_put (defScope s__law_put):=⟨rfl,rfl,rfl,by decide +kernel,rfl,by decide +kernel,by decide +kernel⟩
theorem okf__law_put (Z:Fx P w K mg){fd:FuncData}(F:FunD K s!"_law_put" s!"_law_put" (defArgs s__law_put) (defBody s__law_put) (defScope s__law_put) [] [] (He.fAd K (s!"_law_put",none)) fd):FnOkG P w K mg base 1 (He.fAd K (s!"_law_put",none)) fd P__law_put (spF (G P w K) Θ 3 f__law_put):=by
 refine okf_of F sc__law_put rfl rfl fun cdv A outer s H vs E U hr=>?_
 refine kitS hr sc__law_put fun nd u1 u64 u65 u190 gd tk hp=>?_
 exact (js_one (js_ret (je_bin op_addD addD_ok (je_bin op_addD addD_ok (je_sl rfl (je_var 0) .none (.some (je_var 1))) (je_tup (ja_cons (je_var 2) ja_nil))) (je_sl rfl (je_var 0) (.some (je_bin op_addD addD_ok (je_var 1) je_int)) .none))))
theorem fact__law_put (Z:Fx P w K mg):FnFact P w K mg base (G P w K) Θ s!"_law_put" 3 1 P__law_put f__law_put:=by
 obtain ⟨fd,F⟩:=Z.d__law_put
 exact fact_of F Z.g__law_put (fun _ _ _ _ _ _ us hl=>match us,hl with | [_,_,_],_=>rfl) (okf__law_put Z F)
theorem sc__law_paid:FnScope N__law_paid P__law_paid (defScope s__law_paid):=⟨rfl,rfl,rfl,by decide +kernel,rfl,by decide +kernel,by decide +kernel⟩
theorem okf__law_paid (Z:Fx P w K mg){fd:FuncData}(F:FunD K s!"_law_paid" s!"_law_paid" (defArgs s__law_paid) (defBody s__law_paid) (defScope s__law_paid) [] [] (He.fAd K (s!"_law_paid",none)) fd):FnOkG P w K mg base 3 (He.fAd K (s!"_law_paid",none)) fd P__law_paid (spF (G P w K) Θ 4 f__law_paid):=by
 refine okf_of F sc__law_paid rfl rfl fun cdv A outer s H vs E U hr=>?_
 refine kitS hr sc__law_paid fun nd u1 u64 u65 u190 gd tk hp=>?_
 exact (js_cons (jsN 4 nd (je_callF tk (fact__law_word Z) (hr.mono (by decide)) (ja_cons (je_var 0) (ja_cons (je_var 1) (ja_cons (je_var 2) (ja_cons (je_var 3) ja_nil)))))) (js_cons (js_if (jt_cmp (op_neAll u64) neD_ok (je_var 4) je_str (nomark _)) (js_one (js_ret (je_lst (ja_cons (je_var 1) (ja_cons (je_var 4) ja_nil))))) js_nil) (js_cons (js_if (jt_tru rfl (je_ix rfl u1 (je_ix rfl u1 (je_var 1) je_int) (je_var 2))) (js_one (js_ret (je_lst (ja_cons (je_bin op_addD addD_ok (je_bin op_addD addD_ok (je_sl rfl (je_var 1) .none (.some je_int)) (je_tup (ja_cons je_int (ja_cons (je_callF tk (fact__law_low Z) (hr.mono (by decide)) (ja_cons (je_bin op_sub subD_ok (je_ix rfl u1 (je_var 1) je_int) (je_var 3)) (ja_cons (je_ix rfl u1 (je_var 1) je_int) ja_nil))) ja_nil)))) (je_sl rfl (je_var 1) (.some je_int) .none)) (ja_cons (je_var 4) ja_nil))))) js_nil) (js_cons (jsN 5 nd (je_ix rfl u1 (je_dict (jp_cons (key:=.inr s!"nothing") pe_str (fun _=>je_int) (jp_cons (key:=.inr s!"times") pe_str (fun _=>je_int) (jp_cons (key:=.inr s!"sum") pe_str (fun _=>(je_var 3)) jp_nil)))) (je_ix rfl u1 (je_ix rfl u1 (je_var 0) je_str) je_int))) (js_one (js_ret (je_lst (ja_cons (je_bin op_addD addD_ok (je_tup (ja_cons (je_ix rfl u1 (je_var 1) je_int) (ja_cons (je_callF tk (fact__law_put Z) (hr.mono (by decide)) (ja_cons (je_ix rfl u1 (je_var 1) je_int) (ja_cons (je_var 2) (ja_cons (je_bin op_addD addD_ok (je_ix rfl u1 (je_ix rfl u1 (je_var 1) je_int) (je_var 2)) (je_var 3)) ja_nil)))) (ja_cons (je_ix rfl u1 (je_var 1) je_int) (ja_cons (je_bin op_addD addD_ok (je_ix rfl u1 (je_var 1) je_int) (je_var 5)) ja_nil))))) (je_sl rfl (je_var 1) (.some je_int) .none)) (ja_cons (je_var 4) ja_nil)))))))))
theorem fact__law_paid (Z:Fx P w K mg):FnFact P w K mg base (G P w K) Θ s!"_law_paid" 4 3 P__law_paid f__law_paid:=by
 obtain ⟨fd,F⟩:=Z.d__law_paid
 exact fact_of F Z.g__law_paid (fun _ _ _ _ _ _ us hl=>match us,hl with | [_,_,_,_],_=>rfl) (okf__law_paid Z F)
theorem sc__law_lined:FnScope N__law_lined P__law_lined (defScope s__law_lined):=⟨rfl,rfl,rfl,by decide +kernel,rfl,by decide +kernel,by decide +kernel⟩
theorem okf__law_lined (Z:Fx P w K mg){fd:FuncData}(F:FunD K s!"_law_lined" s!"_law_lined" (defArgs s__law_lined) (defBody s__law_lined) (defScope s__law_lined) [] [] (He.fAd K (s!"_law_lined",none)) fd):FnOkG P w K mg base 2 (He.fAd K (s!"_law_lined",none)) fd P__law_lined (spF (G P w K) Θ 4 f__law_lined):=by
 refine okf_of F sc__law_lined rfl rfl fun cdv A outer s H vs E U hr=>?_
 refine kitS hr sc__law_lined fun nd u1 u64 u65 u190 gd tk hp=>?_
 exact (js_cons (jsN 4 nd (je_if (jt_tru rfl (je_var 3)) (je_callF tk (fact__law_low Z) (hr.mono (by decide)) (ja_cons (je_bin op_sub subD_ok (je_ix rfl u1 (je_var 1) je_int) (je_ix rfl u1 (je_ix rfl u1 (je_var 1) je_int) (je_var 2))) (ja_cons (je_ix rfl u1 (je_var 1) je_int) ja_nil))) (je_ix rfl u1 (je_var 1) je_int))) (js_cons (by first | exact (js_par3 rfl nd (jn_cons (je_callF tk (fact__law_put Z) (hr.mono (by decide)) (ja_cons (je_ix rfl u1 (je_var 1) je_int) (ja_cons (je_var 2) (ja_cons (je_var 3) ja_nil)))) (fun _=>(jn_cons (je_callF tk (fact__law_group Z) (hr.mono (by decide)) (ja_cons (je_var 0) (ja_cons (je_var 2) ja_nil))) (fun _=>(jn_cons (je_ix rfl u1 (je_var 1) je_int) (fun _=>jn_nil))))))) | exact (js_parN rfl (pg_tup rfl (pgs_cons (pgN 7 nd) (pgs_cons (pgN 8 nd) (pgs_cons (pgN 9 nd) pgs_nil)))) rfl (by decide) (jn_cons (je_callF tk (fact__law_put Z) (hr.mono (by decide)) (ja_cons (je_ix rfl u1 (je_var 1) je_int) (ja_cons (je_var 2) (ja_cons (je_var 3) ja_nil)))) (fun _=>(jn_cons (je_callF tk (fact__law_group Z) (hr.mono (by decide)) (ja_cons (je_var 0) (ja_cons (je_var 2) ja_nil))) (fun _=>(jn_cons (je_ix rfl u1 (je_var 1) je_int) (fun _=>jn_nil)))))))) (js_cons (jsN 5 nd (je_and (je_cmp (op_eqAll u64) eqD_ok (je_lc (own:=[(s!"_law_one",6)]) (g:=(gName 6)) rfl nd (ji_seq rfl (je_var 8)) (blkOk_by (own:=[(s!"_law_one",6)]) (N:=N__law_lined) (sc:=defScope s__law_lined) (by decide +kernel)) (by exact fun _=>(tv_name (by decide))) (fun _ _ _ _ _=>(pgN 6 nd)) (fun _ _ _ _ _ _=>(jts_one (jt_tru rfl (je_ix rfl u1 (je_var 7) (je_var 6))))) (fun _ _ _ _ _ _=>(je_var 6))) (je_lst ja_nil) (nomark _)) (pe_one (je_callF tk (fact__law_stopped Z) (hr.mono (by decide)) (ja_cons (je_var 1) ja_nil))))) (js_cons (js_for hp rfl (ji_seq rfl (je_var 8)) (pgN 6 nd) tg_name (js_one (jsN 9 nd (je_callF tk (fact__law_put Z) (hr.mono (by decide)) (ja_cons (je_var 9) (ja_cons (je_var 6) (ja_cons (je_var 5) ja_nil))))))) (js_one (js_ret (je_lst (ja_cons (je_bin op_addD addD_ok (je_tup (ja_cons (je_var 7) (ja_cons (je_callF tk (fact__law_put Z) (hr.mono (by decide)) (ja_cons (je_ix rfl u1 (je_var 1) je_int) (ja_cons (je_var 2) (ja_cons je_int ja_nil)))) (ja_cons (je_var 9) (ja_cons (je_ix rfl u1 (je_var 1) je_int) (ja_cons (je_var 4) ja_nil)))))) (je_sl rfl (je_var 1) (.some je_int) .none)) (ja_cons je_str ja_nil)))))))))
theorem fact__law_lined (Z:Fx P w K mg):FnFact P w K mg base (G P w K) Θ s!"_law_lined" 4 2 P__law_lined f__law_lined:=by
 obtain ⟨fd,F⟩:=Z.d__law_lined
 exact fact_of F Z.g__law_lined (fun _ _ _ _ _ _ us hl=>match us,hl with | [_,_,_,_],_=>rfl) (okf__law_lined Z F)
theorem sc__law_after:FnScope N__law_after P__law_after (defScope s__law_after):=⟨rfl,rfl,rfl,by decide +kernel,rfl,by decide +kernel,by decide +kernel⟩
theorem okf__law_after (Z:Fx P w K mg){fd:FuncData}(F:FunD K s!"_law_after" s!"_law_after" (defArgs s__law_after) (defBody s__law_after) (defScope s__law_after) [] [] (He.fAd K (s!"_law_after",none)) fd):FnOkG P w K mg base 4 (He.fAd K (s!"_law_after",none)) fd P__law_after (spF (G P w K) Θ 3 f__law_after):=by
 refine okf_of F sc__law_after rfl rfl fun cdv A outer s H vs E U hr=>?_
 refine kitS hr sc__law_after fun nd u1 u64 u65 u190 gd tk hp=>?_
 exact (js_cons (js_if (jt_cmp (op_eqAll u64) eqD_ok (je_ix rfl u1 (je_var 2) je_int) je_str (nomark _)) (js_one (js_ret (je_callF tk (fact__law_paid Z) (hr.mono (by decide)) (ja_cons (je_var 0) (ja_cons (je_var 1) (ja_cons (je_mt PySem.F.plainAttrs_list PySem.F.slot_list_index PySem.F.type_list_index (mt_indexD u65) indexD_ok rfl (je_ix rfl u1 (je_var 0) je_str) (ja_cons (je_ix rfl u1 (je_var 2) je_int) ja_nil)) (ja_cons (je_ix rfl u1 (je_var 2) je_int) ja_nil))))))) js_nil) (js_cons (js_if (jt_cmp (op_eqAll u64) eqD_ok (je_ix rfl u1 (je_var 2) je_int) je_str (nomark _)) (js_one (js_ret (je_lst (ja_cons (je_bin op_addD addD_ok (je_sl rfl (je_var 1) .none (.some je_int)) (je_tup (ja_cons (je_callF tk (fact__law_low Z) (hr.mono (by decide)) (ja_cons (je_ix rfl u1 (je_var 1) je_int) (ja_cons je_int ja_nil))) (ja_cons je_bl (ja_cons je_int ja_nil))))) (ja_cons je_str ja_nil))))) js_nil) (js_cons (js_if (jt_cmp (op_eqAll u64) eqD_ok (je_ix rfl u1 (je_var 2) je_int) je_str (nomark _)) (js_one (js_ret (je_lst (ja_cons (je_bin op_addD addD_ok (je_sl rfl (je_var 1) .none (.some je_int)) (je_tup (ja_cons (je_bin op_addD addD_ok (je_ix rfl u1 (je_var 1) je_int) (je_ix rfl u1 (je_var 2) je_int)) (ja_cons (je_ix rfl u1 (je_var 1) je_int) (ja_cons (je_bin op_sub subD_ok (je_ix rfl u1 (je_var 1) je_int) (je_ix rfl u1 (je_var 2) je_int)) ja_nil))))) (ja_cons je_str ja_nil))))) js_nil) (js_one (js_ret (je_callF tk (fact__law_lined Z) (hr.mono (by decide)) (ja_cons (je_var 0) (ja_cons (je_var 1) (ja_cons (je_mt PySem.F.plainAttrs_list PySem.F.slot_list_index PySem.F.type_list_index (mt_indexD u65) indexD_ok rfl (je_ix rfl u1 (je_var 0) je_str) (ja_cons (je_ix rfl u1 (je_var 2) je_int) ja_nil)) (ja_cons (je_cmp (op_eqAll u64) eqD_ok (je_ix rfl u1 (je_var 2) je_int) je_str (nomark _)) ja_nil))))))))))
theorem fact__law_after (Z:Fx P w K mg):FnFact P w K mg base (G P w K) Θ s!"_law_after" 3 4 P__law_after f__law_after:=by
 obtain ⟨fd,F⟩:=Z.d__law_after
 exact fact_of F Z.g__law_after (fun _ _ _ _ _ _ us hl=>match us,hl with | [_,_,_],_=>rfl) (okf__law_after Z F)
theorem sc__law_run_of:FnScope N__law_run_of P__law_run_of (defScope s__law_run_of):=⟨rfl,rfl,rfl,by decide +kernel,rfl,by decide +kernel,by decide +kernel⟩
theorem okf__law_run_of (Z:Fx P w K mg){fd:FuncData}(F:FunD K s!"_law_run_of" s!"_law_run_of" (defArgs s__law_run_of) (defBody s__law_run_of) (defScope s__law_run_of) [] [] (He.fAd K (s!"_law_run_of",none)) fd):FnOkG P w K mg base 5 (He.fAd K (s!"_law_run_of",none)) fd P__law_run_of (spF (G P w K) Θ 3 f__law_run_of):=by
 refine okf_of F sc__law_run_of rfl rfl fun cdv A outer s H vs E U hr=>?_
 refine kitS hr sc__law_run_of fun nd u1 u64 u65 u190 gd tk hp=>?_
 exact (js_cons (by first | exact (js_par2 rfl nd (jn_cons (je_callF tk (fact__law_first Z) (hr.mono (by decide)) (ja_cons (je_var 1) ja_nil)) (fun _=>(jn_cons (je_lst ja_nil) (fun _=>jn_nil))))) | exact (js_parN rfl (pg_tup rfl (pgs_cons (pgN 4 nd) (pgs_cons (pgN 5 nd) pgs_nil))) rfl (by decide) (jn_cons (je_callF tk (fact__law_first Z) (hr.mono (by decide)) (ja_cons (je_var 1) ja_nil)) (fun _=>(jn_cons (je_lst ja_nil) (fun _=>jn_nil)))))) (js_cons (js_for hp rfl (ji_range Z.b_range (ja_cons (je_var 2) ja_nil)) (pgN 3 nd) tg_name (js_cons (jsN 6 nd (je_callF tk (fact__law_pick Z) (hr.mono (by decide)) (ja_cons (je_var 0) (ja_cons (je_callF tk (fact__law_choices Z) (hr.mono (by decide)) (ja_cons (je_var 1) (ja_cons (je_var 4) ja_nil))) ja_nil)))) (js_one (by first | exact (js_par2 rfl nd (jn_cons (je_bin op_addD addD_ok (je_var 5) (je_lst (ja_cons (je_var 6) ja_nil))) (fun _=>(jn_cons (je_ix rfl u1 (je_callF tk (fact__law_after Z) (hr.mono (by decide)) (ja_cons (je_var 1) (ja_cons (je_var 4) (ja_cons (je_var 6) ja_nil)))) je_int) (fun _=>jn_nil))))) | exact (js_parN rfl (pg_tup rfl (pgs_cons (pgN 5 nd) (pgs_cons (pgN 4 nd) pgs_nil))) rfl (by decide) (jn_cons (je_bin op_addD addD_ok (je_var 5) (je_lst (ja_cons (je_var 6) ja_nil))) (fun _=>(jn_cons (je_ix rfl u1 (je_callF tk (fact__law_after Z) (hr.mono (by decide)) (ja_cons (je_var 1) (ja_cons (je_var 4) (ja_cons (je_var 6) ja_nil)))) je_int) (fun _=>jn_nil))))))))) (js_one (js_ret (je_var 5)))))
theorem fact__law_run_of (Z:Fx P w K mg):FnFact P w K mg base (G P w K) Θ s!"_law_run_of" 3 5 P__law_run_of f__law_run_of:=by
 obtain ⟨fd,F⟩:=Z.d__law_run_of
 exact fact_of F Z.g__law_run_of (fun _ _ _ _ _ _ us hl=>match us,hl with | [_,_,_],_=>rfl) (okf__law_run_of Z F)
theorem sc__law_event_text:FnScope N__law_event_text P__law_event_text (defScope s__law_event_text):=⟨rfl,rfl,rfl,by decide +kernel,rfl,by decide +kernel,by decide +kernel⟩
theorem okf__law_event_text (Z:Fx P w K mg){fd:FuncData}(F:FunD K s!"_law_event_text" s!"_law_event_text" (defArgs s__law_event_text) (defBody s__law_event_text) (defScope s__law_event_text) [] [] (He.fAd K (s!"_law_event_text",none)) fd):FnOkG P w K mg base 1 (He.fAd K (s!"_law_event_text",none)) fd P__law_event_text (spF (G P w K) Θ 1 f__law_event_text):=by
 refine okf_of F sc__law_event_text rfl rfl fun cdv A outer s H vs E U hr=>?_
 refine kitS hr sc__law_event_text fun nd u1 u64 u65 u190 gd tk hp=>?_
 exact (js_one (js_ret (je_mt PySem.F.plainAttrs_str PySem.F.slot_str_join PySem.F.type_str_join mt_join joinD_ok rfl je_str (ja_cons (je_lc (own:=[(s!"_law_one",1)]) (g:=(gName 1)) rfl nd (ji_seq rfl (je_var 0)) (blkOk_by (own:=[(s!"_law_one",1)]) (N:=N__law_event_text) (sc:=defScope s__law_event_text) (by decide +kernel)) (by exact fun _=>(tv_name (by decide))) (fun _ _ _ _ _=>(pgN 1 nd)) (fun _ _ _ _ _ _=>jts_nil) (fun _ _ _ _ _ _=>(je_callTy call_strAll strD_ok Z.b_str (by decide +kernel) (ja_cons (je_var 1) ja_nil)))) ja_nil))))
theorem fact__law_event_text (Z:Fx P w K mg):FnFact P w K mg base (G P w K) Θ s!"_law_event_text" 1 1 P__law_event_text f__law_event_text:=by
 obtain ⟨fd,F⟩:=Z.d__law_event_text
 exact fact_of F Z.g__law_event_text (fun _ _ _ _ _ _ us hl=>match us,hl with | [_],_=>rfl) (okf__law_event_text Z F)
theorem sc_law:FnScope N_law P_law (defScope s_law):=⟨rfl,rfl,rfl,by decide +kernel,rfl,by decide +kernel,by decide +kernel⟩
theorem okf_law (Z:Fx P w K mg){fd:FuncData}(F:FunD K s!"law" s!"law" (defArgs s_law) (defBody s_law) (defScope s_law) [] [] (He.fAd K (s!"law",none)) fd):FnOkG P w K mg base 6 (He.fAd K (s!"law",none)) fd P_law (spF (G P w K) Θ 1 f_law):=by
 refine okf_of F sc_law rfl rfl fun cdv A outer s H vs E U hr=>?_
 refine kitS hr sc_law fun nd u1 u64 u65 u190 gd tk hp=>?_
 exact (js_cons (js_if (L2.PW.pt (jw_or (jt_cmp (op_neAll u64) neD_ok (je_callF tk (fact_write_events Z) (hr.mono (by decide)) (ja_cons (je_lst ja_nil) ja_nil)) je_str (nomark _)) (jw_or (jt_cmp (op_neAll u64) neD_ok (je_callF tk (fact_read_events Z) (hr.mono (by decide)) (ja_cons je_str ja_nil)) (je_lst ja_nil) (nomark _)) (pw_or1 (jt_cmp (op_neAll u64) neD_ok (je_callF tk (fact_read_events Z) (hr.mono (by decide)) (ja_cons je_str ja_nil)) (je_lst (ja_cons (je_tup (ja_cons je_str (ja_cons je_str ja_nil))) ja_nil)) (nomark _)))))) (js_one (js_ret je_bl)) js_nil) (js_cons (js_for hp rfl (ji_seq rfl (je_lst (ja_cons je_non (ja_cons je_int (ja_cons (je_lst (ja_cons je_str ja_nil)) (ja_cons je_bl ja_nil)))))) (pgN 1 nd) tg_name (js_one (js_if (jt_cmp (op_neAll u64) neD_ok (je_callF tk (fact__law_refused Z) (hr.mono (by decide)) (ja_cons (je_var 1) ja_nil)) (je_lst (ja_cons je_str (ja_cons je_non ja_nil))) (nomark _)) (js_one (js_ret je_bl)) js_nil))) (js_cons (js_for hp rfl (ji_range Z.b_range (ja_cons (je_callB (call_max2 rfl) fI2_ok Z.b_max (by decide +kernel) (ja_cons je_int (ja_cons (je_callB (call_min2 rfl) fI2_ok Z.b_min (by decide +kernel) (ja_cons (je_callB call_lenAll lenD_ok Z.b_len boot_len (ja_cons (je_var 0) ja_nil)) (ja_cons je_int ja_nil))) ja_nil))) ja_nil)) (pgN 2 nd) tg_name (js_cons (jsN 3 nd (je_callF tk (fact__law_pool Z) (hr.mono (by decide)) (ja_cons (je_var 0) (ja_cons (je_var 2) ja_nil)))) (js_cons (jsN 4 nd (je_callF tk (fact__law_plan Z) (hr.mono (by decide)) (ja_cons (je_var 3) (ja_cons je_int (ja_cons je_int ja_nil))))) (js_cons (jsN 5 nd (je_callF tk (fact__law_run_of Z) (hr.mono (by decide)) (ja_cons (je_var 3) (ja_cons (je_var 4) (ja_cons (je_bin op_addD addD_ok je_int (je_callF tk (fact__law_draw Z) (hr.mono (by decide)) (ja_cons (je_var 3) (ja_cons je_int ja_nil)))) ja_nil))))) (js_cons (by first | exact (js_setLc (i:=6) (own:=[(s!"_law_event",12)]) (g:=(gName 12)) rfl nd rfl (sw_true rfl rfl rfl (by decide +kernel)) (ji_seq rfl (je_var 5)) (blkOk_by (own:=[(s!"_law_event",12)]) (N:=N_law) (sc:=defScope s_law) (by decide +kernel)) (by exact fun _=>(tv_name (by decide))) (fun _ _ _ _ _=>(pgN 12 nd)) (fun _ _ _ _ _ _=>jts_nil) (fun _ _ _ _ _ _=>(je_callF takes0 (fact__law_event_text Z) (hr.mono (by decide)) (ja_cons (je_var 12) ja_nil)))) | exact (jsN 6 nd (je_lc (own:=[(s!"_law_event",12)]) (g:=(gName 12)) rfl nd (ji_seq rfl (je_var 5)) (blkOk_by (own:=[(s!"_law_event",12)]) (N:=N_law) (sc:=defScope s_law) (by decide +kernel)) (by exact fun _=>(tv_name (by decide))) (fun _ _ _ _ _=>(pgN 12 nd)) (fun _ _ _ _ _ _=>jts_nil) (fun _ _ _ _ _ _=>(je_callF takes0 (fact__law_event_text Z) (hr.mono (by decide)) (ja_cons (je_var 12) ja_nil)))))) (js_cons (js_for hp rfl (ji_range Z.b_range (ja_cons je_int ja_nil)) (pgN 7 nd) tg_name (js_cons (jsN 10 nd (je_callF tk (fact_read_events Z) (hr.mono (by decide)) (ja_cons (je_mt PySem.F.plainAttrs_str PySem.F.slot_str_join PySem.F.type_str_join mt_join joinD_ok rfl je_str (ja_cons (je_var 6) ja_nil)) ja_nil))) (js_cons (js_if (L2.PW.pt (jw_or (jt_cmp (op_neAll u64) neD_ok (je_var 10) (je_var 5) (nomark _)) (jw_or (jt_cmp (op_neAll u64) neD_ok (je_callF tk (fact_write_events Z) (hr.mono (by decide)) (ja_cons (je_var 5) ja_nil)) (je_mt PySem.F.plainAttrs_str PySem.F.slot_str_join PySem.F.type_str_join mt_join joinD_ok rfl je_str (ja_cons (je_var 6) ja_nil)) (nomark _)) (pw_or1 (jt_cmp (op_neAll u64) neD_ok (je_callF tk (fact_write_events Z) (hr.mono (by decide)) (ja_cons (je_callTy call_tuple_of tupleD_ok Z.b_tuple (by decide +kernel) (ja_cons (je_var 5) ja_nil)) ja_nil)) (je_mt PySem.F.plainAttrs_str PySem.F.slot_str_join PySem.F.type_str_join mt_join joinD_ok rfl je_str (ja_cons (je_var 6) ja_nil)) (nomark _)))))) (js_one (js_ret je_bl)) js_nil) (js_one (js_expr (je_mut PySem.F.plainAttrs_list PySem.F.slot_list_append PySem.F.type_list_append mt_append appendD_ok rfl (je_var 10) (ja_cons je_non ja_nil))))))) (js_cons (jsN 8 nd (je_callF tk (fact__law_draw Z) (hr.mono (by decide)) (ja_cons (je_var 3) (ja_cons (je_callB call_lenAll lenD_ok Z.b_len boot_len (ja_cons (je_var 6) ja_nil)) ja_nil)))) (js_cons (jsN 9 nd (je_lst (ja_cons je_str (ja_cons je_str (ja_cons je_str (ja_cons je_str (ja_cons je_str (ja_cons je_str (ja_cons je_str (ja_cons je_str (ja_cons je_str ja_nil))))))))))) (js_one (js_for hp rfl (ji_seq rfl (je_bin op_addD addD_ok (je_var 9) (je_lst (ja_cons je_str (ja_cons je_str (ja_cons je_str (ja_cons je_str ja_nil))))))) (pgN 1 nd) tg_name (js_cons (jsN 11 nd (je_mt PySem.F.plainAttrs_str PySem.F.slot_str_join PySem.F.type_str_join mt_join joinD_ok rfl je_str (ja_cons (je_bin op_addD addD_ok (je_bin op_addD addD_ok (je_bin op_addD addD_ok (je_sl rfl (je_var 6) .none (.some (je_var 8))) (je_lst (ja_cons (je_var 1) ja_nil))) (je_sl rfl (je_var 6) (.some (je_bin op_addD addD_ok (je_var 8) je_int)) .none)) (je_lst (ja_cons je_str ja_nil))) ja_nil))) (js_one (js_if (jt_cmp (op_neAll u64) neD_ok (je_callF tk (fact__law_refused Z) (hr.mono (by decide)) (ja_cons (je_var 11) ja_nil)) (je_lst (ja_cons je_str (ja_cons (je_var 8) ja_nil))) (nomark _)) (js_one (js_ret je_bl)) js_nil))))))))))))) (js_one (js_ret je_bl)))))
theorem ob_eq (s:PySem.W.SharedT):ob s=hk.obs s.abs:=obsZ_eq (HandSHeadRun.getT_eq s)
theorem facts {P:Program}{w:World}{K:PySem.W.Frag}{h:Heap}{mg:PySem.Str→Option Value}(X:K.In h)(Gn:h.Ns mainGlobals mg)(c:He.SaysD fas dfs K)(cm:ex K=true):Fx P w K mg:=by
 have e0:ex K=true:=cm
 obtain ⟨x0,e1⟩:=and2 e0
 obtain ⟨x1,e2⟩:=and2 e1
 obtain ⟨x2,e3⟩:=and2 e2
 obtain ⟨x3,e4⟩:=and2 e3
 obtain ⟨x4,e5⟩:=and2 e4
 obtain ⟨x5,e6⟩:=and2 e5
 obtain ⟨x6,e7⟩:=and2 e6
 have x7:=e7
 have h_g_event_text:=He.glo_ok X Gn (c.fact 0 (f:=.glo s!"event_text") rfl)
 have h_g_write_events:=He.glo_ok X Gn (c.fact 1 (f:=.glo s!"write_events") rfl)
 have h_g_is_name:=He.glo_ok X Gn (c.fact 2 (f:=.glo s!"is_name") rfl)
 have h_g_is_figure:=He.glo_ok X Gn (c.fact 3 (f:=.glo s!"is_figure") rfl)
 have h_g_event_in:=He.glo_ok X Gn (c.fact 4 (f:=.glo s!"event_in") rfl)
 have h_g_read_events:=He.glo_ok X Gn (c.fact 5 (f:=.glo s!"read_events") rfl)
 have h_g__law_refused:=He.glo_ok X Gn (c.fact 6 (f:=.glo s!"_law_refused") rfl)
 have h_g__law_pool:=He.glo_ok X Gn (c.fact 7 (f:=.glo s!"_law_pool") rfl)
 have h_g__law_draw:=He.glo_ok X Gn (c.fact 8 (f:=.glo s!"_law_draw") rfl)
 have h_g__law_pick:=He.glo_ok X Gn (c.fact 9 (f:=.glo s!"_law_pick") rfl)
 have h_g__law_names:=He.glo_ok X Gn (c.fact 10 (f:=.glo s!"_law_names") rfl)
 have h_g__law_plan:=He.glo_ok X Gn (c.fact 11 (f:=.glo s!"_law_plan") rfl)
 have h_g__law_first:=He.glo_ok X Gn (c.fact 12 (f:=.glo s!"_law_first") rfl)
 have h_g__law_events:=He.glo_ok X Gn (c.fact 13 (f:=.glo s!"_law_events") rfl)
 have h_g__law_can:=He.glo_ok X Gn (c.fact 14 (f:=.glo s!"_law_can") rfl)
 have h_g__law_choices:=He.glo_ok X Gn (c.fact 15 (f:=.glo s!"_law_choices") rfl)
 have h_g__law_group:=He.glo_ok X Gn (c.fact 16 (f:=.glo s!"_law_group") rfl)
 have h_g__law_stopped:=He.glo_ok X Gn (c.fact 17 (f:=.glo s!"_law_stopped") rfl)
 have h_g__law_word:=He.glo_ok X Gn (c.fact 18 (f:=.glo s!"_law_word") rfl)
 have h_g__law_low:=He.glo_ok X Gn (c.fact 19 (f:=.glo s!"_law_low") rfl)
 have h_g__law_put:=He.glo_ok X Gn (c.fact 20 (f:=.glo s!"_law_put") rfl)
 have h_g__law_paid:=He.glo_ok X Gn (c.fact 21 (f:=.glo s!"_law_paid") rfl)
 have h_g__law_lined:=He.glo_ok X Gn (c.fact 22 (f:=.glo s!"_law_lined") rfl)
 have h_g__law_after:=He.glo_ok X Gn (c.fact 23 (f:=.glo s!"_law_after") rfl)
 have h_g__law_run_of:=He.glo_ok X Gn (c.fact 24 (f:=.glo s!"_law_run_of") rfl)
 have h_g__law_event_text:=He.glo_ok X Gn (c.fact 25 (f:=.glo s!"_law_event_text") rfl)
 have h_g_law:=He.glo_ok X Gn (c.fact 26 (f:=.glo s!"law") rfl)
 have h_gc_BadText:=He.glo_ok X Gn (c.fact 27 (f:=.glo s!"BadText") rfl)
 have h_b_abs:=He.free_ok X Gn (c.fact 28 (f:=.free s!"abs") rfl)
 have h_b_all:=He.free_ok X Gn (c.fact 29 (f:=.free s!"all") rfl)
 have h_b_enumerate:=He.free_ok X Gn (c.fact 30 (f:=.free s!"enumerate") rfl)
 have h_b_int:=He.free_ok X Gn (c.fact 31 (f:=.free s!"int") rfl)
 have h_b_isinstance:=He.free_ok X Gn (c.fact 32 (f:=.free s!"isinstance") rfl)
 have h_b_len:=He.free_ok X Gn (c.fact 33 (f:=.free s!"len") rfl)
 have h_b_max:=He.free_ok X Gn (c.fact 34 (f:=.free s!"max") rfl)
 have h_b_min:=He.free_ok X Gn (c.fact 35 (f:=.free s!"min") rfl)
 have h_b_range:=He.free_ok X Gn (c.fact 36 (f:=.free s!"range") rfl)
 have h_b_sorted:=He.free_ok X Gn (c.fact 37 (f:=.free s!"sorted") rfl)
 have h_b_str:=He.free_ok X Gn (c.fact 38 (f:=.free s!"str") rfl)
 have h_b_sum:=He.free_ok X Gn (c.fact 39 (f:=.free s!"sum") rfl)
 have h_b_tuple:=He.free_ok X Gn (c.fact 40 (f:=.free s!"tuple") rfl)
 have h_c_FIGURES:=He.str_ok X Gn (c.fact 41 (f:=.str s!"FIGURES" s!"0123456789") rfl)
 have h_c_LETTERS:=He.str_ok X Gn (c.fact 42 (f:=.str s!"LETTERS" s!"abcdefghijklmnopqrstuvwxyz") rfl)
 have h_c_MOST_LETTERS:=He.int_ok X Gn (c.fact 43 (f:=.int s!"MOST_LETTERS" (8)) rfl)
 have h_GLOTownError:=He.glo_ok X Gn (c.fact 44 (f:=.glo s!"TownError") rfl)
 have h_d_event_text:=c.def_ 0 (d:=dd_event_text) rfl
 have h_d_write_events:=c.def_ 1 (d:=dd_write_events) rfl
 have h_d_is_name:=c.def_ 2 (d:=dd_is_name) rfl
 have h_d_is_figure:=c.def_ 3 (d:=dd_is_figure) rfl
 have h_d_event_in:=c.def_ 4 (d:=dd_event_in) rfl
 have h_d_read_events:=c.def_ 5 (d:=dd_read_events) rfl
 have h_d__law_refused:=c.def_ 6 (d:=dd__law_refused) rfl
 have h_d__law_pool:=c.def_ 7 (d:=dd__law_pool) rfl
 have h_d__law_draw:=c.def_ 8 (d:=dd__law_draw) rfl
 have h_d__law_pick:=c.def_ 9 (d:=dd__law_pick) rfl
 have h_d__law_names:=c.def_ 10 (d:=dd__law_names) rfl
 have h_d__law_plan:=c.def_ 11 (d:=dd__law_plan) rfl
 have h_d__law_first:=c.def_ 12 (d:=dd__law_first) rfl
 have h_d__law_events:=c.def_ 13 (d:=dd__law_events) rfl
 have h_d__law_can:=c.def_ 14 (d:=dd__law_can) rfl
 have h_d__law_choices:=c.def_ 15 (d:=dd__law_choices) rfl
 have h_d__law_group:=c.def_ 16 (d:=dd__law_group) rfl
 have h_d__law_stopped:=c.def_ 17 (d:=dd__law_stopped) rfl
 have h_d__law_word:=c.def_ 18 (d:=dd__law_word) rfl
 have h_d__law_low:=c.def_ 19 (d:=dd__law_low) rfl
 have h_d__law_put:=c.def_ 20 (d:=dd__law_put) rfl
 have h_d__law_paid:=c.def_ 21 (d:=dd__law_paid) rfl
 have h_d__law_lined:=c.def_ 22 (d:=dd__law_lined) rfl
 have h_d__law_after:=c.def_ 23 (d:=dd__law_after) rfl
 have h_d__law_run_of:=c.def_ 24 (d:=dd__law_run_of) rfl
 have h_d__law_event_text:=c.def_ 25 (d:=dd__law_event_text) rfl
 have h_d_law:=c.def_ 26 (d:=dd_law) rfl
 have h_d_BadText___init__:=c.def_ 27 (d:=dd_BadText___init__) rfl
 exact {
  g_event_text:=h_g_event_text
  g_write_events:=h_g_write_events
  g_is_name:=h_g_is_name
  g_is_figure:=h_g_is_figure
  g_event_in:=h_g_event_in
  g_read_events:=h_g_read_events
  g__law_refused:=h_g__law_refused
  g__law_pool:=h_g__law_pool
  g__law_draw:=h_g__law_draw
  g__law_pick:=h_g__law_pick
  g__law_names:=h_g__law_names
  g__law_plan:=h_g__law_plan
  g__law_first:=h_g__law_first
  g__law_events:=h_g__law_events
  g__law_can:=h_g__law_can
  g__law_choices:=h_g__law_choices
  g__law_group:=h_g__law_group
  g__law_stopped:=h_g__law_stopped
  g__law_word:=h_g__law_word
  g__law_low:=h_g__law_low
  g__law_put:=h_g__law_put
  g__law_paid:=h_g__law_paid
  g__law_lined:=h_g__law_lined
  g__law_after:=h_g__law_after
  g__law_run_of:=h_g__law_run_of
  g__law_event_text:=h_g__law_event_text
  g_law:=h_g_law
  gc_BadText:=h_gc_BadText
  b_abs:=h_b_abs
  b_all:=h_b_all
  b_enumerate:=h_b_enumerate
  b_int:=h_b_int
  b_isinstance:=h_b_isinstance
  b_len:=h_b_len
  b_max:=h_b_max
  b_min:=h_b_min
  b_range:=h_b_range
  b_sorted:=h_b_sorted
  b_str:=h_b_str
  b_sum:=h_b_sum
  b_tuple:=h_b_tuple
  c_FIGURES:=h_c_FIGURES
  c_LETTERS:=h_c_LETTERS
  c_MOST_LETTERS:=h_c_MOST_LETTERS
  d_event_text:=h_d_event_text
  d_write_events:=h_d_write_events
  d_is_name:=h_d_is_name
  d_is_figure:=h_d_is_figure
  d_event_in:=h_d_event_in
  d_read_events:=h_d_read_events
  d__law_refused:=h_d__law_refused
  d__law_pool:=h_d__law_pool
  d__law_draw:=h_d__law_draw
  d__law_pick:=h_d__law_pick
  d__law_names:=h_d__law_names
  d__law_plan:=h_d__law_plan
  d__law_first:=h_d__law_first
  d__law_events:=h_d__law_events
  d__law_can:=h_d__law_can
  d__law_choices:=h_d__law_choices
  d__law_group:=h_d__law_group
  d__law_stopped:=h_d__law_stopped
  d__law_word:=h_d__law_word
  d__law_low:=h_d__law_low
  d__law_put:=h_d__law_put
  d__law_paid:=h_d__law_paid
  d__law_lined:=h_d__law_lined
  d__law_after:=h_d__law_after
  d__law_run_of:=h_d__law_run_of
  d__law_event_text:=h_d__law_event_text
  d_law:=h_d_law
  d_BadText___init__:=h_d_BadText___init__
  tab:=tabB_ok (G:=G P w K) x0
  xc_BadText:=xcB_ok x1
  xi0_BadText:=⟨of_decide_eq_true (and2 x2).1,of_decide_eq_true (and2 x2).2⟩
  xb_BadText:=⟨of_decide_eq_true (and2 x3).1,(and2 (and2 x3).2).1,xfc_ok (and2 (and2 x3).2).2,h_GLOTownError⟩
  xn_BadText:=of_decide_eq_true x4
  xf_BadText:=xfB_ok x5
  xi_BadText:=excCB_ok x6
  xl:=x7
 }
end Lw
section
open PySem PySem.W PySem.Calls PyProof.Rows
theorem Lw.end_ (hl:∀ ns:List Int,ns.length≤63→Lw.f_law [.v (.scr ns)]=.ret (.val (.bl true)) []):PySem.Challenge.rw_cutofftills_k68_events_written_and_read.Holds:=by
 w_on; o_law
 refine HandSHeadRun.head_any (r:=OpenLaw.row PySem.Challenge.rw_cutofftills_k68_events_written_and_read) (q:=view (OpenLaw.row PySem.Challenge.rw_cutofftills_k68_events_written_and_read).prog [35]) (H:=Lw.hk) (ob:=Lw.ob) (M:=60000) (loose:=Lw.loose) (d:=HandSHeadRun.topDef (OpenLaw.row PySem.Challenge.rw_cutofftills_k68_events_written_and_read).prog 35) (kwd:=[]) Lw.ob_eq
  (by kernel_rfl) (fun s=>by kernel_rfl) Lw.run (by kernel_rfl) (by kernel_rfl) (by kernel_rfl) (by rfl) (by first | assumption | decide +kernel) (by decide +kernel) ⟨rfl,rfl,rfl,rfl,rfl,by decide +kernel⟩ ?hw ?hc
 case hw=>w_witness2
 case hc =>
  refine PyD.walk_ofW (l:=PySem.Challenge.rw_cutofftills_k68_events_written_and_read) (n:=63) (k:=6) (x:=s!"_law_script") rfl (by decide) (by kernel_rfl) ⟨⟨rfl,by decide,by decide⟩,rfl⟩ ?F PyD.hCX_ok
  intro w mg fa h Y Gn hmg0
  obtain ⟨K,KX,c,cm⟩:=Y
  have hmg:mg s!"law"=some (.ref fa):=by
   have e:(HandSHeadRun.topDef (OpenLaw.row PySem.Challenge.rw_cutofftills_k68_events_written_and_read).prog 35).name=s!"law":=by kernel_rfl
   rw [← e]
   exact hmg0
  have Z:=Lw.facts (P:=(OpenLaw.prog PySem.Challenge.rw_cutofftills_k68_events_written_and_read)) (w:=w) KX Gn c cm
  obtain ⟨fd,F⟩:=Z.d_law
  have ef:He.fAd K (s!"law",none)=fa:=by have e:=Z.g_law; rw [hmg] at e; exact (Value.ref.inj (Option.some.inj e)).symm
  have b:=L2.FunD.bindsA (ps:=Lw.P_law) F fun _ _ _ _ _ _ us hl=>match us,hl with | [_],_=>rfl
  refine ⟨K,fd,PyD.spF (Lw.G (OpenLaw.prog PySem.Challenge.rw_cutofftills_k68_events_written_and_read) w K) [] 1 Lw.f_law,KX,fun s v=>b s [v] rfl,fun H a ns hl2 _ hS=>PyD.law_sp hl H a ns hl2 hS,fun base KB GB=>?_⟩
  subst ef
  exact Lw.okf_law Z F
end
namespace Lw
open PySem L2 TL PyD
theorem nr {α:Type}{a b:α}(h:a=b):a=b:=h
theorem draw (p:Pl)(n:Int)(hn:0<n)(h3:n<1073741824):f__law_draw [.o (poolD p),.v (.int n)]=.ret (.val (.int (pd p n))) [poolD (pn p n)]:=by
 obtain ⟨a,b,h0,hb,hb2⟩:=p
 have e1:mulC b 48271=true:=mulC_r (by omega) (by omega)
 have e2:mulC ((b * 48271+11) % 2147483647) ((b * 48271+11) % 2147483647)=true:=mulC_r (by omega) (by omega)
 have e3:divC a n=true:=divC_ok hn h3
 have e4:∀ i,divC i 16=true:=fun i=>divC_ok (by decide) (by decide)
 by_cases h:0<a
 ·simp [f__law_draw,x_mkFn,b__law_draw,poolD,pd,pn,h,hn,h3,atI,ixN,setD,e3]
 ·simp [f__law_draw,x_mkFn,b__law_draw,poolD,pd,pn,h,hn,h3,atI,ixN,setD,e1,e2,e4]
theorem drawE (p:Pl)(n:Int)(hn:0<n)(h3:n<1073741824):∃ a q,0≤a∧a<n∧f__law_draw [.o (poolD p),.v (.int n)]=.ret (.val (.int a)) [poolD q] :=
 ⟨_,_,pd_nonneg p hn,pd_lt p hn,draw p n hn h3⟩
theorem pow18:powD (.int 10) (.int 18)=some (.val (.int 1000000000000000000)):=by rfl
theorem lst2 {x y:D}:lstD [x,y]=some (.new (.lst [x,y])):=by rfl
theorem cut63 (ns:List Int):PyD.cutD ns none (some 63)=ns.take 63:=by
 unfold PyD.cutD
 rw [HT.sIx_none,show (63:Int)=((63:Nat):Int) from rfl,HT.sIx_nat]
 simp only [List.drop_zero,Nat.sub_zero]
 rcases Nat.le_total 63 ns.length with h | h
 ·rw [Nat.min_eq_left h]
 ·rw [Nat.min_eq_right h,List.take_of_length_le (Nat.le_refl _),List.take_of_length_le h]
theorem intsB:∀ xs:List Int,intsD (xs.map D.int)=some xs
 | []=>rfl
 | x::xs=>by simp [intsD,intsB xs]
theorem pool (ns:List Int)(k:Int)(hk:0≤k)(hk2:k≤100):∃ p,f__law_pool [.v (.scr ns),.v (.int k)]=.ret (.new (poolD p)) []:=by
 have key:∀ z:Int,0≤z→∃ p:Pl,p.a=z * (if 1000000000000000000≤z then 1 else 0)∧p.b=((z % 2147483629+7919 * k * k+31 * k+17) * 48271 % 2147483647) * ((z % 2147483629+7919 * k * k+31 * k+17) * 48271 % 2147483647) % 2147483629:=fun z hz =>
  ⟨⟨_,_,by split <;> simp [hz],Int.emod_nonneg _ (by decide),by have:=Int.emod_lt_of_pos (((z % 2147483629+7919 * k * k+31 * k+17) * 48271 % 2147483647) * ((z % 2147483629+7919 * k * k+31 * k+17) * 48271 % 2147483647)) (show (0:Int)<2147483629 by decide); omega⟩,rfl,rfl⟩
 have m1:mulC 7919 k=true:=mulC_l (by decide) (by decide)
 have m1b:mulC (7919 * k) k=true:=mulC_l (by omega) (by omega)
 have m1c:mulC 31 k=true:=mulC_l (by decide) (by decide)
 have m2:∀ i,mulC i 48271=true:=fun i=>mulC_r (by decide) (by decide)
 have m3:∀ i:Int,mulC (i % 2147483647) (i % 2147483647)=true:=fun i=>mulC_l (by omega) (by omega)
 have m4:∀ (i:Int) (b:Bool),mulC i (if b=true then 1 else 0)=true:=fun i b=>mulC_r (by split <;> decide) (by split <;> decide)
 have m5:∀ (i:Int) (c:Prop) [Decidable c],mulC i (if c then 1 else 0)=true:=fun i c _=>mulC_r (by split <;> decide) (by split <;> decide)
 have m7:∀ i:Int,mulC 7 i=true:=fun i=>mulC_l (by decide) (by decide)
 have su:sumD [.lst ((ns.take 63).map D.int)]=some (.val (.int (ns.take 63).sum)):=by
  show (intsD ((ns.take 63).map D.int)).map _=_
  rw [intsB]; rfl
 have sl:slD (.scr ns) none (some 63)=some (.new (.lst ((ns.take 63).map D.int))):=by
  show some (Res.new (D.lst ((PyD.cutD ns none (some 63)).map D.int)))=_
  rw [cut63]
 by_cases h:k<ns.length
 ·have hi:atI ns k=some (ns[k.toNat]'(by omega)):=by
   rw [atI_of hk h]; simp
  have hz:0≤(if (ns[k.toNat]'(by omega))<0 then -(ns[k.toNat]'(by omega)) else (ns[k.toNat]'(by omega))):=by split <;> omega
  obtain ⟨p,h1,h2⟩:=key _ hz
  refine ⟨p,?_⟩
  simp [f__law_pool,x_mkFn,b__law_pool,h,hi,m1,m1b,m1c,m2,m3,m4,m5,pow18,lst2,poolD,h1,h2,negD]
 ·have hz:0≤(if 7 * (ns.take 63).sum+k<0 then -(7 * (ns.take 63).sum+k) else (7 * (ns.take 63).sum+k)):=by split <;> omega
  obtain ⟨p,h1,h2⟩:=key _ hz
  refine ⟨p,?_⟩
  generalize (ns.take 63).sum=S at *
  generalize (ns.take 63).map D.int=Ns at *
  simp [f__law_pool,x_mkFn,b__law_pool,h,m1,m1b,m1c,m2,m3,m4,m5,m7,pow18,lst2,poolD,h1,h2,sl,su]
theorem pick (p:Pl)(xs:List D)(h:0<xs.length)(h2:xs.length<1073741824):∃ x,xs[(pd p xs.length).toNat]?=some x∧f__law_pick [.o (poolD p),.v (.lst xs)]=.ret (.val x) [poolD (pn p xs.length)]:=by
 have h1:=pd_nonneg p (n:=xs.length) (by omega)
 have h3:=pd_lt p (n:=xs.length) (by omega)
 have e:atI xs (pd p xs.length)=xs[(pd p xs.length).toNat]?:=atI_of h1 h3
 have l:(pd p xs.length).toNat<xs.length:=by omega
 refine ⟨xs[(pd p xs.length).toNat],List.getElem?_eq_getElem l,?_⟩
 rw [List.getElem?_eq_getElem l] at e
 simp [f__law_pick,x_mkFn,b__law_pick,draw p xs.length (by omega) (by omega),e]
theorem pickE (p:Pl)(xs:List D)(h:0<xs.length)(h2:xs.length<1073741824):∃ x q,x∈xs∧f__law_pick [.o (poolD p),.v (.lst xs)]=.ret (.val x) [poolD q]:=by
 obtain ⟨x,h1,h3⟩:=pick p xs h h2
 exact ⟨x,_,List.mem_of_getElem? h1,h3⟩
end Lw
namespace Lw
open PySem PySem.Spec PyProof.Rows L2 TL PyD
abbrev LET:Str:=s!"abcdefghijklmnopqrstuvwxyz"
theorem let_len:LET.length=26:=by decide +kernel
theorem let_list:LET.cps.toList=(List.range 26).map (·+97):=by decide +kernel
theorem let_llen:LET.cps.toList.length=26:=by decide +kernel
def inL (c:Nat):Bool:=decide (c∈LET.cps.toList)
def isNm (s:Str):Bool:=decide (1≤(s.length:Int))&&(decide ((s.length:Int)≤8)&&s.cps.toList.all inL)
theorem blsD_map {α:Type}(p:α→Bool):∀ xs:List α,blsD (xs.map fun c=>D.bl (p c))=some (xs.map p)
 | []=>rfl
 | x::xs=>by simp [blsD,blsD_map p xs]
theorem isi_str (s:Str):isiD' T [.str s,.ty "str"]=some (.val (.bl true)):=nr rfl
abbrev inX:D→D→Option Res:=inD false
theorem in_let (c:Nat):inX (.str ⟨#[c]⟩) (.str LET)=some (.val (.bl (inL c))):=by
 simp [inL]
theorem is_name_str (s:Str)(h:s.length≤16777216):f_is_name [.v (.str s)]=.ret (.val (.bl (isNm s))) []:=by
 have hl:lcD [1] (gN 1) mYes (mBin inX (mVar 1) (mC (.str LET))) (signsD s) [] [some (.val (.str s)),none]=.ok ((s.cps.toList.map fun c=>D.bl (inL c))) [some (.val (.str s)),none]:=by
  have:=lc_map (vs:=[1]) (f:=gN 1) (t:=mYes) (me:=mBin inX (mVar 1) (mC (.str LET))) (ρ:=[some (.val (.str s)),none]) (ds:=signsD s) (acc:=[]) (g:=fun d=>match inX d (.str LET) with | some (.val d)=>d | _=>.non) ?_ ?_
  ·rw [this]; simp only [signsD,List.map_map,List.nil_append]
   congr 1
   refine List.map_congr_left fun c _=>?_
   simp only [Function.comp,in_let]
  ·intro d hd
   simp only [signsD,List.mem_map] at hd
   obtain ⟨c,_,rfl⟩:=hd
   refine ⟨[some (.val (.str s)),some (.val (.str ⟨#[c]⟩))],.val (.bl (inL c)),by simp,by simp,?_,?_,by simp⟩
   ·simp only [x_mBin,x_mVar,x_mC]
    simp only [List.getElem?_cons_succ,List.getElem?_cons_zero,x_varRv,x_bindFv,x_op2,x_resV,x_optO,in_let,x_fOut]
   ·simp only [x_frzV,in_let]
  ·simp [signsD]; exact h
 have hL:s!"abcdefghijklmnopqrstuvwxyz"=LET:=rfl
 have hb:=blsD_map inL s.cps.toList
 by_cases c1:1≤(s.length:Int)
 ·by_cases c2:(s.length:Int)≤8
  ·simp [f_is_name,x_mkFn,b_is_name,isi_str,h,c1,c2,isNm,hL,hl,hb]
  ·simp [f_is_name,x_mkFn,b_is_name,isi_str,h,c1,c2,isNm]
 ·simp [f_is_name,x_mkFn,b_is_name,isi_str,h,c1,isNm]
theorem app_tl (x y:Str):(x++y).cps.toList=x.cps.toList++y.cps.toList:=by
 show (x.cps++y.cps).toList=_
 simp
theorem app_len (x y:Str):(x++y).length=x.length+y.length:=by
 show (x.cps++y.cps).size=_
 simp [Str.length]
theorem hLET:s!"abcdefghijklmnopqrstuvwxyz"=LET:=rfl
def PRE:List (Str×Str):=[(s!"",s!""),(s!"",s!"q"),(s!"ab",s!""),(s!"abcdefg",s!""),(s!"",s!"abcdefg")]
theorem pre_ok:∀ x∈PRE,x.1.length+1+x.2.length≤8∧x.1.cps.toList.all inL=true∧x.2.cps.toList.all inL=true:=by decide +kernel
theorem let_at (i:Int)(h:0≤i)(h2:i<26):inL (i.toNat+97)=true∧atI LET.cps.toList i=some (i.toNat+97):=by
 refine ⟨?_,?_⟩
 ·unfold inL; rw [let_list]; simp; omega
 ·rw [atI_of h (by rw [let_llen]; exact h2),let_list]
  simp only [List.getElem?_map]
  rw [List.getElem?_eq_getElem (by simp; omega)]
  simp
def nmC (y:Str×Str)(c:Nat):Str:=y.1++⟨#[c]⟩++y.2
theorem nm_of (x:Str×Str)(c:Nat)(h:x∈PRE)(hc:inL c=true):isNm (nmC x c)=true:=by
 obtain ⟨h1,h2,h3⟩:=pre_ok x h
 unfold isNm nmC
 rw [app_tl,app_tl,app_len,app_len,show (⟨#[c]⟩:Str).length=1 from rfl]
 simp only [List.all_append,h2,h3,Bool.and_true,Bool.true_and]
 simp [hc]; omega
theorem ltC_pre:∀ (p a b:List Nat),ltCps (p++a) (p++b)=ltCps a b
 | [],a,b=>rfl
 | x::p,a,b=>by simp [ltCps,ltC_pre p a b]
theorem nm_lt (y:Str×Str)(c d:Nat):ltS (nmC y c) (nmC y d)=decide (c<d):=by
 unfold ltS nmC
 rw [app_tl,app_tl,app_tl,app_tl,List.append_assoc,List.append_assoc,ltC_pre]
 simp only [List.cons_append,List.nil_append,ltCps,ltC_irr,Bool.and_false,Bool.or_false]
theorem nm_inj (y:Str×Str)(c d:Nat)(h:nmC y c=nmC y d):c=d:=by
 have h1:=nm_lt y c d
 have h2:=nm_lt y d c
 rw [h] at h1 h2
 have e:ltS (nmC y d) (nmC y d)=false:=ltC_irr _
 rw [e] at h1 h2
 have h1:=(decide_eq_false_iff_not.mp h1.symm)
 have h2:=(decide_eq_false_iff_not.mp h2.symm)
 omega
def sgA (a s:Int)(i:Nat):Nat:=((a+s * (i:Nat)) % 26).toNat+97
theorem sg_in (a s:Int)(i:Nat):inL (sgA a s i)=true:=(let_at ((a+s * (i:Nat)) % 26) (by omega) (by omega)).1
theorem sg_ne (a s:Int)(i j:Nat)(hs:s=1∨s=3∨s=5∨s=7∨s=9∨s=11)(hi:i<4)(hj:j<4)(h:i≠j):sgA a s i≠sgA a s j:=by
 unfold sgA
 intro e
 have hi':i=0∨i=1∨i=2∨i=3:=by omega
 have hj':j=0∨j=1∨j=2∨j=3:=by omega
 rcases hs with rfl | rfl | rfl | rfl | rfl | rfl <;> rcases hi' with rfl | rfl | rfl | rfl <;> rcases hj' with rfl | rfl | rfl | rfl <;> first | (exact h rfl) | (simp at e; omega)
theorem names (p:Pl)(n:Int)(h1:1≤n)(h4:n≤4):∃ y∈PRE,∃ a s q,(s=1∨s=3∨s=5∨s=7∨s=9∨s=11)∧f__law_names [.o (poolD p),.v (.int n)]=.ret (.new (.lst (((List.range n.toNat).map fun i=>nmC y (sgA a s i)).map .str))) [poolD q]:=by
 obtain ⟨a,ha⟩:∃ a,pd p 26=a:=⟨_,rfl⟩
 obtain ⟨p1,hp1⟩:∃ p1,pn p 26=p1:=⟨_,rfl⟩
 obtain ⟨b,hb⟩:∃ b,pd p1 6=b:=⟨_,rfl⟩
 obtain ⟨p2,hp2⟩:∃ p2,pn p1 6=p2:=⟨_,rfl⟩
 have d1:=draw p 26 (by decide) (by decide)
 have d2:=draw p1 6 (by decide) (by decide)
 rw [ha,hp1] at d1
 rw [hb,hp2] at d2
 obtain ⟨x,hx,pk⟩:=pick p2 (PRE.map lkD) (by decide) (by decide)
 obtain ⟨y,hy,rfl⟩:∃ y∈PRE,x=lkD y:=by
  obtain ⟨y,hy,e⟩:=List.mem_map.mp (List.mem_of_getElem? hx)
  exact ⟨y,hy,e.symm⟩
 obtain ⟨q,hq⟩:∃ q,pn p2 (PRE.map lkD).length=q:=⟨_,rfl⟩
 rw [hq] at pk
 have pk2:f__law_pick [.o (poolD p2),.v (.lst [.tup [.str s!"",.str s!""],.tup [.str s!"",.str s!"q"],.tup [.str s!"ab",.str s!""],.tup [.str s!"abcdefg",.str s!""],.tup [.str s!"",.str s!"abcdefg"]])]=.ret (.val (.tup [.str y.1,.str y.2])) [poolD q]:=pk
 have b0:=pd_nonneg p1 (n:=6) (by decide)
 have b1:=pd_lt p1 (n:=6) (by decide)
 rw [hb] at b0 b1
 have l1:=pre_ok y hy
 have m1:mulC 2 b=true:=mulC_l (by decide) (by decide)
 obtain ⟨s,hs⟩:∃ s,1+2 * b=s:=⟨_,rfl⟩
 have m2:∀ i,mulC s i=true:=fun i=>mulC_l (by omega) (by omega)
 have at0:=fun (i:Nat)=>(let_at ((a+s * (i:Nat)) % 26) (by omega) (by omega)).2
 have a0:=at0 0
 have a1:=at0 1
 have a2:=at0 2
 have a3:=at0 3
 have lcc:∀ c:Nat,(⟨#[c]⟩:Str).length=1:=fun _=>rfl
 have g1:y.1.length+1≤16777216:=by omega
 have g2:∀ c:Nat,(y.1++⟨#[c]⟩).length+y.2.length≤16777216:=fun c=>by rw [app_len,lcc]; omega
 refine ⟨y,hy,a,s,q,by omega,?_⟩
 simp at a0 a1 a2 a3
 have cs:n=1∨n=2∨n=3∨n=4:=by omega
 rcases cs with rfl | rfl | rfl | rfl
 ·have rg:rangeD 0 1=[.int 0]:=rfl
  have rr:List.range (1:Int).toNat=[0]:=rfl
  rw [rr]
  simp [f__law_names,x_mkFn,b__law_names,hLET,d1,d2,pk2,List.replicate,m1,hs,m2,a0,a1,a2,a3,lcc,g1,g2,rg,x_lcC,let_len,nmC,sgA]
 ·have rg:rangeD 0 2=[.int 0,.int 1]:=rfl
  have rr:List.range (2:Int).toNat=[0,1]:=rfl
  rw [rr]
  simp [f__law_names,x_mkFn,b__law_names,hLET,d1,d2,pk2,List.replicate,m1,hs,m2,a0,a1,a2,a3,lcc,g1,g2,rg,x_lcC,let_len,nmC,sgA]
 ·have rg:rangeD 0 3=[.int 0,.int 1,.int 2]:=rfl
  have rr:List.range (3:Int).toNat=[0,1,2]:=rfl
  rw [rr]
  simp [f__law_names,x_mkFn,b__law_names,hLET,d1,d2,pk2,List.replicate,m1,hs,m2,a0,a1,a2,a3,lcc,g1,g2,rg,x_lcC,let_len,nmC,sgA]
 ·have rg:rangeD 0 4=[.int 0,.int 1,.int 2,.int 3]:=rfl
  have rr:List.range (4:Int).toNat=[0,1,2,3]:=rfl
  rw [rr]
  simp [f__law_names,x_mkFn,b__law_names,hLET,d1,d2,pk2,List.replicate,m1,hs,m2,a0,a1,a2,a3,lcc,g1,g2,rg,x_lcC,let_len,nmC,sgA]
abbrev sN:Str:=s!"name"
abbrev sL:Str:=s!"limit"
abbrev sH:Str:=s!"heeds"
def till (n:Str)(l:Int)(h:Bool):D:=.obj 0 [(sN,.str n),(sL,.int l),(sH,.bl h)]
theorem isNm_len {s:Str}(h:isNm s=true):s.length≤8:=by
 unfold isNm at h; simp at h; omega
theorem nm_t {s:Str}(h:isNm s=true):f_is_name [.v (.str s)]=.ret (.val (.bl true)) []:=by
 have:=isNm_len h
 rw [is_name_str s (by omega),h]
theorem nm_so {s:Str}(h:isNm s=true):PyData.strOk s=true:=by
 unfold isNm at h
 simp only [Bool.and_eq_true] at h
 refine strOk_of fun c hc=>?_
 have:=List.all_eq_true.mp h.2.2 c hc
 unfold inL at this
 rw [let_list] at this
 simp at this
 omega
structure Tl where
 n:Str
 l:Int
 h:Bool
def Tl.d (t:Tl):D:=till t.n t.l t.h
def txt (p:Str×Str):Str:=Txt.join s!" " [p.1,p.2]
theorem cut_take (xs:List D)(i:Nat):PyD.cutD xs none (some (i:Int))=xs.take i:=by
 unfold PyD.cutD
 rw [HT.sIx_nat,HT.sIx_none]
 simp
theorem x_slT {xs:List D}{lo hi:Option Int}:slD (.tup xs) lo hi=some (.val (.tup (PyD.cutD xs lo hi))):=rfl
theorem lkD_inj {p q:Str×Str}:lkD p=lkD q↔p=q:=by
 obtain ⟨a,b⟩:=p
 obtain ⟨c,d⟩:=q
 simp [lkD]
theorem inPairs (p:Str×Str)(h1:PyData.strOk p.1=true)(h2:PyData.strOk p.2=true)(qs:List (Str×Str))(hq:∀ q∈qs,PyData.strOk q.1=true∧PyData.strOk q.2=true):anyB (toPy (lkD p)) (toPys (qs.map lkD))=some (decide (p∈qs)):=by
 refine anyB_of (by simp [lkD,h1,h2]) (okds_iff.mpr fun x hx=>?_) (fun y hy=>?_) ?_
 ·obtain ⟨q,h,rfl⟩:=List.mem_map.mp hx
  simp [lkD,hq q h]
 ·obtain ⟨q,h,rfl⟩:=List.mem_map.mp hy
  simp [lkD,smk,smks]
 ·simp only [decide_eq_true_eq,List.mem_map,lkD_inj,exists_eq_right]
structure LkOk (ls:List (Str×Str))(ns:List Str):Prop where
 so:∀ y∈ns,PyData.strOk y=true
 ln:∀ y∈ns,y.length≤8
 m1:∀ p∈ls,p.1∈ns
 m2:∀ p∈ls,p.2∈ns
 lt:∀ p∈ls,ltS p.1 p.2=true
 nd:(ls.map txt).Nodup
 le:ls.length<60
theorem strs_map (ss:List Str):strsD (ss.map .str)=some ss:=by
 induction ss with
 | nil=>rfl
 | cons s ss ih=>simp [ih]
inductive Mem where
 | no | ti (n:Int) | su (n:Int)
def Mem.d:Mem→D
 | .no=>.tup [.str s!"nothing"]
 | .ti n=>.tup [.str s!"times",.int n]
 | .su n=>.tup [.str s!"sum",.int n]
def Mem.ok:Mem→Prop
 | .no=>True
 | .ti n=>0≤n∧n≤9
 | .su n=>0≤n∧n≤9
structure Twn where
 ts:List Tl
 ls:List (Str×Str)
 money:Int
 mem:Mem
 tops:Int
 num:Bool
def Twn.ns (t:Twn):List Str:=t.ts.map (·.n)
def Twn.d (t:Twn):D:=.obj 1 [(s!"row",.tup (t.ts.map Tl.d)),(s!"links",.tup (t.ls.map lkD)),(s!"money",.int t.money),(s!"memory",t.mem.d),(s!"tops",.int t.tops),(s!"numbered",.bl t.num)]
structure Twn.Ok (t:Twn):Prop where
 ne:t.ts≠[]
 l4:t.ts.length≤4
 nm:∀ s∈t.ns,isNm s=true
 nd:t.ns.Nodup
 lim:∀ x∈t.ts,0≤x.l∧x.l≤9
 lk:LkOk t.ls t.ns
 so:t.ls.Pairwise fun p q=>ltS (txt p) (txt q)=true
 mo:0≤t.money∧t.money≤9
 me:t.mem.ok
 to:0≤t.tops∧t.tops≤5
@[simp] theorem strip_t (t:Twn):strip t.d=t.d:=by simp [Twn.d]
@[simp] theorem strip_x (x:Tl):strip x.d=x.d:=by simp [Tl.d,till]
@[simp] theorem notO_t (t:Twn):notO t.d=true:=rfl
@[simp] theorem notO_x (x:Tl):notO x.d=true:=rfl
def allP:List Str→List (Str×Str)
 | []=>[]
 | k::r=>r.map (fun x=>(k,x))++allP r
theorem ltC_app:∀ (a b x y:List Nat),a.length=b.length→ltCps a b=true→ltCps (a++x) (b++y)=true
 | [],[],_,_,_,h=>by cases h
 | [],_::_,_,_,h,_=>by cases h
 | _::_,[],_,_,h,_=>by cases h
 | p::a,q::b,x,y,hl,h=>by
  simp only [ltCps,Bool.or_eq_true,decide_eq_true_eq,Bool.and_eq_true,beq_iff_eq,List.cons_append] at h ⊢
  rcases h with h | ⟨e,h⟩
  ·exact .inl h
  ·exact .inr ⟨e,ltC_app a b x y (by simpa using hl) h⟩
theorem tl_sp:tl s!" "=[32]:=by decide +kernel
theorem txt_tl (p:Str×Str):(txt p).cps.toList=p.1.cps.toList++(32::p.2.cps.toList):=by
 have:tl (Txt.join s!" " [p.1,p.2])=tl p.1++(32::tl p.2):=by
  rw [join_eq,tl_join,tl_sp]
  simp [joinL]
 exact this
theorem txt_l1 {a b c d:Str}(hl:a.length=c.length)(h:ltS a c=true):ltS (txt (a,b)) (txt (c,d))=true:=by
 unfold ltS
 rw [txt_tl,txt_tl]
 exact ltC_app _ _ _ _ (by simpa [Str.length] using hl) h
theorem txt_l2 {a b d:Str}(h:ltS b d=true):ltS (txt (a,b)) (txt (a,d))=true:=by
 unfold ltS
 rw [txt_tl,txt_tl,ltC_pre]
 unfold ltS at h
 simpa [ltCps] using h
theorem allP_mem:∀ {ks:List Str} {p:Str×Str},p∈allP ks→p.1∈ks∧p.2∈ks
 | [],p,h=>by cases h
 | k::r,p,h=>by
  simp only [allP,List.mem_append,List.mem_map] at h
  rcases h with ⟨x,hx,rfl⟩ | h
  ·simp [hx]
  ·have:=allP_mem h
   simp [this]
theorem allP_lt:∀ {ks:List Str},(ks.Pairwise fun a b=>ltS a b=true)→∀ p∈allP ks,ltS p.1 p.2=true
 | [],_,p,h=>by cases h
 | k::r,hs,p,h=>by
  obtain ⟨h1,h2⟩:=List.pairwise_cons.mp hs
  simp only [allP,List.mem_append,List.mem_map] at h
  rcases h with ⟨x,hx,rfl⟩ | h
  ·exact h1 x hx
  ·exact allP_lt h2 p h
theorem allP_pw:∀ {ks:List Str} {n:Nat},(∀ k∈ks,k.length=n)→(ks.Pairwise fun a b=>ltS a b=true)→(allP ks).Pairwise fun p q=>ltS (txt p) (txt q)=true
 | [],_,_,_=>.nil
 | k::r,n,hl,hs=>by
  obtain ⟨h1,h2⟩:=List.pairwise_cons.mp hs
  simp only [allP]
  refine List.pairwise_append.mpr ⟨List.pairwise_map.mpr (h2.imp fun q=>txt_l2 q),allP_pw (n:=n) (fun x hx=>hl x (List.mem_cons_of_mem _ hx)) h2,fun p hp q hq=>?_⟩
  obtain ⟨x,hx,rfl⟩:=List.mem_map.mp hp
  have:=allP_mem hq
  obtain ⟨c,d⟩:=q
  exact txt_l1 (by rw [hl k (List.mem_cons_self ..),hl c (List.mem_cons_of_mem _ this.1)]) (h1 c this.1)
theorem allP_len:∀ ks:List Str,ks.length≤4→(allP ks).length≤6
 | [],_=>by simp [allP]
 | [_],_=>by simp [allP]
 | [_,_],_=>by simp [allP]
 | [_,_,_],_=>by simp [allP]
 | [_,_,_,_],_=>by simp [allP]
 | _::_::_::_::_::_,h=>by simp at h
theorem rangeD_succ (i:Int)(k:Nat):rangeD i (k+1)=.int i::rangeD (i+1) k:=by
 unfold rangeD
 rw [List.range_succ_eq_map]
 simp only [List.map_cons,List.map_map,List.cons.injEq]
 refine ⟨by simp,List.map_congr_left fun j _=>?_⟩
 simp only [Function.comp,D.int.injEq]
 omega
theorem cut_drop (xs:List D)(i:Nat):PyD.cutD xs (some (i:Int)) none=xs.drop i:=by
 unfold PyD.cutD
 rw [HT.sIx_nat,HT.sIx_none]
 rcases Nat.le_total i xs.length with h | h
 ·rw [Nat.min_eq_left h,List.take_of_length_le]
  simp
 ·rw [Nat.min_eq_right h]
  simp [h]
section
variable (x1 x2 x3 x7 x8 x9:Option PyD.Slot)
end
def Mem.le3:Mem→Prop
 | .no=>True
 | .ti n=>n≤2
 | .su n=>n≤3
structure Twn.Dr (t:Twn)(m:Nat):Prop where
 ok:t.Ok
 lm:t.ts.length≤m
 l3:∀ x∈t.ts,x.l≤3
 mo:t.money≤4
 to:t.tops≤3
 me:t.mem.le3
 pat:∃ y∈PRE,∀ s∈t.ns,∃ c,s=nmC y c∧inL c=true
 gr:t.ls.Sublist (allP (sortS t.ns))
theorem nmC_len (y:Str×Str)(c:Nat):(nmC y c).length=y.1.length+1+y.2.length:=by
 unfold nmC; rw [app_len,app_len]; rfl
theorem names_nd (y:Str×Str)(a s:Int)(hs:s=1∨s=3∨s=5∨s=7∨s=9∨s=11)(n:Nat)(hn:n≤4):((List.range n).map fun i=>nmC y (sgA a s i)).Nodup:=by
 have f:∀ i j,i<4→j<4→i≠j→nmC y (sgA a s i)≠nmC y (sgA a s j):=fun i j hi hj h e=>sg_ne a s i j hs hi hj h (nm_inj y _ _ e)
 refine List.pairwise_map.mpr ?_
 have:(List.range n).Pairwise fun i j=>i<j∧j<n:=by
  have:=List.pairwise_lt_range (n:=n)
  exact (List.Pairwise.imp_of_mem (fun {a b} ha hb q=>⟨q,List.mem_range.mp hb⟩) this)
 exact this.imp fun {i j} q=>f i j (by omega) (by omega) (by omega)
theorem any_eq (s:Str):∀ ns:List Str,(ns.map fun n=>decide (n=s)).any id=decide (s∈ns)
 | []=>rfl
 | n::ns=>by
  simp only [List.map_cons,List.any_cons,any_eq s ns,id,List.mem_cons,Bool.decide_or]
  congr 1
  exact decide_eq_decide.mpr eq_comm
def seen:D→Bool
 | .non=>true
 | .bl _=>true
 | .int _=>true
 | .str _=>true
 | .lst _=>true
 | .tup _=>true
 | .dct _=>true
 | _=>false
def ev1 (k:String)(n:Str):D:=.tup [.str (Str.ofString k),.str n]
def evP (n:Str)(u:Int):D:=.tup [.str s!"pay",.str n,.int u]
def evT (u:Int):D:=.tup [.str s!"top",.int u]
def evL:D:=.tup [.str s!"lose"]
def evs (ns:List Str):List D:=ns.map (ev1 "cut")++ns.map (ev1 "line")++ns.flatMap (fun n=>[evP n 1,evP n 2])++[evT 1,evT 2,evL]++ns.map (ev1 "again")
theorem lc_ev (k:String)(ns:List Str)(h:ns.length≤100)(vs:Nat)(ρ:Rho)(h1:vs<ρ.length)(h2:ρ[vs]?=some none):lcD [vs] (gN vs) mYes (mCS tupD (mCons (mC (.str (Str.ofString k))) (mCons (mVar vs) mNil))) (ns.map .str) [] ρ=.ok (ns.map (ev1 k)) ρ:=by
 have lc:=lc_map (vs:=[vs]) (f:=gN vs) (t:=mYes) (me:=mCS tupD (mCons (mC (.str (Str.ofString k))) (mCons (mVar vs) mNil))) (ρ:=ρ) (ds:=ns.map .str) (acc:=[]) (g:=fun d=>.tup [.str (Str.ofString k),d]) (fun d hd=>by
  obtain ⟨x,_,rfl⟩:=List.mem_map.mp hd
  refine ⟨ρ.set vs (some (.val (.str x))),.val (.tup [.str (Str.ofString k),.str x]),by simp [h1],by simp,by simp [h1],by simp,?_⟩
  simp only [x_wipeC,x_wipeN,List.set_set]
  refine List.ext_getElem? fun i=>?_
  by_cases e:vs=i
  ·subst e; rw [List.getElem?_set_self h1,h2]
  ·rw [List.getElem?_set_ne e]) (by simp; omega)
 rw [lc,List.map_map]
 rfl
theorem flat_len (ns:List Str):(ns.flatMap (fun n=>[evP n 1,evP n 2])).length=2 * ns.length:=by
 induction ns with
 | nil=>rfl
 | cons n ns ih=>rw [List.flatMap_cons,List.length_append,ih]; simp; omega
theorem evs_len (ns:List Str):(evs ns).length=5 * ns.length+3:=by
 unfold evs
 simp only [List.length_append,List.length_map,flat_len,List.length_cons,List.length_nil]
 omega
section
variable (d0:D)(ns:List Str)
end
section
variable {α:Type}[DecidableEq α]
def othL (x:α)(l:α×α):α:=if l.1=x then l.2 else l.1
def addL (x:α)(F:List α)(l:α×α):List α:=if x=l.1∨x=l.2 then (if othL x l∈F then F else F++[othL x l]) else F
def bfsR (ls:List (α×α)):Nat→Nat→List α→Option (List α)
 | 0,_,_=>none
 | n+1,i,F=>match F[i]? with
  | some x=>bfsR ls n (i+1) (ls.foldl (addL x) F)
  | none=>some F
def grpF (ls:List (α×α))(a:α):List α:=(bfsR ls 6 0 [a]).getD []
def allQ:List α→List (α×α)
 | []=>[]
 | k::r=>r.map (fun x=>(k,x))++allQ r
def subs:List α→List (List α)
 | []=>[[]]
 | x::xs=>(subs xs).map (x::·)++subs xs
def touch (ls:List (α×α))(a b:α):Bool:=decide (a=b)||(decide ((a,b)∈ls)||decide ((b,a)∈ls))
def leads (ns:List α)(ls:List (α×α))(a b:α):Bool:=ns.any fun c=>ns.any fun d=>touch ls a c&&(touch ls c d&&touch ls d b)
theorem subs_mem:∀ {xs ys:List α},ys.Sublist xs→ys∈subs xs
 | [],ys,h=>by rw [List.sublist_nil.mp h]; simp [subs]
 | x::xs,ys,h=>by
  cases h with
  | cons _ h=>simp [subs,subs_mem h]
  | cons_cons _ h=>simp [subs,subs_mem h]
end
section
variable {α β:Type}[DecidableEq α][DecidableEq β](f:α→β)(hf:∀ a b,f a=f b→a=b)
abbrev f2 (f:α→β)(l:α×α):β×β:=(f l.1,f l.2)
include hf
theorem oth_nat (x:α)(l:α×α):othL (f x) (f2 f l)=f (othL x l):=by
 unfold othL
 by_cases h:l.1=x
 ·simp [h]
 ·have:f l.1≠f x:=fun e=>h (hf _ _ e)
  simp [h,this]
theorem mem_nat (x:α)(F:List α):f x∈F.map f↔x∈F:=by
 simp only [List.mem_map]
 exact ⟨fun ⟨y,h,e⟩=>hf _ _ e▸h,fun h=>⟨x,h,rfl⟩⟩
theorem add_nat (x:α)(F:List α)(l:α×α):addL (f x) (F.map f) (f2 f l)=(addL x F l).map f:=by
 unfold addL
 rw [oth_nat f hf]
 have e:(f x=(f2 f l).1∨f x=(f2 f l).2)↔(x=l.1∨x=l.2):=or_congr ⟨hf _ _,congrArg f⟩ ⟨hf _ _,congrArg f⟩
 by_cases h:x=l.1∨x=l.2
 ·rw [if_pos (e.mpr h),if_pos h]
  by_cases g:othL x l∈F
  ·rw [if_pos ((mem_nat f hf _ _).mpr g),if_pos g]
  ·rw [if_neg (fun z=>g ((mem_nat f hf _ _).mp z)),if_neg g]; simp
 ·rw [if_neg (fun z=>h (e.mp z)),if_neg h]
theorem fold_nat (x:α):∀ (ls:List (α×α)) (F:List α),(ls.map (f2 f)).foldl (addL (f x)) (F.map f)=(ls.foldl (addL x) F).map f
 | [],F=>rfl
 | l::ls,F=>by
  simp only [List.map_cons,List.foldl_cons]
  rw [add_nat f hf,fold_nat x ls]
theorem bfs_nat (ls:List (α×α)):∀ (n i:Nat) (F:List α),bfsR (ls.map (f2 f)) n i (F.map f)=(bfsR ls n i F).map (List.map f)
 | 0,_,_=>rfl
 | n+1,i,F=>by
  simp only [bfsR,List.getElem?_map]
  cases F[i]? with
  | none=>rfl
  | some x=>simp only [Option.map_some]; rw [fold_nat f hf,bfs_nat ls n]
theorem touch_nat (ls:List (α×α))(a b:α):touch (ls.map (f2 f)) (f a) (f b)=touch ls a b:=by
 have h2:∀ p q:α×α,f2 f p=f2 f q→p=q:=fun p q e=>by
  obtain ⟨p1,p2⟩:=p
  obtain ⟨q1,q2⟩:=q
  simp only [f2,Prod.mk.injEq] at e
  rw [hf _ _ e.1,hf _ _ e.2]
 have m:∀ p:α×α,(f p.1,f p.2)∈ls.map (f2 f)↔p∈ls:=fun p=>⟨fun h=>by
  obtain ⟨q,hq,e⟩:=List.mem_map.mp h
  exact h2 _ _ e▸hq,fun h=>List.mem_map.mpr ⟨p,h,rfl⟩⟩
 unfold touch
 rw [decide_eq_decide.mpr (⟨hf a b,congrArg f⟩:f a=f b↔a=b),decide_eq_decide.mpr (m (a,b)),decide_eq_decide.mpr (m (b,a))]
theorem leads_nat (ns:List α)(ls:List (α×α))(a b:α):leads (ns.map f) (ls.map (f2 f)) (f a) (f b)=leads ns ls a b:=by
 unfold leads
 simp only [List.any_map,Function.comp_def,touch_nat f hf]
omit hf [DecidableEq α] [DecidableEq β] in
theorem allQ_nat:∀ ks:List α,allQ (ks.map f)=(allQ ks).map (f2 f)
 | []=>rfl
 | k::r=>by
  simp only [List.map_cons,allQ,List.map_append,List.map_map,allQ_nat r]
  rfl
end
theorem allP_Q:∀ ks:List Str,allP ks=allQ ks
 | []=>rfl
 | k::r=>by simp only [allP,allQ,allP_Q r]
def finOk (m:Nat):Bool:=(subs (allQ (List.finRange m))).all fun li=>(List.finRange m).all fun a=>(bfsR li 6 0 [a]).isSome&&(List.finRange m).all fun b=>(decide (b∈grpF li a)==leads (List.finRange m) li a b)&&((!decide (b∈grpF li a))||(List.finRange m).all fun c=>decide (c∈grpF li b)==decide (c∈grpF li a))
theorem fin1:finOk 1=true:=by decide +kernel
theorem fin2:finOk 2=true:=by decide +kernel
theorem fin3:finOk 3=true:=by decide +kernel
theorem fin4:finOk 4=true:=by decide +kernel
theorem fin0:finOk 0=true:=by decide +kernel
theorem finA {m:Nat}(h:m≤4):finOk m=true:=by
 have:m=0∨m=1∨m=2∨m=3∨m=4:=by omega
 rcases this with rfl | rfl | rfl | rfl | rfl
 ·exact fin0
 ·exact fin1
 ·exact fin2
 ·exact fin3
 ·exact fin4
structure ToF (ns:List Str)(ls:List (Str×Str)) where
 m:Nat
 h4:m≤4
 f:Fin m→Str
 hf:∀ a b,f a=f b→a=b
 pm:((List.finRange m).map f).Perm ns
 li:List (Fin m×Fin m)
 sb:li.Sublist (allQ (List.finRange m))
 e:ls=li.map (f2 f)
theorem toF {ns:List Str}(nd:ns.Nodup)(l4:ns.length≤4){ls:List (Str×Str)}(hs:ls.Sublist (allP (sortS ns))):Nonempty (ToF ns ls):=by
 have pm:=sortS_perm ns
 have nk:(sortS ns).Nodup:=pm.nodup_iff.mpr nd
 have kl:=pm.length_eq
 generalize sortS ns=ks at *
 have hm:(List.finRange ks.length).map (fun i=>ks[i])=ks:=by
  refine List.ext_getElem (by simp) fun i h1 h2=>?_
  simp
 rw [allP_Q] at hs
 have hs2:ls.Sublist ((allQ (List.finRange ks.length)).map (f2 fun i=>ks[i])):=by
  rw [← allQ_nat,hm]; exact hs
 obtain ⟨li,h1,h2⟩:=List.sublist_map_iff.mp hs2
 exact ⟨⟨ks.length,by omega,fun i=>ks[i],fun a b e=>by
  have:=(List.getElem_inj nk).mp e
  exact Fin.ext this,by rw [hm]; exact pm,li,h1,h2⟩⟩
theorem ToF.at {ns:List Str}{ls:List (Str×Str)}(T:ToF ns ls){a:Str}(h:a∈ns):∃ i,T.f i=a:=by
 obtain ⟨i,_,e⟩:=List.mem_map.mp (T.pm.mem_iff.mpr h)
 exact ⟨i,e⟩
theorem ToF.fin {ns:List Str}{ls:List (Str×Str)}(T:ToF ns ls)(a:Fin T.m):(bfsR T.li 6 0 [a]).isSome=true∧∀ b,decide (b∈grpF T.li a)=leads (List.finRange T.m) T.li a b∧(b∈grpF T.li a→∀ c,(c∈grpF T.li b)↔(c∈grpF T.li a)):=by
 have:=finA T.h4
 unfold finOk at this
 have:=List.all_eq_true.mp this T.li (subs_mem T.sb)
 have:=List.all_eq_true.mp this a (List.mem_finRange a)
 obtain ⟨h1,h2⟩:=Bool.and_eq_true_iff.mp this
 refine ⟨h1,fun b=>?_⟩
 obtain ⟨g1,g2⟩:=Bool.and_eq_true_iff.mp (List.all_eq_true.mp h2 b (List.mem_finRange b))
 refine ⟨beq_iff_eq.mp g1,fun hb c=>?_⟩
 have g3:((List.finRange T.m).all fun c=>decide (c∈grpF T.li b)==decide (c∈grpF T.li a))=true:=by simpa [hb] using g2
 exact decide_eq_decide.mp (beq_iff_eq.mp (List.all_eq_true.mp g3 c (List.mem_finRange c)))
theorem ToF.grp {ns:List Str}{ls:List (Str×Str)}(T:ToF ns ls)(a:Fin T.m):bfsR ls 6 0 [T.f a]=some (grpF ls (T.f a))∧grpF ls (T.f a)=(grpF T.li a).map T.f:=by
 have n:=bfs_nat T.f T.hf T.li 6 0 [a]
 rw [← T.e] at n
 have h:=(T.fin a).1
 unfold grpF
 cases e:bfsR T.li 6 0 [a] with
 | none=>rw [e] at h; cases h
 | some G=>rw [e] at n; simp only [List.map_cons,List.map_nil,Option.map_some] at n; rw [n]; exact ⟨rfl,rfl⟩
theorem grp_leads {ns:List Str}(nd:ns.Nodup)(l4:ns.length≤4){ls:List (Str×Str)}(hs:ls.Sublist (allP (sortS ns))){a b:Str}(ha:a∈ns)(hb:b∈ns):decide (b∈grpF ls a)=leads ns ls a b:=by
 obtain ⟨T⟩:=toF nd l4 hs
 obtain ⟨i,rfl⟩:=T.at ha
 obtain ⟨j,rfl⟩:=T.at hb
 have e1:decide (T.f j∈grpF ls (T.f i))=decide (j∈grpF T.li i):=by
  rw [(T.grp i).2]
  exact decide_eq_decide.mpr (mem_nat T.f T.hf j _)
 have e2:=leads_nat T.f T.hf (List.finRange T.m) T.li i j
 rw [← T.e] at e2
 have e3:leads ((List.finRange T.m).map T.f) ls (T.f i) (T.f j)=leads ns ls (T.f i) (T.f j):=by
  unfold leads
  rw [T.pm.any_eq]
  congr 1
  funext c
  exact T.pm.any_eq
 rw [e1,((T.fin i).2 j).1,← e2,e3]
theorem idx_strs (a:Str):∀ ns:List Str,a∈ns→idxD (.str a) (ns.map .str)=some (ns.idxOf a)
 | [],h=>by cases h
 | n::ns,h=>by
  simp only [List.map_cons,idxD,x_evSS]
  by_cases e:n=a
  ·subst e; simp
  ·have:a∈ns:=by
    rcases List.mem_cons.mp h with z | z
    ·exact absurd z.symm e
    ·exact z
   rw [List.idxOf_cons]
   have:(n==a)=false:=by simpa using e
   simp [e,this,idx_strs a ns (by assumption)]
theorem pys_strs:∀ ns:List Str,toPys (ns.map .str)=some (ns.map .str)
 | []=>by simp
 | n::ns=>by simp [pys_strs ns]
theorem index_ok (a:Str)(ns:List Str)(h:a∈ns)(so:∀ n∈ns,PyData.strOk n=true):indexD (.lst (ns.map .str)) [.str a]=some (.val (.int (ns.idxOf a:Nat))):=by
 have e:=idx_strs a ns h
 have p:=pys_strs ns
 have ok:okd 60 (.lst (ns.map .str))=true:=by
  rw [x_okL,okds_iff]
  intro x hx
  obtain ⟨n,hn,rfl⟩:=List.mem_map.mp hx
  simp [so n hn]
 obtain ⟨q,h1,h2⟩:=okd_shaped ok
 simp only [x_tpL,p,Option.map_some,Option.some.injEq] at h1
 subst h1
 simp only [indexD,p,x_tpS,h2]
 simp [so a h,e]
theorem at_str {F:List Str}{i:Nat}{x:Str}(h:F[i]?=some x):atI (F.map D.str) (i:Nat)=some (.str x):=by
 have hi:i<F.length:=(List.getElem?_eq_some_iff.mp h).1
 rw [atI_of (by omega) (by simp; omega)]
 simp [h]
section
variable (d0 d1:D)(x4 x5 x6:Option PyD.Slot)
end
def Twn.grp (t:Twn)(a:Str):List Str:=t.ns.filter fun b=>decide (b∈grpF t.ls a)
def Twn.Gr (t:Twn):Prop:=t.ls.Sublist (allP (sortS t.ns))
theorem Twn.Ok.l4' {t:Twn}(h:t.Ok):t.ns.length≤4:=by unfold Twn.ns; simpa using h.l4
def upF {β:Type}(f:Str→β)(a:Str)(v:β):Str→β:=fun n=>if n=a then v else f n
def dF (ns:List Str)(f:Str→D):D:=.dct (ns.map fun n=>(.inr n,f n))
abbrev dB (ns:List Str)(f:Str→Bool):D:=dF ns fun n=>.bl (f n)
abbrev dI (ns:List Str)(f:Str→Int):D:=dF ns fun n=>.int (f n)
theorem upF_bl (f:Str→Bool)(a:Str)(v:Bool):upF (fun n=>D.bl (f n)) a (.bl v)=fun n=>D.bl (upF f a v n):=by
 funext n; unfold upF; split <;> rfl
theorem upF_int (f:Str→Int)(a:Str)(v:Int):upF (fun n=>D.int (f n)) a (.int v)=fun n=>D.int (upF f a v n):=by
 funext n; unfold upF; split <;> rfl
structure Bk where
 li:Str→Bool
 un:Str→Int
 he:Str→Bool
 to:Str→Int
 kept:Int
 lost:Bool
 left:Int
 tops:Int
 paid:Int
 topped:Int
 found:Int
abbrev kS (s:String):Key:=.inr (Str.ofString s)
def Bk.d (ns:List Str)(b:Bk):D:=.dctO [(kS "lines",.kid (dB ns b.li)),(kS "untold",.kid (dI ns b.un)),(kS "heard",.kid (dB ns b.he)),(kS "told",.kid (dI ns b.to)),(kS "kept",.int b.kept),(kS "lost",.bl b.lost),(kS "left",.int b.left),(kS "tops",.int b.tops),(kS "paid",.int b.paid),(kS "topped",.int b.topped),(kS "found",.int b.found)]
def Bk.f (ns:List Str)(b:Bk):D:=.dct [(kS "lines",dB ns b.li),(kS "untold",dI ns b.un),(kS "heard",dB ns b.he),(kS "told",dI ns b.to),(kS "kept",.int b.kept),(kS "lost",.bl b.lost),(kS "left",.int b.left),(kS "tops",.int b.tops),(kS "paid",.int b.paid),(kS "topped",.int b.topped),(kS "found",.int b.found)]
@[simp] theorem strip_dF (ns:List Str)(f:Str→D):strip (dF ns f)=dF ns f:=rfl
section
variable (ns:List Str)(b:Bk)
@[simp] theorem bk_strip:strip (b.d ns)=b.f ns:=by simp [Bk.d,Bk.f,PyD.strip,stripK,dF]
@[simp] theorem bkf_strip:strip (b.f ns)=b.f ns:=rfl
@[simp] theorem bkf_notO:notO (b.f ns)=true:=rfl
@[simp] theorem bk_kept:ixD (b.d ns) (.str s!"kept")=some (.val (.int b.kept)):=by simp [Bk.d,x_gVC,isKid]
@[simp] theorem bk_lost:ixD (b.d ns) (.str s!"lost")=some (.val (.bl b.lost)):=by simp [Bk.d,x_gVC,isKid]
@[simp] theorem bk_left:ixD (b.d ns) (.str s!"left")=some (.val (.int b.left)):=by simp [Bk.d,x_gVC,isKid]
@[simp] theorem bk_tops:ixD (b.d ns) (.str s!"tops")=some (.val (.int b.tops)):=by simp [Bk.d,x_gVC,isKid]
@[simp] theorem bk_paid:ixD (b.d ns) (.str s!"paid")=some (.val (.int b.paid)):=by simp [Bk.d,x_gVC,isKid]
@[simp] theorem bk_topped:ixD (b.d ns) (.str s!"topped")=some (.val (.int b.topped)):=by simp [Bk.d,x_gVC,isKid]
@[simp] theorem bk_found:ixD (b.d ns) (.str s!"found")=some (.val (.int b.found)):=by simp [Bk.d,x_gVC,isKid]
@[simp] theorem bkf_kept:ixD (b.f ns) (.str s!"kept")=some (.val (.int b.kept)):=by simp [Bk.f,x_valKC]
@[simp] theorem bkf_lost:ixD (b.f ns) (.str s!"lost")=some (.val (.bl b.lost)):=by simp [Bk.f,x_valKC]
@[simp] theorem bkf_left:ixD (b.f ns) (.str s!"left")=some (.val (.int b.left)):=by simp [Bk.f,x_valKC]
@[simp] theorem bkf_tops:ixD (b.f ns) (.str s!"tops")=some (.val (.int b.tops)):=by simp [Bk.f,x_valKC]
@[simp] theorem bkf_paid:ixD (b.f ns) (.str s!"paid")=some (.val (.int b.paid)):=by simp [Bk.f,x_valKC]
@[simp] theorem bkf_topped:ixD (b.f ns) (.str s!"topped")=some (.val (.int b.topped)):=by simp [Bk.f,x_valKC]
@[simp] theorem bkf_found:ixD (b.f ns) (.str s!"found")=some (.val (.int b.found)):=by simp [Bk.f,x_valKC]
theorem sz11:(11:Nat)<sizeLine:=by decide +kernel
@[simp] theorem st_kept (v:Int):setD (b.d ns) (.str s!"kept") (.int v)=some (({ b with kept:=v }:Bk).d ns):=by simp [Bk.d,setD,keyD,gU,x_gPC,sz11]
@[simp] theorem st_lost (v:Bool):setD (b.d ns) (.str s!"lost") (.bl v)=some (({ b with lost:=v }:Bk).d ns):=by simp [Bk.d,setD,keyD,gU,x_gPC,sz11]
@[simp] theorem st_left (v:Int):setD (b.d ns) (.str s!"left") (.int v)=some (({ b with left:=v }:Bk).d ns):=by simp [Bk.d,setD,keyD,gU,x_gPC,sz11]
@[simp] theorem st_tops (v:Int):setD (b.d ns) (.str s!"tops") (.int v)=some (({ b with tops:=v }:Bk).d ns):=by simp [Bk.d,setD,keyD,gU,x_gPC,sz11]
@[simp] theorem st_paid (v:Int):setD (b.d ns) (.str s!"paid") (.int v)=some (({ b with paid:=v }:Bk).d ns):=by simp [Bk.d,setD,keyD,gU,x_gPC,sz11]
@[simp] theorem st_topped (v:Int):setD (b.d ns) (.str s!"topped") (.int v)=some (({ b with topped:=v }:Bk).d ns):=by simp [Bk.d,setD,keyD,gU,x_gPC,sz11]
@[simp] theorem st_found (v:Int):setD (b.d ns) (.str s!"found") (.int v)=some (({ b with found:=v }:Bk).d ns):=by simp [Bk.d,setD,keyD,gU,x_gPC,sz11]
variable {ns}{a:Str}(ha:a∈ns)(l4:ns.length≤4)
include ha l4
end
inductive Ev where
 | cut (a:Str) | line (a:Str) | pay (a:Str) (u:Int) | top (u:Int) | lose | again (a:Str)
def Ev.d:Ev→D
 | .cut a=>.tup [.str s!"cut",.str a]
 | .line a=>.tup [.str s!"line",.str a]
 | .pay a u=>.tup [.str s!"pay",.str a,.int u]
 | .top u=>.tup [.str s!"top",.int u]
 | .lose=>.tup [.str s!"lose"]
 | .again a=>.tup [.str s!"again",.str a]
def Ev.In (ns:List Str):Ev→Prop
 | .cut a=>a∈ns
 | .line a=>a∈ns
 | .pay a _=>a∈ns
 | .again a=>a∈ns
 | _=>True
def Bk.stop (b:Bk):Bool:=b.lost||decide (b.left≤0)
def Bk.can (b:Bk):Ev→Bool
 | .cut a=>b.li a
 | .line a=>!b.li a
 | .pay _ _=>true
 | .top u=>!b.lost&&decide (u≤b.tops)
 | .lose=>!b.lost
 | .again a=>b.li a&&decide (0<b.to a)
section
variable (ns:List Str)(b:Bk)
@[simp] theorem bk_disp {E:Nat→Option Fn}{x y:Res}{ρ:Rho}:ixDisp E (some (b.d ns)) x y ρ=op2 ixD x y ρ:=rfl
@[simp] theorem bkf_disp {E:Nat→Option Fn}{x y:Res}{ρ:Rho}:ixDisp E (some (b.f ns)) x y ρ=op2 ixD x y ρ:=rfl
variable {ns}
end
def Mem.cost (m:Mem)(u:Int):Int:=match m with
 | .no=>0
 | .ti _=>1
 | .su _=>u
section
variable {α:Type}[DecidableEq α]
end
section
variable {α β:Type}[DecidableEq α][DecidableEq β](f:α→β)(hf:∀ a b,f a=f b→a=b)
include hf
end
section
variable (d0 d1:D)
end
def Twn.at (t:Twn)(a:Str):Tl:=(t.ts.find? fun x=>decide (x.n=a)).getD ⟨a,0,false⟩
theorem Twn.find {t:Twn}{a:Str}(ha:a∈t.ns):t.ts.find? (fun x=>decide (x.n=a))=some (t.at a)∧(t.at a).n=a∧t.at a∈t.ts:=by
 obtain ⟨x,hx,rfl⟩:=List.mem_map.mp ha
 cases e:t.ts.find? (fun y=>decide (y.n=x.n)) with
 | none =>
  have:=List.find?_eq_none.mp e x hx
  simp at this
 | some y =>
  have h1:=List.find?_some e
  have h2:=List.mem_of_find?_eq_some e
  unfold Twn.at
  rw [e]
  exact ⟨rfl,by simpa using h1,h2⟩
def Bk.sumU (b:Bk)(g:List Str):Int:=((g.filter fun x=>!b.li x).map b.un).sum
def Mem.over (m:Mem)(kept u:Int):Bool:=match m with
 | .no=>false
 | .ti n=>decide (n<kept+1)
 | .su n=>decide (n<kept+u)
def Twn.word (t:Twn)(b:Bk)(a:Str)(u:Int):Str :=
 if b.li a=true then (if (!b.lost&&decide (u≤b.left))=true then s!"taken" else s!"house")
 else if ((t.at a).h&&(if (t.grp a).any b.li=true then b.stop else b.he a))=true then s!"list"
 else if (t.at a).l<b.sumU (t.grp a)+u then s!"limit"
 else if t.mem.over b.kept u=true then s!"memory" else s!"taken"
theorem fil_any (f:Str→Bool):∀ g:List Str,(!(g.filter f).isEmpty)=g.any f
 | []=>rfl
 | x::g=>by
  rw [List.filter_cons]
  cases h:f x <;> simp [h,← fil_any f g]
theorem grp_in {t:Twn}{a x:Str}(h:x∈t.grp a):x∈t.ns:=(List.mem_filter.mp h).1
section
variable {t:Twn}(h:t.Ok){a:Str}(b:Bk)
include h
end
theorem ints_map:∀ xs:List Int,intsD (xs.map .int)=some xs
 | []=>rfl
 | x::xs=>by simp [intsD,ints_map xs]
theorem sum_ints (xs:List Int):sumD [.lst (xs.map .int)]=some (.val (.int xs.sum)):=by
 simp [sumD,ints_map xs]
def Twn.paid (t:Twn)(b:Bk)(a:Str)(u:Int):Bk :=
 if t.word b a u=s!"taken" then
  (if b.li a=true then { b with paid:=b.paid+u,found:=b.found+u * (if b.lost=true then 1 else 0),left:=b.left-u,kept:=0 }
    else { b with paid:=b.paid+u,found:=b.found+u * (if b.lost=true then 1 else 0),un:=upF b.un a (b.un a+u),kept:=b.kept+t.mem.cost u })
 else b
def upFs {β:Type}(f:Str→β)(g:List Str)(v:β):Str→β:=fun n=>if n∈g then v else f n
theorem upFs_cons {β:Type}(f:Str→β)(x:Str)(g:List Str)(v:β):upFs (upF f x v) g v=upFs f (x::g) v:=by
 funext n
 unfold upFs upF
 by_cases h1:n∈g
 ·simp [h1]
 ·by_cases h2:n=x <;> simp [h1,h2]
def Twn.lined (t:Twn)(b:Bk)(a:Str)(hl:Bool):Bk :=
 let b2:Bk:=if hl=true then { b with li:=upF b.li a hl,to:=upF b.to a (b.un a),left:=b.left-b.un a,un:=upF b.un a 0 } else { b with li:=upF b.li a hl }
 { b2 with he:=upFs b.he (t.grp a) (!(t.grp a).any b2.li&&b2.stop) }
def Twn.did (t:Twn)(b:Bk):Ev→Bk×Str
 | .pay a u=>(t.paid b a u,t.word b a u)
 | .cut a=>(t.lined b a false,s!"done")
 | .line a=>(t.lined b a true,s!"done")
 | .top u=>({ b with left:=b.left+u,tops:=b.tops-u,topped:=b.topped+u },s!"done")
 | .lose=>({ b with lost:=true,tops:=0 },s!"done")
 | .again a=>({ b with left:=b.left-b.to a * (if (!t.num)=true then 1 else 0) },s!"done")
def clamp (l tp:Int):Int:=if -tp>l then -tp else l
def tB (ns:List Str)(f:Str→Bool):D:=.tup (ns.map fun n=>.bl (f n))
def tI (ns:List Str)(f:Str→Int):D:=.tup (ns.map fun n=>.int (f n))
def Twn.st (t:Twn)(b:Bk):D:=.tup [tB t.ns b.li,tI t.ns b.un,tB t.ns b.he,.int b.kept,.int (clamp b.left b.tops),.bl b.lost,.int b.tops]
def Twn.b0 (t:Twn):Bk:=⟨fun _=>true,fun _=>0,fun _=>false,fun _=>0,0,false,t.money,t.tops,0,0,0⟩
theorem at_idx {ns:List Str}{a:Str}(ha:a∈ns)(f:Str→D):ixD (.tup (ns.map f)) (.int (ns.idxOf a:Nat))=some (.val (f a)):=by
 have hi:=List.idxOf_lt_length_of_mem ha
 rw [x_ixT,atI_of (by omega) (by simp; omega)]
 simp [List.getElem?_eq_getElem hi]
theorem atB {ns:List Str}{a:Str}(ha:a∈ns)(f:Str→Bool):ixD (tB ns f) (.int (ns.idxOf a:Nat))=some (.val (.bl (f a))):=at_idx ha fun n=>.bl (f n)
theorem atT {ns:List Str}{a:Str}(ha:a∈ns)(f:Str→Int):ixD (tI ns f) (.int (ns.idxOf a:Nat))=some (.val (.int (f a))):=at_idx ha fun n=>.int (f n)
@[simp] theorem tB_disp {E:Nat→Option Fn}{ns:List Str}{f:Str→Bool}{x y:Res}{ρ:Rho}:ixDisp E (some (tB ns f)) x y ρ=op2 ixD x y ρ:=rfl
@[simp] theorem tI_disp {E:Nat→Option Fn}{ns:List Str}{f:Str→Int}{x y:Res}{ρ:Rho}:ixDisp E (some (tI ns f)) x y ρ=op2 ixD x y ρ:=rfl
@[simp] theorem st_disp {E:Nat→Option Fn}{t:Twn}{b:Bk}{x y:Res}{ρ:Rho}:ixDisp E (some (t.st b)) x y ρ=op2 ixD x y ρ:=rfl
@[simp] theorem strip_tB (ns:List Str)(f:Str→Bool):PyD.strip (tB ns f)=tB ns f:=rfl
@[simp] theorem strip_tI (ns:List Str)(f:Str→Int):PyD.strip (tI ns f)=tI ns f:=rfl
@[simp] theorem strip_st (t:Twn)(b:Bk):PyD.strip (t.st b)=t.st b:=rfl
section
variable (t:Twn)(b:Bk)
@[simp] theorem st0:ixD (t.st b) (.int 0)=some (.val (tB t.ns b.li)):=rfl
@[simp] theorem st1:ixD (t.st b) (.int 1)=some (.val (tI t.ns b.un)):=rfl
@[simp] theorem st2:ixD (t.st b) (.int 2)=some (.val (tB t.ns b.he)):=rfl
@[simp] theorem st3:ixD (t.st b) (.int 3)=some (.val (.int b.kept)):=rfl
@[simp] theorem st4:ixD (t.st b) (.int 4)=some (.val (.int (clamp b.left b.tops))):=rfl
@[simp] theorem st5:ixD (t.st b) (.int 5)=some (.val (.bl b.lost)):=rfl
@[simp] theorem st6:ixD (t.st b) (.int 6)=some (.val (.int b.tops)):=rfl
end
theorem clamp_le {l tp:Int}(h:0≤tp):(clamp l tp≤0)↔(l≤0):=by unfold clamp; split <;> omega
theorem clamp_ge {l tp u:Int}(h:0≤tp)(hu:1≤u):(u≤clamp l tp)↔(u≤l):=by unfold clamp; split <;> omega
@[simp] theorem gL_st {t:Twn}{b:Bk}{g:Tgs}{ρ:Rho}:gL 7 g (t.st b) ρ=g [tB t.ns b.li,tI t.ns b.un,tB t.ns b.he,.int b.kept,.int (clamp b.left b.tops),.bl b.lost,.int b.tops] ρ:=rfl
theorem put_list {ns:List Str}(nd:ns.Nodup){a:Str}(ha:a∈ns)(f:Str→D)(v:D):(ns.map f).take (ns.idxOf a)++v::(ns.map f).drop (ns.idxOf a+1)=ns.map (upF f a v):=by
 induction ns with
 | nil=>cases ha
 | cons n ns ih =>
  obtain ⟨n1,n2⟩:=List.nodup_cons.mp nd
  by_cases e:n=a
  ·subst e
   simp only [List.idxOf_cons_self,List.take_zero,List.nil_append,List.map_cons,Nat.zero_add,List.drop_succ_cons,List.drop_zero]
   congr 1
   ·simp [upF]
   ·refine List.map_congr_left fun m hm=>?_
    have:m≠n:=fun z=>n1 (z▸hm)
    simp [upF,this]
  ·have hb:(n==a)=false:=by simpa using e
   have ha':a∈ns:=(List.mem_cons.mp ha).resolve_left fun z=>e z.symm
   rw [List.idxOf_cons,hb]
   simp only [List.map_cons,cond_false,List.take_succ_cons,List.drop_succ_cons,List.cons_append]
   rw [ih n2 ha']
   simp [upF,e]
theorem clamp2 {l tp u:Int}(h:0≤tp)(hu:0≤u):clamp (clamp l tp-u) tp=clamp (l-u) tp:=by
 unfold clamp; (repeat' split) <;> omega
structure Bk.Ok (ns:List Str)(b:Bk):Prop where
 tp:0≤b.tops
 un:∀ a∈ns,b.li a=true→b.un a=0
 u0:∀ a∈ns,0≤b.un a
theorem grp_self {t:Twn}(h:t.Ok)(hg:t.Gr){a:Str}(ha:a∈t.ns):a∈t.grp a:=by
 have e:=grp_leads h.nd h.l4' hg ha ha
 have l:leads t.ns t.ls a a=true:=by
  unfold leads touch
  refine List.any_eq_true.mpr ⟨a,ha,List.any_eq_true.mpr ⟨a,ha,by simp⟩⟩
 rw [l] at e
 exact List.mem_filter.mpr ⟨ha,e⟩
theorem any_self {t:Twn}(h:t.Ok)(hg:t.Gr){a:Str}(ha:a∈t.ns)(f:Str→Bool):(t.grp a).any (upF f a true)=true :=
 List.any_eq_true.mpr ⟨a,grp_self h hg ha,by simp [upF]⟩
def Ev.Is (ns:List Str):Ev→Prop
 | .cut a=>a∈ns
 | .line a=>a∈ns
 | .pay a u=>a∈ns∧1≤u∧u≤2
 | .top u=>1≤u∧u≤2
 | .lose=>True
 | .again a=>a∈ns
theorem Ev.Is.in {ns:List Str}{e:Ev}(h:e.Is ns):e.In ns:=by
 cases e <;> first | exact h | exact h.1 | trivial
def Ev.ag:Ev→Bool
 | .again _=>true
 | _=>false
theorem did_ok2 {t:Twn}(h:t.Ok)(hg:t.Gr)(b:Bk)(ok:b.Ok t.ns)(e:Ev)(he:e.Is t.ns)(hc:b.can e=true):(t.did b e).1.Ok t.ns:=by
 cases e with
 | cut a =>
  have li:b.li a=true:=by simpa [Bk.can] using hc
  refine ⟨ok.tp,fun x hx q=>?_,fun x hx=>ok.u0 x hx⟩
  have q:upF b.li a false x=true:=q
  unfold upF at q
  split at q
  ·cases q
  ·exact ok.un x hx q
 | line a =>
  refine ⟨ok.tp,fun x hx q=>?_,fun x hx=>?_⟩
  ·have q:upF b.li a true x=true:=q
   show upF b.un a 0 x=0
   unfold upF at q ⊢
   split at q
   ·rename_i z; rw [if_pos z]
   ·rename_i z; rw [if_neg z]; exact ok.un x hx q
  ·show 0≤upF b.un a 0 x
   unfold upF
   split
   ·omega
   ·exact ok.u0 x hx
 | pay a u =>
  show (t.paid b a u).Ok t.ns
  unfold Twn.paid
  split
  ·split
   ·exact ⟨ok.tp,ok.un,ok.u0⟩
   ·rename_i nl
    refine ⟨ok.tp,fun x hx q=>?_,fun x hx=>?_⟩
    ·have q:b.li x=true:=q
     show upF b.un a (b.un a+u) x=0
     unfold upF
     split
     ·rename_i z; rw [z] at q; exact absurd q nl
     ·exact ok.un x hx q
    ·show 0≤upF b.un a (b.un a+u) x
     have:=ok.u0 a he.1
     have:=he.2.1
     unfold upF
     split
     ·omega
     ·exact ok.u0 x hx
  ·exact ok
 | top u =>
  have q:b.lost=false∧u≤b.tops:=by simpa [Bk.can] using hc
  exact ⟨by show 0≤b.tops-u; omega,ok.un,ok.u0⟩
 | lose=>exact ⟨Int.le_refl 0,ok.un,ok.u0⟩
 | again a=>exact ⟨ok.tp,ok.un,ok.u0⟩
theorem b0_ok {t:Twn}(h:t.Ok):t.b0.Ok t.ns:=⟨h.to.1,fun _ _ _=>rfl,fun _ _=>Int.le_refl 0⟩
def evsE (ns:List Str):List Ev:=ns.map .cut++ns.map .line++ns.flatMap (fun n=>[.pay n 1,.pay n 2])++[.top 1,.top 2,.lose]++ns.map .again
theorem evs_E (ns:List Str):evs ns=(evsE ns).map Ev.d:=by
 unfold evs evsE
 simp only [List.map_append,List.map_map,List.map_flatMap]
 rfl
theorem evsE_is {ns:List Str}{e:Ev}(h:e∈evsE ns):e.Is ns:=by
 unfold evsE at h
 simp only [List.mem_append,List.mem_map,List.mem_flatMap,List.mem_cons,List.not_mem_nil,or_false] at h
 rcases h with (((⟨a,h,rfl⟩ | ⟨a,h,rfl⟩) | ⟨a,h,rfl | rfl⟩) | (rfl | rfl | rfl)) | ⟨a,h,rfl⟩
 ·exact h
 ·exact h
 ·exact ⟨h,by decide,by decide⟩
 ·exact ⟨h,by decide,by decide⟩
 ·exact ⟨by decide,by decide⟩
 ·exact ⟨by decide,by decide⟩
 ·trivial
 ·exact h
theorem evsE_all {ns:List Str}{e:Ev}(h:e.Is ns):e∈evsE ns:=by
 unfold evsE
 simp only [List.mem_append,List.mem_map,List.mem_flatMap,List.mem_cons,List.not_mem_nil,or_false]
 cases e with
 | cut a=>exact .inl (.inl (.inl (.inl ⟨a,h,rfl⟩)))
 | line a=>exact .inl (.inl (.inl (.inr ⟨a,h,rfl⟩)))
 | pay a u =>
  obtain ⟨h1,h2,h3⟩:=h
  have:u=1∨u=2:=by omega
  rcases this with rfl | rfl
  ·exact .inl (.inl (.inr ⟨a,h1,.inl rfl⟩))
  ·exact .inl (.inl (.inr ⟨a,h1,.inr rfl⟩))
 | top u =>
  obtain ⟨h2,h3⟩:=h
  have:u=1∨u=2:=by omega
  rcases this with rfl | rfl
  ·exact .inl (.inr (.inl rfl))
  ·exact .inl (.inr (.inr (.inl rfl)))
 | lose=>exact .inl (.inr (.inr (.inr rfl)))
 | again a=>exact .inr ⟨a,h,rfl⟩
def Ev.k:Ev→Str
 | .cut _=>s!"cut"
 | .line _=>s!"line"
 | .pay _ _=>s!"pay"
 | .top _=>s!"top"
 | .lose=>s!"lose"
 | .again _=>s!"again"
@[simp] theorem ev_k (e:Ev):ixD e.d (.int 0)=some (.val (.str e.k)):=by cases e <;> rfl
@[simp] theorem ev_strip (e:Ev):PyD.strip e.d=e.d:=by cases e <;> rfl
structure Rn where
 b:Bk
 sd:List Str
 bs:List Bk
def Twn.rn (t:Twn)(es:List Ev):Rn:=es.foldl (fun r e=>⟨(t.did r.b e).1,r.sd++[(t.did r.b e).2],r.bs++[r.b]⟩) ⟨t.b0,[],[]⟩
theorem rn_snoc (t:Twn)(es:List Ev)(e:Ev):t.rn (es++[e])=⟨(t.did (t.rn es).b e).1,(t.rn es).sd++[(t.did (t.rn es).b e).2],(t.rn es).bs++[(t.rn es).b]⟩:=by
 unfold Twn.rn; rw [List.foldl_append]; rfl
inductive Twn.Vd (t:Twn)(K:List Str):List Ev→Prop
 | nil:Twn.Vd t K []
 | snoc {es:List Ev} {e:Ev}:Twn.Vd t K es→e.Is t.ns→(t.rn es).b.can e=true→e.k∈K→Twn.Vd t K (es++[e])
theorem Vd.ok {t:Twn}(h:t.Ok)(hg:t.Gr){K:List Str}{es:List Ev}(v:t.Vd K es):(t.rn es).b.Ok t.ns:=by
 induction v with
 | nil=>exact b0_ok h
 | snoc v he hc hk ih=>rw [rn_snoc]; exact did_ok2 h hg _ ih _ he hc
theorem evs_ln (ns:List Str)(l4:ns.length≤4):(evsE ns).length≤23:=by
 have:=evs_len ns
 rw [evs_E,List.length_map] at this
 omega
def Twn.row (t:Twn)(es:List Ev):D:=.dct [(kS "deeds",.lst (es.map Ev.d)),(kS "said",.lst ((t.rn es).sd.map .str)),(kS "book",(t.rn es).b.f t.ns),(kS "books",.lst ((t.rn es).bs.map fun b=>b.f t.ns))]
theorem lc_fm {α:Type}{vs:List Nat}{f:Tg}{t:MB}{me:M}{ρ:Rho}(dm g:α→D)(p:α→Bool):∀ (as:List α) (acc:List D),(∀ a∈as,∃ ρ1,f (dm a) ρ=some ρ1∧t ρ1=.ok (p a) ρ1∧wipeR ρ1 vs=ρ∧(p a=true→∃ r,me ρ1=.ok r ρ1∧r.frz=.val (g a)))→acc.length+as.length≤sizeLine →
  lcD vs f t me (as.map dm) acc ρ=.ok (acc++(as.filter p).map g) ρ
 | [],acc,_,_=>by simp
 | a::as,acc,h,hl=>by
  obtain ⟨ρ1,h1,h2,h5,h6⟩:=h a (List.mem_cons_self ..)
  have hl':acc.length<sizeLine:=by simp only [List.length_cons] at hl; omega
  rw [List.map_cons,x_lcC,h1]
  simp only [x_optO,h2,x_bindN]
  cases hp:p a with
  | true =>
   obtain ⟨r,h3,h4⟩:=h6 hp
   simp only [if_true,h3,h4,x_setV,hl',h5,x_bindN,x_optO]
   rw [lc_fm dm g p as (acc++[g a]) (fun d hd=>h d (List.mem_cons_of_mem _ hd)) (by simp only [List.length_append,List.length_cons,List.length_nil] at hl ⊢; omega)]
   simp [hp]
  | false =>
   simp only [Bool.false_eq_true,if_false,h5]
   rw [lc_fm dm g p as acc (fun d hd=>h d (List.mem_cons_of_mem _ hd)) (by simp only [List.length_cons] at hl; omega)]
   simp [hp]
section
variable (t:Twn)(es:List Ev)
end
def pr2 (a b:Str):Str×Str:=if ltS b a=true then (b,a) else (a,b)
def plP:List Str→List (Str×Str)
 | []=>[]
 | k::r=>r.map (pr2 k)++plP r
def Twn.p (t:Twn)(lp:List (Str×Str)):D:=.dct [(.inr s!"names",.lst (t.ns.map .str)),(.inr s!"limits",.lst (t.ts.map fun x=>.int x.l)),(.inr s!"links",.lst (lp.map lkD)),(.inr s!"heeds",.lst (t.ts.map fun x=>.bl x.h)),(.inr s!"money",.int t.money),(.inr s!"tops",.int t.tops),(.inr s!"memory",t.mem.d),(.inr s!"numbered",.bl t.num)]
def Mem.pos:Mem→Prop
 | .no=>True
 | .ti n=>1≤n
 | .su n=>1≤n
structure Twn.Pn (t:Twn)(lp:List (Str×Str))(m:Nat)(mo:Int):Prop where
 ok:t.Ok
 lm:t.ts.length≤m
 lmo:∀ x∈t.ts,x.l≤mo
 mo:t.money≤mo
 to:t.tops≤2
 me:t.mem.le3
 pat:∃ y∈PRE,∀ s∈t.ns,∃ c,s=nmC y c∧inL c=true
 gr:t.ls.Sublist (allP (sortS t.ns))
 pm:t.ls.Perm lp
 po:t.mem.pos
theorem pr2_in {a b:Str}{p:Str×Str}(h:p=pr2 a b):(p=(a,b)∨p=(b,a)):=by
 unfold pr2 at h
 split at h
 ·exact .inr h
 ·exact .inl h
theorem plP_mem:∀ {ns:List Str} {p:Str×Str},p∈plP ns→p.1∈ns∧p.2∈ns
 | [],p,h=>by cases h
 | k::r,p,h=>by
  simp only [plP,List.mem_append,List.mem_map] at h
  rcases h with ⟨x,hx,rfl⟩ | h
  ·rcases pr2_in (p:=pr2 k x) rfl with e | e <;> rw [e] <;> simp [hx]
  ·have:=plP_mem h
   simp [this]
theorem ltS_ne {a b:Str}(h:a≠b)(n:ltS b a≠true):ltS a b=true:=by
 rcases ltC_tri a.cps.toList b.cps.toList with z | z | z
 ·exact z
 ·exact absurd (str_cps z) h
 ·exact absurd z n
theorem pr2_lt {a b:Str}(h:a≠b):ltS (pr2 a b).1 (pr2 a b).2=true:=by
 unfold pr2
 split
 ·assumption
 ·exact ltS_ne h (by assumption)
theorem plP_lt:∀ {ns:List Str},ns.Nodup→∀ p∈plP ns,ltS p.1 p.2=true
 | [],_,p,h=>by cases h
 | k::r,nd,p,h=>by
  have nd:=List.nodup_cons.mp nd
  simp only [plP,List.mem_append,List.mem_map] at h
  rcases h with ⟨x,hx,rfl⟩ | h
  ·exact pr2_lt fun e=>nd.1 (e▸hx)
  ·exact plP_lt nd.2 p h
theorem plP_nd:∀ {ns:List Str},ns.Nodup→(plP ns).Nodup
 | [],_=>.nil
 | k::r,nd=>by
  have nd:=List.nodup_cons.mp nd
  have A:(r.map (pr2 k)).Nodup:=List.pairwise_map.mpr (nd.2.imp_of_mem fun {x y} hx hy ne e=>ne (by
   have kx:k≠x:=fun e=>nd.1 (e▸hx)
   have ky:k≠y:=fun e=>nd.1 (e▸hy)
   unfold pr2 at e
   split at e <;> split at e <;> simp only [Prod.mk.injEq] at e
   ·exact e.1
   ·first | exact absurd e.2 ky | exact absurd e.2 (Ne.symm ky) | exact absurd e.1 (Ne.symm kx)
   ·first | exact absurd e.1 ky | exact absurd e.1 (Ne.symm ky)
   ·exact e.2))
  have B:∀ p∈r.map (pr2 k),∀ q∈plP r,p≠q:=fun p hp q hq e=>by
   obtain ⟨x,hx,rfl⟩:=List.mem_map.mp hp
   have:=plP_mem (e▸hq)
   rcases pr2_in (p:=pr2 k x) rfl with z | z <;> rw [z] at this
   ·exact nd.1 this.1
   ·exact nd.1 this.2
  exact List.nodup_append.mpr ⟨A,plP_nd nd.2,B⟩
theorem allP_of:∀ {ks:List Str},(ks.Pairwise fun a b=>ltS a b=true)→∀ {x y:Str},x∈ks→y∈ks→ltS x y=true→(x,y)∈allP ks
 | [],_,x,y,h,_,_=>by cases h
 | k::r,hs,x,y,hx,hy,hl=>by
  obtain ⟨h1,h2⟩:=List.pairwise_cons.mp hs
  simp only [allP,List.mem_append,List.mem_map]
  have irr:∀ z:Str,ltS z z≠true:=fun z h=>by
   have:ltS z z=false:=ltC_irr _
   rw [this] at h; cases h
  have asy:∀ {a b:Str},ltS a b=true→ltS b a=true→False:=fun {a b} h1 h2=>by
   have:ltS b a=false:=ltC_asym h1
   rw [this] at h2; cases h2
  rcases List.mem_cons.mp hx with ex | hx'
  ·rcases List.mem_cons.mp hy with ey | hy'
   ·rw [ex,ey] at hl; exact absurd hl (irr _)
   ·exact .inl ⟨y,hy',by rw [ex]⟩
  ·rcases List.mem_cons.mp hy with ey | hy'
   ·rw [ey] at hl; exact (asy hl (h1 x hx')).elim
   ·exact .inr (allP_of h2 hx' hy' hl)
theorem sortS_lt {ns:List Str}(nd:ns.Nodup):(sortS ns).Pairwise fun a b=>ltS a b=true:=by
 have w:=sortS_pw ns
 have nk:(sortS ns).Nodup:=(sortS_perm ns).nodup_iff.mpr nd
 exact (w.and nk).imp fun {a b} q=>by
  rcases ltC_tri a.cps.toList b.cps.toList with z | z | z
  ·exact z
  ·exact absurd (str_cps z) q.2
  ·have z:ltS b a=true:=z
   rw [show ltS b a=false from q.1] at z; cases z
def lsOf (ns:List Str)(lp:List (Str×Str)):List (Str×Str):=(allP (sortS ns)).filter fun p=>decide (p∈lp)
theorem lsOf_pm {ns:List Str}(nd:ns.Nodup){lp:List (Str×Str)}(hs:lp.Sublist (plP ns)):(lsOf ns lp).Perm lp:=by
 have pm:=sortS_perm ns
 have kpw:=sortS_lt nd
 have nA:(allP (sortS ns)).Nodup:=by
  have:∀ {ks:List Str},ks.Nodup→(allP ks).Nodup:=by
   intro ks
   induction ks with
   | nil=>intro _; exact .nil
   | cons k r ih =>
    intro nd
    have nd:=List.nodup_cons.mp nd
    simp only [allP]
    have A:(r.map fun x=>(k,x)).Nodup:=List.pairwise_map.mpr (nd.2.imp fun {x y} ne e=>ne (Prod.mk.inj e).2)
    have B:∀ p∈r.map (fun x=>(k,x)),∀ q∈allP r,p≠q:=fun p hp q hq e=>by
     obtain ⟨x,hx,rfl⟩:=List.mem_map.mp hp
     subst e
     exact nd.1 (allP_mem hq).1
    exact List.nodup_append.mpr ⟨A,ih nd.2,B⟩
  exact this (pm.nodup_iff.mpr nd)
 refine (List.perm_ext_iff_of_nodup (nA.sublist List.filter_sublist) ((plP_nd nd).sublist hs)).mpr fun p=>?_
 show p∈(allP (sortS ns)).filter (fun p=>decide (p∈lp))↔p∈lp
 rw [List.mem_filter]
 constructor
 ·rintro ⟨_,h⟩; exact of_decide_eq_true h
 ·intro h
  have hp:=hs.mem h
  have m:=plP_mem hp
  exact ⟨allP_of kpw (pm.mem_iff.mpr m.1) (pm.mem_iff.mpr m.2) (plP_lt nd p hp),decide_eq_true h⟩
def mk3:List Str→List Int→List Bool→List Tl
 | n::ns,l::ls,h::hs=>⟨n,l,h⟩::mk3 ns ls hs
 | _,_,_=>[]
theorem mk3_of:∀ {ns:List Str} {ls:List Int} {hs:List Bool},ls.length=ns.length→hs.length=ns.length→(mk3 ns ls hs).map (·.n)=ns∧(mk3 ns ls hs).map (·.l)=ls∧(mk3 ns ls hs).map (·.h)=hs
 | [],[],[],_,_=>⟨rfl,rfl,rfl⟩
 | n::ns,l::ls,h::hs,e1,e2=>by
  obtain ⟨g1,g2,g3⟩:=mk3_of (ns:=ns) (ls:=ls) (hs:=hs) (by simpa using e1) (by simpa using e2)
  exact ⟨by simp [mk3,g1],by simp [mk3,g2],by simp [mk3,g3]⟩
 | [],_::_,_,h,_=>by simp at h
 | [],[],_::_,_,h=>by simp at h
 | _::_,[],_,h,_=>by simp at h
 | _::_,_::_,[],_,h=>by simp at h
theorem ints_al {P:Int→Prop}:∀ {xs ys:List D},Al (fun _ y=>∃ l,y=D.int l∧P l) xs ys→∃ ls:List Int,ys=ls.map .int∧ls.length=xs.length∧∀ l∈ls,P l
 | _,_,.nil=>⟨[],rfl,rfl,by simp⟩
 | _,_,.cons h t=>by
  obtain ⟨l,rfl,p⟩:=h
  obtain ⟨ls,rfl,e,q⟩:=ints_al t
  exact ⟨l::ls,rfl,by simp [e],fun x hx=>by rcases List.mem_cons.mp hx with rfl | hx; exact p; exact q x hx⟩
theorem bls_al:∀ {xs ys:List D},Al (fun _ y=>∃ b,y=D.bl b) xs ys→∃ hs:List Bool,ys=hs.map .bl∧hs.length=xs.length
 | _,_,.nil=>⟨[],rfl,rfl⟩
 | _,_,.cons h t=>by
  obtain ⟨b,rfl⟩:=h
  obtain ⟨hs,rfl,e⟩:=bls_al t
  exact ⟨b::hs,rfl,by simp [e]⟩
theorem plan_ok {y:Str×Str}(hy:y∈PRE){ns:List Str}(n0:1≤ns.length)(n4:ns.length≤4)(nd:ns.Nodup)(pat:∀ x∈ns,∃ c,x=nmC y c∧inL c=true){ls:List Int}{hs:List Bool}{mo:Int}(hm9:mo≤9)(l1:ls.length=ns.length)(l2:hs.length=ns.length)(hl:∀ l∈ls,0≤l∧l≤mo)
  {lp:List (Str×Str)} (hp:lp.Sublist (plP ns)) {me:Mem} (hme:me.ok) (hm2:me.le3) (hm3:me.pos) {c g:Int} (hc:0≤c∧c≤mo) (hg:0≤g∧g≤2) (num:Bool):Twn.Pn ⟨mk3 ns ls hs,lsOf ns lp,c,me,g,num⟩ lp ns.length mo:=by
 obtain ⟨e1,e2,e3⟩:=mk3_of l1 l2
 have tl:(mk3 ns ls hs).length=ns.length:=by rw [← List.length_map (f:=(·.n)),e1]
 have sb:(lsOf ns lp).Sublist (allP (sortS ns)):=List.filter_sublist
 have pm:=sortS_perm ns
 have kl:(sortS ns).length=ns.length:=pm.length_eq
 have kpw:=sortS_lt nd
 have hnm:∀ x∈ns,isNm x=true:=fun x hx=>by
  obtain ⟨c,rfl,hc⟩:=pat x hx
  exact nm_of y c hy hc
 have hlen:∀ x∈ns,x.length=y.1.length+1+y.2.length:=fun x hx=>by
  obtain ⟨c,rfl,hc⟩:=pat x hx
  exact nmC_len y c
 have pw:=allP_pw (ks:=sortS ns) (n:=y.1.length+1+y.2.length) (fun k hk=>hlen k (pm.mem_iff.mp hk)) kpw
 have ql:=sb.length_le
 have al6:=allP_len (sortS ns) (by omega)
 have lim:∀ x∈mk3 ns ls hs,0≤x.l∧x.l≤mo:=fun x hx=>hl _ (by rw [← e2]; exact List.mem_map_of_mem hx)
 refine ⟨⟨?_,?_,?_,?_,?_,⟨?_,?_,?_,?_,?_,?_,?_⟩,?_,?_,hme,?_⟩,?_,fun x hx=>(lim x hx).2,hc.2,hg.2,hm2,?_,?_,?_,hm3⟩
 ·intro e
  simp only at e
  rw [e] at tl
  simp at tl
  omega
 ·simp only; omega
 ·show ∀ s∈(mk3 ns ls hs).map (·.n),_
  rw [e1]; exact hnm
 ·show ((mk3 ns ls hs).map (·.n)).Nodup
  rw [e1]; exact nd
 ·intro x hx
  have:=lim x hx
  exact ⟨this.1,by omega⟩
 ·show ∀ y∈(mk3 ns ls hs).map (·.n),_
  rw [e1]; exact fun x hx=>nm_so (hnm x hx)
 ·show ∀ y∈(mk3 ns ls hs).map (·.n),_
  rw [e1]; exact fun x hx=>isNm_len (hnm x hx)
 ·show ∀ p∈lsOf ns lp,p.1∈(mk3 ns ls hs).map (·.n)
  rw [e1]; exact fun p hp=>pm.mem_iff.mp (allP_mem (sb.mem hp)).1
 ·show ∀ p∈lsOf ns lp,p.2∈(mk3 ns ls hs).map (·.n)
  rw [e1]; exact fun p hp=>pm.mem_iff.mp (allP_mem (sb.mem hp)).2
 ·exact fun p hp=>allP_lt kpw p (sb.mem hp)
 ·exact List.pairwise_map.mpr ((pw.sublist sb).imp fun {a b} q e=>by
   rw [e] at q
   have z:ltS (txt b) (txt b)=false:=ltC_irr _
   rw [z] at q; cases q)
 ·show (lsOf ns lp).length<60
  omega
 ·exact pw.sublist sb
 ·exact ⟨hc.1,by simp only; omega⟩
 ·exact ⟨hg.1,by simp only; omega⟩
 ·simp only; omega
 ·refine ⟨y,hy,?_⟩
  show ∀ s∈(mk3 ns ls hs).map (·.n),_
  rw [e1]; exact pat
 ·show (lsOf ns lp).Sublist (allP (sortS ((mk3 ns ls hs).map (·.n))))
  rw [e1]; exact sb
 ·exact lsOf_pm nd hp
def dLk (ns:List Str)(ls:List Int)(lp:List (Str×Str))(hs:List Bool):D:=.dct [(.inr s!"names",.lst (ns.map .str)),(.inr s!"limits",.lst (ls.map .int)),(.inr s!"links",.lst (lp.map lkD)),(.inr s!"heeds",.lst (hs.map .bl))]
section
variable (ns:List Str)(ls:List Int)(lp:List (Str×Str))(hs:List Bool)
theorem dl_links:ixD (dLk ns ls lp hs) (.str s!"links")=some (.val (.lst (lp.map lkD))):=by simp [dLk,x_valKC]
theorem dl_disp {E:Nat→Option Fn}{x y:Res}{ρ:Rho}:ixDisp E (some (dLk ns ls lp hs)) x y ρ=op2 ixD x y ρ:=rfl
theorem dl_set (qs:List (Str×Str)):setD (dLk ns ls lp hs) (.str s!"links") (.lst (qs.map lkD))=some (dLk ns ls qs hs):=by
 have z:(4:Nat)<sizeLine:=by decide +kernel
 simp [dLk,setD,keyD,putKD,z]
theorem sort2 (a b:Str):sortedD [.lst [.str a,.str b]]=some (.new (.lst [.str (pr2 a b).1,.str (pr2 a b).2])):=by
 unfold pr2
 have e:sortedD [.lst [.str a,.str b]]=some (.new (.lst ((sortS [a,b]).map .str))):=rfl
 rw [e]
 simp only [sortS,insS]
 split <;> rfl
end
section
variable (x1 x2 x7:Option PyD.Slot)(ns:List Str)(ls:List Int)(hs:List Bool)
theorem pl_in (i:Nat)(k:Str)(hk:ns[i]?=some k):∀ (xs:List Str) (j:Nat) (lp:List (Str×Str)) (p:Pl) (x6 x8:Option PyD.Slot),ns.drop j=xs→lp.length+xs.length≤1000→∃ qs q y6 y8,qs.Sublist (xs.map (pr2 k)) ∧
  forD (gN 6) b__law_plan_L1 (rangeD (j:Nat) xs.length) [some (.own (some 0) (poolD p)),x1,x2,some (.val (.lst (ns.map .str))),some (.own none (dLk ns ls lp hs)),some (.val (.int (i:Nat))),x6,x7,x8] =
   .nx [some (.own (some 0) (poolD q)),x1,x2,some (.val (.lst (ns.map .str))),some (.own none (dLk ns ls (lp++qs) hs)),some (.val (.int (i:Nat))),y6,x7,y8]
 | [],j,lp,p,x6,x8,_,_=>⟨[],p,x6,x8,.slnil,by rw [List.append_nil]; rfl⟩
 | x::xs,j,lp,p,x6,x8,hd,hl=>by
  obtain ⟨a,q,a0,a1,e⟩:=drawE p 3 (by decide) (by decide)
  have hi:i<ns.length:=(List.getElem?_eq_some_iff.mp hk).1
  have at1:atI (ns.map D.str) (i:Nat)=some (.str k):=by
   rw [atI_of (by omega) (by simp; omega)]
   simp [hk]
  have hx:ns[j]?=some x:=by
   have:=congrArg (fun l=>l[0]?) hd
   simpa using this
  have hj:j<ns.length:=(List.getElem?_eq_some_iff.mp hx).1
  have at2:atI (ns.map D.str) (j:Nat)=some (.str x):=by
   rw [atI_of (by omega) (by simp; omega)]
   simp [hx]
  have hd2:ns.drop (j+1)=xs:=by
   have:=congrArg List.tail hd
   simpa using this
  simp only [List.length_cons] at hl
  have l1:(lp.map lkD).length+1≤16777216:=by simp; omega
  have l0:(lp.map lkD).length≤16777216:=by simp; omega
  have s2:=sort2 k x
  have d1:=dl_links ns ls lp hs
  have dd:=fun E x y ρ=>dl_disp ns ls lp hs (E:=E) (x:=x) (y:=y) (ρ:=ρ)
  have g:gN 6 (.int (j:Nat)) [some (.own (some 0) (poolD p)),x1,x2,some (.val (.lst (ns.map .str))),some (.own none (dLk ns ls lp hs)),some (.val (.int (i:Nat))),x6,x7,x8]=some [some (.own (some 0) (poolD p)),x1,x2,some (.val (.lst (ns.map .str))),some (.own none (dLk ns ls lp hs)),some (.val (.int (i:Nat))),some (.val (.int (j:Nat))),x7,x8]:=rfl
  have jn:((j:Int)+1)=((j+1:Nat):Int):=by omega
  by_cases h:a=0
  ·obtain ⟨qs,q2,y6,y8,sb,e2⟩:=pl_in i k hk xs (j+1) (lp++[pr2 k x]) q (some (.val (.int (j:Nat)))) (some (.val (lkD (pr2 k x)))) hd2 (by simp; omega)
   refine ⟨pr2 k x::qs,q2,y6,y8,by simpa using sb.cons₂ (pr2 k x),?_⟩
   have sd:=dl_set ns ls lp hs (lp++[pr2 k x])
   rw [List.map_append,List.map_cons,List.map_nil] at sd
   have st:b__law_plan_L1 [some (.own (some 0) (poolD p)),x1,x2,some (.val (.lst (ns.map .str))),some (.own none (dLk ns ls lp hs)),some (.val (.int (i:Nat))),some (.val (.int (j:Nat))),x7,x8]=.nx [some (.own (some 0) (poolD q)),x1,x2,some (.val (.lst (ns.map .str))),some (.own none (dLk ns ls (lp++[pr2 k x]) hs)),some (.val (.int (i:Nat))),some (.val (.int (j:Nat))),x7,some (.val (lkD (pr2 k x)))]:=by
    have lk:lkD (pr2 k x)=.tup [.str (pr2 k x).1,.str (pr2 k x).2]:=rfl
    rw [lk] at sd ⊢
    generalize lp.map lkD=L at *
    generalize dLk ns ls lp hs=A at *
    generalize dLk ns ls (lp++[pr2 k x]) hs=B at *
    generalize ns.map D.str=Ns at *
    generalize pr2 k x=P at *
    simp -implicitDefEqProofs [b__law_plan_L1,at1,at2,s2,d1,dd,e,h,l1,sd]
   rw [List.length_cons,rangeD_succ,jn]
   refine for_step g st ?_
   rw [e2,List.append_assoc]; rfl
  ·obtain ⟨qs,q2,y6,y8,sb,e2⟩:=pl_in i k hk xs (j+1) lp q (some (.val (.int (j:Nat)))) (some (.val (lkD (pr2 k x)))) hd2 (by omega)
   refine ⟨qs,q2,y6,y8,by simpa using sb.cons (pr2 k x),?_⟩
   have sd:=dl_set ns ls lp hs lp
   have st:b__law_plan_L1 [some (.own (some 0) (poolD p)),x1,x2,some (.val (.lst (ns.map .str))),some (.own none (dLk ns ls lp hs)),some (.val (.int (i:Nat))),some (.val (.int (j:Nat))),x7,x8]=.nx [some (.own (some 0) (poolD q)),x1,x2,some (.val (.lst (ns.map .str))),some (.own none (dLk ns ls lp hs)),some (.val (.int (i:Nat))),some (.val (.int (j:Nat))),x7,some (.val (lkD (pr2 k x)))]:=by
    have lk:lkD (pr2 k x)=.tup [.str (pr2 k x).1,.str (pr2 k x).2]:=rfl
    rw [lk]
    generalize lp.map lkD=L at *
    generalize dLk ns ls lp hs=A at *
    generalize ns.map D.str=Ns at *
    generalize pr2 k x=P at *
    simp -implicitDefEqProofs [b__law_plan_L1,at1,at2,s2,d1,dd,e,h,l0,sd]
   rw [List.length_cons,rangeD_succ,jn]
   exact for_step g st e2
theorem pl_out (h4:ns.length≤4):∀ (n:Nat) (i:Nat) (lp:List (Str×Str)) (p:Pl) (x5 x6 x8:Option PyD.Slot),i+n=ns.length→lp.length+10 * n≤900→∃ qs q y5 y6 y8,qs.Sublist (plP (ns.drop i)) ∧
  forD (gN 5) b__law_plan_L2 (rangeD (i:Nat) n) [some (.own (some 0) (poolD p)),x1,x2,some (.val (.lst (ns.map .str))),some (.own none (dLk ns ls lp hs)),x5,x6,x7,x8] =
   .nx [some (.own (some 0) (poolD q)),x1,x2,some (.val (.lst (ns.map .str))),some (.own none (dLk ns ls (lp++qs) hs)),y5,y6,x7,y8]
 | 0,i,lp,p,x5,x6,x8,_,_=>⟨[],p,x5,x6,x8,List.nil_sublist _,by rw [List.append_nil]; rfl⟩
 | n+1,i,lp,p,x5,x6,x8,hn,hl=>by
  have hi:i<ns.length:=by omega
  have hk:ns[i]?=some ns[i]:=List.getElem?_eq_getElem hi
  obtain ⟨qs,q,y6,y8,sb,e⟩:=pl_in x1 x2 x7 ns ls hs i ns[i] hk (ns.drop (i+1)) (i+1) lp p x6 x8 rfl (by simp; omega)
  have l1:=sb.length_le
  simp only [List.length_map,List.length_drop] at l1
  obtain ⟨qs2,q2,y5,y6',y8',sb2,e2⟩:=pl_out h4 n (i+1) (lp++qs) q (some (.val (.int (i:Nat)))) y6 y8 (by omega) (by simp; omega)
  refine ⟨qs++qs2,q2,y5,y6',y8',?_,?_⟩
  ·rw [List.drop_eq_getElem_cons hi]
   simp only [plP]
   exact sb.append sb2
  ·have g:gN 5 (.int (i:Nat)) [some (.own (some 0) (poolD p)),x1,x2,some (.val (.lst (ns.map .str))),some (.own none (dLk ns ls lp hs)),x5,x6,x7,x8]=some [some (.own (some 0) (poolD p)),x1,x2,some (.val (.lst (ns.map .str))),some (.own none (dLk ns ls lp hs)),some (.val (.int (i:Nat))),x6,x7,x8]:=rfl
   have jn:((i:Int)+1)=((i+1:Nat):Int):=by omega
   have st:b__law_plan_L2 [some (.own (some 0) (poolD p)),x1,x2,some (.val (.lst (ns.map .str))),some (.own none (dLk ns ls lp hs)),some (.val (.int (i:Nat))),x6,x7,x8]=.nx [some (.own (some 0) (poolD q)),x1,x2,some (.val (.lst (ns.map .str))),some (.own none (dLk ns ls (lp++qs) hs)),some (.val (.int (i:Nat))),y6,x7,y8]:=by
    rw [← e]
    have ln:(ns.drop (i+1)).length=((ns.length:Int)-((i:Int)+1)).toNat:=by rw [List.length_drop]; omega
    have lm:(ns.map D.str).length=ns.length:=by simp
    have r1:(-4611686018427387904:Int)≤(i:Int)+1:=by omega
    have r2:(i:Int)+1<4611686018427387904:=by omega
    have r3:(-4611686018427387904:Int)≤(ns.length:Int):=by omega
    have r4:(ns.length:Int)<4611686018427387904:=by omega
    rw [ln,← jn]
    generalize dLk ns ls lp hs=A at *
    generalize ns.map D.str=Ns at *
    simp -implicitDefEqProofs [b__law_plan_L2,lm,r1,r2,r3,r4]
   rw [rangeD_succ,jn]
   refine for_step g st ?_
   rw [e2,List.append_assoc]
end
theorem plan (p:Pl)(m mo:Int)(h1:1≤m)(h4:m≤4)(o0:0≤mo)(o9:mo≤9):∃ (t:Twn) (lp:List (Str×Str)),t.Pn lp m.toNat mo∧∃ q,f__law_plan [.o (poolD p),.v (.int m),.v (.int mo)]=.ret (.new (t.p lp)) [poolD q]:=by
 obtain ⟨a,p1,a0,a1,e1⟩:=drawE p m (by omega) (by omega)
 obtain ⟨y,hy,o,s,p2,hs,e2⟩:=names p1 (1+a) (by omega) (by omega)
 have nd:=names_nd y o s hs (1+a).toNat (by omega)
 have pat:∀ x∈((List.range (1+a).toNat).map fun i=>nmC y (sgA o s i)),∃ c,x=nmC y c∧inL c=true:=fun x hx=>by
  obtain ⟨i,_,rfl⟩:=List.mem_map.mp hx
  exact ⟨_,rfl,sg_in o s i⟩
 have ln:((List.range (1+a).toNat).map fun i=>nmC y (sgA o s i)).length=(1+a).toNat:=by simp
 generalize ((List.range (1+a).toNat).map fun i=>nmC y (sgA o s i))=ns at e2 nd pat ln
 have mu:∀ i:Int,0<mo+1:=fun _=>by omega
 obtain ⟨ys,p3,lc,al⟩:=lc_rel (vs:=[7]) (f:=gN 7) (t:=mYes) (me:=mCall 2 [true,false] f__law_draw (mCons (mVar 0) (mCons (mBin addD (mVar 2) (mC (.int 1))) mNil))) (fun q:Pl=>[some (.own (some 0) (poolD q)),some (.val (.int m)),some (.val (.int mo)),some (.val (.lst (ns.map .str))),none,none,none,none,none]) (fun _ y=>∃ l,y=.int l∧(0≤l∧l≤mo)) (ns.map .str) [] p2 (fun d hd q=>by
  obtain ⟨x,_,rfl⟩:=List.mem_map.mp hd
  obtain ⟨b,q1,b0,b1,f1⟩:=drawE q (mo+1) (by omega) (by omega)
  exact ⟨[some (.own (some 0) (poolD q)),some (.val (.int m)),some (.val (.int mo)),some (.val (.lst (ns.map .str))),none,none,none,some (.val (.str x)),none],[some (.own (some 0) (poolD q)),some (.val (.int m)),some (.val (.int mo)),some (.val (.lst (ns.map .str))),none,none,none,some (.val (.str x)),none],.val (.int b),[some (.own (some 0) (poolD q1)),some (.val (.int m)),some (.val (.int mo)),some (.val (.lst (ns.map .str))),none,none,none,some (.val (.str x)),none],.int b,[some (.own (some 0) (poolD q1)),some (.val (.int m)),some (.val (.int mo)),some (.val (.lst (ns.map .str))),none,none,none,some (.val (.str x)),none],q1,by simp,by simp,by simp [f1],by simp [Res.frz],by simp,⟨b,rfl,b0,by omega⟩⟩) (by simp; omega)
 rw [List.nil_append] at lc
 obtain ⟨ls,rfl,ll,lb⟩:=ints_al al
 rw [List.length_map] at ll
 have z:(4:Nat)<sizeLine:=by decide +kernel
 obtain ⟨zs,p4,lc2,al2⟩:=lc_rel (vs:=[7]) (f:=gN 7) (t:=mYes) (me:=mBin gtD (mCall 2 [true,false] f__law_draw (mCons (mVar 0) (mCons (mC (.int 4)) mNil))) (mC (.int 0))) (fun q:Pl=>[some (.own (some 0) (poolD q)),some (.val (.int m)),some (.val (.int mo)),some (.val (.lst (ns.map .str))),some (.own none (.dct [(.inr s!"names",.lst (ns.map .str)),(.inr s!"limits",.lst (ls.map .int)),(.inr s!"links",.lst [])])),none,none,none,none]) (fun _ y=>∃ b,y=.bl b) (ns.map .str) [] p3 (fun d hd q=>by
  obtain ⟨x,_,rfl⟩:=List.mem_map.mp hd
  obtain ⟨b,q1,b0,b1,f1⟩:=drawE q 4 (by decide) (by decide)
  exact ⟨[some (.own (some 0) (poolD q)),some (.val (.int m)),some (.val (.int mo)),some (.val (.lst (ns.map .str))),some (.own none (.dct [(.inr s!"names",.lst (ns.map .str)),(.inr s!"limits",.lst (ls.map .int)),(.inr s!"links",.lst [])])),none,none,some (.val (.str x)),none],[some (.own (some 0) (poolD q)),some (.val (.int m)),some (.val (.int mo)),some (.val (.lst (ns.map .str))),some (.own none (.dct [(.inr s!"names",.lst (ns.map .str)),(.inr s!"limits",.lst (ls.map .int)),(.inr s!"links",.lst [])])),none,none,some (.val (.str x)),none],.val (.bl (decide (0<b))),[some (.own (some 0) (poolD q1)),some (.val (.int m)),some (.val (.int mo)),some (.val (.lst (ns.map .str))),some (.own none (.dct [(.inr s!"names",.lst (ns.map .str)),(.inr s!"limits",.lst (ls.map .int)),(.inr s!"links",.lst [])])),none,none,some (.val (.str x)),none],.bl (decide (0<b)),[some (.own (some 0) (poolD q1)),some (.val (.int m)),some (.val (.int mo)),some (.val (.lst (ns.map .str))),some (.own none (.dct [(.inr s!"names",.lst (ns.map .str)),(.inr s!"limits",.lst (ls.map .int)),(.inr s!"links",.lst [])])),none,none,some (.val (.str x)),none],q1,by simp,by simp,by simp [f1],by simp [Res.frz],by simp,⟨_,rfl⟩⟩) (by simp; omega)
 rw [List.nil_append] at lc2
 obtain ⟨hs',rfl,hl⟩:=bls_al al2
 rw [List.length_map] at hl
 obtain ⟨lp,p5,y5,y6,y8,sb,lo⟩:=pl_out (some (.val (.int m))) (some (.val (.int mo))) none ns ls hs' (by omega) ns.length 0 [] p4 none none none (by omega) (by simp; omega)
 rw [List.drop_zero] at sb
 rw [List.nil_append] at lo
 obtain ⟨c,p6,c0,c1,e6⟩:=drawE p5 (mo+1) (by omega) (by omega)
 obtain ⟨g,p7,g0,g1,e7⟩:=drawE p6 3 (by decide) (by decide)
 obtain ⟨w,p8,hw,e8⟩:=pickE p7 [.tup [.str s!"nothing"],.tup [.str s!"times",.int 1],.tup [.str s!"times",.int 2],.tup [.str s!"sum",.int 1],.tup [.str s!"sum",.int 2],.tup [.str s!"sum",.int 3]] (by simp) (by simp)
 obtain ⟨me,hme,hm2,hm3,rfl⟩:∃ me:Mem,me.ok∧me.le3∧me.pos∧w=me.d:=by
  simp only [List.mem_cons,List.not_mem_nil,or_false] at hw
  rcases hw with rfl | rfl | rfl | rfl | rfl | rfl
  ·exact ⟨.no,trivial,trivial,trivial,rfl⟩
  ·exact ⟨.ti 1,⟨by decide,by decide⟩,by show (1:Int)≤2; decide,by show (1:Int)≤1; decide,rfl⟩
  ·exact ⟨.ti 2,⟨by decide,by decide⟩,by show (2:Int)≤2; decide,by show (1:Int)≤2; decide,rfl⟩
  ·exact ⟨.su 1,⟨by decide,by decide⟩,by show (1:Int)≤3; decide,by show (1:Int)≤1; decide,rfl⟩
  ·exact ⟨.su 2,⟨by decide,by decide⟩,by show (2:Int)≤3; decide,by show (1:Int)≤2; decide,rfl⟩
  ·exact ⟨.su 3,⟨by decide,by decide⟩,by show (3:Int)≤3; decide,by show (1:Int)≤3; decide,rfl⟩
 obtain ⟨nu,p9,nu0,nu1,e9⟩:=drawE p8 3 (by decide) (by decide)
 have pk:=plan_ok hy (by omega) (by omega) nd pat o9 ll hl lb sb hme hm2 hm3 ⟨c0,by omega⟩ ⟨g0,by omega⟩ (decide (0<nu))
 refine ⟨⟨mk3 ns ls hs',lsOf ns lp,c,me,g,decide (0<nu)⟩,lp,?_,p9,?_⟩
 ·have e:ns.length≤m.toNat:=by omega
  exact ⟨pk.ok,Nat.le_trans pk.lm e,pk.lmo,pk.mo,pk.to,pk.me,pk.pat,pk.gr,pk.pm,pk.po⟩
 ·obtain ⟨k1,k2,k3⟩:=mk3_of ll hl
  have ep:Twn.p ⟨mk3 ns ls hs',lsOf ns lp,c,me,g,decide (0<nu)⟩ lp=.dct [(.inr s!"names",.lst (ns.map .str)),(.inr s!"limits",.lst (ls.map .int)),(.inr s!"links",.lst (lp.map lkD)),(.inr s!"heeds",.lst (hs'.map .bl)),(.inr s!"money",.int c),(.inr s!"tops",.int g),(.inr s!"memory",me.d),(.inr s!"numbered",.bl (decide (0<nu)))]:=by
   have q1:(mk3 ns ls hs').map (fun x=>D.int x.l)=ls.map .int:=by
    have e:(mk3 ns ls hs').map (fun x=>D.int x.l)=((mk3 ns ls hs').map (·.l)).map D.int:=by rw [List.map_map]; rfl
    rw [e,k2]
   have q2:(mk3 ns ls hs').map (fun x=>D.bl x.h)=hs'.map .bl:=by
    have e:(mk3 ns ls hs').map (fun x=>D.bl x.h)=((mk3 ns ls hs').map (·.h)).map D.bl:=by rw [List.map_map]; rfl
    rw [e,k3]
   unfold Twn.p Twn.ns
   simp only [q1,q2,k1]
  rw [ep]
  have lm:(ns.map D.str).length=ns.length:=by simp
  have r3:(-4611686018427387904:Int)≤(ns.length:Int):=by omega
  have r4:(ns.length:Int)<4611686018427387904:=by omega
  unfold dLk at lo
  simp only [List.map_nil] at lo
  rw [show ((0:Nat):Int)=0 from rfl] at lo
  have z9:(9:Nat)<sizeLine:=by decide +kernel
  have zz:∀ n:Nat,n<9→n<sizeLine:=fun n hn=>by omega
  have ms:PyD.strip me.d=me.d:=by cases me <;> rfl
  generalize me.d=Md at *
  generalize lp.map lkD=Lp at *
  generalize ns.map D.str=Ns at *
  generalize ls.map D.int=Ls at *
  generalize hs'.map D.bl=Hs at *
  simp -implicitDefEqProofs [f__law_plan,x_mkFn,b__law_plan,b__law_plan_t1,b__law_plan_t2,b__law_plan_t3,b__law_plan_t4,b__law_plan_t5,b__law_plan_t6,b__law_plan_t7,List.replicate,e1,e2,lc,lc2,lm,r3,r4,lo,e6,e7,e8,e9,setD,keyD,putKD,zz,ms]
section
variable (t:Twn)(lp:List (Str×Str))
theorem p_disp {E:Nat→Option Fn}{x y:Res}{ρ:Rho}:ixDisp E (some (t.p lp)) x y ρ=op2 ixD x y ρ:=rfl
theorem p_strip:PyD.strip (t.p lp)=t.p lp:=rfl
theorem p_names:ixD (t.p lp) (.str s!"names")=some (.val (.lst (t.ns.map .str))):=by simp [Twn.p,x_valKC]
theorem p_limits:ixD (t.p lp) (.str s!"limits")=some (.val (.lst (t.ts.map fun x=>.int x.l))):=by simp [Twn.p,x_valKC]
theorem p_links:ixD (t.p lp) (.str s!"links")=some (.val (.lst (lp.map lkD))):=by simp [Twn.p,x_valKC]
theorem p_heeds:ixD (t.p lp) (.str s!"heeds")=some (.val (.lst (t.ts.map fun x=>.bl x.h))):=by simp [Twn.p,x_valKC]
theorem p_money:ixD (t.p lp) (.str s!"money")=some (.val (.int t.money)):=by simp [Twn.p,x_valKC]
theorem p_tops:ixD (t.p lp) (.str s!"tops")=some (.val (.int t.tops)):=by simp [Twn.p,x_valKC]
theorem p_memory:ixD (t.p lp) (.str s!"memory")=some (.val t.mem.d):=by simp [Twn.p,x_valKC]
end
theorem at_map {α:Type}(f:α→D)(xs:List α)(i:Nat)(x:α)(h:xs[i]?=some x):atI (xs.map f) (i:Int)=some (f x):=by
 have hi:=(List.getElem?_eq_some_iff.mp h).1
 rw [atI_of (by omega) (by simp; omega)]
 simp [h]
section
variable {α:Type}[DecidableEq α]
def lkq (ls:List (α×α))(a b:α):Bool:=decide ((a,b)∈ls)||decide ((b,a)∈ls)
def gbS (ls:List (α×α))(F:List α)(one:α):List α:=if (F.any (lkq ls one)&&!decide (one∈F))=true then F++[one] else F
def gbF (ls:List (α×α))(ns:List α):Nat→List α→List α
 | 0,F=>F
 | n+1,F=>gbF ls ns n (ns.foldl (gbS ls) F)
theorem gbS_inv (ls:List (α×α))(P:α→Prop)(F:List α)(one:α)(nd:F.Nodup)(hF:∀ x∈F,P x)(ho:P one):(gbS ls F one).Nodup∧(∀ x∈gbS ls F one,P x)∧(gbS ls F one).length≤F.length+1:=by
 unfold gbS
 split
 ·rename_i h
  have h:=Bool.and_eq_true_iff.mp h
  have hn:one∉F:=by simpa using h.2
  refine ⟨List.nodup_append.mpr ⟨nd,by simp,fun a ha b hb e=>hn (by rw [List.mem_singleton.mp hb] at e; exact e▸ha)⟩,fun x hx=>?_,by simp⟩
  rcases List.mem_append.mp hx with hx | hx
  ·exact hF x hx
  ·rw [List.mem_singleton.mp hx]; exact ho
 ·exact ⟨nd,hF,by omega⟩
theorem fold_inv (ls:List (α×α))(P:α→Prop):∀ (ns F:List α),F.Nodup→(∀ x∈F,P x)→(∀ x∈ns,P x)→(ns.foldl (gbS ls) F).Nodup∧(∀ x∈ns.foldl (gbS ls) F,P x)∧(ns.foldl (gbS ls) F).length≤F.length+ns.length
 | [],F,nd,hF,_=>⟨nd,hF,by simp⟩
 | n::ns,F,nd,hF,hn=>by
  obtain ⟨h1,h2,h3⟩:=gbS_inv ls P F n nd hF (hn n (List.mem_cons_self ..))
  obtain ⟨g1,g2,g3⟩:=fold_inv ls P ns (gbS ls F n) h1 h2 fun x hx=>hn x (List.mem_cons_of_mem _ hx)
  exact ⟨g1,g2,by simp only [List.foldl_cons,List.length_cons] at *; omega⟩
theorem gbF_inv (ls:List (α×α))(P:α→Prop)(ns:List α)(hn:∀ x∈ns,P x):∀ (k:Nat) (F:List α),F.Nodup→(∀ x∈F,P x)→(gbF ls ns k F).Nodup∧(∀ x∈gbF ls ns k F,P x)
 | 0,F,nd,hF=>⟨nd,hF⟩
 | k+1,F,nd,hF=>by
  obtain ⟨h1,h2,_⟩:=fold_inv ls P ns F nd hF hn
  exact gbF_inv ls P ns hn k _ h1 h2
end
section
variable {α β:Type}[DecidableEq α][DecidableEq β](f:α→β)(hf:∀ a b,f a=f b→a=b)
include hf
theorem lkq_nat (ls:List (α×α))(a b:α):lkq (ls.map (f2 f)) (f a) (f b)=lkq ls a b:=by
 have key:∀ a b:α,(f a,f b)∈ls.map (f2 f)↔(a,b)∈ls:=fun a b=>by
  constructor
  ·intro h
   obtain ⟨⟨c,d⟩,hm,e⟩:=List.mem_map.mp h
   have e:=Prod.mk.inj e
   rw [← hf _ _ e.1,← hf _ _ e.2]; exact hm
  ·intro h; exact List.mem_map.mpr ⟨(a,b),h,rfl⟩
 unfold lkq
 simp only [key]
theorem gbS_nat (ls:List (α×α))(F:List α)(one:α):gbS (ls.map (f2 f)) (F.map f) (f one)=(gbS ls F one).map f:=by
 have e1:(F.map f).any (lkq (ls.map (f2 f)) (f one))=F.any (lkq ls one):=by
  rw [List.any_map]
  congr 1
  funext x
  exact lkq_nat f hf ls one x
 unfold gbS
 rw [e1]
 simp only [mem_nat f hf]
 split <;> simp
theorem gbfold_nat (ls:List (α×α)):∀ (ns F:List α),(ns.map f).foldl (gbS (ls.map (f2 f))) (F.map f)=(ns.foldl (gbS ls) F).map f
 | [],F=>rfl
 | n::ns,F=>by
  simp only [List.map_cons,List.foldl_cons]
  rw [gbS_nat f hf,gbfold_nat ls ns]
theorem gbF_nat (ls:List (α×α))(ns:List α):∀ (k:Nat) (F:List α),gbF (ls.map (f2 f)) (ns.map f) k (F.map f)=(gbF ls ns k F).map f
 | 0,F=>rfl
 | k+1,F=>by
  simp only [gbF]
  rw [gbfold_nat f hf,gbF_nat ls ns k]
end
def prm {α:Type}:List α→List (List α)
 | []=>[[]]
 | x::xs=>(prm xs).flatMap fun ys=>(List.range (ys.length+1)).map fun i=>ys.take i++x::ys.drop i
theorem prm_mem {α:Type}:∀ {xs ys:List α},ys.Perm xs→ys∈prm xs
 | [],ys,h=>by rw [h.eq_nil]; exact List.mem_singleton.mpr rfl
 | x::xs,ys,h=>by
  have hx:x∈ys:=h.mem_iff.mpr (List.mem_cons_self ..)
  obtain ⟨a,b,rfl⟩:=List.append_of_mem hx
  have hp:(a++b).Perm xs:=(List.perm_middle.symm.trans h).cons_inv
  refine List.mem_flatMap.mpr ⟨a++b,prm_mem hp,List.mem_map.mpr ⟨a.length,List.mem_range.mpr (by simp; omega),?_⟩⟩
  simp
theorem perm_img {α β:Type}(f:α→β):∀ (xs:List α) (ns:List β),ns.Perm (xs.map f)→∃ ps,ns=List.map f ps∧ps.Perm xs
 | [],ns,h=>⟨[],by simpa using h.eq_nil,.nil⟩
 | x::xs,ns,h=>by
  have hx:f x∈ns:=h.mem_iff.mpr (by simp)
  obtain ⟨a,b,rfl⟩:=List.append_of_mem hx
  have hp:(a++b).Perm (xs.map f):=(List.perm_middle.symm.trans h).cons_inv
  obtain ⟨ps,e,pp⟩:=perm_img f xs (a++b) hp
  have ea:a=(ps.take a.length).map f:=by rw [List.map_take,← e]; simp
  have eb:b=(ps.drop a.length).map f:=by rw [List.map_drop,← e]; simp
  refine ⟨ps.take a.length++x::ps.drop a.length,?_,?_⟩
  ·rw [List.map_append,List.map_cons,← ea,← eb]
  ·exact List.perm_middle.trans ((by rw [List.take_append_drop]; exact pp:(ps.take a.length++ps.drop a.length).Perm xs).cons x)
def finP (m:Nat):Bool:=(prm (List.finRange m)).all fun ns=>(subs (allQ (List.finRange m))).all fun li=>(List.finRange m).all fun a=>(List.finRange m).all fun b=>decide (b∈gbF li ns m [a])==decide (b∈grpF li a)
theorem finP0:finP 0=true:=by decide +kernel
theorem finP1:finP 1=true:=by decide +kernel
theorem finP2:finP 2=true:=by decide +kernel
theorem finP3:finP 3=true:=by decide +kernel
theorem finP4:finP 4=true:=by decide +kernel
theorem finPA {m:Nat}(h:m≤4):finP m=true:=by
 have:m=0∨m=1∨m=2∨m=3∨m=4:=by omega
 rcases this with rfl | rfl | rfl | rfl | rfl
 ·exact finP0
 ·exact finP1
 ·exact finP2
 ·exact finP3
 ·exact finP4
theorem gb_grp {ns:List Str}(nd:ns.Nodup)(l4:ns.length≤4){ls:List (Str×Str)}(hs:ls.Sublist (allP (sortS ns))){a b:Str}(ha:a∈ns)(hb:b∈ns):decide (b∈gbF ls ns ns.length [a])=decide (b∈grpF ls a):=by
 obtain ⟨T⟩:=toF nd l4 hs
 obtain ⟨i,rfl⟩:=T.at ha
 obtain ⟨j,rfl⟩:=T.at hb
 have hm:ns.length=T.m:=by have:=T.pm.length_eq; simpa using this.symm
 obtain ⟨ps,e,pp⟩:=perm_img T.f _ ns T.pm.symm
 have n:=gbF_nat T.f T.hf T.li ps T.m [i]
 rw [← T.e,← e] at n
 simp only [List.map_cons,List.map_nil] at n
 rw [hm,n,(T.grp i).2,decide_eq_decide.mpr (mem_nat T.f T.hf j _),decide_eq_decide.mpr (mem_nat T.f T.hf j _)]
 have:=finPA T.h4
 unfold finP at this
 have:=List.all_eq_true.mp this ps (prm_mem pp)
 have:=List.all_eq_true.mp this T.li (subs_mem T.sb)
 have:=List.all_eq_true.mp this i (List.mem_finRange i)
 exact beq_iff_eq.mp (List.all_eq_true.mp this j (List.mem_finRange j))
theorem lk_pr {t:Twn}(h:t.Ok){lp:List (Str×Str)}(pm:t.ls.Perm lp)(a b:Str):decide (pr2 a b∈lp)=lkq t.ls a b:=by
 have lt:=h.lk.lt
 have e:(pr2 a b∈lp)↔((a,b)∈t.ls∨(b,a)∈t.ls):=by
  rw [← pm.mem_iff]
  constructor
  ·intro q
   rcases pr2_in (rfl:pr2 a b=pr2 a b) with z | z
   ·exact .inl (z▸q)
   ·exact .inr (z▸q)
  ·intro q
   unfold pr2
   rcases q with q | q
   ·have l:=lt _ q
    have:ltS b a=false:=ltC_asym l
    rw [this]; simpa using q
   ·have l:=lt _ q
    have l:ltS b a=true:=l
    rw [l]; simpa using q
 unfold lkq
 rw [← Bool.decide_or]
 exact decide_eq_decide.mpr e
theorem ix_mem {ns:List Str}{a:Str}(h:a∈ns):ns[ns.idxOf a]?=some a:=by
 rw [List.getElem?_eq_getElem (List.idxOf_lt_length_of_mem h)]; simp
abbrev iD (ns:List Str)(a:Str):D:=.int (ns.idxOf a:Nat)
theorem inIx {ns:List Str}{x:Str}(hx:x∈ns)(F:List Str)(l4:ns.length≤4)(hF:∀ y∈F,y∈ns):anyB (toPy (iD ns x)) (toPys (F.map (iD ns)))=some (decide (x∈F)):=by
 refine anyB_of (by simp) (okds_iff.mpr fun d hd=>?_) (fun d hd=>?_) ?_
 ·obtain ⟨n,h,rfl⟩:=List.mem_map.mp hd
  simp
 ·obtain ⟨n,h,rfl⟩:=List.mem_map.mp hd
  simp [smk]
 ·simp only [decide_eq_true_eq,List.mem_map]
  constructor
  ·intro q; exact ⟨x,q,rfl⟩
  ·rintro ⟨y,hy,e⟩
   have e:ns.idxOf y=ns.idxOf x:=by
    have:=D.int.inj e
    omega
   have g:=ix_mem (hF y hy)
   rw [e,ix_mem hx] at g
   exact (Option.some.inj g)▸hy
section
variable {t:Twn}{lp:List (Str×Str)}
theorem nr_lc (h:t.Ok)(pm:t.ls.Perm lp){i:Nat}{k:Str}(hk:t.ns[i]?=some k)(F:List Str)(hF:∀ y∈F,y∈t.ns)(hl:F.length≤1000)(x1 x2 x6:Option PyD.Slot) :
  lcD [7] (gN 7) (mBinB (inD false) (mCB tupleD (mCons (mCB sortedD (mCons (mCS lstD (mCons (mCB strD (mCons (mBin ixD (mVar 4) (mVar 5)) mNil)) (mCons (mCB strD (mCons (mBin ixD (mVar 4) (mVar 7)) mNil)) mNil))) mNil)) mNil)) (mBin ixD (mVar 0) (mC (.str s!"links")))) (mVar 7) (F.map (iD t.ns)) []
   [some (.val (t.p lp)),x1,x2,some (.val (.lst (F.map (iD t.ns)))),some (.val (.lst (t.ns.map .str))),some (.val (.int (i:Nat))),x6,none] =
  .ok ((F.filter (lkq t.ls k)).map (iD t.ns)) [some (.val (t.p lp)),x1,x2,some (.val (.lst (F.map (iD t.ns)))),some (.val (.lst (t.ns.map .str))),some (.val (.int (i:Nat))),x6,none]:=by
 have lc:=lc_fm (vs:=[7]) (f:=gN 7) (t:=mBinB (inD false) (mCB tupleD (mCons (mCB sortedD (mCons (mCS lstD (mCons (mCB strD (mCons (mBin ixD (mVar 4) (mVar 5)) mNil)) (mCons (mCB strD (mCons (mBin ixD (mVar 4) (mVar 7)) mNil)) mNil))) mNil)) mNil)) (mBin ixD (mVar 0) (mC (.str s!"links")))) (me:=mVar 7) (ρ:=[some (.val (t.p lp)),x1,x2,some (.val (.lst (F.map (iD t.ns)))),some (.val (.lst (t.ns.map .str))),some (.val (.int (i:Nat))),x6,none]) (iD t.ns) (iD t.ns) (lkq t.ls k) F [] (fun a ha=>by
  have at1:=at_str hk
  have at2:=at_str (ix_mem (hF a ha))
  have s2:=sort2 k a
  have d1:=p_links t lp
  have dd:=fun E x y ρ=>p_disp t lp (E:=E) (x:=x) (y:=y) (ρ:=ρ)
  have pe:=lk_pr h pm k a
  have kn:k∈t.ns:=List.mem_of_getElem? hk
  have an:=hF a ha
  have so:=h.lk.so
  have p12:PyData.strOk (pr2 k a).1=true∧PyData.strOk (pr2 k a).2=true:=by
   rcases pr2_in (rfl:pr2 k a=pr2 k a) with z | z <;> rw [z] <;> simp [so k kn,so a an]
  have ip:=inPairs (pr2 k a) p12.1 p12.2 lp (fun q hq=>by
   have hq:=pm.mem_iff.mpr hq
   exact ⟨so _ (h.lk.m1 q hq),so _ (h.lk.m2 q hq)⟩)
  rw [pe] at ip
  have lk:lkD (pr2 k a)=.tup [.str (pr2 k a).1,.str (pr2 k a).2]:=rfl
  rw [lk] at ip
  have s1:=so k kn
  have s3:=so a an
  refine ⟨[some (.val (t.p lp)),x1,x2,some (.val (.lst (F.map (iD t.ns)))),some (.val (.lst (t.ns.map .str))),some (.val (.int (i:Nat))),x6,some (.val (.int (t.ns.idxOf a:Nat)))],by simp,?_,by simp,fun _=>⟨.val (iD t.ns a),by simp,rfl⟩⟩
  generalize t.p lp=P at *
  generalize lp.map lkD=L at *
  generalize F.map (iD t.ns)=Fs at *
  generalize t.ns.map D.str=Ns at *
  generalize lkq t.ls k a=Q at *
  generalize pr2 k a=Pr at *
  generalize t.ns.idxOf a=ia at *
  simp -implicitDefEqProofs at ip
  simp -implicitDefEqProofs [at1,at2,s2,d1,dd,ip,s1,s3]) (by have:=sz11; have:=(by decide +kernel:(2000:Nat)<sizeLine); simp; omega)
 rw [lc,List.nil_append]
theorem gr_step (h:t.Ok)(pm:t.ls.Perm lp){i:Nat}{k:Str}(hk:t.ns[i]?=some k)(ki:t.ns.idxOf k=i)(F:List Str)(hF:∀ y∈F,y∈t.ns)(hl:F.length≤900)(x1 x2 x6:Option PyD.Slot) :
  ∃ y6,b__law_group_L1 [some (.val (t.p lp)),x1,x2,some (.own none (.lst (F.map (iD t.ns)))),some (.val (.lst (t.ns.map .str))),some (.val (.int (i:Nat))),x6,none] =
   .nx [some (.val (t.p lp)),x1,x2,some (.own none (.lst ((gbS t.ls F k).map (iD t.ns)))),some (.val (.lst (t.ns.map .str))),some (.val (.int (i:Nat))),y6,none]:=by
 have lc:=nr_lc h pm hk F hF (by omega) x1 x2 x6
 have kn:k∈t.ns:=List.mem_of_getElem? hk
 have im:=inIx kn F h.l4' hF
 have ki2:iD t.ns k=.int (i:Nat):=by rw [← ki]
 rw [ki2] at im
 have e0:okd 60 (.lst ((F.filter (lkq t.ls k)).map (iD t.ns)))=true:=by
  rw [x_okL,okds_iff]
  intro d hd
  obtain ⟨n,hn,rfl⟩:=List.mem_map.mp hd
  simp
 have ne:neD (.lst ((F.filter (lkq t.ls k)).map (iD t.ns))) (.lst [])=some (.val (.bl (!(F.filter (lkq t.ls k)).isEmpty))):=by
  cases hQ:F.filter (lkq t.ls k) with
  | nil=>rw [hQ] at e0; simpa using neD_t e0
  | cons x xs=>rw [hQ] at e0; simpa using neD_f (y:=.lst []) e0 (by simp) (by simp [smk,smks]) (by simp)
 have an:=fil_any (lkq t.ls k) F
 rw [an] at ne
 have ap:(gbS t.ls F k).map (iD t.ns)=F.map (iD t.ns)++(if (F.any (lkq t.ls k)&&!decide (k∈F))=true then [.int (i:Nat)] else []):=by
  unfold gbS
  split
  ·rw [List.map_append,List.map_cons,List.map_nil,ki2]
  ·simp
 refine ⟨some (.own none (.lst ((F.filter (lkq t.ls k)).map (iD t.ns)))),?_⟩
 rw [ap]
 have l1:(F.map (iD t.ns)).length≤900:=by simpa using hl
 generalize (F.filter (lkq t.ls k)).map (iD t.ns)=Q at *
 generalize F.any (lkq t.ls k)=b1 at *
 generalize decide (k∈F)=b2 at *
 generalize t.p lp=P at *
 generalize F.map (iD t.ns)=Fs at *
 have l2:Fs.length≤16777215:=by omega
 have l3:Fs.length≤16777216:=by omega
 simp -implicitDefEqProofs at im
 cases b1 <;> cases b2 <;> simp -implicitDefEqProofs [b__law_group_L1,lc,im,ne,l2,l3]
theorem gr_in (h:t.Ok)(pm:t.ls.Perm lp)(x1 x2:Option PyD.Slot):∀ (xs:List Str) (i:Nat) (F:List Str) (x5 x6:Option PyD.Slot),t.ns.drop i=xs→(∀ y∈F,y∈t.ns)→F.Nodup→F.length+xs.length≤900 →
  ∃ y5 y6,forD (gN 5) b__law_group_L1 (rangeD (i:Nat) xs.length) [some (.val (t.p lp)),x1,x2,some (.own none (.lst (F.map (iD t.ns)))),some (.val (.lst (t.ns.map .str))),x5,x6,none] =
   .nx [some (.val (t.p lp)),x1,x2,some (.own none (.lst ((xs.foldl (gbS t.ls) F).map (iD t.ns)))),some (.val (.lst (t.ns.map .str))),y5,y6,none]
 | [],i,F,x5,x6,_,_,_,_=>⟨x5,x6,rfl⟩
 | x::xs,i,F,x5,x6,hd,hF,nd,hl=>by
  have hx:t.ns[i]?=some x:=by
   have:=congrArg (fun l=>l[0]?) hd
   simpa using this
  have hd2:t.ns.drop (i+1)=xs:=by
   have:=congrArg List.tail hd
   simpa using this
  have xn:x∈t.ns:=List.mem_of_getElem? hx
  obtain ⟨hi,ex⟩:=List.getElem?_eq_some_iff.mp hx
  have ki:t.ns.idxOf x=i:=by rw [← ex]; exact h.nd.idxOf_getElem i hi
  simp only [List.length_cons] at hl
  obtain ⟨n1,n2,n3⟩:=gbS_inv t.ls (·∈t.ns) F x nd hF xn
  obtain ⟨z6,st⟩:=gr_step h pm hx ki F hF (by omega) x1 x2 x6
  obtain ⟨y5,y6,e⟩:=gr_in h pm x1 x2 xs (i+1) (gbS t.ls F x) (some (.val (.int (i:Nat)))) z6 hd2 n2 n1 (by omega)
  refine ⟨y5,y6,?_⟩
  have g:gN 5 (.int (i:Nat)) [some (.val (t.p lp)),x1,x2,some (.own none (.lst (F.map (iD t.ns)))),some (.val (.lst (t.ns.map .str))),x5,x6,none]=some [some (.val (t.p lp)),x1,x2,some (.own none (.lst (F.map (iD t.ns)))),some (.val (.lst (t.ns.map .str))),some (.val (.int (i:Nat))),x6,none]:=rfl
  have jn:((i:Int)+1)=((i+1:Nat):Int):=by omega
  rw [List.length_cons,rangeD_succ,jn]
  exact for_step g st e
theorem gr_out (h:t.Ok)(pm:t.ls.Perm lp)(x1:Option PyD.Slot):∀ (n j:Nat) (F:List Str) (x2 x5 x6:Option PyD.Slot),(∀ y∈F,y∈t.ns)→F.Nodup→F.length+10 * n≤800 →
  ∃ y2 y5 y6,forD (gN 2) b__law_group_L2 (rangeD (j:Nat) n) [some (.val (t.p lp)),x1,x2,some (.own none (.lst (F.map (iD t.ns)))),some (.val (.lst (t.ns.map .str))),x5,x6,none] =
   .nx [some (.val (t.p lp)),x1,y2,some (.own none (.lst ((gbF t.ls t.ns n F).map (iD t.ns)))),some (.val (.lst (t.ns.map .str))),y5,y6,none]
 | 0,j,F,x2,x5,x6,_,_,_=>⟨x2,x5,x6,rfl⟩
 | n+1,j,F,x2,x5,x6,hF,nd,hl=>by
  have l4:=h.l4'
  obtain ⟨n1,n2,n3⟩:=fold_inv t.ls (·∈t.ns) t.ns F nd hF fun x hx=>hx
  obtain ⟨z5,z6,e1⟩:=gr_in h pm x1 (some (.val (.int (j:Nat)))) t.ns 0 F x5 x6 rfl hF nd (by omega)
  obtain ⟨y2,y5,y6,e2⟩:=gr_out h pm x1 n (j+1) (t.ns.foldl (gbS t.ls) F) (some (.val (.int (j:Nat)))) z5 z6 n2 n1 (by omega)
  refine ⟨y2,y5,y6,?_⟩
  have g:gN 2 (.int (j:Nat)) [some (.val (t.p lp)),x1,x2,some (.own none (.lst (F.map (iD t.ns)))),some (.val (.lst (t.ns.map .str))),x5,x6,none]=some [some (.val (t.p lp)),x1,some (.val (.int (j:Nat))),some (.own none (.lst (F.map (iD t.ns)))),some (.val (.lst (t.ns.map .str))),x5,x6,none]:=rfl
  have st:b__law_group_L2 [some (.val (t.p lp)),x1,some (.val (.int (j:Nat))),some (.own none (.lst (F.map (iD t.ns)))),some (.val (.lst (t.ns.map .str))),x5,x6,none]=.nx [some (.val (t.p lp)),x1,some (.val (.int (j:Nat))),some (.own none (.lst ((t.ns.foldl (gbS t.ls) F).map (iD t.ns)))),some (.val (.lst (t.ns.map .str))),z5,z6,none]:=by
   rw [← e1]
   have lm:(t.ns.map D.str).length=t.ns.length:=by simp
   have r1:(-4611686018427387904:Int)≤(t.ns.length:Int):=by omega
   have r2:(t.ns.length:Int)<4611686018427387904:=by omega
   generalize t.p lp=P at *
   generalize t.ns.map D.str=Ns at *
   simp -implicitDefEqProofs [b__law_group_L2,lm,r1,r2]
  have jn:((j:Int)+1)=((j+1:Nat):Int):=by omega
  rw [rangeD_succ,jn]
  exact for_step g st e2
theorem ints_of:∀ xs:List Int,intsD (xs.map D.int)=some xs
 | []=>rfl
 | x::xs=>by simp [intsD,ints_of xs]
theorem ix_sorted {ns:List Str}(nd:ns.Nodup):(ns.map fun n=>(ns.idxOf n:Int)).Pairwise (·≤·):=by
 have e:(ns.map fun n=>(ns.idxOf n:Int))=(List.range ns.length).map fun i:Nat=>(i:Int):=by
  refine List.ext_getElem (by simp) fun i h1 h2=>?_
  have hi:i<ns.length:=by simpa using h1
  simp [nd.idxOf_getElem i hi]
 rw [e]
 exact List.pairwise_map.mpr (List.pairwise_lt_range.imp fun h=>by omega)
theorem grp_law (h:t.Ok)(hg:t.Gr)(pm:t.ls.Perm lp){a:Str}(ha:a∈t.ns):f__law_group [.v (t.p lp),.v (iD t.ns a)]=.ret (.new (.lst ((t.grp a).map (iD t.ns)))) []:=by
 have l4:=h.l4'
 obtain ⟨y2,y5,y6,e⟩:=gr_out h pm (some (.val (iD t.ns a))) t.ns.length 0 [a] none none none (by simpa using ha) (by simp) (by simp; omega)
 obtain ⟨g1,g2⟩:=gbF_inv t.ls (·∈t.ns) t.ns (fun x hx=>hx) t.ns.length [a] (by simp) (by simpa using ha)
 have pp:(gbF t.ls t.ns t.ns.length [a]).Perm (t.grp a):=(List.perm_ext_iff_of_nodup g1 (h.nd.sublist List.filter_sublist)).mpr fun b=>by
  rw [List.mem_filter]
  constructor
  ·intro q
   have hb:=g2 b q
   have:=gb_grp h.nd h.l4' hg ha hb
   rw [← this]
   exact ⟨hb,by simpa using q⟩
  ·rintro ⟨hb,q⟩
   have:=gb_grp h.nd h.l4' hg ha hb
   rw [← this] at q
   simpa using q
 have sl:PyD.sortI ((gbF t.ls t.ns t.ns.length [a]).map fun n=>(t.ns.idxOf n:Int))=(t.grp a).map fun n=>(t.ns.idxOf n:Int) :=
  (PyD.sortI_is (pp.symm.map _) ((ix_sorted h.nd).sublist (List.filter_sublist.map _))).symm
 have so:sortedID [.lst ((gbF t.ls t.ns t.ns.length [a]).map (iD t.ns))]=some (.new (.lst ((t.grp a).map (iD t.ns)))):=by
  have m:∀ xs:List Str,xs.map (iD t.ns)=(xs.map fun n=>(t.ns.idxOf n:Int)).map D.int:=fun xs=>by rw [List.map_map]; rfl
  rw [m,m]
  show (intsD _).map _=_
  rw [ints_of,← sl]; rfl
 have gl:(gbF t.ls t.ns t.ns.length [a]).length≤4:=by
  have:=pp.length_eq
  have:=List.length_filter_le (fun b=>decide (b∈grpF t.ls a)) t.ns
  unfold Twn.grp at *; omega
 generalize gbF t.ls t.ns t.ns.length [a]=G at *
 have lc:=lc_fm (vs:=[5]) (f:=gN 5) (t:=mYes) (me:=mCB intD (mCons (mVar 5) mNil)) (ρ:=[some (.val (t.p lp)),some (.val (iD t.ns a)),y2,some (.val (.lst (G.map (iD t.ns)))),some (.val (.lst (t.ns.map .str))),none,y6,none]) (iD t.ns) (iD t.ns) (fun _=>true) G [] (fun b hb =>
  ⟨[some (.val (t.p lp)),some (.val (iD t.ns a)),y2,some (.val (.lst (G.map (iD t.ns)))),some (.val (.lst (t.ns.map .str))),some (.val (iD t.ns b)),y6,none],by simp,by simp,by simp,fun _=>⟨.val (iD t.ns b),by simp,rfl⟩⟩) (by have:=sz11; simp; omega)
 rw [List.nil_append,List.filter_eq_self.mpr (fun _ _=>rfl)] at lc
 have lm:(t.ns.map D.str).length=t.ns.length:=by simp
 have r1:(-4611686018427387904:Int)≤(t.ns.length:Int):=by omega
 have r2:(t.ns.length:Int)<4611686018427387904:=by omega
 have d1:=p_names t lp
 have dd:=fun E x y ρ=>p_disp t lp (E:=E) (x:=x) (y:=y) (ρ:=ρ)
 have i0:iD t.ns a=.int (t.ns.idxOf a:Nat):=rfl
 rw [List.map_cons,List.map_nil,show ((0:Nat):Int)=0 from rfl] at e
 rw [i0] at e lc ⊢
 generalize t.p lp=P at *
 generalize t.ns.map D.str=Ns at *
 generalize G.map (iD t.ns)=Gs at *
 generalize (t.grp a).map (iD t.ns)=Rs at *
 simp -implicitDefEqProofs [f__law_group,x_mkFn,b__law_group,List.replicate,d1,dd,lm,r1,r2,e,lc,so]
end
theorem find_idx (a:Str):∀ ts:List Tl,a∈ts.map (·.n)→ts[(ts.map (·.n)).idxOf a]?=ts.find? (fun x=>decide (x.n=a))
 | [],h=>by cases h
 | x::ts,h=>by
  by_cases e:x.n=a
  ·simp [e]
  ·have hb:(x.n==a)=false:=by simpa using e
   have ha:a∈ts.map (·.n):=(List.mem_cons.mp h).resolve_left fun z=>e z.symm
   rw [List.map_cons,List.idxOf_cons,hb]
   simp only [cond_false,List.getElem?_cons_succ,List.find?_cons,e,decide_false]
   exact find_idx a ts ha
theorem at_ix {t:Twn}{a:Str}(ha:a∈t.ns):t.ts[t.ns.idxOf a]?=some (t.at a):=by
 rw [← (Twn.find ha).1]; exact find_idx a t.ts ha
theorem l_stop {t:Twn}(b:Bk)(h0:0≤b.tops):f__law_stopped [.v (t.st b)]=.ret (.val (.bl b.stop)) []:=by
 have e:=clamp_le (l:=b.left) h0
 cases c:b.lost <;> simp -implicitDefEqProofs [f__law_stopped,x_mkFn,b__law_stopped,Bk.stop,c,e]
theorem l_low (l tp:Int):f__law_low [.v (.int l),.v (.int tp)]=.ret (.val (.int (clamp l tp))) []:=by
 simp -implicitDefEqProofs [f__law_low,x_mkFn,b__law_low,clamp,maxLD,intsD,mxI]
theorem l_put {ns:List Str}(nd:ns.Nodup)(l4:ns.length≤4){a:Str}(ha:a∈ns)(f:Str→D)(v:D)(hv:PyD.strip v=v):f__law_put [.v (.tup (ns.map f)),.v (.int (ns.idxOf a:Nat)),.v v]=.ret (.val (.tup (ns.map (upF f a v)))) []:=by
 have c1:=cut_take (ns.map f) (ns.idxOf a)
 have c2:=cut_drop (ns.map f) (ns.idxOf a+1)
 have pl:=put_list nd ha f v
 have c2:PyD.cutD (ns.map f) (some (((ns.idxOf a:Nat):Int)+1)) none=(ns.map f).drop (ns.idxOf a+1):=by
  rw [show ((ns.idxOf a:Nat):Int)+1=((ns.idxOf a+1:Nat):Int) from by omega]; exact c2
 have ln:(ns.map (upF f a v)).length≤4:=by simpa using l4
 rw [← pl] at ln ⊢
 have ln2:((ns.map f).take (ns.idxOf a)++v::(ns.map f).drop (ns.idxOf a+1)).length≤sizeLine:=by have:=sz11; omega
 generalize ns.idxOf a=i at *
 generalize (ns.map f)=xs at *
 generalize hA:xs.take i=A at *
 generalize hB:xs.drop (i+1)=B at *
 have ln3:A.length+(B.length+1)≤16777216:=by simpa using ln2
 have ln4:A.length+1≤16777216:=by omega
 have ln5:A.length+1+B.length≤16777216:=by omega
 simp -implicitDefEqProofs [f__law_put,x_mkFn,b__law_put,x_slT,c1,c2,hv,ln3,ln4,ln5]
theorem l_putB {ns:List Str}(nd:ns.Nodup)(l4:ns.length≤4){a:Str}(ha:a∈ns)(f:Str→Bool)(v:Bool):f__law_put [.v (tB ns f),.v (.int (ns.idxOf a:Nat)),.v (.bl v)]=.ret (.val (tB ns (upF f a v))) []:=by
 have:=l_put nd l4 ha (fun n=>.bl (f n)) (.bl v) rfl
 rw [upF_bl] at this
 exact this
theorem l_putI {ns:List Str}(nd:ns.Nodup)(l4:ns.length≤4){a:Str}(ha:a∈ns)(f:Str→Int)(v:Int):f__law_put [.v (tI ns f),.v (.int (ns.idxOf a:Nat)),.v (.int v)]=.ret (.val (tI ns (upF f a v))) []:=by
 have:=l_put nd l4 ha (fun n=>.int (f n)) (.int v) rfl
 rw [upF_int] at this
 exact this
section
variable {t:Twn}{lp:List (Str×Str)}
theorem okix (xs:List Str)(l4:t.ns.length≤4)(hx:∀ x∈xs,x∈t.ns):okd 60 (.lst (xs.map (iD t.ns)))=true:=by
 rw [x_okL,okds_iff]
 intro d hd
 obtain ⟨n,hn,rfl⟩:=List.mem_map.mp hd
 simp
theorem neIx (xs:List Str)(l4:t.ns.length≤4)(hx:∀ x∈xs,x∈t.ns):neD (.lst (xs.map (iD t.ns))) (.lst [])=some (.val (.bl (!xs.isEmpty))):=by
 have ok:=okix xs l4 hx
 cases xs with
 | nil=>simpa using neD_t ok
 | cons x xs=>simpa using neD_f (y:=.lst []) ok (by simp) (by simp [smk,smks]) (by simp)
theorem eqIx (xs:List Str)(l4:t.ns.length≤4)(hx:∀ x∈xs,x∈t.ns):eqD (.lst (xs.map (iD t.ns))) (.lst [])=some (.val (.bl xs.isEmpty)):=by
 have ok:=okix xs l4 hx
 cases xs with
 | nil=>simpa using eqD_t ok
 | cons x xs=>simpa using eqD_f (y:=.lst []) ok (by simp) (by simp [smk,smks]) (by simp)
theorem lw_lc1 (g:List Str)(hg:∀ x∈g,x∈t.ns)(gl:g.length≤4)(b:Bk)(d0 d2 d3:D)(x5 x6:Option PyD.Slot) :
  lcD [7] (gN 7) (mTru (mBin ixD (mBin ixD (mVar 1) (mC (.int 0))) (mVar 7))) (mVar 7) (g.map (iD t.ns)) [] [some (.val d0),some (.val (t.st b)),some (.val d2),some (.val d3),some (.val (.lst (g.map (iD t.ns)))),x5,x6,none] =
   .ok ((g.filter b.li).map (iD t.ns)) [some (.val d0),some (.val (t.st b)),some (.val d2),some (.val d3),some (.val (.lst (g.map (iD t.ns)))),x5,x6,none]:=by
 have lc:=lc_fm (vs:=[7]) (f:=gN 7) (t:=mTru (mBin ixD (mBin ixD (mVar 1) (mC (.int 0))) (mVar 7))) (me:=mVar 7) (ρ:=[some (.val d0),some (.val (t.st b)),some (.val d2),some (.val d3),some (.val (.lst (g.map (iD t.ns)))),x5,x6,none]) (iD t.ns) (iD t.ns) b.li g [] (fun x hx=>by
  have at1:=atB (hg x hx) b.li
  refine ⟨[some (.val d0),some (.val (t.st b)),some (.val d2),some (.val d3),some (.val (.lst (g.map (iD t.ns)))),x5,x6,some (.val (.int (t.ns.idxOf x:Nat)))],by simp,?_,by simp,fun _=>⟨.val (.int (t.ns.idxOf x:Nat)),by simp,rfl⟩⟩
  simp -implicitDefEqProofs [at1]) (by have:=sz11; simp; omega)
 rw [lc,List.nil_append]
theorem lw_lc2 (g:List Str)(hg:∀ x∈g,x∈t.ns)(gl:g.length≤4)(b:Bk)(d0 d2 d3:D)(x5 x6:Option PyD.Slot) :
  lcD [7] (gN 7) (mNotB (mTru (mBin ixD (mBin ixD (mVar 1) (mC (.int 0))) (mVar 7)))) (mBin ixD (mBin ixD (mVar 1) (mC (.int 1))) (mVar 7)) (g.map (iD t.ns)) [] [some (.val d0),some (.val (t.st b)),some (.val d2),some (.val d3),some (.val (.lst (g.map (iD t.ns)))),x5,x6,none] =
   .ok ((((g.filter fun x=>!b.li x).map b.un)).map D.int) [some (.val d0),some (.val (t.st b)),some (.val d2),some (.val d3),some (.val (.lst (g.map (iD t.ns)))),x5,x6,none]:=by
 have lc:=lc_fm (vs:=[7]) (f:=gN 7) (t:=mNotB (mTru (mBin ixD (mBin ixD (mVar 1) (mC (.int 0))) (mVar 7)))) (me:=mBin ixD (mBin ixD (mVar 1) (mC (.int 1))) (mVar 7)) (ρ:=[some (.val d0),some (.val (t.st b)),some (.val d2),some (.val d3),some (.val (.lst (g.map (iD t.ns)))),x5,x6,none]) (iD t.ns) (fun x=>.int (b.un x)) (fun x=>!b.li x) g [] (fun x hx=>by
  have at1:=atB (hg x hx) b.li
  have at2:=atT (hg x hx) b.un
  refine ⟨[some (.val d0),some (.val (t.st b)),some (.val d2),some (.val d3),some (.val (.lst (g.map (iD t.ns)))),x5,x6,some (.val (.int (t.ns.idxOf x:Nat)))],by simp,?_,by simp,fun _=>⟨.val (.int (b.un x)),?_,rfl⟩⟩
  ·simp -implicitDefEqProofs [at1]
  ·simp -implicitDefEqProofs [at2]) (by have:=sz11; simp; omega)
 rw [lc,List.nil_append,List.map_map]; rfl
theorem l_word (h:t.Ok)(hg:t.Gr)(pm:t.ls.Perm lp){a:Str}(ha:a∈t.ns)(b:Bk)(u:Int)(h0:0≤b.tops)(hu:1≤u):f__law_word [.v (t.p lp),.v (t.st b),.v (iD t.ns a),.v (.int u)]=.ret (.val (.str (t.word b a u))) []:=by
 have l4:=h.l4'
 have at1:=atB ha b.li
 have at3:=atB ha b.he
 have go:=grp_law h hg pm ha
 have gi:=fun x (hx:x∈t.grp a)=>grp_in hx
 have gl:(t.grp a).length≤4:=by
  have:=List.length_filter_le (fun b=>decide (b∈grpF t.ls a)) t.ns
  unfold Twn.grp; omega
 have lc1:=fun d0 d2 d3 x5 x6=>lw_lc1 (t.grp a) gi gl b d0 d2 d3 x5 x6
 have lc2:=fun d0 d2 d3 x5 x6=>lw_lc2 (t.grp a) gi gl b d0 d2 d3 x5 x6
 have ne:=neIx ((t.grp a).filter b.li) l4 (fun x hx=>gi x (List.mem_filter.mp hx).1)
 rw [fil_any] at ne
 have im:=sum_ints (((t.grp a).filter fun x=>!b.li x).map b.un)
 have su:b.sumU (t.grp a)=(((t.grp a).filter fun x=>!b.li x).map b.un).sum:=rfl
 rw [← su] at im
 have hsp:=l_stop (t:=t) b h0
 have ge:=clamp_ge (l:=b.left) h0 hu
 have ax:=at_ix ha
 have g2:=at_map (fun x:Tl=>D.int x.l) t.ts _ _ ax
 have g3:=at_map (fun x:Tl=>D.bl x.h) t.ts _ _ ax
 have d1:=p_limits t lp
 have d2:=p_heeds t lp
 have d3:=p_memory t lp
 have dd:=fun E x y ρ=>p_disp t lp (E:=E) (x:=x) (y:=y) (ρ:=ρ)
 have i0:iD t.ns a=.int (t.ns.idxOf a:Nat):=rfl
 rw [i0] at go ⊢
 unfold Twn.word
 generalize (((t.grp a).filter fun x=>!b.li x).map b.un).map D.int=Us at *
 generalize b.sumU (t.grp a)=S at *
 generalize ((t.grp a).filter b.li).map (iD t.ns)=Fs at *
 generalize (t.grp a).any b.li=nw at *
 generalize (t.grp a).map (iD t.ns)=Gs at *
 generalize b.stop=sv at *
 generalize t.at a=X at *
 generalize t.p lp=P at *
 generalize (t.ts.map fun x=>D.int x.l)=Ls at *
 generalize (t.ts.map fun x=>D.bl x.h)=Hs at *
 cases c1:b.li a with
 | true =>
  rw [c1] at at1
  cases c2:b.lost <;> by_cases c3:u≤b.left <;> simp -implicitDefEqProofs [f__law_word,x_mkFn,b__law_word,List.replicate,at1,c2,ge,c3]
 | false =>
  rw [c1] at at1
  clear c1
  have m1:∀ x:D,atI [x] 0=some x:=fun _=>rfl
  have m2:∀ x y:D,atI [x,y] 0=some x:=fun _ _=>rfl
  have m3:∀ x y:D,atI [x,y] 1=some y:=fun _ _=>rfl
  generalize b.he a=hv at *
  generalize X.h=xh at *
  cases c6:t.mem with
  | no =>
   rw [c6] at d3
   cases xh <;> cases nw <;> cases sv <;> cases hv <;> by_cases c5:X.l<S+u <;>
    simp -implicitDefEqProofs [f__law_word,x_mkFn,b__law_word,List.replicate,at1,at3,go,lc1,lc2,ne,im,hsp,d1,d2,d3,dd,g2,g3,c5,Mem.d,Mem.over,Mem.cost,m1,m2,m3,mergeD,putKD,x_valKC]
  | ti n =>
   rw [c6] at d3
   by_cases c7:n<b.kept+1 <;> cases xh <;> cases nw <;> cases sv <;> cases hv <;> by_cases c5:X.l<S+u <;>
    simp -implicitDefEqProofs [f__law_word,x_mkFn,b__law_word,List.replicate,at1,at3,go,lc1,lc2,ne,im,hsp,d1,d2,d3,dd,g2,g3,c5,Mem.d,Mem.over,Mem.cost,m1,m2,m3,mergeD,putKD,x_valKC,c7]
  | su n =>
   rw [c6] at d3
   by_cases c7:n<b.kept+u <;> cases xh <;> cases nw <;> cases sv <;> cases hv <;> by_cases c5:X.l<S+u <;>
    simp -implicitDefEqProofs [f__law_word,x_mkFn,b__law_word,List.replicate,at1,at3,go,lc1,lc2,ne,im,hsp,d1,d2,d3,dd,g2,g3,c5,Mem.d,Mem.over,Mem.cost,m1,m2,m3,mergeD,putKD,x_valKC,c7]
end
theorem st_t3 (t:Twn)(b:Bk):slD (t.st b) none (some 3)=some (.val (.tup [tB t.ns b.li,tI t.ns b.un,tB t.ns b.he])):=rfl
theorem st_t4 (t:Twn)(b:Bk):slD (t.st b) none (some 4)=some (.val (.tup [tB t.ns b.li,tI t.ns b.un,tB t.ns b.he,.int b.kept])):=rfl
theorem st_d4 (t:Twn)(b:Bk):slD (t.st b) (some 4) none=some (.val (.tup [.int (clamp b.left b.tops),.bl b.lost,.int b.tops])):=rfl
theorem st_d5 (t:Twn)(b:Bk):slD (t.st b) (some 5) none=some (.val (.tup [.bl b.lost,.int b.tops])):=rfl
section
variable {t:Twn}{lp:List (Str×Str)}
theorem l_paid (h:t.Ok)(hg:t.Gr)(pm:t.ls.Perm lp){a:Str}(ha:a∈t.ns)(b:Bk)(u:Int)(h0:0≤b.tops)(hu:1≤u):f__law_paid [.v (t.p lp),.v (t.st b),.v (iD t.ns a),.v (.int u)]=.ret (.new (.lst [t.st (t.paid b a u),.str (t.word b a u)])) []:=by
 have w:=l_word h hg pm ha b u h0 hu
 have at1:=atB ha b.li
 have at2:=atT ha b.un
 have pu:=fun v=>l_putI h.nd h.l4' ha b.un v
 have cl:=l_low
 have c2:=clamp2 (l:=b.left) (u:=u) h0 (by omega)
 have d3:=p_memory t lp
 have dd:=fun E x y ρ=>p_disp t lp (E:=E) (x:=x) (y:=y) (ρ:=ρ)
 have m1:∀ x:D,atI [x] 0=some x:=fun _=>rfl
 have m2:∀ x y:D,atI [x,y] 0=some x:=fun _ _=>rfl
 have i0:iD t.ns a=.int (t.ns.idxOf a:Nat):=rfl
 rw [i0] at w ⊢
 unfold Twn.paid
 generalize t.word b a u=W at *
 generalize t.p lp=P at *
 have e3:=st_t3 t b; have e5:=st_d4 t b; have e6:=st_d5 t b
 by_cases hw:W=s!"taken"
 ·subst hw
  cases c1:b.li a with
  | true =>
   rw [c1] at at1
   simp -implicitDefEqProofs [f__law_paid,x_mkFn,b__law_paid,List.replicate,w,at1,cl,c2,e3,e6]
   simp [Twn.st]
  | false =>
   rw [c1] at at1
   cases c6:t.mem <;> (rw [c6] at d3) <;>
   simp -implicitDefEqProofs [f__law_paid,x_mkFn,b__law_paid,List.replicate,w,at1,at2,pu,d3,dd,Mem.d,Mem.cost,m1,m2,mergeD,putKD,x_valKC,e5] <;> simp [Twn.st]
 ·cases c1:b.li a <;> (rw [c1] at at1) <;> simp -implicitDefEqProofs [f__law_paid,x_mkFn,b__law_paid,List.replicate,w,at1,hw]
theorem l_can (h:t.Ok)(b:Bk)(e:Ev)(he:e.Is t.ns):f__law_can [.v (t.p lp),.v (t.st b),.v e.d]=.ret (.val (.bl (!e.ag&&b.can e))) []:=by
 have so:=h.lk.so
 have d1:=p_names t lp
 have dd:=fun E x y ρ=>p_disp t lp (E:=E) (x:=x) (y:=y) (ρ:=ρ)
 generalize t.p lp=P at *
 cases e with
 | cut a =>
  have he:a∈t.ns:=he
  have se:=index_ok a t.ns he so
  have at1:=atB he b.li
  generalize t.ns.map D.str=Ns at *
  cases c:b.li a <;> (rw [c] at at1) <;> simp -implicitDefEqProofs [f__law_can,x_mkFn,b__law_can,Ev.d,Ev.ag,Bk.can,d1,dd,se,at1,c,atI,ixN]
 | line a =>
  have he:a∈t.ns:=he
  have se:=index_ok a t.ns he so
  have at1:=atB he b.li
  generalize t.ns.map D.str=Ns at *
  cases c:b.li a <;> (rw [c] at at1) <;> simp -implicitDefEqProofs [f__law_can,x_mkFn,b__law_can,Ev.d,Ev.ag,Bk.can,d1,dd,se,at1,c,atI,ixN]
 | pay a u=>simp -implicitDefEqProofs [f__law_can,x_mkFn,b__law_can,Ev.d,Ev.ag,Bk.can,atI,ixN]
 | top u=>cases c:b.lost <;> simp -implicitDefEqProofs [f__law_can,x_mkFn,b__law_can,Ev.d,Ev.ag,Bk.can,c,atI,ixN]
 | lose=>cases c:b.lost <;> simp -implicitDefEqProofs [f__law_can,x_mkFn,b__law_can,Ev.d,Ev.ag,Bk.can,c,atI,ixN]
 | again a=>simp -implicitDefEqProofs [f__law_can,x_mkFn,b__law_can,Ev.d,Ev.ag,Bk.can,atI,ixN]
theorem ln_for (hns:t.ns.Nodup)(l4:t.ns.length≤4)(v:Bool)(x0 x1 x2 x3 x4 x7 x8:Option PyD.Slot):∀ (g:List Str) (f:Str→Bool) (x6:Option PyD.Slot),(∀ x∈g,x∈t.ns) →
  ∃ y6,forD (gN 6) b__law_lined_L1 (g.map (iD t.ns)) [x0,x1,x2,x3,x4,some (.val (.bl v)),x6,x7,x8,some (.val (tB t.ns f))]=.nx [x0,x1,x2,x3,x4,some (.val (.bl v)),y6,x7,x8,some (.val (tB t.ns (upFs f g v)))]
 | [],f,x6,_=>⟨x6,by rw [show upFs f [] v=f from by funext n; simp [upFs]]; rfl⟩
 | x::g,f,x6,hg=>by
  have pu:=l_putB hns l4 (hg x (List.mem_cons_self ..)) f v
  obtain ⟨y6,e⟩:=ln_for hns l4 v x0 x1 x2 x3 x4 x7 x8 g (upF f x v) (some (.val (.int (t.ns.idxOf x:Nat)))) fun y hy=>hg y (List.mem_cons_of_mem _ hy)
  rw [upFs_cons] at e
  refine ⟨y6,?_⟩
  have gg:gN 6 (iD t.ns x) [x0,x1,x2,x3,x4,some (.val (.bl v)),x6,x7,x8,some (.val (tB t.ns f))]=some [x0,x1,x2,x3,x4,some (.val (.bl v)),some (.val (.int (t.ns.idxOf x:Nat))),x7,x8,some (.val (tB t.ns f))]:=rfl
  have st:b__law_lined_L1 [x0,x1,x2,x3,x4,some (.val (.bl v)),some (.val (.int (t.ns.idxOf x:Nat))),x7,x8,some (.val (tB t.ns f))]=.nx [x0,x1,x2,x3,x4,some (.val (.bl v)),some (.val (.int (t.ns.idxOf x:Nat))),x7,x8,some (.val (tB t.ns (upF f x v)))]:=by
   generalize tB t.ns f=A at *
   generalize tB t.ns (upF f x v)=B at *
   simp -implicitDefEqProofs [b__law_lined_L1,pu]
  rw [List.map_cons]
  exact for_step gg st e
theorem ln_lc (g:List Str)(hg:∀ x∈g,x∈t.ns)(gl:g.length≤4)(f:Str→Bool)(x0 x1 x2 x3 x4 x5 x9:Option PyD.Slot) :
  lcD [6] (gN 6) (mTru (mBin ixD (mVar 7) (mVar 6))) (mVar 6) (g.map (iD t.ns)) [] [x0,x1,x2,x3,x4,x5,none,some (.val (tB t.ns f)),some (.val (.lst (g.map (iD t.ns)))),x9] =
   .ok ((g.filter f).map (iD t.ns)) [x0,x1,x2,x3,x4,x5,none,some (.val (tB t.ns f)),some (.val (.lst (g.map (iD t.ns)))),x9]:=by
 have lc:=lc_fm (vs:=[6]) (f:=gN 6) (t:=mTru (mBin ixD (mVar 7) (mVar 6))) (me:=mVar 6) (ρ:=[x0,x1,x2,x3,x4,x5,none,some (.val (tB t.ns f)),some (.val (.lst (g.map (iD t.ns)))),x9]) (iD t.ns) (iD t.ns) f g [] (fun x hx=>by
  have at1:=atB (hg x hx) f
  refine ⟨[x0,x1,x2,x3,x4,x5,some (.val (.int (t.ns.idxOf x:Nat))),some (.val (tB t.ns f)),some (.val (.lst (g.map (iD t.ns)))),x9],by simp,?_,by simp,fun _=>⟨.val (.int (t.ns.idxOf x:Nat)),by simp,rfl⟩⟩
  simp -implicitDefEqProofs [at1]) (by have:=sz11; simp; omega)
 rw [lc,List.nil_append]
theorem l_lined (h:t.Ok)(hg:t.Gr)(pm:t.ls.Perm lp){a:Str}(ha:a∈t.ns)(b:Bk)(hl:Bool)(ok:b.Ok t.ns)(hc:hl=false→b.li a=true):f__law_lined [.v (t.p lp),.v (t.st b),.v (iD t.ns a),.v (.bl hl)]=.ret (.new (.lst [t.st (t.lined b a hl),.str s!"done"])) []:=by
 have l4:=h.l4'
 have at2:=atT ha b.un
 have pu:=fun v=>l_putI h.nd h.l4' ha b.un v
 have pl:=fun v=>l_putB h.nd h.l4' ha b.li v
 have sp:=l_stop (t:=t) b ok.tp
 have cl:=l_low
 have go:=grp_law h hg pm ha
 have gi:=fun x (hx:x∈t.grp a)=>grp_in hx
 have gl:(t.grp a).length≤4:=by
  have:=List.length_filter_le (fun b=>decide (b∈grpF t.ls a)) t.ns
  unfold Twn.grp; omega
 have lc:=fun x0 x1 x2 x3 x4 x5 x9=>ln_lc (t.grp a) gi gl (upF b.li a hl) x0 x1 x2 x3 x4 x5 x9
 have eq:=eqIx ((t.grp a).filter (upF b.li a hl)) l4 (fun x hx=>gi x (List.mem_filter.mp hx).1)
 have fa:=fil_any (upF b.li a hl) (t.grp a)
 have fa2:((t.grp a).filter (upF b.li a hl)).isEmpty=!(t.grp a).any (upF b.li a hl):=by rw [← fa]; simp
 rw [fa2] at eq
 have fr:=fun v x0 x1 x2 x3 x4 x7 x8=>ln_for h.nd l4 v x0 x1 x2 x3 x4 x7 x8 (t.grp a) b.he
 have e5:=st_d5 t b
 have i0:iD t.ns a=.int (t.ns.idxOf a:Nat):=rfl
 rw [i0] at go ⊢
 cases hl with
 | true =>
  have an0:=any_self h hg ha b.li
  have an:=an0
  rw [an] at eq
  have c2:=clamp2 (l:=b.left) (u:=b.un a) ok.tp (ok.u0 a ha)
  obtain ⟨y6,fr⟩:=fr false (some (.val (t.p lp))) (some (.val (t.st b))) (some (.val (.int (t.ns.idxOf a:Nat)))) (some (.val (.bl true))) (some (.val (.int (clamp (b.left-b.un a) b.tops)))) (some (.val (tB t.ns (upF b.li a true)))) (some (.val (.lst ((t.grp a).map (iD t.ns))))) none gi
  generalize ((t.grp a).filter (upF b.li a true)).map (iD t.ns)=Fs at *
  generalize (t.grp a).map (iD t.ns)=Gs at *
  generalize t.p lp=P at *
  simp -implicitDefEqProofs [f__law_lined,x_mkFn,b__law_lined,List.replicate,at2,pu,pl,go,lc,eq,sp,cl,c2,fr,e5]
  simp [Twn.st,Twn.lined,an0]
 | false =>
  have li:=hc rfl
  have u0:=ok.un a ha li
  have ue:upF b.un a 0=b.un:=by
   funext n
   unfold upF
   by_cases z:n=a
   ·rw [if_pos z,z,u0]
   ·rw [if_neg z]
  have fr2:=fun v=>fr v (some (.val (t.p lp))) (some (.val (t.st b))) (some (.val (.int (t.ns.idxOf a:Nat)))) (some (.val (.bl false))) (some (.val (.int (clamp b.left b.tops)))) (some (.val (tB t.ns (upF b.li a false)))) (some (.val (.lst ((t.grp a).map (iD t.ns))))) none gi
  cases c1:(t.grp a).any (upF b.li a false) with
  | true =>
   rw [c1] at eq
   obtain ⟨y6,fr3⟩:=fr2 false
   generalize ((t.grp a).filter (upF b.li a false)).map (iD t.ns)=Fs at *
   generalize (t.grp a).map (iD t.ns)=Gs at *
   generalize t.p lp=P at *
   simp -implicitDefEqProofs [f__law_lined,x_mkFn,b__law_lined,List.replicate,at2,pu,pl,go,lc,eq,sp,cl,fr3,e5]
   simp [Twn.st,Twn.lined,c1,ue]
  | false =>
   rw [c1] at eq
   obtain ⟨y6,fr3⟩:=fr2 b.stop
   have hs:b.stop=(b.lost||decide (b.left≤0)):=rfl
   generalize ((t.grp a).filter (upF b.li a false)).map (iD t.ns)=Fs at *
   generalize (t.grp a).map (iD t.ns)=Gs at *
   generalize t.p lp=P at *
   simp -implicitDefEqProofs [f__law_lined,x_mkFn,b__law_lined,List.replicate,at2,pu,pl,go,lc,eq,sp,cl,fr3,e5]
   simp [Twn.st,Twn.lined,c1,ue,Bk.stop]
theorem l_after (h:t.Ok)(hg:t.Gr)(pm:t.ls.Perm lp)(b:Bk)(ok:b.Ok t.ns)(e:Ev)(he:e.Is t.ns)(hc:(!e.ag&&b.can e)=true):f__law_after [.v (t.p lp),.v (t.st b),.v e.d]=.ret (.new (.lst [t.st (t.did b e).1,.str (t.did b e).2])) []:=by
 have so:=h.lk.so
 have d1:=p_names t lp
 have dd:=fun E x y ρ=>p_disp t lp (E:=E) (x:=x) (y:=y) (ρ:=ρ)
 have e4:=st_t4 t b
 cases e with
 | cut a =>
  have li:b.li a=true:=by simpa [Ev.ag,Bk.can] using hc
  have he:a∈t.ns:=he
  have p:=l_lined h hg pm he b false ok (fun _=>li)
  have se:=index_ok a t.ns he so
  have i0:iD t.ns a=.int (t.ns.idxOf a:Nat):=rfl
  rw [i0] at p
  generalize t.p lp=P at *
  generalize t.ns.map D.str=Ns at *
  simp -implicitDefEqProofs [f__law_after,x_mkFn,b__law_after,List.replicate,Ev.d,Twn.did,atI,ixN,p,d1,dd,se]
 | line a =>
  have he:a∈t.ns:=he
  have p:=l_lined h hg pm he b true ok (fun z=>by cases z)
  have se:=index_ok a t.ns he so
  have i0:iD t.ns a=.int (t.ns.idxOf a:Nat):=rfl
  rw [i0] at p
  generalize t.p lp=P at *
  generalize t.ns.map D.str=Ns at *
  simp -implicitDefEqProofs [f__law_after,x_mkFn,b__law_after,List.replicate,Ev.d,Twn.did,atI,ixN,p,d1,dd,se]
 | pay a u =>
  have p:=l_paid h hg pm he.1 b u ok.tp he.2.1
  have se:=index_ok a t.ns he.1 so
  have i0:iD t.ns a=.int (t.ns.idxOf a:Nat):=rfl
  rw [i0] at p
  generalize t.p lp=P at *
  generalize t.ns.map D.str=Ns at *
  simp -implicitDefEqProofs [f__law_after,x_mkFn,b__law_after,List.replicate,Ev.d,Twn.did,atI,ixN,p,d1,dd,se]
 | top u =>
  have c2:clamp b.left b.tops+u=clamp (b.left+u) (b.tops-u):=by unfold clamp; (repeat' split) <;> omega
  generalize t.p lp=P at *
  simp -implicitDefEqProofs [f__law_after,x_mkFn,b__law_after,List.replicate,Ev.d,Twn.did,atI,ixN,e4]
  simp [Twn.st,c2]
 | lose =>
  have c2:clamp (clamp b.left b.tops) 0=clamp b.left 0:=by have:=ok.tp; unfold clamp; (repeat' split) <;> omega
  have cl:=l_low
  generalize t.p lp=P at *
  simp -implicitDefEqProofs [f__law_after,x_mkFn,b__law_after,List.replicate,Ev.d,Twn.did,atI,ixN,e4,cl]
  simp [Twn.st,c2]
 | again a=>simp [Ev.ag] at hc
end
theorem q_strip {t:Twn}(b:Bk):PyD.strip (t.st b)=t.st b:=rfl
theorem q_14 {t:Twn}(h:t.Ok):(∃ a,t.ns=[a])∨(∃ a b,t.ns=[a,b])∨(∃ a b c,t.ns=[a,b,c])∨∃ a b c d,t.ns=[a,b,c,d]:=by
 have l4:=h.l4'
 have ne:t.ns≠[]:=fun e=>h.ne (List.map_eq_nil_iff.mp e)
 match hn:t.ns,l4,ne with
 | [],_,ne=>exact absurd rfl ne
 | [a],_,_=>exact .inl ⟨a,rfl⟩
 | [a,b],_,_=>exact .inr (.inl ⟨a,b,rfl⟩)
 | [a,b,c],_,_=>exact .inr (.inr (.inl ⟨a,b,c,rfl⟩))
 | [a,b,c,d],_,_=>exact .inr (.inr (.inr ⟨a,b,c,d,rfl⟩))
 | _::_::_::_::_::_,l,_=>simp at l
theorem q_rep {t:Twn}(h:t.Ok)(x:D):mulE (.tup [x]) (.int (t.ns.length:Nat))=some (.val (.tup (t.ns.map fun _=>x))):=by
 rcases q_14 h with ⟨a,e⟩ | ⟨a,b,e⟩ | ⟨a,b,c,e⟩ | ⟨a,b,c,d,e⟩ <;> rw [e] <;> rfl
section
variable {t:Twn}{lp:List (Str×Str)}
theorem l_first (h:t.Ok):f__law_first [.v (t.p lp)]=.ret (.val (t.st t.b0)) []:=by
 have m1:=q_rep h (.bl true)
 have m2:=q_rep h (.int 0)
 have m3:=q_rep h (.bl false)
 have cl:clamp t.money t.tops=t.money:=by have:=h.mo; have:=h.to; unfold clamp; split <;> omega
 have d1:=p_names t lp
 have d2:=p_money t lp
 have d3:=p_tops t lp
 have dd:=fun E x y ρ=>p_disp t lp (E:=E) (x:=x) (y:=y) (ρ:=ρ)
 have lm:(t.ns.map D.str).length=t.ns.length:=by simp
 have st:t.st t.b0=.tup [.tup (t.ns.map fun _=>.bl true),.tup (t.ns.map fun _=>.int 0),.tup (t.ns.map fun _=>.bl false),.int 0,.int t.money,.bl false,.int t.tops]:=by simp [Twn.st,Twn.b0,tB,tI,cl]
 rw [st]
 generalize t.p lp=P at *
 generalize t.ns.map D.str=Ns at *
 generalize (t.ns.map fun _=>D.bl true)=A1 at *
 generalize (t.ns.map fun _=>D.int 0)=A2 at *
 generalize (t.ns.map fun _=>D.bl false)=A3 at *
 simp -implicitDefEqProofs [f__law_first,x_mkFn,b__law_first,List.replicate,d1,d2,d3,dd,lm,m1,m2,m3]
theorem ev_for (x0:Option PyD.Slot):∀ (xs:List Str) (A:List D) (x2:Option PyD.Slot),A.length+2 * xs.length≤1000 →
  ∃ y2,forD (gN 2) b__law_events_L1 (xs.map .str) [x0,some (.own none (.lst A)),x2]=.nx [x0,some (.own none (.lst (A++xs.flatMap fun n=>[evP n 1,evP n 2]))),y2]
 | [],A,x2,_=>⟨x2,by rw [List.flatMap_nil,List.append_nil]; rfl⟩
 | x::xs,A,x2,hl=>by
  simp only [List.length_cons] at hl
  obtain ⟨y2,e⟩:=ev_for x0 xs (A++[evP x 1,evP x 2]) (some (.val (.str x))) (by simp; omega)
  refine ⟨y2,?_⟩
  rw [List.append_assoc] at e
  have g:gN 2 (.str x) [x0,some (.own none (.lst A)),x2]=some [x0,some (.own none (.lst A)),some (.val (.str x))]:=rfl
  have l2:A.length+2≤16777216:=by omega
  have st:b__law_events_L1 [x0,some (.own none (.lst A)),some (.val (.str x))]=.nx [x0,some (.own none (.lst (A++[evP x 1,evP x 2]))),some (.val (.str x))]:=by
   simp -implicitDefEqProofs [b__law_events_L1,l2,evP]
  rw [List.map_cons]
  exact for_step g st e
theorem l_events (h:t.Ok):f__law_events [.v (t.p lp)]=.ret (.new (.lst (evs t.ns))) []:=by
 have l4:=h.l4'
 have d1:=p_names t lp
 have dd:=fun E x y ρ=>p_disp t lp (E:=E) (x:=x) (y:=y) (ρ:=ρ)
 have l1:=fun (k:String) (x1:Option PyD.Slot)=>lc_ev k t.ns (by omega) 2 [some (.val (t.p lp)),x1,none] (by simp) rfl
 obtain ⟨y2,e⟩:=ev_for (some (.val (t.p lp))) t.ns (t.ns.map (ev1 "cut")++t.ns.map (ev1 "line")) none (by simp; omega)
 have ln:(t.ns.map (ev1 "cut")++t.ns.map (ev1 "line")).length=2 * t.ns.length:=by simp; omega
 have ln2:=flat_len t.ns
 have lk:∀ k,(t.ns.map (ev1 k)).length=t.ns.length:=fun k=>by simp
 have lkA:=lk "cut"; have lkB:=lk "line"; have lkC:=lk "again"
 unfold evs
 have eT:evT 1=.tup [.str s!"top",.int 1]:=rfl
 have eT2:evT 2=.tup [.str s!"top",.int 2]:=rfl
 have eL:evL=.tup [.str s!"lose"]:=rfl
 rw [eT,eT2,eL]
 generalize t.p lp=P at *
 generalize t.ns.map D.str=Ns at *
 have lA:=l1 "cut"; have lB:=l1 "line"; have lC:=l1 "again"
 generalize t.ns.map (ev1 "cut")=A at *
 generalize t.ns.map (ev1 "line")=B at *
 generalize t.ns.map (ev1 "again")=C at *
 generalize (t.ns.flatMap fun n=>[evP n 1,evP n 2])=F at *
 have q1:A.length+B.length≤16777216:=by omega
 have q2:A.length+(B.length+F.length)≤16777213:=by omega
 have q7:A.length+(B.length+(F.length+3))+C.length≤16777216:=by omega
 have q5:A.length+(B.length+(F.length+C.length))≤16777213:=by omega
 have q6:A.length+(B.length+(F.length+(C.length+1+1+1)))≤16777216:=by omega
 have q3:A.length+(B.length+(F.length+(C.length+3)))≤16777216:=by omega
 have q4:A.length+(B.length+(F.length+(3+C.length)))≤16777216:=by omega
 simp -implicitDefEqProofs [List.append_assoc] at e
 simp -implicitDefEqProofs [f__law_events,x_mkFn,b__law_events,List.replicate,d1,dd,lA,lB,lC,e,q1,q2,q3,q4,q5,q6,q7]
theorem l_choices (h:t.Ok)(b:Bk):f__law_choices [.v (t.p lp),.v (t.st b)]=.ret (.new (.lst (((evsE t.ns).filter fun e=>!e.ag&&b.can e).map Ev.d))) []:=by
 have ev:=l_events (lp:=lp) h
 rw [evs_E] at ev
 have ln:=evs_ln t.ns h.l4'
 have lc:=lc_fm (vs:=[2]) (f:=gN 2) (t:=mTru (mCall 3 [false,false,false] f__law_can (mCons (mVar 0) (mCons (mVar 1) (mCons (mVar 2) mNil))))) (me:=mVar 2) (ρ:=[some (.val (t.p lp)),some (.val (t.st b)),none]) Ev.d Ev.d (fun e=>!e.ag&&b.can e) (evsE t.ns) [] (fun e he=>by
  have cb:=l_can (lp:=lp) h b e (evsE_is he)
  refine ⟨[some (.val (t.p lp)),some (.val (t.st b)),some (.val e.d)],by simp,?_,by simp,fun _=>⟨.val e.d,by simp,by simp [Res.frz]⟩⟩
  have ps:=p_strip t lp
  generalize t.p lp=P at *
  simp -implicitDefEqProofs [cb,ps]) (by have:=sz11; have:=(by decide +kernel:(2000:Nat)<sizeLine); simp; omega)
 rw [List.nil_append] at lc
 have ps:=p_strip t lp
 generalize t.p lp=P at *
 simp -implicitDefEqProofs [f__law_choices,x_mkFn,b__law_choices,List.replicate,ev,lc,ps]
def dueE (t:Twn)(b:Bk):List Ev:=(evsE t.ns).filter fun e=>!e.ag&&b.can e
theorem due_is (b:Bk):∀ e∈dueE t b,e.Is t.ns∧(!e.ag&&b.can e)=true:=fun e he=>by
 obtain ⟨h1,h2⟩:=List.mem_filter.mp he
 exact ⟨evsE_is h1,h2⟩
theorem due_ln (h:t.Ok)(b:Bk):(dueE t b).length≤23:=Nat.le_trans (List.length_filter_le _ _) (evs_ln t.ns h.l4')
end
abbrev sSP:Str:=s!" "
abbrev sSC:Str:=s!"; "
theorem sp_tl:tl sSP=[32]:=by decide +kernel
theorem sc_tl:tl sSC=[59,32]:=by decide +kernel
theorem sp_k:sSP.cps.all (· < 256)=true:=by decide +kernel
theorem sc_k:sSC.cps.all (· < 256)=true:=by decide +kernel
theorem sp_sp {ws:List Str}(h:ws≠[])(hp:∀ p∈ws,32∉tl p):Txt.split (Txt.join sSP ws) sSP=ws:=split_join sp_tl sp_k h hp
theorem sp_sc {ws:List Str}(h:ws≠[])(hp:∀ p∈ws,59∉tl p):Txt.split (Txt.join sSC ws) sSC=ws:=split_join sc_tl sc_k h hp
theorem jl_len (S:List Nat):∀ (ws:List (List Nat)) (k:Nat),(∀ w∈ws,w.length≤k)→(joinL S ws).length≤ws.length * (k+S.length)
 | [],k,_=>by simp [joinL]
 | [p],k,h=>by
  have:=h p (List.mem_singleton.mpr rfl)
  simp only [joinL,List.length_cons,List.length_nil]
  omega
 | p::q::r,k,h=>by
  have h1:=h p (List.mem_cons_self ..)
  have h2:=jl_len S (q::r) k fun w hw=>h w (List.mem_cons_of_mem _ hw)
  simp only [joinL,List.length_append,List.length_cons] at h2 ⊢
  rw [Nat.add_mul _ 1,Nat.one_mul]
  omega
theorem jo_len (y:Str)(ws:List Str)(k:Nat)(h:∀ w∈ws,w.length≤k):(Txt.join y ws).length≤ws.length * (k+y.length):=by
 rw [join_eq,len_tl,tl_join,len_tl y]
 have:=jl_len (tl y) (ws.map tl) k (fun w hw=>by
  obtain ⟨z,hz,rfl⟩:=List.mem_map.mp hw
  rw [← len_tl]; exact h z hz)
 simpa using this
theorem sum_le (ws:List Str)(k:Nat)(h:∀ w∈ws,w.length≤k):(ws.map (·.length)).sum≤ws.length * k:=by
 induction ws with
 | nil=>simp
 | cons w ws ih =>
  have h1:=h w (List.mem_cons_self ..)
  have h2:=ih fun x hx=>h x (List.mem_cons_of_mem _ hx)
  simp only [List.map_cons,List.sum_cons,List.length_cons]
  rw [Nat.add_mul,Nat.one_mul]
  omega
def fig (u:Int):Str:=Str.ofString (toString u)
def Ev.ws:Ev→List Str
 | .cut a=>[s!"cut",a]
 | .line a=>[s!"line",a]
 | .pay a u=>[s!"pay",a,fig u]
 | .top u=>[s!"top",fig u]
 | .lose=>[s!"lose"]
 | .again a=>[s!"again",a]
def Ev.tx (e:Ev):Str:=Txt.join sSP e.ws
theorem nm_sign {a:Str}(h:isNm a=true):∀ c∈tl a,97≤c∧c≤122:=fun c hc=>by
 unfold isNm at h
 simp only [Bool.and_eq_true] at h
 have:=List.all_eq_true.mp h.2.2 c hc
 unfold inL at this
 rw [let_list] at this
 simp at this
 omega
def Ev.Nm:Ev→Prop
 | .cut a=>isNm a=true
 | .line a=>isNm a=true
 | .pay a u=>isNm a=true∧(u=1∨u=2)
 | .top u=>u=1∨u=2
 | .lose=>True
 | .again a=>isNm a=true
theorem wd_sign:∀ w∈[s!"cut",s!"line",s!"pay",s!"top",s!"lose",s!"again",fig 1,fig 2],w.length≤8∧∀ c∈tl w,48≤c∧c≤122∧c≠59:=by decide +kernel
theorem ws_sign {e:Ev}(h:e.Nm):∀ w∈e.ws,w.length≤8∧∀ c∈tl w,48≤c∧c≤122∧c≠59:=by
 have nm:∀ a,isNm a=true→a.length≤8∧∀ c∈tl a,48≤c∧c≤122∧c≠59:=fun a ha=>⟨isNm_len ha,fun c hc=>by have:=nm_sign ha c hc; omega⟩
 have fg:∀ u,u=1∨u=2→(fig u).length≤8∧∀ c∈tl (fig u),48≤c∧c≤122∧c≠59:=fun u hu=>by
  rcases hu with rfl | rfl <;> exact wd_sign _ (by simp)
 cases e <;> simp only [Ev.ws,Ev.Nm,List.mem_cons,List.not_mem_nil,or_false] at h ⊢
 ·rintro w (rfl | rfl)
  ·exact wd_sign _ (by simp)
  ·exact nm _ h
 ·rintro w (rfl | rfl)
  ·exact wd_sign _ (by simp)
  ·exact nm _ h
 ·rintro w (rfl | rfl | rfl)
  ·exact wd_sign _ (by simp)
  ·exact nm _ h.1
  ·exact fg _ h.2
 ·rintro w (rfl | rfl)
  ·exact wd_sign _ (by simp)
  ·exact fg _ h
 ·rintro w rfl
  exact wd_sign _ (by simp)
 ·rintro w (rfl | rfl)
  ·exact wd_sign _ (by simp)
  ·exact nm _ h
theorem ws_ne (e:Ev):e.ws≠[]:=by cases e <;> simp [Ev.ws]
theorem ws_ln (e:Ev):e.ws.length≤3:=by cases e <;> simp [Ev.ws]
theorem tx_ws {e:Ev}(h:e.Nm):Txt.split e.tx sSP=e.ws:=sp_sp (ws_ne e) fun p hp q=>by have:=(ws_sign h p hp).2 32 q; omega
theorem tx_ln {e:Ev}(h:e.Nm):e.tx.length≤27:=by
 have:=jo_len sSP e.ws 8 fun w hw=>(ws_sign h w hw).1
 have l3:=ws_ln e
 have l1:sSP.length=1:=by decide +kernel
 unfold Ev.tx
 rw [l1] at this
 have:e.ws.length * 9≤27:=by omega
 omega
theorem jl_mem {S:List Nat}{c:Nat}:∀ {ws:List (List Nat)},c∈joinL S ws→c∈S∨∃ w∈ws,c∈w
 | [],h=>by simp [joinL] at h
 | [p],h=>.inr ⟨p,List.mem_singleton.mpr rfl,h⟩
 | p::q::r,h=>by
  simp only [joinL,List.mem_append] at h
  rcases h with h | h | h
  ·exact .inr ⟨p,List.mem_cons_self ..,h⟩
  ·exact .inl h
  ·rcases jl_mem h with h | ⟨w,h1,h2⟩
   ·exact .inl h
   ·exact .inr ⟨w,List.mem_cons_of_mem _ h1,h2⟩
theorem tx_sc {e:Ev}(h:e.Nm):59∉tl e.tx:=fun q=>by
 unfold Ev.tx at q
 rw [join_eq,tl_join,sp_tl] at q
 rcases jl_mem q with q | ⟨w,h1,h2⟩
 ·simp at q
 ·obtain ⟨z,hz,rfl⟩:=List.mem_map.mp h1
  exact ((ws_sign h z hz).2 59 h2).2.2 rfl
theorem fig_d (u:Int)(h:u=1∨u=2):strD [.int u]=some (.val (.str (fig u))):=by rcases h with rfl | rfl <;> rfl
def wdD:D→Option Str
 | .str a=>some a
 | .int u=>if u=1∨u=2 then some (fig u) else none
 | _=>none
theorem wd_str {d:D}{w:Str}(h:wdD d=some w):strD [d]=some (.val (.str w)):=by
 unfold wdD at h
 split at h
 ·cases h; rfl
 ·split at h
  ·rename_i hu
   cases h
   exact fig_d _ hu
  ·cases h
 ·cases h
theorem ev_lc (ds:List D)(ws:List Str)(h:ds.map wdD=ws.map some)(s0:PyD.Slot)(hl:ds.length≤3):lcD [1] (gN 1) mYes (mCB strD (mCons (mVar 1) mNil)) ds [] [some s0,none]=.ok (ws.map .str) [some s0,none]:=by
 have lc:=lc_map (vs:=[1]) (f:=gN 1) (t:=mYes) (me:=mCB strD (mCons (mVar 1) mNil)) (ρ:=[some s0,none]) (ds:=ds) (acc:=[]) (g:=fun d=>.str ((wdD d).getD s!"")) (fun d hd=>by
  have hw:∃ w,wdD d=some w:=by
   have:wdD d∈ws.map some:=h▸List.mem_map_of_mem hd
   obtain ⟨w,_,e⟩:=List.mem_map.mp this
   exact ⟨w,e.symm⟩
  obtain ⟨w,hw⟩:=hw
  refine ⟨[some s0,some (.val d)],.val (.str w),by simp,by simp,?_,by simp [hw],by simp⟩
  have sd:strD [d]=some (.val (.str w)):=wd_str hw
  simp [sd]) (by simp; omega)
 rw [lc]
 congr 1
 rw [List.nil_append,show (fun d=>D.str ((wdD d).getD s!""))=(fun o:Option Str=>D.str (o.getD s!""))∘wdD from rfl,← List.map_map,h,List.map_map]
 rfl
def Ev.xs:Ev→List D
 | .cut a=>[.str s!"cut",.str a]
 | .line a=>[.str s!"line",.str a]
 | .pay a u=>[.str s!"pay",.str a,.int u]
 | .top u=>[.str s!"top",.int u]
 | .lose=>[.str s!"lose"]
 | .again a=>[.str s!"again",.str a]
theorem d_xs (e:Ev):e.d=.tup e.xs:=by cases e <;> rfl
theorem xs_ws {e:Ev}(h:e.Nm):e.xs.map wdD=e.ws.map some:=by
 cases e <;> simp only [Ev.Nm] at h <;> simp [Ev.xs,Ev.ws,wdD,h]
theorem xs_ln (e:Ev):e.xs.length≤3:=by cases e <;> simp [Ev.xs]
theorem ev_text {e:Ev}(h:e.Nm):f_event_text [.v e.d]=.ret (.val (.str e.tx)) []:=by
 have lc:=ev_lc e.xs e.ws (xs_ws h) (.val (.tup e.xs)) (xs_ln e)
 have sm:=strs_map e.ws
 have sl:=sum_le e.ws 8 fun w hw=>(ws_sign h w hw).1
 have l3:=ws_ln e
 have l1:sSP.length=1:=by decide +kernel
 have le:(e.ws.map (·.length)).sum+e.ws.length * sSP.length≤16777216:=by rw [l1]; omega
 rw [d_xs]
 unfold Ev.tx
 generalize e.xs=Xs at *
 generalize e.ws=Ws at *
 simp -implicitDefEqProofs [f_event_text,x_mkFn,b_event_text,List.replicate,lc,sm,le]
theorem l_text {e:Ev}(h:e.Nm):f__law_event_text [.v e.d]=.ret (.val (.str e.tx)) []:=by
 have lc:=ev_lc e.xs e.ws (xs_ws h) (.val (.tup e.xs)) (xs_ln e)
 have sm:=strs_map e.ws
 have sl:=sum_le e.ws 8 fun w hw=>(ws_sign h w hw).1
 have l3:=ws_ln e
 have l1:sSP.length=1:=by decide +kernel
 have le:(e.ws.map (·.length)).sum+e.ws.length * sSP.length≤16777216:=by rw [l1]; omega
 rw [d_xs]
 unfold Ev.tx
 generalize e.xs=Xs at *
 generalize e.ws=Ws at *
 simp -implicitDefEqProofs [f__law_event_text,x_mkFn,b__law_event_text,List.replicate,lc,sm,le]
def evsT (es:List Ev):Str:=Txt.join sSC (es.map Ev.tx)
theorem wr_lc (es:List Ev)(h:∀ e∈es,e.Nm)(hl:es.length≤1000)(s0:PyD.Slot):lcD [1] (gN 1) mYes (mCall 1 [false] f_event_text (mCons (mVar 1) mNil)) (es.map Ev.d) [] [some s0,none]=.ok ((es.map Ev.tx).map .str) [some s0,none]:=by
 have lc:=lc_fm (vs:=[1]) (f:=gN 1) (t:=mYes) (me:=mCall 1 [false] f_event_text (mCons (mVar 1) mNil)) (ρ:=[some s0,none]) Ev.d (fun e=>.str e.tx) (fun _=>true) es [] (fun e he=>by
  have te:=ev_text (h e he)
  have es:=ev_strip e
  refine ⟨[some s0,some (.val e.d)],by simp,by simp,by simp,fun _=>⟨.val (.str e.tx),?_,rfl⟩⟩
  generalize e.d=De at *
  simp -implicitDefEqProofs [te,es]) (by simp; omega)
 rw [List.nil_append,List.filter_eq_self.mpr (fun _ _=>rfl)] at lc
 rw [lc,List.map_map]; rfl
theorem txs_le (es:List Ev)(h:∀ e∈es,e.Nm)(hl:es.length≤1000):((es.map Ev.tx).map (·.length)).sum+(es.map Ev.tx).length * sSC.length≤16777216:=by
 have sl:=sum_le (es.map Ev.tx) 27 fun w hw=>by
  obtain ⟨e,he,rfl⟩:=List.mem_map.mp hw
  exact tx_ln (h e he)
 have l1:sSC.length=2:=by decide +kernel
 rw [List.length_map] at sl ⊢
 rw [l1]
 omega
theorem wr_ok (es:List Ev)(h:∀ e∈es,e.Nm)(hl:es.length≤1000):f_write_events [.v (.lst (es.map Ev.d))]=.ret (.val (.str (evsT es))) []:=by
 have lc:=wr_lc es h hl (.val (.lst (es.map Ev.d)))
 have sm:=strs_map (es.map Ev.tx)
 have le:=txs_le es h hl
 unfold evsT
 generalize es.map Ev.d=Xs at *
 generalize es.map Ev.tx=Ws at *
 simp -implicitDefEqProofs [f_write_events,x_mkFn,b_write_events,List.replicate,lc,sm,le]
theorem wr_okT (es:List Ev)(h:∀ e∈es,e.Nm)(hl:es.length≤1000):f_write_events [.v (.tup (es.map Ev.d))]=.ret (.val (.str (evsT es))) []:=by
 have lc:=wr_lc es h hl (.val (.tup (es.map Ev.d)))
 have sm:=strs_map (es.map Ev.tx)
 have le:=txs_le es h hl
 unfold evsT
 generalize es.map Ev.d=Xs at *
 generalize es.map Ev.tx=Ws at *
 simp -implicitDefEqProofs [f_write_events,x_mkFn,b_write_events,List.replicate,lc,sm,le]
theorem fig_int (u:Int)(h:u=1∨u=2):intTD [.str (fig u)]=some (.val (.int u)):=by
 rcases h with rfl | rfl
 ·have:=int_num (n:=1) (by decide +kernel)
  have l:(fig 1).length≤640:=by decide +kernel
  show (match PySem.intText? (fig 1) with | some n=>if (fig 1).length≤640 then some (Res.val (.int n)) else none | none=>none)=_
  rw [show PySem.intText? (fig 1)=some 1 from this]
  simp [l]
 ·have:=int_num (n:=2) (by decide +kernel)
  have l:(fig 2).length≤640:=by decide +kernel
  show (match PySem.intText? (fig 2) with | some n=>if (fig 2).length≤640 then some (Res.val (.int n)) else none | none=>none)=_
  rw [show PySem.intText? (fig 2)=some 2 from this]
  simp [l]
theorem fig_is (u:Int)(h:u=1∨u=2):f_is_figure [.v (.str (fig u))]=.ret (.val (.bl true)) []:=by
 rcases h with rfl | rfl <;> rfl
theorem so_wd:∀ w∈[s!"cut",s!"line",s!"pay",s!"top",s!"lose",s!"again",fig 1,fig 2],PyData.strOk w=true:=by decide +kernel
theorem ws_so {e:Ev}(h:e.Nm):∀ w∈e.ws,PyData.strOk w=true:=by
 have fg:∀ u,u=1∨u=2→PyData.strOk (fig u)=true:=fun u hu=>by
  rcases hu with rfl | rfl <;> exact so_wd _ (by simp)
 cases e <;> simp only [Ev.ws,Ev.Nm,List.mem_cons,List.not_mem_nil,or_false] at h ⊢
 ·rintro w (rfl | rfl)
  ·exact so_wd _ (by simp)
  ·exact nm_so h
 ·rintro w (rfl | rfl)
  ·exact so_wd _ (by simp)
  ·exact nm_so h
 ·rintro w (rfl | rfl | rfl)
  ·exact so_wd _ (by simp)
  ·exact nm_so h.1
  ·exact fg _ h.2
 ·rintro w (rfl | rfl)
  ·exact so_wd _ (by simp)
  ·exact fg _ h
 ·rintro w rfl
  exact so_wd _ (by simp)
 ·rintro w (rfl | rfl)
  ·exact so_wd _ (by simp)
  ·exact nm_so h
theorem smks_str:∀ xs ys:List Str,smks (xs.map .str) (ys.map .str)=true
 | [],ys=>by cases ys <;> simp [smks]
 | _::_,[]=>by simp [smks]
 | x::xs,y::ys=>by simp [smk,smks,smks_str xs ys]
theorem eqW (ws vs:List Str)(h:∀ w∈ws,PyData.strOk w=true)(h2:∀ w∈vs,PyData.strOk w=true):eqD (.lst (ws.map .str)) (.lst (vs.map .str))=some (.val (.bl (decide (ws=vs)))):=by
 have ok:∀ ws:List Str,(∀ w∈ws,PyData.strOk w=true)→okd 60 (.lst (ws.map .str))=true:=fun ws h=>by
  rw [x_okL,okds_iff]
  intro d hd
  obtain ⟨w,hw,rfl⟩:=List.mem_map.mp hd
  simp [h w hw]
 refine eqD_of (ok ws h) (ok vs h2) (by simp only [smk]; exact smks_str ws vs) ?_
 rw [decide_eq_true_eq]
 constructor
 ·rintro rfl; rfl
 ·intro e
  have e:=D.lst.inj e
  exact List.map_inj_right (fun a b h=>D.str.inj h) |>.mp e
def LOSE:List Str:=[s!"lose"]
theorem ei {e:Ev}(h:e.Nm):f_event_in [.v (.str e.tx)]=.ret (.val e.d) []:=by
 have sp:=tx_ws h
 have ln:=tx_ln h
 have le:e.tx.length≤16777000:=by omega
 have eq:=eqW e.ws LOSE (ws_so h) (fun w hw=>so_wd w (by simp [LOSE] at hw; simp [hw]))
 have s1:(sSP.length==0)=false:=by decide +kernel
 generalize e.tx=X at *
 have a20:∀ x y:D,atI [x,y] 0=some x:=fun _ _=>rfl
 have a21:∀ x y:D,atI [x,y] 1=some y:=fun _ _=>rfl
 have a30:∀ x y z:D,atI [x,y,z] 0=some x:=fun _ _ _=>rfl
 have a31:∀ x y z:D,atI [x,y,z] 1=some y:=fun _ _ _=>rfl
 have a32:∀ x y z:D,atI [x,y,z] 2=some z:=fun _ _ _=>rfl
 cases e with
 | cut a =>
  have nm:=nm_t h
  have sa:=nm_so h
  simp [Ev.ws,LOSE] at eq
  simp -implicitDefEqProofs [f_event_in,x_mkFn,b_event_in,List.replicate,sp,le,s1,Ev.ws,Ev.d,eq,nm,sa,a20,a21]
 | line a =>
  have nm:=nm_t h
  have sa:=nm_so h
  simp [Ev.ws,LOSE] at eq
  simp -implicitDefEqProofs [f_event_in,x_mkFn,b_event_in,List.replicate,sp,le,s1,Ev.ws,Ev.d,eq,nm,sa,a20,a21]
 | again a =>
  have nm:=nm_t h
  have sa:=nm_so h
  simp [Ev.ws,LOSE] at eq
  simp -implicitDefEqProofs [f_event_in,x_mkFn,b_event_in,List.replicate,sp,le,s1,Ev.ws,Ev.d,eq,nm,sa,a20,a21]
 | lose =>
  simp [Ev.ws,LOSE] at eq
  simp -implicitDefEqProofs [f_event_in,x_mkFn,b_event_in,List.replicate,sp,le,s1,Ev.ws,Ev.d,eq]
 | top u =>
  have fi:=fig_int u h
  have fs:=fig_is u h
  simp only [Ev.ws] at sp eq
  simp [LOSE] at eq
  generalize fig u=F at *
  have iN:PyD.intD [.str F]=none:=rfl
  simp -implicitDefEqProofs [f_event_in,x_mkFn,b_event_in,List.replicate,sp,le,s1,Ev.ws,Ev.d,eq,iN,fi,fs,a20,a21]
 | pay a u =>
  have nm:=nm_t h.1
  have sa:=nm_so h.1
  have fi:=fig_int u h.2
  have fs:=fig_is u h.2
  simp only [Ev.ws] at sp eq
  simp [LOSE] at eq
  generalize fig u=F at *
  have iN:PyD.intD [.str F]=none:=rfl
  simp -implicitDefEqProofs [f_event_in,x_mkFn,b_event_in,List.replicate,sp,le,s1,Ev.ws,Ev.d,eq,nm,sa,iN,fi,fs,a30,a31,a32]
def ODDS:List String:=["", "lose ", " lose", "Lose", "lose it", "cut", "cut A", "pay a", "pay a 12", "pay a x", "top", "top -1", "go a"]
def Odd (s:String):Prop:=f_event_in [.v (.str (Str.ofString s))]=.ret (.val .non) []∧(Str.ofString s).length≤27∧59∉tl (Str.ofString s)
theorem nm_a:f_is_name [.v (.str s!"a")]=.ret (.val (.bl true)) []:=nm_t (by decide +kernel)
theorem nm_A:f_is_name [.v (.str s!"A")]=.ret (.val (.bl false)) []:=by
 rw [is_name_str _ (by decide +kernel),show isNm s!"A"=false from by decide +kernel]
theorem fg_12:f_is_figure [.v (.str s!"12")]=.ret (.val (.bl false)) []:=by rfl
theorem fg_x:f_is_figure [.v (.str s!"x")]=.ret (.val (.bl false)) []:=by rfl
theorem fg_m1:f_is_figure [.v (.str s!"-1")]=.ret (.val (.bl false)) []:=by rfl
theorem od0:Odd "":=by
 have sp:Txt.split s!"" sSP=[s!""]:=by
  rw [show s!""=Txt.join sSP [s!""] from by decide +kernel]
  exact sp_sp (by simp) (by decide +kernel)
 have le:s!"".length≤16777000:=by decide +kernel
 have s1:(sSP.length==0)=false:=by decide +kernel
 have a20:∀ x y:D,atI [x,y] 0=some x:=fun _ _=>rfl
 have a21:∀ x y:D,atI [x,y] 1=some y:=fun _ _=>rfl
 have a30:∀ x y z:D,atI [x,y,z] 0=some x:=fun _ _ _=>rfl
 have a31:∀ x y z:D,atI [x,y,z] 1=some y:=fun _ _ _=>rfl
 have a32:∀ x y z:D,atI [x,y,z] 2=some z:=fun _ _ _=>rfl
 have eq0:=eqW [s!""] LOSE (by decide +kernel) (by decide +kernel)
 have eq:eqD (.lst ([s!""].map .str)) (.lst (LOSE.map .str))=some (.val (.bl false)):=by rw [eq0,show decide ([s!""]=LOSE)=false from by decide +kernel]
 simp only [LOSE,List.map_cons,List.map_nil] at eq
 refine ⟨?_,by decide +kernel,by decide +kernel⟩
 simp -implicitDefEqProofs [f_event_in,x_mkFn,b_event_in,List.replicate,sp,le,s1,eq,nm_a,nm_A,fg_12,fg_x,fg_m1,a20,a21,a30,a31,a32]
theorem od1:Odd "lose ":=by
 have sp:Txt.split s!"lose " sSP=[s!"lose",s!""]:=by
  rw [show s!"lose "=Txt.join sSP [s!"lose",s!""] from by decide +kernel]
  exact sp_sp (by simp) (by decide +kernel)
 have le:s!"lose ".length≤16777000:=by decide +kernel
 have s1:(sSP.length==0)=false:=by decide +kernel
 have a20:∀ x y:D,atI [x,y] 0=some x:=fun _ _=>rfl
 have a21:∀ x y:D,atI [x,y] 1=some y:=fun _ _=>rfl
 have a30:∀ x y z:D,atI [x,y,z] 0=some x:=fun _ _ _=>rfl
 have a31:∀ x y z:D,atI [x,y,z] 1=some y:=fun _ _ _=>rfl
 have a32:∀ x y z:D,atI [x,y,z] 2=some z:=fun _ _ _=>rfl
 have eq0:=eqW [s!"lose",s!""] LOSE (by decide +kernel) (by decide +kernel)
 have eq:eqD (.lst ([s!"lose",s!""].map .str)) (.lst (LOSE.map .str))=some (.val (.bl false)):=by rw [eq0,show decide ([s!"lose",s!""]=LOSE)=false from by decide +kernel]
 simp only [LOSE,List.map_cons,List.map_nil] at eq
 refine ⟨?_,by decide +kernel,by decide +kernel⟩
 simp -implicitDefEqProofs [f_event_in,x_mkFn,b_event_in,List.replicate,sp,le,s1,eq,nm_a,nm_A,fg_12,fg_x,fg_m1,a20,a21,a30,a31,a32]
theorem od2:Odd " lose":=by
 have sp:Txt.split s!" lose" sSP=[s!"",s!"lose"]:=by
  rw [show s!" lose"=Txt.join sSP [s!"",s!"lose"] from by decide +kernel]
  exact sp_sp (by simp) (by decide +kernel)
 have le:s!" lose".length≤16777000:=by decide +kernel
 have s1:(sSP.length==0)=false:=by decide +kernel
 have a20:∀ x y:D,atI [x,y] 0=some x:=fun _ _=>rfl
 have a21:∀ x y:D,atI [x,y] 1=some y:=fun _ _=>rfl
 have a30:∀ x y z:D,atI [x,y,z] 0=some x:=fun _ _ _=>rfl
 have a31:∀ x y z:D,atI [x,y,z] 1=some y:=fun _ _ _=>rfl
 have a32:∀ x y z:D,atI [x,y,z] 2=some z:=fun _ _ _=>rfl
 have eq0:=eqW [s!"",s!"lose"] LOSE (by decide +kernel) (by decide +kernel)
 have eq:eqD (.lst ([s!"",s!"lose"].map .str)) (.lst (LOSE.map .str))=some (.val (.bl false)):=by rw [eq0,show decide ([s!"",s!"lose"]=LOSE)=false from by decide +kernel]
 simp only [LOSE,List.map_cons,List.map_nil] at eq
 refine ⟨?_,by decide +kernel,by decide +kernel⟩
 simp -implicitDefEqProofs [f_event_in,x_mkFn,b_event_in,List.replicate,sp,le,s1,eq,nm_a,nm_A,fg_12,fg_x,fg_m1,a20,a21,a30,a31,a32]
theorem od3:Odd "Lose":=by
 have sp:Txt.split s!"Lose" sSP=[s!"Lose"]:=by
  rw [show s!"Lose"=Txt.join sSP [s!"Lose"] from by decide +kernel]
  exact sp_sp (by simp) (by decide +kernel)
 have le:s!"Lose".length≤16777000:=by decide +kernel
 have s1:(sSP.length==0)=false:=by decide +kernel
 have a20:∀ x y:D,atI [x,y] 0=some x:=fun _ _=>rfl
 have a21:∀ x y:D,atI [x,y] 1=some y:=fun _ _=>rfl
 have a30:∀ x y z:D,atI [x,y,z] 0=some x:=fun _ _ _=>rfl
 have a31:∀ x y z:D,atI [x,y,z] 1=some y:=fun _ _ _=>rfl
 have a32:∀ x y z:D,atI [x,y,z] 2=some z:=fun _ _ _=>rfl
 have eq0:=eqW [s!"Lose"] LOSE (by decide +kernel) (by decide +kernel)
 have eq:eqD (.lst ([s!"Lose"].map .str)) (.lst (LOSE.map .str))=some (.val (.bl false)):=by rw [eq0,show decide ([s!"Lose"]=LOSE)=false from by decide +kernel]
 simp only [LOSE,List.map_cons,List.map_nil] at eq
 refine ⟨?_,by decide +kernel,by decide +kernel⟩
 simp -implicitDefEqProofs [f_event_in,x_mkFn,b_event_in,List.replicate,sp,le,s1,eq,nm_a,nm_A,fg_12,fg_x,fg_m1,a20,a21,a30,a31,a32]
theorem od4:Odd "lose it":=by
 have sp:Txt.split s!"lose it" sSP=[s!"lose",s!"it"]:=by
  rw [show s!"lose it"=Txt.join sSP [s!"lose",s!"it"] from by decide +kernel]
  exact sp_sp (by simp) (by decide +kernel)
 have le:s!"lose it".length≤16777000:=by decide +kernel
 have s1:(sSP.length==0)=false:=by decide +kernel
 have a20:∀ x y:D,atI [x,y] 0=some x:=fun _ _=>rfl
 have a21:∀ x y:D,atI [x,y] 1=some y:=fun _ _=>rfl
 have a30:∀ x y z:D,atI [x,y,z] 0=some x:=fun _ _ _=>rfl
 have a31:∀ x y z:D,atI [x,y,z] 1=some y:=fun _ _ _=>rfl
 have a32:∀ x y z:D,atI [x,y,z] 2=some z:=fun _ _ _=>rfl
 have eq0:=eqW [s!"lose",s!"it"] LOSE (by decide +kernel) (by decide +kernel)
 have eq:eqD (.lst ([s!"lose",s!"it"].map .str)) (.lst (LOSE.map .str))=some (.val (.bl false)):=by rw [eq0,show decide ([s!"lose",s!"it"]=LOSE)=false from by decide +kernel]
 simp only [LOSE,List.map_cons,List.map_nil] at eq
 refine ⟨?_,by decide +kernel,by decide +kernel⟩
 simp -implicitDefEqProofs [f_event_in,x_mkFn,b_event_in,List.replicate,sp,le,s1,eq,nm_a,nm_A,fg_12,fg_x,fg_m1,a20,a21,a30,a31,a32]
theorem od5:Odd "cut":=by
 have sp:Txt.split s!"cut" sSP=[s!"cut"]:=by
  rw [show s!"cut"=Txt.join sSP [s!"cut"] from by decide +kernel]
  exact sp_sp (by simp) (by decide +kernel)
 have le:s!"cut".length≤16777000:=by decide +kernel
 have s1:(sSP.length==0)=false:=by decide +kernel
 have a20:∀ x y:D,atI [x,y] 0=some x:=fun _ _=>rfl
 have a21:∀ x y:D,atI [x,y] 1=some y:=fun _ _=>rfl
 have a30:∀ x y z:D,atI [x,y,z] 0=some x:=fun _ _ _=>rfl
 have a31:∀ x y z:D,atI [x,y,z] 1=some y:=fun _ _ _=>rfl
 have a32:∀ x y z:D,atI [x,y,z] 2=some z:=fun _ _ _=>rfl
 have eq0:=eqW [s!"cut"] LOSE (by decide +kernel) (by decide +kernel)
 have eq:eqD (.lst ([s!"cut"].map .str)) (.lst (LOSE.map .str))=some (.val (.bl false)):=by rw [eq0,show decide ([s!"cut"]=LOSE)=false from by decide +kernel]
 simp only [LOSE,List.map_cons,List.map_nil] at eq
 refine ⟨?_,by decide +kernel,by decide +kernel⟩
 simp -implicitDefEqProofs [f_event_in,x_mkFn,b_event_in,List.replicate,sp,le,s1,eq,nm_a,nm_A,fg_12,fg_x,fg_m1,a20,a21,a30,a31,a32]
theorem od6:Odd "cut A":=by
 have sp:Txt.split s!"cut A" sSP=[s!"cut",s!"A"]:=by
  rw [show s!"cut A"=Txt.join sSP [s!"cut",s!"A"] from by decide +kernel]
  exact sp_sp (by simp) (by decide +kernel)
 have le:s!"cut A".length≤16777000:=by decide +kernel
 have s1:(sSP.length==0)=false:=by decide +kernel
 have a20:∀ x y:D,atI [x,y] 0=some x:=fun _ _=>rfl
 have a21:∀ x y:D,atI [x,y] 1=some y:=fun _ _=>rfl
 have a30:∀ x y z:D,atI [x,y,z] 0=some x:=fun _ _ _=>rfl
 have a31:∀ x y z:D,atI [x,y,z] 1=some y:=fun _ _ _=>rfl
 have a32:∀ x y z:D,atI [x,y,z] 2=some z:=fun _ _ _=>rfl
 have eq0:=eqW [s!"cut",s!"A"] LOSE (by decide +kernel) (by decide +kernel)
 have eq:eqD (.lst ([s!"cut",s!"A"].map .str)) (.lst (LOSE.map .str))=some (.val (.bl false)):=by rw [eq0,show decide ([s!"cut",s!"A"]=LOSE)=false from by decide +kernel]
 simp only [LOSE,List.map_cons,List.map_nil] at eq
 refine ⟨?_,by decide +kernel,by decide +kernel⟩
 simp -implicitDefEqProofs [f_event_in,x_mkFn,b_event_in,List.replicate,sp,le,s1,eq,nm_a,nm_A,fg_12,fg_x,fg_m1,a20,a21,a30,a31,a32]
theorem od7:Odd "pay a":=by
 have sp:Txt.split s!"pay a" sSP=[s!"pay",s!"a"]:=by
  rw [show s!"pay a"=Txt.join sSP [s!"pay",s!"a"] from by decide +kernel]
  exact sp_sp (by simp) (by decide +kernel)
 have le:s!"pay a".length≤16777000:=by decide +kernel
 have s1:(sSP.length==0)=false:=by decide +kernel
 have a20:∀ x y:D,atI [x,y] 0=some x:=fun _ _=>rfl
 have a21:∀ x y:D,atI [x,y] 1=some y:=fun _ _=>rfl
 have a30:∀ x y z:D,atI [x,y,z] 0=some x:=fun _ _ _=>rfl
 have a31:∀ x y z:D,atI [x,y,z] 1=some y:=fun _ _ _=>rfl
 have a32:∀ x y z:D,atI [x,y,z] 2=some z:=fun _ _ _=>rfl
 have eq0:=eqW [s!"pay",s!"a"] LOSE (by decide +kernel) (by decide +kernel)
 have eq:eqD (.lst ([s!"pay",s!"a"].map .str)) (.lst (LOSE.map .str))=some (.val (.bl false)):=by rw [eq0,show decide ([s!"pay",s!"a"]=LOSE)=false from by decide +kernel]
 simp only [LOSE,List.map_cons,List.map_nil] at eq
 refine ⟨?_,by decide +kernel,by decide +kernel⟩
 simp -implicitDefEqProofs [f_event_in,x_mkFn,b_event_in,List.replicate,sp,le,s1,eq,nm_a,nm_A,fg_12,fg_x,fg_m1,a20,a21,a30,a31,a32]
theorem od8:Odd "pay a 12":=by
 have sp:Txt.split s!"pay a 12" sSP=[s!"pay",s!"a",s!"12"]:=by
  rw [show s!"pay a 12"=Txt.join sSP [s!"pay",s!"a",s!"12"] from by decide +kernel]
  exact sp_sp (by simp) (by decide +kernel)
 have le:s!"pay a 12".length≤16777000:=by decide +kernel
 have s1:(sSP.length==0)=false:=by decide +kernel
 have a20:∀ x y:D,atI [x,y] 0=some x:=fun _ _=>rfl
 have a21:∀ x y:D,atI [x,y] 1=some y:=fun _ _=>rfl
 have a30:∀ x y z:D,atI [x,y,z] 0=some x:=fun _ _ _=>rfl
 have a31:∀ x y z:D,atI [x,y,z] 1=some y:=fun _ _ _=>rfl
 have a32:∀ x y z:D,atI [x,y,z] 2=some z:=fun _ _ _=>rfl
 have eq0:=eqW [s!"pay",s!"a",s!"12"] LOSE (by decide +kernel) (by decide +kernel)
 have eq:eqD (.lst ([s!"pay",s!"a",s!"12"].map .str)) (.lst (LOSE.map .str))=some (.val (.bl false)):=by rw [eq0,show decide ([s!"pay",s!"a",s!"12"]=LOSE)=false from by decide +kernel]
 simp only [LOSE,List.map_cons,List.map_nil] at eq
 refine ⟨?_,by decide +kernel,by decide +kernel⟩
 simp -implicitDefEqProofs [f_event_in,x_mkFn,b_event_in,List.replicate,sp,le,s1,eq,nm_a,nm_A,fg_12,fg_x,fg_m1,a20,a21,a30,a31,a32]
theorem od9:Odd "pay a x":=by
 have sp:Txt.split s!"pay a x" sSP=[s!"pay",s!"a",s!"x"]:=by
  rw [show s!"pay a x"=Txt.join sSP [s!"pay",s!"a",s!"x"] from by decide +kernel]
  exact sp_sp (by simp) (by decide +kernel)
 have le:s!"pay a x".length≤16777000:=by decide +kernel
 have s1:(sSP.length==0)=false:=by decide +kernel
 have a20:∀ x y:D,atI [x,y] 0=some x:=fun _ _=>rfl
 have a21:∀ x y:D,atI [x,y] 1=some y:=fun _ _=>rfl
 have a30:∀ x y z:D,atI [x,y,z] 0=some x:=fun _ _ _=>rfl
 have a31:∀ x y z:D,atI [x,y,z] 1=some y:=fun _ _ _=>rfl
 have a32:∀ x y z:D,atI [x,y,z] 2=some z:=fun _ _ _=>rfl
 have eq0:=eqW [s!"pay",s!"a",s!"x"] LOSE (by decide +kernel) (by decide +kernel)
 have eq:eqD (.lst ([s!"pay",s!"a",s!"x"].map .str)) (.lst (LOSE.map .str))=some (.val (.bl false)):=by rw [eq0,show decide ([s!"pay",s!"a",s!"x"]=LOSE)=false from by decide +kernel]
 simp only [LOSE,List.map_cons,List.map_nil] at eq
 refine ⟨?_,by decide +kernel,by decide +kernel⟩
 simp -implicitDefEqProofs [f_event_in,x_mkFn,b_event_in,List.replicate,sp,le,s1,eq,nm_a,nm_A,fg_12,fg_x,fg_m1,a20,a21,a30,a31,a32]
theorem od10:Odd "top":=by
 have sp:Txt.split s!"top" sSP=[s!"top"]:=by
  rw [show s!"top"=Txt.join sSP [s!"top"] from by decide +kernel]
  exact sp_sp (by simp) (by decide +kernel)
 have le:s!"top".length≤16777000:=by decide +kernel
 have s1:(sSP.length==0)=false:=by decide +kernel
 have a20:∀ x y:D,atI [x,y] 0=some x:=fun _ _=>rfl
 have a21:∀ x y:D,atI [x,y] 1=some y:=fun _ _=>rfl
 have a30:∀ x y z:D,atI [x,y,z] 0=some x:=fun _ _ _=>rfl
 have a31:∀ x y z:D,atI [x,y,z] 1=some y:=fun _ _ _=>rfl
 have a32:∀ x y z:D,atI [x,y,z] 2=some z:=fun _ _ _=>rfl
 have eq0:=eqW [s!"top"] LOSE (by decide +kernel) (by decide +kernel)
 have eq:eqD (.lst ([s!"top"].map .str)) (.lst (LOSE.map .str))=some (.val (.bl false)):=by rw [eq0,show decide ([s!"top"]=LOSE)=false from by decide +kernel]
 simp only [LOSE,List.map_cons,List.map_nil] at eq
 refine ⟨?_,by decide +kernel,by decide +kernel⟩
 simp -implicitDefEqProofs [f_event_in,x_mkFn,b_event_in,List.replicate,sp,le,s1,eq,nm_a,nm_A,fg_12,fg_x,fg_m1,a20,a21,a30,a31,a32]
theorem od11:Odd "top -1":=by
 have sp:Txt.split s!"top -1" sSP=[s!"top",s!"-1"]:=by
  rw [show s!"top -1"=Txt.join sSP [s!"top",s!"-1"] from by decide +kernel]
  exact sp_sp (by simp) (by decide +kernel)
 have le:s!"top -1".length≤16777000:=by decide +kernel
 have s1:(sSP.length==0)=false:=by decide +kernel
 have a20:∀ x y:D,atI [x,y] 0=some x:=fun _ _=>rfl
 have a21:∀ x y:D,atI [x,y] 1=some y:=fun _ _=>rfl
 have a30:∀ x y z:D,atI [x,y,z] 0=some x:=fun _ _ _=>rfl
 have a31:∀ x y z:D,atI [x,y,z] 1=some y:=fun _ _ _=>rfl
 have a32:∀ x y z:D,atI [x,y,z] 2=some z:=fun _ _ _=>rfl
 have eq0:=eqW [s!"top",s!"-1"] LOSE (by decide +kernel) (by decide +kernel)
 have eq:eqD (.lst ([s!"top",s!"-1"].map .str)) (.lst (LOSE.map .str))=some (.val (.bl false)):=by rw [eq0,show decide ([s!"top",s!"-1"]=LOSE)=false from by decide +kernel]
 simp only [LOSE,List.map_cons,List.map_nil] at eq
 refine ⟨?_,by decide +kernel,by decide +kernel⟩
 simp -implicitDefEqProofs [f_event_in,x_mkFn,b_event_in,List.replicate,sp,le,s1,eq,nm_a,nm_A,fg_12,fg_x,fg_m1,a20,a21,a30,a31,a32]
theorem od12:Odd "go a":=by
 have sp:Txt.split s!"go a" sSP=[s!"go",s!"a"]:=by
  rw [show s!"go a"=Txt.join sSP [s!"go",s!"a"] from by decide +kernel]
  exact sp_sp (by simp) (by decide +kernel)
 have le:s!"go a".length≤16777000:=by decide +kernel
 have s1:(sSP.length==0)=false:=by decide +kernel
 have a20:∀ x y:D,atI [x,y] 0=some x:=fun _ _=>rfl
 have a21:∀ x y:D,atI [x,y] 1=some y:=fun _ _=>rfl
 have a30:∀ x y z:D,atI [x,y,z] 0=some x:=fun _ _ _=>rfl
 have a31:∀ x y z:D,atI [x,y,z] 1=some y:=fun _ _ _=>rfl
 have a32:∀ x y z:D,atI [x,y,z] 2=some z:=fun _ _ _=>rfl
 have eq0:=eqW [s!"go",s!"a"] LOSE (by decide +kernel) (by decide +kernel)
 have eq:eqD (.lst ([s!"go",s!"a"].map .str)) (.lst (LOSE.map .str))=some (.val (.bl false)):=by rw [eq0,show decide ([s!"go",s!"a"]=LOSE)=false from by decide +kernel]
 simp only [LOSE,List.map_cons,List.map_nil] at eq
 refine ⟨?_,by decide +kernel,by decide +kernel⟩
 simp -implicitDefEqProofs [f_event_in,x_mkFn,b_event_in,List.replicate,sp,le,s1,eq,nm_a,nm_A,fg_12,fg_x,fg_m1,a20,a21,a30,a31,a32]
theorem odds_ok:∀ s∈ODDS,Odd s:=by
 unfold ODDS
 simp only [List.mem_cons,List.not_mem_nil,or_false]
 rintro s (rfl | rfl | rfl | rfl | rfl | rfl | rfl | rfl | rfl | rfl | rfl | rfl | rfl)
 ·exact od0
 ·exact od1
 ·exact od2
 ·exact od3
 ·exact od4
 ·exact od5
 ·exact od6
 ·exact od7
 ·exact od8
 ·exact od9
 ·exact od10
 ·exact od11
 ·exact od12
abbrev gRE:Tg:=gT 2 (gsCons (gN 2) (gsCons (gN 3) gsNil))
theorem rd_for (s0:PyD.Slot):∀ (es:List Ev) (rest:List D) (i:Nat) (fs:List Ev) (x2 x3 x4:Option PyD.Slot),(∀ e∈es,e.Nm)→fs.length+es.length≤1000 →
  ∃ y2 y3 y4,forD gRE b_read_events_L1 (enumFromD i (es.map (fun e=>.str e.tx)++rest)) [some s0,some (.own none (.lst (fs.map Ev.d))),x2,x3,x4] =
   forD gRE b_read_events_L1 (enumFromD (i+es.length) rest) [some s0,some (.own none (.lst ((fs++es).map Ev.d))),y2,y3,y4]
 | [],rest,i,fs,x2,x3,x4,_,_=>⟨x2,x3,x4,by simp⟩
 | e::es,rest,i,fs,x2,x3,x4,h,hl=>by
  simp only [List.length_cons] at hl
  have hi:=ei (h e (List.mem_cons_self ..))
  obtain ⟨y2,y3,y4,r⟩:=rd_for s0 es rest (i+1) (fs++[e]) (some (.val (.int (i:Nat)))) (some (.val (.str e.tx))) (some (.val e.d)) (fun e he=>h e (List.mem_cons_of_mem _ he)) (by simp; omega)
  refine ⟨y2,y3,y4,?_⟩
  rw [List.append_assoc] at r
  have g:gRE (.tup [.int (i:Nat),.str e.tx]) [some s0,some (.own none (.lst (fs.map Ev.d))),x2,x3,x4]=some [some s0,some (.own none (.lst (fs.map Ev.d))),some (.val (.int (i:Nat))),some (.val (.str e.tx)),x4]:=rfl
  have en:enumFromD i ((e::es).map (fun e=>D.str e.tx)++rest)=.tup [.int (i:Nat),.str e.tx]::enumFromD (i+1) (es.map (fun e=>D.str e.tx)++rest):=rfl
  have st:b_read_events_L1 [some s0,some (.own none (.lst (fs.map Ev.d))),some (.val (.int (i:Nat))),some (.val (.str e.tx)),x4]=.nx [some s0,some (.own none (.lst ((fs++[e]).map Ev.d))),some (.val (.int (i:Nat))),some (.val (.str e.tx)),some (.val e.d)]:=by
   have es:=ev_strip e
   have dn:isD e.d .non=some (.val (.bl false)):=by cases e <;> rfl
   have l1:(fs.map Ev.d).length<16777216:=by simp; omega
   have l2:(fs.map Ev.d).length+1≤16777216:=by simp; omega
   rw [List.map_append,List.map_cons,List.map_nil]
   generalize fs.map Ev.d=Fs at *
   generalize e.d=De at *
   simp -implicitDefEqProofs [b_read_events_L1,hi,es,dn,l1,l2]
  rw [en,for_step g st r]
  rw [show i+1+es.length=i+(e::es).length from by simp only [List.length_cons]; omega]
  rfl
theorem tx_ne (ws:List Str)(h:2≤ws.length∨∃ w,ws=[w]∧w≠s!""):Txt.join sSC ws≠s!"":=fun q=>by
 rw [join_eq] at q
 have q:=congrArg tl q
 rw [tl_join,sc_tl,show tl s!""=[] from by decide +kernel] at q
 rcases h with h | ⟨w,rfl,h⟩
 ·match ws,h with
  | a::b::r,_=>simp [joinL] at q
 ·simp only [List.map_cons,List.map_nil,joinL] at q
  exact h (ext_tl (by rw [q]; decide +kernel))
theorem ev_ne {e:Ev}(h:e.Nm):e.tx≠s!"":=fun q=>by
 have sp:=tx_ws h
 rw [q,show Txt.split s!"" sSP=[s!""] from by
  rw [show s!""=Txt.join sSP [s!""] from by decide +kernel]
  exact sp_sp (by simp) (by decide +kernel)] at sp
 cases e <;> simp [Ev.ws] at sp
theorem rd_st (ws:List Str)(ln:(Txt.join sSC ws).length≤16777000)(wn:ws≠[])(free:∀ w∈ws,59∉tl w)(ne:Txt.join sSC ws≠s!"") :
  f_read_events [.v (.str (Txt.join sSC ws))]=finS [.v (.str (Txt.join sSC ws))] (seqS (forD gRE b_read_events_L1 (enumFromD 0 (ws.map .str)) [some (.val (.str (Txt.join sSC ws))),some (.own none (.lst [])),none,none,none]) (mRet (mVar 1))):=by
 have sp:=sp_sc wn free
 have il:=isi_str (Txt.join sSC ws)
 have s1:(sSC.length==0)=false:=by decide +kernel
 have en:∀ xs,enumD xs=enumFromD 0 xs:=fun _=>rfl
 generalize Txt.join sSC ws=X at *
 simp -implicitDefEqProofs [f_read_events,x_mkFn,b_read_events,List.replicate,il,ne,sp,s1,ln,en]
theorem es_ln (es:List Ev)(h:∀ e∈es,e.Nm)(hl:es.length≤1000):(evsT es).length≤16777000:=by
 have l1:sSC.length=2:=by decide +kernel
 have:=jo_len sSC (es.map Ev.tx) 27 fun w hw=>by
  obtain ⟨e,he,rfl⟩:=List.mem_map.mp hw
  exact tx_ln (h e he)
 rw [l1,List.length_map] at this
 unfold evsT
 omega
theorem rd_ok (es:List Ev)(hn:es≠[])(h:∀ e∈es,e.Nm)(hl:es.length≤1000):f_read_events [.v (.str (evsT es))]=.ret (.new (.lst (es.map Ev.d))) []:=by
 have st:=rd_st (es.map Ev.tx) (es_ln es h hl) (by simpa using hn) (fun w hw=>by
  obtain ⟨e,he,rfl⟩:=List.mem_map.mp hw
  exact tx_sc (h e he)) (tx_ne _ (by
   match es,hn with
   | [e],_=>exact .inr ⟨e.tx,rfl,ev_ne (h e (List.mem_cons_self ..))⟩
   | a::b::r,_=>exact .inl (by simp)))
 obtain ⟨y2,y3,y4,r⟩:=rd_for (.val (.str (Txt.join sSC (es.map Ev.tx)))) es [] 0 [] none none none h (by simpa using hl)
 rw [List.append_nil,List.nil_append,List.map_nil] at r
 have e2:∀ ρ:Rho,forD gRE b_read_events_L1 (enumFromD (0+es.length) []) ρ=.nx ρ:=fun _=>rfl
 rw [e2] at r
 rw [List.map_map] at st
 unfold evsT
 rw [st]
 rw [show (D.str∘Ev.tx)=(fun e:Ev=>D.str e.tx) from rfl,r]
 generalize es.map Ev.d=Es at *
 simp -implicitDefEqProofs
theorem rf_exc (x:D)(i:D)(hx:PyD.strip x=x)(h:f_read_events [.v x]=.exc ⟨.own C_BadText,[(s!"index",i)]⟩ []):f__law_refused [.v x]=.ret (.new (.lst [.str s!"text",i])) []:=by
 have xb:xt_BadText (.own C_BadText)=some true:=rfl
 simp -implicitDefEqProofs [f__law_refused,x_mkFn,b__law_refused,List.replicate,h,hx,xb]
theorem rd_bad (es:List Ev)(s:String)(rest:List Str)(ho:Odd s)(h:∀ e∈es,e.Nm)(hr:∀ w∈rest,w.length≤27∧59∉tl w)(rn:rest≠[])(hl:es.length+rest.length≤100) :
  f_read_events [.v (.str (Txt.join sSC (es.map Ev.tx++Str.ofString s::rest)))]=.exc ⟨.own C_BadText,[(s!"index",.int (es.length:Nat))]⟩ []:=by
 obtain ⟨o1,o2,o3⟩:=ho
 have al:∀ w∈es.map Ev.tx++Str.ofString s::rest,w.length≤27∧59∉tl w:=fun w hw=>by
  rcases List.mem_append.mp hw with hw | hw
  ·obtain ⟨e,he,rfl⟩:=List.mem_map.mp hw
   exact ⟨tx_ln (h e he),tx_sc (h e he)⟩
  ·rcases List.mem_cons.mp hw with rfl | hw
   ·exact ⟨o2,o3⟩
   ·exact hr w hw
 have l1:sSC.length=2:=by decide +kernel
 have r0:=List.length_pos_iff.mpr rn
 have lw:(es.map Ev.tx++Str.ofString s::rest).length=es.length+(rest.length+1):=by simp
 have ln:=jo_len sSC (es.map Ev.tx++Str.ofString s::rest) 27 fun w hw=>(al w hw).1
 rw [l1,lw] at ln
 have st:=rd_st (es.map Ev.tx++Str.ofString s::rest) (by omega) (by simp) (fun w hw=>(al w hw).2) (tx_ne _ (.inl (by rw [lw]; omega)))
 obtain ⟨y2,y3,y4,r⟩:=rd_for (.val (.str (Txt.join sSC (es.map Ev.tx++Str.ofString s::rest)))) es (.str (Str.ofString s)::rest.map .str) 0 [] none none none h (by simp; omega)
 rw [List.nil_append,List.map_nil] at r
 rw [List.map_append,List.map_map,List.map_cons,show (D.str∘Ev.tx)=(fun e:Ev=>D.str e.tx) from rfl] at st
 have en2:enumFromD (0+es.length) (.str (Str.ofString s)::rest.map .str)=.tup [.int (es.length:Nat),.str (Str.ofString s)]::enumFromD (es.length+1) (rest.map .str):=by rw [Nat.zero_add]; rfl
 rw [en2,x_forC] at r
 rw [st,r]
 generalize Txt.join sSC (es.map Ev.tx++Str.ofString s::rest)=X at *
 generalize Str.ofString s=S at *
 generalize es.map Ev.d=Es at *
 generalize (es.length:Nat)=k at *
 have gg:gRE (.tup [.int (k:Nat),.str S]) [some (.val (.str X)),some (.own none (.lst Es)),y2,y3,y4]=some [some (.val (.str X)),some (.own none (.lst Es)),some (.val (.int (k:Nat))),some (.val (.str S)),y4]:=rfl
 have sx:∃ z,b_read_events_L1 [some (.val (.str X)),some (.own none (.lst Es)),some (.val (.int (k:Nat))),some (.val (.str S)),y4]=.exc ⟨.own C_BadText,[(s!"index",.int (k:Nat))]⟩ z:=by
  have z1:isN .non=true:=rfl
  simp -implicitDefEqProofs [b_read_events_L1,o1,z1]
 obtain ⟨z,sx⟩:=sx
 rw [gg]
 simp only [x_optS,sx,x_loopSx]
 simp -implicitDefEqProofs
theorem is_nm {t:Twn}(h:t.Ok){e:Ev}(he:e.Is t.ns):e.Nm:=by
 have nm:∀ a,a∈t.ns→isNm a=true:=fun a ha=>h.nm a ha
 cases e with
 | cut a=>exact nm a he
 | line a=>exact nm a he
 | again a=>exact nm a he
 | pay a u=>exact ⟨nm a he.1,by have:=he.2; omega⟩
 | top u=>have he:1≤u∧u≤2:=he; show u=1∨u=2; omega
 | lose=>trivial
theorem nm_okd {e:Ev}(h:e.Nm)(n:Nat):okd (n+1) e.d=true:=by
 cases e with
 | cut a=>simp [Ev.d,nm_so h]
 | line a=>simp [Ev.d,nm_so h]
 | again a=>simp [Ev.d,nm_so h]
 | pay a u=>simp [Ev.d,nm_so h.1]
 | top u=>simp [Ev.d]
 | lose=>simp [Ev.d]
theorem esn_okd (es:List Ev)(h:∀ e∈es,e.Nm):okd 60 (.lst (es.map Ev.d))=true:=by
 rw [x_okL,okds_iff]
 intro d hd
 obtain ⟨e,h1,rfl⟩:=List.mem_map.mp hd
 exact nm_okd (h e h1) 58
section
variable {t:Twn}{lp:List (Str×Str)}
theorem due_ne (h:t.Ok)(b:Bk):dueE t b≠[]:=by
 obtain ⟨a,ha⟩:∃ a,a∈t.ns:=by
  cases e:t.ns with
  | nil=>unfold Twn.ns at e; exact absurd (List.map_eq_nil_iff.mp e) h.ne
  | cons n r=>exact ⟨n,List.mem_cons_self ..⟩
 have hm:Ev.pay a 1∈dueE t b:=List.mem_filter.mpr ⟨evsE_all (e:=.pay a 1) ⟨ha,by omega,by omega⟩,rfl⟩
 intro e
 rw [e] at hm
 cases hm
theorem ro_step (h:t.Ok)(hg:t.Gr)(pm:t.ls.Perm lp)(b:Bk)(ok:b.Ok t.ns)(q:Pl)(fs:List Ev)(hl:fs.length≤100)(x2 x3 x6:Option PyD.Slot) :
  ∃ q' e,e.Is t.ns∧(!e.ag&&b.can e)=true∧b__law_run_of_L1 [some (.own (some 0) (poolD q)),some (.val (t.p lp)),x2,x3,some (.val (t.st b)),some (.own none (.lst (fs.map Ev.d))),x6] =
   .nx [some (.own (some 0) (poolD q')),some (.val (t.p lp)),x2,x3,some (.val (t.st (t.did b e).1)),some (.own none (.lst ((fs++[e]).map Ev.d))),some (.val e.d)]:=by
 have ch:f__law_choices [.v (t.p lp),.v (t.st b)]=.ret (.new (.lst ((dueE t b).map Ev.d))) []:=l_choices (lp:=lp) h b
 have nn:=List.length_pos_iff.mpr (due_ne h b)
 have dl:=due_ln h b
 obtain ⟨x,q',hx,pk⟩:=pickE q ((dueE t b).map Ev.d) (by simpa using nn) (by simp; omega)
 obtain ⟨e,he,rfl⟩:=List.mem_map.mp hx
 obtain ⟨hi,hc⟩:=due_is b e he
 have la:=l_after h hg pm b ok e hi hc
 refine ⟨q',e,hi,hc,?_⟩
 have ps:=p_strip t lp
 have ss:=q_strip (t:=t) b
 have s2:=q_strip (t:=t) (t.did b e).1
 have es:=ev_strip e
 have l1:(fs.map Ev.d).length<16777216:=by simp; omega
 have l2:(fs.map Ev.d).length+1≤16777216:=by simp; omega
 have a20:∀ x y:D,atI [x,y] 0=some x:=fun _ _=>rfl
 rw [List.map_append,List.map_cons,List.map_nil]
 generalize fs.map Ev.d=Fs at *
 generalize (dueE t b).map Ev.d=Du at *
 generalize e.d=De at *
 generalize t.p lp=P at *
 generalize t.st (t.did b e).1=S2 at *
 generalize t.st b=S at *
 simp -implicitDefEqProofs [b__law_run_of_L1,ch,pk,la,ps,ss,s2,es,l1,l2,a20]
theorem ro_for (h:t.Ok)(hg:t.Gr)(pm:t.ls.Perm lp)(x2:Option PyD.Slot):∀ (ds:List D) (b:Bk) (q:Pl) (fs:List Ev) (x3 x6:Option PyD.Slot),b.Ok t.ns→(∀ e∈fs,e.Nm)→fs.length+ds.length≤100 →
  ∃ (b':Bk) (q':Pl) (gs:List Ev) (y3 y6:Option PyD.Slot),(∀ e∈gs,e.Nm)∧gs.length=fs.length+ds.length∧forD (gN 3) b__law_run_of_L1 ds [some (.own (some 0) (poolD q)),some (.val (t.p lp)),x2,x3,some (.val (t.st b)),some (.own none (.lst (fs.map Ev.d))),x6] =
   .nx [some (.own (some 0) (poolD q')),some (.val (t.p lp)),x2,y3,some (.val (t.st b')),some (.own none (.lst (gs.map Ev.d))),y6]
 | [],b,q,fs,x3,x6,_,hn,_=>⟨b,q,fs,x3,x6,hn,rfl,rfl⟩
 | d::ds,b,q,fs,x3,x6,ok,hn,hl=>by
  simp only [List.length_cons] at hl
  obtain ⟨q1,e,hi,hc,st⟩:=ro_step (lp:=lp) h hg pm b ok q fs (by omega) x2 (some (.val d)) x6
  have hc2:b.can e=true:=by cases hb:b.can e <;> simp [hb] at hc ⊢
  obtain ⟨b',q',gs,y3,y6,g1,g2,r⟩:=ro_for h hg pm x2 ds (t.did b e).1 q1 (fs++[e]) (some (.val d)) (some (.val e.d)) (did_ok2 h hg b ok e hi hc2) (fun f hf=>by
   rcases List.mem_append.mp hf with hf | hf
   ·exact hn f hf
   ·rw [List.mem_singleton] at hf; subst hf; exact is_nm h hi) (by simp; omega)
  refine ⟨b',q',gs,y3,y6,g1,by rw [g2]; simp; omega,?_⟩
  have g:gN 3 d [some (.own (some 0) (poolD q)),some (.val (t.p lp)),x2,x3,some (.val (t.st b)),some (.own none (.lst (fs.map Ev.d))),x6]=some [some (.own (some 0) (poolD q)),some (.val (t.p lp)),x2,some (.val d),some (.val (t.st b)),some (.own none (.lst (fs.map Ev.d))),x6]:=rfl
  exact for_step g st r
theorem run_ok (h:t.Ok)(hg:t.Gr)(pm:t.ls.Perm lp)(q:Pl)(n:Int)(n0:0≤n)(n1:n≤50):∃ (q':Pl) (es:List Ev),(∀ e∈es,e.Nm)∧es.length=n.toNat∧f__law_run_of [.o (poolD q),.v (t.p lp),.v (.int n)]=.ret (.new (.lst (es.map Ev.d))) [poolD q']:=by
 have fi:=l_first (lp:=lp) h
 obtain ⟨b',q',gs,y3,y6,g1,g2,r⟩:=ro_for h hg pm (some (.val (.int n))) (rangeD 0 n.toNat) t.b0 q [] none none (b0_ok h) (by simp) (by simp [rangeD]; omega)
 refine ⟨q',gs,g1,by rw [g2]; simp [rangeD],?_⟩
 have ps:=p_strip t lp
 have ss:=q_strip (t:=t) t.b0
 have r1:(-4611686018427387904:Int)≤n:=by omega
 have r2:n<4611686018427387904:=by omega
 rw [List.map_nil] at r
 generalize gs.map Ev.d=Gs at *
 generalize t.p lp=P at *
 generalize t.st t.b0=S0 at *
 generalize t.st b'=S1 at *
 simp -implicitDefEqProofs [f__law_run_of,x_mkFn,b__law_run_of,List.replicate,fi,r,ps,ss,r1,r2]
end
theorem strips_id:∀ xs:List D,(∀ d∈xs,PyD.strip d=d)→PyD.strips xs=xs
 | [],_=>rfl
 | x::xs,h=>by
  show PyD.strip x::PyD.strips xs=_
  rw [h x (List.mem_cons_self ..),strips_id xs fun d hd=>h d (List.mem_cons_of_mem _ hd)]
theorem loopG2 (b:MS)(N:Nat)(ns:List Int)(turn:∀ (k:Int) (x1:Option PyD.Slot) (t:Rho),0≤k→k≤100→(x1::some (.val (.int k))::t).length=N→∃ t',b (some (.val (.scr ns))::x1::some (.val (.int k))::t)=.nx (some (.val (.scr ns))::t')∧t'.length=N):∀ (ds:List D),(∀ d∈ds,∃ k:Int,d=.int k∧0≤k∧k≤100)→∀ t:Rho,t.length=N→2≤N→∃ t',t'.length=N∧forD (gN 2) b ds (some (.val (.scr ns))::t)=.nx (some (.val (.scr ns))::t')
 | [],_,t,ht,_=>⟨t,ht,rfl⟩
 | d::ds,h,t,ht,h0=>by
  obtain ⟨k,rfl,h1,h2⟩:=h _ (List.mem_cons_self ..)
  match t,ht with
  | x1::s::t,ht =>
   obtain ⟨t1,e1,l1⟩:=turn k x1 t h1 h2 (by simpa using ht)
   obtain ⟨t2,l2,e2⟩:=loopG2 b N ns turn ds (fun d hd=>h d (List.mem_cons_of_mem _ hd)) t1 l1 h0
   refine ⟨t2,l2,?_⟩
   have g:gN 2 (.int k) (some (.val (.scr ns))::x1::s::t)=some (some (.val (.scr ns))::x1::some (.val (.int k))::t):=rfl
   exact for_step g e1 e2
  | [_],ht=>simp at ht; omega
  | [],ht=>simp at ht; omega
section
variable (es:List Ev)(h:∀ e∈es,e.Nm)(hn:es≠[])(hl:es.length≤50)
include h hn hl
theorem txs_lc (x0 x1 x2 x3 x4 x6 x7 x8 x9 x10 x11:Option PyD.Slot) :
  lcD [12] (gN 12) mYes (mCall 1 [false] f__law_event_text (mCons (mVar 12) mNil)) (es.map Ev.d) [] [x0,x1,x2,x3,x4,some (.val (.lst (es.map Ev.d))),x6,x7,x8,x9,x10,x11,none] =
   .ok ((es.map Ev.tx).map .str) [x0,x1,x2,x3,x4,some (.val (.lst (es.map Ev.d))),x6,x7,x8,x9,x10,x11,none]:=by
 have lc:=lc_fm (vs:=[12]) (f:=gN 12) (t:=mYes) (me:=mCall 1 [false] f__law_event_text (mCons (mVar 12) mNil)) (ρ:=[x0,x1,x2,x3,x4,some (.val (.lst (es.map Ev.d))),x6,x7,x8,x9,x10,x11,none]) Ev.d (fun e=>.str e.tx) (fun _=>true) es [] (fun e he=>by
  have te:=l_text (h e he)
  have ss:=ev_strip e
  refine ⟨[x0,x1,x2,x3,x4,some (.val (.lst (es.map Ev.d))),x6,x7,x8,x9,x10,x11,some (.val e.d)],by simp,by simp,by simp,fun _=>⟨.val (.str e.tx),?_,rfl⟩⟩
  generalize e.d=De at *
  simp -implicitDefEqProofs [te,ss]) (by simp; omega)
 rw [List.nil_append,List.filter_eq_self.mpr (fun _ _=>rfl)] at lc
 rw [lc,List.map_map]; rfl
theorem es_str:PyD.strips (es.map Ev.d)=es.map Ev.d:=strips_id _ fun d hd=>by
 obtain ⟨e,_,rfl⟩:=List.mem_map.mp hd
 exact ev_strip e
theorem L2_ok (S6:PyD.Slot)(h6:S6=.own none (.lst ((es.map Ev.tx).map .str))∨S6=.val (.lst ((es.map Ev.tx).map .str)))(x0 x1 x2 x3 x4 x7 x8 x9 x10 x11:Option PyD.Slot) :
  ∃ y10,b_law_L2 [x0,x1,x2,x3,x4,some (.val (.lst (es.map Ev.d))),some S6,x7,x8,x9,x10,x11,none] =
   .nx [x0,x1,x2,x3,x4,some (.val (.lst (es.map Ev.d))),some S6,x7,x8,x9,y10,x11,none]:=by
 have sm:=strs_map (es.map Ev.tx)
 have le:=txs_le es h (by omega)
 have rd:=rd_ok es hn h (by omega)
 have w1:=wr_ok es h (by omega)
 have w2:=wr_okT es h (by omega)
 have od:=neD_t (esn_okd es h)
 have ss:=es_str es h hn hl
 have so:PyData.strOk (evsT es)=true:=by
  refine strOk_of fun c hc=>?_
  have hc:c∈tl (evsT es):=hc
  unfold evsT at hc
  rw [join_eq,tl_join,sc_tl] at hc
  rcases jl_mem hc with hc | ⟨w,w1,w2⟩
  ·simp at hc; omega
  ·obtain ⟨z,hz,rfl⟩:=List.mem_map.mp w1
   obtain ⟨e,he,rfl⟩:=List.mem_map.mp hz
   unfold Ev.tx at w2
   rw [join_eq,tl_join,sp_tl] at w2
   rcases jl_mem w2 with w2 | ⟨w,w1,w2⟩
   ·simp at w2; omega
   ·obtain ⟨z,hz,rfl⟩:=List.mem_map.mp w1
    have:=(ws_sign (h e he) z hz).2 c w2
    omega
 have l1:(es.map Ev.d).length<16777216:=by simp; omega
 have l2:(es.map Ev.d).length+1≤16777216:=by simp; omega
 have ev:Txt.join sSC (es.map Ev.tx)=evsT es:=rfl
 generalize es.map Ev.d=Es at *
 generalize evsT es=Te at *
 generalize es.map Ev.tx=Ws at *
 rcases h6 with rfl | rfl <;> exact ⟨some (.own none (.lst (Es++[.non]))),by simp -implicitDefEqProofs [b_law_L2,sm,le,ev,rd,w1,w2,od,ss,so,l1,l2]⟩
theorem L3_ok (S6:PyD.Slot)(h6:S6=.own none (.lst ((es.map Ev.tx).map .str))∨S6=.val (.lst ((es.map Ev.tx).map .str)))(k:Nat)(hk:k<es.length)(s:String)(hs:Odd s)(x0 x2 x3 x4 x5 x7 x9 x10 x11 x12:Option PyD.Slot) :
  ∃ y11,b_law_L3 [x0,some (.val (.str (Str.ofString s))),x2,x3,x4,x5,some S6,x7,some (.val (.int (k:Nat))),x9,x10,x11,x12] =
   .nx [x0,some (.val (.str (Str.ofString s))),x2,x3,x4,x5,some S6,x7,some (.val (.int (k:Nat))),x9,x10,y11,x12]:=by
 have tn:∀ e∈es.take k,e.Nm:=fun e he=>h e (List.mem_of_mem_take he)
 have r0:∀ w∈(es.drop (k+1)).map Ev.tx++[s!""],w.length≤27∧59∉tl w:=fun w hw=>by
  rcases List.mem_append.mp hw with hw | hw
  ·obtain ⟨e,he,rfl⟩:=List.mem_map.mp hw
   have:=h e (List.mem_of_mem_drop he)
   exact ⟨tx_ln this,tx_sc this⟩
  ·rw [List.mem_singleton] at hw
   subst hw
   exact ⟨by decide +kernel,by decide +kernel⟩
 have lt:(es.take k).length=k:=by simp; omega
 have rb:=rd_bad (es.take k) s ((es.drop (k+1)).map Ev.tx++[s!""]) hs tn r0 (by simp) (by simp; omega)
 rw [lt] at rb
 have rf:=rf_exc _ _ rfl rb
 have e1:(es.take k).map Ev.tx++Str.ofString s::((es.drop (k+1)).map Ev.tx++[s!""])=(es.map Ev.tx).take k++[Str.ofString s]++(es.map Ev.tx).drop (k+1)++[s!""]:=by
  rw [List.map_take,List.map_drop]; simp
 have al:∀ w∈(es.map Ev.tx).take k++[Str.ofString s]++(es.map Ev.tx).drop (k+1)++[s!""],w.length≤27:=fun w hw=>by
  rw [← e1] at hw
  rcases List.mem_append.mp hw with hw | hw
  ·obtain ⟨e,he,rfl⟩:=List.mem_map.mp hw
   exact tx_ln (tn e he)
  ·rcases List.mem_cons.mp hw with rfl | hw
   ·exact hs.2.1
   ·exact (r0 w hw).1
 rw [e1] at rf
 have sm:=strs_map ((es.map Ev.tx).take k++[Str.ofString s]++(es.map Ev.tx).drop (k+1)++[s!""])
 have sl:=sum_le _ 27 al
 have l1:sSC.length=2:=by decide +kernel
 have ll:((es.map Ev.tx).take k++[Str.ofString s]++(es.map Ev.tx).drop (k+1)++[s!""]).length≤102:=by simp; omega
 have le:(((es.map Ev.tx).take k++[Str.ofString s]++(es.map Ev.tx).drop (k+1)++[s!""]).map (·.length)).sum+((es.map Ev.tx).take k++[Str.ofString s]++(es.map Ev.tx).drop (k+1)++[s!""]).length * sSC.length≤16777216:=by rw [l1]; omega
 have c1:=cut_take ((es.map Ev.tx).map D.str) k
 have c2:=cut_drop ((es.map Ev.tx).map D.str) (k+1)
 rw [← List.map_take] at c1
 rw [← List.map_drop] at c2
 have ck:((k:Int)+1)=((k+1:Nat):Int):=by omega
 rw [← ck] at c2
 have lA:((es.map Ev.tx).take k).length≤50:=by simp; omega
 have lB:((es.map Ev.tx).drop (k+1)).length≤50:=by simp; omega
 clear e1 r0 rb al sl tn
 generalize hA:(es.map Ev.tx).take k=A at *
 generalize hB:(es.map Ev.tx).drop (k+1)=B at *
 have so:okd 60 (.lst [.str s!"text",.int (k:Nat)])=true:=by
  have:PyData.strOk s!"text"=true:=by decide +kernel
  simp [this]
 have od:=neD_t so
 generalize es.map Ev.tx=Ws at *
 generalize Str.ofString s=S at *
 generalize hW:A++[S]++B++[s!""]=W at *
 have sm2:strsD (A.map D.str++D.str S::(B.map D.str++[D.str s!""]))=some W:=by
  rw [← sm,← hW]; congr 1; simp
 have m1:(A.map D.str).length≤50:=by simpa using lA
 have m2:(B.map D.str).length≤50:=by simpa using lB
 have q1:(A.map D.str).length+1≤16777216:=by omega
 have q2:(A.map D.str).length+1+(B.map D.str).length≤16777216:=by omega
 have q3:(A.map D.str).length+((B.map D.str).length+1)≤16777216:=by omega
 have q4:(A.map D.str).length+1+(B.map D.str).length+1≤16777216:=by omega
 have q5:(A.map D.str).length+(1+(B.map D.str).length)≤16777216:=by omega
 have q6:(A.map D.str).length+((B.map D.str).length+1+1)≤16777216:=by omega
 have q7:(A.map D.str).length≤16777215:=by omega
 have q8:(A.map D.str).length+((B.map D.str).length+1)≤16777215:=by omega
 generalize A.map D.str=As at *
 generalize B.map D.str=Bs at *
 generalize Ws.map D.str=Wd at *
 rcases h6 with rfl | rfl <;> exact ⟨some (.val (.str (Txt.join sSC W))),by simp -implicitDefEqProofs [b_law_L3,c1,c2,sm2,le,rf,od,q1,q2,q3,q4,q5,q6,q7,q8]⟩
theorem t7_for (S6:PyD.Slot)(h6:S6=.own none (.lst ((es.map Ev.tx).map .str))∨S6=.val (.lst ((es.map Ev.tx).map .str)))(k:Nat)(hk:k<es.length)(x0 x2 x3 x4 x5 x7 x9 x10 x12:Option PyD.Slot):∀ (os:List String) (x1 x11:Option PyD.Slot),(∀ s∈os,Odd s) →
  ∃ y1 y11,forD (gN 1) b_law_L3 (os.map fun s=>.str (Str.ofString s)) [x0,x1,x2,x3,x4,x5,some S6,x7,some (.val (.int (k:Nat))),x9,x10,x11,x12] =
   .nx [x0,y1,x2,x3,x4,x5,some S6,x7,some (.val (.int (k:Nat))),x9,x10,y11,x12]
 | [],x1,x11,_=>⟨x1,x11,rfl⟩
 | s::os,x1,x11,ho=>by
  obtain ⟨y,st⟩:=L3_ok es h hn hl S6 h6 k hk s (ho s (List.mem_cons_self ..)) x0 x2 x3 x4 x5 x7 x9 x10 x11 x12
  obtain ⟨y1,y11,r⟩:=t7_for S6 h6 k hk x0 x2 x3 x4 x5 x7 x9 x10 x12 os (some (.val (.str (Str.ofString s)))) y fun s hs=>ho s (List.mem_cons_of_mem _ hs)
  refine ⟨y1,y11,?_⟩
  have g:gN 1 (.str (Str.ofString s)) [x0,x1,x2,x3,x4,x5,some S6,x7,some (.val (.int (k:Nat))),x9,x10,x11,x12]=some [x0,some (.val (.str (Str.ofString s))),x2,x3,x4,x5,some S6,x7,some (.val (.int (k:Nat))),x9,x10,x11,x12]:=rfl
  exact for_step g st r
theorem t4_ok (q:Pl)(x0 x1 x2 x4 x7 x8 x9 x10 x11:Option PyD.Slot) :
  ∃ l',b_law_t4 [x0,x1,x2,some (.own none (poolD q)),x4,some (.val (.lst (es.map Ev.d))),some (.own none (.lst ((es.map Ev.tx).map .str))),x7,x8,x9,x10,x11,none]=.nx (x0::l')∧l'.length=12:=by
 have e0:=List.length_pos_iff.mpr hn
 obtain ⟨k,q',k0,k1,dr⟩:=drawE q (((es.map Ev.tx).map D.str).length:Nat) (by simp; omega) (by simp; omega)
 obtain ⟨k,rfl⟩:∃ n:Nat,k=(n:Nat):=⟨k.toNat,by omega⟩
 have hk:k<es.length:=by simp at k1; omega
 obtain ⟨y10,s1⟩:=L2_ok es h hn hl _ (.inl rfl) x0 x1 x2 (some (.own none (poolD q))) x4 (some (.val (.int 0))) x8 x9 x10 x11
 obtain ⟨z10,s2⟩:=L2_ok es h hn hl _ (.inl rfl) x0 x1 x2 (some (.own none (poolD q))) x4 (some (.val (.int 1))) x8 x9 y10 x11
 obtain ⟨y1,y11,r⟩:=t7_for es h hn hl _ (.inl rfl) k hk x0 x2 (some (.own none (poolD q'))) x4 (some (.val (.lst (es.map Ev.d)))) (some (.val (.int 1))) (some (.own none (.lst [.str s!"",.str s!"lose ",.str s!" lose",.str s!"Lose",.str s!"lose it",.str s!"cut",.str s!"cut A",.str s!"pay a",.str s!"pay a 12"]))) z10 none ODDS x1 x11 odds_ok
 refine ⟨[y1,x2,some (.own none (poolD q')),x4,some (.val (.lst (es.map Ev.d))),some (.own none (.lst ((es.map Ev.tx).map .str))),some (.val (.int 1)),some (.val (.int (k:Nat))),some (.own none (.lst [.str s!"",.str s!"lose ",.str s!" lose",.str s!"Lose",.str s!"lose it",.str s!"cut",.str s!"cut A",.str s!"pay a",.str s!"pay a 12"])),z10,y11,none],?_,rfl⟩
 have g1:gN 7 (.int 0) [x0,x1,x2,some (.own none (poolD q)),x4,some (.val (.lst (es.map Ev.d))),some (.own none (.lst ((es.map Ev.tx).map .str))),x7,x8,x9,x10,x11,none]=some [x0,x1,x2,some (.own none (poolD q)),x4,some (.val (.lst (es.map Ev.d))),some (.own none (.lst ((es.map Ev.tx).map .str))),some (.val (.int 0)),x8,x9,x10,x11,none]:=rfl
 have g2:gN 7 (.int 1) [x0,x1,x2,some (.own none (poolD q)),x4,some (.val (.lst (es.map Ev.d))),some (.own none (.lst ((es.map Ev.tx).map .str))),some (.val (.int 0)),x8,x9,y10,x11,none]=some [x0,x1,x2,some (.own none (poolD q)),x4,some (.val (.lst (es.map Ev.d))),some (.own none (.lst ((es.map Ev.tx).map .str))),some (.val (.int 1)),x8,x9,y10,x11,none]:=rfl
 have f2:forD (gN 7) b_law_L2 (rangeD 0 2) [x0,x1,x2,some (.own none (poolD q)),x4,some (.val (.lst (es.map Ev.d))),some (.own none (.lst ((es.map Ev.tx).map .str))),x7,x8,x9,x10,x11,none]=.nx [x0,x1,x2,some (.own none (poolD q)),x4,some (.val (.lst (es.map Ev.d))),some (.own none (.lst ((es.map Ev.tx).map .str))),some (.val (.int 1)),x8,x9,z10,x11,none]:=for_step g1 s1 (for_step g2 s2 rfl)
 have od:ODDS.map (fun s=>D.str (Str.ofString s))=[.str s!"",.str s!"lose ",.str s!" lose",.str s!"Lose",.str s!"lose it",.str s!"cut",.str s!"cut A",.str s!"pay a",.str s!"pay a 12",.str s!"pay a x",.str s!"top",.str s!"top -1",.str s!"go a"]:=rfl
 rw [od] at r
 have ll:((es.map Ev.tx).map D.str).length<16777216:=by simp; omega
 generalize (es.map Ev.tx).map D.str=Tx at *
 generalize es.map Ev.d=Es at *
 simp -implicitDefEqProofs [b_law_t4,f2,b_law_t5,dr,b_law_t6,b_law_t7,r]
end
theorem split10 {α:Type}:∀ t:List α,t.length=10→∃ a b c d e f g h i j,t=[a,b,c,d,e,f,g,h,i,j]
 | [a,b,c,d,e,f,g,h,i,j],_=>⟨a,b,c,d,e,f,g,h,i,j,rfl⟩
theorem turn (ns:List Int)(k:Int)(x1:Option PyD.Slot)(r:Rho)(hk:0≤k)(hk2:k≤100)(hl:(x1::some (PyD.Slot.val (.int k))::r).length=12):∃ t',b_law_L4 (some (.val (.scr ns))::x1::some (.val (.int k))::r)=.nx (some (.val (.scr ns))::t')∧t'.length=12:=by
 obtain ⟨x3,x4,x5,x6,x7,x8,x9,x10,x11,x12,rfl⟩:=split10 r (by simpa using hl)
 obtain ⟨p,hp⟩:=pool ns k hk hk2
 obtain ⟨t,lp,h,q,hm⟩:=plan p 3 3 (by decide) (by decide) (by decide) (by decide)
 obtain ⟨a,q2,a0,a1,dr⟩:=drawE q 10 (by decide) (by decide)
 obtain ⟨q3,es,en,el,ro⟩:=run_ok (lp:=lp) h.ok h.gr h.pm q2 (1+a) (by omega) (by omega)
 have ne:es≠[]:=fun e=>by rw [e] at el; simp at el; omega
 have lc:=txs_lc es en ne (by omega) (some (.val (.scr ns))) x1 (some (.val (.int k))) (some (.own none (poolD q3))) (some (.val (t.p lp))) x6 x7 x8 x9 x10 x11
 obtain ⟨l',e4,hl'⟩:=t4_ok es en ne (by omega) q3 (some (.val (.scr ns))) x1 (some (.val (.int k))) (some (.val (t.p lp))) x7 x8 x9 x10 x11
 refine ⟨l',?_,hl'⟩
 rw [← e4]
 have ps:=p_strip t lp
 generalize (es.map Ev.tx).map D.str=Tx at *
 generalize es.map Ev.d=Es at *
 generalize t.p lp=P at *
 simp -implicitDefEqProofs [b_law_L4,b_law_t1,b_law_t2,b_law_t3,hp,hm,dr,ro,lc,ps]
theorem l1_ok (x0 x2 x3 x4 x5 x6 x7 x8 x9 x10 x11 x12:Option PyD.Slot)(x:D)(hx:x=.non∨x=.int 5∨x=.lst [.str s!"lose"]∨x=.bl true) :
  b_law_L1 [x0,some (.val x),x2,x3,x4,x5,x6,x7,x8,x9,x10,x11,x12]=.nx [x0,some (.val x),x2,x3,x4,x5,x6,x7,x8,x9,x10,x11,x12]:=by
 have so:okd 60 (.lst [.str s!"text",.non])=true:=by
  have:PyData.strOk s!"text"=true:=by decide +kernel
  simp [this]
 have od:=neD_t so
 have rf:f__law_refused [.v x]=.ret (.new (.lst [.str s!"text",.non])) []:=by
  refine rf_exc x .non (by rcases hx with rfl | rfl | rfl | rfl <;> rfl) ?_
  rcases hx with rfl | rfl | rfl | rfl <;> rfl
 have xs:PyD.strip x=x:=by rcases hx with rfl | rfl | rfl | rfl <;> rfl
 simp -implicitDefEqProofs [b_law_L1,rf,xs,od]
theorem law_ok (ns:List Int)(_:ns.length≤63):f_law [.v (.scr ns)]=.ret (.val (.bl true)) []:=by
 obtain ⟨m,hm⟩:∃ m:Int,(if (if 6<(ns.length:Int) then 6 else (ns.length:Int))>1 then (if 6<(ns.length:Int) then 6 else (ns.length:Int)) else 1)=m:=⟨_,rfl⟩
 have hb:1≤m∧m≤6:=by rw [← hm]; split <;> split <;> omega
 have r1:-4611686018427387904≤m:=by omega
 have r2:m<4611686018427387904:=by omega
 have w0:f_write_events [.v (.lst [])]=.ret (.val (.str s!"")) []:=by rfl
 have r0:f_read_events [.v (.str s!"")]=.ret (.new (.lst [])) []:=by rfl
 have ra:=rd_ok [Ev.again s!"a"] (by simp) (fun e he=>by
  rw [List.mem_singleton] at he; subst he
  show isNm s!"a"=true
  decide +kernel) (by simp)
 rw [show evsT [Ev.again s!"a"]=s!"again a" from by decide +kernel] at ra
 have od:=neD_t (esn_okd [Ev.again s!"a"] (fun e he=>by
  rw [List.mem_singleton] at he; subst he
  show isNm s!"a"=true
  decide +kernel))
 simp only [List.map_cons,List.map_nil,Ev.d] at ra od
 have f1:∀ x1:Option PyD.Slot,forD (gN 1) b_law_L1 [.non,.int 5,.lst [.str s!"lose"],.bl true] [some (.val (.scr ns)),x1,none,none,none,none,none,none,none,none,none,none,none]=.nx [some (.val (.scr ns)),some (.val (.bl true)),none,none,none,none,none,none,none,none,none,none,none]:=fun x1=>by
  have l1:=fun x hx=>l1_ok (some (.val (.scr ns))) none none none none none none none none none none none x hx
  exact for_step rfl (l1 _ (.inl rfl)) (for_step rfl (l1 _ (.inr (.inl rfl))) (for_step rfl (l1 _ (.inr (.inr (.inl rfl)))) (for_step rfl (l1 _ (.inr (.inr (.inr rfl)))) rfl)))
 obtain ⟨t',l,e⟩:=loopG2 b_law_L4 12 ns (turn ns) (rangeD 0 m.toNat) (fun d hd=>by
  simp only [rangeD,List.mem_map,List.mem_range] at hd
  obtain ⟨i,hi,rfl⟩:=hd
  exact ⟨_,rfl,by omega,by omega⟩) [some (.val (.bl true)),none,none,none,none,none,none,none,none,none,none,none] rfl (by decide)
 have hx:(if 1<(if 6<(ns.length:Int) then 6 else (ns.length:Int)) then (if 6<(ns.length:Int) then 6 else (ns.length:Int)) else 1)=m:=hm
 simp -implicitDefEqProofs [f_law,x_mkFn,b_law,List.replicate,hx,r1,r2,w0,r0,ra,od,f1]
 rw [e]
 simp
end Lw
open PySem PySem.W PyProof.Rows
theorem PySem.Challenge.cw_cutofftills_k68_events_written_and_read_holds : PySem.Challenge.rw_cutofftills_k68_events_written_and_read.Holds :=
 Lw.end_ Lw.law_ok
