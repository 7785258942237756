import PyProof.Rows.All
import Wide.All
import OpenK.AllK
import Wide.FinOn
import HandS.ForMost
import HandS.ForExc
import HandS.IsInst
import HandS.Defaults
import HandS.MakeKwOnly
import HandS.MakeKw
import HandS.CallSlots
import HandS.OwnEq
import HandS.Codes
import HandS.Flow
import HandS.Style
import HandS.TupLe
import HandS.TupAny
import HandS.ExcInit
import KE.KeyNested
import HandS.Nested
import HandS.Deep
import HandS.TupMul
import HandS.Ends
import HandS.WordsDict
import HandS.Head0
import HandS.Head1
import HandS.Head2
import HandS.HeadEnd
import HandS.HeadHook1
import HandS.HeadHook2
import HandS.HeadHook3
import HandS.HeadHook4
import KE.KExcInit
import HandS.ExcField
import HandS.ExcIs
import HandS.TryMany
import HandS.TryOnly
import KE.KExcIs
import PyProof.ReprRoads
import HandS.RaiseMore
import HandS.DictComp
import KE.GoesEnum
import HandS.NoneIn
import HandS.Star
import HandS.Conv
import KE.KRevSl
import KE.GoesZip
import KE.GoesMore
import HandS.Zip
import KE.KDictZip
import HandS.SortInts
import HandS.ClsMeth
import HandS.HeadNt
import HandS.HotCalls
import HandS.SortKw
import KE.KTupSum
import KE.KDictDisplayH
import PyProof.Rows.TupDisplay
import PyProof.Rows.TupTab
import HandS.EndTab
import HandS.TupLen
import HandS.HeadWalk
import KE.KDictPairs
import KE.LtData
import HandS.Wide
import HandS.ExcValue
import PyProof.StrLawsIn
import HandS.SetBool
import HandS.TupSets
import KE.KCallOwn
import PySem.Challenge.RW_cutofftills_k49_whole_forms_told
set_option Elab.async false
set_option linter.all false
set_option maxRecDepth 100000
set_option maxHeartbeats 4000000
local macro_rules | `(s!$x) => match x.raw[0].isInterpolatedStrLit? with | some v => `(PySem.Str.ofString $(Lean.Syntax.mkStrLit v)) | none => Lean.Macro.throwUnsupported
section
namespace PyD
open PySem PySem.Spec PyProof.Rows L2
structure Tab where
 n:Nat
 sub:Nat→Nat→Bool
 tys:List String
 subB:Nat→String→Bool
 flds:Nat→List Str
def baseT:List String:=["NoneType", "bool", "int", "str", "list", "tuple", "dict"]
def clsB (K:PySem.W.Frag)(a:Addr):Bool:=PySem.W.plainGet K a Str.empty&&(PySem.W.hasDictIn K a&&(PySem.W.plainOver K a&&decide (PySem.W.findIn K (.ref a) "__setattr__"=some (some (.builtin "object.__setattr__")))))
def tab1 (K:PySem.W.Frag)(cl:Nat→Addr)(T:Tab)(c:Nat):Bool :=
 (baseT.all fun t=>decide (PySem.W.kitOne K (.type t) (.ref (cl c))=some false))&&(((List.range T.n).all fun c'=>decide (PySem.W.kitOne K (.ref (cl c)) (.ref (cl c'))=some (T.sub c c'))) &&
 ((T.tys.all fun t=>decide (PySem.W.kitOne K (.ref (cl c)) (.type t)=some (T.subB c t)))&&(clsB K (cl c)&&(decide (PySem.W.findIn K (.ref (cl c)) "__class__"=some (some (.builtin "object.__class__"))) &&
 (decide (PySem.W.mroIn K (cl c) (.type "object")=some true)&&(((T.flds c).all fun f=>decide (PySem.W.findIn K (.ref (cl c)) f=some none)) &&
 (decide (PySem.W.specialIn K (.builtin "object.__class__") "__get__"=some (some (.builtin "getset_descriptor.__get__")))&&decide (PySem.W.takesIn K (.builtin "object.__class__")=some true))))))))
def tabB (K:PySem.W.Frag)(cl:Nat→Addr)(T:Tab):Bool:=(List.range T.n).all fun c=>tab1 K cl T c
def spB (K:PySem.W.Frag)(a:Addr)(m:Str)(g:Addr):Bool:=decide (PySem.W.findIn K (.ref a) m=some (some (.ref g)))&&(PySem.W.isFn K (.ref g)&&PySem.W.fnIn K g)
def nfB (K:PySem.W.Frag)(cl:Nat→Addr)(n:Nat)(a:Addr):Bool:=(baseT.all fun t=>PySem.W.notFirst K a (.type t))&&((List.range n).all fun c=>PySem.W.notFirst K a (.ref (cl c)))
def neB (K:PySem.W.Frag)(a:Addr):Bool:=decide (PySem.W.findIn K (.ref a) "__ne__"=some (some (.builtin "object.__ne__")))&&decide (PySem.W.mroIn K a (.type "object")=some true)
def xcB (K:PySem.W.Frag)(C:Addr)(tl:List Value)(newId:String):Bool:=(match K.lookup C with
 | some ⟨.type "type",_,.cls cd,sl⟩=>(match cd.mro,sl.toList with
  | .ref C'::bm,[_,_,_,_,some (.builtin n),_]=>C'==C&&(n==newId&&(!cd.hasDel&&(cd.hasDict&&PySem.W.excTail tl bm)))
  | _,_=>false)
 | _=>false)&&(decide (PySem.W.findIn K (.ref C) "__setattr__"=some (some (.builtin "object.__setattr__")))&&(decide (PySem.W.subIn K (.ref C) (.type "BaseException")=some true)&&(decide (PySem.W.typeIn K (.ref C)=some (.type "type"))&&PySem.W.keepIn K (.ref C))))
def xfc (K:PySem.W.Frag)(a:Addr)(id:String):Bool:=match PySem.W.findCls K (.ref a) (.type "type") "__init__" with
 | some (.val (.builtin i))=>i==id
 | _=>false
def xfcT (K:PySem.W.Frag)(a id:String):Bool:=match PySem.W.findCls K (.type a) (.type "type") "__init__" with
 | some (.val (.builtin i))=>i==id
 | _=>false
def frZ (g:Addr→Option Obj)(as:List Addr):PySem.W.Frag:=He.frT g (cStatics::as)
def hookZ (as:List Addr)(fa:List He.Fa)(fn:List He.DefD)(ex:PySem.W.Frag→Bool):PySem.W.Hook where
 α:=He.AlD×Bool
 obs:=fun s=>(He.obsD fa fn (frZ s.heap.get? as),ex (frZ s.heap.get? as))
 val:=fun _=>(He.valD fn,true)
 says:=fun _ h=>∃ K:PySem.W.Frag,K.In h∧He.SaysD fa fn K∧ex K=true
 of:=fun _ _ e=>⟨_,He.frT_in,congrArg Prod.fst e,congrArg Prod.snd e⟩
 keeps:=fun _ _ _ ⟨K,hK,c⟩ k=>⟨K,PySem.W.Frag.In.keeps hK k,c⟩
def obsZ (as:List Addr)(fa:List He.Fa)(fn:List He.DefD)(ex:PySem.W.Frag→Bool)(g:Addr→Option Obj):He.AlD×Bool:=(He.obsD fa fn (frZ g as),ex (frZ g as))
end PyD
end
section
namespace Lw
open PySem PySem.Spec PyProof.Rows L2 PyD
def flds:Nat→List PySem.Str
 | 0=>[s!"size",s!"terms"]
 | _=>[]
def T:Tab:=⟨1,fun a b=>a==b,["int", "bool", "str", "list", "tuple", "dict"],fun _ _=>false,flds⟩
def cl (K:PySem.W.Frag):Nat→Addr
 | 0=>He.ga K s!"Form"
 | 1=>He.ga K s!"TownError"
 | 2=>He.ga K s!"BadPart"
 | 3=>He.ga K s!"BadForm"
 | 4=>He.ga K s!"BadLimits"
 | 5=>He.ga K s!"TooMany"
 | _=>0
def topS (i:Nat):Stmt:=PySem.Challenge.pw_cutofftills_k49_whole_forms_told.main.body.getD i (.Pass ⟨0,0,0,0⟩)
abbrev s_Form___len__:Stmt:=inClass (topS 18) 1
abbrev s__law_pool:Stmt:=topS 31
abbrev s__law_draw:Stmt:=topS 32
abbrev s__law_term:Stmt:=topS 33
abbrev s__law_terms:Stmt:=topS 34
abbrev s_is_integer:Stmt:=topS 7
abbrev s_unit:Stmt:=topS 26
abbrev s_common_divisor:Stmt:=topS 20
abbrev s_shortened:Stmt:=topS 21
abbrev s_less:Stmt:=topS 27
abbrev s_joined_row:Stmt:=topS 19
abbrev s_Form_check:Stmt:=inClass (topS 18) 3
abbrev s_Form___le__:Stmt:=inClass (topS 18) 5
abbrev s_without:Stmt:=topS 22
abbrev s_value_at:Stmt:=topS 23
abbrev s_next_number:Stmt:=topS 24
abbrev s_solution:Stmt:=topS 25
abbrev s_parting_term:Stmt:=topS 28
abbrev s_parting_limits:Stmt:=topS 29
abbrev s_Form___eq__:Stmt:=inClass (topS 18) 4
abbrev s_are_numbers:Stmt:=topS 12
abbrev s_is_term:Stmt:=topS 13
abbrev s_is_needless:Stmt:=topS 15
abbrev s_rank_of:Stmt:=topS 16
abbrev s_in_order:Stmt:=topS 17
abbrev s_Form___init__:Stmt:=inClass (topS 18) 0
abbrev s__law_due:Stmt:=topS 37
abbrev s__law_is_less:Stmt:=topS 38
abbrev s__law_terms_right:Stmt:=topS 39
abbrev s_Form___or__:Stmt:=inClass (topS 18) 7
abbrev s_Form___add__:Stmt:=inClass (topS 18) 6
abbrev s__law_limits:Stmt:=topS 36
abbrev s__law_worth:Stmt:=topS 35
abbrev s_worth_of:Stmt:=topS 14
abbrev s_Form___call__:Stmt:=inClass (topS 18) 2
abbrev s_law:Stmt:=topS 40
abbrev s_BadForm___init__:Stmt:=inClass (topS 3) 0
abbrev s_BadLimits___init__:Stmt:=inClass (topS 4) 0
abbrev s_BadPart___init__:Stmt:=inClass (topS 2) 0
abbrev s_TooMany___init__:Stmt:=inClass (topS 5) 0
def dd_Form___len__:He.DefD:=⟨(s!"Form",some s!"__len__"),s!"__len__",s!"Form.__len__",defArgs s_Form___len__,defBody s_Form___len__,defScope s_Form___len__,[],[]⟩
def dd__law_pool:He.DefD:=⟨(s!"_law_pool",none),s!"_law_pool",s!"_law_pool",defArgs s__law_pool,defBody s__law_pool,defScope s__law_pool,[],[]⟩
def dd__law_draw:He.DefD:=⟨(s!"_law_draw",none),s!"_law_draw",s!"_law_draw",defArgs s__law_draw,defBody s__law_draw,defScope s__law_draw,[],[]⟩
def dd__law_term:He.DefD:=⟨(s!"_law_term",none),s!"_law_term",s!"_law_term",defArgs s__law_term,defBody s__law_term,defScope s__law_term,[],[]⟩
def dd__law_terms:He.DefD:=⟨(s!"_law_terms",none),s!"_law_terms",s!"_law_terms",defArgs s__law_terms,defBody s__law_terms,defScope s__law_terms,[],[]⟩
def dd_is_integer:He.DefD:=⟨(s!"is_integer",none),s!"is_integer",s!"is_integer",defArgs s_is_integer,defBody s_is_integer,defScope s_is_integer,[],[]⟩
def dd_unit:He.DefD:=⟨(s!"unit",none),s!"unit",s!"unit",defArgs s_unit,defBody s_unit,defScope s_unit,[],[]⟩
def dd_common_divisor:He.DefD:=⟨(s!"common_divisor",none),s!"common_divisor",s!"common_divisor",defArgs s_common_divisor,defBody s_common_divisor,defScope s_common_divisor,[],[]⟩
def dd_shortened:He.DefD:=⟨(s!"shortened",none),s!"shortened",s!"shortened",defArgs s_shortened,defBody s_shortened,defScope s_shortened,[],[]⟩
def dd_less:He.DefD:=⟨(s!"less",none),s!"less",s!"less",defArgs s_less,defBody s_less,defScope s_less,[],[]⟩
def dd_joined_row:He.DefD:=⟨(s!"joined_row",none),s!"joined_row",s!"joined_row",defArgs s_joined_row,defBody s_joined_row,defScope s_joined_row,[],[]⟩
def dd_Form_check:He.DefD:=⟨(s!"Form",some s!"check"),s!"check",s!"Form.check",defArgs s_Form_check,defBody s_Form_check,defScope s_Form_check,[],[]⟩
def dd_Form___le__:He.DefD:=⟨(s!"Form",some s!"__le__"),s!"__le__",s!"Form.__le__",defArgs s_Form___le__,defBody s_Form___le__,defScope s_Form___le__,[],[]⟩
def dd_without:He.DefD:=⟨(s!"without",none),s!"without",s!"without",defArgs s_without,defBody s_without,defScope s_without,[],[]⟩
def dd_value_at:He.DefD:=⟨(s!"value_at",none),s!"value_at",s!"value_at",defArgs s_value_at,defBody s_value_at,defScope s_value_at,[],[]⟩
def dd_next_number:He.DefD:=⟨(s!"next_number",none),s!"next_number",s!"next_number",defArgs s_next_number,defBody s_next_number,defScope s_next_number,[],[]⟩
def dd_solution:He.DefD:=⟨(s!"solution",none),s!"solution",s!"solution",defArgs s_solution,defBody s_solution,defScope s_solution,[],[]⟩
def dd_parting_term:He.DefD:=⟨(s!"parting_term",none),s!"parting_term",s!"parting_term",defArgs s_parting_term,defBody s_parting_term,defScope s_parting_term,[],[]⟩
def dd_parting_limits:He.DefD:=⟨(s!"parting_limits",none),s!"parting_limits",s!"parting_limits",defArgs s_parting_limits,defBody s_parting_limits,defScope s_parting_limits,[],[]⟩
def dd_Form___eq__:He.DefD:=⟨(s!"Form",some s!"__eq__"),s!"__eq__",s!"Form.__eq__",defArgs s_Form___eq__,defBody s_Form___eq__,defScope s_Form___eq__,[],[]⟩
def dd_are_numbers:He.DefD:=⟨(s!"are_numbers",none),s!"are_numbers",s!"are_numbers",defArgs s_are_numbers,defBody s_are_numbers,defScope s_are_numbers,[],[]⟩
def dd_is_term:He.DefD:=⟨(s!"is_term",none),s!"is_term",s!"is_term",defArgs s_is_term,defBody s_is_term,defScope s_is_term,[],[]⟩
def dd_is_needless:He.DefD:=⟨(s!"is_needless",none),s!"is_needless",s!"is_needless",defArgs s_is_needless,defBody s_is_needless,defScope s_is_needless,[],[]⟩
def dd_rank_of:He.DefD:=⟨(s!"rank_of",none),s!"rank_of",s!"rank_of",defArgs s_rank_of,defBody s_rank_of,defScope s_rank_of,[],[]⟩
def dd_in_order:He.DefD:=⟨(s!"in_order",none),s!"in_order",s!"in_order",defArgs s_in_order,defBody s_in_order,defScope s_in_order,[],[]⟩
def dd_Form___init__:He.DefD:=⟨(s!"Form",some s!"__init__"),s!"__init__",s!"Form.__init__",defArgs s_Form___init__,defBody s_Form___init__,defScope s_Form___init__,[],[]⟩
def dd__law_due:He.DefD:=⟨(s!"_law_due",none),s!"_law_due",s!"_law_due",defArgs s__law_due,defBody s__law_due,defScope s__law_due,[],[]⟩
def dd__law_is_less:He.DefD:=⟨(s!"_law_is_less",none),s!"_law_is_less",s!"_law_is_less",defArgs s__law_is_less,defBody s__law_is_less,defScope s__law_is_less,[],[]⟩
def dd__law_terms_right:He.DefD:=⟨(s!"_law_terms_right",none),s!"_law_terms_right",s!"_law_terms_right",defArgs s__law_terms_right,defBody s__law_terms_right,defScope s__law_terms_right,[],[]⟩
def dd_Form___or__:He.DefD:=⟨(s!"Form",some s!"__or__"),s!"__or__",s!"Form.__or__",defArgs s_Form___or__,defBody s_Form___or__,defScope s_Form___or__,[],[]⟩
def dd_Form___add__:He.DefD:=⟨(s!"Form",some s!"__add__"),s!"__add__",s!"Form.__add__",defArgs s_Form___add__,defBody s_Form___add__,defScope s_Form___add__,[],[]⟩
def dd__law_limits:He.DefD:=⟨(s!"_law_limits",none),s!"_law_limits",s!"_law_limits",defArgs s__law_limits,defBody s__law_limits,defScope s__law_limits,[],[]⟩
def dd__law_worth:He.DefD:=⟨(s!"_law_worth",none),s!"_law_worth",s!"_law_worth",defArgs s__law_worth,defBody s__law_worth,defScope s__law_worth,[],[]⟩
def dd_worth_of:He.DefD:=⟨(s!"worth_of",none),s!"worth_of",s!"worth_of",defArgs s_worth_of,defBody s_worth_of,defScope s_worth_of,[],[]⟩
def dd_Form___call__:He.DefD:=⟨(s!"Form",some s!"__call__"),s!"__call__",s!"Form.__call__",defArgs s_Form___call__,defBody s_Form___call__,defScope s_Form___call__,[],[]⟩
def dd_law:He.DefD:=⟨(s!"law",none),s!"law",s!"law",defArgs s_law,defBody s_law,defScope s_law,[],[]⟩
def dd_BadForm___init__:He.DefD:=⟨(s!"BadForm",some s!"__init__"),s!"__init__",s!"BadForm.__init__",defArgs s_BadForm___init__,defBody s_BadForm___init__,defScope s_BadForm___init__,[],[]⟩
def dd_BadLimits___init__:He.DefD:=⟨(s!"BadLimits",some s!"__init__"),s!"__init__",s!"BadLimits.__init__",defArgs s_BadLimits___init__,defBody s_BadLimits___init__,defScope s_BadLimits___init__,[],[]⟩
def dd_BadPart___init__:He.DefD:=⟨(s!"BadPart",some s!"__init__"),s!"__init__",s!"BadPart.__init__",defArgs s_BadPart___init__,defBody s_BadPart___init__,defScope s_BadPart___init__,[],[]⟩
def dd_TooMany___init__:He.DefD:=⟨(s!"TooMany",some s!"__init__"),s!"__init__",s!"TooMany.__init__",defArgs s_TooMany___init__,defBody s_TooMany___init__,defScope s_TooMany___init__,[],[]⟩
def dfs:List He.DefD:=[dd_Form___len__,dd__law_pool,dd__law_draw,dd__law_term,dd__law_terms,dd_is_integer,dd_unit,dd_common_divisor,dd_shortened,dd_less,dd_joined_row,dd_Form_check,dd_Form___le__,dd_without,dd_value_at,dd_next_number,dd_solution,dd_parting_term,dd_parting_limits,dd_Form___eq__,dd_are_numbers,dd_is_term,dd_is_needless,dd_rank_of,dd_in_order,dd_Form___init__,dd__law_due,dd__law_is_less,dd__law_terms_right,dd_Form___or__,dd_Form___add__,dd__law_limits,dd__law_worth,dd_worth_of,dd_Form___call__,dd_law,dd_BadForm___init__,dd_BadLimits___init__,dd_BadPart___init__,dd_TooMany___init__]
def fas:List He.Fa:=[.glo s!"_law_pool",.glo s!"_law_draw",.glo s!"_law_term",.glo s!"_law_terms",.glo s!"is_integer",.glo s!"unit",.glo s!"common_divisor",.glo s!"shortened",.glo s!"less",.glo s!"joined_row",.glo s!"without",.glo s!"value_at",.glo s!"next_number",.glo s!"solution",.glo s!"parting_term",.glo s!"parting_limits",.glo s!"are_numbers",.glo s!"is_term",.glo s!"is_needless",.glo s!"rank_of",.glo s!"in_order",.glo s!"_law_due",.glo s!"_law_is_less",.glo s!"_law_terms_right",.glo s!"_law_limits",.glo s!"_law_worth",.glo s!"worth_of",.glo s!"law",.glo s!"BadForm",.glo s!"BadLimits",.glo s!"BadPart",.glo s!"Form",.glo s!"TooMany",.free s!"abs",.free s!"all",.free s!"any",.free s!"bool",.free s!"enumerate",.free s!"int",.free s!"isinstance",.free s!"len",.free s!"list",.free s!"max",.free s!"min",.free s!"range",.free s!"sorted",.free s!"sum",.free s!"tuple",.free s!"zip",.int s!"MOST_PLACES" (4),.int s!"MOST_ROWS" (5000),.int s!"MOST_TERMS" (32),.meth s!"Form" s!"__len__",.meth s!"Form" s!"check",.meth s!"Form" s!"__le__",.meth s!"Form" s!"__eq__",.mkr s!"Form",.meth s!"Form" s!"__or__",.meth s!"Form" s!"__add__",.meth s!"Form" s!"__call__",.glo s!"TownError",.free s!"OverflowError"]
def ex0 (K:PySem.W.Frag):Bool:=tabB K (cl K) T
def ex1 (K:PySem.W.Frag):Bool:=xcB K (He.ga K s!"BadForm") [.type "ValueError",.type "Exception",.type "BaseException",.type "object"] "ValueError.__new__"
def ex2 (K:PySem.W.Frag):Bool:=(decide (PySem.W.findIn K (.ref (He.ga K s!"BadForm")) "__init__"=some (some (.ref (He.fAd K (s!"BadForm",some s!"__init__")))))&&decide (PySem.W.typeIn K (.ref (He.fAd K (s!"BadForm",some s!"__init__")))=some (.type "function")))
def ex3 (K:PySem.W.Frag):Bool:=(decide (PySem.W.specialIn K (.ref (He.ga K s!"TownError")) "__getattribute__"=some (some (.builtin "type.__getattribute__")))&&(PySem.W.readsIn K (He.ga K s!"TownError") (.type "type")&&xfc K (He.ga K s!"TownError") "ValueError.__init__"))
def ex4 (K:PySem.W.Frag):Bool:=xcB K (He.ga K s!"BadLimits") [.type "ValueError",.type "Exception",.type "BaseException",.type "object"] "ValueError.__new__"
def ex5 (K:PySem.W.Frag):Bool:=(decide (PySem.W.findIn K (.ref (He.ga K s!"BadLimits")) "__init__"=some (some (.ref (He.fAd K (s!"BadLimits",some s!"__init__")))))&&decide (PySem.W.typeIn K (.ref (He.fAd K (s!"BadLimits",some s!"__init__")))=some (.type "function")))
def ex6 (K:PySem.W.Frag):Bool:=(decide (PySem.W.specialIn K (.ref (He.ga K s!"TownError")) "__getattribute__"=some (some (.builtin "type.__getattribute__")))&&(PySem.W.readsIn K (He.ga K s!"TownError") (.type "type")&&xfc K (He.ga K s!"TownError") "ValueError.__init__"))
def ex7 (K:PySem.W.Frag):Bool:=xcB K (He.ga K s!"BadPart") [.type "ValueError",.type "Exception",.type "BaseException",.type "object"] "ValueError.__new__"
def ex8 (K:PySem.W.Frag):Bool:=(decide (PySem.W.findIn K (.ref (He.ga K s!"BadPart")) "__init__"=some (some (.ref (He.fAd K (s!"BadPart",some s!"__init__")))))&&decide (PySem.W.typeIn K (.ref (He.fAd K (s!"BadPart",some s!"__init__")))=some (.type "function")))
def ex9 (K:PySem.W.Frag):Bool:=(decide (PySem.W.specialIn K (.ref (He.ga K s!"TownError")) "__getattribute__"=some (some (.builtin "type.__getattribute__")))&&(PySem.W.readsIn K (He.ga K s!"TownError") (.type "type")&&xfc K (He.ga K s!"TownError") "ValueError.__init__"))
def ex10 (K:PySem.W.Frag):Bool:=xcB K (He.ga K s!"TooMany") [.type "OverflowError",.type "ArithmeticError",.type "Exception",.type "BaseException",.type "object"] "OverflowError.__new__"
def ex11 (K:PySem.W.Frag):Bool:=(decide (PySem.W.findIn K (.ref (He.ga K s!"TooMany")) "__init__"=some (some (.ref (He.fAd K (s!"TooMany",some s!"__init__")))))&&decide (PySem.W.typeIn K (.ref (He.fAd K (s!"TooMany",some s!"__init__")))=some (.type "function")))
def ex12 (K:PySem.W.Frag):Bool:=xfcT K "OverflowError" "OverflowError.__init__"
def ex13 (K:PySem.W.Frag):Bool:=decide (PySem.W.findIn K (.ref (He.ga K s!"BadForm")) s!"index"=some none)
def ex14 (K:PySem.W.Frag):Bool:=decide (PySem.W.findIn K (.ref (He.ga K s!"BadLimits")) s!"limits"=some none)
def ex15 (K:PySem.W.Frag):Bool:=decide (PySem.W.findIn K (.ref (He.ga K s!"BadPart")) s!"part"=some none)
def ex16 (K:PySem.W.Frag):Bool:=decide (PySem.W.findIn K (.ref (He.ga K s!"TooMany")) s!"limit"=some none)
def ex17 (K:PySem.W.Frag):Bool:=spB K (He.ga K s!"Form") s!"__len__" (He.fAd K (s!"Form",some s!"__len__"))
def ex18 (K:PySem.W.Frag):Bool:=spB K (He.ga K s!"Form") s!"__le__" (He.fAd K (s!"Form",some s!"__le__"))
def ex19 (K:PySem.W.Frag):Bool:=nfB K (cl K) 1 (He.ga K s!"Form")
def ex20 (K:PySem.W.Frag):Bool:=spB K (He.ga K s!"Form") s!"__eq__" (He.fAd K (s!"Form",some s!"__eq__"))
def ex21 (K:PySem.W.Frag):Bool:=nfB K (cl K) 1 (He.ga K s!"Form")
def ex22 (K:PySem.W.Frag):Bool:=neB K (He.ga K s!"Form")
def ex23 (K:PySem.W.Frag):Bool:=spB K (He.ga K s!"Form") s!"__or__" (He.fAd K (s!"Form",some s!"__or__"))
def ex24 (K:PySem.W.Frag):Bool:=PySem.W.selfFirst K (He.ga K s!"Form")
def ex25 (K:PySem.W.Frag):Bool:=spB K (He.ga K s!"Form") s!"__add__" (He.fAd K (s!"Form",some s!"__add__"))
def ex26 (K:PySem.W.Frag):Bool:=PySem.W.selfFirst K (He.ga K s!"Form")
def ex27 (K:PySem.W.Frag):Bool:=spB K (He.ga K s!"Form") s!"__call__" (He.fAd K (s!"Form",some s!"__call__"))
def ex (K:PySem.W.Frag):Bool:=ex0 K&&(ex1 K&&(ex2 K&&(ex3 K&&(ex4 K&&(ex5 K&&(ex6 K&&(ex7 K&&(ex8 K&&(ex9 K&&(ex10 K&&(ex11 K&&(ex12 K&&(ex13 K&&(ex14 K&&(ex15 K&&(ex16 K&&(ex17 K&&(ex18 K&&(ex19 K&&(ex20 K&&(ex21 K&&(ex22 K&&(ex23 K&&(ex24 K&&(ex25 K&&(ex26 K&&(ex27 K)))))))))))))))))))))))))))
abbrev R:PySem.W.OpenRow:=PySem.W.OpenLaw.row PySem.Challenge.rw_cutofftills_k49_whole_forms_told
def as0:List Nat:=[3,6,4,24,44,63,82,101,111,116,123,128,133,140,145,212,221,228,233,238,243,248,253,258,263,268,275,282,289,294,299,304,309,314,321,326,333,0,23,43,62,81,100,110,115,122,127,132,139,144,211,220,227,232,237,242,247,252,257,262]
def as1:List Nat:=[267,274,281,288,293,298,303,308,313,320,325,332,22,25,41,42,60,61,79,80,98,99,102,105,106,107,108,109,112,113,114,117,118,119,120,121,124,125,126,129,130,131,134,135,136,137,138,141,142,143,159,166,171,178,185,192,197,204,209,210]
def as2:List Nat:=[213,214,217,218,219,222,223,224,225,226,229,230,231,234,235,236,239,240,241,244,245,246,249,250,251,254,255,256,259,260,261,264,265,266,269,270,271,272,273,276,277,278,279,280,283,284,285,286,287,290,291,292,295,296,297,300,301,302,305,306]
def as3:List Nat:=[307,310,311,312,315,316,317,318,319,322,323,324,327,328,329,330,331,40,59,78,97,158,165,170,177,184,191,196,203,208,35,36,37,38,39,54,55,56,57,58,73,74,75,76,77,92,93,94,95,96,153,154,155,156,157,160,161,162,163,164]
def as4:List Nat:=[167,168,169,172,173,174,175,176,179,180,181,182,183,186,187,188,189,190,193,194,195,198,199,200,201,202,205,206,207]
def asA:List Nat:=as0++as1++as2++as3++as4
abbrev hk:PySem.W.Hook:=hookZ asA fas dfs ex
def ob (s:PySem.W.SharedT):He.AlD×Bool:=obsZ asA fas dfs ex (HandSHeadRun.getT s)
def loose0:List PySem.Str:=[s!"TownError",s!"BadPart",s!"BadForm",s!"BadLimits",s!"TooMany",s!"is_integer",s!"MOST_TERMS",s!"MOST_ROWS",s!"MOST_PLACES",s!"are_numbers",s!"is_term",s!"worth_of",s!"is_needless",s!"rank_of",s!"in_order",s!"Form",s!"joined_row",s!"common_divisor",s!"shortened",s!"without",s!"value_at",s!"next_number",s!"solution",s!"unit",s!"less",s!"parting_term",s!"parting_limits",s!"_law_pool",s!"_law_draw",s!"_law_term"]
def loose1:List PySem.Str:=[s!"_law_terms",s!"_law_worth",s!"_law_limits",s!"_law_due",s!"_law_is_less",s!"_law_terms_right"]
def loose:List PySem.Str:=loose0++loose1
set_option maxHeartbeats 0 in
theorem run (w:World):HandSHeadRun.RunEq R (PySem.W.view R.prog [40]) hk ob 60000 loose w:=by
 intro os
 kernel_rfl
end Lw
end
namespace PyD
open PySem PySem.Spec PyProof.Rows L2
inductive D where
 | non | bl (b:Bool) | int (i:Int) | str (x:Str) | ty (n:String)
 | lst (xs:List D) | tup (xs:List D) | scr (ns:List Int)
 | dct (kvs:List (Key×D)) | obj (c:Nat) (fs:List (Str×D)) | cls (c:Nat) | fn (f:Nat)
 /-- own containers with own kids (never frozen as such) -/
 | lstO (xs:List D) | dctO (kvs:List (Key×D)) | objO (c:Nat) (fs:List (Str×D)) | kid (d:D)
 /-- an exception that is held as a value; a dict whose keys are tuples -/
 | exv (c:Nat) (fs:List (Str×D)) | dctN (kvs:List (D×D))
 /-- any value: never looked at -/
 | any
instance:Inhabited D:=⟨.non⟩
structure Gx where
 K:PySem.W.Frag
 cl:Nat→Addr
 fa:Nat→Addr
 P:Program
 w:World
mutual
def nkey:D→Option NestedKey
 | .non=>some .none
 | .bl b=>some (.num (if b=true then 1 else 0))
 | .int i=>some (.num i)
 | .str x=>some (.text x)
 | .tup xs=>match nkeys xs with
  | some ks=>some (.tup ks)
  | none=>none
 | _=>none
def nkeys:List D→Option (List NestedKey)
 | []=>some []
 | d::ds=>match nkey d,nkeys ds with
  | some k,some ks=>some (k::ks)
  | _,_=>none
end
def DnIs (P:Program)(w:World)(h:Heap)(a:Addr)(kvs:List (NestedKey×Addr×V)):Prop:=kvs.length≤sizeLine∧(a==sysModules)=false∧∃ xs:List (NestedKey×Addr×Value),
 Paired (fun (p:NestedKey×Addr×V) (q:NestedKey×Addr×Value)=>p.1=q.1∧p.2.1=q.2.1∧RelV p.2.2 q.2.2) kvs xs ∧
 ∃ o es ep,h.get? a=some o∧o.ExactDict∧o.data=.dict es ep∧es.toList=xs.map (entryOfKey (nestedKind P w))∧(xs.map (·.1)).Nodup
def dnO (P:Program)(w:World)(a:Addr)(kvs:List (NestedKey×Addr×V)):HO:=.ext fun h=>DnIs P w h a kvs
def DnA (P:Program)(w:World)(H:Hp)(a:Addr)(kvs:List (NestedKey×Addr×V)):Prop:=H a=some (dnO P w a kvs)∨∃ o,H a=some (.frz o (dnO P w a kvs))
theorem DnA.mono {P:Program}{w:World}{H H':Hp}{a:Addr}{kvs:List (NestedKey×Addr×V)}(h:DnA P w H a kvs)(e:∀ o,H a=some o→H' a=some o):DnA P w H' a kvs:=by
 rcases h with h | ⟨o,h⟩
 ·exact .inl (e _ h)
 ·exact .inr ⟨o,e _ h⟩
mutual
inductive Dp (G:Gx)(F:Hp):V→D→Prop
 | non:Dp G F .non .non
 | bl (b:Bool):Dp G F (.bl b) (.bl b)
 | int (i:Int):Dp G F (.int i) (.int i)
 | str (x:Str):Dp G F (.str x) (.str x)
 | ty (n:String):Dp G F (.ty n) (.ty n)
 | lst {a:Addr} {vs:List V} {ds:List D}:F a=some (.lst vs)→DpL G F vs ds→Dp G F (.ref a) (.lst ds)
 | tup {a:Addr} {vs:List V} {ds:List D}:SqT G.K F a vs→DpL G F vs ds→Dp G F (.ref a) (.tup ds)
 | scr {a:Addr} {ns:List Int}:SqL G.K F a (ns.map V.int)→Dp G F (.ref a) (.scr ns)
 | dct {a:Addr} {kvs:List (Key×V)} {kds:List (Key×D)}:F a=some (.dK kvs)→DpK G F kvs kds→Dp G F (.ref a) (.dct kds)
 | obj {a dx:Addr} {c:Nat} {fs:List (Str×V)} {fds:List (Str×D)}:F a=some (.ins (G.cl c) dx fs)→DpF G F fs fds→Dp G F (.ref a) (.obj c fds)
 | cls (c:Nat):Dp G F (.ref (G.cl c)) (.cls c)
 | fn (f:Nat):Dp G F (.ref (G.fa f)) (.fn f)
 | any (v:V):Dp G F v .any
 | exv {a dx:Addr} {c:Nat} {fs:List (Str×V)} {fds:List (Str×D)}:F a=some (exo a (G.cl c) (some dx))→F dx=some (exd dx fs)→DpF G F fs fds→Dp G F (.ref a) (.exv c fds)
 | dctN {a:Addr} {kvs:List (NestedKey×Addr×V)} {kds:List (D×D)}:DnA G.P G.w F a kvs→DpN G F kvs kds→Dp G F (.ref a) (.dctN kds)
inductive DpL (G:Gx)(F:Hp):List V→List D→Prop
 | nil:DpL G F [] []
 | cons {v:V} {d:D} {vs:List V} {ds:List D}:Dp G F v d→DpL G F vs ds→DpL G F (v::vs) (d::ds)
inductive DpK (G:Gx)(F:Hp):List (Key×V)→List (Key×D)→Prop
 | nil:DpK G F [] []
 | cons {k:Key} {v:V} {d:D} {vs:List (Key×V)} {ds:List (Key×D)}:Dp G F v d→DpK G F vs ds→DpK G F ((k,v)::vs) ((k,d)::ds)
inductive DpF (G:Gx)(F:Hp):List (Str×V)→List (Str×D)→Prop
 | nil:DpF G F [] []
 | cons {k:Str} {v:V} {d:D} {vs:List (Str×V)} {ds:List (Str×D)}:Dp G F v d→DpF G F vs ds→DpF G F ((k,v)::vs) ((k,d)::ds)
inductive DpN (G:Gx)(F:Hp):List (NestedKey×Addr×V)→List (D×D)→Prop
 | nil:DpN G F [] []
 | cons {k:NestedKey} {b:Addr} {v:V} {dk d:D} {vs:List (NestedKey×Addr×V)} {ds:List (D×D)}:nkey dk=some k→k.depth≤8→Dp G F (.ref b) dk→Dp G F v d→DpN G F vs ds→DpN G F ((k,b,v)::vs) ((dk,d)::ds)
end
theorem sqT_ext {K:PySem.W.Frag}{H H':Hp}{a:Addr}{xs:List V}(h:SqT K H a xs)(e:Same H H'):SqT K H' a xs:=by
 rcases h with (h | ⟨o,h⟩) | h
 ·exact .inl (.inl (e _ _ h))
 ·exact .inl (.inr ⟨o,e _ _ h⟩)
 ·exact .inr h
section
variable {G:Gx}{F F':Hp}
theorem Dp.mono {v:V}{d:D}(e:Same F F')(h:Dp G F v d):Dp G F' v d:=by
 refine Dp.rec (motive_1:=fun v d _=>Dp G F' v d) (motive_2:=fun v d _=>DpL G F' v d) (motive_3:=fun v d _=>DpK G F' v d) (motive_4:=fun v d _=>DpF G F' v d) (motive_5:=fun v d _=>DpN G F' v d)
  .non .bl .int .str .ty (fun h _ i=>.lst (e _ _ h) i) (fun h _ i=>.tup (sqT_ext h e) i) (fun h=>.scr (e.seq h)) (fun h _ i=>.dct (e _ _ h) i) (fun h _ i=>.obj (e _ _ h) i) .cls .fn .any (fun h1 h2 _ i=>.exv (e _ _ h1) (e _ _ h2) i) (fun h _ i=>.dctN (h.mono fun o q=>e _ _ q) i) .nil (fun _ _ i j=>.cons i j) .nil (fun _ _ i j=>.cons i j) .nil (fun _ _ i j=>.cons i j) .nil (fun q1 q2 _ _ _ i j l=>.cons q1 q2 i j l) h
theorem DpL.mono (e:Same F F'):∀ {vs:List V} {ds:List D},DpL G F vs ds→DpL G F' vs ds
 | _,_,.nil=>.nil
 | _,_,.cons h t=>.cons (h.mono e) (DpL.mono e t)
theorem DpK.mono (e:Same F F'):∀ {vs:List (Key×V)} {ds:List (Key×D)},DpK G F vs ds→DpK G F' vs ds
 | _,_,.nil=>.nil
 | _,_,.cons h t=>.cons (h.mono e) (DpK.mono e t)
theorem DpF.mono (e:Same F F'):∀ {vs:List (Str×V)} {ds:List (Str×D)},DpF G F vs ds→DpF G F' vs ds
 | _,_,.nil=>.nil
 | _,_,.cons h t=>.cons (h.mono e) (DpF.mono e t)
theorem DpN.mono (e:Same F F'):∀ {vs:List (NestedKey×Addr×V)} {ds:List (D×D)},DpN G F vs ds→DpN G F' vs ds
 | _,_,.nil=>.nil
 | _,_,.cons q1 q2 h1 h t=>.cons q1 q2 (h1.mono e) (h.mono e) (DpN.mono e t)
theorem DpN.length:∀ {vs:List (NestedKey×Addr×V)} {ds:List (D×D)},DpN G F vs ds→vs.length=ds.length
 | _,_,.nil=>rfl
 | _,_,.cons _ _ _ _ t=>by simp [DpN.length t]
theorem DpL.length:∀ {vs:List V} {ds:List D},DpL G F vs ds→vs.length=ds.length
 | _,_,.nil=>rfl
 | _,_,.cons _ t=>by simp [DpL.length t]
theorem DpK.length:∀ {vs:List (Key×V)} {ds:List (Key×D)},DpK G F vs ds→vs.length=ds.length
 | _,_,.nil=>rfl
 | _,_,.cons _ t=>by simp [DpK.length t]
theorem DpF.length:∀ {vs:List (Str×V)} {ds:List (Str×D)},DpF G F vs ds→vs.length=ds.length
 | _,_,.nil=>rfl
 | _,_,.cons _ t=>by simp [DpF.length t]
theorem DpL.get:∀ {vs:List V} {ds:List D} {i:Nat} {d:D},DpL G F vs ds→ds[i]?=some d→∃ v,vs[i]?=some v∧Dp G F v d
 | _,_,_,_,.nil,e=>by simp at e
 | _,_,0,_,.cons h _,e=>by simp at e; subst e; exact ⟨_,rfl,h⟩
 | _,_,i+1,d,.cons _ t,e=>by
  obtain ⟨v,h1,h2⟩:=DpL.get (i:=i) (d:=d) t (by simpa using e)
  exact ⟨v,by simpa using h1,h2⟩
theorem DpL.getV:∀ {vs:List V} {ds:List D} {i:Nat} {v:V},DpL G F vs ds→vs[i]?=some v→∃ d,ds[i]?=some d∧Dp G F v d
 | _,_,_,_,.nil,e=>by simp at e
 | _,_,0,_,.cons h _,e=>by simp at e; subst e; exact ⟨_,rfl,h⟩
 | _,_,i+1,v,.cons _ t,e=>by
  obtain ⟨d,h1,h2⟩:=DpL.getV (i:=i) (v:=v) t (by simpa using e)
  exact ⟨d,by simpa using h1,h2⟩
theorem DpL.append:∀ {vs ws:List V} {ds es:List D},DpL G F vs ds→DpL G F ws es→DpL G F (vs++ws) (ds++es)
 | _,_,_,_,.nil,s=>s
 | _,_,_,_,.cons h t,s=>.cons h (DpL.append t s)
theorem DpL.take:∀ {vs:List V} {ds:List D} (n:Nat),DpL G F vs ds→DpL G F (vs.take n) (ds.take n)
 | _,_,0,_=>by simp; exact .nil
 | _,_,_+1,.nil=>.nil
 | _,_,n+1,.cons h t=>.cons h (DpL.take n t)
theorem DpL.drop:∀ {vs:List V} {ds:List D} (n:Nat),DpL G F vs ds→DpL G F (vs.drop n) (ds.drop n)
 | _,_,0,h=>h
 | _,_,_+1,.nil=>.nil
 | _,_,n+1,.cons _ t=>DpL.drop n t
theorem DpL.set {v:V}{d:D}(h:Dp G F v d):∀ {vs:List V} {ds:List D} (i:Nat),DpL G F vs ds→DpL G F (vs.set i v) (ds.set i d)
 | _,_,_,.nil=>.nil
 | _,_,0,.cons _ t=>.cons h t
 | _,_,i+1,.cons q t=>.cons q (DpL.set h i t)
theorem DpL.rep {vs:List V}{ds:List D}(h:DpL G F vs ds):∀ k:Nat,DpL G F (List.replicate k vs).flatten (List.replicate k ds).flatten
 | 0=>.nil
 | k+1=>by
  simp only [List.replicate_succ,List.flatten_cons]
  exact h.append (DpL.rep h k)
theorem DpF.look:∀ {vs:List (Str×V)} {ds:List (Str×D)} {k:Str} {d:D},DpF G F vs ds→ds.lookup k=some d→∃ v,vs.lookup k=some v∧Dp G F v d
 | _,_,_,_,.nil,e=>by simp at e
 | _,_,k,d,.cons (k:=k') h t,e=>by
  simp only [List.lookup_cons] at e ⊢
  cases q:(k==k') with
  | true=>rw [q] at e; simp at e; subst e; exact ⟨_,rfl,h⟩
  | false=>rw [q] at e; exact DpF.look t e
theorem DpF.lookN:∀ {vs:List (Str×V)} {ds:List (Str×D)} {k:Str},DpF G F vs ds→ds.lookup k=none→vs.lookup k=none
 | _,_,_,.nil,_=>rfl
 | _,_,k,.cons (k:=k') h t,e=>by
  simp only [List.lookup_cons] at e ⊢
  cases q:(k==k') with
  | true=>rw [q] at e; simp at e
  | false=>rw [q] at e; exact DpF.lookN t e
end
def putD (f:Str)(v:D):List (Str×D)→List (Str×D)
 | []=>[(f,v)]
 | p::r=>if p.1=f then (f,v)::r else p::putD f v r
section
variable {G:Gx}{F F':Hp}
theorem DpF.put {f:Str}{v:V}{d:D}(h:Dp G F v d):∀ {vs:List (Str×V)} {ds:List (Str×D)},DpF G F vs ds→DpF G F (putF f v vs) (putD f d ds)
 | _,_,.nil=>.cons h .nil
 | _,_,.cons (k:=k) (v:=v') (d:=d') q t=>by
  unfold putF putD
  by_cases e:k=f
  ·simp only [e,if_true]; exact .cons h t
  ·simp only [e,if_false]; exact .cons q (DpF.put h t)
end
inductive Slot where
 | val (d:D)
 | own (b:Option Nat) (d:D)
 /-- none: the exception that a suite holds; some k: what was handed in as argument k -/
 | exn (b:Option Nat)
abbrev St:=L2.St
abbrev Rho:=List (Option Slot)
structure Gm where
 G:Gx
 β:Nat→Addr
 x:Addr
 J:Hp→Prop
 Jm:∀ F F',Same F F'→J F→J F'
 U:Addr→Prop
 /-- the tables of the code objects that make functions -/
 T:List NdefX.NTab
abbrev Gm.of (G:Gx)(T:List NdefX.NTab)(β:Nat→Addr)(U:Addr→Prop):Gm:=⟨G,β,0,fun _=>True,fun _ _ _ h=>h,U,T⟩
structure TabU (T:List NdefX.NTab)(U:Addr→Prop)(F H:Hp):Prop where
 on:NdefX.TabsN T H
 off:∀ p∈T,¬ U p.1
 fr:∀ p∈T,F p.1=none
theorem tab_some {T:List NdefX.NTab}{H:Hp}(t:NdefX.TabsN T H){p:NdefX.NTab}(h:p∈T):∃ ps,H p.1=some (.tbl ps):=let ⟨ps,e,_⟩:=t p h; ⟨ps,e⟩
def Cell (G:Gx)(F H:Hp)(a:Addr):D→Prop
 | .lst ds=>∃ vs,H a=some (.lst vs)∧DpL G F vs ds
 | .dct kds=>∃ kvs,H a=some (.dK kvs)∧DpK G F kvs kds
 | .obj c fds=>∃ dx fs,H a=some (.ins (G.cl c) dx fs)∧DpF G F fs fds
 | .dctN kds=>∃ kvs,H a=some (dnO G.P G.w a kvs)∧DpN G F kvs kds
 | _=>False
theorem Cell.mono {G:Gx}{F H F' H':Hp}{a:Addr}{d:D}(e:Same F F')(k:∀ o,H a=some o→H' a=some o)(c:Cell G F H a d):Cell G F' H' a d:=by
 cases d with
 | lst ds=>obtain ⟨vs,h,t⟩:=c; exact ⟨vs,k _ h,t.mono e⟩
 | dct ds=>obtain ⟨vs,h,t⟩:=c; exact ⟨vs,k _ h,t.mono e⟩
 | obj c fs=>obtain ⟨dx,vs,h,t⟩:=c; exact ⟨dx,vs,k _ h,t.mono e⟩
 | dctN ds=>obtain ⟨vs,h,t⟩:=c; exact ⟨vs,k _ h,t.mono e⟩
 | _=>exact c.elim
theorem Cell.there {G:Gx}{F H:Hp}{a:Addr}{d:D}(c:Cell G F H a d):∃ o,H a=some o:=by
 cases d with
 | lst ds=>obtain ⟨vs,h,t⟩:=c; exact ⟨_,h⟩
 | dct ds=>obtain ⟨vs,h,t⟩:=c; exact ⟨_,h⟩
 | obj c fs=>obtain ⟨dx,vs,h,t⟩:=c; exact ⟨_,h⟩
 | dctN ds=>obtain ⟨vs,h,t⟩:=c; exact ⟨_,h⟩
 | _=>exact c.elim
def okU (o:HO):Prop:=(∀ ps,o≠.tbl ps)∧∀ c q,o≠LamX.CodeO c q
theorem okU_lst {xs:List V}:okU (.lst xs):=⟨nofun,fun c q z=>by unfold LamX.CodeO at z; cases z⟩
theorem okU_dK {xs:List (Key×V)}:okU (.dK xs):=⟨nofun,fun c q z=>by unfold LamX.CodeO at z; cases z⟩
theorem okU_ins {C dx:Addr}{xs:List (Str×V)}:okU (.ins C dx xs):=⟨nofun,fun c q z=>by unfold LamX.CodeO at z; cases z⟩
def oneB (c:Nat):Heap:=⟨Array.replicate c { cls:=.none,data:=.fields #[] },{}⟩
def oneH (c:Addr)(q:Str):Heap:=(oneB c).push { cls:=.none,data:=.fields #[.none,.str q 0] }
theorem oneH_at {c:Addr}{q:Str}:(oneH c q).get? c=some { cls:=.none,data:=.fields #[.none,.str q 0] }:=by
 have e:(oneB c).objs.size=c:=by simp [oneB]
 have:=Heap.get?_push_size (oneB c) (o:={ cls:=.none,data:=.fields #[.none,.str q 0] }) rfl
 rwa [e] at this
theorem oneH_all {c a:Addr}{q:Str}{o:Obj}(h:(oneH c q).get? a=some o):∃ vs,o.data=.fields vs:=by
 unfold Heap.get? at h
 have e:(oneH c q).objs[a]?=some o:=by
  split at h
  ·cases h
  ·exact h
 have e:((Array.replicate c ({ cls:=.none,data:=.fields #[] }:Obj)).push { cls:=.none,data:=.fields #[.none,.str q 0] })[a]?=some o:=e
 rw [Array.getElem?_push] at e
 split at e
 ·cases e; exact ⟨_,rfl⟩
 ·rw [Array.getElem?_replicate] at e
  split at e
  ·cases e; exact ⟨_,rfl⟩
  ·cases e
theorem okU_ext {φ:Heap→Prop}(h:∀ (c:Addr) (q:Str),¬ φ (oneH c q)):okU (.ext φ):=⟨nofun,fun c q z=>by
 unfold LamX.CodeO at z
 have e:=congrFun (HO.ext.inj z) (oneH c q)
 refine h c q ?_
 rw [e]
 exact ⟨_,_,_,oneH_at,rfl,rfl⟩⟩
theorem okU_dn {P:Program}{w:World}{a:Addr}{kvs:List (NestedKey×Addr×V)}:okU (dnO P w a kvs):=okU_ext fun c q ⟨_,_,xs,_,o,es,ep,h1,_,h3,_⟩=>by
 obtain ⟨vs,e⟩:=oneH_all h1
 rw [e] at h3; cases h3
theorem okN {H:Hp}{a:Addr}(h:H a=none):∀ u,H a=some u→okU u:=fun u z=>by rw [h] at z; cases z
theorem okS {H:Hp}{a:Addr}{o:HO}(h:H a=some o)(q:okU o):∀ u,H a=some u→okU u:=fun u z=>by rw [h] at z; cases z; exact q
theorem Cell.okU {G:Gx}{F H:Hp}{a:Addr}{d:D}(c:Cell G F H a d):∃ o,H a=some o∧okU o:=by
 cases d with
 | lst ds=>obtain ⟨vs,h,t⟩:=c; exact ⟨_,h,okU_lst⟩
 | dct ds=>obtain ⟨vs,h,t⟩:=c; exact ⟨_,h,okU_dK⟩
 | obj c fs=>obtain ⟨dx,vs,h,t⟩:=c; exact ⟨_,h,okU_ins⟩
 | dctN ds=>obtain ⟨vs,h,t⟩:=c; exact ⟨_,h,okU_dn⟩
 | _=>exact c.elim
theorem tab_chg {T:List NdefX.NTab}{H H':Hp}(t:NdefX.TabsN T H)(k:∀ b o,H b=some o→(∃ ps,o=.tbl ps)∨(∃ c q,o=LamX.CodeO c q)→H' b=some o):NdefX.TabsN T H':=fun p hp=>by
 obtain ⟨ps,h1,h2,h3⟩:=t p hp
 refine ⟨ps,k _ _ h1 (.inl ⟨_,rfl⟩),h2,fun pos cv hc=>?_⟩
 obtain ⟨c,e1,e2⟩:=h3 pos cv hc
 exact ⟨c,e1,k _ _ e2 (.inr ⟨_,_,rfl⟩)⟩
theorem okU.not {o:HO}(h:okU o):¬ ((∃ ps,o=.tbl ps)∨∃ c q,o=LamX.CodeO c q):=fun z=>by
 rcases z with ⟨ps,e⟩ | ⟨c,q,e⟩
 ·exact h.1 ps e
 ·exact h.2 c q e
theorem tab_upd {T:List NdefX.NTab}{H:Hp}{a:Addr}{o:HO}(t:NdefX.TabsN T H)(h:∀ u,H a=some u→okU u):NdefX.TabsN T (L2.upd H a o):=tab_chg t fun b u e z=>by
 by_cases hb:b=a
 ·subst hb; exact ((h u e).not z).elim
 ·rw [upd_ne hb]; exact e
mutual
inductive Kd (G:Gx)(F H:Hp):V→D→List Addr→Prop
 | fz {v:V} {d:D}:Dp G F v d→Kd G F H v d []
 | ow {a:Addr} {d:D} {L:List Addr}:Ct G F H a d L→Kd G F H (.ref a) (.kid d) L
inductive Ct (G:Gx)(F H:Hp):Addr→D→List Addr→Prop
 | flat {a:Addr} {d:D}:Cell G F H a d→Ct G F H a d [a]
 | lst {a:Addr} {vs:List V} {ds:List D} {L:List Addr}:H a=some (.lst vs)→KdL G F H vs ds L→a∉L→Ct G F H a (.lstO ds) (a::L)
 | dct {a:Addr} {kvs:List (Key×V)} {kds:List (Key×D)} {L:List Addr}:H a=some (.dK kvs)→kvs.map (·.1)=kds.map (·.1)→KdL G F H (kvs.map (·.2)) (kds.map (·.2)) L→a∉L→Ct G F H a (.dctO kds) (a::L)
 | obj {a dx:Addr} {c:Nat} {fs:List (Str×V)} {fds:List (Str×D)} {L:List Addr}:H a=some (.ins (G.cl c) dx fs)→fs.map (·.1)=fds.map (·.1)→KdL G F H (fs.map (·.2)) (fds.map (·.2)) L→a∉L→Ct G F H a (.objO c fds) (a::L)
inductive KdL (G:Gx)(F H:Hp):List V→List D→List Addr→Prop
 | nil:KdL G F H [] [] []
 | cons {v:V} {d:D} {vs:List V} {ds:List D} {L1 L2:List Addr}:Kd G F H v d L1→KdL G F H vs ds L2→(∀ a∈L1,a∉L2)→KdL G F H (v::vs) (d::ds) (L1++L2)
end
section
variable {G:Gx}{F H F' H':Hp}
theorem Ct.mono {a:Addr}{d:D}{L:List Addr}(e:Same F F')(h:Ct G F H a d L):(∀ b∈L,∀ o,H b=some o→H' b=some o)→Ct G F' H' a d L:=by
 refine Ct.rec (motive_1:=fun v d L _=>(∀ b∈L,∀ o,H b=some o→H' b=some o)→Kd G F' H' v d L) (motive_2:=fun a d L _=>(∀ b∈L,∀ o,H b=some o→H' b=some o)→Ct G F' H' a d L) (motive_3:=fun v d L _=>(∀ b∈L,∀ o,H b=some o→H' b=some o)→KdL G F' H' v d L) ?_ ?_ ?_ ?_ ?_ ?_ ?_ ?_ h
 ·intro v d h k; exact .fz (h.mono e)
 ·intro a d L h i k; exact .ow (i k)
 ·intro a d c k; exact .flat (c.mono e fun o q=>k a (List.mem_cons_self ..) o q)
 ·intro a vs ds L h t n i k; exact .lst (k _ (List.mem_cons_self ..) _ h) (i fun b hb=>k b (List.mem_cons_of_mem _ hb)) n
 ·intro a vs ds L h e t n i k; exact .dct (k _ (List.mem_cons_self ..) _ h) e (i fun b hb=>k b (List.mem_cons_of_mem _ hb)) n
 ·intro a dx c vs ds L h e t n i k; exact .obj (k _ (List.mem_cons_self ..) _ h) e (i fun b hb=>k b (List.mem_cons_of_mem _ hb)) n
 ·intro k; exact .nil
 ·intro v d vs ds L1 L2 h t dj i1 i2 k
  exact .cons (i1 fun b hb=>k b (List.mem_append_left _ hb)) (i2 fun b hb=>k b (List.mem_append_right _ hb)) dj
theorem Kd.mono {v:V}{d:D}{L:List Addr}(e:Same F F')(h:Kd G F H v d L)(k:∀ b∈L,∀ o,H b=some o→H' b=some o):Kd G F' H' v d L:=by
 cases h with
 | fz h=>exact .fz (h.mono e)
 | ow h=>exact .ow (h.mono e k)
theorem KdL.mono (e:Same F F'):∀ {vs:List V} {ds:List D} {L:List Addr},KdL G F H vs ds L→(∀ b∈L,∀ o,H b=some o→H' b=some o)→KdL G F' H' vs ds L
 | _,_,_,.nil,_=>.nil
 | _,_,_,.cons h t dj,k=>.cons (h.mono e fun b hb=>k b (List.mem_append_left _ hb)) (KdL.mono e t fun b hb=>k b (List.mem_append_right _ hb)) dj
theorem Ct.there {a:Addr}{d:D}{L:List Addr}(h:Ct G F H a d L):∀ b∈L,∃ o,H b=some o:=by
 refine Ct.rec (motive_1:=fun v d L _=>∀ b∈L,∃ o,H b=some o) (motive_2:=fun a d L _=>∀ b∈L,∃ o,H b=some o) (motive_3:=fun v d L _=>∀ b∈L,∃ o,H b=some o) ?_ ?_ ?_ ?_ ?_ ?_ ?_ ?_ h
 ·intro v d h b hb; cases hb
 ·intro a d L h i; exact i
 ·intro a d c b hb; obtain rfl:b=a:=by simpa using hb
  exact c.there
 ·intro a vs ds L h t n i b hb; rcases List.mem_cons.mp hb with rfl | hb
  ·exact ⟨_,h⟩
  ·exact i b hb
 ·intro a vs ds L h e t n i b hb; rcases List.mem_cons.mp hb with rfl | hb
  ·exact ⟨_,h⟩
  ·exact i b hb
 ·intro a dx c vs ds L h e t n i b hb; rcases List.mem_cons.mp hb with rfl | hb
  ·exact ⟨_,h⟩
  ·exact i b hb
 ·intro b hb; cases hb
 ·intro v d vs ds L1 L2 h t dj i1 i2 b hb
  rcases List.mem_append.mp hb with hb | hb
  ·exact i1 b hb
  ·exact i2 b hb
theorem Ct.okU {a:Addr}{d:D}{L:List Addr}(h:Ct G F H a d L):∀ b∈L,∃ o,H b=some o∧okU o:=by
 refine Ct.rec (motive_1:=fun v d L _=>∀ b∈L,∃ o,H b=some o∧PyD.okU o) (motive_2:=fun a d L _=>∀ b∈L,∃ o,H b=some o∧PyD.okU o) (motive_3:=fun v d L _=>∀ b∈L,∃ o,H b=some o∧PyD.okU o) ?_ ?_ ?_ ?_ ?_ ?_ ?_ ?_ h
 ·intro v d h b hb; cases hb
 ·intro a d L h i; exact i
 ·intro a d c b hb; obtain rfl:b=a:=by simpa using hb
  exact c.okU
 ·intro a vs ds L h t n i b hb; rcases List.mem_cons.mp hb with rfl | hb
  ·exact ⟨_,h,okU_lst⟩
  ·exact i b hb
 ·intro a vs ds L h e t n i b hb; rcases List.mem_cons.mp hb with rfl | hb
  ·exact ⟨_,h,okU_dK⟩
  ·exact i b hb
 ·intro a dx c vs ds L h e t n i b hb; rcases List.mem_cons.mp hb with rfl | hb
  ·exact ⟨_,h,okU_ins⟩
  ·exact i b hb
 ·intro b hb; cases hb
 ·intro v d vs ds L1 L2 h t dj i1 i2 b hb
  rcases List.mem_append.mp hb with hb | hb
  ·exact i1 b hb
  ·exact i2 b hb
theorem Ct.self {a:Addr}{d:D}{L:List Addr}(h:Ct G F H a d L):a∈L:=by cases h <;> exact List.mem_cons_self ..
theorem no_kid {v:V}{d:D}(h:Dp G F v (.kid d)):False:=by cases h
theorem Ct.uniq {a:Addr}{d:D}{L:List Addr}(h:Ct G F H a d L):∀ {L':List Addr},Ct G F H a d L'→L=L':=by
 refine Ct.rec (motive_1:=fun v d L _=>∀ {L'},Kd G F H v d L'→L=L') (motive_2:=fun a d L _=>∀ {L'},Ct G F H a d L'→L=L') (motive_3:=fun v d L _=>∀ {L'},KdL G F H v d L'→L=L') ?_ ?_ ?_ ?_ ?_ ?_ ?_ ?_ h
 ·intro v d h L' h'; cases h' with
  | fz h'=>rfl
  | ow h'=>exact (no_kid h).elim
 ·intro a d L h i L' h'; cases h' with
  | fz h'=>exact (no_kid h').elim
  | ow h'=>exact i h'
 ·intro a d c L' h'; cases h' with
  | flat c'=>rfl
  | _=>exact c.elim
 ·intro a vs ds L h t n i L' h'; cases h' with
  | flat c=>exact c.elim
  | lst h2 t2 n2=>rw [h] at h2; cases h2; rw [i t2]
 ·intro a vs ds L h e t n i L' h'; cases h' with
  | flat c=>exact c.elim
  | dct h2 e2 t2 n2=>rw [h] at h2; cases h2; rw [i t2]
 ·intro a dx c vs ds L h e t n i L' h'; cases h' with
  | flat c=>exact c.elim
  | obj h2 e2 t2 n2=>rw [h] at h2; cases h2; rw [i t2]
 ·intro L' h'; cases h'; rfl
 ·intro v d vs ds L1 L2 h t dj i1 i2 L' h'; cases h' with
  | cons h2 t2 dj2=>rw [i1 h2,i2 t2]
end
mutual
def strip:D→D
 | .lstO xs=>.lst (strips xs)
 | .dctO kvs=>.dct (stripK kvs)
 | .objO c fs=>.obj c (stripF fs)
 | .kid d=>strip d
 | d=>d
def strips:List D→List D
 | []=>[]
 | d::ds=>strip d::strips ds
def stripK:List (Key×D)→List (Key×D)
 | []=>[]
 | (k,d)::ds=>(k,strip d)::stripK ds
def stripF:List (Str×D)→List (Str×D)
 | []=>[]
 | (k,d)::ds=>(k,strip d)::stripF ds
end
theorem Dp.strip {G:Gx}{F:Hp}{v:V}{d:D}(h:Dp G F v d):strip d=d:=by cases h <;> simp [PyD.strip]
theorem Cell.strip {G:Gx}{F H:Hp}{a:Addr}{d:D}(h:Cell G F H a d):strip d=d:=by cases d <;> first | exact h.elim | simp [PyD.strip]
def frzH (F H:Hp)(L:List Addr):Hp:=fun b=>if b∈L then H b else F b
section
variable {G:Gx}{F H:Hp}
theorem frzH_in {L:List Addr}{b:Addr}(h:b∈L):frzH F H L b=H b:=by unfold frzH; rw [if_pos h]
theorem frzH_out {L:List Addr}{b:Addr}(h:b∉L):frzH F H L b=F b:=by unfold frzH; rw [if_neg h]
theorem frzH_sub {L:List Addr}(n:∀ b∈L,F b=none):Same F (frzH F H L):=fun b o q=>by
 rw [frzH_out fun z=>by rw [n b z] at q; cases q]; exact q
theorem frzH_same {L:List Addr}(e:Same F H):Same (frzH F H L) H:=fun b o q=>by
 by_cases h:b∈L
 ·rwa [frzH_in h] at q
 ·rw [frzH_out h] at q; exact e b o q
theorem frzH_le {L L':List Addr}(n:∀ b∈L',F b=none)(s:∀ b∈L,b∈L'):Same (frzH F H L) (frzH F H L'):=fun b o q=>by
 by_cases h:b∈L
 ·rw [frzH_in h] at q; rw [frzH_in (s b h)]; exact q
 ·rw [frzH_out h] at q
  rw [frzH_out fun z=>by rw [n b z] at q; cases q]; exact q
theorem dpk_of {kvs:List (Key×V)}:∀ {kds:List (Key×D)},kvs.map (·.1)=kds.map (·.1)→DpL G F (kvs.map (·.2)) (strips (kds.map (·.2)))→DpK G F kvs (stripK kds):=by
 induction kvs with
 | nil=>intro kds e h; cases kds with
  | nil=>simp only [stripK]; exact .nil
  | cons _ _=>simp at e
 | cons p r ih=>intro kds e h; cases kds with
  | nil=>simp at e
  | cons q s =>
   obtain ⟨k,v⟩:=p; obtain ⟨k',d⟩:=q
   simp only [List.map_cons,List.cons.injEq] at e
   obtain ⟨rfl,e⟩:=e
   simp only [List.map_cons,strips] at h
   simp only [stripK]
   cases h with | cons h1 h2=>exact .cons h1 (ih e h2)
theorem dpf_of {kvs:List (Str×V)}:∀ {kds:List (Str×D)},kvs.map (·.1)=kds.map (·.1)→DpL G F (kvs.map (·.2)) (strips (kds.map (·.2)))→DpF G F kvs (stripF kds):=by
 induction kvs with
 | nil=>intro kds e h; cases kds with
  | nil=>simp only [stripF]; exact .nil
  | cons _ _=>simp at e
 | cons p r ih=>intro kds e h; cases kds with
  | nil=>simp at e
  | cons q s =>
   obtain ⟨k,v⟩:=p; obtain ⟨k',d⟩:=q
   simp only [List.map_cons,List.cons.injEq] at e
   obtain ⟨rfl,e⟩:=e
   simp only [List.map_cons,strips] at h
   simp only [stripF]
   cases h with | cons h1 h2=>exact .cons h1 (ih e h2)
theorem Ct.freeze {a:Addr}{d:D}{L:List Addr}(h:Ct G F H a d L):(∀ b∈L,F b=none)→Dp G (frzH F H L) (.ref a) (strip d):=by
 refine Ct.rec (motive_1:=fun v d L _=>(∀ b∈L,F b=none)→Dp G (frzH F H L) v (strip d)) (motive_2:=fun a d L _=>(∀ b∈L,F b=none)→Dp G (frzH F H L) (.ref a) (strip d)) (motive_3:=fun vs ds L _=>(∀ b∈L,F b=none)→DpL G (frzH F H L) vs (strips ds)) ?_ ?_ ?_ ?_ ?_ ?_ ?_ ?_ h
 ·intro v d h n; rw [h.strip]; exact h.mono (frzH_sub n)
 ·intro a d L h i n; simp only [strip]; exact i n
 ·intro a d c n
  rw [c.strip]
  have es:=frzH_sub (H:=H) n
  cases d with
  | lst ds=>obtain ⟨vs,h,t⟩:=c; exact .lst (by rw [frzH_in (List.mem_cons_self ..)]; exact h) (t.mono es)
  | dct ds=>obtain ⟨vs,h,t⟩:=c; exact .dct (by rw [frzH_in (List.mem_cons_self ..)]; exact h) (t.mono es)
  | obj c fs=>obtain ⟨dx,vs,h,t⟩:=c; exact .obj (by rw [frzH_in (List.mem_cons_self ..)]; exact h) (t.mono es)
  | dctN ds=>obtain ⟨vs,h,t⟩:=c; exact .dctN (.inl (by rw [frzH_in (List.mem_cons_self ..)]; exact h)) (t.mono es)
  | _=>exact c.elim
 ·intro a vs ds L h t na i n
  simp only [strip]
  exact .lst (by rw [frzH_in (List.mem_cons_self ..)]; exact h) ((i fun b hb=>n b (List.mem_cons_of_mem _ hb)).mono (frzH_le n fun b hb=>List.mem_cons_of_mem _ hb))
 ·intro a vs ds L h e t na i n
  simp only [strip]
  exact .dct (by rw [frzH_in (List.mem_cons_self ..)]; exact h) (dpk_of e ((i fun b hb=>n b (List.mem_cons_of_mem _ hb)).mono (frzH_le n fun b hb=>List.mem_cons_of_mem _ hb)))
 ·intro a dx c vs ds L h e t na i n
  simp only [strip]
  exact .obj (by rw [frzH_in (List.mem_cons_self ..)]; exact h) (dpf_of e ((i fun b hb=>n b (List.mem_cons_of_mem _ hb)).mono (frzH_le n fun b hb=>List.mem_cons_of_mem _ hb)))
 ·intro n; simp only [strips]; exact .nil
 ·intro v d vs ds L1 L2 h t dj i1 i2 n
  simp only [strips]
  exact .cons ((i1 fun b hb=>n b (List.mem_append_left _ hb)).mono (frzH_le n fun b hb=>List.mem_append_left _ hb)) ((i2 fun b hb=>n b (List.mem_append_right _ hb)).mono (frzH_le n fun b hb=>List.mem_append_right _ hb))
end
def SlotOk (Γ:Gm)(F H:Hp)(v:V)(L:List Addr):Slot→Prop
 | .val d=>Dp Γ.G F v d∧L=[]
 | .own b d=>∃ a,v=.ref a∧Ct Γ.G F H a d L∧∀ k,b=some k→a=Γ.β k
 | .exn none=>v=.ref Γ.x∧L=[]
 | .exn (some k)=>v=.ref (Γ.β k)∧L=[]
def OwnAt (Γ:Gm)(ρ:Rho)(σ:St)(F H:Hp)(i:Nat)(a:Addr):Prop:=∃ s v L,ρ[i]?=some (some s)∧σ[i]?=some (some v)∧SlotOk Γ F H v L s∧a∈L
def Own (Γ:Gm)(ρ:Rho)(σ:St)(F H:Hp)(a:Addr):Prop:=∃ i,OwnAt Γ ρ σ F H i a
structure Rel (Γ:Gm)(ρ:Rho)(σ:St)(F H:Hp):Prop where
 sub:Same F H
 slot:∀ (i:Nat) s,ρ[i]?=some (some s)→∃ v L,σ[i]?=some (some v)∧SlotOk Γ F H v L s
 inj:∀ i j a,OwnAt Γ ρ σ F H i a→OwnAt Γ ρ σ F H j a→i=j
 own:∀ i a,OwnAt Γ ρ σ F H i a→F a=none∧¬ Γ.U a
 len:ρ.length=σ.length
 inv:Γ.J F
 ali:∀ a,Γ.U a→F a=none∧∃ o,H a=some o
 tab:TabU Γ.T Γ.U F H
structure Stp (Γ:Gm)(ρ:Rho)(σ:St)(F H:Hp)(ρ':Rho)(σ':St)(F' H':Hp):Prop where
 rel:Rel Γ ρ' σ' F' H'
 subF:Same F F'
 keep:∀ a,Γ.U a→H' a=H a
 there:∀ a o,H a=some o→∃ o',H' a=some o'
theorem SlotOk.uniq {Γ:Gm}{F H:Hp}{v:V}{L L':List Addr}{s:Slot}(h:SlotOk Γ F H v L s)(h':SlotOk Γ F H v L' s):L=L':=by
 cases s with
 | val d=>rw [h.2,h'.2]
 | exn b=>cases b <;> exact h.2.trans h'.2.symm
 | own b d =>
  obtain ⟨a,e,c,_⟩:=h
  obtain ⟨a',e',c',_⟩:=h'
  rw [e] at e'; cases e'
  exact c.uniq c'
theorem SlotOk.mono {Γ:Gm}{F H F' H':Hp}{v:V}{L:List Addr}{s:Slot}(e:Same F F')(k:∀ b∈L,∀ o,H b=some o→H' b=some o)(h:SlotOk Γ F H v L s):SlotOk Γ F' H' v L s:=by
 cases s with
 | val d=>exact ⟨h.1.mono e,h.2⟩
 | exn b=>cases b <;> exact h
 | own b d=>obtain ⟨a,z,c,hb⟩:=h; exact ⟨a,z,c.mono e k,hb⟩
theorem SlotOk.there {Γ:Gm}{F H:Hp}{v:V}{L:List Addr}{s:Slot}(h:SlotOk Γ F H v L s):∀ b∈L,∃ o,H b=some o:=by
 cases s with
 | val d=>rw [h.2]; intro b hb; cases hb
 | exn b=>cases b <;> (rw [h.2]; intro b hb; cases hb)
 | own b d=>obtain ⟨a,z,c,hb⟩:=h; exact c.there
theorem OwnAt.of {Γ:Gm}{ρ:Rho}{σ:St}{F H:Hp}{i:Nat}{a:Addr}{s:Slot}{v:V}{L:List Addr}(o:OwnAt Γ ρ σ F H i a)(h1:ρ[i]?=some (some s))(h2:σ[i]?=some (some v))(h3:SlotOk Γ F H v L s):a∈L:=by
 obtain ⟨s',v',L',q1,q2,q3,q4⟩:=o
 rw [h1] at q1; cases q1
 rw [h2] at q2; cases q2
 rw [h3.uniq q3]; exact q4
theorem Rel.ownH {Γ:Gm}{ρ:Rho}{σ:St}{F H:Hp}{i:Nat}{a:Addr}(o:OwnAt Γ ρ σ F H i a):∃ u,H a=some u:=by
 obtain ⟨s,v,L,h1,h2,h3,h4⟩:=o
 exact h3.there a h4
theorem SlotOk.okU {Γ:Gm}{F H:Hp}{v:V}{L:List Addr}{s:Slot}(h:SlotOk Γ F H v L s):∀ b∈L,∃ o,H b=some o∧PyD.okU o:=by
 cases s with
 | val d=>rw [h.2]; intro b hb; cases hb
 | exn b=>cases b <;> (rw [h.2]; intro b hb; cases hb)
 | own b d=>obtain ⟨a,z,c,hb⟩:=h; exact c.okU
theorem Rel.ownU {Γ:Gm}{ρ:Rho}{σ:St}{F H:Hp}{i:Nat}{a:Addr}(o:OwnAt Γ ρ σ F H i a):∃ u,H a=some u∧PyD.okU u:=by
 obtain ⟨s,v,L,h1,h2,h3,h4⟩:=o
 exact h3.okU a h4
theorem own_back {Γ:Gm}{ρ ρ':Rho}{σ σ':St}{F H F' H':Hp}(R:Rel Γ ρ σ F H)(e:Same F F')(j:Nat)(hρ:∀ s,ρ'[j]?=some (some s)→ρ[j]?=some (some s))(hσ:σ'[j]?=σ[j]?)(k:∀ b,OwnAt Γ ρ σ F H j b→∀ o,H b=some o→H' b=some o){a:Addr}(o:OwnAt Γ ρ' σ' F' H' j a):OwnAt Γ ρ σ F H j a:=by
 obtain ⟨s,v,L',q1,q2,q3,q4⟩:=o
 have q1':=hρ s q1
 obtain ⟨v',L,g1,g2⟩:=R.slot j s q1'
 rw [hσ,g1] at q2; cases q2
 have g3:SlotOk Γ F' H' v L s:=g2.mono e fun b hb=>k b ⟨s,v,L,q1',g1,g2,hb⟩
 exact ⟨s,v,L,q1',g1,g2,by rw [g3.uniq q3]; exact q4⟩
theorem slot_keep {Γ:Gm}{ρ:Rho}{σ σ':St}{F H F' H':Hp}(R:Rel Γ ρ σ F H)(e:Same F F')(j:Nat){s:Slot}(hρ:ρ[j]?=some (some s))(hσ:σ'[j]?=σ[j]?)(k:∀ b,OwnAt Γ ρ σ F H j b→∀ o,H b=some o→H' b=some o):∃ v L,σ'[j]?=some (some v)∧SlotOk Γ F' H' v L s:=by
 obtain ⟨v,L,g1,g2⟩:=R.slot j s hρ
 exact ⟨v,L,by rw [hσ]; exact g1,g2.mono e fun b hb=>k b ⟨s,v,L,hρ,g1,g2,hb⟩⟩
theorem Rel.slotV {Γ:Gm}{ρ:Rho}{σ:St}{F H:Hp}(R:Rel Γ ρ σ F H){i:Nat}{d:D}(h:ρ[i]?=some (some (.val d))):∃ v,σ[i]?=some (some v)∧Dp Γ.G F v d:=by
 obtain ⟨v,L,h1,h2,_⟩:=R.slot i _ h
 exact ⟨v,h1,h2⟩
theorem Rel.slotO {Γ:Gm}{ρ:Rho}{σ:St}{F H:Hp}(R:Rel Γ ρ σ F H){i:Nat}{b:Option Nat}{d:D}{v:V}(h:ρ[i]?=some (some (.own b d)))(hv:σ[i]?=some (some v)):∃ a L,v=.ref a∧Ct Γ.G F H a d L∧(∀ k,b=some k→a=Γ.β k)∧∀ c∈L,OwnAt Γ ρ σ F H i c:=by
 obtain ⟨v',L,h1,a,z,c,hb⟩:=R.slot i _ h
 rw [hv] at h1; cases h1
 exact ⟨a,L,z,c,hb,fun e he=>⟨_,v,L,h,hv,⟨a,z,c,hb⟩,he⟩⟩
theorem Stp.refl {Γ:Gm}{ρ:Rho}{σ:St}{F H:Hp}(r:Rel Γ ρ σ F H):Stp Γ ρ σ F H ρ σ F H :=
 ⟨r,Same.refl _,fun _ _=>rfl,fun _ o h=>⟨o,h⟩⟩
theorem Stp.trans {Γ:Gm}{ρ ρ1 ρ2:Rho}{σ σ1 σ2:St}{F H F1 H1 F2 H2:Hp}(a:Stp Γ ρ σ F H ρ1 σ1 F1 H1)(b:Stp Γ ρ1 σ1 F1 H1 ρ2 σ2 F2 H2):Stp Γ ρ σ F H ρ2 σ2 F2 H2 :=
 ⟨b.rel,a.subF.trans b.subF,fun c h=>(b.keep c h).trans (a.keep c h),fun c o h=>by
  obtain ⟨o',e⟩:=a.there c o h
  exact b.there c o' e⟩
structure Alc (F H F' H':Hp):Prop where
 subF:Same F F'
 subH:Same H H'
 fh:Same F' H'
 frn:∀ a o,H a=some o→F a=none→F' a=none
theorem Alc.refl {F H:Hp}(h:Same F H):Alc F H F H:=⟨Same.refl _,Same.refl _,h,fun _ _ _ h=>h⟩
theorem Alc.own {Γ:Gm}{ρ:Rho}{σ:St}{F H F' H':Hp}(r:Rel Γ ρ σ F H)(a:Alc F H F' H'){j:Nat}{c:Addr}(o:OwnAt Γ ρ σ F' H' j c):OwnAt Γ ρ σ F H j c :=
 own_back r a.subF j (fun _ q=>q) rfl (fun b _ u q=>a.subH b u q) o
theorem Alc.stp {Γ:Gm}{ρ:Rho}{σ:St}{F H F' H':Hp}(r:Rel Γ ρ σ F H)(a:Alc F H F' H'):Stp Γ ρ σ F H ρ σ F' H':=by
 refine ⟨⟨a.fh,fun i s h=>slot_keep r a.subF i h rfl fun b _ u q=>a.subH b u q,fun i j c h1 h2=>r.inj i j c (a.own r h1) (a.own r h2),fun i c h=>?_,r.len,Γ.Jm _ _ a.subF r.inv,fun c h=>?_,⟨r.tab.on.ext a.subH,r.tab.off,fun p hp=>let ⟨ps,e⟩:=tab_some r.tab.on hp; a.frn _ _ e (r.tab.fr p hp)⟩⟩,a.subF,fun c h=>?_,fun c o h=>⟨o,a.subH c o h⟩⟩
 ·have o:=a.own r h
  obtain ⟨h1,h2⟩:=r.own i c o
  obtain ⟨u,hu⟩:=Rel.ownH o
  exact ⟨a.frn c u hu h1,h2⟩
 ·obtain ⟨h1,o,h2⟩:=r.ali c h
  exact ⟨a.frn c o h2 h1,o,a.subH c o h2⟩
 ·obtain ⟨h1,o,h2⟩:=r.ali c h
  rw [h2,a.subH c o h2]
inductive Res where
 | val (d:D)
 | new (d:D)
 | at (i:Nat)
inductive ECl where
 | own (c:Nat)
 | blt (n:String)
structure Exc where
 c:ECl
 fs:List (Str×D)
inductive Out (α:Type) where
 | ok (a:α) (ρ:Rho)
 | exc (x:Exc) (ρ:Rho)
 | stuck
def ecV (G:Gx):ECl→Value
 | .own c=>.ref (G.cl c)
 | .blt n=>.type n
def ExcRep (G:Gx)(F H:Hp)(x:Exc):Option Addr→Prop
 | none=>x.fs=[]
 | some a=>∃ fvs,F a=some (.xd fvs)∧DpF G F fvs x.fs
def View (G:Gx)(F H:Hp)(v:V)(d:D):Prop:=Dp G F v d∨∃ a L,v=.ref a∧Ct G F H a d L
theorem View.of {G:Gx}{F H:Hp}{v:V}{d:D}(h:Dp G F v d):View G F H v d:=.inl h
theorem View.mono {G:Gx}{F H F' H':Hp}{v:V}{d:D}(e:Same F F')(k:Same H H')(h:View G F H v d):View G F' H' v d:=by
 rcases h with h | ⟨a,L,r,c⟩
 ·exact .inl (h.mono e)
 ·exact .inr ⟨a,L,r,c.mono e fun b _ o q=>k b o q⟩
def Fresh (Γ:Gm)(ρ:Rho)(σ:St)(F H:Hp)(L:List Addr):Prop:=∀ b∈L,F b=none∧¬ Γ.U b∧¬ Own Γ ρ σ F H b
def RepRes (Γ:Gm)(σ:St)(ρ:Rho)(F H:Hp)(v:V):Res→Prop
 | .val d=>Dp Γ.G F v d
 | .new d=>∃ a L,v=.ref a∧Ct Γ.G F H a d L∧Fresh Γ ρ σ F H L
 | .at i=>σ[i]?=some (some v)
def Post (Γ:Gm)(W:WX)(o:Out Res)(ρ:Rho)(σ:St)(F H:Hp)(Q:VK):Prop :=
 match o with
 | .ok r ρ'=>∀ v F' H',Stp Γ ρ σ F H ρ' σ F' H'→RepRes Γ σ ρ' F' H' v r→Q v H'
 | .exc x ρ'=>∀ d F' H',Stp Γ ρ σ F H ρ' σ F' H'→ExcRep Γ.G F' H' x d→W (ecV Γ.G x.c) d σ H'
 | .stuck=>False
abbrev M:=Rho→Out Res
def tM (Γ:Gm)(W:WX)(m:M):TE:=fun σ H Q=>∃ ρ F,Rel Γ ρ σ F H∧Post Γ W (m ρ) ρ σ F H Q
theorem _root_.L2.PE.imp {X:Cx}{e:Expr}{t t':TE}(h:PE X e t)(i:∀ σ H Q,t' σ H Q→t σ H Q):PE X e t':=⟨fun pins s σ H Q I q=>h.run pins s σ H Q I (i _ _ _ q)⟩
theorem _root_.L2.PT.imp {X:Cx}{e:Expr}{t t':TT}(h:PT X e t)(i:∀ σ H Q,t' σ H Q→t σ H Q):PT X e t':=⟨fun pins s σ H Q I q=>h.run pins s σ H Q I (i _ _ _ q)⟩
theorem _root_.L2.PA.imp {X:Cx}{e:List Expr}{t t':TA}(h:PA X e t)(i:∀ σ H Q,t' σ H Q→t σ H Q):PA X e t':=⟨fun pos pins s σ H Q I q=>h.run pos pins s σ H Q I (i _ _ _ q)⟩
theorem _root_.L2.PS.imp {X:Cx}{e:Stmt}{t t':TS}(h:PS X e t)(i:∀ D σ H,t' D σ H→t D σ H):PS X e t':=⟨fun pins s σ H D I q=>h.run pins s σ H D I (i _ _ _ q)⟩
theorem _root_.L2.PSs.imp {X:Cx}{e:List Stmt}{t t':TS}(h:PSs X e t)(i:∀ D σ H,t' D σ H→t D σ H):PSs X e t':=⟨fun pins s σ H D I q=>h.run pins s σ H D I (i _ _ _ q)⟩
def Res.frz:Res→Res
 | .new d=>.val (strip d)
 | r=>r
def frz (m:M):M:=fun ρ=>match m ρ with
 | .ok r ρ'=>.ok r.frz ρ'
 | .exc x ρ'=>.exc x ρ'
 | .stuck=>.stuck
theorem Rel.freeze {Γ:Gm}{ρ:Rho}{σ:St}{F H:Hp}{L:List Addr}(r:Rel Γ ρ σ F H)(n:∀ b∈L,F b=none∧¬ Γ.U b)(no:∀ b∈L,¬ Own Γ ρ σ F H b)(hk:∀ b∈L,∃ o,H b=some o∧okU o):Stp Γ ρ σ F H ρ σ (frzH F H L) H:=by
 have e:Same F (frzH F H L):=frzH_sub fun b hb=>(n b hb).1
 have bk:∀ j c,OwnAt Γ ρ σ (frzH F H L) H j c→OwnAt Γ ρ σ F H j c:=fun j c o=>own_back r e j (fun _ q=>q) rfl (fun _ _ _ q=>q) o
 refine ⟨⟨frzH_same r.sub,fun i s h=>slot_keep r e i h rfl fun _ _ _ q=>q,fun i j c h1 h2=>r.inj i j c (bk i c h1) (bk j c h2),fun i c h=>?_,r.len,Γ.Jm _ _ e r.inv,fun c h=>?_,r.tab.on,r.tab.off,fun p hp=>by
  obtain ⟨ps,e⟩:=tab_some r.tab.on hp
  rw [frzH_out fun z=>by
   obtain ⟨o,e2,q⟩:=hk _ z
   rw [e] at e2; cases e2; exact q.1 ps rfl]
  exact r.tab.fr p hp⟩,e,fun _ _=>rfl,fun c o h=>⟨o,h⟩⟩
 ·obtain ⟨h1,h2⟩:=r.own i c (bk i c h)
  exact ⟨by rw [frzH_out fun z=>no c z ⟨i,bk i c h⟩]; exact h1,h2⟩
 ·obtain ⟨h1,h2⟩:=r.ali c h
  exact ⟨by rw [frzH_out fun z=>(n c z).2 h]; exact h1,h2⟩
theorem Post.frz {Γ:Gm}{W:WX}{o:Out Res}{ρ:Rho}{σ:St}{F H:Hp}{Q:VK}(h:Post Γ W (match o with | .ok r ρ'=>.ok r.frz ρ' | .exc x ρ'=>.exc x ρ' | .stuck=>.stuck) ρ σ F H Q):Post Γ W o ρ σ F H Q:=by
 cases o with
 | ok r ρ' =>
  cases r with
  | new d =>
   intro v F' H' s r
   obtain ⟨a,L,rfl,c,fr⟩:=r
   have s2:=s.rel.freeze (L:=L) (fun b hb=>⟨(fr b hb).1,(fr b hb).2.1⟩) (fun b hb=>(fr b hb).2.2) c.okU
   exact h _ _ _ (s.trans s2) (c.freeze fun b hb=>(fr b hb).1)
  | val d=>exact h
  | «at» i=>exact h
 | exc x ρ'=>exact h
 | stuck=>exact h
def resolve (ρ:Rho):Res→Option D
 | .val d=>some d
 | .new d=>none
 | .at i=>match ρ[i]? with
  | some (some (.val d))=>some d
  | some (some (.own _ d))=>some d
  | _=>none
theorem resolve_view {Γ:Gm}{ρ:Rho}{σ:St}{F H:Hp}{v:V}{r:Res}{d:D}(R:Rel Γ ρ σ F H)(h:RepRes Γ σ ρ F H v r)(e:resolve ρ r=some d):View Γ.G F H v d:=by
 cases r with
 | val d'=>simp only [resolve,Option.some.injEq] at e; subst e; exact .inl h
 | new d'=>simp [resolve] at e
 | «at» i =>
  simp only [resolve] at e
  have h:σ[i]?=some (some v):=h
  split at e
  ·rename_i d' q
   cases e
   obtain ⟨v',L,h1,h2⟩:=R.slot i _ q
   rw [h] at h1; cases h1
   exact .inl h2.1
  ·rename_i b d' q
   cases e
   obtain ⟨v',L,h1,a,z,c,hb⟩:=R.slot i _ q
   rw [h] at h1; cases h1
   exact .inr ⟨a,L,z,c⟩
  ·cases e
section
variable {α β:Type}[DecidableEq α]
def gV (k:α):List (α×β)→Option β
 | []=>none
 | p::r=>if p.1=k then some p.2 else gV k r
def gP (k:α)(v:β):List (α×β)→List (α×β)
 | []=>[(k,v)]
 | p::r=>if p.1=k then (p.1,v)::r else p::gP k v r
def gU (k:α):List (α×β)→Bool
 | []=>true
 | p::r=>if p.1=k then r.all fun q=>decide (q.1≠k) else gU k r
def isKid:D→Bool
 | .kid _=>true
 | _=>false
def KdP (G:Gx)(F H:Hp)(kvs:List (α×V))(kds:List (α×D))(L:List Addr):Prop:=kvs.map (·.1)=kds.map (·.1)∧KdL G F H (kvs.map (·.2)) (kds.map (·.2)) L
variable {G:Gx}{F H H':Hp}
theorem kdp_get {k:α}:∀ {kvs:List (α×V)} {kds:List (α×D)} {L:List Addr} {d:D},KdP G F H kvs kds L→gV k kds=some d→∃ v L',gV k kvs=some v∧Kd G F H v d L'∧∀ b∈L',b∈L
 | [],[],_,_,_,e=>by simp [gV] at e
 | [],_::_,_,_,h,_=>by simpa using h.1
 | _::_,[],_,_,h,_=>by simpa using h.1
 | (k1,v)::r,(k2,w)::s,_,d,⟨h1,h2⟩,e=>by
  simp only [List.map_cons,List.cons.injEq] at h1
  obtain ⟨rfl,h1⟩:=h1
  simp only [List.map_cons] at h2
  simp only [gV] at e ⊢
  cases h2 with
  | cons a t dj =>
   split at e
   ·rename_i z; rw [if_pos z]; cases e; exact ⟨v,_,rfl,a,fun b hb=>List.mem_append_left _ hb⟩
   ·rename_i z; rw [if_neg z]
    obtain ⟨v',L',q1,q2,q3⟩:=kdp_get (k:=k) ⟨h1,t⟩ e
    exact ⟨v',L',q1,q2,fun b hb=>List.mem_append_right _ (q3 b hb)⟩
theorem kdp_put {k:α}{v:V}{d:D}{Ld:List Addr}(hd:Kd G F H v d Ld):∀ {kvs:List (α×V)} {kds:List (α×D)} {L:List Addr},KdP G F H kvs kds L→(∀ b∈Ld,b∉L)→∃ L',KdP G F H (gP k v kvs) (gP k d kds) L'∧∀ b∈L',b∈L∨b∈Ld
 | [],[],L,h,n=>⟨Ld++[],⟨rfl,.cons hd .nil (fun _ _ z=>by cases z)⟩,fun b hb=>.inr (by simpa using hb)⟩
 | [],_::_,_,h,_=>by simpa using h.1
 | _::_,[],_,h,_=>by simpa using h.1
 | (k1,v1)::r,(k2,w)::s,_,⟨h1,h2⟩,n=>by
  simp only [List.map_cons,List.cons.injEq] at h1
  obtain ⟨rfl,h1⟩:=h1
  simp only [List.map_cons] at h2
  simp only [gP]
  cases h2 with
  | cons a t dj =>
   rename_i L1 L2
   by_cases z:k1=k
   ·rw [if_pos z,if_pos z]
    exact ⟨Ld++L2,⟨by simp [h1],.cons hd t fun b hb q=>n b hb (List.mem_append_right _ q)⟩,fun b hb=>by
     rcases List.mem_append.mp hb with hb | hb
     ·exact .inr hb
     ·exact .inl (List.mem_append_right _ hb)⟩
   ·rw [if_neg z,if_neg z]
    obtain ⟨L',⟨q1,q2⟩,q3⟩:=kdp_put (k:=k) hd ⟨h1,t⟩ fun b hb q=>n b hb (List.mem_append_right _ q)
    exact ⟨L1++L',⟨by simp [q1],.cons a q2 fun b hb q=>by
     rcases q3 b q with q | q
     ·exact dj b hb q
     ·exact n b q (List.mem_append_left _ hb)⟩,fun b hb=>by
     rcases List.mem_append.mp hb with hb | hb
     ·exact .inl (List.mem_append_left _ hb)
     ·rcases q3 b hb with q | q
      ·exact .inl (List.mem_append_right _ q)
      ·exact .inr q⟩
theorem Kd.kid {v:V}{d:D}{L:List Addr}(h:Kd G F H v (.kid d) L):∃ a,v=.ref a∧Ct G F H a d L:=by
 cases h with
 | fz h=>exact (no_kid h).elim
 | ow h=>exact ⟨_,rfl,h⟩
theorem Kd.fz' {v:V}{d:D}{L:List Addr}(h:Kd G F H v d L)(n:isKid d=false):Dp G F v d∧L=[]:=by
 cases h with
 | fz h=>exact ⟨h,rfl⟩
 | ow h=>cases n
theorem kdp_in {k:α}{c:D}:∀ {kvs:List (α×V)} {kds:List (α×D)} {L:List Addr},KdP G F H kvs kds L→gV k kds=some (.kid c)→∃ a L',gV k kvs=some (.ref a)∧Ct G F H a c L'∧(∀ b∈L',b∈L) ∧
  ∀ H' c',(∀ b∈L,b∉L'→∀ o,H b=some o→H' b=some o)→Ct G F H' a c' L'→KdP G F H' kvs (gP k (.kid c') kds) L
 | [],[],_,_,e=>by simp [gV] at e
 | [],_::_,_,h,_=>by simpa using h.1
 | _::_,[],_,h,_=>by simpa using h.1
 | (k1,v)::r,(k2,w)::s,_,⟨h1,h2⟩,e=>by
  simp only [List.map_cons,List.cons.injEq] at h1
  obtain ⟨rfl,h1⟩:=h1
  simp only [List.map_cons] at h2
  simp only [gV] at e ⊢
  cases h2 with
  | cons a t dj =>
   rename_i L1 L2
   simp only [gP]
   split at e
   ·rename_i z
    rw [if_pos z]; cases e
    obtain ⟨x,rfl,ct⟩:=a.kid
    refine ⟨x,L1,rfl,ct,fun b hb=>List.mem_append_left _ hb,fun H' c' kp ct'=>⟨by simp [h1,z],?_⟩⟩
    rw [if_pos z]
    exact .cons (.ow ct') (t.mono (Same.refl _) fun b hb=>kp b (List.mem_append_right _ hb) fun q=>dj b q hb) dj
   ·rename_i z
    rw [if_neg z]
    obtain ⟨x,L',q1,q2,q3,q4⟩:=kdp_in (k:=k) ⟨h1,t⟩ e
    refine ⟨x,L',q1,q2,fun b hb=>List.mem_append_right _ (q3 b hb),fun H' c' kp ct'=>?_⟩
    have q5:=q4 H' c' (fun b hb=>kp b (List.mem_append_right _ hb)) ct'
    rw [if_neg z]
    exact ⟨by simp [q5.1],.cons (a.mono (Same.refl _) fun b hb=>kp b (List.mem_append_left _ hb) fun q=>dj b hb (q3 b q)) q5.2 dj⟩
theorem View.dctO {v:V}{kds:List (Key×D)}(h:View G F H v (.dctO kds)):∃ a kvs L,v=.ref a∧H a=some (.dK kvs)∧KdP G F H kvs kds L:=by
 rcases h with h | ⟨a,L,rfl,c⟩
 ·cases h
 ·cases c with
  | flat c=>exact c.elim
  | dct h e t n=>exact ⟨a,_,_,rfl,h,e,t⟩
theorem View.objO {v:V}{c:Nat}{fds:List (Str×D)}(h:View G F H v (.objO c fds)):∃ a dx fvs L,v=.ref a∧H a=some (.ins (G.cl c) dx fvs)∧KdP G F H fvs fds L:=by
 rcases h with h | ⟨a,L,rfl,c⟩
 ·cases h
 ·cases c with
  | flat c=>exact c.elim
  | obj h e t n=>exact ⟨a,_,_,_,rfl,h,e,t⟩
theorem gU_keys {β':Type}{k:α}:∀ {xs:List (α×β)} {ys:List (α×β')},xs.map (·.1)=ys.map (·.1)→gU k xs=gU k ys
 | [],[],_=>rfl
 | [],_::_,h=>by simp at h
 | _::_,[],h=>by simp at h
 | (k1,v)::r,(k2,w)::s,h=>by
  simp only [List.map_cons,List.cons.injEq] at h
  obtain ⟨rfl,h⟩:=h
  simp only [gU]
  have e:(r.all fun q=>decide (q.1≠k))=(s.all fun q=>decide (q.1≠k)):=by
   have:=congrArg (fun l=>l.all fun q=>decide (q≠k)) h
   simpa [List.all_map,Function.comp_def] using this
  rw [e,gU_keys (k:=k) h]
theorem valV_g {k:Key}:∀ kvs:List (Key×V),valV kvs k=gV k kvs
 | []=>rfl
 | p::r=>by
  simp only [gV]
  by_cases z:p.1=k
  ·rw [if_pos z]; simp [valV,z]
  ·rw [if_neg z,← valV_g r]; simp [valV,z]
theorem putK_g {k:Key}{v:V}:∀ kvs:List (Key×V),gU k kvs=true→putK kvs k v=gP k v kvs
 | [],_=>rfl
 | p::r,u=>by
  simp only [gU] at u
  simp only [gP]
  by_cases z:p.1=k
  ·rw [if_pos z] at u
   rw [if_pos z]
   have e:r.map (fun kv=>if kv.1=k then (kv.1,v) else kv)=r:=by
    conv=>rhs; rw [← List.map_id r]
    refine List.map_congr_left fun q hq=>?_
    have:=List.all_eq_true.mp u q hq
    simp only [ne_eq,decide_not,Bool.not_eq_eq_eq_not,Bool.not_true,decide_eq_false_iff_not] at this
    rw [if_neg this]; rfl
   simp [putK,z,e]
  ·rw [if_neg z] at u
   rw [if_neg z,← putK_g r u]
   simp only [putK,List.any_cons,z,decide_false,Bool.false_or,List.map_cons,if_false]
   split <;> simp
end
def RepF (G:Gx)(σ:St)(F:Hp)(v:V):Res→Prop
 | .val d=>Dp G F v d
 | .new _=>False
 | .at i=>σ[i]?=some (some v)
theorem RepF.mono {G:Gx}{σ:St}{F F':Hp}{v:V}{r:Res}(e:Same F F')(h:RepF G σ F v r):RepF G σ F' v r:=by
 cases r with
 | val d=>exact Dp.mono e h
 | new d=>exact h
 | «at» i=>exact h
theorem RepF.view {Γ:Gm}{ρ:Rho}{σ:St}{F H:Hp}{v:V}{r:Res}{d:D}(R:Rel Γ ρ σ F H)(h:RepF Γ.G σ F v r)(e:resolve ρ r=some d):View Γ.G F H v d:=by
 refine resolve_view R ?_ e
 cases r with
 | val d=>exact h
 | new d=>exact h.elim
 | «at» i=>exact h
def PostF (Γ:Gm)(W:WX)(o:Out Res)(ρ:Rho)(σ:St)(F H:Hp)(Q:VK):Prop :=
 match o with
 | .ok r ρ'=>∀ v F' H',Stp Γ ρ σ F H ρ' σ F' H'→RepF Γ.G σ F' v r.frz→Q v H'
 | .exc x ρ'=>∀ d F' H',Stp Γ ρ σ F H ρ' σ F' H'→ExcRep Γ.G F' H' x d→W (ecV Γ.G x.c) d σ H'
 | .stuck=>False
theorem PostF.post {Γ:Gm}{W:WX}{o:Out Res}{ρ:Rho}{σ:St}{F H:Hp}{Q:VK}(h:PostF Γ W o ρ σ F H Q):Post Γ W o ρ σ F H Q:=by
 apply Post.frz
 cases o with
 | ok r ρ' =>
  intro v F' H' s q
  refine h v F' H' s ?_
  cases r with
  | val d=>exact q
  | new d=>exact q
  | «at» i=>exact q
 | exc x ρ'=>exact h
 | stuck=>exact h
def tF (Γ:Gm)(W:WX)(m:M):TE:=fun σ H Q=>∃ ρ F,Rel Γ ρ σ F H∧PostF Γ W (m ρ) ρ σ F H Q
theorem je_f {X:Cx}{Γ:Gm}{W:WX}{e:Expr}{m:M}(h:PE X e (tM Γ W m)):PE X e (tF Γ W m):=h.imp fun σ H Q ⟨ρ,F,r,p⟩=>⟨ρ,F,r,p.post⟩
theorem Post.shift {Γ:Gm}{W:WX}{o:Out Res}{ρ ρ2:Rho}{σ:St}{F H F2 H2:Hp}{Q:VK}(s:Stp Γ ρ σ F H ρ2 σ F2 H2)(h:Post Γ W o ρ σ F H Q):Post Γ W o ρ2 σ F2 H2 Q:=by
 cases o with
 | ok r ρ'=>exact fun v F' H' s2 q=>h v F' H' (s.trans s2) q
 | exc x ρ'=>exact fun d F' H' s2 q=>h d F' H' (s.trans s2) q
 | stuck=>exact h
def bindO {α β:Type}(o:Out α)(k:α→Rho→Out β):Out β:=match o with
 | .ok a ρ=>k a ρ
 | .exc x ρ=>.exc x ρ
 | .stuck=>.stuck
def bindF {β:Type}(o:Out Res)(k:Res→Rho→Out β):Out β:=match o with
 | .ok a ρ=>k a.frz ρ
 | .exc x ρ=>.exc x ρ
 | .stuck=>.stuck
theorem Post.bindF {Γ:Gm}{W:WX}{o:Out Res}{k:Res→Rho→Out Res}{ρ:Rho}{σ:St}{F H:Hp}{Q Q1:VK}(h:Post Γ W (bindF o k) ρ σ F H Q)
  (hk:∀ r ρ1 v F1 H1,Stp Γ ρ σ F H ρ1 σ F1 H1→RepF Γ.G σ F1 v r→Post Γ W (k r ρ1) ρ1 σ F1 H1 Q→Q1 v H1):PostF Γ W o ρ σ F H Q1:=by
 cases o with
 | ok r ρ'=>exact fun v F' H' s q=>hk r.frz ρ' v F' H' s q (h.shift s)
 | exc x ρ'=>exact h
 | stuck=>exact h
def RepNew (G:Gx)(H F' H':Hp)(v:V):Res→Prop
 | .val d=>Dp G F' v d
 | .new d=>∃ a,v=.ref a∧F' a=none∧Cell G F' H' a d∧H a=none
 | .at _=>False
def BinOk (G:Gx)(r:R2)(f:D→D→Option Res):Prop:=∀ F H x y dx dy res Q,Same F H→View G F H x dx→View G F H y dy→f dx dy=some res →
 (∀ v F' H',Alc F H F' H'→RepNew G H F' H' v res→Q v H')→r x y H Q
def UnOk (G:Gx)(r:V→Hp→VK→Prop)(f:D→Option Res):Prop:=∀ F H x dx res Q,Same F H→View G F H x dx→f dx=some res →
 (∀ v F' H',Alc F H F' H'→RepNew G H F' H' v res→Q v H')→r x H Q
theorem fresh_new {Γ:Gm}{ρ:Rho}{σ:St}{F H F' H':Hp}{a:Addr}(R:Rel Γ ρ σ F H)(al:Alc F H F' H')(n:F' a=none)(hn:H a=none):Fresh Γ ρ σ F' H' [a]:=fun b hb=>by
 obtain rfl:b=a:=by simpa using hb
 refine ⟨n,fun z=>?_,fun ⟨j,z⟩=>?_⟩
 ·obtain ⟨_,o,h⟩:=R.ali b z; rw [hn] at h; cases h
 ·obtain ⟨u,hu⟩:=Rel.ownH (al.own R z); rw [hn] at hu; cases hu
theorem fin_new {Γ:Gm}{W:WX}{ρ:Rho}{σ:St}{F H:Hp}{Q:VK}{res:Res}(R:Rel Γ ρ σ F H)(h:Post Γ W (.ok res ρ) ρ σ F H Q):∀ v F' H',Alc F H F' H'→RepNew Γ.G H F' H' v res→Q v H':=fun v F' H' al q=>by
 refine h v F' H' (al.stp R) ?_
 cases res with
 | val d=>exact q
 | «at» i=>exact q.elim
 | new d =>
  obtain ⟨a,e,n,c,hn⟩:=q
  exact ⟨a,[a],e,.flat c,fresh_new R al n hn⟩
def op1 (f:D→Option Res)(a:Res)(ρ:Rho):Out Res:=match resolve ρ a with
 | some x=>(match f x with | some r=>.ok r ρ | none=>.stuck)
 | none=>.stuck
def op2 (f:D→D→Option Res)(a b:Res)(ρ:Rho):Out Res:=match resolve ρ a,resolve ρ b with
 | some x,some y=>(match f x y with | some r=>.ok r ρ | none=>.stuck)
 | _,_=>.stuck
theorem op2_ok {Γ:Gm}{W:WX}{r:R2}{f:D→D→Option Res}{a b:Res}{ρ:Rho}{σ:St}{F H:Hp}{Q:VK}{x y:V}(hf:BinOk Γ.G r f)(R:Rel Γ ρ σ F H)(ha:RepF Γ.G σ F x a)(hb:RepF Γ.G σ F y b)(h:Post Γ W (op2 f a b ρ) ρ σ F H Q):r x y H Q:=by
 unfold op2 at h
 split at h
 ·rename_i dx dy e1 e2
  split at h
  ·rename_i res e3
   exact hf F H x y dx dy res Q R.sub (ha.view R e1) (hb.view R e2) e3 (fin_new R h)
  ·exact h.elim
 ·exact h.elim
theorem op1_ok {Γ:Gm}{W:WX}{r:V→Hp→VK→Prop}{f:D→Option Res}{a:Res}{ρ:Rho}{σ:St}{F H:Hp}{Q:VK}{x:V}(hf:UnOk Γ.G r f)(R:Rel Γ ρ σ F H)(ha:RepF Γ.G σ F x a)(h:Post Γ W (op1 f a ρ) ρ σ F H Q):r x H Q:=by
 unfold op1 at h
 split at h
 ·rename_i dx e1
  split at h
  ·rename_i res e3
   exact hf F H x dx res Q R.sub (ha.view R e1) e3 (fin_new R h)
  ·exact h.elim
 ·exact h.elim
def mBin (f:D→D→Option Res)(ma mb:M):M:=fun ρ=>bindF (ma ρ) fun a ρ1=>bindF (mb ρ1) fun b ρ2=>op2 f a b ρ2
def mUn (f:D→Option Res)(ma:M):M:=fun ρ=>bindF (ma ρ) fun a ρ1=>op1 f a ρ1
theorem tOp_ok {Γ:Gm}{W:WX}{r:R2}{f:D→D→Option Res}{ma mb:M}(hf:BinOk Γ.G r f):∀ σ H Q,tM Γ W (mBin f ma mb) σ H Q→tOp r (tF Γ W ma) (tF Γ W mb) σ H Q:=by
 intro σ H Q ⟨ρ,F,R,p⟩
 refine ⟨ρ,F,R,p.bindF fun a ρ1 x F1 H1 s1 ha p1=>⟨ρ1,F1,s1.rel,p1.bindF fun b ρ2 y F2 H2 s2 hb p2=>?_⟩⟩
 exact op2_ok hf s2.rel (ha.mono s2.subF) hb p2
theorem tUn_ok {Γ:Gm}{W:WX}{r:V→Hp→VK→Prop}{f:D→Option Res}{ma:M}(hf:UnOk Γ.G r f):∀ σ H Q,tM Γ W (mUn f ma) σ H Q→tUn r (tF Γ W ma) σ H Q:=by
 intro σ H Q ⟨ρ,F,R,p⟩
 exact ⟨ρ,F,R,p.bindF fun a ρ1 x F1 H1 s1 ha p1=>op1_ok hf s1.rel ha p1⟩
section
variable {X:Cx}{Γ:Gm}{W:WX}{a b:Expr}{ma mb:M}{pos:Pos}
theorem je_bin {op:Operator}{r:R2}{f:D→D→Option Res}(ho:OpR X (binaryOp op) r)(hf:BinOk Γ.G r f)(ha:PE X a (tM Γ W ma))(hb:PE X b (tM Γ W mb)):PE X (.BinOp a op b pos) (tM Γ W (mBin f ma mb)) :=
 (pe_op ho (je_f ha) (je_f hb)).imp (tOp_ok hf)
theorem je_cmp {op:CmpOp}{r:R2}{f:D→D→Option Res}(ho:OpR X (compareOp op) r)(hf:BinOk Γ.G r f)(ha:PE X a (tM Γ W ma))(hb:PE X b (tM Γ W mb))(hm:behindInMarks op b=false):PE X (.Compare a [op] [b] pos) (tM Γ W (mBin f ma mb)) :=
 (pe_cmpR ho (je_f ha) (je_f hb) hm).imp (tOp_ok hf)
theorem je_un {op:UnaryOp}{r:V→Hp→VK→Prop}{f:D→Option Res}(ho:UnR X (unaryOp op) r)(hf:UnOk Γ.G r f)(ha:PE X a (tM Γ W ma)):PE X (.UnaryOp op a pos) (tM Γ W (mUn f ma)) :=
 (pe_un ho (je_f ha)).imp (tUn_ok hf)
end
def OrR (r r':R2):R2:=fun x y H Q=>r x y H Q∨r' x y H Q
def orF (f g:D→D→Option Res):D→D→Option Res:=fun a b=>match f a b with
 | some r=>some r
 | none=>g a b
theorem BinOk.or {G:Gx}{r r':R2}{f g:D→D→Option Res}(h:BinOk G r f)(h':BinOk G r' g):BinOk G (OrR r r') (orF f g):=fun F H x y dx dy res Q e vx vy q k=>by
 unfold orF at q
 split at q
 ·rename_i z w
  cases q
  exact .inl (h F H x y dx dy _ Q e vx vy w k)
 ·exact .inr (h' F H x y dx dy res Q e vx vy q k)
theorem Alc.tup {F H:Hp}{p:Addr}{o:HO}(e:Same F H)(n:H p=none):Alc F H (upd F p o) (upd H p o):=by
 have nF:F p=none:=Same.free e n
 refine ⟨fun b u q=>by rw [upd_ne (ne_of_none q nF)]; exact q,fun b u q=>by rw [upd_ne (ne_of_none q n)]; exact q,fun b u q=>?_,fun b u q f=>by rw [upd_ne (ne_of_none q n)]; exact f⟩
 by_cases z:b=p
 ·subst z; rw [upd_same] at q ⊢; exact q
 ·rw [upd_ne z] at q ⊢; exact e b u q
theorem Alc.cell {F H:Hp}{p:Addr}{o:HO}(e:Same F H)(n:H p=none):Alc F H F (upd H p o) :=
 ⟨Same.refl _,fun b u q=>by rw [upd_ne (ne_of_none q n)]; exact q,fun b u q=>by rw [upd_ne (ne_of_none (e b u q) n)]; exact e b u q,fun _ _ _ f=>f⟩
theorem View.int {G:Gx}{F H:Hp}{v:V}{i:Int}(h:View G F H v (.int i)):v=.int i:=by
 rcases h with h | ⟨a,L,e,c⟩
 ·cases h; rfl
 ·cases c with | flat c=>exact c.elim
theorem View.bl {G:Gx}{F H:Hp}{v:V}{i:Bool}(h:View G F H v (.bl i)):v=.bl i:=by
 rcases h with h | ⟨a,L,e,c⟩
 ·cases h; rfl
 ·cases c with | flat c=>exact c.elim
theorem View.str {G:Gx}{F H:Hp}{v:V}{i:Str}(h:View G F H v (.str i)):v=.str i:=by
 rcases h with h | ⟨a,L,e,c⟩
 ·cases h; rfl
 ·cases c with | flat c=>exact c.elim
theorem View.non {G:Gx}{F H:Hp}{v:V}(h:View G F H v .non):v=.non:=by
 rcases h with h | ⟨a,L,e,c⟩
 ·cases h; rfl
 ·cases c with | flat c=>exact c.elim
theorem View.lst {G:Gx}{F H:Hp}{v:V}{ds:List D}(s:Same F H)(h:View G F H v (.lst ds)):∃ a vs,v=.ref a∧H a=some (.lst vs)∧DpL G F vs ds:=by
 rcases h with h | ⟨a,L,e,c⟩
 ·cases h with | lst h t=>exact ⟨_,_,rfl,s _ _ h,t⟩
 ·cases c with | flat c=>obtain ⟨vs,c,t⟩:=c; exact ⟨a,vs,e,c,t⟩
theorem View.tup {G:Gx}{F H:Hp}{v:V}{ds:List D}(s:Same F H)(h:View G F H v (.tup ds)):∃ a vs,v=.ref a∧SqT G.K H a vs∧DpL G F vs ds:=by
 rcases h with h | ⟨a,L,e,c⟩
 ·cases h with | tup h t=>exact ⟨_,_,rfl,sqT_ext h s,t⟩
 ·cases c with | flat c=>exact c.elim
theorem View.scr {G:Gx}{F H:Hp}{v:V}{ns:List Int}(s:Same F H)(h:View G F H v (.scr ns)):∃ a,v=.ref a∧SqL G.K H a (ns.map V.int):=by
 rcases h with h | ⟨a,L,e,c⟩
 ·cases h with | scr h=>exact ⟨_,rfl,s.seq h⟩
 ·cases c with | flat c=>exact c.elim
theorem View.dct {G:Gx}{F H:Hp}{v:V}{ds:List (Key×D)}(s:Same F H)(h:View G F H v (.dct ds)):∃ a vs,v=.ref a∧H a=some (.dK vs)∧DpK G F vs ds:=by
 rcases h with h | ⟨a,L,e,c⟩
 ·cases h with | dct h t=>exact ⟨_,_,rfl,s _ _ h,t⟩
 ·cases c with | flat c=>obtain ⟨vs,c,t⟩:=c; exact ⟨a,vs,e,c,t⟩
theorem View.obj {G:Gx}{F H:Hp}{v:V}{c:Nat}{ds:List (Str×D)}(s:Same F H)(h:View G F H v (.obj c ds)):∃ a dx vs,v=.ref a∧H a=some (.ins (G.cl c) dx vs)∧DpF G F vs ds:=by
 rcases h with h | ⟨a,L,e,c⟩
 ·cases h with | obj h t=>exact ⟨_,_,_,rfl,s _ _ h,t⟩
 ·cases c with | flat c=>obtain ⟨dx,vs,c,t⟩:=c; exact ⟨a,dx,vs,e,c,t⟩
def fII (C:Int→Int→Bool)(g:Int→Int→D):D→D→Option Res
 | .int i,.int j=>if C i j then some (.val (g i j)) else none
 | _,_=>none
theorem bin_II {G:Gx}{C:Int→Int→Prop}{c:Int→Int→Bool}{g:Int→Int→V}{g':Int→Int→D}(hc:∀ i j,c i j=true→C i j)(hg:∀ i j F,Dp G F (g i j) (g' i j)):BinOk G (rI C g) (fII c g'):=by
 intro F H x y dx dy res Q e vx vy q k
 unfold fII at q
 split at q
 ·split at q
  ·rename_i i j w
   cases q
   exact ⟨i,j,vx.int,vy.int,hc i j w,k _ F H (.refl e) (hg i j F)⟩
  ·cases q
 ·cases q
theorem bin_I0 {G:Gx}{g:Int→Int→V}{g':Int→Int→D}(hg:∀ i j F,Dp G F (g i j) (g' i j)):BinOk G (rI0 g) (fII (fun _ _=>true) g'):=by
 intro F H x y dx dy res Q e vx vy q k
 unfold fII at q
 split at q
 ·rename_i i j
  simp only [if_true,Option.some.injEq] at q
  cases q
  exact ⟨i,j,vx.int,vy.int,k _ F H (.refl e) (hg i j F)⟩
 ·cases q
def fAddS:D→D→Option Res
 | .str i,.str j=>if i.length+j.length≤sizeLine then some (.val (.str (i++j))) else none
 | _,_=>none
def fAddL:D→D→Option Res
 | .lst i,.lst j=>if i.length+j.length≤sizeLine then some (.new (.lst (i++j))) else none
 | _,_=>none
def fAddT:D→D→Option Res
 | .tup i,.tup j=>if i.length+j.length≤sizeLine then some (.val (.tup (i++j))) else none
 | _,_=>none
abbrev MB:=Rho→Out Bool
def PostB (Γ:Gm)(W:WX)(o:Out Bool)(ρ:Rho)(σ:St)(F H:Hp)(Q:Bool→Hp→Prop):Prop :=
 match o with
 | .ok b ρ'=>∀ F' H',Stp Γ ρ σ F H ρ' σ F' H'→Q b H'
 | .exc x ρ'=>∀ d F' H',Stp Γ ρ σ F H ρ' σ F' H'→ExcRep Γ.G F' H' x d→W (ecV Γ.G x.c) d σ H'
 | .stuck=>False
def tMB (Γ:Gm)(W:WX)(m:MB):TT:=fun σ H Q=>∃ ρ F,Rel Γ ρ σ F H∧PostB Γ W (m ρ) ρ σ F H Q
theorem PostB.shift {Γ:Gm}{W:WX}{o:Out Bool}{ρ ρ2:Rho}{σ:St}{F H F2 H2:Hp}{Q:Bool→Hp→Prop}(s:Stp Γ ρ σ F H ρ2 σ F2 H2)(h:PostB Γ W o ρ σ F H Q):PostB Γ W o ρ2 σ F2 H2 Q:=by
 cases o with
 | ok r ρ'=>exact fun F' H' s2=>h F' H' (s.trans s2)
 | exc x ρ'=>exact fun d F' H' s2 q=>h d F' H' (s.trans s2) q
 | stuck=>exact h
theorem PostB.bindF {Γ:Gm}{W:WX}{o:Out Res}{k:Res→Rho→Out Bool}{ρ:Rho}{σ:St}{F H:Hp}{Q:Bool→Hp→Prop}{Q1:VK}(h:PostB Γ W (bindF o k) ρ σ F H Q)
  (hk:∀ r ρ1 v F1 H1,Stp Γ ρ σ F H ρ1 σ F1 H1→RepF Γ.G σ F1 v r→PostB Γ W (k r ρ1) ρ1 σ F1 H1 Q→Q1 v H1):PostF Γ W o ρ σ F H Q1:=by
 cases o with
 | ok r ρ'=>exact fun v F' H' s q=>hk r.frz ρ' v F' H' s q (h.shift s)
 | exc x ρ'=>exact h
 | stuck=>exact h
theorem PostB.bindB {Γ:Gm}{W:WX}{o:Out Bool}{k:Bool→Rho→Out Bool}{ρ:Rho}{σ:St}{F H:Hp}{Q Q1:Bool→Hp→Prop}(h:PostB Γ W (bindO o k) ρ σ F H Q)
  (hk:∀ r ρ1 F1 H1,Stp Γ ρ σ F H ρ1 σ F1 H1→PostB Γ W (k r ρ1) ρ1 σ F1 H1 Q→Q1 r H1):PostB Γ W o ρ σ F H Q1:=by
 cases o with
 | ok r ρ'=>exact fun F' H' s=>hk r ρ' F' H' s (h.shift s)
 | exc x ρ'=>exact h
 | stuck=>exact h
theorem Post.bindB {Γ:Gm}{W:WX}{o:Out Bool}{k:Bool→Rho→Out Res}{ρ:Rho}{σ:St}{F H:Hp}{Q:VK}{Q1:Bool→Hp→Prop}(h:Post Γ W (bindO o k) ρ σ F H Q)
  (hk:∀ r ρ1 F1 H1,Stp Γ ρ σ F H ρ1 σ F1 H1→Post Γ W (k r ρ1) ρ1 σ F1 H1 Q→Q1 r H1):PostB Γ W o ρ σ F H Q1:=by
 cases o with
 | ok r ρ'=>exact fun F' H' s=>hk r ρ' F' H' s (h.shift s)
 | exc x ρ'=>exact h
 | stuck=>exact h
def truD:D→Option Bool
 | .non=>some false
 | .bl b=>some b
 | .int i=>some (i != 0)
 | .str y=>if y.length≤sizeLine then some ((y.length:Int) != 0) else none
 | .lst xs=>some (!xs.isEmpty)
 | .tup xs=>some (!xs.isEmpty)
 | .dct xs=>some (!xs.isEmpty)
 | _=>none
theorem DpL.isEmpty {G:Gx}{F:Hp}{vs:List V}{ds:List D}(h:DpL G F vs ds):ds.isEmpty=vs.isEmpty:=by cases h <;> rfl
theorem DpK.isEmpty {G:Gx}{F:Hp}{vs:List (Key×V)}{ds:List (Key×D)}(h:DpK G F vs ds):ds.isEmpty=vs.isEmpty:=by cases h <;> rfl
theorem truD_ok {G:Gx}{F H:Hp}{v:V}{d:D}{k:Bool}(s:Same F H)(h:View G F H v d)(e:truD d=some k):TruV G.K v H k:=by
 cases d with
 | non=>rw [h.non]; simpa [truD,eq_comm,TruV] using e
 | bl b=>rw [h.bl]; simpa [truD,eq_comm,TruV] using e
 | int i=>rw [h.int]; simp only [truD,Option.some.injEq] at e; exact e.symm
 | str y =>
  rw [h.str]
  simp only [truD] at e
  split at e
  ·cases e; exact ⟨by assumption,rfl⟩
  ·cases e
 | lst xs =>
  obtain ⟨a,vs,rfl,h1,h2⟩:=h.lst s
  simp only [truD,Option.some.injEq] at e
  exact .inl ⟨vs,SqL.of h1,by rw [← e,h2.isEmpty]⟩
 | tup xs =>
  obtain ⟨a,vs,rfl,h1,h2⟩:=h.tup s
  simp only [truD,Option.some.injEq] at e
  exact .inr (.inl ⟨vs,h1,by rw [← e,h2.isEmpty]⟩)
 | dct xs =>
  obtain ⟨a,vs,rfl,h1,h2⟩:=h.dct s
  simp only [truD,Option.some.injEq] at e
  exact .inr (.inr ⟨vs,h1,by rw [← e,h2.isEmpty]⟩)
 | _=>simp [truD] at e
def truR (a:Res)(ρ:Rho):Out Bool:=match resolve ρ a with
 | some d=>(match truD d with | some k=>.ok k ρ | none=>.stuck)
 | none=>.stuck
def mTru (m:M):MB:=fun ρ=>bindF (m ρ) fun a ρ1=>truR a ρ1
def blR (a:Res)(ρ:Rho):Out Bool:=match a with
 | .val (.bl k)=>.ok k ρ
 | .at i=>(match ρ[i]? with | some (some (.val (.bl k)))=>.ok k ρ | _=>.stuck)
 | _=>.stuck
def mBl (m:M):MB:=fun ρ=>bindF (m ρ) fun a ρ1=>blR a ρ1
theorem blR_ok {Γ:Gm}{W:WX}{a:Res}{ρ:Rho}{σ:St}{F H:Hp}{Q:Bool→Hp→Prop}{v:V}(R:Rel Γ ρ σ F H)(ha:RepF Γ.G σ F v a)(h:PostB Γ W (blR a ρ) ρ σ F H Q):∃ k,v=.bl k∧Q k H:=by
 unfold blR at h
 split at h
 ·rename_i k
  cases ha
  exact ⟨k,rfl,h F H (.refl R)⟩
 ·rename_i i
  split at h
  ·rename_i k e
   obtain ⟨v',h1,h2⟩:=R.slotV e
   have ha:σ[i]?=some (some v):=ha
   rw [ha] at h1; cases h1
   cases h2
   exact ⟨k,rfl,h F H (.refl R)⟩
  ·exact h.elim
 ·exact h.elim
section
variable {X:Cx}{Γ:Gm}{W:WX}{a b c:Expr}{ma mb mc:M}{ta tb:MB}{pos:Pos}{rest:List Expr}
theorem jt_tru (hK:X.K=Γ.G.K)(ha:PE X a (tM Γ W ma))(he:∀ whole,isTrue a X.env whole=(do let v ← whole; standAt a.pos; holding [v] (truthy v)):=by intro _; rfl):PT X a (tMB Γ W (mTru ma)) :=
 (pt_truth (je_f ha) he).imp fun σ H Q ⟨ρ,F,R,p⟩=>⟨ρ,F,R,p.bindF fun r ρ1 v F1 H1 s1 hr p1=>by
  unfold truR at p1
  split at p1
  ·rename_i d e
   split at p1
   ·rename_i k e2
    exact ⟨k,by rw [hK]; exact truD_ok s1.rel.sub (hr.view s1.rel e) e2,p1 F1 H1 (.refl s1.rel)⟩
   ·exact p1.elim
  ·exact p1.elim⟩
def mBinB (f:D→D→Option Res)(ma mb:M):MB:=mBl (mBin f ma mb)
theorem fin_bl' {Γ:Gm}{W:WX}{o:Out Res}{ρ:Rho}{σ:St}{F H:Hp}{Q:Bool→Hp→Prop}(h:PostB Γ W (PyD.bindF o fun a ρ1=>blR a ρ1) ρ σ F H Q):Post Γ W o ρ σ F H (fun z H3=>∃ k,z=.bl k∧Q k H3) :=
 (PostB.bindF h fun r ρ1 v F1 H1 s1 hr p1=>blR_ok s1.rel hr p1).post
theorem jt_cmp {op:CmpOp}{r:R2}{f:D→D→Option Res}(ho:OpR X (compareOp op) r)(hf:BinOk Γ.G r f)(ha:PE X a (tM Γ W ma))(hb:PE X b (tM Γ W mb))(hm:behindInMarks op b=false):PT X (.Compare a [op] [b] pos) (tMB Γ W (mBinB f ma mb)) :=
 (pt_cmpR ho (je_f ha) (je_f hb) hm).imp fun σ H Q ⟨ρ,F,R,p⟩=>tOp_ok hf σ H _ ⟨ρ,F,R,fin_bl' p⟩
def mChain (f g:D→D→Option Res)(ma mb mc:M):M:=fun ρ=>bindF (ma ρ) fun a ρ1=>bindF (mb ρ1) fun b ρ2=>bindF (op2 f a b ρ2) fun z ρ3=>bindO (blR z ρ3) fun k ρ3 =>
 if k=true then bindF (mc ρ3) fun c ρ4=>op2 g b c ρ4 else .ok (.val (.bl false)) ρ3
theorem chain_ok {r r':R2}{f g:D→D→Option Res}(hf:BinOk Γ.G r f)(hg:BinOk Γ.G r' g):∀ σ H Q,tM Γ W (mChain f g ma mb mc) σ H Q→tChain r r' (tF Γ W ma) (tF Γ W mb) (tF Γ W mc) σ H Q:=by
 intro σ H Q ⟨ρ,F,R,p⟩
 refine ⟨ρ,F,R,p.bindF fun a ρ1 x F1 H1 s1 ha p1=>⟨ρ1,F1,s1.rel,p1.bindF fun b ρ2 y F2 H2 s2 hb p2=>?_⟩⟩
 refine op2_ok (W:=W) hf s2.rel (ha.mono s2.subF) hb (PostF.post (p2.bindF fun z ρ3 v F3 H3 s3 hz p3=>?_))
 obtain ⟨k,e,q⟩:=blR_ok s3.rel hz (p3.bindB (Q1:=fun k H'=>if k=true then tF Γ W mc σ H' fun w' H4=>r' y w' H4 Q else Q (.bl false) H') fun k ρ4 F4 H4 s4 p4=>by
  by_cases hk:k=true
  ·simp only [hk,if_true] at p4 ⊢
   exact ⟨ρ4,F4,s4.rel,p4.bindF fun c ρ5 w F5 H5 s5 hc p5=>op2_ok hg s5.rel ((hb.mono s3.subF).mono (s4.subF.trans s5.subF)) hc p5⟩
  ·simp only [hk] at p4 ⊢
   exact p4 _ F4 H4 (.refl s4.rel) (.bl false))
 exact ⟨k,e,q⟩
theorem jt_chain {op op':CmpOp}{r r':R2}{f g:D→D→Option Res}(ho:OpR X (compareOp op) r)(ho':OpR X (compareOp op') r')(hf:BinOk Γ.G r f)(hg:BinOk Γ.G r' g)(ha:PE X a (tM Γ W ma))(hb:PE X b (tM Γ W mb))(hc:PE X c (tM Γ W mc))
  (hm:lastMarks [op,op'] [b,c]=false:=by with_unfolding_all rfl):PT X (.Compare a [op,op'] [b,c] pos) (tMB Γ W (mBl (mChain f g ma mb mc))) :=
 (pt_chain ho ho' (je_f ha) (je_f hb) (je_f hc) hm).imp fun σ H Q ⟨ρ,F,R,p⟩=>chain_ok hf hg σ H _ ⟨ρ,F,R,fin_bl' p⟩
def mAndB (ta tb:MB):MB:=fun ρ=>bindO (ta ρ) fun k ρ1=>if k=true then tb ρ1 else .ok false ρ1
def mOrB (ta tb:MB):MB:=fun ρ=>bindO (ta ρ) fun k ρ1=>if k=true then .ok true ρ1 else tb ρ1
def mNotB (ta:MB):MB:=fun ρ=>bindO (ta ρ) fun k ρ1=>.ok (!k) ρ1
theorem _root_.L2.PW.imp {X:Cx}{e:Expr}{t t':TT}(h:PW X e t)(i:∀ σ H Q,t' σ H Q→t σ H Q):PW X e t':=⟨fun wh pins s σ H Q I q=>h.run wh pins s σ H Q I (i _ _ _ q)⟩
theorem jw_and (ha:PT X a (tMB Γ W ta))(hb:PW X (.BoolOp .And (b::rest) pos) (tMB Γ W tb)):PW X (.BoolOp .And (a::b::rest) pos) (tMB Γ W (mAndB ta tb)) :=
 (pw_and ha hb).imp fun σ H Q ⟨ρ,F,R,p⟩=>⟨ρ,F,R,PostB.bindB p fun k ρ1 F1 H1 s1 p1=>by
  by_cases hk:k=true
  ·simp only [hk,if_true] at p1 ⊢; exact ⟨ρ1,F1,s1.rel,p1⟩
  ·simp only [hk] at p1 ⊢; exact p1 F1 H1 (.refl s1.rel)⟩
theorem jw_or (ha:PT X a (tMB Γ W ta))(hb:PW X (.BoolOp .Or (b::rest) pos) (tMB Γ W tb)):PW X (.BoolOp .Or (a::b::rest) pos) (tMB Γ W (mOrB ta tb)) :=
 (pw_or ha hb).imp fun σ H Q ⟨ρ,F,R,p⟩=>⟨ρ,F,R,PostB.bindB p fun k ρ1 F1 H1 s1 p1=>by
  by_cases hk:k=true
  ·simp only [hk,if_true] at p1 ⊢; exact p1 F1 H1 (.refl s1.rel)
  ·simp only [hk] at p1 ⊢; exact ⟨ρ1,F1,s1.rel,p1⟩⟩
theorem jt_not (ha:PT X a (tMB Γ W ta)):PT X (.UnaryOp .Not a pos) (tMB Γ W (mNotB ta)) :=
 (pt_not ha).imp fun σ H Q ⟨ρ,F,R,p⟩=>⟨ρ,F,R,PostB.bindB p fun k ρ1 F1 H1 s1 p1=>p1 F1 H1 (.refl s1.rel)⟩
def mAndV (ma mb:M):M:=fun ρ=>bindF (ma ρ) fun a ρ1=>bindO (blR a ρ1) fun k ρ1=>if k=true then mb ρ1 else .ok (.val (.bl false)) ρ1
def mOrV (ma mb:M):M:=fun ρ=>bindF (ma ρ) fun a ρ1=>bindO (blR a ρ1) fun k ρ1=>if k=true then .ok (.val (.bl true)) ρ1 else mb ρ1
def mNotV (ma:M):M:=fun ρ=>bindF (ma ρ) fun a ρ1=>bindO (blR a ρ1) fun k ρ1=>.ok (.val (.bl (!k))) ρ1
theorem je_and (ha:PE X a (tM Γ W ma))(hb:PE X (.BoolOp .And (b::rest) pos) (tM Γ W mb)):PE X (.BoolOp .And (a::b::rest) pos) (tM Γ W (mAndV ma mb)) :=
 (pe_and (je_f ha) hb).imp fun σ H Q ⟨ρ,F,R,p⟩=>⟨ρ,F,R,p.bindF fun r ρ1 v F1 H1 s1 hr p1=>blR_ok s1.rel hr (p1.bindB (Q1:=fun c H1=>if c=true then tM Γ W mb σ H1 Q else Q (V.bl false) H1) fun k ρ2 F2 H2 s2 p2=>by
  by_cases hk:k=true
  ·simp only [hk,if_true] at p2 ⊢; exact ⟨ρ2,F2,s2.rel,p2⟩
  ·simp only [hk] at p2 ⊢; exact p2 _ F2 H2 (.refl s2.rel) (.bl false))⟩
theorem je_or (ha:PE X a (tM Γ W ma))(hb:PE X (.BoolOp .Or (b::rest) pos) (tM Γ W mb)):PE X (.BoolOp .Or (a::b::rest) pos) (tM Γ W (mOrV ma mb)) :=
 (pe_or (je_f ha) hb).imp fun σ H Q ⟨ρ,F,R,p⟩=>⟨ρ,F,R,p.bindF fun r ρ1 v F1 H1 s1 hr p1=>blR_ok s1.rel hr (p1.bindB (Q1:=fun c H1=>if c=true then Q (V.bl true) H1 else tM Γ W mb σ H1 Q) fun k ρ2 F2 H2 s2 p2=>by
  by_cases hk:k=true
  ·simp only [hk,if_true] at p2 ⊢; exact p2 _ F2 H2 (.refl s2.rel) (.bl true)
  ·simp only [hk] at p2 ⊢; exact ⟨ρ2,F2,s2.rel,p2⟩)⟩
theorem je_not (ha:PE X a (tM Γ W ma)):PE X (.UnaryOp .Not a pos) (tM Γ W (mNotV ma)) :=
 (pe_not (je_f ha)).imp fun σ H Q ⟨ρ,F,R,p⟩=>⟨ρ,F,R,p.bindF fun r ρ1 v F1 H1 s1 hr p1=>blR_ok s1.rel hr (p1.bindB fun k ρ2 F2 H2 s2 p2=>p2 _ F2 H2 (.refl s2.rel) (.bl _))⟩
def mIf (t:MB)(ma mb:M):M:=fun ρ=>bindO (t ρ) fun k ρ1=>if k=true then ma ρ1 else mb ρ1
theorem je_if {c:Expr}(hc:PT X c (tMB Γ W ta))(ha:PE X a (tM Γ W ma))(hb:PE X b (tM Γ W mb)):PE X (.IfExp c a b pos) (tM Γ W (mIf ta ma mb)) :=
 (pe_ifExp hc ha hb).imp fun σ H Q ⟨ρ,F,R,p⟩=>⟨ρ,F,R,Post.bindB p fun k ρ1 F1 H1 s1 p1=>by
  by_cases hk:k=true
  ·simp only [hk,if_true] at p1 ⊢; exact ⟨ρ1,F1,s1.rel,p1⟩
  ·simp only [hk] at p1 ⊢; exact ⟨ρ1,F1,s1.rel,p1⟩⟩
def mVar (i:Nat):M:=fun ρ=>match ρ[i]? with
 | some (some (.val d))=>.ok (.val d) ρ
 | some (some (.own _ _))=>.ok (.at i) ρ
 | _=>.stuck
def mC (d:D):M:=fun ρ=>.ok (.val d) ρ
theorem je_const {e:Expr}{v:V}{d:D}(h:PE X e (tC v))(hd:∀ F,Dp Γ.G F v d):PE X e (tM Γ W (mC d)):=h.imp fun σ H Q ⟨ρ,F,R,p⟩=>p v F H (.refl R) (hd F)
theorem je_int {i:Int}{j pos}:PE X (.Constant (.int i) j pos) (tM Γ W (mC (.int i))):=je_const pe_int fun _=>.int i
theorem je_bl {i:Bool}{j pos}:PE X (.Constant (.bool i) j pos) (tM Γ W (mC (.bl i))):=je_const pe_bl fun _=>.bl i
theorem je_str {i:Str}{j pos}:PE X (.Constant (.str i) j pos) (tM Γ W (mC (.str i))):=je_const pe_str fun _=>.str i
theorem je_non {j pos}:PE X (.Constant .none j pos) (tM Γ W (mC .non)):=je_const pe_non fun _=>.non
theorem je_var (i:Nat){x:Str}(hN:X.N[i]?=some x:=by rfl)(hv:Vis X.env.scope x:=by first | exact Or.inl rfl | exact Or.inr (Or.inl rfl) | exact Or.inr (Or.inr rfl))(hd:(x==("__debug__" : Str))=false:=by decide)
  (hcd:(x==("__classdict__" : Str))=false:=by decide):PE X (.Name x pos) (tM Γ W (mVar i)):=(pe_var hN hv hd hcd).imp fun σ H Q ⟨ρ,F,R,p⟩=>by
 unfold mVar at p
 split at p
 ·rename_i d e
  obtain ⟨v,h1,h2⟩:=R.slotV e
  exact ⟨v,h1,p v F H (.refl R) h2⟩
 ·rename_i b d e
  obtain ⟨v,L,h1,h2⟩:=R.slot i _ e
  exact ⟨v,h1,p v F H (.refl R) h1⟩
 ·exact p.elim
end
theorem addS_ok {G:Gx}:BinOk G (fun x y H Q=>∃ i j,x=.str i∧y=.str j∧i.length+j.length≤sizeLine∧Q (.str (i++j)) H) fAddS:=by
 intro F H x y dx dy res Q e vx vy q k
 unfold fAddS at q
 split at q
 ·split at q
  ·rename_i i j w
   cases q
   exact ⟨i,j,vx.str,vy.str,w,k _ F H (.refl e) (.str _)⟩
  ·cases q
 ·cases q
theorem addL_ok {G:Gx}:BinOk G rCat fAddL:=by
 intro F H x y dx dy res Q e vx vy q k
 unfold fAddL at q
 split at q
 ·split at q
  ·rename_i i j w
   cases q
   obtain ⟨a,vs,rfl,h1,t1⟩:=vx.lst e
   obtain ⟨b,ws,rfl,h2,t2⟩:=vy.lst e
   exact ⟨a,b,vs,ws,rfl,rfl,h1,h2,by rw [t1.length,t2.length]; exact w,fun p hp=>k _ F _ (.cell e hp) ⟨p,rfl,Same.free e hp,⟨_,upd_same,t1.append t2⟩,hp⟩⟩
  ·cases q
 ·cases q
theorem addT_ok {G:Gx}:BinOk G (rCatA G.K) fAddT:=by
 intro F H x y dx dy res Q e vx vy q k
 unfold fAddT at q
 split at q
 ·split at q
  ·rename_i i j w
   cases q
   obtain ⟨a,vs,rfl,h1,t1⟩:=vx.tup e
   obtain ⟨b,ws,rfl,h2,t2⟩:=vy.tup e
   have hx:Dp G F (.ref a) (.tup i):=by
    rcases vx with h | ⟨_,_,_,c⟩
    ·exact h
    ·cases c with | flat c=>exact c.elim
   have hy:Dp G F (.ref b) (.tup j):=by
    rcases vy with h | ⟨_,_,_,c⟩
    ·exact h
    ·cases c with | flat c=>exact c.elim
   refine ⟨a,b,vs,ws,rfl,rfl,h1,h2,by rw [t1.length,t2.length]; exact w,fun z=>?_,fun _ z=>?_,fun _ _ p hp=>?_⟩
   ·subst z; cases t1; exact k _ F H (.refl e) hy
   ·subst z; cases t2; rw [List.append_nil]  at k; exact k _ F H (.refl e) hx
   ·exact k _ _ _ (.tup e hp) (.tup (SqT.of upd_same) ((t1.append t2).mono (Alc.tup e hp).subF))
  ·cases q
 ·cases q
def addD:D→D→Option Res:=orF (fII (fun _ _=>true) fun i j=>.int (i+j)) (orF fAddS (orF fAddT fAddL))
def rAddD (K:PySem.W.Frag):R2:=OrR (rI0 fun i j=>.int (i+j)) (OrR (fun x y H Q=>∃ i j,x=.str i∧y=.str j∧i.length+j.length≤sizeLine∧Q (.str (i++j)) H) (OrR (rCatA K) rCat))
theorem addD_ok {G:Gx}:BinOk G (rAddD G.K) addD:=(bin_I0 fun _ _ _=>.int _).or (addS_ok.or (addT_ok.or addL_ok))
theorem op_addD {X:Cx}:OpR X (binaryOp .Add) (rAddD X.K):=op_add.or (op_add_str.or (op_catA.or op_cat))
def subD:D→D→Option Res:=fII (fun _ _=>true) fun i j=>.int (i-j)
theorem subD_ok {G:Gx}:BinOk G (rI0 fun i j=>.int (i-j)) subD:=bin_I0 fun _ _ _=>.int _
def mulC (i j:Int):Bool:=(decide (-(2 ^ 64)<i)&&decide (i<2 ^ 64))||(decide (-(2 ^ 64)<j)&&decide (j<2 ^ 64))
theorem mulC_ok (i j:Int)(h:mulC i j=true):CMul i j:=by
 unfold mulC at h
 rcases Bool.or_eq_true_iff.mp h with z | z
 ·have w:=Bool.and_eq_true_iff.mp z; exact .inl ⟨of_decide_eq_true w.1,of_decide_eq_true w.2⟩
 ·have w:=Bool.and_eq_true_iff.mp z; exact .inr ⟨of_decide_eq_true w.1,of_decide_eq_true w.2⟩
def fRepL:D→D→Option Res
 | .lst xs,.int k=>if decide (-(2 ^ 63)≤k)&&decide (k<2 ^ 63)&&decide (xs.length * k.toNat≤sizeLine) then some (.new (.lst (List.replicate k.toNat xs).flatten)) else none
 | _,_=>none
def fRepT:D→D→Option Res
 | .tup xs,.int k=>if decide (2≤k)&&decide (k≤1000)&&decide (xs.length≤1000)&&!xs.isEmpty then some (.val (.tup (List.replicate k.toNat xs).flatten)) else none
 | _,_=>none
theorem repL_ok {G:Gx}:BinOk G rRep fRepL:=by
 intro F H x y dx dy res Q e vx vy q k
 unfold fRepL at q
 split at q
 ·split at q
  ·rename_i i j w
   cases q
   obtain ⟨a,vs,rfl,h1,t1⟩:=vx.lst e
   have w1:=Bool.and_eq_true_iff.mp w
   have w2:=Bool.and_eq_true_iff.mp w1.1
   refine ⟨a,j,vs,rfl,vy.int,h1,of_decide_eq_true w2.1,of_decide_eq_true w2.2,by rw [t1.length]; exact of_decide_eq_true w1.2,fun p hp=>k _ F _ (.cell e hp) ⟨p,rfl,Same.free e hp,⟨_,upd_same,t1.rep _⟩,hp⟩⟩
  ·cases q
 ·cases q
theorem repT_ok {G:Gx}:BinOk G (rRepT G.K) fRepT:=by
 intro F H x y dx dy res Q e vx vy q k
 unfold fRepT at q
 split at q
 ·split at q
  ·rename_i i j w
   cases q
   obtain ⟨a,vs,rfl,h1,t1⟩:=vx.tup e
   have w1:=Bool.and_eq_true_iff.mp w
   have w2:=Bool.and_eq_true_iff.mp w1.1
   have w3:=Bool.and_eq_true_iff.mp w2.1
   refine ⟨a,j,vs,rfl,vy.int,h1,?_,of_decide_eq_true w3.1,of_decide_eq_true w3.2,by rw [t1.length]; exact of_decide_eq_true w2.2,fun p hp=>k _ _ _ (.tup e hp) (.tup (SqT.of upd_same) ((t1.rep _).mono (Alc.tup e hp).subF))⟩
   intro z; subst z; cases t1; exact absurd w1.2 (by simp)
  ·cases q
 ·cases q
def mulD:D→D→Option Res:=orF (fII mulC fun i j=>.int (i * j)) (orF fRepL fRepT)
def rMulD (K:PySem.W.Frag):R2:=OrR (rI CMul fun i j=>.int (i * j)) (OrR rRep (rRepT K))
theorem mulD_ok {G:Gx}:BinOk G (rMulD G.K) mulD:=(bin_II mulC_ok fun _ _ _=>.int _).or (repL_ok.or repT_ok)
theorem op_mulD {X:Cx}:OpR X (binaryOp .Mult) (rMulD X.K):=op_mul.or (op_rep.or op_repT)
def divC (i j:Int):Bool:=decide (0<j)&&decide (j<1073741824)
def fdivD:D→D→Option Res:=fII divC fun i j=>.int (i / j)
theorem fdivD_ok {G:Gx}:BinOk G (rI CDiv fun i j=>.int (i / j)) fdivD:=bin_II (fun i j h=>⟨of_decide_eq_true (Bool.and_eq_true_iff.mp h).1,of_decide_eq_true (Bool.and_eq_true_iff.mp h).2⟩) fun _ _ _=>.int _
def modD:D→D→Option Res:=fII (fun _ j=>decide (0<j)) fun i j=>.int (i % j)
theorem modD_ok {G:Gx}:BinOk G (rI (fun _ j=>0<j) fun i j=>.int (i % j)) modD:=bin_II (fun i j h=>of_decide_eq_true h) fun _ _ _=>.int _
def powC (i j:Int):Bool:=decide (0≤j)&&(decide (j≤1000000)&&decide (i.natAbs<2 ^ 64))
def powD:D→D→Option Res:=fII powC fun i j=>.int (i ^ j.toNat)
theorem powD_ok {G:Gx}:BinOk G (rI CPow fun i j=>.int (i ^ j.toNat)) powD:=bin_II (fun i j h=>by
 have w:=Bool.and_eq_true_iff.mp h
 have w2:=Bool.and_eq_true_iff.mp w.2
 exact ⟨of_decide_eq_true w.1,of_decide_eq_true w2.1,of_decide_eq_true w2.2⟩) fun _ _ _=>.int _
def negD:D→Option Res
 | .int i=>some (.val (.int (-i)))
 | _=>none
theorem negD_ok {G:Gx}:UnOk G (rU fun i=>.int (-i)) negD:=by
 intro F H x dx res Q e vx q k
 unfold negD at q
 split at q
 ·rename_i i
  cases q
  exact ⟨i,vx.int,k _ F H (.refl e) (.int _)⟩
 ·cases q
mutual
def toPy:D→Option PyData
 | .non=>some .none
 | .bl b=>some (.bool b)
 | .int i=>some (.int i)
 | .str x=>some (.str x)
 | .lst xs=>(toPys xs).map .list
 | .tup xs=>(toPys xs).map .tuple
 | _=>none
def toPys:List D→Option (List PyData)
 | []=>some []
 | d::ds=>match toPy d,toPys ds with
  | some p,some ps=>some (p::ps)
  | _,_=>none
end
section
variable {G:Gx}{F H:Hp}
theorem Dp.py (s:Same F H){v:V}{d:D}(h:Dp G F v d):∀ p,toPy d=some p→L2.Dp G.K H v p:=by
 refine Dp.rec (motive_1:=fun v d _=>∀ p,toPy d=some p→L2.Dp G.K H v p) (motive_2:=fun vs ds _=>∀ ps,toPys ds=some ps→L2.DpAll G.K H vs ps) (motive_3:=fun v d _=>True) (motive_4:=fun v d _=>True) (motive_5:=fun v d _=>True)
  ?_ ?_ ?_ ?_ ?_ ?_ ?_ ?_ ?_ ?_ ?_ ?_ ?_ ?_ ?_ ?_ ?_ ?_ ?_ ?_ ?_ ?_ ?_ h
 ·intro p e; simp [toPy] at e; subst e; exact .non
 ·intro b p e; simp [toPy] at e; subst e; exact .bl b
 ·intro b p e; simp [toPy] at e; subst e; exact .int b
 ·intro b p e; simp [toPy] at e; subst e; exact .str b
 ·intro b p e; simp [toPy] at e
 ·intro a vs ds h t i p e
  simp only [toPy,Option.map_eq_some_iff] at e
  obtain ⟨ps,e1,rfl⟩:=e
  exact .lst (SqL.of (s _ _ h)) (i ps e1)
 ·intro a vs ds h t i p e
  simp only [toPy,Option.map_eq_some_iff] at e
  obtain ⟨ps,e1,rfl⟩:=e
  exact .tup (sqT_ext h s) (i ps e1)
 ·intro a ns h p e; simp [toPy] at e
 ·intro a vs ds h t i p e; simp [toPy] at e
 ·intro a dx c vs ds h t i p e; simp [toPy] at e
 ·intro c p e; simp [toPy] at e
 ·intro v p e; simp [toPy] at e
 ·intro c p e; simp [toPy] at e
 ·intro a dx c fs fds h1 h2 h3 i p e; simp [toPy] at e
 ·intro a kvs kds h t i p e; simp [toPy] at e
 ·intro ps e; simp [toPys] at e; subst e; exact .nil
 ·intro v d vs ds h t i1 i2 ps e
  simp only [toPys] at e
  split at e
  ·rename_i p ps' e1 e2
   cases e
   exact .cons (i1 p e1) (i2 ps' e2)
  ·cases e
 all_goals intros; trivial
theorem DpL.py (s:Same F H):∀ {vs:List V} {ds:List D},DpL G F vs ds→∀ ps,toPys ds=some ps→L2.DpAll G.K H vs ps
 | _,_,.nil=>fun ps e=>by simp [toPys] at e; subst e; exact .nil
 | _,_,.cons h t=>fun ps e=>by
  simp only [toPys] at e
  split at e
  ·rename_i p ps' e1 e2
   cases e
   exact .cons (h.py s p e1) (DpL.py s t ps' e2)
  ·cases e
theorem View.py (s:Same F H){v:V}{d:D}(h:View G F H v d){p:PyData}(e:toPy d=some p):L2.Dp G.K H v p:=by
 rcases h with h | ⟨a,L,r,c⟩
 ·exact h.py s p e
 ·cases c with
  | lst _ _ _=>simp [toPy] at e
  | dct _ _ _ _=>simp [toPy] at e
  | obj _ _ _ _=>simp [toPy] at e
  | flat c =>
  cases d with
  | lst ds =>
   obtain ⟨vs,h1,t⟩:=c
   simp only [toPy,Option.map_eq_some_iff] at e
   obtain ⟨ps,e1,rfl⟩:=e
   rw [r]
   exact .lst (SqL.of h1) (t.py s ps e1)
  | dct ds=>simp [toPy] at e
  | obj c ds=>simp [toPy] at e
  | dctN ds=>simp [toPy] at e
  | _=>exact c.elim
end
def eqB (x y:D):Option Bool:=match toPy x,toPy y with
 | some a,some b=>if SeqAt.shaped a&&SeqAt.shaped b then some (PyData.eqv a b) else none
 | _,_=>none
def eqD0 (x y:D):Option Res:=(eqB x y).map fun b=>.val (.bl b)
def neD0 (x y:D):Option Res:=(eqB x y).map fun b=>.val (.bl (!b))
theorem eqB_some {x y:D}{b:Bool}(h:eqB x y=some b):∃ p q,toPy x=some p∧toPy y=some q∧SeqAt.shaped p=true∧SeqAt.shaped q=true∧b=PyData.eqv p q:=by
 unfold eqB at h
 split at h
 ·rename_i p q e1 e2
  split at h
  ·rename_i w
   have w:=Bool.and_eq_true_iff.mp w
   cases h
   exact ⟨p,q,e1,e2,w.1,w.2,rfl⟩
  ·cases h
 ·cases h
theorem eqD0_ok {G:Gx}:BinOk G (rEqD G.K) eqD0:=by
 intro F H x y dx dy res Q e vx vy q k
 simp only [eqD0,Option.map_eq_some_iff] at q
 obtain ⟨b,h,rfl⟩:=q
 obtain ⟨p,p',e1,e2,s1,s2,rfl⟩:=eqB_some h
 exact ⟨p,p',vx.py e e1,vy.py e e2,s1,s2,k _ F H (.refl e) (.bl _)⟩
theorem neD0_ok {G:Gx}:BinOk G (rNeD G.K) neD0:=by
 intro F H x y dx dy res Q e vx vy q k
 simp only [neD0,Option.map_eq_some_iff] at q
 obtain ⟨b,h,rfl⟩:=q
 obtain ⟨p,p',e1,e2,s1,s2,rfl⟩:=eqB_some h
 exact ⟨p,p',vx.py e e1,vy.py e e2,s1,s2,k _ F H (.refl e) (.bl _)⟩
def eqF:D→D→Option Bool
 | .str a,.str b=>some (decide (a=b))
 | .int a,.int b=>some (decide (a=b))
 | .bl a,.bl b=>some (decide (a=b))
 | .non,.non=>some true
 | .non,.int _=>some false
 | .int _,.non=>some false
 | .non,.bl _=>some false
 | .bl _,.non=>some false
 | .non,.str _=>some false
 | .str _,.non=>some false
 | .int _,.str _=>some false
 | .str _,.int _=>some false
 | .bl _,.str _=>some false
 | .str _,.bl _=>some false
 | _,_=>none
theorem eqF_ok {G:Gx}{F H:Hp}{x y:V}{dx dy:D}{b:Bool}(vx:View G F H x dx)(vy:View G F H y dy)(h:eqF dx dy=some b):scal x y=true∧decide (x=y)=b:=by
 unfold eqF at h
 split at h <;> first
  | (cases h; rw [vx.str,vy.str]; simp [scal])
  | (cases h; rw [vx.int,vy.int]; simp [scal])
  | (cases h; rw [vx.bl,vy.bl]; simp [scal])
  | (cases h; rw [vx.non,vy.non]; simp [scal])
  | (cases h; rw [vx.non,vy.int]; simp [scal])
  | (cases h; rw [vx.int,vy.non]; simp [scal])
  | (cases h; rw [vx.non,vy.bl]; simp [scal])
  | (cases h; rw [vx.bl,vy.non]; simp [scal])
  | (cases h; rw [vx.non,vy.str]; simp [scal])
  | (cases h; rw [vx.str,vy.non]; simp [scal])
  | (cases h; rw [vx.int,vy.str]; simp [scal])
  | (cases h; rw [vx.str,vy.int]; simp [scal])
  | (cases h; rw [vx.bl,vy.str]; simp [scal])
  | (cases h; rw [vx.str,vy.bl]; simp [scal])
  | cases h
def eqD:D→D→Option Res:=orF (fun x y=>(eqF x y).map fun b=>.val (.bl b)) eqD0
def neD:D→D→Option Res:=orF (fun x y=>(eqF x y).map fun b=>.val (.bl (!b))) neD0
theorem eqD_ok {G:Gx}:BinOk G (OrR rEq (rEqD G.K)) eqD:=BinOk.or (fun F H x y dx dy res Q e vx vy q k=>by
 obtain ⟨b,h,rfl⟩:=Option.map_eq_some_iff.mp q
 obtain ⟨h1,h2⟩:=eqF_ok vx vy h
 exact ⟨h1,h2▸k _ F H (.refl e) (h2▸.bl _)⟩) eqD0_ok
theorem neD_ok {G:Gx}:BinOk G (OrR rNe (rNeD G.K)) neD:=BinOk.or (fun F H x y dx dy res Q e vx vy q k=>by
 obtain ⟨b,h,rfl⟩:=Option.map_eq_some_iff.mp q
 obtain ⟨h1,h2⟩:=eqF_ok vx vy h
 exact ⟨h1,h2▸k _ F H (.refl e) (h2▸.bl _)⟩) neD0_ok
theorem op_eqAll {X:Cx}(hu:X.A.units+64<cLine):OpR X (compareOp .Eq) (OrR rEq (rEqD X.K)):=op_eq.or (op_eqD hu)
theorem op_neAll {X:Cx}(hu:X.A.units+64<cLine):OpR X (compareOp .NotEq) (OrR rNe (rNeD X.K)):=op_ne.or (op_neD hu)
def fCmpS (p:Str→Str→Bool):D→D→Option Res
 | .str i,.str j=>some (.val (.bl (p i j)))
 | _,_=>none
theorem cmpS_ok {G:Gx}{p:Str→Str→Bool}:BinOk G (fun x y H Q=>∃ i j,x=.str i∧y=.str j∧Q (.bl (p i j)) H) (fCmpS p):=by
 intro F H x y dx dy res Q e vx vy q k
 unfold fCmpS at q
 split at q
 ·rename_i i j
  cases q
  exact ⟨i,j,vx.str,vy.str,k _ F H (.refl e) (.bl _)⟩
 ·cases q
def ltD:D→D→Option Res:=orF (fII (fun _ _=>true) fun i j=>.bl (decide (i<j))) (fCmpS fun i j=>decide (i.cps.toList<j.cps.toList))
def leD:D→D→Option Res:=fII (fun _ _=>true) fun i j=>.bl (decide (i≤j))
def gtD:D→D→Option Res:=fII (fun _ _=>true) fun i j=>.bl (decide (j<i))
def geD:D→D→Option Res:=fII (fun _ _=>true) fun i j=>.bl (decide (j≤i))
def rLtD:R2:=OrR (rI0 fun i j=>.bl (decide (i<j))) (fun x y H Q=>∃ i j,x=.str i∧y=.str j∧Q (.bl (decide (i.cps.toList<j.cps.toList))) H)
theorem ltD_ok {G:Gx}:BinOk G rLtD ltD:=(bin_I0 fun _ _ _=>.bl _).or cmpS_ok
theorem op_ltD {X:Cx}:OpR X (compareOp .Lt) rLtD:=op_lt.or op_lt_str
theorem leD_ok {G:Gx}:BinOk G (rI0 fun i j=>.bl (decide (i≤j))) leD:=bin_I0 fun _ _ _=>.bl _
theorem gtD_ok {G:Gx}:BinOk G (rI0 fun i j=>.bl (decide (j<i))) gtD:=bin_I0 fun _ _ _=>.bl _
theorem geD_ok {G:Gx}:BinOk G (rI0 fun i j=>.bl (decide (j≤i))) geD:=bin_I0 fun _ _ _=>.bl _
def isN:D→Bool
 | .non=>true
 | _=>false
def fIsN (neg:Bool):D→D→Option Res
 | .any,_=>none
 | x,.non=>some (.val (.bl (neg != isN x)))
 | _,_=>none
def fIsB (neg:Bool):D→D→Option Res
 | .bl a,.bl b=>some (.val (.bl (neg != decide (a=b))))
 | _,_=>none
theorem Dp.isN {G:Gx}{F H:Hp}{v:V}{d:D}(h:View G F H v d)(na:d≠.any):decide (v=V.non)=PyD.isN d:=by
 rcases h with h | ⟨a,L,e,c⟩
 ·cases h <;> first | exact absurd rfl na | simp [PyD.isN]
 ·rw [e]
  cases c with
  | flat c=>cases d <;> first | exact c.elim | simp [PyD.isN]
  | _=>simp [PyD.isN]
theorem isN_ok {G:Gx}:BinOk G (fun x y H Q=>y=.non∧Q (.bl (decide (x=.non))) H) (fIsN false):=by
 intro F H x y dx dy res Q e vx vy q k
 unfold fIsN at q
 split at q
 ·cases q
 ·rename_i na
  cases q
  exact ⟨vy.non,k _ F H (.refl e) (by rw [Dp.isN vx (by exact na)]; simp; exact .bl _)⟩
 ·cases q
theorem notN_ok {G:Gx}:BinOk G (fun x y H Q=>y=.non∧Q (.bl (!decide (x=.non))) H) (fIsN true):=by
 intro F H x y dx dy res Q e vx vy q k
 unfold fIsN at q
 split at q
 ·cases q
 ·rename_i na
  cases q
  exact ⟨vy.non,k _ F H (.refl e) (by rw [Dp.isN vx (by exact na)]; simp; exact .bl _)⟩
 ·cases q
theorem isB_ok {G:Gx}:BinOk G rIsB (fIsB false):=by
 intro F H x y dx dy res Q e vx vy q k
 unfold fIsB at q
 split at q
 ·rename_i a b
  cases q
  exact ⟨a,b,vx.bl,vy.bl,k _ F H (.refl e) (by simp; exact .bl _)⟩
 ·cases q
theorem notB_ok {G:Gx}:BinOk G rNotB (fIsB true):=by
 intro F H x y dx dy res Q e vx vy q k
 unfold fIsB at q
 split at q
 ·rename_i a b
  cases q
  exact ⟨a,b,vx.bl,vy.bl,k _ F H (.refl e) (by simp; exact .bl _)⟩
 ·cases q
def isD:D→D→Option Res:=orF (fIsB false) (fIsN false)
def isNotD:D→D→Option Res:=orF (fIsB true) (fIsN true)
theorem isD_ok {G:Gx}:BinOk G (OrR rIsB (fun x y H Q=>y=.non∧Q (.bl (decide (x=.non))) H)) isD:=isB_ok.or isN_ok
theorem isNotD_ok {G:Gx}:BinOk G (OrR rNotB (fun x y H Q=>y=.non∧Q (.bl (!decide (x=.non))) H)) isNotD:=notB_ok.or notN_ok
theorem op_isD {X:Cx}:OpR X (compareOp .Is) (OrR rIsB (fun x y H Q=>y=.non∧Q (.bl (decide (x=.non))) H)):=op_isBl.or op_isN
theorem op_isNotD {X:Cx}:OpR X (compareOp .IsNot) (OrR rNotB (fun x y H Q=>y=.non∧Q (.bl (!decide (x=.non))) H)):=op_notBl.or op_notN
def keyD:D→Option Key
 | .int i=>some (.inl i)
 | .str x=>some (.inr x)
 | _=>none
theorem keyD_ok {G:Gx}{F H:Hp}{v:V}{d:D}{k:Key}(h:View G F H v d)(e:keyD d=some k):v=kV k:=by
 cases d with
 | int i=>simp [keyD] at e; subst e; exact h.int
 | str i=>simp [keyD] at e; subst e; exact h.str
 | _=>simp [keyD] at e
def valK (kvs:List (Key×D))(k:Key):Option D:=(kvs.find? fun kv=>decide (kv.1=k)).map (·.2)
theorem DpK.val {G:Gx}{F:Hp}{k:Key}:∀ {vs:List (Key×V)} {ds:List (Key×D)},DpK G F vs ds→(valK ds k=none∧valV vs k=none)∨∃ v d,valK ds k=some d∧valV vs k=some v∧Dp G F v d
 | _,_,.nil=>.inl ⟨rfl,rfl⟩
 | _,_,.cons (k:=k') (v:=v') (d:=d') h t=>by
  by_cases e:k'=k
  ·refine .inr ⟨v',d',?_,?_,h⟩ <;> simp [valK,valV,e]
  ·rcases DpK.val (k:=k) t with ⟨h1,h2⟩ | ⟨v,d,h1,h2,h3⟩
   ·refine .inl ⟨?_,?_⟩
    ·rw [← h1]; simp [valK,e]
    ·rw [← h2]; simp [valV,e]
   ·refine .inr ⟨v,d,?_,?_,h3⟩
    ·rw [← h1]; simp [valK,e]
    ·rw [← h2]; simp [valV,e]
theorem op_notInDT {X:Cx}(hu:X.A.units+65<cLine):OpR X (compareOp .NotIn) (fun x y H Q=>∃ d ds,L2.Dp X.K H x d∧L2.Dp X.K H y (.tuple ds)∧SeqAt.shaped d=true∧SeqAt.shaped (.tuple ds)=true∧Q (.bl (!ds.any fun z=>PyData.eqv z d)) H):=by
 intro pins s σ H x y v u Q I rx ry h
 obtain ⟨d,ds,hd,he,sd,se,q⟩:=h
 obtain ⟨as,r1⟩:=Dp.reads I d x v hd rx
 obtain ⟨bs,r2⟩:=Dp.reads I (.tuple ds) y u he ry
 exact SeqAt.notIn_tuple_reads r2 r1 (SeqAt.canLay_of_shaped se) (SeqAt.canLay_of_shaped sd) (room_in_shaped sd hu) ⟨.bl _,H,I,rfl,q⟩
theorem op_dictNotIn {X:Cx}(hu:X.A.units+1<cLine):OpR X (compareOp .NotIn) (fun y x H Q=>∃ a o,x=.ref a∧DGet H a y o∧Q (.bl (!o.isSome)) H):=by
 intro pins s σ H y x u v Q I ry rx h
 obtain ⟨a,o,rfl,g,q⟩:=h
 obtain rfl:v=Value.ref a:=rx
 exact d_notIn hu I g ry fun s3 I3=>⟨.bl (!o.isSome),H,I3,rfl,q⟩
def inB:D→D→Option Bool
 | .str i,.str j=>match i.cps.toList with
  | [c]=>some (decide (c∈j.cps.toList))
  | _=>none
 | x,.dct kvs=>(keyD x).map fun k=>(valK kvs k).isSome
 | x,.lst ys=>match toPy x,toPys ys with
  | some p,some ps=>if SeqAt.shaped p&&SeqAt.shaped (.list ps) then some (ps.any fun z=>PyData.eqv z p) else none
  | _,_=>none
 | x,.tup ys=>match toPy x,toPys ys with
  | some p,some ps=>if SeqAt.shaped p&&SeqAt.shaped (.tuple ps) then some (ps.any fun z=>PyData.eqv z p) else none
  | _,_=>none
 | _,_=>none
def rInB (neg:Bool)(K:PySem.W.Frag):R2:=OrR (fun x y H Q=>∃ (c:Nat) (z:Str),x=.str ⟨#[c]⟩∧y=.str z∧Q (.bl (neg != decide (c∈z.cps.toList))) H)
 (OrR (fun y x H Q=>∃ a o,x=.ref a∧DGet H a y o∧Q (.bl (neg != o.isSome)) H)
 (OrR (fun x y H Q=>∃ d ds,L2.Dp K H x d∧L2.Dp K H y (.list ds)∧SeqAt.shaped d=true∧SeqAt.shaped (.list ds)=true∧Q (.bl (neg != ds.any fun z=>PyData.eqv z d)) H)
  (fun x y H Q=>∃ d ds,L2.Dp K H x d∧L2.Dp K H y (.tuple ds)∧SeqAt.shaped d=true∧SeqAt.shaped (.tuple ds)=true∧Q (.bl (neg != ds.any fun z=>PyData.eqv z d)) H)))
theorem op_notInB {X:Cx}(hu:X.A.units+65<cLine):OpR X (compareOp .NotIn) (rInB true X.K):=by
 have e:∀ b:Bool,(true != b)=!b:=by decide
 unfold rInB; simp only [e]
 exact op_notIn_sign.or ((op_dictNotIn (by omega)).or ((op_notInD hu).or (op_notInDT hu)))
def inD (neg:Bool)(x y:D):Option Res:=(inB x y).map fun b=>.val (.bl (neg != b))
theorem inD_ok {neg:Bool}{G:Gx}:BinOk G (rInB neg G.K) (inD neg):=by
 intro F H x y dx dy res Q e vx vy q k
 simp only [inD,Option.map_eq_some_iff] at q
 obtain ⟨b,h,rfl⟩:=q
 have k':∀ b',b'=b→Q (.bl (neg != b')) H:=fun b' z=>k _ F H (.refl e) (by rw [z]; exact .bl _)
 unfold inB at h
 split at h
 ·rename_i i j
  split at h
  ·rename_i c ec
   cases h
   refine .inl ⟨c,j,?_,vy.str,k' _ rfl⟩
   rw [vx.str]
   obtain ⟨ic⟩:=i
   have:ic=#[c]:=by simpa using congrArg List.toArray ec
   rw [this]
  ·cases h
 ·rename_i kvs _
  simp only [Option.map_eq_some_iff] at h
  obtain ⟨kk,h1,h2⟩:=h
  obtain ⟨a,vs,rfl,hH,t⟩:=vy.dct e
  have hx:=keyD_ok vx h1
  subst hx
  refine .inr (.inl ⟨a,valV vs kk,rfl,DGet.k hH,k' _ ?_⟩)
  rw [← h2]
  rcases t.val (k:=kk) with ⟨w1,w2⟩ | ⟨v,d,w1,w2,w3⟩
  ·rw [w1,w2]; rfl
  ·rw [w1,w2]; rfl
 ·rename_i ys _
  split at h
  ·rename_i p ps e1 e2
   split at h
   ·rename_i w
    have w:=Bool.and_eq_true_iff.mp w
    cases h
    exact .inr (.inr (.inl ⟨p,ps,vx.py e e1,vy.py e (by simp [toPy,e2]),w.1,w.2,k' _ rfl⟩))
   ·cases h
  ·cases h
 ·rename_i ys _
  split at h
  ·rename_i p ps e1 e2
   split at h
   ·rename_i w
    have w:=Bool.and_eq_true_iff.mp w
    cases h
    exact .inr (.inr (.inr ⟨p,ps,vx.py e e1,vy.py e (by simp [toPy,e2]),w.1,w.2,k' _ rfl⟩))
   ·cases h
  ·cases h
 ·cases h
theorem ix_dict {X:Cx}(hu:X.A.units+1<cLine):IxR X (fun x y H Q=>∃ a v,x=.ref a∧DGet H a y (some v)∧Q v H):=by
 intro value slice pins s σ H x y u iv Q I rx ry h hs
 obtain ⟨a,v,rfl,g,q⟩:=h
 obtain rfl:u=Value.ref a:=rx
 have hT:=dict_typeIs I g
 unfold subscriptTail
 refine wpAny_bind ?_
 rw [getitemInPython_of_ne hT.not_modules]
 refine wpAny_bind (wpAny_specialOf hT PySem.F.slot_dict_getitem.lookup ?_)
 have fin:wpAny (model X.prog X.w) X.A (subscripted slice false (.ref a) iv) (fun r s₃=>wpAny (model X.prog X.w) X.A (letTemporaryGo value (.ref a) r >>= fun _=>pure r) (EP X pins σ Q) X.xe s₃) X.xe s:=by
  rw [hs]
  exact wpAny_operating (wpAny_mono (d_getItem hu I g ry fun w' s3 I3 rw'=>(⟨v,H,I3,rw',q⟩:EP X pins σ Q w' s3)) (fun r s₃ h₃=>wpAny_bind (wpAny_letTemporaryGo (wpAny_pure h₃))) fun _ _ x=>x)
 first
  | exact wpAny_pure (wpAny_bind fin)
  | exact wpAny_bind (wpAny_pure (wpAny_bind fin))
  | exact wpAny_bind fin
def ixD:D→D→Option Res
 | .lst xs,.int i=>(atI xs i).map .val
 | .tup xs,.int i=>(atI xs i).map .val
 | .scr ns,.int i=>(atI ns i).map fun n=>.val (.int n)
 | .str z,.int i=>if z.length≤sizeLine then (atI z.cps.toList i).map fun c=>.val (.str ⟨#[c]⟩) else none
 | .dct kvs,x=>(keyD x).bind fun k=>(valK kvs k).map .val
 | .dctO kvs,x=>(keyD x).bind fun k=>(gV k kvs).bind fun d=>if isKid d then none else some (.val d)
 | _,_=>none
def rIxD (K:PySem.W.Frag):R2:=OrR (rIxL K) (OrR (rIxT K) (OrR rIxS (fun x y H Q=>∃ a v,x=.ref a∧DGet H a y (some v)∧Q v H)))
theorem ix_D {X:Cx}(hu:X.A.units+1<cLine):IxR X (rIxD X.K):=ix_list.or (ix_tup.or (ix_str.or (ix_dict hu)))
theorem DpL.atI {G:Gx}{F:Hp}{vs:List V}{ds:List D}{i:Int}{d:D}(t:DpL G F vs ds)(h:L2.atI ds i=some d):∃ v,L2.atI vs i=some v∧Dp G F v d:=by
 unfold L2.atI at h ⊢
 rw [t.length]
 cases e:ixN ds.length i with
 | none=>rw [e] at h; cases h
 | some j =>
  rw [e] at h
  exact t.get h
theorem atI_map {α β:Type}(f:α→β)(xs:List α)(i:Int):L2.atI (xs.map f) i=(L2.atI xs i).map f:=by
 unfold L2.atI
 rw [List.length_map]
 cases ixN xs.length i with
 | none=>rfl
 | some j=>simp
theorem ixD_ok {G:Gx}:BinOk G (rIxD G.K) ixD:=by
 intro F H x y dx dy res Q e vx vy q k
 unfold ixD at q
 split at q
 ·rename_i xs i
  obtain ⟨d,h,rfl⟩:=Option.map_eq_some_iff.mp q
  obtain ⟨a,vs,rfl,hH,t⟩:=vx.lst e
  obtain ⟨v,h1,h2⟩:=t.atI h
  exact .inl ⟨a,vs,i,v,rfl,vy.int,SqL.of hH,h1,k _ F H (.refl e) h2⟩
 ·rename_i xs i
  obtain ⟨d,h,rfl⟩:=Option.map_eq_some_iff.mp q
  obtain ⟨a,vs,rfl,hH,t⟩:=vx.tup e
  obtain ⟨v,h1,h2⟩:=t.atI h
  exact .inr (.inl ⟨a,vs,i,v,rfl,vy.int,hH,h1,k _ F H (.refl e) h2⟩)
 ·rename_i ns i
  obtain ⟨n,h,rfl⟩:=Option.map_eq_some_iff.mp q
  obtain ⟨a,rfl,hH⟩:=vx.scr e
  exact .inl ⟨a,_,i,.int n,rfl,vy.int,hH,by rw [atI_map,h]; rfl,k _ F H (.refl e) (.int n)⟩
 ·rename_i z i
  split at q
  ·rename_i w
   obtain ⟨n,h,rfl⟩:=Option.map_eq_some_iff.mp q
   exact .inr (.inr (.inl ⟨z,i,n,vx.str,vy.int,w,h,k _ F H (.refl e) (.str _)⟩))
  ·cases q
 ·rename_i kvs _
  obtain ⟨kk,h1,h2⟩:=Option.bind_eq_some_iff.mp q
  obtain ⟨d,h3,rfl⟩:=Option.map_eq_some_iff.mp h2
  obtain ⟨a,vs,rfl,hH,t⟩:=vx.dct e
  have hx:=keyD_ok vy h1
  subst hx
  rcases t.val (k:=kk) with ⟨w1,w2⟩ | ⟨v,d',w1,w2,w3⟩
  ·rw [w1] at h3; cases h3
  ·rw [w1] at h3; cases h3
   exact .inr (.inr (.inr ⟨a,v,rfl,w2▸DGet.k hH,k _ F H (.refl e) w3⟩))
 ·rename_i kvs _
  obtain ⟨kk,h1,h2⟩:=Option.bind_eq_some_iff.mp q
  obtain ⟨d,h3,h4⟩:=Option.bind_eq_some_iff.mp h2
  split at h4
  ·cases h4
  ·rename_i z
   cases h4
   obtain ⟨a,vs,L,rfl,hH,t⟩:=vx.dctO
   have hx:=keyD_ok vy h1
   subst hx
   obtain ⟨v,L',w1,w2,w3⟩:=kdp_get t h3
   exact .inr (.inr (.inr ⟨a,v,rfl,by rw [← w1,← valV_g]; exact DGet.k hH,k _ F H (.refl e) (w2.fz' (by simpa using z)).1⟩))
 ·cases q
section
variable {X:Cx}{Γ:Gm}{W:WX}{a b e:Expr}{ma mb:M}{pos p2:Pos}{es:List Expr}
theorem je_ix (hK:X.K=Γ.G.K)(hu:X.A.units+1<cLine)(ha:PE X a (tM Γ W ma))(hb:PE X b (tM Γ W mb))(hs:PlainIx b:=by exact fun _ _=>rfl):PE X (.Subscript a b pos) (tM Γ W (mBin ixD ma mb)) :=
 (pe_ix (ix_D hu) (je_f ha) (je_f hb) hs).imp (hK▸tOp_ok ixD_ok)
def cutD {α:Type}(xs:List α)(lo hi:Option Int):List α:=(xs.drop (HT.sIx xs.length 0 lo)).take (HT.sIx xs.length xs.length hi-HT.sIx xs.length 0 lo)
end
def slD:D→Option Int→Option Int→Option Res
 | .lst xs,lo,hi=>some (.new (.lst (cutD xs lo hi)))
 | .scr xs,lo,hi=>some (.new (.lst ((cutD xs lo hi).map D.int)))
 | .tup xs,lo,hi=>some (.val (.tup (cutD xs lo hi)))
 | .str z,lo,hi=>if z.length≤sizeLine then some (.val (.str (cutS z lo hi))) else none
 | _,_,_=>none
def rSlD (K:PySem.W.Frag):V→Option Int→Option Int→Hp→VK→Prop:=fun x lo hi H Q=>rSlL K x lo hi H Q∨(fun x lo hi H Q=>rSlA K x lo hi H Q∨rSlS x lo hi H Q) x lo hi H Q
theorem sl_D {X:Cx}:SlR X (rSlD X.K):=sl_list.or (sl_tupA.or sl_str)
theorem DpL.cut {G:Gx}{F:Hp}{vs:List V}{ds:List D}(t:DpL G F vs ds)(lo hi:Option Int):DpL G F (cutV vs lo hi) (cutD ds lo hi):=by
 unfold cutV cutD
 rw [t.length]
 exact (t.drop _).take _
theorem ints_dpl {G:Gx}{F:Hp}:∀ ns:List Int,DpL G F (ns.map V.int) (ns.map D.int)
 | []=>.nil
 | n::ns=>.cons (.int n) (ints_dpl ns)
theorem slD_ok {G:Gx}{F H:Hp}{x:V}{dx:D}{lo hi:Option Int}{res:Res}{Q:VK}(e:Same F H)(vx:View G F H x dx)(q:slD dx lo hi=some res)
  (k:∀ v F' H',Alc F H F' H'→RepNew G H F' H' v res→Q v H'):rSlD G.K x lo hi H Q:=by
 unfold slD at q
 split at q
 ·rename_i xs
  cases q
  obtain ⟨a,vs,rfl,hH,t⟩:=vx.lst e
  exact .inl ⟨a,vs,rfl,SqL.of hH,fun p hp=>k _ F _ (.cell e hp) ⟨p,rfl,Same.free e hp,⟨_,upd_same,t.cut _ _⟩,hp⟩⟩
 ·rename_i xs
  cases q
  obtain ⟨a,rfl,hH⟩:=vx.scr e
  refine .inl ⟨a,_,rfl,hH,fun p hp=>k _ F _ (.cell e hp) ⟨p,rfl,Same.free e hp,⟨_,upd_same,?_⟩,hp⟩⟩
  have h:=(ints_dpl (G:=G) (F:=F) xs).cut lo hi
  have z:cutD (xs.map D.int) lo hi=(cutD xs lo hi).map D.int:=by unfold cutD; simp [List.map_take,List.map_drop]
  rw [← z]; exact h
 ·rename_i xs
  cases q
  have hx:Dp G F x (.tup xs):=by
   rcases vx with h | ⟨_,_,_,c⟩
   ·exact h
   ·cases c with | flat c=>exact c.elim
  obtain ⟨a,vs,rfl,hH,t⟩:=vx.tup e
  refine .inr (.inl ⟨a,vs,rfl,hH,fun z=>?_,fun _ p hp=>k _ _ _ (.tup e hp) (.tup (SqT.of upd_same) ((t.cut _ _).mono (Alc.tup e hp).subF))⟩)
  have w:cutD xs lo hi=xs:=by
   unfold cutD
   rw [← t.length,z.1,z.2,t.length]
   simp
  rw [w] at k
  exact k _ F H (.refl e) hx
 ·rename_i z
  split at q
  ·rename_i w
   cases q
   exact .inr (.inr ⟨z,vx.str,w,k _ F H (.refl e) (.str _)⟩)
  ·cases q
 ·cases q
def opSl (a:Res)(lo hi:Option Int)(ρ:Rho):Out Res:=match resolve ρ a with
 | some x=>(match slD x lo hi with | some r=>.ok r ρ | none=>.stuck)
 | none=>.stuck
def part {β:Type}(m:Option M)(ρ:Rho)(k:Option Int→Rho→Out β):Out β:=match m with
 | none=>k none ρ
 | some m=>bindF (m ρ) fun r ρ1=>match resolve ρ1 r with
  | some (.int i)=>k (some i) ρ1
  | _=>.stuck
def mSl (ma:M)(lo hi:Option M):M:=fun ρ=>bindF (ma ρ) fun a ρ1=>part lo ρ1 fun l ρ2=>part hi ρ2 fun h ρ3=>opSl a l h ρ3
def tO (Γ:Gm)(W:WX):Option M→TO
 | none=>tNoPart
 | some m=>tPart (tF Γ W m)
inductive JO (X:Cx)(Γ:Gm)(W:WX):Option Expr→Option M→Prop
 | none:JO X Γ W none none
 | some {e:Expr} {m:M}:PE X e (tM Γ W m)→JO X Γ W (some e) (some m)
theorem JO.po {X:Cx}{Γ:Gm}{W:WX}{e:Option Expr}{m:Option M}(h:JO X Γ W e m):PO X e (tO Γ W m):=by
 cases h with
 | none=>exact po_none
 | some h=>exact po_some (je_f h)
theorem part_ok {X:Cx}{Γ:Gm}{W:WX}{m:Option M}{ρ:Rho}{k:Option Int→Rho→Out Res}{σ:St}{F H:Hp}{Q:VK}{R:Option Int→Hp→Prop}(r:Rel Γ ρ σ F H)(h:Post Γ W (part m ρ k) ρ σ F H Q)
  (hk:∀ o ρ1 F1 H1,Stp Γ ρ σ F H ρ1 σ F1 H1→Post Γ W (k o ρ1) ρ1 σ F1 H1 Q→R o H1):tO Γ W m σ H R:=by
 cases m with
 | none=>exact hk none ρ F H (.refl r) h
 | some m =>
  simp only [part] at h
  refine ⟨ρ,F,r,Post.bindF h fun r ρ1 v F1 H1 s1 hr p1=>?_⟩
  split at p1
  ·rename_i i ei
   exact ⟨i,(hr.view s1.rel ei).int,hk _ ρ1 F1 H1 s1 p1⟩
  ·exact p1.elim
section
variable {X:Cx}{Γ:Gm}{W:WX}{a b e:Expr}{ma mb:M}{lo hi:Option Expr}{ml mh:Option M}{pos p2:Pos}{es:List Expr}
theorem je_sl (hK:X.K=Γ.G.K)(ha:PE X a (tM Γ W ma))(hl:JO X Γ W lo ml)(hh:JO X Γ W hi mh):PE X (.Subscript a (.Slice lo hi none p2) pos) (tM Γ W (mSl ma ml mh)) :=
 (pe_slice sl_D (je_f ha) hl.po hh.po).imp fun σ H Q ⟨ρ,F,R,p⟩=>⟨ρ,F,R,p.bindF fun r ρ1 x F1 H1 s1 hr p1=>part_ok (X:=X) s1.rel p1 fun l ρ2 F2 H2 s2 p2=>part_ok (X:=X) s2.rel p2 fun h ρ3 F3 H3 s3 p3=>by
  unfold opSl at p3
  split at p3
  ·rename_i d ed
   split at p3
   ·rename_i res er
    rw [hK]
    exact slD_ok s3.rel.sub ((hr.mono (s2.subF.trans s3.subF)).view s3.rel ed) er (fin_new s3.rel p3)
   ·exact p3.elim
  ·exact p3.elim⟩
inductive RepFs (G:Gx)(σ:St)(F:Hp):List V→List Res→Prop
 | nil:RepFs G σ F [] []
 | cons {v:V} {r:Res} {vs:List V} {rs:List Res}:RepF G σ F v r→RepFs G σ F vs rs→RepFs G σ F (v::vs) (r::rs)
end
abbrev MA:=Rho→Out (List Res)
def PostA (Γ:Gm)(W:WX)(o:Out (List Res))(ρ:Rho)(σ:St)(F H:Hp)(Q:List V→Hp→Prop):Prop :=
 match o with
 | .ok rs ρ'=>∀ vs F' H',Stp Γ ρ σ F H ρ' σ F' H'→RepFs Γ.G σ F' vs rs→Q vs H'
 | .exc x ρ'=>∀ d F' H',Stp Γ ρ σ F H ρ' σ F' H'→ExcRep Γ.G F' H' x d→W (ecV Γ.G x.c) d σ H'
 | .stuck=>False
def tMA (Γ:Gm)(W:WX)(m:MA):TA:=fun σ H Q=>∃ ρ F,Rel Γ ρ σ F H∧PostA Γ W (m ρ) ρ σ F H Q
theorem RepFs.mono {G:Gx}{σ:St}{F F':Hp}(e:Same F F'):∀ {vs:List V} {rs:List Res},RepFs G σ F vs rs→RepFs G σ F' vs rs
 | _,_,.nil=>.nil
 | _,_,.cons h t=>.cons (h.mono e) (RepFs.mono e t)
theorem PostA.shift {Γ:Gm}{W:WX}{o:Out (List Res)}{ρ ρ2:Rho}{σ:St}{F H F2 H2:Hp}{Q:List V→Hp→Prop}(s:Stp Γ ρ σ F H ρ2 σ F2 H2)(h:PostA Γ W o ρ σ F H Q):PostA Γ W o ρ2 σ F2 H2 Q:=by
 cases o with
 | ok r ρ'=>exact fun v F' H' s2 q=>h v F' H' (s.trans s2) q
 | exc x ρ'=>exact fun d F' H' s2 q=>h d F' H' (s.trans s2) q
 | stuck=>exact h
theorem PostA.bindF {Γ:Gm}{W:WX}{o:Out Res}{k:Res→Rho→Out (List Res)}{ρ:Rho}{σ:St}{F H:Hp}{Q:List V→Hp→Prop}{Q1:VK}(h:PostA Γ W (PyD.bindF o k) ρ σ F H Q)
  (hk:∀ r ρ1 v F1 H1,Stp Γ ρ σ F H ρ1 σ F1 H1→RepF Γ.G σ F1 v r→PostA Γ W (k r ρ1) ρ1 σ F1 H1 Q→Q1 v H1):PostF Γ W o ρ σ F H Q1:=by
 cases o with
 | ok r ρ'=>exact fun v F' H' s q=>hk r.frz ρ' v F' H' s q (h.shift s)
 | exc x ρ'=>exact h
 | stuck=>exact h
theorem PostA.bindA {Γ:Gm}{W:WX}{o:Out (List Res)}{k:List Res→Rho→Out (List Res)}{ρ:Rho}{σ:St}{F H:Hp}{Q Q1:List V→Hp→Prop}(h:PostA Γ W (bindO o k) ρ σ F H Q)
  (hk:∀ r ρ1 v F1 H1,Stp Γ ρ σ F H ρ1 σ F1 H1→RepFs Γ.G σ F1 v r→PostA Γ W (k r ρ1) ρ1 σ F1 H1 Q→Q1 v H1):PostA Γ W o ρ σ F H Q1:=by
 cases o with
 | ok r ρ'=>exact fun v F' H' s q=>hk r ρ' v F' H' s q (h.shift s)
 | exc x ρ'=>exact h
 | stuck=>exact h
theorem Post.bindA {Γ:Gm}{W:WX}{o:Out (List Res)}{k:List Res→Rho→Out Res}{ρ:Rho}{σ:St}{F H:Hp}{Q:VK}{Q1:List V→Hp→Prop}(h:Post Γ W (bindO o k) ρ σ F H Q)
  (hk:∀ r ρ1 v F1 H1,Stp Γ ρ σ F H ρ1 σ F1 H1→RepFs Γ.G σ F1 v r→Post Γ W (k r ρ1) ρ1 σ F1 H1 Q→Q1 v H1):PostA Γ W o ρ σ F H Q1:=by
 cases o with
 | ok r ρ'=>exact fun v F' H' s q=>hk r ρ' v F' H' s q (h.shift s)
 | exc x ρ'=>exact h
 | stuck=>exact h
def mNil:MA:=fun ρ=>.ok [] ρ
def mCons (ma:M)(mr:MA):MA:=fun ρ=>bindF (ma ρ) fun a ρ1=>bindO (mr ρ1) fun as ρ2=>.ok (a::as) ρ2
section
variable {X:Cx}{Γ:Gm}{W:WX}{e:Expr}{ma:M}{mr:MA}{pos p:Pos}{es:List Expr}
theorem ja_nil:PA X [] (tMA Γ W mNil):=pa_nil.imp fun σ H Q ⟨ρ,F,R,p⟩=>p [] F H (.refl R) .nil
theorem tCons_ok:∀ σ H Q,tMA Γ W (mCons ma mr) σ H Q→tCons (tF Γ W ma) (tMA Γ W mr) σ H Q:=fun σ H Q ⟨ρ,F,R,p⟩=>⟨ρ,F,R,p.bindF fun r ρ1 v F1 H1 s1 hr p1=>⟨ρ1,F1,s1.rel,p1.bindA fun rs ρ2 vs F2 H2 s2 hrs p2 =>
 p2 (v::vs) F2 H2 (.refl s2.rel) (.cons (hr.mono s2.subF) hrs)⟩⟩
theorem ja_cons (ha:PE X e (tM Γ W ma))(hr:PA X es (tMA Γ W mr))(hs:starEach (e::es) X.env=(false,eval e X.env)::starEach es X.env:=by rfl):PA X (e::es) (tMA Γ W (mCons ma mr)) :=
 (pa_cons (je_f ha) hr hs).imp tCons_ok
end
def resolves (ρ:Rho):List Res→Option (List D)
 | []=>some []
 | r::rs=>match resolve ρ r,resolves ρ rs with
  | some d,some ds=>some (d::ds)
  | _,_=>none
inductive Views (G:Gx)(F H:Hp):List V→List D→Prop
 | nil:Views G F H [] []
 | cons {v:V} {d:D} {vs:List V} {ds:List D}:View G F H v d→Views G F H vs ds→Views G F H (v::vs) (d::ds)
theorem RepFs.views {Γ:Gm}{ρ:Rho}{σ:St}{F H:Hp}(R:Rel Γ ρ σ F H):∀ {vs:List V} {rs:List Res} {ds:List D},RepFs Γ.G σ F vs rs→resolves ρ rs=some ds→Views Γ.G F H vs ds
 | _,_,_,.nil,e=>by simp [resolves] at e; subst e; exact .nil
 | _,_,_,.cons h t,e=>by
  simp only [resolves] at e
  split at e
  ·rename_i d ds e1 e2
   cases e
   exact .cons (h.view R e1) (RepFs.views R t e2)
  ·cases e
def CallOk (G:Gx)(r:List V→Hp→VK→Prop)(f:List D→Option Res):Prop:=∀ F H xs ds res Q,Same F H→Views G F H xs ds→f ds=some res →
 (∀ v F' H',Alc F H F' H'→RepNew G H F' H' v res→Q v H')→r xs H Q
def opN (f:List D→Option Res)(as:List Res)(ρ:Rho):Out Res:=match resolves ρ as with
 | some ds=>(match f ds with | some r=>.ok r ρ | none=>.stuck)
 | none=>.stuck
def mCB (f:List D→Option Res)(ma:MA):M:=fun ρ=>bindO (ma ρ) fun as ρ1=>opN f as ρ1
theorem opN_ok {Γ:Gm}{W:WX}{r:List V→Hp→VK→Prop}{f:List D→Option Res}{as:List Res}{ρ:Rho}{σ:St}{F H:Hp}{Q:VK}{xs:List V}(hf:CallOk Γ.G r f)(R:Rel Γ ρ σ F H)(ha:RepFs Γ.G σ F xs as)(h:Post Γ W (opN f as ρ) ρ σ F H Q):r xs H Q:=by
 unfold opN at h
 split at h
 ·rename_i ds e1
  split at h
  ·rename_i res e3
   exact hf F H xs ds res Q R.sub (ha.views R e1) e3 (fin_new R h)
  ·exact h.elim
 ·exact h.elim
theorem tCB_ok {Γ:Gm}{W:WX}{r:List V→Hp→VK→Prop}{f:List D→Option Res}{ma:MA}(hf:CallOk Γ.G r f):∀ σ H Q,tM Γ W (mCB f ma) σ H Q→tCB r (tMA Γ W ma) σ H Q:=fun σ H Q ⟨ρ,F,R,p⟩=>⟨ρ,F,R,p.bindA fun rs ρ1 vs F1 H1 s1 hr p1=>opN_ok hf s1.rel hr p1⟩
section
variable {X:Cx}{Γ:Gm}{W:WX}{e:Expr}{ma:MA}{pos p:Pos}{es:List Expr}{r:List V→Hp→VK→Prop}{f:List D→Option Res}{x:Str}{id T:String}
theorem je_callB (hc:CallR X (.builtin id) r)(hf:CallOk Γ.G r f)(hm:X.mg x=none)(hv:bootBuiltins x=some (.builtin id))(ha:PA X (e::es) (tMA Γ W ma))(hg:Gl X x:=by rfl)(hn:x ≠ "__name__":=by decide)(hdb:(x==("__debug__" : Str))=false:=by decide)
  (he:starEach (e::es) X.env=(false,eval e X.env)::starEach es X.env:=by rfl) (hpl:(backTo pos (starEach es X.env)).any (·.1)=false:=by rfl):PE X (.Call (.Name x p) (e::es) [] pos) (tM Γ W (mCB f ma)) :=
 (pe_callB hc hg hm hv ha hn hdb he hpl).imp (tCB_ok hf)
theorem je_callTy (hc:CallR X (.type T) r)(hf:CallOk Γ.G r f)(hm:X.mg x=none)(hv:bootBuiltins x=some (.type T))(ha:PA X (e::es) (tMA Γ W ma))(hg:Gl X x:=by rfl)(hn:x ≠ "__name__":=by decide)(hdb:(x==("__debug__" : Str))=false:=by decide)
  (he:starEach (e::es) X.env=(false,eval e X.env)::starEach es X.env:=by rfl) (hpl:(backTo pos (starEach es X.env)).any (·.1)=false:=by rfl):PE X (.Call (.Name x p) (e::es) [] pos) (tM Γ W (mCB f ma)) :=
 (pe_callTy hc hg hm hv ha hn hdb he hpl).imp (tCB_ok hf)
end
theorem get_set {α:Type}{l:List α}{i j:Nat}{x y:α}(h:(l.set i x)[j]?=some y):(i=j∧y=x∧i<l.length)∨(i≠j∧l[j]?=some y):=by
 by_cases e:i=j
 ·subst e
  rcases Nat.lt_or_ge i l.length with z | z
  ·rw [List.getElem?_set_self z] at h; exact .inl ⟨rfl,(Option.some.inj h).symm,z⟩
  ·rw [List.getElem?_eq_none (by simpa using z)] at h; cases h
 ·rw [List.getElem?_set_ne e] at h; exact .inr ⟨e,h⟩
theorem Rel.put {Γ:Gm}{ρ:Rho}{σ σ':St}{F H:Hp}{i:Nat}{sl:Slot}{v:V}{L:List Addr}(R:Rel Γ ρ σ F H)(hi:i<ρ.length)(h1:σ'[i]?=some (some v))(h2:∀ j,j≠i→σ'[j]?=σ[j]?)(hl:σ'.length=σ.length)(ok:SlotOk Γ F H v L sl)
  (new:∀ b∈L,F b=none∧¬ Γ.U b∧∀ j,j≠i→¬ OwnAt Γ ρ σ F H j b):Rel Γ (ρ.set i (some sl)) σ' F H∧(∀ j a,OwnAt Γ (ρ.set i (some sl)) σ' F H j a→(j=i∧a∈L)∨(j≠i∧OwnAt Γ ρ σ F H j a)):=by
 have back:∀ j a,OwnAt Γ (ρ.set i (some sl)) σ' F H j a→(j=i∧a∈L)∨(j≠i∧OwnAt Γ ρ σ F H j a):=fun j a o=>by
  by_cases e:j=i
  ·subst e; exact .inl ⟨rfl,o.of (by rw [List.getElem?_set_self hi]) h1 ok⟩
  ·exact .inr ⟨e,own_back R (Same.refl _) j (fun s q=>by rwa [List.getElem?_set_ne (Ne.symm e)] at q) (h2 j e) (fun _ _ _ q=>q) o⟩
 refine ⟨⟨R.sub,fun j s q=>?_,fun j k a o1 o2=>?_,fun j a o=>?_,by simp [R.len,hl],R.inv,R.ali,R.tab⟩,back⟩
 ·rcases get_set q with ⟨e,e2,_⟩ | ⟨e,q⟩
  ·subst e; cases e2; exact ⟨v,L,h1,ok⟩
  ·exact slot_keep R (Same.refl _) j q (h2 j (Ne.symm e)) fun _ _ _ q=>q
 ·rcases back j a o1 with ⟨e1,m1⟩ | ⟨e1,m1⟩
  ·rcases back k a o2 with ⟨e2,m2⟩ | ⟨e2,m2⟩
   ·rw [e1,e2]
   ·exact absurd m2 ((new a m1).2.2 k e2)
  ·rcases back k a o2 with ⟨e2,m2⟩ | ⟨e2,m2⟩
   ·exact absurd m1 ((new a m2).2.2 j e1)
   ·exact R.inj j k a m1 m2
 ·rcases back j a o with ⟨e1,m1⟩ | ⟨e1,m1⟩
  ·exact ⟨(new a m1).1,(new a m1).2.1⟩
  ·exact R.own j a m1
theorem Stp.set {Γ:Gm}{ρ₀ ρ:Rho}{σ₀ σ:St}{F₀ H₀ F H:Hp}{i:Nat}{sl:Slot}{v:V}{L:List Addr}(s:Stp Γ ρ₀ σ₀ F₀ H₀ ρ σ F H)(hi:i<ρ.length)(ok:SlotOk Γ F H v L sl)(new:Fresh Γ ρ σ F H L):Stp Γ ρ₀ σ₀ F₀ H₀ (ρ.set i (some sl)) (σ.set i (some v)) F H :=
 ⟨(s.rel.put hi (by rw [List.getElem?_set_self (by rw [← s.rel.len]; exact hi)]) (fun j e=>by rw [List.getElem?_set_ne (Ne.symm e)]) (by simp) ok fun b hb=>⟨(new b hb).1,(new b hb).2.1,fun j _ o=>(new b hb).2.2 ⟨j,o⟩⟩).1,s.subF,s.keep,s.there⟩
theorem fresh_nil {Γ:Gm}{ρ:Rho}{σ:St}{F H:Hp}:Fresh Γ ρ σ F H []:=fun b hb=>by cases hb
theorem Stp.setV {Γ:Gm}{ρ₀ ρ:Rho}{σ₀ σ:St}{F₀ H₀ F H:Hp}{i:Nat}{d:D}{v:V}(s:Stp Γ ρ₀ σ₀ F₀ H₀ ρ σ F H)(hi:i<ρ.length)(ok:Dp Γ.G F v d):Stp Γ ρ₀ σ₀ F₀ H₀ (ρ.set i (some (.val d))) (σ.set i (some v)) F H :=
 s.set (L:=[]) hi ⟨ok,rfl⟩ fresh_nil
theorem Rel.drop {Γ:Gm}{ρ:Rho}{σ σ':St}{F H:Hp}(R:Rel Γ ρ σ F H)(i:Nat)(h2:∀ j,j≠i→σ'[j]?=σ[j]?)(hl:σ'.length=σ.length):Rel Γ (ρ.set i none) σ' F H∧∀ j a,OwnAt Γ (ρ.set i none) σ' F H j a→j≠i∧OwnAt Γ ρ σ F H j a:=by
 have back:∀ j a,OwnAt Γ (ρ.set i none) σ' F H j a→j≠i∧OwnAt Γ ρ σ F H j a:=fun j a o=>by
  have e:j≠i:=fun e=>by
   obtain ⟨s,v,L,q,_⟩:=o
   rcases get_set q with ⟨_,e2,_⟩ | ⟨e1,_⟩
   ·cases e2
   ·exact e1 e.symm
  exact ⟨e,own_back R (Same.refl _) j (fun s q=>by rwa [List.getElem?_set_ne (Ne.symm e)] at q) (h2 j e) (fun _ _ _ q=>q) o⟩
 refine ⟨⟨R.sub,fun j s q=>?_,fun j k a o1 o2=>R.inj j k a (back j a o1).2 (back k a o2).2,fun j a o=>R.own j a (back j a o).2,by simp [R.len,hl],R.inv,R.ali,R.tab⟩,back⟩
 rcases get_set q with ⟨e,e2,_⟩ | ⟨e,q⟩
 ·cases e2
 ·exact slot_keep R (Same.refl _) j q (h2 j (Ne.symm e)) fun _ _ _ q=>q
theorem Stp.drop {Γ:Gm}{ρ₀ ρ:Rho}{σ₀ σ:St}{F₀ H₀ F H:Hp}(s:Stp Γ ρ₀ σ₀ F₀ H₀ ρ σ F H)(i:Nat):Stp Γ ρ₀ σ₀ F₀ H₀ (ρ.set i none) σ F H :=
 ⟨(s.rel.drop i (fun _ _=>rfl) rfl).1,s.subF,s.keep,s.there⟩
def settle (r:Res)(ρ:Rho):Option (D×Rho):=match r with
 | .val d=>some (d,ρ)
 | .new _=>none
 | .at i=>match ρ[i]? with
  | some (some (.val d))=>some (d,ρ)
  | some (some (.own none d))=>some (strip d,ρ.set i (some (.val (strip d))))
  | _=>none
def settles (rs:List Res)(ρ:Rho):Option (List D×Rho):=match rs with
 | []=>some ([],ρ)
 | r::rs=>match settle r ρ with
  | some (d,ρ1)=>(match settles rs ρ1 with
   | some (ds,ρ2)=>some (d::ds,ρ2)
   | none=>none)
  | none=>none
theorem lt_of_get {α:Type}{l:List α}{i:Nat}{x:α}(q:l[i]?=some x):i<l.length:=by
 rcases Nat.lt_or_ge i l.length with y | y
 ·exact y
 ·rw [List.getElem?_eq_none y] at q; cases q
theorem settle_ok {Γ:Gm}{ρ ρ':Rho}{σ:St}{F H:Hp}{v:V}{r:Res}{d:D}(R:Rel Γ ρ σ F H)(h:RepF Γ.G σ F v r)(e:settle r ρ=some (d,ρ')):∃ F',Stp Γ ρ σ F H ρ' σ F' H∧Dp Γ.G F' v d:=by
 cases r with
 | val d'=>simp only [settle,Option.some.injEq,Prod.mk.injEq] at e; obtain ⟨rfl,rfl⟩:=e; exact ⟨F,.refl R,h⟩
 | new d'=>exact h.elim
 | «at» i =>
  have h:σ[i]?=some (some v):=h
  simp only [settle] at e
  split at e
  ·rename_i d' q
   simp only [Option.some.injEq,Prod.mk.injEq] at e
   obtain ⟨rfl,rfl⟩:=e
   obtain ⟨v',h1,h2⟩:=R.slotV q
   rw [h] at h1; cases h1
   exact ⟨F,.refl R,h2⟩
  ·rename_i d' q
   simp only [Option.some.injEq,Prod.mk.injEq] at e
   obtain ⟨rfl,rfl⟩:=e
   obtain ⟨a,L,z,c,hb,ow⟩:=R.slotO q h
   obtain ⟨R1,bk⟩:=R.drop (σ':=σ) i (fun _ _=>rfl) rfl
   have s2:=R1.freeze (L:=L) (fun b hb=>R.own i b (ow b hb)) (fun b hb ⟨j,o⟩=>(bk j b o).1 (R.inj j i b (bk j b o).2 (ow b hb))) c.okU
   have dp:Dp Γ.G (frzH F H L) v (strip d'):=by rw [z]; exact c.freeze fun b hb=>(R.own i b (ow b hb)).1
   obtain ⟨R3,_⟩:=s2.rel.put (σ':=σ) (i:=i) (L:=[]) (sl:=.val (strip d')) (by simpa using lt_of_get q) h (fun _ _=>rfl) rfl ⟨dp,rfl⟩ (fun b hb=>by cases hb)
   rw [List.set_set] at R3
   exact ⟨frzH F H L,⟨R3,s2.subF,s2.keep,s2.there⟩,dp⟩
  ·cases e
theorem settles_ok {Γ:Gm}:∀ {rs:List Res} {ρ ρ':Rho} {σ:St} {F H:Hp} {vs:List V} {ds:List D},Rel Γ ρ σ F H→RepFs Γ.G σ F vs rs→settles rs ρ=some (ds,ρ')→∃ F',Stp Γ ρ σ F H ρ' σ F' H∧DpL Γ.G F' vs ds
 | [],_,_,_,F,_,_,_,R,.nil,e=>by
  simp only [settles,Option.some.injEq,Prod.mk.injEq] at e
  obtain ⟨rfl,rfl⟩:=e
  exact ⟨F,.refl R,.nil⟩
 | r::rs,_,_,_,_,_,_,_,R,.cons h t,e=>by
  simp only [settles] at e
  split at e
  ·rename_i d ρ1 e1
   split at e
   ·rename_i ds ρ2 e2
    simp only [Option.some.injEq,Prod.mk.injEq] at e
    obtain ⟨rfl,rfl⟩:=e
    obtain ⟨F1,s1,p1⟩:=settle_ok R h e1
    obtain ⟨F2,s2,p2⟩:=settles_ok s1.rel (t.mono s1.subF) e2
    exact ⟨F2,s1.trans s2,.cons (p1.mono s2.subF) p2⟩
   ·cases e
  ·cases e
def opS (f:List D→Option Res)(as:List Res)(ρ:Rho):Out Res:=match settles as ρ with
 | some (ds,ρ1)=>(match f ds with | some r=>.ok r ρ1 | none=>.stuck)
 | none=>.stuck
def SetOk (G:Gx)(r:List V→Hp→VK→Prop)(f:List D→Option Res):Prop:=∀ F H xs ds res Q,Same F H→DpL G F xs ds→f ds=some res →
 (∀ v F' H',Alc F H F' H'→RepNew G H F' H' v res→Q v H')→r xs H Q
theorem opS_ok {Γ:Gm}{W:WX}{r:List V→Hp→VK→Prop}{f:List D→Option Res}{as:List Res}{ρ:Rho}{σ:St}{F H:Hp}{Q:VK}{xs:List V}(hf:SetOk Γ.G r f)(R:Rel Γ ρ σ F H)(ha:RepFs Γ.G σ F xs as)(h:Post Γ W (opS f as ρ) ρ σ F H Q):r xs H Q:=by
 unfold opS at h
 split at h
 ·rename_i ds ρ1 e1
  split at h
  ·rename_i res e3
   obtain ⟨F1,s1,p1⟩:=settles_ok R ha e1
   exact hf F1 H xs ds res Q s1.rel.sub p1 e3 (fin_new s1.rel (h.shift s1))
  ·exact h.elim
 ·exact h.elim
def mCS (f:List D→Option Res)(ma:MA):M:=fun ρ=>bindO (ma ρ) fun as ρ1=>opS f as ρ1
def tupD (ds:List D):Option Res:=if ds.length≤sizeLine then some (.val (.tup ds)) else none
def lstD (ds:List D):Option Res:=if ds.length≤sizeLine then some (.new (.lst ds)) else none
theorem tupD_ok {G:Gx}:SetOk G (fun xs H1 Q=>xs.length≤sizeLine∧∀ p,H1 p=none→Q (.ref p) (upd H1 p (.tup xs))) tupD:=by
 intro F H xs ds res Q e t q k
 unfold tupD at q
 split at q
 ·cases q
  exact ⟨by rw [t.length]; assumption,fun p hp=>k _ _ _ (.tup e hp) (.tup (SqT.of upd_same) (t.mono (Alc.tup e hp).subF))⟩
 ·cases q
theorem lstD_ok {G:Gx}:SetOk G (fun xs H1 Q=>xs.length≤sizeLine∧∀ p,H1 p=none→Q (.ref p) (upd H1 p (.lst xs))) lstD:=by
 intro F H xs ds res Q e t q k
 unfold lstD at q
 split at q
 ·cases q
  exact ⟨by rw [t.length]; assumption,fun p hp=>k _ _ _ (.cell e hp) ⟨p,rfl,Same.free e hp,⟨_,upd_same,t⟩,hp⟩⟩
 ·cases q
theorem tCS_ok {Γ:Gm}{W:WX}{r:List V→Hp→VK→Prop}{f:List D→Option Res}{ma:MA}(hf:SetOk Γ.G r f):∀ σ H Q,tM Γ W (mCS f ma) σ H Q→tCB r (tMA Γ W ma) σ H Q:=fun σ H Q ⟨ρ,F,R,p⟩=>⟨ρ,F,R,p.bindA fun rs ρ1 vs F1 H1 s1 hr p1=>opS_ok hf s1.rel hr p1⟩
section
variable {X:Cx}{Γ:Gm}{W:WX}{e:Expr}{ma:MA}{pos p:Pos}{es:List Expr}{r:List V→Hp→VK→Prop}{f:List D→Option Res}{x:Str}{id T:String}
theorem je_tup {x1}(h:PA X es (tMA Γ W ma)):PE X (.Tuple es x1 pos) (tM Γ W (mCS tupD ma)):=(pe_tup h).imp (tCS_ok tupD_ok)
theorem je_lst (h:PA X es (tMA Γ W ma)):PE X (.List es pos) (tM Γ W (mCS lstD ma)):=(pe_lst h).imp (tCS_ok lstD_ok)
end
inductive SOut where
 | nx (ρ:Rho)
 | ret (r:Res) (ρ:Rho)
 | bk (ρ:Rho)
 | ct (ρ:Rho)
 | exc (x:Exc) (ρ:Rho)
 | stuck
abbrev MS:=Rho→SOut
def RepOut (Γ:Gm)(ρ:Rho)(σ:St)(F H:Hp)(v:V):Res→Prop
 | .val d=>Dp Γ.G F v d
 | .new d=>∃ a L,v=.ref a∧Ct Γ.G F H a d L∧Fresh Γ ρ σ F H L
 | .at _=>False
def PostS (Γ:Gm)(W:WX)(o:SOut)(ρ:Rho)(σ:St)(F H:Hp)(D:Ends):Prop :=
 match o with
 | .nx ρ'=>∀ σ' F' H',Stp Γ ρ σ F H ρ' σ' F' H'→D.nx σ' H'
 | .ret r ρ'=>∀ v σ' F' H',Stp Γ ρ σ F H ρ' σ' F' H'→RepOut Γ ρ' σ' F' H' v r→D.rt v H'
 | .bk ρ'=>∀ σ' F' H',Stp Γ ρ σ F H ρ' σ' F' H'→D.bk σ' H'
 | .ct ρ'=>∀ σ' F' H',Stp Γ ρ σ F H ρ' σ' F' H'→D.ct σ' H'
 | .exc x ρ'=>∀ d σ' F' H',Stp Γ ρ σ F H ρ' σ' F' H'→ExcRep Γ.G F' H' x d→W (ecV Γ.G x.c) d σ' H'
 | .stuck=>False
def tMS (Γ:Gm)(W:WX)(m:MS):TS:=fun D σ H=>∃ ρ F,Rel Γ ρ σ F H∧PostS Γ W (m ρ) ρ σ F H D
theorem PostS.shift {Γ:Gm}{W:WX}{o:SOut}{ρ ρ2:Rho}{σ σ2:St}{F H F2 H2:Hp}{D:Ends}(s:Stp Γ ρ σ F H ρ2 σ2 F2 H2)(h:PostS Γ W o ρ σ F H D):PostS Γ W o ρ2 σ2 F2 H2 D:=by
 cases o with
 | nx ρ'=>exact fun σ' F' H' s2=>h σ' F' H' (s.trans s2)
 | ret r ρ'=>exact fun v σ' F' H' s2 q=>h v σ' F' H' (s.trans s2) q
 | bk ρ'=>exact fun σ' F' H' s2=>h σ' F' H' (s.trans s2)
 | ct ρ'=>exact fun σ' F' H' s2=>h σ' F' H' (s.trans s2)
 | exc x ρ'=>exact fun d σ' F' H' s2 q=>h d σ' F' H' (s.trans s2) q
 | stuck=>exact h
def bindSF (o:Out Res)(k:Res→Rho→SOut):SOut:=match o with
 | .ok a ρ=>k a.frz ρ
 | .exc x ρ=>.exc x ρ
 | .stuck=>.stuck
def bindSO {α:Type}(o:Out α)(k:α→Rho→SOut):SOut:=match o with
 | .ok a ρ=>k a ρ
 | .exc x ρ=>.exc x ρ
 | .stuck=>.stuck
theorem PostS.bindF {Γ:Gm}{W:WX}{o:Out Res}{k:Res→Rho→SOut}{ρ:Rho}{σ:St}{F H:Hp}{D:Ends}{Q1:VK}(h:PostS Γ W (bindSF o k) ρ σ F H D)
  (hk:∀ r ρ1 v F1 H1,Stp Γ ρ σ F H ρ1 σ F1 H1→RepF Γ.G σ F1 v r→PostS Γ W (k r ρ1) ρ1 σ F1 H1 D→Q1 v H1):PostF Γ W o ρ σ F H Q1:=by
 cases o with
 | ok r ρ'=>exact fun v F' H' s q=>hk r.frz ρ' v F' H' s q (h.shift s)
 | exc x ρ'=>exact fun d F' H' s q=>h d σ F' H' s q
 | stuck=>exact h
theorem PostS.bindM {Γ:Gm}{W:WX}{o:Out Res}{k:Res→Rho→SOut}{ρ:Rho}{σ:St}{F H:Hp}{D:Ends}{Q1:VK}(h:PostS Γ W (bindSO o k) ρ σ F H D)
  (hk:∀ r ρ1 v F1 H1,Stp Γ ρ σ F H ρ1 σ F1 H1→RepRes Γ σ ρ1 F1 H1 v r→PostS Γ W (k r ρ1) ρ σ F H D→Q1 v H1):Post Γ W o ρ σ F H Q1:=by
 cases o with
 | ok r ρ'=>exact fun v F' H' s q=>hk r ρ' v F' H' s q h
 | exc x ρ'=>exact fun d F' H' s q=>h d σ F' H' s q
 | stuck=>exact h
theorem PostS.bindB {Γ:Gm}{W:WX}{o:Out Bool}{k:Bool→Rho→SOut}{ρ:Rho}{σ:St}{F H:Hp}{D:Ends}{Q1:Bool→Hp→Prop}(h:PostS Γ W (bindSO o k) ρ σ F H D)
  (hk:∀ r ρ1 F1 H1,Stp Γ ρ σ F H ρ1 σ F1 H1→PostS Γ W (k r ρ1) ρ1 σ F1 H1 D→Q1 r H1):PostB Γ W o ρ σ F H Q1:=by
 cases o with
 | ok r ρ'=>exact fun F' H' s=>hk r ρ' F' H' s (h.shift s)
 | exc x ρ'=>exact fun d F' H' s q=>h d σ F' H' s q
 | stuck=>exact h
def mNext:MS:=fun ρ=>.nx ρ
def mSeq (m1 m2:MS):MS:=fun ρ=>match m1 ρ with
 | .nx ρ1=>m2 ρ1
 | o=>o
def setR (i:Nat)(r:Res)(ρ:Rho):SOut:=if i<ρ.length then (match r with
 | .val d=>.nx (ρ.set i (some (.val d)))
 | .new d=>.nx (ρ.set i (some (.own none d)))
 | .at j=>match settle (.at j) ρ with
  | some (d,ρ1)=>.nx (ρ1.set i (some (.val d)))
  | none=>.stuck) else .stuck
def mSet (i:Nat)(m:M):MS:=fun ρ=>bindSO (m ρ) fun r ρ1=>setR i r ρ1
def mExpr (m:M):MS:=fun ρ=>bindSO (m ρ) fun _ ρ1=>.nx ρ1
def retR (r:Res)(ρ:Rho):SOut:=match r with
 | .val d=>.ret (.val d) ρ
 | .new d=>.ret (.new d) ρ
 | .at j=>match ρ[j]? with
  | some (some (.val d))=>.ret (.val d) ρ
  | some (some (.own none d))=>.ret (.new d) (ρ.set j none)
  | _=>.stuck
def mRet (m:M):MS:=fun ρ=>bindSO (m ρ) fun r ρ1=>retR r ρ1
def mIfS (t:MB)(m1 m2:MS):MS:=fun ρ=>bindSO (t ρ) fun k ρ1=>if k=true then m1 ρ1 else m2 ρ1
theorem settle_len {r:Res}{ρ ρ':Rho}{d:D}(e:settle r ρ=some (d,ρ')):ρ'.length=ρ.length:=by
 cases r with
 | val d'=>simp only [settle,Option.some.injEq,Prod.mk.injEq] at e; rw [← e.2]
 | new d'=>simp [settle] at e
 | «at» i =>
  simp only [settle] at e
  split at e
  ·simp only [Option.some.injEq,Prod.mk.injEq] at e; rw [← e.2]
  ·simp only [Option.some.injEq,Prod.mk.injEq] at e; rw [← e.2]; simp
  ·cases e
section
variable {X:Cx}{Γ:Gm}{W:WX}{e:Expr}{m:M}{pos pos':Pos}{st:Stmt}{rest a b:List Stmt}{m1 m2:MS}{t:MB}
theorem js_nil:PSs X [] (tMS Γ W mNext):=pss_nil.imp fun D σ H ⟨ρ,F,R,p⟩=>p σ F H (.refl R)
theorem js_cons (h1:PS X st (tMS Γ W m1))(h2:PSs X rest (tMS Γ W m2)):PSs X (st::rest) (tMS Γ W (mSeq m1 m2)):=(pss_cons h1 h2).imp fun D σ H ⟨ρ,F,R,p⟩=>by
 refine ⟨ρ,F,R,?_⟩
 unfold mSeq at p
 cases e:m1 ρ with
 | nx ρ1=>rw [e] at p; exact fun σ' F' H' s=>⟨ρ1,F',s.rel,p.shift s⟩
 | ret r ρ1=>rw [e] at p; exact p
 | bk ρ1=>rw [e] at p; exact p
 | ct ρ1=>rw [e] at p; exact p
 | exc x ρ1=>rw [e] at p; exact p
 | stuck=>rw [e] at p; exact p.elim
theorem js_one (h1:PS X st (tMS Γ W m1)):PSs X [st] (tMS Γ W m1):=pss_one h1
theorem set_go {ρ ρ1:Rho}{σ:St}{F H F1 H1:Hp}{D:Ends}{i:Nat}{r:Res}{v:V}(s:Stp Γ ρ σ F H ρ1 σ F1 H1)(hr:RepRes Γ σ ρ1 F1 H1 v r)(p:PostS Γ W (setR i r ρ1) ρ σ F H D):D.nx (σ.set i (some v)) H1:=by
 unfold setR at p
 split at p
 ·rename_i hi
  cases r with
  | val d=>exact p _ F1 H1 (s.setV hi hr)
  | new d =>
   obtain ⟨a,L,rfl,c,fr⟩:=hr
   exact p _ F1 H1 (s.set hi ⟨a,rfl,c,fun k z=>nomatch z⟩ fr)
  | «at» j =>
   simp only at p
   split at p
   ·rename_i d ρ2 e
    obtain ⟨F2,s2,q⟩:=settle_ok s.rel (show RepF Γ.G σ F1 v (.at j) from hr) e
    exact p _ F2 H1 ((s.trans s2).setV (by rw [settle_len e]; exact hi) q)
   ·exact p.elim
 ·exact p.elim
theorem js_set {i:Nat}{x:Str}(hN:X.N.Nodup)(hx:Loc X.env.scope x)(he:PE X e (tM Γ W m))(hi:X.N[i]?=some x:=by rfl)(hs:swapsWith e (some (.Name x pos')) pos.line X.env=pure false:=by rfl)
  (hf:X.fn x=true∨X.env.scope.names.lookup x=some .local:=by first | exact .inl rfl | exact .inr rfl | assumption) :
  PS X (.Assign [.Name x pos'] e pos) (tMS Γ W (mSet i m)) :=
 (ps_set hN hi hx he hs hf).imp fun D σ H ⟨ρ,F,R,p⟩=>⟨ρ,F,R,p.bindM fun r ρ1 v F1 H1 s1 hr p1=>set_go s1 hr p1⟩
theorem js_expr (he:PE X e (tM Γ W m))(hs:swapsWith e none pos.line X.env=pure false:=by rfl):PS X (.Expr e pos) (tMS Γ W (mExpr m)) :=
 (ps_expr he hs).imp fun D σ H ⟨ρ,F,R,p⟩=>⟨ρ,F,R,p.bindM fun r ρ1 v F1 H1 s1 hr p1=>p1 σ F1 H1 s1⟩
theorem js_ret (he:PE X e (tM Γ W m)):PS X (.Return (some e) pos) (tMS Γ W (mRet m)) :=
 (ps_ret he).imp fun D σ H ⟨ρ,F,R,p⟩=>⟨ρ,F,R,p.bindM fun r ρ1 v F1 H1 s1 hr p1=>by
  unfold retR at p1
  cases r with
  | val d=>exact p1 v σ F1 H1 s1 hr
  | new d=>exact p1 v σ F1 H1 s1 hr
  | «at» j =>
   have hr:σ[j]?=some (some v):=hr
   simp only at p1
   split at p1
   ·rename_i d q
    obtain ⟨v',h1,h2⟩:=s1.rel.slotV q
    rw [hr] at h1; cases h1
    exact p1 v σ F1 H1 s1 h2
   ·rename_i d q
    obtain ⟨a,L,z,c,hb,ow⟩:=s1.rel.slotO q hr
    obtain ⟨R2,bk⟩:=s1.rel.drop (σ':=σ) j (fun _ _=>rfl) rfl
    exact p1 v σ F1 H1 (s1.drop j) ⟨a,L,z,c,fun b hb=>⟨(s1.rel.own j b (ow b hb)).1,(s1.rel.own j b (ow b hb)).2,fun ⟨k,o⟩=>(bk k b o).1 (s1.rel.inj k j b (bk k b o).2 (ow b hb))⟩⟩
   ·exact p1.elim⟩
theorem js_if {c:Expr}(hc:PT X c (tMB Γ W t))(ha:PSs X a (tMS Γ W m1))(hb:PSs X b (tMS Γ W m2)):PS X (.If c a b pos) (tMS Γ W (mIfS t m1 m2)) :=
 (ps_if hc ha hb).imp fun D σ H ⟨ρ,F,R,p⟩=>⟨ρ,F,R,p.bindB fun k ρ1 F1 H1 s1 p1=>by
  by_cases hk:k=true
  ·simp only [hk,if_true] at p1 ⊢; exact ⟨ρ1,F1,s1.rel,p1⟩
  ·simp only [hk] at p1 ⊢; exact ⟨ρ1,F1,s1.rel,p1⟩⟩
end
abbrev Tg:=D→Rho→Option Rho
abbrev Tgs:=List D→Rho→Option Rho
def TgOk (Γ:Gm)(g:TG)(f:Tg):Prop:=∀ v d ρ ρ' σ F H Q,Rel Γ ρ σ F H→Dp Γ.G F v d→f d ρ=some ρ'→(∀ σ',Stp Γ ρ σ F H ρ' σ' F H→Q σ' H)→g v σ H Q
def TgsOk (Γ:Gm)(g:TGs)(f:Tgs):Prop:=∀ vs ds ρ ρ' σ F H Q,Rel Γ ρ σ F H→DpL Γ.G F vs ds→f ds ρ=some ρ'→(∀ σ',Stp Γ ρ σ F H ρ' σ' F H→Q σ' H)→g vs σ H Q
def gN (i:Nat):Tg:=fun d ρ=>if i<ρ.length then some (ρ.set i (some (.val d))) else none
def gsNil:Tgs:=fun ds ρ=>match ds with
 | []=>some ρ
 | _=>none
def gsCons (f:Tg)(g:Tgs):Tgs:=fun ds ρ=>match ds with
 | d::ds=>(f d ρ).bind fun ρ1=>g ds ρ1
 | []=>none
def gT (n:Nat)(g:Tgs):Tg:=fun d ρ=>match d with
 | .tup ds=>if ds.length=n then g ds ρ else none
 | _=>none
theorem tg_name {Γ:Gm}{i:Nat}:TgOk Γ (gName i) (gN i):=by
 intro v d ρ ρ' σ F H Q R h e k
 unfold gN at e
 split at e
 ·rename_i hi
  cases e
  exact k _ ((Stp.refl R).setV hi h)
 ·cases e
theorem tgs_nil {Γ:Gm}:TgsOk Γ gNil gsNil:=by
 intro vs ds ρ ρ' σ F H Q R h e k
 unfold gsNil at e
 split at e
 ·cases e; cases h; exact ⟨rfl,k σ (.refl R)⟩
 ·cases e
theorem tgs_cons {Γ:Gm}{t:TG}{u:TGs}{f:Tg}{g:Tgs}(h1:TgOk Γ t f)(h2:TgsOk Γ u g):TgsOk Γ (gCons t u) (gsCons f g):=by
 intro vs ds ρ ρ' σ F H Q R h e k
 unfold gsCons at e
 split at e
 ·rename_i d ds
  obtain ⟨ρ1,e1,e2⟩:=Option.bind_eq_some_iff.mp e
  cases h with
  | cons ha hb=>exact ⟨_,_,rfl,h1 _ d ρ ρ1 σ F H _ R ha e1 fun σ1 s1=>h2 _ ds ρ1 ρ' σ1 F H Q s1.rel hb e2 fun σ2 s2=>k σ2 (s1.trans s2)⟩
 ·cases e
theorem tg_tup {Γ:Gm}{u:TGs}{g:Tgs}{n:Nat}(h2:TgsOk Γ u g):TgOk Γ (gTup Γ.G.K n u) (gT n g):=by
 intro v d ρ ρ' σ F H Q R h e k
 unfold gT at e
 split at e
 ·rename_i ds
  split at e
  ·rename_i hn
   cases h with
   | tup hs t=>exact ⟨_,_,rfl,sqT_ext hs R.sub,by rw [t.length]; exact hn,h2 _ ds ρ ρ' σ F H Q R t e k⟩
  ·cases e
 ·cases e
section
variable {X:Cx}{Γ:Gm}{W:WX}{e tg:Expr}{m:M}{pos pos':Pos}
end
inductive Arg where
 | v (d:D)
 | o (d:D)
inductive FOut where
 | ret (r:Res) (os:List D)
 | exc (x:Exc) (os:List D)
 | stuck
abbrev Fn:=List Arg→FOut
inductive ARel (G:Gx)(F H:Hp):List V→List Arg→List Addr→Prop
 | nil:ARel G F H [] [] []
 | v {v:V} {d:D} {vs:List V} {as:List Arg} {L:List Addr}:Dp G F v d→ARel G F H vs as L→ARel G F H (v::vs) (.v d::as) L
 | o {a:Addr} {d:D} {vs:List V} {as:List Arg} {L1 L:List Addr}:Ct G F H a d L1→(∀ b∈L1,b∉L)→ARel G F H vs as L→ARel G F H (.ref a::vs) (.o d::as) (L1++L)
inductive ORel (G:Gx)(F H:Hp):List V→List Arg→List D→List Addr→Prop
 | nil:ORel G F H [] [] [] []
 | v {v:V} {d:D} {vs:List V} {as:List Arg} {os:List D} {L:List Addr}:ORel G F H vs as os L→ORel G F H (v::vs) (.v d::as) os L
 | o {a:Addr} {d d':D} {vs:List V} {as:List Arg} {os:List D} {L1 L:List Addr}:Ct G F H a d' L1→(∀ b∈L1,b∉L)→ORel G F H vs as os L→ORel G F H (.ref a::vs) (.o d::as) (d'::os) (L1++L)
structure CStp (T:List NdefX.NTab)(U:Addr→Prop)(F H F' H':Hp):Prop where
 fh:Same F' H'
 subF:Same F F'
 keep:∀ a,U a→H' a=H a
 frn:∀ a,U a→F' a=none
 there:∀ a o,H a=some o→∃ o',H' a=some o'
 tab:NdefX.TabsN T H'
 tfr:∀ p∈T,F' p.1=none
def RepRet (G:Gx)(U:Addr→Prop)(L':List Addr)(F' H':Hp)(v:V):Res→Prop
 | .val d=>Dp G F' v d
 | .new d=>∃ a L,v=.ref a∧Ct G F' H' a d L∧∀ b∈L,F' b=none∧¬ U b∧b∉L'
 | .at _=>False
structure Ali (T:List NdefX.NTab)(U:Addr→Prop)(F H:Hp):Prop where
 ali:∀ a,U a→F a=none∧∃ o,H a=some o
 tab:TabU T U F H
def Off (U:Addr→Prop)(F:Hp)(L:List Addr):Prop:=∀ a∈L,F a=none∧¬ U a
def spF (G:Gx)(T:List NdefX.NTab)(n:Nat)(f:Fn):Sp:=fun vs H Q E=>vs.length=n∧∃ F as L U,Same F H∧ARel G F H vs as L∧Off U F L∧Ali T U F H∧match f as with
 | .ret r os=>∀ v F' H' L',CStp T U F H F' H'→ORel G F' H' vs as os L'→Off U F' L'→RepRet G U L' F' H' v r→Q v H'
 | .exc x os=>∀ d F' H' L',CStp T U F H F' H'→ORel G F' H' vs as os L'→Off U F' L'→ExcRep G F' H' x d→E (ecV G x.c) d H'
 | .stuck=>False
inductive BArg where
 | v (d:D)
 | o (i:Nat) (b:Option Nat) (d:D)
def BArg.strip:BArg→Arg
 | .v d=>.v d
 | .o _ _ d=>.o d
def idx:List BArg→List Nat
 | []=>[]
 | .v _::as=>idx as
 | .o i _ _::as=>i::idx as
def prep1:List Bool→List Res→Rho→Option (List (D ⊕ Nat)×Rho)
 | _,[],ρ=>some ([],ρ)
 | mk,r::rs,ρ=>match mk,r with
  | true::mk,.at i=>(match prep1 mk rs ρ with
   | some (ms,ρ2)=>some (.inr i::ms,ρ2)
   | none=>none)
  | mk,r=>match settle r ρ with
   | some (d,ρ1)=>(match prep1 mk.tail rs ρ1 with
    | some (ms,ρ2)=>some (.inl d::ms,ρ2)
    | none=>none)
   | none=>none
def prep2 (ρ:Rho):List (D ⊕ Nat)→Option (List BArg)
 | []=>some []
 | .inl d::ms=>(prep2 ρ ms).map (.v d::·)
 | .inr i::ms=>match ρ[i]? with
  | some (some (.own b d))=>(match prep2 ρ ms with
   | some as=>if i∈idx as then none else some (.o i b d::as)
   | none=>none)
  | some (some (.val d))=>(prep2 ρ ms).map (.v d::·)
  | _=>none
def wb:List BArg→List D→Rho→Option Rho
 | [],[],ρ=>some ρ
 | .v _::as,os,ρ=>wb as os ρ
 | .o i b _::as,d::os,ρ=>(wb as os ρ).map fun ρ=>ρ.set i (some (.own b d))
 | _,_,_=>none
inductive MRel (G:Gx)(σ:St)(F:Hp):List V→List (D ⊕ Nat)→Prop
 | nil:MRel G σ F [] []
 | v {v:V} {d:D} {vs:List V} {ms:List (D ⊕ Nat)}:Dp G F v d→MRel G σ F vs ms→MRel G σ F (v::vs) (.inl d::ms)
 | o {v:V} {i:Nat} {vs:List V} {ms:List (D ⊕ Nat)}:σ[i]?=some (some v)→MRel G σ F vs ms→MRel G σ F (v::vs) (.inr i::ms)
theorem prep1_ok {Γ:Gm}:∀ {rs:List Res} {mk:List Bool} {ρ ρ':Rho} {σ:St} {F H:Hp} {vs:List V} {ms:List (D ⊕ Nat)},Rel Γ ρ σ F H→RepFs Γ.G σ F vs rs→prep1 mk rs ρ=some (ms,ρ')→∃ F',Stp Γ ρ σ F H ρ' σ F' H∧MRel Γ.G σ F' vs ms
 | [],mk,_,_,_,F,_,_,_,R,.nil,e=>by
  simp only [prep1,Option.some.injEq,Prod.mk.injEq] at e
  obtain ⟨rfl,rfl⟩:=e
  exact ⟨F,.refl R,.nil⟩
 | r::rs,mk,_,_,_,_,_,_,_,R,.cons h t,e=>by
  simp only [prep1] at e
  split at e
  ·rename_i mk' i
   split at e
   ·rename_i ms ρ2 e2
    simp only [Option.some.injEq,Prod.mk.injEq] at e
    obtain ⟨rfl,rfl⟩:=e
    obtain ⟨F2,s2,p2⟩:=prep1_ok R t e2
    exact ⟨F2,s2,.o h p2⟩
   ·cases e
  ·split at e
   ·rename_i d ρ1 e1
    split at e
    ·rename_i ms ρ2 e2
     simp only [Option.some.injEq,Prod.mk.injEq] at e
     obtain ⟨rfl,rfl⟩:=e
     obtain ⟨F1,s1,p1⟩:=settle_ok R h e1
     obtain ⟨F2,s2,p2⟩:=prep1_ok s1.rel (t.mono s1.subF) e2
     exact ⟨F2,s1.trans s2,.v (p1.mono s2.subF) p2⟩
    ·cases e
   ·cases e
inductive BRel (Γ:Gm)(ρ:Rho)(σ:St)(F H:Hp):List V→List BArg→List Addr→Prop
 | nil:BRel Γ ρ σ F H [] [] []
 | v {v:V} {d:D} {vs:List V} {as:List BArg} {L:List Addr}:Dp Γ.G F v d→BRel Γ ρ σ F H vs as L→BRel Γ ρ σ F H (v::vs) (.v d::as) L
 | o {a:Addr} {i:Nat} {b:Option Nat} {d:D} {vs:List V} {as:List BArg} {L1 L:List Addr}:ρ[i]?=some (some (.own b d))→σ[i]?=some (some (.ref a))→Ct Γ.G F H a d L1→i∉idx as→BRel Γ ρ σ F H vs as L →
   BRel Γ ρ σ F H (.ref a::vs) (.o i b d::as) (L1++L)
theorem prep2_ok {Γ:Gm}{ρ:Rho}{σ:St}{F H:Hp}(R:Rel Γ ρ σ F H):∀ {vs:List V} {ms:List (D ⊕ Nat)} {as:List BArg},MRel Γ.G σ F vs ms→prep2 ρ ms=some as→∃ L,BRel Γ ρ σ F H vs as L
 | _,_,_,.nil,e=>by simp only [prep2,Option.some.injEq] at e; subst e; exact ⟨[],.nil⟩
 | _,_,_,.v h t,e=>by
  simp only [prep2,Option.map_eq_some_iff] at e
  obtain ⟨as,e1,rfl⟩:=e
  obtain ⟨L,B⟩:=prep2_ok R t e1
  exact ⟨L,.v h B⟩
 | _,_,_,.o (i:=i) h t,e=>by
  simp only [prep2] at e
  split at e
  ·rename_i b d q
   split at e
   ·rename_i as e1
    split at e
    ·cases e
    ·rename_i ni
     simp only [Option.some.injEq] at e
     subst e
     obtain ⟨L,B⟩:=prep2_ok R t e1
     obtain ⟨a,L1,z,c,hb,ow⟩:=R.slotO q h
     subst z
     exact ⟨L1++L,.o q h c ni B⟩
   ·cases e
  ·rename_i d q
   obtain ⟨as,e1,rfl⟩:=Option.map_eq_some_iff.mp e
   obtain ⟨L,B⟩:=prep2_ok R t e1
   obtain ⟨v',h1,h2⟩:=R.slotV q
   rw [h] at h1; cases h1
   exact ⟨L,.v h2 B⟩
  ·cases e
section
variable {Γ:Gm}{ρ:Rho}{σ:St}{F H F' H':Hp}
theorem BRel.mem (R:Rel Γ ρ σ F H):∀ {vs:List V} {as:List BArg} {L:List Addr},BRel Γ ρ σ F H vs as L→∀ a∈L,∃ i∈idx as,OwnAt Γ ρ σ F H i a
 | _,_,_,.nil,a,h=>by cases h
 | _,_,_,.v _ t,a,h=>t.mem R a h
 | _,_,_,.o (i:=i) (b:=b) (d:=d) q1 q2 q3 q4 t,a,h=>by
  rcases List.mem_append.mp h with e | h
  ·obtain ⟨a',L',z,c,hb,ow⟩:=R.slotO q1 q2
   cases z
   exact ⟨i,List.mem_cons_self ..,ow a (by rw [c.uniq q3]; exact e)⟩
  ·obtain ⟨j,h1,h2⟩:=t.mem R a h
   exact ⟨j,List.mem_cons_of_mem _ h1,h2⟩
theorem BRel.arel (R:Rel Γ ρ σ F H):∀ {vs:List V} {as:List BArg} {L:List Addr},BRel Γ ρ σ F H vs as L→ARel Γ.G F H vs (as.map BArg.strip) L
 | _,_,_,.nil=>.nil
 | _,_,_,.v h t=>.v h (t.arel R)
 | _,_,_,.o (a:=a) (i:=i) (b:=b) (d:=d) q1 q2 q3 q4 t=>by
  refine .o q3 (fun c hc z=>?_) (t.arel R)
  obtain ⟨j,h1,h2⟩:=t.mem R c z
  obtain ⟨a',L',z,cc,hb,ow⟩:=R.slotO q1 q2
  cases z
  have oi:=ow c (by rw [cc.uniq q3]; exact hc)
  exact q4 (by rw [R.inj i j c oi h2]; exact h1)
def callU (Γ:Gm)(ρ:Rho)(σ:St)(F H:Hp)(as:List BArg)(c:Addr):Prop:=Γ.U c∨∃ i,i∉idx as∧OwnAt Γ ρ σ F H i c
theorem callU_ali (R:Rel Γ ρ σ F H)(as:List BArg):Ali Γ.T (callU Γ ρ σ F H as) F H:=⟨fun a h=>by
 rcases h with h | ⟨i,_,o⟩
 ·exact R.ali a h
 ·exact ⟨(R.own i a o).1,Rel.ownH o⟩,R.tab.on,fun p hp h=>by
 rcases h with h | ⟨i,_,o⟩
 ·exact R.tab.off p hp h
 ·obtain ⟨u,e,q⟩:=Rel.ownU o
  obtain ⟨ps,e2,_⟩:=R.tab.on p hp
  rw [e] at e2; cases e2
  exact q.1 ps rfl,R.tab.fr⟩
theorem BRel.off (R:Rel Γ ρ σ F H){vs:List V}{as:List BArg}{L:List Addr}(B:BRel Γ ρ σ F H vs as L):Off (callU Γ ρ σ F H as) F L:=fun a h=>by
 obtain ⟨i,hi,o⟩:=B.mem R a h
 refine ⟨(R.own i a o).1,fun z=>?_⟩
 rcases z with z | ⟨j,hj,o2⟩
 ·exact (R.own i a o).2 z
 ·exact hj (by rw [R.inj j i a o2 o]; exact hi)
def Lnt (G:Gx)(σ:St)(F' H':Hp)(ρ':Rho)(j:Nat)(c:Addr):Prop:=∃ b d' a L1,ρ'[j]?=some (some (.own b d'))∧σ[j]?=some (some (.ref a))∧Ct G F' H' a d' L1∧c∈L1
theorem wb_get:∀ {vs:List V} {as:List BArg} {L L':List Addr} {os:List D} {ρ':Rho},BRel Γ ρ σ F H vs as L→ORel Γ.G F' H' vs (as.map BArg.strip) os L'→wb as os ρ=some ρ'→ρ'.length=ρ.length ∧
  (∀ j:Nat,j∉idx as→ρ'[j]?=ρ[j]?)∧(∀ j∈idx as,∃ b d d' a L1,ρ'[j]?=some (some (.own b d'))∧ρ[j]?=some (some (.own b d))∧σ[j]?=some (some (.ref a))∧Ct Γ.G F' H' a d' L1∧∀ c∈L1,c∈L') ∧
  (∀ j∈idx as,∀ c,Lnt Γ.G σ F' H' ρ' j c→c∈L')∧(∀ j∈idx as,∀ k∈idx as,∀ c,Lnt Γ.G σ F' H' ρ' j c→Lnt Γ.G σ F' H' ρ' k c→j=k)
 | _,_,_,_,_,_,.nil,.nil,e=>by
  simp only [wb,Option.some.injEq] at e; subst e
  exact ⟨rfl,fun j _=>rfl,fun j h=>(by cases h),fun j h=>(by cases h),fun j h=>(by cases h)⟩
 | _,_,_,_,os,ρ',.v (as:=as) h t,.v O,e=>by
  have e:wb as os ρ=some ρ':=by
   cases os <;> simpa only [wb] using e
  have g:=wb_get t O e
  exact g
 | _,_,_,_,_,_,.o (a:=a) (i:=i) (b:=b) (d:=d) (as:=as) q1 q2 q3 q4 t,.o (d':=d') (L1:=L1) hc dj O,e=>by
  simp only [wb,Option.map_eq_some_iff] at e
  obtain ⟨ρ1,e1,rfl⟩:=e
  obtain ⟨hl,g1,g2,g3,g4⟩:=wb_get t O e1
  have hi:i<ρ1.length:=by rw [hl]; exact lt_of_get q1
  have back:∀ {j:Nat} {c:Addr},j∈idx as→Lnt Γ.G σ F' H' (ρ1.set i (some (.own b d'))) j c→Lnt Γ.G σ F' H' ρ1 j c:=fun {j c} hj h=>by
   obtain ⟨b',d2,a2,L2,w1,w2⟩:=h
   rw [List.getElem?_set_ne (fun z:i=j=>q4 (z▸hj))] at w1
   exact ⟨b',d2,a2,L2,w1,w2⟩
  have here:∀ {c:Addr},Lnt Γ.G σ F' H' (ρ1.set i (some (.own b d'))) i c→c∈L1:=fun {c} h=>by
   obtain ⟨b',d2,a2,L2,w1,w2,w3,w4⟩:=h
   rw [List.getElem?_set_self hi] at w1; cases w1
   rw [q2] at w2; cases w2
   rw [hc.uniq w3]; exact w4
  refine ⟨by simp [hl],fun j hj=>?_,fun j hj=>?_,fun j hj c h=>?_,fun j hj k hk c h1 h2=>?_⟩
  ·simp only [idx,List.mem_cons,not_or] at hj
   rw [List.getElem?_set_ne (Ne.symm hj.1)]; exact g1 j hj.2
  ·rcases List.mem_cons.mp hj with rfl | hj
   ·exact ⟨b,d,d',a,L1,by rw [List.getElem?_set_self hi],q1,q2,hc,fun c h=>List.mem_append_left _ h⟩
   ·obtain ⟨b',d1,d2,a2,L2,w1,w2,w3,w4,w5⟩:=g2 j hj
    exact ⟨b',d1,d2,a2,L2,by rw [List.getElem?_set_ne (fun z:i=j=>q4 (z▸hj))]; exact w1,w2,w3,w4,fun c h=>List.mem_append_right _ (w5 c h)⟩
  ·rcases List.mem_cons.mp hj with rfl | hj
   ·exact List.mem_append_left _ (here h)
   ·exact List.mem_append_right _ (g3 j hj c (back hj h))
  ·rcases List.mem_cons.mp hj with ej | hj'
   ·rcases List.mem_cons.mp hk with ek | hk'
    ·rw [ej,ek]
    ·rw [ej] at h1
     exact absurd (g3 k hk' c (back hk' h2)) (dj c (here h1))
   ·rcases List.mem_cons.mp hk with ek | hk'
    ·rw [ek] at h2
     exact absurd (g3 j hj' c (back hj' h1)) (dj c (here h2))
    ·exact g4 j hj' k hk' c (back hj' h1) (back hk' h2)
theorem call_stp {vs:List V}{as:List BArg}{L L':List Addr}{os:List D}{ρ':Rho}(R:Rel Γ ρ σ F H)(B:BRel Γ ρ σ F H vs as L)(C:CStp Γ.T (callU Γ ρ σ F H as) F H F' H')(O:ORel Γ.G F' H' vs (as.map BArg.strip) os L')(f:Off (callU Γ ρ σ F H as) F' L')(e:wb as os ρ=some ρ') :
  Stp Γ ρ σ F H ρ' σ F' H'∧∀ a,Own Γ ρ' σ F' H' a→a∈L'∨callU Γ ρ σ F H as a:=by
 obtain ⟨hl,g1,g2,g3,g4⟩:=wb_get B O e
 have lnt:∀ {j:Nat} {c:Addr},j∈idx as→OwnAt Γ ρ' σ F' H' j c→Lnt Γ.G σ F' H' ρ' j c:=fun {j c} hj ⟨s,v,L2,w1,w2,w3,w4⟩=>by
  obtain ⟨b,d,d',a,L1,k1,k2,k3,k4,k5⟩:=g2 j hj
  rw [k1] at w1; cases w1
  obtain ⟨a',z,c',_⟩:=w3
  rw [k3] at w2; cases w2; cases z
  exact ⟨b,d',a,L2,k1,k3,c',w4⟩
 have kp:∀ j,j∉idx as→∀ b,OwnAt Γ ρ σ F H j b→∀ o,H b=some o→H' b=some o:=fun j hj b o u q=>by rw [C.keep b (.inr ⟨j,hj,o⟩)]; exact q
 have bk:∀ {j:Nat} {c:Addr},j∉idx as→OwnAt Γ ρ' σ F' H' j c→OwnAt Γ ρ σ F H j c:=fun {j c} hj o=>own_back R C.subF j (fun s q=>by rwa [g1 j hj] at q) rfl (kp j hj) o
 refine ⟨⟨⟨C.fh,fun j sl h=>?_,fun j k c h1 h2=>?_,fun j c o=>?_,by rw [hl]; exact R.len,Γ.Jm _ _ C.subF R.inv,fun c h=>?_,C.tab,R.tab.off,C.tfr⟩,C.subF,fun c h=>C.keep c (.inl h),C.there⟩,fun c ⟨j,o⟩=>?_⟩
 ·by_cases hj:j∈idx as
  ·obtain ⟨b,d,d',a,L1,k1,k2,k3,k4,k5⟩:=g2 j hj
   rw [k1] at h; cases h
   obtain ⟨a',L0,z,c,hb,ow⟩:=R.slotO k2 k3
   cases z
   exact ⟨_,L1,k3,a,rfl,k4,hb⟩
  ·rw [g1 j hj] at h
   exact slot_keep R C.subF j h rfl (kp j hj)
 ·by_cases hj:j∈idx as
  ·by_cases hk:k∈idx as
   ·exact g4 j hj k hk c (lnt hj h1) (lnt hk h2)
   ·exact absurd (.inr ⟨k,hk,bk hk h2⟩) (f c (g3 j hj c (lnt hj h1))).2
  ·by_cases hk:k∈idx as
   ·exact absurd (.inr ⟨j,hj,bk hj h1⟩) (f c (g3 k hk c (lnt hk h2))).2
   ·exact R.inj j k c (bk hj h1) (bk hk h2)
 ·by_cases hj:j∈idx as
  ·have z:=f c (g3 j hj c (lnt hj o))
   exact ⟨z.1,fun w=>z.2 (.inl w)⟩
  ·have z:=bk hj o
   exact ⟨C.frn c (.inr ⟨j,hj,z⟩),(R.own j c z).2⟩
 ·obtain ⟨_,o,q⟩:=R.ali c h
  exact ⟨C.frn c (.inl h),o,by rw [C.keep c (.inl h)]; exact q⟩
 ·by_cases hj:j∈idx as
  ·exact .inl (g3 j hj c (lnt hj o))
  ·exact .inr (.inr ⟨j,hj,bk hj o⟩)
end
def callR (mk:List Bool)(f:Fn)(rs:List Res)(ρ:Rho):Out Res:=match prep1 mk rs ρ with
 | some (ms,ρ1)=>(match prep2 ρ1 ms with
  | some as=>(match f (as.map BArg.strip) with
   | .ret r os=>(match wb as os ρ1 with
    | some ρ2=>.ok r ρ2
    | none=>.stuck)
   | .exc x os=>(match wb as os ρ1 with
    | some ρ2=>.exc x ρ2
    | none=>.stuck)
   | .stuck=>.stuck)
  | none=>.stuck)
 | none=>.stuck
theorem RepRet.res {Γ:Gm}{ρ ρ1 ρ':Rho}{σ:St}{F H F' H':Hp}{v:V}{r:Res}{as:List BArg}{L':List Addr}(bk:∀ a,Own Γ ρ' σ F' H' a→a∈L'∨callU Γ ρ σ F H as a)(h:RepRet Γ.G (callU Γ ρ σ F H as) L' F' H' v r):RepRes Γ σ ρ' F' H' v r:=by
 cases r with
 | val d=>exact h
 | «at» i=>exact h.elim
 | new d =>
  obtain ⟨a,L,e,c,n⟩:=h
  refine ⟨a,L,e,c,fun b hb=>⟨(n b hb).1,fun z=>(n b hb).2.1 (.inl z),fun z=>?_⟩⟩
  rcases bk b z with w | w
  ·exact (n b hb).2.2 w
  ·exact (n b hb).2.1 w
theorem callR_ok {Γ:Gm}{W:WX}{mk:List Bool}{f:Fn}{rs:List Res}{ρ:Rho}{σ:St}{F H:Hp}{Q:VK}{vs:List V}{n:Nat}(R:Rel Γ ρ σ F H)(ha:RepFs Γ.G σ F vs rs)(hn:vs.length=n)(h:Post Γ W (callR mk f rs ρ) ρ σ F H Q) :
  spF Γ.G Γ.T n f vs H Q (fun cls d H'=>W cls d σ H'):=by
 unfold callR at h
 split at h
 ·rename_i ms ρ1 e1
  obtain ⟨F1,s1,m1⟩:=prep1_ok R ha e1
  split at h
  ·rename_i as e2
   obtain ⟨L,B⟩:=prep2_ok s1.rel m1 e2
   refine ⟨hn,F1,as.map BArg.strip,L,callU Γ ρ1 σ F1 H as,s1.rel.sub,B.arel s1.rel,B.off s1.rel,callU_ali s1.rel as,?_⟩
   split at h
   ·rename_i r os e3
    split at h
    ·rename_i ρ2 e4
     intro v F' H' L' C O f' q
     obtain ⟨s2,bk⟩:=call_stp s1.rel B C O f' e4
     exact h v F' H' (s1.trans s2) (RepRet.res (ρ1:=ρ1) bk q)
    ·exact h.elim
   ·rename_i x os e3
    split at h
    ·rename_i ρ2 e4
     intro d F' H' L' C O f' q
     exact h d F' H' (s1.trans (call_stp s1.rel B C O f' e4).1) q
    ·exact h.elim
   ·exact h.elim
  ·exact h.elim
 ·exact h.elim
def slotsOf:Nat→List Arg→Rho
 | _,[]=>[]
 | k,.v d::as=>some (.val d)::slotsOf (k+1) as
 | k,.o d::as=>some (.own (some k) d)::slotsOf (k+1) as
def outsOf (ρ:Rho):Nat→List Arg→Option (List D)
 | _,[]=>some []
 | k,.v _::as=>outsOf ρ (k+1) as
 | k,.o _::as=>match ρ[k]? with
  | some (some (.own (some j) d))=>if j=k then (outsOf ρ (k+1) as).map (d::·) else none
  | _=>none
def fin (as:List Arg)(ρ:Rho)(k:List D→FOut):FOut:=match outsOf ρ 0 as with
 | some os=>k os
 | none=>.stuck
def mkFn (nl:Nat)(m:MS):Fn:=fun as=>match m (slotsOf 0 as++List.replicate nl none) with
 | .nx ρ=>fin as ρ fun os=>.ret (.val .non) os
 | .ret (.val d) ρ=>fin as ρ fun os=>.ret (.val d) os
 | .ret (.new d) ρ=>fin as ρ fun os=>.ret (.new d) os
 | .exc x ρ=>fin as ρ fun os=>.exc x os
 | _=>.stuck
def bet (vs:List V)(k:Nat):Addr:=match vs[k]? with
 | some (.ref a)=>a
 | _=>0
theorem slotsOf_len:∀ (as:List Arg) (k:Nat),(slotsOf k as).length=as.length
 | [],_=>rfl
 | .v _::as,k=>by simp [slotsOf,slotsOf_len as]
 | .o _::as,k=>by simp [slotsOf,slotsOf_len as]
theorem ARel.len {G:Gx}{F H:Hp}:∀ {vs:List V} {as:List Arg} {L:List Addr},ARel G F H vs as L→vs.length=as.length
 | _,_,_,.nil=>rfl
 | _,_,_,.v _ t=>by simp [t.len]
 | _,_,_,.o _ _ t=>by simp [t.len]
theorem slot_at {G:Gx}{F H:Hp}:∀ {vs:List V} {as:List Arg} {L:List Addr} {k i:Nat} {sl:Slot},ARel G F H vs as L→(slotsOf k as)[i]?=some (some sl)→∃ v,vs[i]?=some v ∧
  ((∃ d,sl=.val d∧Dp G F v d)∨∃ d a L1,sl=.own (some (k+i)) d∧v=.ref a∧Ct G F H a d L1∧∀ c∈L1,c∈L)
 | _,_,_,_,i,_,.nil,e=>by simp [slotsOf] at e
 | _,_,_,k,0,sl,.v h t,e=>by
  simp only [slotsOf,List.getElem?_cons_zero,Option.some.injEq] at e
  exact ⟨_,rfl,.inl ⟨_,e.symm,h⟩⟩
 | _,_,_,k,i+1,sl,.v h t,e=>by
  simp only [slotsOf,List.getElem?_cons_succ] at e
  obtain ⟨v,h1,h2⟩:=slot_at t e
  rw [Nat.add_right_comm] at h2
  exact ⟨v,by simpa using h1,h2⟩
 | _,_,_,k,0,sl,.o (a:=a) c nl t,e=>by
  simp only [slotsOf,List.getElem?_cons_zero,Option.some.injEq] at e
  exact ⟨_,rfl,.inr ⟨_,a,_,e.symm,rfl,c,fun c h=>List.mem_append_left _ h⟩⟩
 | _,_,_,k,i+1,sl,.o c nl t,e=>by
  simp only [slotsOf,List.getElem?_cons_succ] at e
  obtain ⟨v,h1,h2⟩:=slot_at t e
  rw [Nat.add_right_comm] at h2
  refine ⟨v,by simpa using h1,?_⟩
  rcases h2 with h2 | ⟨d,a,L1,w1,w2,w3,w4⟩
  ·exact .inl h2
  ·exact .inr ⟨d,a,L1,w1,w2,w3,fun c h=>List.mem_append_right _ (w4 c h)⟩
theorem slot_inj {G:Gx}{F H:Hp}:∀ {vs:List V} {as:List Arg} {L:List Addr} {k i j:Nat} {b c:Option Nat} {d e:D} {a1 a2 x:Addr} {L1 L2:List Addr},ARel G F H vs as L→(slotsOf k as)[i]?=some (some (.own b d))→(slotsOf k as)[j]?=some (some (.own c e))→vs[i]?=some (.ref a1)→vs[j]?=some (.ref a2)→Ct G F H a1 d L1→Ct G F H a2 e L2→x∈L1→x∈L2→i=j
 | _,_,_,_,i,_,_,_,_,_,_,_,_,_,_,.nil,q,_,_,_,_,_,_,_=>by simp [slotsOf] at q
 | _,_,_,k,0,0,_,_,_,_,_,_,_,_,_,_,_,_,_,_,_,_,_,_=>rfl
 | _,_,_,k,0,j+1,_,_,_,_,_,_,_,_,_,.v h t,q,_,_,_,_,_,_,_=>by simp [slotsOf] at q
 | _,_,_,k,i+1,0,_,_,_,_,_,_,_,_,_,.v h t,_,q,_,_,_,_,_,_=>by simp [slotsOf] at q
 | _,_,_,k,i+1,j+1,_,_,_,_,_,_,_,_,_,.v h t,q1,q2,q3,q4,c1,c2,x1,x2=>by
  simp only [slotsOf,List.getElem?_cons_succ] at q1 q2 q3 q4
  exact congrArg Nat.succ (slot_inj t q1 q2 q3 q4 c1 c2 x1 x2)
 | _,_,_,k,i+1,j+1,_,_,_,_,_,_,_,_,_,.o c nl t,q1,q2,q3,q4,c1,c2,x1,x2=>by
  simp only [slotsOf,List.getElem?_cons_succ] at q1 q2 q3 q4
  exact congrArg Nat.succ (slot_inj t q1 q2 q3 q4 c1 c2 x1 x2)
 | _,_,_,k,0,j+1,_,_,_,_,_,_,_,_,_,.o c nl t,q1,q2,q3,q4,c1,c2,x1,x2=>by
  simp only [slotsOf,List.getElem?_cons_succ,List.getElem?_cons_zero,Option.some.injEq,V.ref.injEq,Slot.own.injEq] at q1 q2 q3 q4
  obtain ⟨_,rfl⟩:=q1
  subst q3
  obtain ⟨v,h1,h2⟩:=slot_at t q2
  rw [q4] at h1; cases h1
  rcases h2 with ⟨d,w,_⟩ | ⟨d,a,L3,w1,w2,w3,w4⟩
  ·cases w
  ·cases w2; cases w1
   exact absurd (w4 _ (by rw [w3.uniq c2]; exact x2)) (nl _ (by rw [c.uniq c1]; exact x1))
 | _,_,_,k,i+1,0,_,_,_,_,_,_,_,_,_,.o c nl t,q2,q1,q4,q3,c2,c1,x2,x1=>by
  simp only [slotsOf,List.getElem?_cons_succ,List.getElem?_cons_zero,Option.some.injEq,V.ref.injEq,Slot.own.injEq] at q1 q2 q3 q4
  obtain ⟨_,rfl⟩:=q1
  subst q3
  obtain ⟨v,h1,h2⟩:=slot_at t q2
  rw [q4] at h1; cases h1
  rcases h2 with ⟨d,w,_⟩ | ⟨d,a,L3,w1,w2,w3,w4⟩
  ·cases w
  ·cases w2; cases w1
   exact absurd (w4 _ (by rw [w3.uniq c2]; exact x2)) (nl _ (by rw [c.uniq c1]; exact x1))
theorem get_app {α:Type}{l:List (Option α)}{n i:Nat}{x:α}(h:(l++List.replicate n none)[i]?=some (some x)):l[i]?=some (some x):=by
 rcases Nat.lt_or_ge i l.length with z | z
 ·rwa [List.getElem?_append_left z] at h
 ·rw [List.getElem?_append_right z] at h
  rw [List.getElem?_replicate] at h
  split at h <;> cases h
theorem start_get {N:List Str}{vs:List V}{i:Nat}{v:V}(h:vs[i]?=some v):(start N vs)[i]?=some (some v):=by
 have hi:=lt_of_get h
 unfold L2.start
 rw [List.getElem?_append_left (by simpa using hi)]
 simp [h]
theorem own_entry {G:Gx}{T:List NdefX.NTab}{U:Addr→Prop}{F H:Hp}{vs:List V}{as:List Arg}{L:List Addr}{N:List Str}{nl:Nat}(A:ARel G F H vs as L){i:Nat}{c:Addr}(o:OwnAt (.of G T (bet vs) U) (slotsOf 0 as++List.replicate nl none) (start N vs) F H i c) :
  ∃ d a L1,(slotsOf 0 as)[i]?=some (some (.own (some i) d))∧vs[i]?=some (.ref a)∧Ct G F H a d L1∧c∈L1∧c∈L:=by
 obtain ⟨s,v,L2,h1,h2,h3,h4⟩:=o
 have h1:=get_app h1
 obtain ⟨v',g1,g2⟩:=slot_at A h1
 rw [start_get g1] at h2; cases h2
 rcases g2 with ⟨d,rfl,hd⟩ | ⟨d,a,L1,rfl,rfl,cc,sb⟩
 ·rw [h3.2] at h4; cases h4
 ·obtain ⟨a',z,c',_⟩:=h3
  cases z
  have e:=cc.uniq c'
  rw [Nat.zero_add] at h1
  exact ⟨d,a,L1,h1,g1,cc,by rw [e]; exact h4,sb c (by rw [e]; exact h4)⟩
theorem entry {G:Gx}{T:List NdefX.NTab}{U:Addr→Prop}{F H:Hp}{vs:List V}{as:List Arg}{L:List Addr}{N:List Str}{nl:Nat}(A:ARel G F H vs as L)(f:Off U F L)(al:Ali T U F H)(e:Same F H)(hN:N.length=vs.length+nl):Rel (.of G T (bet vs) U) (slotsOf 0 as++List.replicate nl none) (start N vs) F H:=by
 refine ⟨e,fun i sl h=>?_,fun i j a o1 o2=>?_,fun i a o=>?_,?_,trivial,al.ali,al.tab⟩
 ·obtain ⟨v,h1,h2⟩:=slot_at A (get_app h)
  rcases h2 with ⟨d,rfl,hd⟩ | ⟨d,a,L1,rfl,rfl,c,_⟩
  ·exact ⟨v,[],start_get h1,hd,rfl⟩
  ·refine ⟨_,L1,start_get h1,a,rfl,c,fun k z=>?_⟩
   simp only [Nat.zero_add,Option.some.injEq] at z
   subst z
   show a=bet vs i
   unfold bet
   rw [h1]
 ·obtain ⟨d,a1,L1,q1,q2,q3,q4,_⟩:=own_entry A o1
  obtain ⟨d2,a2,L2,p1,p2,p3,p4,_⟩:=own_entry A o2
  exact slot_inj A q1 p1 q2 p2 q3 p3 q4 p4
 ·obtain ⟨d,a1,L1,q1,q2,q3,q4,q5⟩:=own_entry A o
  exact f a q5
 ·unfold L2.start
  simp [slotsOf_len,← A.len,hN]
theorem outs_ok {G:Gx}{T:List NdefX.NTab}{U:Addr→Prop}{β:Nat→Addr}{F H F' H':Hp}{ρ':Rho}{σ':St}(R:Rel (.of G T β U) ρ' σ' F' H'):∀ {vs:List V} {as:List Arg} {L:List Addr} {k:Nat} {os:List D},ARel G F H vs as L→(∀ i a,vs[i]?=some (.ref a)→β (k+i)=a)→outsOf ρ' k as=some os →
  ∃ L',ORel G F' H' vs as os L'∧∀ c∈L',∃ j,k≤j∧OwnAt (.of G T β U) ρ' σ' F' H' j c
 | _,_,_,_,_,.nil,_,e=>by simp only [outsOf,Option.some.injEq] at e; subst e; exact ⟨[],.nil,fun a h=>by cases h⟩
 | _,_,_,k,_,.v h t,hb,e=>by
  simp only [outsOf] at e
  obtain ⟨L',O,ow⟩:=outs_ok R t (fun i a q=>by rw [← hb (i+1) a (by simpa using q)]; congr 1; omega) e
  exact ⟨L',.v O,fun c hc=>by obtain ⟨j,h1,h2⟩:=ow c hc; exact ⟨j,by omega,h2⟩⟩
 | _,_,_,k,_,.o (a:=a) c nl t,hb,e=>by
  simp only [outsOf] at e
  split at e
  ·rename_i j d q
   split at e
   ·rename_i hj
    subst hj
    obtain ⟨os,e1,rfl⟩:=Option.map_eq_some_iff.mp e
    obtain ⟨L',O,ow⟩:=outs_ok R t (fun i a q=>by rw [← hb (i+1) a (by simpa using q)]; congr 1; omega) e1
    obtain ⟨v,L1,h1,a',rfl,c',hb'⟩:=R.slot j _ q
    have ea:a'=a:=by
     rw [hb' j rfl,← hb 0 a rfl]; rfl
    subst ea
    have me:∀ x∈L1,OwnAt (.of G T β U) ρ' σ' F' H' j x:=fun x hx=>⟨_,_,L1,q,h1,⟨a',rfl,c',hb'⟩,hx⟩
    refine ⟨L1++L',.o c' (fun b hb1 hb2=>?_) O,fun x hx=>?_⟩
    ·obtain ⟨j',h3,h4⟩:=ow b hb2
     have:=R.inj j j' b (me b hb1) h4
     omega
    ·rcases List.mem_append.mp hx with z | z
     ·exact ⟨j,Nat.le_refl _,me x z⟩
     ·obtain ⟨j',h3,h4⟩:=ow x z
      exact ⟨j',by omega,h4⟩
   ·cases e
  ·cases e
theorem body_ok {X:Cx}{G:Gx}{T:List NdefX.NTab}{N:List Str}{n nl:Nat}{m:MS}{body:List Stmt}{vs:List V}{H:Hp}{Q:VK}{E:XK}(hN:N.length=n+nl)(h:spF G T n (mkFn nl m) vs H Q E)(hb:∀ U,PSs X body (tMS (.of G T (bet vs) U) (fun cls d _ H'=>E cls d H') m)) :
  ∃ t,PSs X body t∧t { nx:=fun _ H'=>Q .non H',rt:=Q } (start N vs) H:=by
 obtain ⟨hl,F,as,L,U,e,A,f,al,h⟩:=h
 refine ⟨_,hb U,?_⟩
 have R:=entry (N:=N) (nl:=nl) A f al e (by rw [hl]; exact hN)
 refine ⟨_,F,R,?_⟩
 have hβ:∀ i a,vs[i]?=some (.ref a)→bet vs (0+i)=a:=fun i a q=>by unfold bet; rw [Nat.zero_add,q]
 have cst:∀ {ρ':Rho} {σ':St} {F' H':Hp} {os:List D},Stp (.of G T (bet vs) U) (slotsOf 0 as++List.replicate nl none) (start N vs) F H ρ' σ' F' H'→outsOf ρ' 0 as=some os→∃ L',CStp T U F H F' H'∧ORel G F' H' vs as os L'∧Off U F' L'∧∀ c∈L',Own (.of G T (bet vs) U) ρ' σ' F' H' c:=fun {ρ' σ' F' H' os} s eo=>by
  obtain ⟨L',O,ow⟩:=outs_ok s.rel A hβ eo
  exact ⟨L',⟨s.rel.sub,s.subF,s.keep,fun a h=>(s.rel.ali a h).1,s.there,s.rel.tab.on,s.rel.tab.fr⟩,O,fun c hc=>by obtain ⟨j,_,o⟩:=ow c hc; exact s.rel.own j c o,fun c hc=>by obtain ⟨j,_,o⟩:=ow c hc; exact ⟨j,o⟩⟩
 unfold mkFn at h
 cases eq:m (slotsOf 0 as++List.replicate nl none) with
 | nx ρ' =>
  rw [eq] at h
  simp only [fin] at h
  cases eo:outsOf ρ' 0 as with
  | none=>rw [eo] at h; exact h.elim
  | some os =>
   rw [eo] at h
   intro σ' F' H' s
   obtain ⟨L',C,O,f',ow⟩:=cst s eo
   exact h .non F' H' L' C O f' .non
 | ret r ρ' =>
  cases r with
  | val d =>
   rw [eq] at h
   simp only [fin] at h
   cases eo:outsOf ρ' 0 as with
   | none=>rw [eo] at h; exact h.elim
   | some os =>
    rw [eo] at h
    intro v σ' F' H' s q
    obtain ⟨L',C,O,f',ow⟩:=cst s eo
    exact h v F' H' L' C O f' q
  | new d =>
   rw [eq] at h
   simp only [fin] at h
   cases eo:outsOf ρ' 0 as with
   | none=>rw [eo] at h; exact h.elim
   | some os =>
    rw [eo] at h
    intro v σ' F' H' s q
    obtain ⟨L',C,O,f',ow⟩:=cst s eo
    obtain ⟨a,L1,z,c,fr⟩:=q
    exact h v F' H' L' C O f' ⟨a,L1,z,c,fun b hb=>⟨(fr b hb).1,(fr b hb).2.1,fun w=>(fr b hb).2.2 (ow b w)⟩⟩
  | «at» i=>rw [eq] at h; exact h.elim
 | bk ρ'=>rw [eq] at h; exact h.elim
 | ct ρ'=>rw [eq] at h; exact h.elim
 | exc x ρ' =>
  rw [eq] at h
  simp only [fin] at h
  cases eo:outsOf ρ' 0 as with
  | none=>rw [eo] at h; exact h.elim
  | some os =>
   rw [eo] at h
   intro d σ' F' H' s q
   obtain ⟨L',C,O,f',ow⟩:=cst s eo
   exact h d F' H' L' C O f' q
 | stuck=>rw [eq] at h; exact h.elim
structure RG (k:Nat)(A:Around):Prop where
 room:Room k A
 gd:A.guards=some []
section
variable {j k:Nat}{A:Around}
theorem RG.mono (r:RG k A)(h:j≤k):RG j A:=⟨r.room.mono h,r.gd⟩
theorem RG.deeper (r:RG (k+1) A)(env:Env):RG k (A.deeper env):=⟨r.room.deeper env,r.gd⟩
theorem RG.in1 (r:RG (k+1) A):RG k A.in1:=⟨r.room.in1,r.gd⟩
theorem RG.make (r:RG (k+1) A)(C:Addr)(us:List Value)(kw:List (Str×Value)):RG k (A.under (.builtin "type.__call__" ⟨.ref C::us,kw⟩)):=⟨r.room.make C us kw,by
 have e:(Code.builtin "type.__call__" ⟨.ref C::us,kw⟩).guards=[]:=by
  unfold Code.guards
  have:(Code.builtin "type.__call__" ⟨.ref C::us,kw⟩).isGuard=false:=by show guardIds.contains "type.__call__"=false; decide +kernel
  rw [this]; rfl
 have u:(A.under (Code.builtin "type.__call__" ⟨.ref C::us,kw⟩)).guards=pushGuards (Code.builtin "type.__call__" ⟨.ref C::us,kw⟩).guards A.guards:=by unfold Around.under; rfl
 rw [u,e,r.gd]; rfl⟩
theorem RG.hd (r:RG k A):A.handled=none:=r.room.hd
theorem RG.un (r:RG k A):A.units+16 * k+200<cLine:=r.room.un
theorem RG.units (r:RG k A):A.units+64<cLine:=r.room.units
theorem RG.units0 (r:RG k A):A.units<cLine:=r.room.units0
end
structure FnOkG (P:Program)(w:World)(K:PySem.W.Frag)(mg:Str→Option Value)(base:Heap)(k:Nat)(f:Addr)(fd:FuncData)(ps:List Str)(sp:Sp):Prop where
 len:∀ vs H Q E,sp vs H Q E→vs.length=ps.length
 run:∀ (A:Around) (outer:List Env) (s:Shared) (H:Hp) (args:Args) (us:List Value) (vs:List V) (Q:VK) (E:XK),RG k A→Env0 P w K mg base A outer s H→BindsTo s fd args (ps.zip us)→Vals vs us→sp vs H Q E→codeAny (model P w) A (.call (.ref f) args) (CR (L2.CX P w) outer P w H s Q E) s
theorem okg_of {P:Program}{w:World}{K:PySem.W.Frag}{mg:Str→Option Value}{base:Heap}{x qual:Str}{params:Arguments}{body:List Stmt}{scope:Scope}{dvs:List V}{kws:List (Str×V)}{f:Addr}{fd:FuncData}{N ps:List Str}{k:Nat}{sp:Sp}
  (F:FunD K x qual params body scope dvs kws f fd) (S:FnScope N ps scope) (len:∀ vs H Q E,sp vs H Q E→vs.length=ps.length)
  (hb:∀ (cdv:Value) (A:Around) (outer:List Env) (s:Shared) (H:Hp) (vs:List V) (Q:VK) (E:XK),RG k (A.deeper (envOfC qual scope s.heap.objs.size f cdv))→sp vs H Q E →
   ∃ t,PSs (cxOf (L2.CX P w) P w K mg base N qual scope f cdv A outer s H E) body t∧t { nx:=fun _ H'=>Q .non H',rt:=Q } (start N vs) H):FnOkG P w K mg base (k+1) f fd ps sp:=by
 obtain ⟨oc,od,dV,kV,doc,pm,an,cdv,ct,osl,rfl,lk,hcd,_,_⟩:=F.ex
 refine ⟨len,fun A outer s H args us vs Q E rg en bt rv prom=>?_⟩
 have inK:K.In s.heap:=en.mod.kin.keeps fun b o q=>(en.bs b o q).1
 have lims:s.heap.NoLimit:=en.mod.nolimit.keeps fun b o q=>(en.bs b o q).1
 refine codeAny_call_function rg.room.depth (inK _ _ lk) rfl S.co S.gen rfl (PySem.W.codeRec_of inK hcd) (bt _ _ _ _ ?_)
 refine wpAny_newFunctionEnv_cells S.kind (fun ⟨nm,val⟩ mem=>(S.par nm (List.of_mem_zip mem).1).elim .inl fun c=>.inr ⟨c,PySem.W.cellsFrom_some _ _ _ (.inl c)⟩) fun env eenv s1 inn=>?_
 subst eenv
 obtain ⟨t,dt,qt⟩:=hb cdv A outer s H vs Q E (rg.deeper _) prom
 have J:Inv (cxOf (L2.CX P w) P w K mg base N qual scope f cdv A outer s H E) [] (start N vs) H s1:=inv_start S rg.hd en (len _ _ _ _ prom) rv inn
 refine ⟨lims.keeps inn.toInCall.keep,codeAny_func (wpAny_mono (dt.run [] s1 (start N vs) H _ J qt) (fun fl s2 z=>?_) fun _ _ z=>z)⟩
 cases fl with
 | ret u=>obtain ⟨v,σ2,H2,J2,r2,q2⟩:=z; exact ⟨v,H2,J2.os,J2.bare,J2.base,J2.hok,r2,q2⟩
 | next=>obtain ⟨σ2,H2,J2,q2⟩:=z; exact ⟨V.non,H2,J2.os,J2.bare,J2.base,J2.hok,rfl,q2⟩
 | brk=>obtain ⟨_,_,_,q2⟩:=z; exact (show False from q2).elim
 | cont=>obtain ⟨_,_,_,q2⟩:=z; exact (show False from q2).elim
structure SubG (X:Cx)(n:Nat)(A:Around):Prop where
 room:RG n A
 fr:A.frames=X.A.frames
theorem SubG.in1 {X:Cx}{n:Nat}{A:Around}(s:SubG X (n+1) A):SubG X n A.in1:=⟨s.room.in1,s.fr⟩
theorem SubG.mono {X:Cx}{n m:Nat}{A:Around}(s:SubG X n A)(h:m≤n):SubG X m A:=⟨s.room.mono h,s.fr⟩
theorem envG {X:Cx}{n:Nat}{A:Around}{pins:List (Addr×Obj)}{σ:St}{H:Hp}{s:Shared}(sb:SubG X n A)(I:Inv X pins σ H s):Env0 X.prog X.w X.K X.mg X.base A X.stack s H :=
 have e:=I.env0
 ⟨by rw [sb.fr]; exact e.frames,e.mod,e.bs,e.bsz,e.funs,e.frf,e.hok,e.bare⟩
theorem run_sub {X:Cx}{A:Around}{k:Nat}{f:Addr}{fd:FuncData}{ps:List Str}{sp:Sp}{ds:List Value}{dvs:List V}{pins:List (Addr×Obj)}{σ:St}{H:Hp}{s:Shared}{Q:VK}{E:XK}{us:List Value}{vs:List V}(F:FnOkG X.prog X.w X.K X.mg X.base k f fd ps sp)(sb:SubG X k A)(hb:Binds X.K fd ps ds)(hd:Vals dvs ds)(hx:PassesAt (L2.CX X.prog X.w) X σ E)
  (I:Inv X pins σ H s) (r:Vals vs us) (h:sp (vs++dvs) H Q E):wpAny (model X.prog X.w) A (call (.ref f) us) (EP X pins σ Q) X.xe s:=by
 have rr:Vals (vs++dvs) (us++ds):=r.append hd
 have hl:=F.len _ _ _ _ h
 have bt:=hb s us I.kIn (by rw [← rr.length]; exact hl)
 refine wpAny_call (codeAny_mono (F.run A X.stack s H ⟨us,[]⟩ (us++ds) (vs++dvs) Q E sb.room (envG sb I) bt rr h) fun r s' hq=>?_)
 cases r with
 | error e=>exact hx pins H s e s' I hq
 | ok fl=>cases fl with
  | ret w =>
   obtain ⟨v,H',I3,rv,q⟩:=I.after hq
   exact ⟨v,H',I3,rv,q⟩
  | _=>exact (show False from hq).elim
theorem run_fnG {X:Cx}{k:Nat}{f:Addr}{fd:FuncData}{ps:List Str}{sp:Sp}{ds:List Value}{dvs:List V}{E:St→XK}{pins:List (Addr×Obj)}{σ:St}{H:Hp}{s:Shared}{Q:VK}{us:List Value}{vs:List V}(F:FnOkG X.prog X.w X.K X.mg X.base k f fd ps sp)(hr:RG k X.A)(hb:Binds X.K fd ps ds)(hd:Vals dvs ds)(hx:PassesAt (L2.CX X.prog X.w) X σ (E σ))
  (I:Inv X pins σ H s) (r:Vals vs us) (h:sp (vs++dvs) H Q (E σ)):wpAny (model X.prog X.w) X.A (call (.ref f) us) (EP X pins σ Q) X.xe s:=run_sub F ⟨hr,rfl⟩ hb hd hx I r h
theorem law_callG {P:Program}{w:World}{K:PySem.W.Frag}{mg mb:Str→Option Value}{k:Nat}{fa a:Addr}{fd:FuncData}{x:Str}{sp:Sp}{s:Shared}{vs:List Value}{ns:List Int}
  (inK:K.In s.heap) (gl:s.heap.Ns mainGlobals mg) (bu:s.heap.Ns builtinsNs mb) (bb:∀ y:Str,y ≠ "__name__"→mb y=bootBuiltins y) (lm:s.heap.NoLimit) (gn:s.gens=#[])
  (scr:s.heap.get? a=some { cls:=.type "list",data:=.seq vs.toArray }) (iv:IntsAre vs ns) (few:ns.length≤sizeLine) (rg:RG k callerA)
  (F:∀ base:Heap,K.In base→base.Ns mainGlobals mg→FnOkG P w K mg base k fa fd [x] sp) (bind:∀ (s:Shared) (u:Value),BindsTo s fd ⟨[u],[]⟩ [(x,u)])
  (prom:∀ H:Hp,Only H→SqL K H a (ns.map V.int)→sp [.ref a] H (fun v _=>v=.bl true) fun _ _ _=>False)
  (noX:∀ H e s',L2.CX P w [] H s (fun _ _ _=>False) e s'→False) :
  codeAny (model P w) callerA (.call (.ref fa) ⟨[.ref a],[]⟩) (fun r s'=>r=.ok (.ret (.bool true))∧OldK s.heap s'.heap∧s'.os=s.os∧AllBare s'.gens) s:=by
 have go:∀ H:Hp,Only H→SqL K H a (ns.map V.int)→HOk P w H s.heap→(∀ b,H b≠none→b=a)→(H a≠none→K.lookup a=none)→codeAny (model P w) callerA (.call (.ref fa) ⟨[.ref a],[]⟩) (fun r s'=>r=.ok (.ret (.bool true))∧OldK s.heap s'.heap∧s'.os=s.os∧AllBare s'.gens) s:=by
  intro H only sq ok onlyA notK
  have free:∀ {b:Addr} {o:Obj} {es:Array DictEntry} {n:Nat},s.heap.get? b=some o→o.data=.dict es n→H b=none:=fun {b o es n} q d=>Classical.byContradiction fun z=>by
   obtain rfl:=onlyA b z
   rw [scr] at q; cases q
   exact nomatch d
  have names:∀ {b:Addr} {m:Str→Option Value},s.heap.Ns b m→(hidT s.heap H).Ns b m:=fun {b m} ⟨o,es,n,q,d,z⟩=>⟨o,es,n,hidT_get q (free q d),d,z⟩
  have inB:K.In (hidT s.heap H):=fun b o q=>hidT_get (inK b o q) (Classical.byContradiction fun z=>by
   obtain rfl:=onlyA b z
   rw [notK z] at q; cases q)
  obtain ⟨mc,l1,l2⟩:=lm
  have md:Mod K mg (hidT s.heap H):=⟨inB,names gl,⟨mb,names bu,bb⟩,⟨mc,names l1,l2⟩⟩
  have nobody:∀ b:Addr,¬ b∈([]:List Addr):=fun b z=>by cases z
  have en:Env0 P w K mg (hidT s.heap H) callerA [] s H:=⟨rfl,md,fun b o q=>of_hidT q,Nat.le_of_eq (hidT_size _ _),trivial,fun b z=>(nobody b z).elim,ok,.of_eq gn⟩
  have call:=(F _ inB (names gl)).run callerA [] s H ⟨[.ref a],[]⟩ [.ref a] [.ref a] _ _ rg en (bind s (.ref a)) (.cons rfl .nil) (prom H only sq)
  refine codeAny_mono call fun r s2 res=>?_
  match r,res with
  | .error e,res=>exact (noX H e s2 res).elim
  | .ok (.ret u),res =>
   obtain ⟨v,H2,os,bare,un,ok2,ru,ev⟩:=res
   obtain rfl:v=.bl true:=ev
   obtain rfl:u=Value.bool true:=ru
   refine ⟨rfl,OldK.of_keep fun b o q=>?_,os,bare⟩
   rcases only b with n | ⟨ob,xs,n⟩
   ·exact un.keep b o q n (nobody b) (nobody b)
   ·have e1:=(ok b _ n).1
    have e2:=(ok2 b _ (un.frzs b ob _ n)).1
    rw [q] at e1; cases e1
    exact e2
  | .ok .next,res=>exact (show False from res).elim
  | .ok .brk,res=>exact (show False from res).elim
  | .ok .cont,res=>exact (show False from res).elim
 have rel:=vals_ints iv
 cases look:K.lookup a with
 | some o =>
  have same:=inK a o look
  rw [scr] at same; cases same
  exact go (fun _=>none) (fun _=>.inl rfl) (.inr ⟨_,vs.toArray,_,look,rfl,rfl,rfl,by rw [List.size_toArray,iv.length]; exact few,by simpa using rel⟩) (fun b u z=>nomatch z) (fun b z=>absurd rfl z) (fun z=>absurd rfl z)
 | none =>
  let H0:Hp:=upd (fun _=>none) a (.frz { cls:=.type "list",data:=.seq vs.toArray } (.lst (ns.map V.int)))
  have h0:∀ b,H0 b≠none→b=a:=fun b z=>Classical.byContradiction fun w=>z (upd_ne w)
  refine go H0 (fun b=>?_) (.inl (.inr ⟨_,upd_same⟩)) (fun b u z=>?_) h0 (fun _=>look)
  ·by_cases w:b=a
   ·exact .inr ⟨_,_,by rw [w]; exact upd_same⟩
   ·exact .inl (upd_ne w)
  ·obtain rfl:=h0 b (by rw [z]; simp)
   have z:H0 b=some u:=z
   rw [show H0 b=_ from upd_same] at z
   cases z
   exact ⟨scr,by rw [List.length_map]; exact few,vs,_,rel,scr⟩
theorem RepFs.len {G:Gx}{σ:St}{F:Hp}:∀ {vs:List V} {rs:List Res},RepFs G σ F vs rs→vs.length=rs.length
 | _,_,.nil=>rfl
 | _,_,.cons _ t=>by simp [t.len]
def mCall (n:Nat)(mk:List Bool)(f:Fn)(ma:MA):M:=fun ρ=>bindO (ma ρ) fun rs ρ1=>if rs.length=n then callR mk f rs ρ1 else .stuck
section
variable {X:Cx}{Γ:Gm}{W:WX}{e:Expr}{ma:MA}{pos p:Pos}{es:List Expr}{x:Str}{k:Nat}{f:Addr}{fd:FuncData}{ps:List Str}{n:Nat}{mk:List Bool}{g:Fn}
theorem call_go {ρ:Rho}{σ:St}{F H:Hp}{Q:VK}{rs:List Res}{vs:List V}(R:Rel Γ ρ σ F H)(ha:RepFs Γ.G σ F vs rs)(h:Post Γ W (if rs.length=n then callR mk g rs ρ else .stuck) ρ σ F H Q):spF Γ.G Γ.T n g vs H Q (fun cls d H'=>W cls d σ H'):=by
 split at h
 ·rename_i hn
  exact callR_ok R ha (by rw [ha.len]; exact hn) h
 ·exact h.elim
theorem je_call (tk:Takes X W)(Fo:FnOkG X.prog X.w X.K X.mg X.base k f fd ps (spF Γ.G Γ.T n g))(hr:RG k X.A)(hm:X.mg x=some (.ref f))(hk:PySem.W.keepIn X.K (.ref f)=true)(hb:Binds X.K fd ps [])(ha:PA X (e::es) (tMA Γ W ma))
  (hg:Gl X x:=by rfl) (hdb:(x==("__debug__" : Str))=false:=by decide) (he:starEach (e::es) X.env=(false,eval e X.env)::starEach es X.env:=by rfl) (hpl:(backTo pos (starEach es X.env)).any (·.1)=false:=by rfl) :
  PE X (.Call (.Name x p) (e::es) [] pos) (tM Γ W (mCall n mk g ma)):=by
 refine ⟨fun pins s σ H Q I ⟨ρ,F,R,h⟩=>wpAny_Call_Name_kw (ld_glob I hg hm ?_ hdb)⟩
 refine PySem.W.callWith_K (h₀:=X.base) I.ok.mod.kin hk (thn (ha.run pos pins s σ H (fun vs H1=>spF Γ.G Γ.T n g vs H1 Q fun cls d H'=>W cls d σ H') I ⟨ρ,F,R,h.bindA fun rs ρ1 vs F1 H1 s1 hr1 p1=>call_go s1.rel hr1 p1⟩) fun us s1 ⟨vs,H1,I1,r,q⟩=>⟨I1.kIn,?_⟩) he hpl
 exact run_fnG (dvs:=[]) (E:=fun σ cls d H'=>W cls d σ H') Fo hr hb .nil (passAt tk σ) I1 r (by rw [List.append_nil]; exact q)
end
structure Wlk (G:Gx)(J:It)(F:Hp)(ds:List D):Prop where
 go:∀ i H,Same F H→i<ds.length→J.go i H
 yld:∀ i H x H',Same F H→i<ds.length→J.yld i H x H'→∃ d,ds[i]?=some d∧∀ F1,Same F F1→Same F1 H→∃ F2,Alc F1 H F2 H'∧Dp G F2 x d
 stop:∀ i H,Same F H→ds.length≤i→J.stop i H
abbrev MI:=Rho→Out (List D)
def iM (Γ:Gm)(W:WX)(mi:MI):TI:=fun σ H R=>∃ ρ F,Rel Γ ρ σ F H∧match mi ρ with
 | .ok ds ρ'=>∀ J F' H',Stp Γ ρ σ F H ρ' σ F' H'→Wlk Γ.G J F' ds→R J H'
 | .exc x ρ'=>∀ d F' H',Stp Γ ρ σ F H ρ' σ F' H'→ExcRep Γ.G F' H' x d→W (ecV Γ.G x.c) d σ H'
 | .stuck=>False
theorem Wlk.mono {G:Gx}{J:It}{F F':Hp}{ds:List D}(w:Wlk G J F ds)(e:Same F F'):Wlk G J F' ds :=
 ⟨fun i H s=>w.go i H (e.trans s),fun i H x H' s hi y=>by
  obtain ⟨d,h1,h2⟩:=w.yld i H x H' (e.trans s) hi y
  exact ⟨d,h1,fun F1 s1 s2=>h2 F1 (e.trans s1) s2⟩,fun i H s=>w.stop i H (e.trans s)⟩
theorem wlk_lst {G:Gx}{F:Hp}{a:Addr}{vs:List V}{ds:List D}(h:F a=some (.lst vs))(t:DpL G F vs ds):Wlk G (Itl G.K a) F ds :=
 ⟨fun i H s hi=>⟨vs,vs[i]'(by rw [t.length]; exact hi),SqL.of (s _ _ h),by simp⟩,fun i H x H' s hi ⟨e,y⟩=>by
  have hx:=y vs (SqL.of (s _ _ h))
  obtain ⟨d,h1,h2⟩:=t.getV hx
  subst e
  exact ⟨d,h1,fun F1 s1 s2=>⟨F1,.refl s2,h2.mono s1⟩⟩,fun i H s hi=>⟨vs,SqL.of (s _ _ h),by rw [t.length]; exact hi⟩⟩
theorem wlk_tup {G:Gx}{F:Hp}{a:Addr}{vs:List V}{ds:List D}(h:SqT G.K F a vs)(t:DpL G F vs ds):Wlk G (Itt G.K a) F ds :=
 ⟨fun i H s hi=>⟨vs,vs[i]'(by rw [t.length]; exact hi),sqT_ext h s,by simp⟩,fun i H x H' s hi ⟨e,y⟩=>by
  have hx:=y vs (sqT_ext h s)
  obtain ⟨d,h1,h2⟩:=t.getV hx
  subst e
  exact ⟨d,h1,fun F1 s1 s2=>⟨F1,.refl s2,h2.mono s1⟩⟩,fun i H s hi=>⟨vs,sqT_ext h s,by rw [t.length]; exact hi⟩⟩
def rangeD (lo:Int)(n:Nat):List D:=(List.range n).map fun i=>.int (lo+(i:Nat))
theorem wlk_range {G:Gx}{F:Hp}(lo:Int)(n:Nat):Wlk G (Itr lo n) F (rangeD lo n) :=
 ⟨fun i H s hi=>by simpa [rangeD,Itr] using hi,fun i H x H' s hi ⟨e,y⟩=>by
  subst e y
  have hi:i<n:=by simpa [rangeD] using hi
  exact ⟨.int (lo+(i:Nat)),by simp [rangeD,hi],fun F1 s1 s2=>⟨F1,.refl s2,.int _⟩⟩,fun i H s hi=>by simpa [rangeD,Itr] using hi⟩
def signsD (x:Str):List D:=x.cps.toList.map fun c=>.str ⟨#[c]⟩
theorem wlk_str {G:Gx}{F:Hp}(x:Str):Wlk G (Its x) F (signsD x) :=
 ⟨fun i H s hi=>by simpa [signsD,Its] using hi,fun i H v H' s hi ⟨e,c,y,z⟩=>by
  subst e z
  exact ⟨.str ⟨#[c]⟩,by simp [signsD,y],fun F1 s1 s2=>⟨F1,.refl s2,.str _⟩⟩,fun i H s hi=>by simpa [signsD,Its] using hi⟩
theorem pi_seq {X:Cx}{tg l:Expr}{tl:TE}(hl:PE X l tl):PI X tg l (fun σ H R=>tl σ H fun x H1=>(∃ a,x=.ref a∧(∃ xs,SqL X.K H1 a xs)∧R (Itl X.K a) H1)∨(∃ a,x=.ref a∧(∃ xs,SqT X.K H1 a xs)∧R (Itt X.K a) H1)∨∃ z,x=.str z∧R (Its z) H1):=by
 refine ⟨fun pins s σ H R I h=>?_⟩
 refine thn (hl.run pins s σ H _ I h) fun v s1 ⟨x,H1,I1,r1,q1⟩=>?_
 rcases q1 with ⟨a,e,⟨xs,hq⟩,q⟩ | ⟨a,e,⟨xs,hq⟩,q⟩ | ⟨z,e,q⟩
 ·subst e
  cases r1
  obtain ⟨its,rv,p,hz⟩:=I1.list hq
  refine wpAny_pyIter_list p.isList ?_
  refine ⟨s1.heap.objs.size,[s1.heap.objs.size],_,_,H1,rfl,I1.kept (t':=s1.toks) fun b o e=>Heap.get?_push_of_some _ e,turn_list a _,⟨_,Heap.get?_push_size _ rfl,rfl,rfl⟩,fun b hb=>?_,q⟩
  have e:b=s1.heap.objs.size:=by simpa using hb
  subst e
  exact I1.fpOk (Nat.le_refl _) (I1.hok.fresh (Nat.le_refl _))
 ·subst e
  cases r1
  obtain ⟨its,rv,p,hz⟩:=I1.tuple hq
  refine wpAny_pyIter_tuple (show s1.heap.IsTuple a its.toArray from p) ?_
  refine ⟨s1.heap.objs.size,[s1.heap.objs.size],_,_,H1,rfl,I1.kept (t':=s1.toks) fun b o e=>Heap.get?_push_of_some _ e,turn_tuple a _,⟨_,Heap.get?_push_size _ rfl,rfl,rfl⟩,fun b hb=>?_,q⟩
  have e:b=s1.heap.objs.size:=by simpa using hb
  subst e
  exact I1.fpOk (Nat.le_refl _) (I1.hok.fresh (Nat.le_refl _))
 ·subst e
  obtain ⟨t,rfl⟩:=r1
  cases ha:z.cps.all (· < 128)
  ·exact wpAny_pyIter_wide ha (pi_one (tk:=s1.toks) I1 _ (turn_str _ z t "str_iterator" (.inr rfl)) ⟨_,Heap.get?_push_size _ rfl,rfl,rfl⟩ q)
  ·exact wpAny_pyIter_ascii ha (pi_one (tk:=s1.toks) I1 _ (turn_str _ z t "str_ascii_iterator" (.inl rfl)) ⟨_,Heap.get?_push_size _ rfl,rfl,rfl⟩ q)
theorem _root_.L2.PI.imp {X:Cx}{tg e:Expr}{t t':TI}(h:PI X tg e t)(i:∀ σ H R,t' σ H R→t σ H R):PI X tg e t':=⟨fun pins s σ H R I q=>h.run pins s σ H R I (i _ _ _ q)⟩
def itemsD:D→Option (List D)
 | .lst xs=>some xs
 | .tup xs=>some xs
 | .str z=>some (signsD z)
 | _=>none
def itemsR (r:Res)(ρ:Rho):Out (List D):=match settle r ρ with
 | some (d,ρ1)=>(match itemsD d with | some ds=>.ok ds ρ1 | none=>.stuck)
 | none=>.stuck
def iSeq (m:M):MI:=fun ρ=>bindF (m ρ) fun r ρ1=>itemsR r ρ1
def iRange (ma:MA):MI:=fun ρ=>bindO (ma ρ) fun rs ρ1=>match resolves ρ1 rs with
 | some [.int j]=>if decide (-(2 ^ 62)≤j)&&decide (j<2 ^ 62) then .ok (rangeD 0 j.toNat) ρ1 else .stuck
 | _=>.stuck
theorem iM_bindF {Γ:Gm}{W:WX}{o:Out Res}{k:Res→Rho→Out (List D)}{ρ:Rho}{σ:St}{F H:Hp}{R:It→Hp→Prop}{Q1:VK}
  (h:match bindF o k with
   | .ok ds ρ'=>∀ J F' H',Stp Γ ρ σ F H ρ' σ F' H'→Wlk Γ.G J F' ds→R J H'
   | .exc x ρ'=>∀ d F' H',Stp Γ ρ σ F H ρ' σ F' H'→ExcRep Γ.G F' H' x d→W (ecV Γ.G x.c) d σ H'
   | .stuck=>False)
  (hk:∀ r ρ1 v F1 H1,Stp Γ ρ σ F H ρ1 σ F1 H1→RepF Γ.G σ F1 v r→(∀ ds ρ',k r ρ1=.ok ds ρ'→∀ J F' H',Stp Γ ρ1 σ F1 H1 ρ' σ F' H'→Wlk Γ.G J F' ds→R J H')→(∃ ds ρ',k r ρ1=.ok ds ρ')→Q1 v H1)
  (hs:∀ r ρ1,(∃ ds ρ',k r ρ1=.ok ds ρ')∨k r ρ1=.stuck):PostF Γ W o ρ σ F H Q1:=by
 cases o with
 | ok r ρ' =>
  intro v F' H' s q
  rcases hs r.frz ρ' with ⟨ds,ρ2,e⟩ | e
  ·have h:∀ J F' H',Stp Γ ρ σ F H ρ2 σ F' H'→Wlk Γ.G J F' ds→R J H':=by
    simp only [bindF,e] at h; exact h
   refine hk r.frz ρ' v F' H' s q (fun ds' ρ3 e' J F2 H2 s2 w=>?_) ⟨ds,ρ2,e⟩
   rw [e] at e'; cases e'
   exact h J F2 H2 (s.trans s2) w
  ·simp only [bindF,e] at h
 | exc x ρ'=>exact h
 | stuck=>exact h
theorem iM_bindA {Γ:Gm}{W:WX}{o:Out (List Res)}{k:List Res→Rho→Out (List D)}{ρ:Rho}{σ:St}{F H:Hp}{R:It→Hp→Prop}{Q1:List V→Hp→Prop}
  (h:match bindO o k with
   | .ok ds ρ'=>∀ J F' H',Stp Γ ρ σ F H ρ' σ F' H'→Wlk Γ.G J F' ds→R J H'
   | .exc x ρ'=>∀ d F' H',Stp Γ ρ σ F H ρ' σ F' H'→ExcRep Γ.G F' H' x d→W (ecV Γ.G x.c) d σ H'
   | .stuck=>False)
  (hk:∀ r ρ1 v F1 H1,Stp Γ ρ σ F H ρ1 σ F1 H1→RepFs Γ.G σ F1 v r→(∀ ds ρ',k r ρ1=.ok ds ρ'→∀ J F' H',Stp Γ ρ1 σ F1 H1 ρ' σ F' H'→Wlk Γ.G J F' ds→R J H')→(∃ ds ρ',k r ρ1=.ok ds ρ')→Q1 v H1)
  (hs:∀ r ρ1,(∃ ds ρ',k r ρ1=.ok ds ρ')∨k r ρ1=.stuck):PostA Γ W o ρ σ F H Q1:=by
 cases o with
 | ok r ρ' =>
  intro v F' H' s q
  rcases hs r ρ' with ⟨ds,ρ2,e⟩ | e
  ·have h:∀ J F' H',Stp Γ ρ σ F H ρ2 σ F' H'→Wlk Γ.G J F' ds→R J H':=by
    simp only [bindO,e] at h; exact h
   refine hk r ρ' v F' H' s q (fun ds' ρ3 e' J F2 H2 s2 w=>?_) ⟨ds,ρ2,e⟩
   rw [e] at e'; cases e'
   exact h J F2 H2 (s.trans s2) w
  ·simp only [bindO,e] at h
 | exc x ρ'=>exact h
 | stuck=>exact h
section
variable {X:Cx}{Γ:Gm}{W:WX}{e tg:Expr}{m:M}{ma:MA}{pos p:Pos}
theorem ji_seq (hK:X.K=Γ.G.K)(he:PE X e (tM Γ W m)):PI X tg e (iM Γ W (iSeq m)):=(pi_seq (je_f he)).imp fun σ H R ⟨ρ,F,Rl,h⟩=>⟨ρ,F,Rl,iM_bindF h (fun r ρ1 v F1 H1 s1 hr hk ⟨ds,ρ2,ek⟩=>by
  have hk:=hk ds ρ2 ek
  unfold itemsR at ek
  split at ek
  ·rename_i d ρ3 es
   split at ek
   ·rename_i ds' ei
    cases ek
    obtain ⟨F2,s2,hd⟩:=settle_ok s1.rel hr es
    cases d with
    | lst xs =>
     simp only [itemsD,Option.some.injEq] at ei; subst ei
     cases hd with | lst ha t=>exact .inl ⟨_,rfl,⟨_,SqL.of (s2.rel.sub _ _ ha)⟩,hk _ F2 H1 s2 (hK▸wlk_lst ha t)⟩
    | tup xs =>
     simp only [itemsD,Option.some.injEq] at ei; subst ei
     cases hd with | tup ha t=>exact .inr (.inl ⟨_,rfl,⟨_,hK▸sqT_ext ha s2.rel.sub⟩,hk _ F2 H1 s2 (hK▸wlk_tup ha t)⟩)
    | str z =>
     simp only [itemsD,Option.some.injEq] at ei; subst ei
     cases hd; exact .inr (.inr ⟨z,rfl,hk _ F2 H1 s2 (wlk_str z)⟩)
    | _=>simp [itemsD] at ei
   ·cases ek
  ·cases ek) (fun r ρ1=>by
  unfold itemsR
  split
  ·split
   ·exact .inl ⟨_,_,rfl⟩
   ·exact .inr rfl
  ·exact .inr rfl)⟩
theorem ji_range {a:Expr}(hm:X.mg "range"=none)(ha:PA X [a] (tMA Γ W ma))(hg:Gl X "range":=by rfl)(hs:starEach [a] X.env=[(false,eval a X.env)]:=by rfl):PI X tg (.Call (.Name "range" p) [a] [] pos) (iM Γ W (iRange ma)) :=
 (pi_range1 hg hm ha hs).imp fun σ H R ⟨ρ,F,Rl,h⟩=>⟨ρ,F,Rl,iM_bindA h (fun rs ρ1 vs F1 H1 s1 hr hk ⟨ds,ρ2,ek⟩=>by
  have hk:=hk ds ρ2 ek
  split at ek
  ·rename_i j er
   split at ek
   ·rename_i w
    cases ek
    have V:=hr.views s1.rel er
    cases V with
    | cons h1 t =>
     cases t
     have w:=Bool.and_eq_true_iff.mp w
     exact ⟨j,by rw [h1.int],of_decide_eq_true w.1,of_decide_eq_true w.2,hk _ F1 H1 (.refl s1.rel) (wlk_range 0 _)⟩
   ·cases ek
  ·cases ek) (fun r ρ1=>by
  split
  ·split
   ·exact .inl ⟨_,_,rfl⟩
   ·exact .inr rfl
  ·exact .inr rfl)⟩
end
def forD (f:Tg)(b:MS):List D→Rho→SOut
 | [],ρ=>.nx ρ
 | d::ds,ρ=>match f d ρ with
  | some ρ1=>(match b ρ1 with
   | .nx ρ2=>forD f b ds ρ2
   | .ct ρ2=>forD f b ds ρ2
   | .bk ρ2=>.nx ρ2
   | o=>o)
  | none=>.stuck
def mFor (mi:MI)(f:Tg)(b:MS):MS:=fun ρ=>bindSO (mi ρ) fun ds ρ1=>forD f b ds ρ1
section
variable {X:Cx}{Γ:Gm}{W:WX}{iter tg:Expr}{mi:MI}{g:TG}{f:Tg}{b:MS}{body:List Stmt}{pos:Pos}
theorem for_ok {D:Ends}{J:It}{ds:List PyD.D}{ρ:Rho}{σ:St}{F H:Hp}(hf:TgOk Γ g f)(R:Rel Γ ρ σ F H)(w:Wlk Γ.G J F ds)(h:PostS Γ W (forD f b ds ρ) ρ σ F H D) :
  ∃ V:Nat→Nat→St→Hp→Prop,(∃ m,V 0 m σ H)∧∀ i m σ H,V i m σ H →
   (J.stop i H∧D.nx σ H)∨(J.go i H∧∃ N:St→Hp→Prop,(∀ σ' H',N σ' H'→∃ m',m'<m∧V (i+1) m' σ' H')∧∀ x H',J.yld i H x H'→g x σ H' fun σ2 H2=>tMS Γ W b { D with nx:=N,ct:=N,bk:=D.nx } σ2 H2):=by
 refine ⟨fun i m σ' H'=>m=ds.length-i∧i≤ds.length∧∃ ρ' F',Rel Γ ρ' σ' F' H'∧Same F F'∧PostS Γ W (forD f b (ds.drop i) ρ') ρ' σ' F' H' D,⟨ds.length,by simp,Nat.zero_le _,ρ,F,R,Same.refl _,by simpa using h⟩,?_⟩
 rintro i m σ' H' ⟨rfl,hi,ρ',F',R',sF,p⟩
 have wF:=w.mono sF
 by_cases hlt:i<ds.length
 ·refine .inr ⟨wF.go i H' R'.sub hlt,fun σ2 H2=>∃ ρ2 F2,Rel Γ ρ2 σ2 F2 H2∧Same F F2∧PostS Γ W (forD f b (ds.drop (i+1)) ρ2) ρ2 σ2 F2 H2 D,fun σ2 H2 ⟨ρ2,F2,R2,s2,p2⟩=>⟨ds.length-(i+1),by omega,rfl,hlt,ρ2,F2,R2,s2,p2⟩,fun x H2 y=>?_⟩
  obtain ⟨d,hd,hy⟩:=wF.yld i H' x H2 R'.sub hlt y
  obtain ⟨F2,al,dp⟩:=hy F' (Same.refl _) R'.sub
  have e:ds.drop i=d::ds.drop (i+1):=by
   rw [List.getElem?_eq_getElem hlt] at hd
   rw [← Option.some.inj hd]
   exact List.drop_eq_getElem_cons hlt
  rw [e] at p
  simp only [forD] at p
  cases ef:f d ρ' with
  | none=>rw [ef] at p; exact p.elim
  | some ρ1 =>
   rw [ef] at p
   simp only at p
   have s0:=al.stp R'
   refine hf x d ρ' ρ1 σ' F2 H2 _ s0.rel dp ef fun σ2 s1=>⟨ρ1,F2,s1.rel,?_⟩
   have st:=s0.trans s1
   cases eb:b ρ1 with
   | nx ρ2=>rw [eb] at p; exact fun σ3 F3 H3 s3=>⟨ρ2,F3,s3.rel,sF.trans (st.trans s3).subF,p.shift (st.trans s3)⟩
   | ct ρ2=>rw [eb] at p; exact fun σ3 F3 H3 s3=>⟨ρ2,F3,s3.rel,sF.trans (st.trans s3).subF,p.shift (st.trans s3)⟩
   | bk ρ2=>rw [eb] at p; exact fun σ3 F3 H3 s3=>p σ3 F3 H3 (st.trans s3)
   | ret r ρ2=>rw [eb] at p; exact p.shift st
   | exc x ρ2=>rw [eb] at p; exact p.shift st
   | stuck=>rw [eb] at p; exact p.elim
 ·have e:i=ds.length:=by omega
  subst e
  rw [List.drop_length] at p
  exact .inl ⟨wF.stop _ H' R'.sub (Nat.le_refl _),p σ' F' H' (.refl R')⟩
theorem js_for (hp:PassesOwn (model X.prog X.w) X.A X.env X.xe)(hc:X.calm=true)(hi:PI X tg iter (iM Γ W mi))(hg:PG X tg g)(hf:TgOk Γ g f)(hb:PSs X body (tMS Γ W b))(hs:∀ x,foldedSetIterable iter X.env x=pure x:=by intro _; rfl) :
  PS X (.For tg iter body [] pos) (tMS Γ W (mFor mi f b)):=(ps_for hp hc hi hg hb hs).imp fun D σ H ⟨ρ,F,R,p⟩=>by
 refine ⟨ρ,F,R,?_⟩
 unfold mFor at p
 cases e:mi ρ with
 | ok ds ρ1=>rw [e] at p; exact fun J F' H' s w=>for_ok hf s.rel w (p.shift s)
 | exc x ρ1=>rw [e] at p; exact fun d F' H' s q=>p d σ F' H' s q
 | stuck=>rw [e] at p; exact p.elim
def whileD (t:MB)(b:MS):Nat→Rho→SOut
 | 0,_=>.stuck
 | n+1,ρ=>match t ρ with
  | .ok true ρ1=>(match b ρ1 with
   | .nx ρ2=>whileD t b n ρ2
   | .ct ρ2=>whileD t b n ρ2
   | .bk ρ2=>.nx ρ2
   | o=>o)
  | .ok false ρ1=>.nx ρ1
  | .exc x ρ1=>.exc x ρ1
  | .stuck=>.stuck
theorem js_while {c:Expr}{t:MB}(N:Nat)(hp:PassesOwn (model X.prog X.w) X.A X.env X.xe)(hc:PT X c (tMB Γ W t))(hb:PSs X body (tMS Γ W b)):PS X (.While c body [] pos) (tMS Γ W (whileD t b N)) :=
 (ps_while hp hc hb).imp fun D σ H ⟨ρ,F,R,p⟩=>by
  refine ⟨fun m σ' H'=>∃ ρ' F',Rel Γ ρ' σ' F' H'∧PostS Γ W (whileD t b m ρ') ρ' σ' F' H' D,⟨N,ρ,F,R,p⟩,?_⟩
  rintro m σ' H' ⟨ρ',F',R',p'⟩
  cases m with
  | zero=>exact p'.elim
  | succ m =>
   simp only [whileD] at p'
   refine ⟨ρ',F',R',?_⟩
   cases et:t ρ' with
   | ok k ρ1 =>
    rw [et] at p'
    intro F1 H1 s1
    cases k with
    | false =>
     simp only [Bool.false_eq_true,if_false]
     exact p' σ' F1 H1 s1
    | true =>
     simp only [if_true]
     simp only at p'
     refine ⟨fun σ2 H2=>∃ ρ2 F2,Rel Γ ρ2 σ2 F2 H2∧PostS Γ W (whileD t b m ρ2) ρ2 σ2 F2 H2 D,fun σ2 H2 q=>⟨m,Nat.lt_succ_self _,q⟩,ρ1,F1,s1.rel,?_⟩
     cases eb:b ρ1 with
     | nx ρ2=>rw [eb] at p'; exact fun σ3 F3 H3 s3=>⟨ρ2,F3,s3.rel,p'.shift (s1.trans s3)⟩
     | ct ρ2=>rw [eb] at p'; exact fun σ3 F3 H3 s3=>⟨ρ2,F3,s3.rel,p'.shift (s1.trans s3)⟩
     | bk ρ2=>rw [eb] at p'; exact fun σ3 F3 H3 s3=>p' σ3 F3 H3 (s1.trans s3)
     | ret r ρ2=>rw [eb] at p'; exact p'.shift s1
     | exc x ρ2=>rw [eb] at p'; exact p'.shift s1
     | stuck=>rw [eb] at p'; exact p'.elim
   | exc x ρ1=>rw [et] at p'; exact fun d F1 H1 s1 q=>p' d σ' F1 H1 s1 q
   | stuck=>rw [et] at p'; exact p'.elim
end
def wipeR (ρ:Rho):List Nat→Rho
 | []=>ρ
 | v::vs=>(wipeR ρ vs).set v none
theorem wipeR_len (ρ:Rho):∀ vs:List Nat,(wipeR ρ vs).length=ρ.length
 | []=>rfl
 | v::vs=>by unfold wipeR; rw [List.length_set,wipeR_len ρ vs]
theorem wipeR_get {ρ:Rho}{i:Nat}{s:Slot}:∀ {vs:List Nat},(wipeR ρ vs)[i]?=some (some s)→ρ[i]?=some (some s)∧i∉vs
 | [],h=>⟨h,by simp⟩
 | v::vs,h=>by
  unfold wipeR at h
  rcases get_set h with ⟨e,e2,_⟩ | ⟨e,h⟩
  ·cases e2
  ·obtain ⟨h1,h2⟩:=wipeR_get h
   exact ⟨h1,by simp only [List.mem_cons,not_or]; exact ⟨fun z=>e z.symm,h2⟩⟩
theorem Rel.wipe {Γ:Gm}{ρ:Rho}{σ σ':St}{F H:Hp}{vs:List Nat}(R:Rel Γ ρ σ F H)(h:∀ i,i∉vs→σ'[i]?=σ[i]?)(hl:σ'.length=σ.length):Rel Γ (wipeR ρ vs) σ' F H∧(∀ a,Own Γ (wipeR ρ vs) σ' F H a→Own Γ ρ σ F H a):=by
 have bk:∀ j a,OwnAt Γ (wipeR ρ vs) σ' F H j a→OwnAt Γ ρ σ F H j a:=fun j a o=>by
  have hj:j∉vs:=by
   obtain ⟨s,v,L,q,_⟩:=o
   exact (wipeR_get q).2
  exact own_back R (Same.refl _) j (fun s q=>(wipeR_get q).1) (h j hj) (fun _ _ _ q=>q) o
 refine ⟨⟨R.sub,fun i s q=>?_,fun i j a h1 h2=>R.inj i j a (bk i a h1) (bk j a h2),fun j a o=>R.own j a (bk j a o),by rw [wipeR_len,hl]; exact R.len,R.inv,R.ali,R.tab⟩,fun a ⟨j,q⟩=>⟨j,bk j a q⟩⟩
 obtain ⟨h3,h4⟩:=wipeR_get q
 exact slot_keep R (Same.refl _) i h3 (h i h4) fun _ _ _ q=>q
theorem Stp.wipe {Γ:Gm}{ρ₀ ρ:Rho}{σ₀ σ σ':St}{F₀ H₀ F H:Hp}{vs:List Nat}(s:Stp Γ ρ₀ σ₀ F₀ H₀ ρ σ F H)(h:∀ i,i∉vs→σ'[i]?=σ[i]?)(hl:σ'.length=σ.length):Stp Γ ρ₀ σ₀ F₀ H₀ (wipeR ρ vs) σ' F H :=
 ⟨(s.rel.wipe h hl).1,s.subF,s.keep,s.there⟩
def Gm.also (Γ:Gm)(a:Addr):Gm:={ Γ with U:=fun b=>Γ.U b∨b=a }
theorem slotOk_also {Γ:Gm}{F H:Hp}{v:V}{L:List Addr}{s:Slot}{a:Addr}:SlotOk (Γ.also a) F H v L s↔SlotOk Γ F H v L s:=by cases s <;> exact Iff.rfl
theorem ownAt_also {Γ:Gm}{ρ:Rho}{σ:St}{F H:Hp}{i:Nat}{a c:Addr}:OwnAt (Γ.also a) ρ σ F H i c↔OwnAt Γ ρ σ F H i c :=
 ⟨fun ⟨s,v,L,h1,h2,h3,h4⟩=>⟨s,v,L,h1,h2,slotOk_also.mp h3,h4⟩,fun ⟨s,v,L,h1,h2,h3,h4⟩=>⟨s,v,L,h1,h2,slotOk_also.mpr h3,h4⟩⟩
theorem tab_also {T:List NdefX.NTab}{U:Addr→Prop}{F H:Hp}{a:Addr}{o:HO}(t:TabU T U F H)(hH:H a=some o)(ok:okU o):TabU T (fun b=>U b∨b=a) F H:=⟨t.on,fun p hp h=>by
 rcases h with h | h
 ·exact t.off p hp h
 ·obtain ⟨ps,e,_⟩:=t.on p hp
  rw [h,hH] at e; cases e; exact ok.1 ps rfl,t.fr⟩
theorem Rel.also {Γ:Gm}{ρ:Rho}{σ:St}{F H:Hp}{a:Addr}{o:HO}(R:Rel Γ ρ σ F H)(hF:F a=none)(hH:H a=some o)(no:¬ Own Γ ρ σ F H a)(ok:okU o):Rel (Γ.also a) ρ σ F H :=
 ⟨R.sub,fun i s q=>by obtain ⟨v,L,h1,h2⟩:=R.slot i s q; exact ⟨v,L,h1,slotOk_also.mpr h2⟩,fun i j c h1 h2=>R.inj i j c (ownAt_also.mp h1) (ownAt_also.mp h2),fun i c h=>⟨(R.own i c (ownAt_also.mp h)).1,fun z=>by
  rcases z with z | z
  ·exact (R.own i c (ownAt_also.mp h)).2 z
  ·exact no (z▸⟨i,ownAt_also.mp h⟩)⟩,R.len,R.inv,fun c h=>by
  rcases h with h | h
  ·exact R.ali c h
  ·subst h; exact ⟨hF,o,hH⟩,tab_also R.tab hH ok⟩
theorem Rel.unalso {Γ:Gm}{ρ:Rho}{σ:St}{F H:Hp}{a:Addr}(R:Rel (Γ.also a) ρ σ F H):Rel Γ ρ σ F H∧¬ Own Γ ρ σ F H a :=
 ⟨⟨R.sub,fun i s q=>by obtain ⟨v,L,h1,h2⟩:=R.slot i s q; exact ⟨v,L,h1,slotOk_also.mp h2⟩,fun i j c h1 h2=>R.inj i j c (ownAt_also.mpr h1) (ownAt_also.mpr h2),fun i c h=>⟨(R.own i c (ownAt_also.mpr h)).1,fun z=>(R.own i c (ownAt_also.mpr h)).2 (.inl z)⟩,R.len,R.inv,fun c h=>R.ali c (.inl h),R.tab.on,fun p hp h=>R.tab.off p hp (.inl h),R.tab.fr⟩,fun ⟨i,h⟩=>(R.own i a (ownAt_also.mpr h)).2 (.inr rfl)⟩
theorem Stp.unalso {Γ:Gm}{ρ ρ':Rho}{σ σ':St}{F H F' H':Hp}{a:Addr}(s:Stp (Γ.also a) ρ σ F H ρ' σ' F' H'):Stp Γ ρ σ F H ρ' σ' F' H'∧H' a=H a∧F' a=none∧¬ Own Γ ρ' σ' F' H' a :=
 ⟨⟨s.rel.unalso.1,s.subF,fun c h=>s.keep c (.inl h),s.there⟩,s.keep a (.inr rfl),(s.rel.ali a (.inr rfl)).1,s.rel.unalso.2⟩
theorem Stp.out {Γ:Gm}{ρ₀ ρ:Rho}{σ₀ σ:St}{F₀ H₀ F H:Hp}{a:Addr}{o:HO}(s:Stp Γ ρ₀ σ₀ F₀ H₀ ρ σ F H)(h0:H₀ a=none)(hu:¬ Γ.U a)(hF:F a=none)(no:¬ Own Γ ρ σ F H a)(hk:∀ u,H a=some u→okU u):Stp Γ ρ₀ σ₀ F₀ H₀ ρ σ F (upd H a o)∧¬ Own Γ ρ σ F (upd H a o) a:=by
 have kp:∀ j b,OwnAt Γ ρ σ F H j b→∀ u,H b=some u→upd H a o b=some u:=fun j b ob u q=>by rw [upd_ne (fun z:b=a=>no (z▸⟨j,ob⟩))]; exact q
 have bk:∀ j c,OwnAt Γ ρ σ F (upd H a o) j c→OwnAt Γ ρ σ F H j c:=fun j c q=>own_back s.rel (Same.refl _) j (fun _ q=>q) rfl (kp j) q
 refine ⟨⟨⟨fun b u q=>by rw [upd_ne (ne_of_none q hF)]; exact s.rel.sub b u q,fun i sl q=>slot_keep s.rel (Same.refl _) i q rfl (kp i),fun i j c h1 h2=>s.rel.inj i j c (bk i c h1) (bk j c h2),fun i c h=>s.rel.own i c (bk i c h),s.rel.len,s.rel.inv,fun c h=>?_,tab_upd s.rel.tab.on hk,s.rel.tab.off,s.rel.tab.fr⟩,s.subF,fun c h=>?_,fun b u q=>?_⟩,fun ⟨j,q⟩=>no ⟨j,bk j a q⟩⟩
 ·obtain ⟨h1,u,h2⟩:=s.rel.ali c h
  exact ⟨h1,u,by rw [upd_ne (fun z:c=a=>hu (z▸h))]; exact h2⟩
 ·rw [upd_ne (fun z:c=a=>hu (z▸h))]; exact s.keep c h
 ·rw [upd_ne (ne_of_none q h0)]; exact s.there b u q
def TgV (Γ:Gm)(g:TG)(f:Tg)(vs:List Nat):Prop:=∀ v d ρ ρ' σ F H Q,Rel Γ ρ σ F H→Dp Γ.G F v d→f d ρ=some ρ'→(∀ σ',Stp Γ ρ σ F H ρ' σ' F H→(∀ i,i∉vs→σ'[i]?=σ[i]?)→σ'.length=σ.length→Q σ' H)→g v σ H Q
def TgsV (Γ:Gm)(g:TGs)(f:Tgs)(vs:List Nat):Prop:=∀ us ds ρ ρ' σ F H Q,Rel Γ ρ σ F H→DpL Γ.G F us ds→f ds ρ=some ρ'→(∀ σ',Stp Γ ρ σ F H ρ' σ' F H→(∀ i,i∉vs→σ'[i]?=σ[i]?)→σ'.length=σ.length→Q σ' H)→g us σ H Q
theorem tv_name {Γ:Gm}{i:Nat}{vs:List Nat}(hi:i∈vs):TgV Γ (gName i) (gN i) vs:=by
 intro v d ρ ρ' σ F H Q R h e k
 unfold gN at e
 split at e
 ·rename_i hl
  cases e
  exact k _ ((Stp.refl R).setV hl h) (fun j hj=>by rw [List.getElem?_set_ne (fun z:i=j=>hj (z▸hi))]) (by simp)
 ·cases e
theorem tvs_nil {Γ:Gm}{vs:List Nat}:TgsV Γ gNil gsNil vs:=by
 intro us ds ρ ρ' σ F H Q R h e k
 unfold gsNil at e
 split at e
 ·cases e; cases h; exact ⟨rfl,k σ (.refl R) (fun _ _=>rfl) rfl⟩
 ·cases e
theorem tvs_cons {Γ:Gm}{t:TG}{u:TGs}{f:Tg}{g:Tgs}{vs:List Nat}(h1:TgV Γ t f vs)(h2:TgsV Γ u g vs):TgsV Γ (gCons t u) (gsCons f g) vs:=by
 intro us ds ρ ρ' σ F H Q R h e k
 unfold gsCons at e
 split at e
 ·rename_i d ds
  obtain ⟨ρ1,e1,e2⟩:=Option.bind_eq_some_iff.mp e
  cases h with
  | cons ha hb=>exact ⟨_,_,rfl,h1 _ d ρ ρ1 σ F H _ R ha e1 fun σ1 s1 w1 l1=>h2 _ ds ρ1 ρ' σ1 F H Q s1.rel hb e2 fun σ2 s2 w2 l2=>k σ2 (s1.trans s2) (fun i hi=>(w2 i hi).trans (w1 i hi)) (l2.trans l1)⟩
 ·cases e
theorem tv_tup {Γ:Gm}{u:TGs}{g:Tgs}{n:Nat}{vs:List Nat}(h2:TgsV Γ u g vs):TgV Γ (gTup Γ.G.K n u) (gT n g) vs:=by
 intro v d ρ ρ' σ F H Q R h e k
 unfold gT at e
 split at e
 ·rename_i ds
  split at e
  ·rename_i hn
   cases h with
   | tup hs t=>exact ⟨_,_,rfl,sqT_ext hs R.sub,by rw [t.length]; exact hn,h2 _ ds ρ ρ' σ F H Q R t e k⟩
  ·cases e
 ·cases e
def lcD (vs:List Nat)(f:Tg)(t:MB)(me:M):List D→List D→Rho→Out (List D)
 | [],acc,ρ=>.ok acc ρ
 | d::ds,acc,ρ=>match f d ρ with
  | some ρ1=>(match t ρ1 with
   | .ok true ρ2=>(match me ρ2 with
    | .ok r ρ3=>(match settle r.frz ρ3 with
     | some (y,ρ4)=>if acc.length<sizeLine then lcD vs f t me ds (acc++[y]) (wipeR ρ4 vs) else .stuck
     | none=>.stuck)
    | _=>.stuck)
   | .ok false ρ2=>lcD vs f t me ds acc (wipeR ρ2 vs)
   | _=>.stuck)
  | none=>.stuck
def mLc (vs:List Nat)(mi:MI)(f:Tg)(t:MB)(me:M):M:=fun ρ=>bindO (mi ρ) fun ds ρ1=>match lcD vs f t me ds [] (wipeR ρ1 vs) with
 | .ok acc ρ2=>.ok (.new (.lst acc)) ρ2
 | _=>.stuck
abbrev W0:WX:=fun _ _ _ _=>False
theorem wipe_idem {σ σ2:St}{vs:List Nat}(h:∀ i,i∉vs→σ2[i]?=(wipe σ vs)[i]?)(hl:σ2.length=(wipe σ vs).length):wipe σ2 vs=wipe σ vs:=by
 have key:∀ (τ:St) (ws:List Nat) (i:Nat),i∈ws→i<τ.length→(wipe τ ws)[i]?=some none:=fun τ ws=>by
  induction ws with
  | nil=>intro i h; cases h
  | cons w ws ih =>
   intro i h hi
   unfold wipe
   by_cases e:w=i
   ·subst e; rw [List.getElem?_set_self (by rw [wipe_length]; exact hi)]
   ·rw [List.getElem?_set_ne e]
    rcases List.mem_cons.mp h with z | z
    ·exact absurd z.symm e
    ·exact ih i z hi
 rw [wipe_length] at hl
 refine List.ext_getElem? fun i=>?_
 by_cases hi:i∈vs
 ·rcases Nat.lt_or_ge i σ.length with hl' | hl'
  ·rw [key σ2 vs i hi (by omega),key σ vs i hi hl']
  ·rw [List.getElem?_eq_none (by rw [wipe_length]; omega),List.getElem?_eq_none (by rw [wipe_length]; omega)]
 ·rw [wipe_out hi,h i hi]
theorem wipeR_idem (r:Rho)(vs:List Nat):wipeR (wipeR r vs) vs=wipeR r vs:=by
 refine List.ext_getElem? fun i=>?_
 have key:∀ (τ:Rho) (ws:List Nat) (i:Nat),i∈ws→i<τ.length→(wipeR τ ws)[i]?=some none:=fun τ ws=>by
  induction ws with
  | nil=>intro i h; cases h
  | cons w ws ih =>
   intro i h hi
   unfold wipeR
   by_cases e:w=i
   ·subst e; rw [List.getElem?_set_self (by rw [wipeR_len]; exact hi)]
   ·rw [List.getElem?_set_ne e]
    rcases List.mem_cons.mp h with z | z
    ·exact absurd z.symm e
    ·exact ih i z hi
 have out:∀ (τ:Rho) (ws:List Nat) (i:Nat),i∉ws→(wipeR τ ws)[i]?=τ[i]?:=fun τ ws=>by
  induction ws with
  | nil=>intro i h; rfl
  | cons w ws ih =>
   intro i h
   unfold wipeR
   rw [List.getElem?_set_ne (fun z:w=i=>h (z▸List.mem_cons_self ..))]
   exact ih i fun z=>h (List.mem_cons_of_mem _ z)
 by_cases hi:i∈vs
 ·rcases Nat.lt_or_ge i r.length with hl' | hl'
  ·rw [key _ vs i hi (by rw [wipeR_len]; exact hl'),key r vs i hi hl']
  ·rw [List.getElem?_eq_none (by rw [wipeR_len,wipeR_len]; omega),List.getElem?_eq_none (by rw [wipeR_len]; omega)]
 ·rw [out _ vs i hi]
theorem lc_ok {Γ:Gm}{g:TG}{f:Tg}{t:MB}{me:M}{vs:List Nat}{J:It}{ds acc:List D}{ρ ρ2:Rho}{σ:St}{F H:Hp}{Qd:Addr→Hp→Prop}(hf:∀ D,TgV (Γ.also D) g f vs)(R:Rel Γ ρ σ F H)(w:Wlk Γ.G J F ds)(e:lcD vs f t me ds [] (wipeR ρ vs)=.ok acc ρ2)
  (k:∀ D F' H',Stp Γ ρ σ F H ρ2 σ F' H'→Cell Γ.G F' H' D (.lst acc)→Fresh Γ ρ2 σ F' H' [D]→Qd D H') :
  ∀ D,H D=none→∃ V:Nat→Nat→Hp→Prop,(∃ m,V 0 m (upd H D (.lst [])))∧∀ i m H,V i m H →
   (J.stop i H∧Qd D H)∨(J.go i H∧∃ Nx:Hp→Prop,(∀ H',Nx H'→∃ m',m'<m∧V (i+1) m' H')∧∀ x H',J.yld i H x H'→g x (wipe σ vs) H' fun σ2 H2=>wipe σ2 vs=wipe σ vs∧(∃ D',tMB (Γ.also D') W0 t σ2 H2 fun b H3 =>
    if b=true then (∃ D',tF (Γ.also D') W0 me σ2 H3 fun y H4=>∃ acc,H4 D=some (.lst acc)∧acc.length<sizeLine∧Nx (upd H4 D (.lst (acc++[y])))) else Nx H3)):=by
 intro D hD
 have wl:(wipe σ vs).length=σ.length:=wipe_length σ vs
 have s0:Stp Γ ρ σ F H (wipeR ρ vs) (wipe σ vs) F H:=(Stp.refl R).wipe (fun i hi=>wipe_out hi) wl
 have uD:¬ Γ.U D:=fun z=>by
  obtain ⟨_,u,hu⟩:=R.ali D z; rw [hD] at hu; cases hu
 have nD0:¬ Own Γ (wipeR ρ vs) (wipe σ vs) F H D:=fun ⟨j,z⟩=>by
  obtain ⟨u,hu⟩:=Rel.ownH z; rw [hD] at hu; cases hu
 let St':Nat→Hp→Prop:=fun i H'=>∃ ρ' F' ac av,Stp Γ ρ σ F H ρ' (wipe σ vs) F' H'∧wipeR ρ' vs=ρ'∧H' D=some (.lst av)∧F' D=none∧¬ Own Γ ρ' (wipe σ vs) F' H' D∧DpL Γ.G F' av ac∧lcD vs f t me (ds.drop i) ac ρ'=.ok acc ρ2
 obtain ⟨s0',nD0'⟩:=s0.out (o:=.lst []) hD uD (Same.free R.sub hD) nD0 (okN hD)
 refine ⟨fun i m H'=>m=ds.length-i∧i≤ds.length∧St' i H',⟨ds.length,by simp,Nat.zero_le _,wipeR ρ vs,F,[],[],s0',wipeR_idem ρ vs,upd_same,Same.free R.sub hD,nD0',.nil,by simpa using e⟩,?_⟩
 rintro i m H1 ⟨rfl,hi,ρ1,F1,ac,av,s1,wρ,hD1,fD1,nD1,dp,e1⟩
 have wF:=w.mono s1.subF
 by_cases hlt:i<ds.length
 ·refine .inr ⟨wF.go i H1 s1.rel.sub hlt,St' (i+1),fun H2 q=>⟨ds.length-(i+1),by omega,rfl,hlt,q⟩,fun x H2 y=>?_⟩
  obtain ⟨d,hd,hy⟩:=wF.yld i H1 x H2 s1.rel.sub hlt y
  obtain ⟨F2,al,dpx⟩:=hy F1 (Same.refl _) s1.rel.sub
  have ed:ds.drop i=d::ds.drop (i+1):=by
   rw [List.getElem?_eq_getElem hlt] at hd
   rw [← Option.some.inj hd]
   exact List.drop_eq_getElem_cons hlt
  rw [ed] at e1
  simp only [lcD] at e1
  cases ef:f d ρ1 with
  | none=>rw [ef] at e1; cases e1
  | some ρ3 =>
   rw [ef] at e1
   simp only at e1
   have R1:Rel (Γ.also D) ρ1 (wipe σ vs) F1 H1:=s1.rel.also fD1 hD1 nD1 okU_lst
   have s2:=al.stp R1
   refine hf D x d ρ1 ρ3 (wipe σ vs) F2 H2 _ s2.rel dpx ef fun σ3 s3 w3 l3=>⟨wipe_idem w3 l3,D,ρ3,F2,s3.rel,?_⟩
   have s13:=s2.trans s3
   cases et:t ρ3 with
   | ok b ρ4 =>
    rw [et] at e1
    intro F4 H4 s4
    have s14:=s13.trans s4
    cases b with
    | true =>
     simp only at e1
     simp only [if_true]
     refine ⟨D,ρ4,F4,s4.rel,?_⟩
     cases em:me ρ4 with
     | ok r ρ5 =>
      rw [em] at e1
      simp only at e1
      cases es:settle r.frz ρ5 with
      | none=>rw [es] at e1; cases e1
      | some p =>
       obtain ⟨yd,ρ6⟩:=p
       rw [es] at e1
       simp only at e1
       split at e1
       ·rename_i hz
        intro v F5 H5 s5 hv
        obtain ⟨F6,s6,hd6⟩:=settle_ok s5.rel hv es
        have s16:=(s14.trans s5).trans s6
        obtain ⟨u1,u2,u3,u4⟩:=s16.unalso
        refine ⟨av,by rw [u2]; exact hD1,by rw [dp.length]; exact hz,?_⟩
        have sw:=(s1.trans u1).wipe (vs:=vs) (σ':=wipe σ vs) (fun j hj=>(w3 j hj).symm) l3.symm
        have nO:¬ Own Γ (wipeR ρ6 vs) (wipe σ vs) F6 H5 D:=fun z=>u4 ((u1.rel.wipe (vs:=vs) (σ':=wipe σ vs) (fun j hj=>(w3 j hj).symm) l3.symm).2 D z)
        obtain ⟨so,no⟩:=sw.out (o:=.lst (av++[v])) hD uD u3 nO (okS (by rw [u2]; exact hD1) okU_lst)
        exact ⟨wipeR ρ6 vs,F6,ac++[yd],av++[v],so,wipeR_idem ρ6 vs,upd_same,u3,no,(dp.mono s16.subF).append (.cons hd6 .nil),e1⟩
       ·cases e1
     | exc x ρ5=>rw [em] at e1; cases e1
     | stuck=>rw [em] at e1; cases e1
    | false =>
     simp only at e1
     simp only [Bool.false_eq_true,if_false]
     obtain ⟨u1,u2,u3,u4⟩:=s14.unalso
     have sw:=(s1.trans u1).wipe (vs:=vs) (σ':=wipe σ vs) (fun j hj=>(w3 j hj).symm) l3.symm
     exact ⟨wipeR ρ4 vs,F4,ac,av,sw,wipeR_idem ρ4 vs,by rw [u2]; exact hD1,u3,fun z=>u4 ((u1.rel.wipe (vs:=vs) (σ':=wipe σ vs) (fun j hj=>(w3 j hj).symm) l3.symm).2 D z),dp.mono s14.subF,e1⟩
   | exc x ρ4=>rw [et] at e1; cases e1
   | stuck=>rw [et] at e1; cases e1
 ·have ei:i=ds.length:=by omega
  subst ei
  rw [List.drop_length] at e1
  simp only [lcD,Out.ok.injEq] at e1
  obtain ⟨rfl,rfl⟩:=e1
  have sw:Stp Γ ρ σ F H ρ1 σ F1 H1:=by
   have q:=s1.wipe (vs:=vs) (σ':=σ) (fun j hj=>(wipe_out hj).symm) wl.symm
   rwa [wρ] at q
  refine .inl ⟨wF.stop _ H1 s1.rel.sub (Nat.le_refl _),k D F1 H1 sw ⟨av,hD1,dp⟩ fun b hb=>?_⟩
  obtain rfl:b=D:=by simpa using hb
  refine ⟨fD1,uD,fun z=>?_⟩
  have q:=(s1.rel.wipe (vs:=vs) (σ':=σ) (fun j hj=>(wipe_out hj).symm) wl.symm).2 b
  rw [wρ] at q
  exact nD1 (q z)
def tAB (Γ:Gm)(t:MB):TT:=fun σ H Q=>∃ D,tMB (Γ.also D) W0 t σ H Q
def tAF (Γ:Gm)(m:M):TE:=fun σ H Q=>∃ D,tF (Γ.also D) W0 m σ H Q
section
variable {X:Cx}{Γ:Gm}{W:WX}{elt tg iter:Expr}{ifs:List Expr}{scope:Scope}{own:List (Str×Nat)}{pos spos:Pos}{mi:MI}{g:TG}{f:Tg}{t:MB}{me:M}
theorem mLc_ok (hf:∀ D,TgV (Γ.also D) g f (own.map (·.2))):∀ σ H Q,tM Γ W (mLc (own.map (·.2)) mi f t me) σ H Q→tLc (iM Γ W mi) g (tAB Γ t) (tAF Γ me) (own.map (·.2)) σ H Q:=fun σ H Q ⟨ρ,F,R,p⟩=>by
 refine ⟨ρ,F,R,?_⟩
 unfold mLc at p
 cases e:mi ρ with
 | ok ds ρ1 =>
  rw [e] at p
  simp only [bindO] at p
  intro J F1 H1 s1 w
  split at p
  ·rename_i acc ρ2 el
   exact lc_ok (Qd:=fun D H'=>Q (.ref D) H') hf s1.rel w el fun D F' H' s2 c fr=>p _ F' H' (s1.trans s2) ⟨D,[D],rfl,.flat c,fr⟩
  ·exact p.elim
 | exc x ρ1=>rw [e] at p; exact p
 | stuck=>rw [e] at p; exact p.elim
def mYes:MB:=fun ρ=>.ok true ρ
theorem _root_.L2.PTs.imp {X:Cx}{e:List Expr}{t t':TT}(h:PTs X e t)(i:∀ σ H Q,t' σ H Q→t σ H Q):PTs X e t':=⟨fun pins s σ H Q I q=>h.run pins s σ H Q I (i _ _ _ q)⟩
theorem jts_nil {X:Cx}{Γ:Gm}:PTs X [] (tMB Γ W0 mYes):=pts_nil.imp fun σ H Q ⟨ρ,F,R,p⟩=>p F H (.refl R)
theorem jts_one {X:Cx}{Γ:Gm}{c:Expr}{t:MB}(h:PT X c (tMB Γ W0 t)):PTs X [c] (tMB Γ W0 t):=pts_one h
theorem pts_any {X:Cx}{Γ:Gm}{ifs:List Expr}{t:MB}(h:∀ D,PTs X ifs (tMB (Γ.also D) W0 t)):PTs X ifs (tAB Γ t):=⟨fun pins s σ H Q I ⟨D,q⟩=>(h D).run pins s σ H Q I q⟩
theorem pe_any {X:Cx}{Γ:Gm}{e:Expr}{m:M}(h:∀ D,PE X e (tM (Γ.also D) W0 m)):PE X e (tAF Γ m):=⟨fun pins s σ H Q I ⟨D,q⟩=>(je_f (h D)).run pins s σ H Q I q⟩
theorem je_lc (hc:X.calm=true)(hN:X.N.Nodup)(hi:PI X tg iter (iM Γ W mi))(ok:BlkOk X.N X.env.scope scope own)(hf:∀ D,TgV (Γ.also D) g f (own.map (·.2)))
  (hg:∀ (s:Shared) (H:Hp) (C:Addr) (cl:List (Str×Addr)) (fp:List Addr),PG (X.blk s H scope (compEnvC scope cl C X.env) fp) tg g) (ht:∀ (D:Addr) (s:Shared) (H:Hp) (C:Addr) (cl:List (Str×Addr)) (fp:List Addr),PTs (X.blk s H scope (compEnvC scope cl C X.env) fp) ifs (tMB (Γ.also D) W0 t))
  (he:∀ (D:Addr) (s:Shared) (H:Hp) (C:Addr) (cl:List (Str×Addr)) (fp:List Addr),PE (X.blk s H scope (compEnvC scope cl C X.env) fp) elt (tM (Γ.also D) W0 me)) (hs:∀ x,foldedSetIterable iter X.env x=pure x:=by intro _; rfl) :
  PE X (.ListComp elt [⟨tg,iter,ifs,0⟩] scope pos) (tM Γ W (mLc (own.map (·.2)) mi f t me)) :=
 (pe_lc hc hN hi ok hg (fun s H C cl fp=>pts_any fun D=>ht D s H C cl fp) (fun s H C cl fp=>pe_any fun D=>he D s H C cl fp) hs).imp (mLc_ok hf)
theorem js_setLc {i:Nat}{y:Str}{py:Pos}(hc:X.calm=true)(hN:X.N.Nodup)(hyl:X.env.scope.names.lookup y=some .local)
  (hsw:swapsWith (.ListComp elt [⟨tg,iter,ifs,0⟩] scope pos) (some (.Name y py)) spos.line X.env=pure true) (hi:PI X tg iter (iM Γ W mi)) (ok:BlkOk X.N X.env.scope scope own) (hf:∀ D,TgV (Γ.also D) g f (own.map (·.2)))
  (hg:∀ (s:Shared) (H:Hp) (C:Addr) (cl:List (Str×Addr)) (fp:List Addr),PG (X.blk s H scope (compEnvC scope cl C X.env) fp) tg g) (ht:∀ (D:Addr) (s:Shared) (H:Hp) (C:Addr) (cl:List (Str×Addr)) (fp:List Addr),PTs (X.blk s H scope (compEnvC scope cl C X.env) fp) ifs (tMB (Γ.also D) W0 t))
  (he:∀ (D:Addr) (s:Shared) (H:Hp) (C:Addr) (cl:List (Str×Addr)) (fp:List Addr),PE (X.blk s H scope (compEnvC scope cl C X.env) fp) elt (tM (Γ.also D) W0 me)) (hy:X.N[i]?=some y:=by rfl) (hs:∀ x,foldedSetIterable iter X.env x=pure x:=by intro _; rfl) :
  PS X (.Assign [.Name y py] (.ListComp elt [⟨tg,iter,ifs,0⟩] scope pos) spos) (tMS Γ W (mSet i (mLc (own.map (·.2)) mi f t me))) :=
 (ps_setLc hc hN hy hyl hsw hi ok hg (fun s H C cl fp=>pts_any fun D=>ht D s H C cl fp) (fun s H C cl fp=>pe_any fun D=>he D s H C cl fp) hs).imp fun D σ H ⟨ρ,F,R,p⟩=>mLc_ok hf σ H _ ⟨ρ,F,R,p.bindM fun r ρ1 v F1 H1 s1 hr p1=>set_go s1 hr p1⟩
end
def OrC (r r':List V→Hp→VK→Prop):List V→Hp→VK→Prop:=fun xs H Q=>r xs H Q∨r' xs H Q
def orC (f g:List D→Option Res):List D→Option Res:=fun a=>match f a with
 | some r=>some r
 | none=>g a
theorem CallOk.or {G:Gx}{r r':List V→Hp→VK→Prop}{f g:List D→Option Res}(h:CallOk G r f)(h':CallOk G r' g):CallOk G (OrC r r') (orC f g):=fun F H xs ds res Q e v q k=>by
 unfold orC at q
 split at q
 ·rename_i z w
  cases q
  exact .inl (h F H xs ds _ Q e v w k)
 ·exact .inr (h' F H xs ds res Q e v q k)
theorem Views.one {G:Gx}{F H:Hp}{xs:List V}{d:D}(v:Views G F H xs [d]):∃ x,xs=[x]∧View G F H x d:=by
 cases v with | cons h t=>cases t; exact ⟨_,rfl,h⟩
theorem Views.two {G:Gx}{F H:Hp}{xs:List V}{d e:D}(v:Views G F H xs [d,e]):∃ x y,xs=[x,y]∧View G F H x d∧View G F H y e:=by
 cases v with | cons h t=>cases t with | cons h2 t=>cases t; exact ⟨_,_,rfl,h,h2⟩
def lenN:D→Option Nat
 | .str z=>if z.length≤sizeLine then some z.length else none
 | .lst xs=>some xs.length
 | .tup xs=>some xs.length
 | .scr xs=>some xs.length
 | .dct xs=>some xs.length
 | _=>none
def lenD:List D→Option Res
 | [d]=>(lenN d).map fun n=>.val (.int (n:Nat))
 | _=>none
def rLenD (K:PySem.W.Frag):List V→Hp→VK→Prop:=OrC (fun xs H Q=>∃ x n,xs=[x]∧LenV K x H n∧Q (.int n) H) (fun xs H Q=>∃ a kvs,xs=[V.ref a]∧H a=some (.dK kvs)∧Q (.int kvs.length) H)
theorem call_lenAll {X:Cx}:CallR X (.builtin "len") (rLenD X.K):=call_len.or call_lenD
theorem lenD_ok {G:Gx}:CallOk G (rLenD G.K) lenD:=by
 intro F H xs ds res Q e v q k
 unfold lenD at q
 split at q
 ·rename_i d
  obtain ⟨n,h,rfl⟩:=Option.map_eq_some_iff.mp q
  obtain ⟨x,rfl,vx⟩:=v.one
  have kk:=fun (m:Nat) (h:m=n)=>k (.int (m:Nat)) F H (.refl e) (by rw [h]; exact .int _)
  cases d with
  | str z =>
   simp only [lenN] at h
   split at h
   ·cases h; exact .inl ⟨_,_,rfl,by rw [vx.str]; exact ⟨by assumption,rfl⟩,kk _ rfl⟩
   ·cases h
  | lst xs =>
   simp only [lenN,Option.some.injEq] at h
   obtain ⟨a,vs,rfl,h1,t⟩:=vx.lst e
   exact .inl ⟨_,_,rfl,.inl ⟨vs,SqL.of h1,rfl⟩,kk _ (by rw [t.length]; exact h)⟩
  | tup xs =>
   simp only [lenN,Option.some.injEq] at h
   obtain ⟨a,vs,rfl,h1,t⟩:=vx.tup e
   exact .inl ⟨_,_,rfl,.inr ⟨vs,h1,rfl⟩,kk _ (by rw [t.length]; exact h)⟩
  | scr xs =>
   simp only [lenN,Option.some.injEq] at h
   obtain ⟨a,rfl,h1⟩:=vx.scr e
   exact .inl ⟨_,_,rfl,.inl ⟨_,h1,rfl⟩,kk _ (by simpa using h)⟩
  | dct xs =>
   simp only [lenN,Option.some.injEq] at h
   obtain ⟨a,vs,rfl,h1,t⟩:=vx.dct e
   exact .inr ⟨_,_,rfl,h1,kk _ (by rw [t.length]; exact h)⟩
  | _=>simp [lenN] at h
 ·cases q
def intD:List D→Option Res
 | [.int i]=>some (.val (.int i))
 | [.bl b]=>some (.val (.int (if b then 1 else 0)))
 | _=>none
theorem intD_ok {G:Gx}:CallOk G (fun xs H Q=>(∃ i,xs=[.int i]∧Q (.int i) H)∨∃ k,xs=[.bl k]∧Q (.int (if k then 1 else 0)) H) intD:=by
 intro F H xs ds res Q e v q k
 unfold intD at q
 split at q
 ·rename_i i
  cases q
  obtain ⟨x,rfl,vx⟩:=v.one
  exact .inl ⟨i,by rw [vx.int],k _ F H (.refl e) (.int _)⟩
 ·rename_i b
  cases q
  obtain ⟨x,rfl,vx⟩:=v.one
  exact .inr ⟨b,by rw [vx.bl],k _ F H (.refl e) (.int _)⟩
 ·cases q
def fI2 (g:Int→Int→Int):List D→Option Res
 | [.int i,.int j]=>some (.val (.int (g i j)))
 | _=>none
theorem fI2_ok {G:Gx}{g:Int→Int→Int}:CallOk G (fun xs H Q=>∃ i j,xs=[.int i,.int j]∧Q (.int (g i j)) H) (fI2 g):=by
 intro F H xs ds res Q e v q k
 unfold fI2 at q
 split at q
 ·rename_i i j
  cases q
  obtain ⟨x,y,rfl,vx,vy⟩:=v.two
  exact ⟨i,j,by rw [vx.int,vy.int],k _ F H (.refl e) (.int _)⟩
 ·cases q
def maxD:List D→Option Res:=fI2 fun i j=>if j>i then j else i
def minD:List D→Option Res:=fI2 fun i j=>if j<i then j else i
def absD:List D→Option Res
 | [.int i]=>some (.val (.int (if i<0 then -i else i)))
 | _=>none
theorem absD_ok {G:Gx}:CallOk G (fun xs H Q=>∃ i,xs=[.int i]∧Q (.int (if i<0 then -i else i)) H) absD:=by
 intro F H xs ds res Q e v q k
 unfold absD at q
 split at q
 ·rename_i i
  cases q
  obtain ⟨x,rfl,vx⟩:=v.one
  exact ⟨i,by rw [vx.int],k _ F H (.refl e) (.int _)⟩
 ·cases q
def blsD:List D→Option (List Bool)
 | []=>some []
 | .bl b::ds=>(blsD ds).map (b::·)
 | _=>none
theorem bls_ok {G:Gx}{F:Hp}:∀ {vs:List V} {ds:List D} {bs:List Bool},DpL G F vs ds→blsD ds=some bs→vs=bs.map V.bl
 | _,_,_,.nil,e=>by simp only [blsD,Option.some.injEq] at e; subst e; rfl
 | _,_,_,.cons (d:=d) h t,e=>by
  cases d with
  | bl b =>
   simp only [blsD,Option.map_eq_some_iff] at e
   obtain ⟨bs,e1,rfl⟩:=e
   cases h
   simp [bls_ok t e1]
  | _=>simp [blsD] at e
def intsD:List D→Option (List Int)
 | []=>some []
 | .int b::ds=>(intsD ds).map (b::·)
 | _=>none
theorem ints_ok {G:Gx}{F:Hp}:∀ {vs:List V} {ds:List D} {bs:List Int},DpL G F vs ds→intsD ds=some bs→vs=bs.map V.int
 | _,_,_,.nil,e=>by simp only [intsD,Option.some.injEq] at e; subst e; rfl
 | _,_,_,.cons (d:=d) h t,e=>by
  cases d with
  | int b =>
   simp only [intsD,Option.map_eq_some_iff] at e
   obtain ⟨bs,e1,rfl⟩:=e
   cases h
   simp [ints_ok t e1]
  | _=>simp [intsD] at e
def allD:List D→Option Res
 | [.lst ds]=>(blsD ds).map fun bs=>.val (.bl (bs.all id))
 | _=>none
def anyD:List D→Option Res
 | [.lst ds]=>(blsD ds).map fun bs=>.val (.bl (bs.any id))
 | _=>none
def sumD:List D→Option Res
 | [.lst ds]=>(intsD ds).map fun bs=>.val (.int bs.sum)
 | _=>none
theorem allD_ok {G:Gx}:CallOk G (rAll G.K) allD:=by
 intro F H xs ds res Q e v q k
 unfold allD at q
 split at q
 ·rename_i ds
  obtain ⟨bs,h,rfl⟩:=Option.map_eq_some_iff.mp q
  obtain ⟨x,rfl,vx⟩:=v.one
  obtain ⟨a,vs,rfl,h1,t⟩:=vx.lst e
  exact ⟨a,bs,rfl,by rw [← bls_ok t h]; exact SqL.of h1,k _ F H (.refl e) (.bl _)⟩
 ·cases q
theorem anyD_ok {G:Gx}:CallOk G (rAny G.K) anyD:=by
 intro F H xs ds res Q e v q k
 unfold anyD at q
 split at q
 ·rename_i ds
  obtain ⟨bs,h,rfl⟩:=Option.map_eq_some_iff.mp q
  obtain ⟨x,rfl,vx⟩:=v.one
  obtain ⟨a,vs,rfl,h1,t⟩:=vx.lst e
  exact ⟨a,bs,rfl,by rw [← bls_ok t h]; exact SqL.of h1,k _ F H (.refl e) (.bl _)⟩
 ·cases q
theorem sumD_ok {G:Gx}:CallOk G (rSum G.K) sumD:=by
 intro F H xs ds res Q e v q k
 unfold sumD at q
 split at q
 ·rename_i ds
  obtain ⟨bs,h,rfl⟩:=Option.map_eq_some_iff.mp q
  obtain ⟨x,rfl,vx⟩:=v.one
  obtain ⟨a,vs,rfl,h1,t⟩:=vx.lst e
  exact ⟨a,bs,rfl,by rw [← ints_ok t h]; exact SqL.of h1,k _ F H (.refl e) (.int _)⟩
 ·cases q
def listD:List D→Option Res
 | [.lst xs]=>some (.new (.lst xs))
 | [.tup xs]=>some (.new (.lst xs))
 | [.scr ns]=>some (.new (.lst (ns.map D.int)))
 | _=>none
def tupleD:List D→Option Res
 | [.lst xs]=>some (.val (.tup xs))
 | [.tup xs]=>some (.val (.tup xs))
 | _=>none
theorem listD_ok {G:Gx}:CallOk G (fun xs H Q=>∃ p ys,xs=[.ref p]∧(SqL G.K H p ys∨SqT G.K H p ys)∧∀ l,H l=none→Q (.ref l) (upd H l (.lst ys))) listD:=by
 intro F H xs ds res Q e v q k
 unfold listD at q
 split at q
 ·rename_i ds
  cases q
  obtain ⟨x,rfl,vx⟩:=v.one
  obtain ⟨a,vs,rfl,h1,t⟩:=vx.lst e
  exact ⟨a,vs,rfl,.inl (SqL.of h1),fun l hl=>k _ F _ (.cell e hl) ⟨l,rfl,Same.free e hl,⟨_,upd_same,t⟩,hl⟩⟩
 ·rename_i ds
  cases q
  obtain ⟨x,rfl,vx⟩:=v.one
  obtain ⟨a,vs,rfl,h1,t⟩:=vx.tup e
  exact ⟨a,vs,rfl,.inr h1,fun l hl=>k _ F _ (.cell e hl) ⟨l,rfl,Same.free e hl,⟨_,upd_same,t⟩,hl⟩⟩
 ·rename_i ns
  cases q
  obtain ⟨x,rfl,vx⟩:=v.one
  obtain ⟨a,rfl,h1⟩:=vx.scr e
  exact ⟨a,_,rfl,.inl h1,fun l hl=>k _ F _ (.cell e hl) ⟨l,rfl,Same.free e hl,⟨_,upd_same,ints_dpl _⟩,hl⟩⟩
 ·cases q
theorem tupleD_ok {G:Gx}:CallOk G (fun xs H Q=>∃ p ys,xs=[.ref p]∧((SqL G.K H p ys∧∀ l,H l=none→Q (.ref l) (upd H l (.tup ys)))∨(SqT G.K H p ys∧Q (.ref p) H))) tupleD:=by
 intro F H xs ds res Q e v q k
 unfold tupleD at q
 split at q
 ·rename_i ds
  cases q
  obtain ⟨x,rfl,vx⟩:=v.one
  obtain ⟨a,vs,rfl,h1,t⟩:=vx.lst e
  exact ⟨a,vs,rfl,.inl ⟨SqL.of h1,fun l hl=>k _ _ _ (.tup e hl) (.tup (SqT.of upd_same) (t.mono (Alc.tup e hl).subF))⟩⟩
 ·rename_i ds
  cases q
  obtain ⟨x,rfl,vx⟩:=v.one
  have vx':=vx
  obtain ⟨a,vs,rfl,h1,t⟩:=vx.tup e
  refine ⟨a,vs,rfl,.inr ⟨h1,k _ F H (.refl e) ?_⟩⟩
  rcases vx' with h | ⟨_,_,_,c⟩
  ·exact h
  ·cases c with | flat c=>exact c.elim
 ·cases q
def tyN:D→Option String
 | .non=>some "NoneType"
 | .bl _=>some "bool"
 | .int _=>some "int"
 | .str _=>some "str"
 | .lst _=>some "list"
 | .tup _=>some "tuple"
 | .dct _=>some "dict"
 | _=>none
theorem sqT_ty {K:PySem.W.Frag}{H:Hp}{a:Addr}{vs:List V}(h:SqT K H a vs):TyX K H (.ref a) (.type "tuple"):=by
 rcases h with (h | ⟨o,h⟩) | ⟨o,its,n,h1,h2,_⟩
 ·exact .base (.tup h)
 ·exact .fTuple h
 ·exact .kTuple h1 h2
theorem tyN_ok {G:Gx}{F H:Hp}{x:V}{d:D}{t:String}(e:Same F H)(v:View G F H x d)(q:tyN d=some t):TyX G.K H x (.type t):=by
 cases d with
 | non=>cases q; rw [v.non]; exact .base .non
 | bl b=>cases q; rw [v.bl]; exact .base (.bl b)
 | int b=>cases q; rw [v.int]; exact .base (.int b)
 | str b=>cases q; rw [v.str]; exact .base (.str b)
 | lst b=>cases q; obtain ⟨a,vs,rfl,h1,_⟩:=v.lst e; exact .base (.lst h1)
 | tup b=>cases q; obtain ⟨a,vs,rfl,h1,_⟩:=v.tup e; exact sqT_ty h1
 | dct b=>cases q; obtain ⟨a,vs,rfl,h1,_⟩:=v.dct e; exact .base (.dK h1)
 | _=>cases q
def isiT:String→String→Option Bool
 | "bool", "int"=>some true
 | a,b=>if a∈["NoneType", "bool", "int", "str", "list", "tuple", "dict"]∧b∈["bool", "int", "str", "list", "tuple", "dict"] then some (a==b) else none
theorem isiT_ok {K:PySem.W.Frag}{a b:String}{r:Bool}(h:isiT a b=some r):PySem.W.kitOne K (.type a) (.type b)=some r:=by
 refine kit_ty ?_
 have key:∀ a∈["NoneType", "bool", "int", "str", "list", "tuple", "dict"],∀ b∈["bool", "int", "str", "list", "tuple", "dict"],kitB a b=some (if a = "bool"∧b = "int" then true else a==b):=by decide +kernel
 unfold isiT at h
 split at h
 ·rw [key "bool" (by decide) "int" (by decide)]; simpa using h
 ·rename_i hn
  split at h
  ·rename_i w
   rw [key a w.1 b w.2,← h]
   have:¬ (a = "bool"∧b = "int"):=fun z=>hn z.1 z.2
   simp [this]
  ·cases h
structure TabOk (G:Gx)(T:Tab):Prop where
 base:∀ c,c<T.n→∀ t∈baseT,PySem.W.kitOne G.K (.type t) (.ref (G.cl c))=some false
 own:∀ c,c<T.n→∀ c',c'<T.n→PySem.W.kitOne G.K (.ref (G.cl c)) (.ref (G.cl c'))=some (T.sub c c')
 blt:∀ c,c<T.n→∀ t∈T.tys,PySem.W.kitOne G.K (.ref (G.cl c)) (.type t)=some (T.subB c t)
 cls:∀ c,c<T.n→Cls G.K (G.cl c)
 ha:∀ c,c<T.n→PySem.W.findIn G.K (.ref (G.cl c)) "__class__"=some (some (.builtin "object.__class__"))
 hn:0<T.n→PySem.W.specialIn G.K (.builtin "object.__class__") "__get__"=some (some (.builtin "getset_descriptor.__get__"))
 htk:0<T.n→PySem.W.takesIn G.K (.builtin "object.__class__")=some true
 hm:∀ c,c<T.n→PySem.W.mroIn G.K (G.cl c) (.type "object")=some true
 fld:∀ c,c<T.n→∀ f∈T.flds c,NoAttr G.K (G.cl c) f
def isi1 (T:Tab)(x c:D):Option Bool:=match x,c with
 | .obj k _,.ty n=>if k<T.n∧n∈T.tys then some (T.subB k n) else none
 | .obj k _,.cls c=>if k<T.n∧c<T.n then some (T.sub k c) else none
 | x,.ty n=>(tyN x).bind fun t=>isiT t n
 | x,.cls c=>if c<T.n then (tyN x).map fun _=>false else none
 | _,_=>none
def isiAny (T:Tab)(x:D):List D→Option Bool
 | []=>some false
 | c::cs=>match isi1 T x c with
  | some true=>some true
  | some false=>isiAny T x cs
  | none=>none
theorem tyN_base {d:D}{t:String}(h:tyN d=some t):t∈baseT:=by
 cases d <;> simp [tyN] at h <;> subst h <;> decide
def tyVal (G:Gx):D→Option Value
 | .obj c _=>some (.ref (G.cl c))
 | d=>(tyN d).map .type
def clsVal (G:Gx):D→Option Value
 | .ty n=>some (.type n)
 | .cls c=>some (.ref (G.cl c))
 | _=>none
theorem clsVal_ok {G:Gx}{F H:Hp}{x:V}{c:D}{u:Value}(h:Dp G F x c)(e:clsVal G c=some u):ClsV x u:=by
 cases c with
 | ty n=>cases e; cases h; exact .ty n
 | cls n=>cases e; cases h; exact .own _
 | _=>cases e
theorem isi1_ok {G:Gx}{T:Tab}(O:TabOk G T){F H:Hp}{x:V}{d c:D}{b:Bool}(s:Same F H)(v:View G F H x d)(e:isi1 T d c=some b):∃ t u,TyX G.K H x t∧tyVal G d=some t∧clsVal G c=some u∧PySem.W.kitOne G.K t u=some b:=by
 have tyobj:∀ {k:Nat} {fs:List (Str×D)},View G F H x (.obj k fs)→k<T.n→TyX G.K H x (.ref (G.cl k)):=fun {k fs} v hk=>by
  obtain ⟨a,dx,vs,rfl,h1,_⟩:=v.obj s
  exact .base (.ins h1 (O.cls k hk) (O.ha k hk) (O.hn (by omega)) (O.htk (by omega)) (O.hm k hk))
 unfold isi1 at e
 split at e
 ·rename_i k fs n
  split at e
  ·rename_i w
   cases e
   exact ⟨_,_,tyobj v w.1,rfl,rfl,O.blt k w.1 n w.2⟩
  ·cases e
 ·rename_i k fs c
  split at e
  ·rename_i w
   cases e
   exact ⟨_,_,tyobj v w.1,rfl,rfl,O.own k w.1 c w.2⟩
  ·cases e
 ·rename_i n hno
  obtain ⟨t,h1,h2⟩:=Option.bind_eq_some_iff.mp e
  refine ⟨_,_,tyN_ok s v h1,?_,rfl,isiT_ok h2⟩
  cases d <;> simp [tyVal,tyN] at h1 ⊢ <;> exact h1
 ·rename_i c hno
  split at e
  ·rename_i w
   obtain ⟨t,h1,rfl⟩:=Option.map_eq_some_iff.mp e
   refine ⟨_,_,tyN_ok s v h1,?_,rfl,O.base c w t (tyN_base h1)⟩
   cases d <;> simp [tyVal,tyN] at h1 ⊢ <;> exact h1
  ·cases e
 ·cases e
def clsVals (G:Gx):List D→Option (List Value)
 | []=>some []
 | c::cs=>match clsVal G c,clsVals G cs with
  | some u,some us=>some (u::us)
  | _,_=>none
theorem clsVals_ok {G:Gx}{F H:Hp}:∀ {ws:List V} {cs:List D} {us:List Value},DpL G F ws cs→clsVals G cs=some us→Paired ClsV ws us
 | _,_,_,.nil,e=>by simp only [clsVals,Option.some.injEq] at e; subst e; exact .nil
 | _,_,_,.cons h t,e=>by
  simp only [clsVals] at e
  split at e
  ·rename_i u us e1 e2
   cases e
   exact .cons (clsVal_ok (F:=F) (H:=H) h e1) (clsVals_ok (H:=H) t e2)
  ·cases e
theorem kitAny_of {G:Gx}{T:Tab}(O:TabOk G T){F H:Hp}{x:V}{d:D}(s:Same F H)(v:View G F H x d):∀ {cs:List D} {us:List Value} {b:Bool} {t:Value},cs≠[]→clsVals G cs=some us→isiAny T d cs=some b→tyVal G d=some t→TyX G.K H x t∧PySem.W.kitAny G.K t us=some b
 | [],_,_,_,h,_,_,_=>absurd rfl h
 | c::cs,us,b,t,_,e,q,ty=>by
  simp only [clsVals] at e
  split at e
  ·rename_i u us' e1 e2
   cases e
   simp only [isiAny] at q
   cases hi:isi1 T d c with
   | none=>rw [hi] at q; cases q
   | some b1 =>
    obtain ⟨t',u',X1,X2,X3,X4⟩:=isi1_ok O s v hi
    rw [ty] at X2; cases X2
    rw [e1] at X3; cases X3
    refine ⟨X1,kitAny_cons X4 (fun z=>?_) fun z=>?_⟩
    ·subst z
     rw [hi] at q
     simp only at q
     cases cs with
     | nil=>simp only [clsVals,Option.some.injEq] at e2; subst e2; simp only [isiAny,Option.some.injEq] at q; subst q; rfl
     | cons c2 cs2=>exact (kitAny_of O s v (by simp) e2 q ty).2
    ·subst z
     rw [hi] at q
     simp only [Option.some.injEq] at q
     exact q.symm
  ·cases e
theorem clsVals_some {G:Gx}{T:Tab}{d:D}:∀ {cs:List D},(∀ c∈cs,(clsVal G c).isSome)→∃ us,clsVals G cs=some us
 | [],_=>⟨[],rfl⟩
 | c::cs,h=>by
  obtain ⟨us,e⟩:=clsVals_some (T:=T) (d:=d) (cs:=cs) fun c' hc=>h c' (List.mem_cons_of_mem _ hc)
  obtain ⟨u,e1⟩:=Option.isSome_iff_exists.mp (h c (List.mem_cons_self ..))
  exact ⟨u::us,by simp [clsVals,e,e1]⟩
def isCls:D→Bool
 | .ty _=>true
 | .cls _=>true
 | _=>false
def isiD' (T:Tab):List D→Option Res
 | [x,.tup cs]=>if cs.all isCls&&!cs.isEmpty then (isiAny T x cs).map fun b=>.val (.bl b) else none
 | [x,c]=>(isi1 T x c).map fun b=>.val (.bl b)
 | _=>none
def rIsiS (K:PySem.W.Frag):List V→Hp→VK→Prop:=fun xs H Q=>∃ (x:V) (tp:Addr) (cs:List V) (t:Value) (us:List Value) (b:Bool),xs=[x,.ref tp]∧SqT K H tp cs∧Paired ClsV cs us∧TyX K H x t∧PySem.W.kitAny K t us=some b∧Q (.bl b) H
theorem call_isiS {X:Cx}:CallR X (.builtin "isinstance") (rIsiS X.K):=by
 intro pins s σ H xs us Q I r h
 obtain ⟨x,tp,cs,t,ws,b,rfl,hT,k,ty,e,q⟩:=h
 obtain ⟨u1,u2,rfl,r1,r2⟩:=vals2 r
 cases (show u2=Value.ref tp from r2)
 obtain ⟨P,Z,p,hx⟩:=kit_of I r1 ty
 obtain ⟨its,rv,⟨o,h1,h2,n,h3⟩,_⟩:=I.tuple hT
 have e3:=ClsV.all k rv
 subst e3
 obtain ⟨oc,od,dt,sl⟩:=o
 simp only at h2 h3
 subst h2 h3
 exact PySem.W.kia_tup Z I.kIn p h1 e hx fun tk=>⟨.bl b,H,I.tok tk,rfl,q⟩
theorem call_isiAll {X:Cx}:CallR X (.builtin "isinstance") (OrC (rIsi X.K) (rIsiS X.K)):=call_isi.or call_isiS
theorem isiD_ok {G:Gx}{T:Tab}(O:TabOk G T):CallOk G (OrC (rIsi G.K) (rIsiS G.K)) (isiD' T):=by
 intro F H xs ds res Q e v q k
 unfold isiD' at q
 split at q
 ·rename_i x cs
  split at q
  ·rename_i w
   have w:=Bool.and_eq_true_iff.mp w
   obtain ⟨b,h,rfl⟩:=Option.map_eq_some_iff.mp q
   obtain ⟨vx,vc,rfl,hx,hc⟩:=v.two
   obtain ⟨tp,ws,rfl,hT,t⟩:=hc.tup e
   have hall:∀ c∈cs,(clsVal G c).isSome:=fun c hm=>by
    have z:=List.all_eq_true.mp w.1 c hm
    cases c <;> simp [isCls] at z <;> simp [clsVal]
   obtain ⟨us,eu⟩:=clsVals_some (T:=T) (d:=x) hall
   have hne:cs≠[]:=by intro z; subst z; simp at w
   have:∃ tv,tyVal G x=some tv:=by
    cases cs with
    | nil=>exact absurd rfl hne
    | cons c cs' =>
     simp only [isiAny] at h
     cases hi:isi1 T x c with
     | none=>rw [hi] at h; cases h
     | some b1=>obtain ⟨t',u',_,X2,_⟩:=isi1_ok O e hx hi; exact ⟨t',X2⟩
   obtain ⟨tv,et⟩:=this
   obtain ⟨ty,ka⟩:=kitAny_of O e hx hne eu h et
   exact .inr ⟨vx,tp,ws,tv,us,b,rfl,hT,clsVals_ok (H:=H) t eu,ty,ka,k _ F H (.refl e) (.bl _)⟩
  ·cases q
 ·rename_i x c hno
  obtain ⟨b,h,rfl⟩:=Option.map_eq_some_iff.mp q
  obtain ⟨vx,vc,rfl,hx,hc⟩:=v.two
  obtain ⟨t,u,X1,X2,X3,X4⟩:=isi1_ok O e hx h
  have hd:Dp G F vc c:=by
   rcases hc with hc | ⟨a,L,r,cl⟩
   ·exact hc
   ·cases cl with
    | flat cl=>cases c <;> first | exact cl.elim | simp [clsVal] at X3
    | _=>simp [clsVal] at X3
  exact .inl ⟨vx,vc,t,u,b,rfl,clsVal_ok (H:=H) hd X3,X1,X4,k _ F H (.refl e) (.bl _)⟩
 ·cases q
theorem Rel.chg {Γ:Gm}{ρ:Rho}{σ:St}{F H H':Hp}{i:Nat}{b:Option Nat}{d d':D}{a:Addr}{L L':List Addr}(R:Rel Γ ρ σ F H)(q:ρ[i]?=some (some (.own b d)))(hs:σ[i]?=some (some (.ref a)))(c:Ct Γ.G F H a d L)
  (kp:∀ c,c∉L→∀ o,H c=some o→H' c=some o) (th:∀ c o,H c=some o→∃ o',H' c=some o') (c':Ct Γ.G F H' a d' L') (sb:∀ c∈L',c∈L∨(F c=none∧¬ Γ.U c∧¬ Own Γ ρ σ F H c)):Stp Γ ρ σ F H (ρ.set i (some (.own b d'))) σ F H':=by
 obtain ⟨a',L0,z,c0,hb,ow⟩:=R.slotO q hs
 cases z
 obtain rfl:=c0.uniq c
 have il:=lt_of_get q
 have nin:∀ j,j≠i→∀ e,OwnAt Γ ρ σ F H j e→e∉L0:=fun j hj e o z=>hj (R.inj j i e o (ow e z))
 have kj:∀ j,j≠i→∀ e,OwnAt Γ ρ σ F H j e→∀ o,H e=some o→H' e=some o:=fun j hj e o u w=>kp e (nin j hj e o) u w
 have me:SlotOk Γ F H' (.ref a) L' (.own b d'):=⟨a,rfl,c',hb⟩
 have bk:∀ j e,OwnAt Γ (ρ.set i (some (.own b d'))) σ F H' j e→(j=i∧e∈L')∨(j≠i∧OwnAt Γ ρ σ F H j e):=fun j e o=>by
  by_cases z:j=i
  ·subst z; exact .inl ⟨rfl,o.of (by rw [List.getElem?_set_self il]) hs me⟩
  ·exact .inr ⟨z,own_back R (Same.refl _) j (fun s w=>by rwa [List.getElem?_set_ne (Ne.symm z)] at w) rfl (kj j z) o⟩
 have uL:∀ e,Γ.U e→e∉L0:=fun e h z=>(R.own i e (ow e z)).2 h
 refine ⟨⟨fun e u w=>kp e (fun z=>by rw [(R.own i e (ow e z)).1] at w; cases w) u (R.sub e u w),fun j s w=>?_,fun j k e o1 o2=>?_,fun j e o=>?_,by simp [R.len],R.inv,fun e h=>?_,tab_chg R.tab.on fun e u w z=>kp e (fun y=>by
  obtain ⟨u',w',q'⟩:=Ct.okU c0 e y
  rw [w] at w'; cases w'
  exact q'.not z) u w,R.tab.off,R.tab.fr⟩,Same.refl _,fun e h=>?_,th⟩
 ·rcases get_set w with ⟨e,e2,_⟩ | ⟨e,w⟩
  ·subst e; cases e2; exact ⟨_,L',hs,me⟩
  ·exact slot_keep R (Same.refl _) j w rfl (kj j (Ne.symm e))
 ·rcases bk j e o1 with ⟨e1,m1⟩ | ⟨e1,m1⟩
  ·rcases bk k e o2 with ⟨e2,m2⟩ | ⟨e2,m2⟩
   ·rw [e1,e2]
   ·rcases sb e m1 with z | z
    ·exact absurd z (nin k e2 e m2)
    ·exact absurd ⟨k,m2⟩ z.2.2
  ·rcases bk k e o2 with ⟨e2,m2⟩ | ⟨e2,m2⟩
   ·rcases sb e m2 with z | z
    ·exact absurd z (nin j e1 e m1)
    ·exact absurd ⟨j,m1⟩ z.2.2
   ·exact R.inj j k e m1 m2
 ·rcases bk j e o with ⟨e1,m1⟩ | ⟨e1,m1⟩
  ·rcases sb e m1 with z | z
   ·exact R.own i e (ow e z)
   ·exact ⟨z.1,z.2.1⟩
  ·exact R.own j e m1
 ·obtain ⟨h1,o,h2⟩:=R.ali e h
  exact ⟨h1,o,kp e (uL e h) o h2⟩
 ·obtain ⟨h1,o,h2⟩:=R.ali e h
  rw [h2,kp e (uL e h) o h2]
def flatD:D→Bool
 | .lst _=>true
 | .dct _=>true
 | .obj _ _=>true
 | .dctN _=>true
 | _=>false
theorem Ct.cell {G:Gx}{F H:Hp}{a:Addr}{d:D}{L:List Addr}(c:Ct G F H a d L)(h:flatD d=true):Cell G F H a d∧L=[a]:=by
 cases c with
 | flat c=>exact ⟨c,rfl⟩
 | _=>cases h
theorem Rel.upd {Γ:Gm}{ρ:Rho}{σ:St}{F H:Hp}{i:Nat}{b:Option Nat}{d d':D}{a:Addr}{o:HO}{L:List Addr}(R:Rel Γ ρ σ F H)(q:ρ[i]?=some (some (.own b d)))(hs:σ[i]?=some (some (.ref a)))(c0:Ct Γ.G F H a d L)(fl:flatD d=true)(c:Cell Γ.G F (L2.upd H a o) a d') :
  Stp Γ ρ σ F H (ρ.set i (some (.own b d'))) σ F (L2.upd H a o):=by
 obtain ⟨_,rfl⟩:=c0.cell fl
 exact R.chg q hs c0 (fun e he u w=>by rw [upd_ne (by simpa using he)]; exact w) (fun e u w=>by
  by_cases z:e=a
  ·subst z; exact ⟨o,upd_same⟩
  ·exact ⟨u,by rw [upd_ne z]; exact w⟩) (.flat c) fun e he=>.inl he
def mutR (f:D→List D→Option (D×D))(ro:Res)(rs:List Res)(ρ:Rho):Out Res:=match ro with
 | .at i=>match settles rs ρ with
  | some (ds,ρ1)=>(match ρ1[i]? with
   | some (some (.own b d))=>(match f d ds with
    | some (d',z)=>.ok (.val z) (ρ1.set i (some (.own b d')))
    | none=>.stuck)
   | _=>.stuck)
  | none=>.stuck
 | _=>.stuck
def MutOk (G:Gx)(r:V→List V→Hp→VK→Prop)(f:D→List D→Option (D×D)):Prop:=(∀ d ds z,f d ds=some z→flatD d=true)∧∀ F H a xs d ds d' z Q,Same F H→F a=none→Cell G F H a d→DpL G F xs ds→f d ds=some (d',z) →
 (∀ v o,Cell G F (L2.upd H a o) a d'→Dp G F v z→Q v (L2.upd H a o))→r (.ref a) xs H Q
theorem mutR_ok {Γ:Gm}{W:WX}{r:V→List V→Hp→VK→Prop}{f:D→List D→Option (D×D)}{ro:Res}{rs:List Res}{ρ:Rho}{σ:St}{F H:Hp}{Q:VK}{x:V}{xs:List V}(hf:MutOk Γ.G r f)(R:Rel Γ ρ σ F H)(ho:RepF Γ.G σ F x ro)(ha:RepFs Γ.G σ F xs rs)(h:Post Γ W (mutR f ro rs ρ) ρ σ F H Q):r x xs H Q:=by
 unfold mutR at h
 split at h
 ·rename_i i
  split at h
  ·rename_i ds ρ1 e1
   obtain ⟨F1,s1,p1⟩:=settles_ok R ha e1
   split at h
   ·rename_i b d q
    split at h
    ·rename_i d' z e2
     have fl:=hf.1 _ _ _ e2
     have ho:σ[i]?=some (some x):=ho
     obtain ⟨a,L,zz,c,hb,ow⟩:=s1.rel.slotO q ho
     subst zz
     obtain ⟨cc,_⟩:=c.cell fl
     exact hf.2 F1 H a xs d ds d' z Q s1.rel.sub (s1.rel.own i a (ow a c.self)).1 cc p1 e2 fun v o c' dv=>h v F1 _ (s1.trans (s1.rel.upd q ho c fl c')) dv
    ·exact h.elim
   ·exact h.elim
  ·exact h.elim
 ·exact h.elim
def tyOk (T:String):D→Bool
 | .lst _=>T == "list"
 | .scr _=>T == "list"
 | .str _=>T == "str"
 | .dct _=>T == "dict"
 | _=>false
theorem tyOk_ok {G:Gx}{F H:Hp}{x:V}{d:D}{T:String}(e:Same F H)(v:View G F H x d)(h:tyOk T d=true):tyV G.K T x H:=by
 cases d with
 | lst xs=>obtain ⟨a,vs,rfl,h1,_⟩:=v.lst e; exact .inl ⟨by simpa [tyOk] using h,vs,SqL.of h1⟩
 | scr xs=>obtain ⟨a,rfl,h1⟩:=v.scr e; exact .inl ⟨by simpa [tyOk] using h,_,h1⟩
 | str xs=>rw [v.str]; simpa [tyOk,tyV] using h
 | dct xs=>obtain ⟨a,vs,rfl,h1,_⟩:=v.dct e; exact .inr (.inr (.inl ⟨by simpa [tyOk] using h,.inl ⟨vs,h1⟩⟩))
 | _=>simp [tyOk] at h
def guard {α:Type}(T:String)(o:Res)(ρ:Rho)(k:Out α):Out α:=match resolve ρ o with
 | some d=>if tyOk T d then k else .stuck
 | none=>.stuck
def mMutT (T:String)(f:D→List D→Option (D×D))(mo:M)(ma:MA):M:=fun ρ=>bindF (mo ρ) fun o ρ1=>guard T o ρ1 (bindO (ma ρ1) fun rs ρ2=>mutR f o rs ρ2)
theorem guard_ok {Γ:Gm}{W:WX}{T:String}{o:Res}{ρ:Rho}{k:Out Res}{σ:St}{F H:Hp}{Q:VK}{x:V}(R:Rel Γ ρ σ F H)(ho:RepF Γ.G σ F x o)(h:Post Γ W (guard T o ρ k) ρ σ F H Q):tyV Γ.G.K T x H∧Post Γ W k ρ σ F H Q:=by
 unfold guard at h
 split at h
 ·rename_i d e
  split at h
  ·rename_i w
   exact ⟨tyOk_ok R.sub (ho.view R e) w,h⟩
  ·exact h.elim
 ·exact h.elim
section
variable {X:Cx}{Γ:Gm}{W:WX}{o e:Expr}{es:List Expr}{mo:M}{ma:MA}{name:Str}{apos cpos:Pos}{T id:String}{r:V→List V→Hp→VK→Prop}
theorem tBM_mut {f:D→List D→Option (D×D)}(hK:X.K=Γ.G.K)(hf:MutOk Γ.G r f):∀ σ H Q,tM Γ W (mMutT T f mo ma) σ H Q→tBM X.K T r (tF Γ W mo) (tMA Γ W ma) σ H Q:=fun σ H Q ⟨ρ,F,R,p⟩=>⟨ρ,F,R,p.bindF fun ro ρ1 v F1 H1 s1 ho p1=>by
 obtain ⟨ty,p2⟩:=guard_ok s1.rel ho p1
 exact ⟨hK▸ty,ρ1,F1,s1.rel,p2.bindA fun rs ρ2 vs F2 H2 s2 hrs p3=>mutR_ok hf s2.rel (ho.mono s2.subF) hrs p3⟩⟩
theorem je_mut {f:D→List D→Option (D×D)}(pa:PlainAttrs T)(slot:PySem.Slot T name id)(hty:typeOf (.builtin id)=pure (.type "method_descriptor"))(hm:MtR X id r)(hf:MutOk Γ.G r f)(hK:X.K=Γ.G.K)(ho:PE X o (tM Γ W mo))(ha:PA X (e::es) (tMA Γ W ma))
  (hbase:attributeBase o name X.env (eval o X.env)=eval o X.env:=by rfl)
  (hfew:((backTo cpos (starEach (e::es) X.env)).all (fun x=>!x.1)&&(backToKw cpos (keywordEach [] X.env)).all (fun x=>x.1.isSome)
   && decide ((e::es).length+([]:List Keyword).length+(if ([]:List Keyword).isEmpty then 0 else 1)<30))=true:=by rfl)
  (hline:(apos.endLine==cpos.line)=true:=by rfl) (hs:starEach (e::es) X.env=(false,eval e X.env)::starEach es X.env:=by rfl) (hplain:(backTo cpos (starEach es X.env)).any (·.1)=false:=by rfl) :
  PE X (.Call (.Attribute o name apos) (e::es) [] cpos) (tM Γ W (mMutT T f mo ma)):=(pe_bm pa slot hty hm (je_f ho) ha hbase hfew hline hs hplain).imp (tBM_mut hK hf)
end
def appendD:D→List D→Option (D×D)
 | .lst xs,[y]=>if xs.length<sizeLine then some (.lst (xs++[y]),.non) else none
 | _,_=>none
theorem appendD_ok {G:Gx}:MutOk G rAppend appendD:=by
 refine ⟨fun d ds z h=>by cases d <;> first | rfl | (simp [appendD] at h),?_⟩
 intro F H a xs d ds d' z Q e n c t q k
 unfold appendD at q
 split at q
 ·rename_i ys y
  split at q
  ·rename_i w
   cases q
   obtain ⟨vs,h1,t1⟩:=c
   cases t with
   | cons h t' =>
    cases t'
    exact ⟨a,vs,_,rfl,rfl,h1,by rw [t1.length]; exact w,k _ _ ⟨_,upd_same,t1.append (.cons h .nil)⟩ .non⟩
  ·cases q
 ·cases q
def putKD (kvs:List (Key×D))(k:Key)(v:D):List (Key×D) :=
 if (kvs.any fun kv=>decide (kv.1=k))=true then kvs.map (fun kv=>if kv.1=k then (kv.1,v) else kv) else kvs++[(k,v)]
theorem DpK.any {G:Gx}{F:Hp}{k:Key}:∀ {vs:List (Key×V)} {ds:List (Key×D)},DpK G F vs ds→(vs.any fun kv=>decide (kv.1=k))=(ds.any fun kv=>decide (kv.1=k))
 | _,_,.nil=>rfl
 | _,_,.cons _ t=>by simp [DpK.any (k:=k) t]
theorem DpK.app {G:Gx}{F:Hp}:∀ {vs ws:List (Key×V)} {ds es:List (Key×D)},DpK G F vs ds→DpK G F ws es→DpK G F (vs++ws) (ds++es)
 | _,_,_,_,.nil,s=>s
 | _,_,_,_,.cons h t,s=>.cons h (DpK.app t s)
theorem DpK.repl {G:Gx}{F:Hp}{k:Key}{v:V}{d:D}(hd:Dp G F v d):∀ {vs:List (Key×V)} {ds:List (Key×D)},DpK G F vs ds→DpK G F (vs.map fun kv=>if kv.1=k then (kv.1,v) else kv) (ds.map fun kv=>if kv.1=k then (kv.1,d) else kv)
 | _,_,.nil=>.nil
 | _,_,.cons (k:=k') h t=>by
  simp only [List.map_cons]
  by_cases e:k'=k
  ·simp only [e,if_true]; exact .cons hd (DpK.repl hd t)
  ·simp only [e,if_false]; exact .cons h (DpK.repl hd t)
theorem DpK.put {G:Gx}{F:Hp}{k:Key}{v:V}{d:D}(hd:Dp G F v d){vs:List (Key×V)}{ds:List (Key×D)}(t:DpK G F vs ds):DpK G F (putK vs k v) (putKD ds k d):=by
 unfold putK putKD
 rw [t.any]
 split
 ·exact t.repl hd
 ·exact t.app (.cons hd .nil)
def setD:D→D→D→Option D
 | .lst xs,.int i,v=>(ixN xs.length i).map fun j=>.lst (xs.set j v)
 | .dct kvs,k,v=>if kvs.length<sizeLine then (keyD k).map fun k=>.dct (putKD kvs k v) else none
 | .dctO kvs,k,v=>if kvs.length<sizeLine then (keyD k).bind fun k=>if gU k kvs then some (.dctO (gP k v kvs)) else none else none
 | _,_,_=>none
theorem Ct.putK {G:Gx}{F H:Hp}{a:Addr}{kds:List (Key×D)}{kvs:List (Key×V)}{L1 Ld:List Addr}{k:Key}{v:V}{d:D}(h:H a=some (.dK kvs))(t:KdP G F H kvs kds L1)(n:a∉L1)(hd:Kd G F H v d Ld)(nd:∀ b∈Ld,b∉L1∧b≠a)(u:gU k kds=true) :
  ∃ L',Ct G F (L2.upd H a (.dK (L2.putK kvs k v))) a (.dctO (gP k d kds)) L'∧∀ b∈L',b=a∨b∈L1∨b∈Ld:=by
 obtain ⟨L',⟨q1,q2⟩,q3⟩:=kdp_put (k:=k) hd t fun b hb=>(nd b hb).1
 have na:a∉L':=fun z=>by
  rcases q3 a z with z | z
  ·exact n z
  ·exact (nd a z).2 rfl
 refine ⟨a::L',.dct (L:=L') upd_same ?_ ?_ na,fun b hb=>?_⟩
 ·rw [putK_g kvs (by rw [gU_keys t.1]; exact u)]; exact q1
 ·rw [putK_g kvs (by rw [gU_keys t.1]; exact u)]
  exact q2.mono (Same.refl _) fun b hb o w=>by rw [upd_ne (show b≠a by rintro rfl; exact na hb)]; exact w
 ·rcases List.mem_cons.mp hb with rfl | hb
  ·exact .inl rfl
  ·exact .inr (q3 b hb)
theorem Rel.setO {Γ:Gm}{ρ:Rho}{σ:St}{F H:Hp}{i:Nat}{b:Option Nat}{kds:List (Key×D)}{a:Addr}{L:List Addr}{k:Key}{v:V}{d:D}(R:Rel Γ ρ σ F H)(q:ρ[i]?=some (some (.own b (.dctO kds))))(hs:σ[i]?=some (some (.ref a)))(c0:Ct Γ.G F H a (.dctO kds) L)(hd:Dp Γ.G F v d)(u:gU k kds=true) :
  ∃ kvs,H a=some (.dK kvs)∧kvs.length=kds.length∧Stp Γ ρ σ F H (ρ.set i (some (.own b (.dctO (gP k d kds))))) σ F (L2.upd H a (.dK (L2.putK kvs k v))):=by
 have c1:=c0
 cases c0 with
 | flat c=>exact c.elim
 | dct h e t n =>
  rename_i kvs L1
  obtain ⟨L',ct,sb⟩:=Ct.putK (k:=k) (v:=v) (d:=d) h ⟨e,t⟩ n (.fz hd) (Ld:=[]) (fun b hb=>by cases hb) u
  refine ⟨kvs,h,by simpa using congrArg List.length e,R.chg q hs c1 (fun c hc o w=>?_) (fun c o w=>?_) ct fun c hc=>?_⟩
  ·rw [upd_ne (show c≠a by rintro rfl; exact hc (List.mem_cons_self ..))]; exact w
  ·by_cases z:c=a
   ·subst z; exact ⟨_,upd_same⟩
   ·exact ⟨o,by rw [upd_ne z]; exact w⟩
  ·rcases sb c hc with rfl | z | z
   ·exact .inl (List.mem_cons_self ..)
   ·exact .inl (List.mem_cons_of_mem _ z)
   ·cases z
def rSetD:V→V→V→Hp→(Hp→Prop)→Prop:=fun o i v H Q=>rSetL o i v H Q∨∃ a H',o=.ref a∧DPut H a i v H'∧Q H'
theorem set_D {X:Cx}(hu:X.A.units+1<cLine):PSet X rSetD:=by
 intro pins s σ H o i v ov iv u Q I ro ri rv h
 rcases h with h | ⟨a,H',rfl,g,q⟩
 ·exact set_list pins s σ H o i v ov iv u Q I ro ri rv h
 ·obtain rfl:ov=Value.ref a:=ro
  exact d_setItem hu I g ri rv fun s' I'=>⟨H',I',q⟩
def storeR (rv ro ri:Res)(ρ:Rho):SOut:=match ro with
 | .at s=>match settle rv ρ with
  | some (d,ρ1)=>(match ρ1[s]?,resolve ρ1 ri with
   | some (some (.own b c)),some i=>(match setD c i d with
    | some c'=>.nx (ρ1.set s (some (.own b c')))
    | none=>.stuck)
   | _,_=>.stuck)
  | none=>.stuck
 | _=>.stuck
def mStore (mo mi me:M):MS:=fun ρ=>bindSF (me ρ) fun rv ρ1=>bindSF (mo ρ1) fun ro ρ2=>bindSF (mi ρ2) fun ri ρ3=>storeR rv ro ri ρ3
section
variable {X:Cx}{Γ:Gm}{W:WX}{o i e:Expr}{mo mi me m:M}{pos pos':Pos}
theorem js_store (hu:X.A.units+1<cLine)(he:PE X e (tM Γ W me))(ho:PE X o (tM Γ W mo))(hi:PE X i (tM Γ W mi))(hs:swapsWithSole [.Subscript o i pos'] e pos.line X.env=pure false:=by rfl)(hw:swappedStores [.Subscript o i pos'] e X.env=pure none:=by rfl)(h1:(assignEach [.Subscript o i pos'] X.env).map (·.2)=[assign (.Subscript o i pos') X.env]:=by rfl)
  (hsub:PG X (.Subscript o i pos') (gSub (tF Γ W mo) (tF Γ W mi) rSetD):=by exact pg_sub (je_f ‹_›) (je_f ‹_›) (set_D ‹_›)):PS X (.Assign [.Subscript o i pos'] e pos) (tMS Γ W (mStore mo mi me)) :=
 (ps_asg (je_f he) hsub hs hw h1).imp fun D σ H ⟨ρ,F,R,p⟩=>⟨ρ,F,R,p.bindF fun rv ρ1 v F1 H1 s1 hv p1=>⟨ρ1,F1,s1.rel,p1.bindF fun ro ρ2 x F2 H2 s2 ho' p2=>⟨ρ2,F2,s2.rel,p2.bindF fun ri ρ3 y F3 H3 s3 hi' p3=>by
  unfold storeR at p3
  split at p3
  ·rename_i s
   split at p3
   ·rename_i d ρ4 e1
    obtain ⟨F4,s4,q4⟩:=settle_ok s3.rel (hv.mono (s2.subF.trans s3.subF)) e1
    split at p3
    ·rename_i b c k e2 e3
     split at p3
     ·rename_i c' e4
      have ho':σ[s]?=some (some x):=ho'
      obtain ⟨a,L,z,ce,hb,ow⟩:=s4.rel.slotO e2 ho'
      subst z
      have vi:=(hi'.mono s4.subF).view s4.rel e3
      have fin:flatD c=true→∀ oo,Cell Γ.G F4 (L2.upd H3 a oo) a c'→D.nx σ (L2.upd H3 a oo):=fun fl oo cc=>p3 σ F4 _ (s4.trans (s4.rel.upd e2 ho' ce fl cc))
      cases c with
      | lst xs =>
       cases k with
       | int i =>
        simp only [setD,Option.map_eq_some_iff] at e4
        obtain ⟨j,h1,rfl⟩:=e4
        obtain ⟨vs,h2,t⟩:=(ce.cell rfl).1
        exact .inl ⟨a,vs,i,j,rfl,vi.int,h2,by rw [t.length]; exact h1,fin rfl _ ⟨_,upd_same,t.set q4 j⟩⟩
       | _=>simp [setD] at e4
      | dct kvs =>
       simp only [setD] at e4
       split at e4
       ·rename_i w
        obtain ⟨kk,h1,rfl⟩:=Option.map_eq_some_iff.mp e4
        obtain ⟨vs,h2,t⟩:=(ce.cell rfl).1
        have hk:=keyD_ok vi h1
        subst hk
        exact .inr ⟨a,_,rfl,DPut.k h2 (by rw [t.length]; exact w),fin rfl _ ⟨_,upd_same,t.put q4⟩⟩
       ·cases e4
      | dctO kvs =>
       simp only [setD] at e4
       split at e4
       ·rename_i w
        obtain ⟨kk,h1,h2⟩:=Option.bind_eq_some_iff.mp e4
        split at h2
        ·rename_i u
         cases h2
         obtain ⟨vs,h3,h4,st⟩:=s4.rel.setO e2 ho' ce q4 u
         have hk:=keyD_ok vi h1
         subst hk
         exact .inr ⟨a,_,rfl,DPut.k h3 (by rw [h4]; exact w),p3 σ F4 _ (s4.trans st)⟩
        ·cases h2
       ·cases e4
      | _=>simp [setD] at e4
     ·exact p3.elim
    ·exact p3.elim
   ·exact p3.elim
  ·exact p3.elim⟩⟩⟩
end
section
variable {X:Cx}{Γ:Gm}{W:WX}{e:Expr}{m:M}{pos pos':Pos}
theorem je_glob {x:Str}{v:V}{u:Value}{d:D}(hm:X.mg x=some u)(r:RelV v u)(hd:∀ F,Dp Γ.G F v d)(hg:Gl X x:=by rfl)(h:(x==("__debug__" : Str))=false:=by decide):PE X (.Name x pos) (tM Γ W (mC d)):=je_const (pe_glob hg hm r h) hd
theorem je_gint {x:Str}{i:Int}(hm:∃ t,X.mg x=some (.int i t))(hg:Gl X x:=by rfl)(h:(x==("__debug__" : Str))=false:=by decide):PE X (.Name x pos) (tM Γ W (mC (.int i))):=let ⟨t,hm⟩:=hm; je_glob (v:=.int i) hm ⟨t,rfl⟩ (fun _=>.int i) hg h
theorem je_gval {x:Str}{a:Addr}{d:D}(hm:X.mg x=some (.ref a))(hd:∀ F,Dp Γ.G F (.ref a) d)(hg:Gl X x:=by rfl)(h:(x==("__debug__" : Str))=false:=by decide):PE X (.Name x pos) (tM Γ W (mC d)):=je_glob (v:=.ref a) hm rfl hd hg h
theorem je_ty {x:Str}{n:String}(hm:X.mg x=none)(hv:bootBuiltins x=some (.type n))(hg:Gl X x:=by rfl)(hn:x ≠ "__name__":=by decide)(h:(x==("__debug__" : Str))=false:=by decide):PE X (.Name x pos) (tM Γ W (mC (.ty n))):=je_const (pe_bltn (v:=.ty n) hg hm hv rfl hn h) fun _=>.ty n
end
structure FnFact (P:Program)(w:World)(K:PySem.W.Frag)(mg:Str→Option Value)(base:Heap)(G:Gx)(Θ:List NdefX.NTab)(x:Str)(n k:Nat)(ps:List Str)(g:Fn):Prop where
 ex:∃ f fd,mg x=some (.ref f)∧PySem.W.keepIn K (.ref f)=true∧Binds K fd ps []∧FnOkG P w K mg base k f fd ps (spF G Θ n g)
section
variable {X:Cx}{Γ:Gm}{W:WX}{e:Expr}{ma:MA}{pos p:Pos}{es:List Expr}{x:Str}{k n:Nat}{ps:List Str}{mk:List Bool}{g:Fn}
theorem je_callF (tk:Takes X W)(Fo:FnFact X.prog X.w X.K X.mg X.base Γ.G Γ.T x n k ps g)(hr:RG k X.A)(ha:PA X (e::es) (tMA Γ W ma))
  (hg:Gl X x:=by rfl) (hdb:(x==("__debug__" : Str))=false:=by decide) (he:starEach (e::es) X.env=(false,eval e X.env)::starEach es X.env:=by rfl) (hpl:(backTo pos (starEach es X.env)).any (·.1)=false:=by rfl) :
  PE X (.Call (.Name x p) (e::es) [] pos) (tM Γ W (mCall n mk g ma)):=by
 obtain ⟨f,fd,h1,h2,h3,h4⟩:=Fo.ex
 exact je_call tk h4 hr h1 h2 h3 ha hg hdb he hpl
end
theorem okf_of {P:Program}{w:World}{K:PySem.W.Frag}{mg:Str→Option Value}{base:Heap}{G:Gx}{Θ:List NdefX.NTab}{x qual:Str}{params:Arguments}{body:List Stmt}{scope:Scope}{f:Addr}{fd:FuncData}{dvs:List V}{kws:List (Str×V)}{N ps:List Str}{n nl k:Nat}{m:MS}
  (F:FunD K x qual params body scope dvs kws f fd) (S:FnScope N ps scope) (hn:ps.length=n) (hN:N.length=n+nl)
  (hbody:∀ (cdv:Value) (A:Around) (outer:List Env) (s:Shared) (H:Hp) (vs:List V) (E:XK) (U:Addr→Prop),RG k (A.deeper (envOfC qual scope s.heap.objs.size f cdv)) →
   PSs (cxOf (L2.CX P w) P w K mg base N qual scope f cdv A outer s H E) body (tMS (.of G Θ (bet vs) U) (fun cls d _ H'=>E cls d H') m)):FnOkG P w K mg base (k+1) f fd ps (spF G Θ n (mkFn nl m)) :=
 okg_of F S (fun vs H Q E h=>by rw [hn]; exact h.1) fun cdv A outer s H vs Q E hr h=>body_ok (N:=N) hN h fun U=>hbody cdv A outer s H vs E U hr
theorem fact_of {P:Program}{w:World}{K:PySem.W.Frag}{mg:Str→Option Value}{base:Heap}{G:Gx}{Θ:List NdefX.NTab}{x qual:Str}{params:Arguments}{body:List Stmt}{scope:Scope}{f:Addr}{fd:FuncData}{ps:List Str}{n k:Nat}{g:Fn}
  (F:FunD K x qual params body scope [] [] f fd) (hm:mg x=some (.ref f))
  (hb:∀ (kV doc pm:Value) (an:Option Addr) (cdv ct:Value) (us:List Value),us.length=ps.length→bindArgs (PySem.W.fnOf x qual params body scope .none kV doc pm an cdv ct) ⟨us,[]⟩=pure (ps.zip us))
  (O:FnOkG P w K mg base k f fd ps (spF G Θ n g)):FnFact P w K mg base G Θ x n k ps g :=
 ⟨f,fd,hm,F.kp,F.bindsN hb,O⟩
theorem walk_ofW {l:PySem.W.OpenLaw}{n k:Nat}{q:Program}{loose:List Str}{XP:(Str→Option Value)→Heap→Prop}{YP:World→Heap→Prop}{d:DefRec}{x:Str}
  (hn:l.most=some n) (hn2:n≤sizeLine) (hdf:d.params.defaults=[]) (hr:RG k callerA)
  (F:∀ (w:World) (mg:Str→Option Value) (fa:Addr) (h:Heap),YP w h→h.Ns mainGlobals mg→mg d.name=some (.ref fa) →
   ∃ (K:PySem.W.Frag) (fd:FuncData) (sp:Sp),K.In h∧(∀ (s:Shared) (u:Value),BindsTo s fd ⟨[u],[]⟩ [(x,u)]) ∧
    (∀ (H:Hp) (a:Addr) (ns:List Int),ns.length≤n→Only H→SqL K H a (ns.map V.int)→sp [.ref a] H (fun v _=>v=.bl true) fun _ _ _=>False) ∧
    ∀ base:Heap,K.In base→base.Ns mainGlobals mg→FnOkG l.prog w K mg base k fa fd [x] sp)
  (hCX:∀ (w:World) (H:Hp) (s:Shared) (e:Value) (s':Shared),L2.CX l.prog w [] H s (fun _ _ _=>False) e s'→False) :
  PySem.W.WalkO q loose XP YP l.row.toRowW d [] (fun f vs=>PySem.call f vs):=by
 refine Att.attach_call hn hdf fun w s₀ s₁ mg mb fa o pm cd doc a vs ns G Y ho hd hcd hmg hobj hints hlen hg=>?_
 obtain ⟨K,fd,sp,KX,hb,hsp,hF⟩:=F w mg fa _ Y G.T.g hmg
 exact law_callG KX G.T.g G.T.b G.T.builtins G.T.nolimit hg hobj hints (Nat.le_trans hlen hn2) hr hF hb (fun H hO hS=>hsp H a ns hlen hO hS) fun H e s'=>hCX w H s₁ e s'
theorem law_sp {G:Gx}{f:Fn}(h:∀ ns:List Int,ns.length≤63→f [.v (.scr ns)]=.ret (.val (.bl true)) [])(H:Hp)(a:Addr)(ns:List Int)(hl:ns.length≤63)(hS:SqL G.K H a (ns.map V.int)):spF G [] 1 f [.ref a] H (fun v _=>v=.bl true) fun _ _ _=>False:=by
 refine ⟨rfl,H,[.v (.scr ns)],[],fun _=>False,Same.refl _,.v (.scr hS) .nil,(fun a h=>by cases h),⟨(fun a h=>h.elim),nofun,nofun,nofun⟩,?_⟩
 rw [h ns hl]
 intro v F' H' L' _ _ _ q
 cases q
 rfl
theorem hCX_ok {P:Program}(w:World)(H:Hp)(s:Shared)(e:Value)(s':Shared)(h:L2.CX P w [] H s (fun _ _ _=>False) e s'):False:=by
 obtain ⟨_,_,_,_,_,_,_,_,_,_,_,_,z⟩:=h
 exact z.elim
theorem hu1 {A:Around}{k:Nat}(hr:RG k A):A.units+1<cLine:=by have:=hr.un; omega
theorem hu64 {A:Around}{k:Nat}(hr:RG k A):A.units+64<cLine:=by have:=hr.un; omega
theorem hu65 {A:Around}{k:Nat}(hr:RG k A):A.units+65<cLine:=by have:=hr.un; omega
section
variable {α β:Type}
@[simp] theorem x_bindO {a:α}{ρ:Rho}{k:α→Rho→Out β}:bindO (.ok a ρ) k=k a ρ:=rfl
@[simp] theorem x_bindOx {x:Exc}{ρ:Rho}{k:α→Rho→Out β}:bindO (.exc x ρ) k=.exc x ρ:=rfl
@[simp] theorem x_bindOs {k:α→Rho→Out β}:bindO .stuck k=.stuck:=rfl
@[simp] theorem x_bindFv {d:D}{ρ:Rho}{k:Res→Rho→Out β}:bindF (.ok (.val d) ρ) k=k (.val d) ρ:=rfl
@[simp] theorem x_bindFn {d:D}{ρ:Rho}{k:Res→Rho→Out β}:bindF (.ok (.new d) ρ) k=k (.val (strip d)) ρ:=rfl
@[simp] theorem x_bindFa {i:Nat}{ρ:Rho}{k:Res→Rho→Out β}:bindF (.ok (.at i) ρ) k=k (.at i) ρ:=rfl
@[simp] theorem x_bindFx {x:Exc}{ρ:Rho}{k:Res→Rho→Out β}:bindF (.exc x ρ) k=.exc x ρ:=rfl
@[simp] theorem x_bindSO {a:α}{ρ:Rho}{k:α→Rho→SOut}:bindSO (.ok a ρ) k=k a ρ:=rfl
@[simp] theorem x_bindSOx {x:Exc}{ρ:Rho}{k:α→Rho→SOut}:bindSO (.exc x ρ) k=.exc x ρ:=rfl
@[simp] theorem x_bindSFv {d:D}{ρ:Rho}{k:Res→Rho→SOut}:bindSF (.ok (.val d) ρ) k=k (.val d) ρ:=rfl
@[simp] theorem x_bindSFn {d:D}{ρ:Rho}{k:Res→Rho→SOut}:bindSF (.ok (.new d) ρ) k=k (.val (strip d)) ρ:=rfl
@[simp] theorem x_bindSFa {i:Nat}{ρ:Rho}{k:Res→Rho→SOut}:bindSF (.ok (.at i) ρ) k=k (.at i) ρ:=rfl
@[simp] theorem x_bindSFx {x:Exc}{ρ:Rho}{k:Res→Rho→SOut}:bindSF (.exc x ρ) k=.exc x ρ:=rfl
def optO (o:Option α)(k:α→Out β):Out β:=match o with | some a=>k a | none=>.stuck
def optS (o:Option α)(k:α→SOut):SOut:=match o with | some a=>k a | none=>.stuck
def optF (o:Option α)(k:α→FOut):FOut:=match o with | some a=>k a | none=>.stuck
def bindN (o:Out α)(k:α→Rho→Out β):Out β:=match o with | .ok a ρ=>k a ρ | _=>.stuck
def loopS (o:SOut)(k:Rho→SOut):SOut:=match o with | .nx ρ=>k ρ | .ct ρ=>k ρ | .bk ρ=>.nx ρ | o=>o
def seqS (o:SOut)(k:Rho→SOut):SOut:=match o with | .nx ρ=>k ρ | o=>o
@[simp] theorem x_optO {a:α}{k:α→Out β}:optO (some a) k=k a:=rfl
@[simp] theorem x_optOn {k:α→Out β}:optO none k=.stuck:=rfl
@[simp] theorem x_optS {a:α}{k:α→SOut}:optS (some a) k=k a:=rfl
@[simp] theorem x_optF {a:α}{k:α→FOut}:optF (some a) k=k a:=rfl
@[simp] theorem x_bindN {a:α}{ρ:Rho}{k:α→Rho→Out β}:bindN (.ok a ρ) k=k a ρ:=rfl
@[simp] theorem x_bindNx {x:Exc}{ρ:Rho}{k:α→Rho→Out β}:bindN (.exc x ρ) k=.stuck:=rfl
@[simp] theorem x_loopSn {ρ:Rho}{k:Rho→SOut}:loopS (.nx ρ) k=k ρ:=rfl
@[simp] theorem x_loopSc {ρ:Rho}{k:Rho→SOut}:loopS (.ct ρ) k=k ρ:=rfl
@[simp] theorem x_loopSb {ρ:Rho}{k:Rho→SOut}:loopS (.bk ρ) k=.nx ρ:=rfl
@[simp] theorem x_loopSr {r:Res}{ρ:Rho}{k:Rho→SOut}:loopS (.ret r ρ) k=.ret r ρ:=rfl
@[simp] theorem x_loopSx {x:Exc}{ρ:Rho}{k:Rho→SOut}:loopS (.exc x ρ) k=.exc x ρ:=rfl
@[simp] theorem x_seqSn {ρ:Rho}{k:Rho→SOut}:seqS (.nx ρ) k=k ρ:=rfl
@[simp] theorem x_seqSr {r:Res}{ρ:Rho}{k:Rho→SOut}:seqS (.ret r ρ) k=.ret r ρ:=rfl
@[simp] theorem x_seqSx {x:Exc}{ρ:Rho}{k:Rho→SOut}:seqS (.exc x ρ) k=.exc x ρ:=rfl
@[simp] theorem x_seqSb {ρ:Rho}{k:Rho→SOut}:seqS (.bk ρ) k=.bk ρ:=rfl
@[simp] theorem x_seqSc {ρ:Rho}{k:Rho→SOut}:seqS (.ct ρ) k=.ct ρ:=rfl
end
@[simp] theorem x_stripL {xs:List D}:strip (.lst xs)=.lst xs:=by simp [strip]
@[simp] theorem x_stripT {xs:List D}:strip (.tup xs)=.tup xs:=by simp [strip]
@[simp] theorem x_stripD {xs:List (Key×D)}:strip (.dct xs)=.dct xs:=by simp [strip]
@[simp] theorem x_stripO {c:Nat}{xs:List (Str×D)}:strip (.obj c xs)=.obj c xs:=by simp [strip]
@[simp] theorem x_stripI {i:Int}:strip (.int i)=.int i:=by simp [strip]
@[simp] theorem x_stripS {i:Str}:strip (.str i)=.str i:=by simp [strip]
@[simp] theorem x_stripB {i:Bool}:strip (.bl i)=.bl i:=by simp [strip]
@[simp] theorem x_stripN:strip .non=.non:=by simp [strip]
@[simp] theorem x_stripLO {xs:List D}:strip (.lstO xs)=.lst (strips xs):=by simp [strip]
@[simp] theorem x_stripDO {xs:List (Key×D)}:strip (.dctO xs)=.dct (stripK xs):=by simp [strip]
@[simp] theorem x_stripOO {c:Nat}{xs:List (Str×D)}:strip (.objO c xs)=.obj c (stripF xs):=by simp [strip]
@[simp] theorem x_stripK {d:D}:strip (.kid d)=strip d:=by simp [strip]
@[simp] theorem x_stripsN:strips []=[]:=by simp [strips]
@[simp] theorem x_stripsC {d:D}{ds:List D}:strips (d::ds)=strip d::strips ds:=by simp [strips]
@[simp] theorem x_stripKN:stripK []=[]:=by simp [stripK]
@[simp] theorem x_stripKC {k:Key}{d:D}{ds:List (Key×D)}:stripK ((k,d)::ds)=(k,strip d)::stripK ds:=by simp [stripK]
@[simp] theorem x_stripFN:stripF []=[]:=by simp [stripF]
@[simp] theorem x_stripFC {k:Str}{d:D}{ds:List (Str×D)}:stripF ((k,d)::ds)=(k,strip d)::stripF ds:=by simp [stripF]
def slotD:Option (Option Slot)→Option D
 | some (some (.val d))=>some d
 | some (some (.own _ d))=>some d
 | _=>none
@[simp] theorem x_slotDv {d:D}:slotD (some (some (.val d)))=some d:=rfl
@[simp] theorem x_slotDo {b:Option Nat}{d:D}:slotD (some (some (.own b d)))=some d:=rfl
@[simp] theorem x_resV {ρ:Rho}{d:D}:resolve ρ (.val d)=some d:=rfl
@[simp] theorem x_resA {ρ:Rho}{i:Nat}:resolve ρ (.at i)=slotD ρ[i]?:=by
 unfold resolve slotD; rfl
def varR (o:Option (Option Slot))(i:Nat)(ρ:Rho):Out Res:=match o with
 | some (some (.val d))=>.ok (.val d) ρ
 | some (some (.own _ _))=>.ok (.at i) ρ
 | _=>.stuck
@[simp] theorem x_varRv {d:D}{i:Nat}{ρ:Rho}:varR (some (some (.val d))) i ρ=.ok (.val d) ρ:=rfl
@[simp] theorem x_varRo {b:Option Nat}{d:D}{i:Nat}{ρ:Rho}:varR (some (some (.own b d))) i ρ=.ok (.at i) ρ:=rfl
@[simp] theorem x_mVar {i:Nat}{ρ:Rho}:mVar i ρ=varR ρ[i]? i ρ:=by unfold mVar varR; rfl
@[simp] theorem x_mC {d:D}{ρ:Rho}:mC d ρ=.ok (.val d) ρ:=rfl
def settleA (o:Option (Option Slot))(i:Nat)(ρ:Rho):Option (D×Rho):=match o with
 | some (some (.val d))=>some (d,ρ)
 | some (some (.own none d))=>some (strip d,ρ.set i (some (.val (strip d))))
 | _=>none
@[simp] theorem x_settleAv {d:D}{i:Nat}{ρ:Rho}:settleA (some (some (.val d))) i ρ=some (d,ρ):=rfl
@[simp] theorem x_settleAo {d:D}{i:Nat}{ρ:Rho}:settleA (some (some (.own none d))) i ρ=some (strip d,ρ.set i (some (.val (strip d)))):=rfl
@[simp] theorem x_setV {d:D}{ρ:Rho}:PyD.settle (.val d) ρ=some (d,ρ):=rfl
@[simp] theorem x_setA {i:Nat}{ρ:Rho}:PyD.settle (.at i) ρ=settleA ρ[i]? i ρ:=by unfold PyD.settle settleA; rfl
def fOut (o:Option Res)(ρ:Rho):Out Res:=match o with | some r=>.ok r ρ | none=>.stuck
@[simp] theorem x_fOut {r:Res}{ρ:Rho}:fOut (some r) ρ=.ok r ρ:=rfl
@[simp] theorem x_fOutn {ρ:Rho}:fOut none ρ=.stuck:=rfl
@[simp] theorem x_op2 {f:D→D→Option Res}{a b:Res}{ρ:Rho}:op2 f a b ρ=optO (resolve ρ a) fun x=>optO (resolve ρ b) fun y=>fOut (f x y) ρ:=by
 unfold op2 optO fOut; cases resolve ρ a <;> cases resolve ρ b <;> rfl
@[simp] theorem x_op1 {f:D→Option Res}{a:Res}{ρ:Rho}:op1 f a ρ=optO (resolve ρ a) fun x=>fOut (f x) ρ:=by
 unfold op1 optO fOut; cases resolve ρ a <;> rfl
@[simp] theorem x_mBin {f:D→D→Option Res}{ma mb:M}{ρ:Rho}:mBin f ma mb ρ=bindF (ma ρ) fun a ρ1=>bindF (mb ρ1) fun b ρ2=>op2 f a b ρ2:=rfl
@[simp] theorem x_mUn {f:D→Option Res}{ma:M}{ρ:Rho}:mUn f ma ρ=bindF (ma ρ) fun a ρ1=>op1 f a ρ1:=rfl
@[simp] theorem x_blV {k:Bool}{ρ:Rho}:blR (.val (.bl k)) ρ=.ok k ρ:=rfl
def blA (o:Option (Option Slot))(ρ:Rho):Out Bool:=match o with | some (some (.val (.bl k)))=>.ok k ρ | _=>.stuck
@[simp] theorem x_blA {k:Bool}{ρ:Rho}:blA (some (some (.val (.bl k)))) ρ=.ok k ρ:=rfl
@[simp] theorem x_blAt {i:Nat}{ρ:Rho}:blR (.at i) ρ=blA ρ[i]? ρ:=by unfold blR blA; rfl
@[simp] theorem x_mBl {m:M}{ρ:Rho}:mBl m ρ=bindF (m ρ) fun a ρ1=>blR a ρ1:=rfl
@[simp] theorem x_mBinB {f:D→D→Option Res}{ma mb:M}{ρ:Rho}:mBinB f ma mb ρ=mBl (mBin f ma mb) ρ:=rfl
def kOut (o:Option Bool)(ρ:Rho):Out Bool:=match o with | some r=>.ok r ρ | none=>.stuck
@[simp] theorem x_kOut {r:Bool}{ρ:Rho}:kOut (some r) ρ=.ok r ρ:=rfl
@[simp] theorem x_truR {a:Res}{ρ:Rho}:truR a ρ=optO (resolve ρ a) fun d=>kOut (truD d) ρ:=by
 unfold truR optO kOut; cases resolve ρ a <;> rfl
@[simp] theorem x_mTru {m:M}{ρ:Rho}:mTru m ρ=bindF (m ρ) fun a ρ1=>truR a ρ1:=rfl
@[simp] theorem x_truDn:truD .non=some false:=rfl
@[simp] theorem x_truDb {b:Bool}:truD (.bl b)=some b:=rfl
@[simp] theorem x_truDi {i:Int}:truD (.int i)=some (i != 0):=rfl
@[simp] theorem x_truDl {xs:List D}:truD (.lst xs)=some (!xs.isEmpty):=rfl
@[simp] theorem x_truDt {xs:List D}:truD (.tup xs)=some (!xs.isEmpty):=rfl
@[simp] theorem x_mChain {f g:D→D→Option Res}{ma mb mc:M}{ρ:Rho}:mChain f g ma mb mc ρ=bindF (ma ρ) fun a ρ1=>bindF (mb ρ1) fun b ρ2=>bindF (op2 f a b ρ2) fun z ρ3=>bindO (blR z ρ3) fun k ρ3 =>
 if k=true then bindF (mc ρ3) fun c ρ4=>op2 g b c ρ4 else .ok (.val (.bl false)) ρ3:=rfl
@[simp] theorem x_mAndB {ta tb:MB}{ρ:Rho}:mAndB ta tb ρ=bindO (ta ρ) fun k ρ1=>if k=true then tb ρ1 else .ok false ρ1:=rfl
@[simp] theorem x_mOrB {ta tb:MB}{ρ:Rho}:mOrB ta tb ρ=bindO (ta ρ) fun k ρ1=>if k=true then .ok true ρ1 else tb ρ1:=rfl
@[simp] theorem x_mNotB {ta:MB}{ρ:Rho}:mNotB ta ρ=bindO (ta ρ) fun k ρ1=>.ok (!k) ρ1:=rfl
@[simp] theorem x_mAndV {ma mb:M}{ρ:Rho}:mAndV ma mb ρ=bindF (ma ρ) fun a ρ1=>bindO (blR a ρ1) fun k ρ1=>if k=true then mb ρ1 else .ok (.val (.bl false)) ρ1:=rfl
@[simp] theorem x_mOrV {ma mb:M}{ρ:Rho}:mOrV ma mb ρ=bindF (ma ρ) fun a ρ1=>bindO (blR a ρ1) fun k ρ1=>if k=true then .ok (.val (.bl true)) ρ1 else mb ρ1:=rfl
@[simp] theorem x_mNotV {ma:M}{ρ:Rho}:mNotV ma ρ=bindF (ma ρ) fun a ρ1=>bindO (blR a ρ1) fun k ρ1=>.ok (.val (.bl (!k))) ρ1:=rfl
@[simp] theorem x_mIf {t:MB}{ma mb:M}{ρ:Rho}:mIf t ma mb ρ=bindO (t ρ) fun k ρ1=>if k=true then ma ρ1 else mb ρ1:=rfl
@[simp] theorem x_mYes {ρ:Rho}:mYes ρ=.ok true ρ:=rfl
@[simp] theorem x_mNil {ρ:Rho}:mNil ρ=.ok [] ρ:=rfl
@[simp] theorem x_mCons {ma:M}{mr:MA}{ρ:Rho}:mCons ma mr ρ=bindF (ma ρ) fun a ρ1=>bindO (mr ρ1) fun as ρ2=>.ok (a::as) ρ2:=rfl
def consO {α:Type}:Option α→Option (List α)→Option (List α)
 | some a,some as=>some (a::as)
 | _,_=>none
@[simp] theorem x_consO {α:Type}{a:α}{as:List α}:consO (some a) (some as)=some (a::as):=rfl
@[simp] theorem x_resN {ρ:Rho}:resolves ρ []=some []:=rfl
@[simp] theorem x_resC {ρ:Rho}{r:Res}{rs:List Res}:resolves ρ (r::rs)=consO (resolve ρ r) (resolves ρ rs):=by
 show (match resolve ρ r,resolves ρ rs with | some d,some ds=>some (d::ds) | _,_=>none)=_
 cases resolve ρ r <;> cases resolves ρ rs <;> rfl
@[simp] theorem x_opN {f:List D→Option Res}{as:List Res}{ρ:Rho}:opN f as ρ=optO (resolves ρ as) fun ds=>fOut (f ds) ρ:=by
 unfold opN optO fOut; cases resolves ρ as <;> rfl
@[simp] theorem x_mCB {f:List D→Option Res}{ma:MA}{ρ:Rho}:mCB f ma ρ=bindO (ma ρ) fun as ρ1=>opN f as ρ1:=rfl
@[simp] theorem x_stN {ρ:Rho}:settles [] ρ=some ([],ρ):=rfl
def stC (o:Option (D×Rho))(k:Rho→Option (List D×Rho)):Option (List D×Rho):=match o with
 | some (d,ρ)=>(k ρ).map fun p=>(d::p.1,p.2)
 | none=>none
@[simp] theorem x_stC {d:D}{ρ:Rho}{k:Rho→Option (List D×Rho)}:stC (some (d,ρ)) k=(k ρ).map fun p=>(d::p.1,p.2):=rfl
@[simp] theorem x_stCons {r:Res}{rs:List Res}{ρ:Rho}:settles (r::rs) ρ=stC (PyD.settle r ρ) fun ρ1=>settles rs ρ1:=by
 simp only [settles,stC]
 cases PyD.settle r ρ with
 | none=>rfl
 | some p =>
  obtain ⟨d,ρ1⟩:=p
  simp only
  cases settles rs ρ1 with
  | none=>rfl
  | some p=>rfl
@[simp] theorem x_opS {f:List D→Option Res}{as:List Res}{ρ:Rho}:opS f as ρ=optO (settles as ρ) fun p=>fOut (f p.1) p.2:=by
 unfold opS optO fOut; cases settles as ρ <;> rfl
@[simp] theorem x_mCS {f:List D→Option Res}{ma:MA}{ρ:Rho}:mCS f ma ρ=bindO (ma ρ) fun as ρ1=>opS f as ρ1:=rfl
def intO {α:Type}(o:Option D)(k:Int→Out α):Out α:=match o with | some (.int i)=>k i | _=>.stuck
@[simp] theorem x_intO {α:Type}{i:Int}{k:Int→Out α}:intO (some (.int i)) k=k i:=rfl
@[simp] theorem x_partN {β:Type}{ρ:Rho}{k:Option Int→Rho→Out β}:part none ρ k=k none ρ:=rfl
@[simp] theorem x_partS {β:Type}{m:M}{ρ:Rho}{k:Option Int→Rho→Out β}:part (some m) ρ k=bindF (m ρ) fun r ρ1=>intO (resolve ρ1 r) fun i=>k (some i) ρ1:=by
 simp only [part,intO] <;> rfl
@[simp] theorem x_opSl {a:Res}{lo hi:Option Int}{ρ:Rho}:opSl a lo hi ρ=optO (resolve ρ a) fun x=>fOut (slD x lo hi) ρ:=by
 unfold opSl optO fOut; cases resolve ρ a <;> rfl
@[simp] theorem x_mSl {ma:M}{lo hi:Option M}{ρ:Rho}:mSl ma lo hi ρ=bindF (ma ρ) fun a ρ1=>part lo ρ1 fun l ρ2=>part hi ρ2 fun h ρ3=>opSl a l h ρ3:=rfl
@[simp] theorem x_guard {α:Type}{T:String}{o:Res}{ρ:Rho}{k:Out α}:guard T o ρ k=optO (resolve ρ o) fun d=>if tyOk T d then k else .stuck:=by
 unfold guard optO; cases resolve ρ o <;> rfl
@[simp] theorem x_mMutT {T:String}{f:D→List D→Option (D×D)}{mo:M}{ma:MA}{ρ:Rho}:mMutT T f mo ma ρ=bindF (mo ρ) fun o ρ1=>guard T o ρ1 (bindO (ma ρ1) fun rs ρ2=>mutR f o rs ρ2):=rfl
def ownO (o:Option (Option Slot)):Option (Option Nat×D):=match o with
 | some (some (.own b d))=>some (b,d)
 | _=>none
@[simp] theorem x_ownO {b:Option Nat}{d:D}:ownO (some (some (.own b d)))=some (b,d):=rfl
@[simp] theorem x_mutR {f:D→List D→Option (D×D)}{i:Nat}{rs:List Res}{ρ:Rho}:mutR f (.at i) rs ρ=optO (settles rs ρ) fun p=>optO (ownO p.2[i]?) fun q=>optO (f q.2 p.1) fun z=>.ok (.val z.2) (p.2.set i (some (.own q.1 z.1))):=by
 simp only [mutR,optO,ownO]
 cases settles rs ρ with
 | none=>rfl
 | some p =>
  obtain ⟨ds,ρ1⟩:=p
  simp only
  cases ρ1[i]? with
  | none=>rfl
  | some s =>
   cases s with
   | none=>rfl
   | some s =>
    cases s with
    | val d=>rfl
    | exn=>rfl
    | own b d=>simp only; cases f d ds <;> rfl
@[simp] theorem x_mNext {ρ:Rho}:mNext ρ=.nx ρ:=rfl
@[simp] theorem x_mSeq {m1 m2:MS}{ρ:Rho}:mSeq m1 m2 ρ=seqS (m1 ρ) m2:=by unfold mSeq seqS; cases m1 ρ <;> rfl
@[simp] theorem x_setRv {i:Nat}{d:D}{ρ:Rho}:setR i (.val d) ρ=if i<ρ.length then .nx (ρ.set i (some (.val d))) else .stuck:=rfl
@[simp] theorem x_setRn {i:Nat}{d:D}{ρ:Rho}:setR i (.new d) ρ=if i<ρ.length then .nx (ρ.set i (some (.own none d))) else .stuck:=rfl
@[simp] theorem x_setRa {i j:Nat}{ρ:Rho}:setR i (.at j) ρ=if i<ρ.length then optS (PyD.settle (.at j) ρ) fun p=>.nx (p.2.set i (some (.val p.1))) else .stuck:=by
 show (if i<ρ.length then (match PyD.settle (.at j) ρ with | some (d,ρ1)=>SOut.nx (ρ1.set i (some (.val d))) | none=>.stuck) else .stuck)=_
 split
 ·cases PyD.settle (.at j) ρ <;> rfl
 ·rfl
@[simp] theorem x_mSet {i:Nat}{m:M}{ρ:Rho}:mSet i m ρ=bindSO (m ρ) fun r ρ1=>setR i r ρ1:=rfl
@[simp] theorem x_mExpr {m:M}{ρ:Rho}:mExpr m ρ=bindSO (m ρ) fun _ ρ1=>.nx ρ1:=rfl
@[simp] theorem x_retRv {d:D}{ρ:Rho}:retR (.val d) ρ=.ret (.val d) ρ:=rfl
@[simp] theorem x_retRn {d:D}{ρ:Rho}:retR (.new d) ρ=.ret (.new d) ρ:=rfl
def retA (o:Option (Option Slot))(j:Nat)(ρ:Rho):SOut:=match o with
 | some (some (.val d))=>.ret (.val d) ρ
 | some (some (.own none d))=>.ret (.new d) (ρ.set j none)
 | _=>.stuck
@[simp] theorem x_retAv {d:D}{j:Nat}{ρ:Rho}:retA (some (some (.val d))) j ρ=.ret (.val d) ρ:=rfl
@[simp] theorem x_retAo {d:D}{j:Nat}{ρ:Rho}:retA (some (some (.own none d))) j ρ=.ret (.new d) (ρ.set j none):=rfl
@[simp] theorem x_retRa {j:Nat}{ρ:Rho}:retR (.at j) ρ=retA ρ[j]? j ρ:=by unfold retR retA; rfl
@[simp] theorem x_mRet {m:M}{ρ:Rho}:mRet m ρ=bindSO (m ρ) fun r ρ1=>retR r ρ1:=rfl
@[simp] theorem x_mIfS {t:MB}{m1 m2:MS}{ρ:Rho}:mIfS t m1 m2 ρ=bindSO (t ρ) fun k ρ1=>if k=true then m1 ρ1 else m2 ρ1:=rfl
@[simp] theorem x_gN {i:Nat}{d:D}{ρ:Rho}:gN i d ρ=if i<ρ.length then some (ρ.set i (some (.val d))) else none:=rfl
@[simp] theorem x_gsNil {ρ:Rho}:gsNil [] ρ=some ρ:=rfl
@[simp] theorem x_gsCons {f:Tg}{g:Tgs}{d:D}{ds:List D}{ρ:Rho}:gsCons f g (d::ds) ρ=(f d ρ).bind fun ρ1=>g ds ρ1:=rfl
@[simp] theorem x_gT {n:Nat}{g:Tgs}{ds:List D}{ρ:Rho}:gT n g (.tup ds) ρ=if ds.length=n then g ds ρ else none:=rfl
@[simp] theorem x_storeR {rv ri:Res}{s:Nat}{ρ:Rho}:storeR rv (.at s) ri ρ=optS (PyD.settle rv ρ) fun p=>optS (ownO p.2[s]?) fun q=>optS (resolve p.2 ri) fun i=>optS (setD q.2 i p.1) fun c=>.nx (p.2.set s (some (.own q.1 c))):=by
 simp only [storeR,optS,ownO]
 cases PyD.settle rv ρ with
 | none=>rfl
 | some p =>
  obtain ⟨d,ρ1⟩:=p
  simp only
  cases ρ1[s]? with
  | none=>rfl
  | some sl =>
   cases sl with
   | none=>rfl
   | some sl =>
    cases sl with
    | val d=>rfl
    | exn=>rfl
    | own b d2 =>
     simp only
     cases resolve ρ1 ri with
     | none=>rfl
     | some i=>simp only; cases setD d2 i d <;> rfl
@[simp] theorem x_mStore {mo mi me:M}{ρ:Rho}:mStore mo mi me ρ=bindSF (me ρ) fun rv ρ1=>bindSF (mo ρ1) fun ro ρ2=>bindSF (mi ρ2) fun ri ρ3=>storeR rv ro ri ρ3:=rfl
@[simp] theorem x_itemsL {xs:List D}:itemsD (.lst xs)=some xs:=rfl
@[simp] theorem x_itemsT {xs:List D}:itemsD (.tup xs)=some xs:=rfl
@[simp] theorem x_itemsS {z:Str}:itemsD (.str z)=some (signsD z):=rfl
@[simp] theorem x_itemsR {r:Res}{ρ:Rho}:itemsR r ρ=optO (PyD.settle r ρ) fun p=>optO (itemsD p.1) fun ds=>.ok ds p.2:=by
 unfold itemsR optO
 cases PyD.settle r ρ with
 | none=>rfl
 | some p=>obtain ⟨d,ρ1⟩:=p; simp only; cases itemsD d <;> rfl
@[simp] theorem x_iSeq {m:M}{ρ:Rho}:iSeq m ρ=bindF (m ρ) fun r ρ1=>itemsR r ρ1:=rfl
def rng1 (o:Option (List D))(ρ:Rho):Out (List D):=match o with
 | some [.int j]=>if decide (-(2 ^ 62)≤j)&&decide (j<2 ^ 62) then .ok (rangeD 0 j.toNat) ρ else .stuck
 | _=>.stuck
@[simp] theorem x_rng1 {j:Int}{ρ:Rho}:rng1 (some [.int j]) ρ=if decide (-(2 ^ 62)≤j)&&decide (j<2 ^ 62) then .ok (rangeD 0 j.toNat) ρ else .stuck:=rfl
@[simp] theorem x_iRange {ma:MA}{ρ:Rho}:iRange ma ρ=bindO (ma ρ) fun rs ρ1=>rng1 (resolves ρ1 rs) ρ1:=rfl
@[simp] theorem x_forN {f:Tg}{b:MS}{ρ:Rho}:forD f b [] ρ=.nx ρ:=rfl
@[simp] theorem x_forC {f:Tg}{b:MS}{d:D}{ds:List D}{ρ:Rho}:forD f b (d::ds) ρ=optS (f d ρ) fun ρ1=>loopS (b ρ1) fun ρ2=>forD f b ds ρ2:=by
 simp only [forD,optS,loopS]
 cases f d ρ with
 | none=>rfl
 | some ρ1=>simp only <;> cases b ρ1 <;> rfl
@[simp] theorem x_mFor {mi:MI}{f:Tg}{b:MS}{ρ:Rho}:mFor mi f b ρ=bindSO (mi ρ) fun ds ρ1=>forD f b ds ρ1:=rfl
@[simp] theorem x_lcN {vs:List Nat}{f:Tg}{t:MB}{me:M}{acc:List D}{ρ:Rho}:lcD vs f t me [] acc ρ=.ok acc ρ:=rfl
theorem x_lcC {vs:List Nat}{f:Tg}{t:MB}{me:M}{d:D}{ds acc:List D}{ρ:Rho}:lcD vs f t me (d::ds) acc ρ=optO (f d ρ) fun ρ1=>bindN (t ρ1) fun k ρ2=>if k=true then bindN (me ρ2) fun r ρ3=>optO (PyD.settle r.frz ρ3) fun p=>if acc.length<sizeLine then lcD vs f t me ds (acc++[p.1]) (wipeR p.2 vs) else .stuck
  else lcD vs f t me ds acc (wipeR ρ2 vs):=by
 simp only [lcD,optO,bindN]
 cases f d ρ with
 | none=>rfl
 | some ρ1 =>
  simp only
  cases t ρ1 with
  | ok k ρ2 =>
   cases k with
   | true =>
    simp only [if_true]
    cases me ρ2 with
    | ok r ρ3 =>
     simp only
     cases PyD.settle r.frz ρ3 with
     | none=>rfl
     | some p=>rfl
    | exc x ρ3=>rfl
    | stuck=>rfl
   | false=>rfl
  | exc x ρ2=>rfl
  | stuck=>rfl
def lcF (o:Out (List D)):Out Res:=match o with | .ok acc ρ=>.ok (.new (.lst acc)) ρ | _=>.stuck
@[simp] theorem x_lcF {acc:List D}{ρ:Rho}:lcF (.ok acc ρ)=.ok (.new (.lst acc)) ρ:=rfl
@[simp] theorem x_mLc {vs:List Nat}{mi:MI}{f:Tg}{t:MB}{me:M}{ρ:Rho}:mLc vs mi f t me ρ=bindO (mi ρ) fun ds ρ1=>lcF (lcD vs f t me ds [] (wipeR ρ1 vs)):=rfl
@[simp] theorem x_frzV {d:D}:(Res.val d).frz=.val d:=rfl
@[simp] theorem x_frzN {d:D}:(Res.new d).frz=.val (strip d):=rfl
@[simp] theorem x_frzA {i:Nat}:(Res.at i).frz=.at i:=rfl
def cRet (o:FOut)(as:List BArg)(ρ:Rho):Out Res:=match o with
 | .ret r os=>optO (wb as os ρ) fun ρ2=>.ok r ρ2
 | .exc x os=>(match wb as os ρ with | some ρ2=>.exc x ρ2 | none=>.stuck)
 | .stuck=>.stuck
@[simp] theorem x_cRet {r:Res}{os:List D}{as:List BArg}{ρ:Rho}:cRet (.ret r os) as ρ=optO (wb as os ρ) fun ρ2=>.ok r ρ2:=rfl
def excO (x:Exc)(o:Option Rho):Out Res:=match o with | some ρ=>.exc x ρ | none=>.stuck
@[simp] theorem x_excO {x:Exc}{ρ:Rho}:excO x (some ρ)=.exc x ρ:=rfl
@[simp] theorem x_cRetx {x:Exc}{os:List D}{as:List BArg}{ρ:Rho}:cRet (.exc x os) as ρ=excO x (wb as os ρ):=rfl
@[simp] theorem x_callR {mk:List Bool}{f:Fn}{rs:List Res}{ρ:Rho}:callR mk f rs ρ=optO (prep1 mk rs ρ) fun p=>optO (prep2 p.2 p.1) fun as=>cRet (f (as.map BArg.strip)) as p.2:=by
 simp only [callR,optO,cRet]
 cases prep1 mk rs ρ with
 | none=>rfl
 | some p =>
  obtain ⟨ms,ρ1⟩:=p
  simp only
  cases prep2 ρ1 ms with
  | none=>rfl
  | some as =>
   simp only
   cases f (as.map BArg.strip) with
   | ret r os=>simp only; cases wb as os ρ1 <;> rfl
   | exc x os=>rfl
   | stuck=>rfl
@[simp] theorem x_mCall {n:Nat}{mk:List Bool}{f:Fn}{ma:MA}{ρ:Rho}:mCall n mk f ma ρ=bindO (ma ρ) fun rs ρ1=>if rs.length=n then callR mk f rs ρ1 else .stuck:=rfl
@[simp] theorem x_p1N {mk:List Bool}{ρ:Rho}:prep1 mk [] ρ=some ([],ρ):=by cases mk <;> rfl
def p1C (o:Option (D×Rho))(k:Rho→Option (List (D ⊕ Nat)×Rho)):Option (List (D ⊕ Nat)×Rho):=match o with
 | some (d,ρ)=>(k ρ).map fun p=>(.inl d::p.1,p.2)
 | none=>none
@[simp] theorem x_p1C {d:D}{ρ:Rho}{k:Rho→Option (List (D ⊕ Nat)×Rho)}:p1C (some (d,ρ)) k=(k ρ).map fun p=>(.inl d::p.1,p.2):=rfl
theorem p1_aux {mk:List Bool}{r:Res}{rs:List Res}{ρ:Rho}:(match PyD.settle r ρ with
  | some (d,ρ1)=>(match prep1 mk.tail rs ρ1 with
   | some (ms,ρ2)=>some (Sum.inl d::ms,ρ2)
   | none=>none)
  | none=>none)=p1C (PyD.settle r ρ) fun ρ1=>prep1 mk.tail rs ρ1:=by
 unfold p1C
 cases PyD.settle r ρ with
 | none=>rfl
 | some p =>
  simp only
  cases prep1 mk.tail rs p.2 <;> rfl
@[simp] theorem x_p1V {mk:List Bool}{d:D}{rs:List Res}{ρ:Rho}:prep1 mk (.val d::rs) ρ=p1C (PyD.settle (.val d) ρ) fun ρ1=>prep1 mk.tail rs ρ1:=by
 rw [← p1_aux]
 cases mk with
 | nil=>rfl
 | cons b bs=>cases b <;> rfl
@[simp] theorem x_p1F {mk:List Bool}{i:Nat}{rs:List Res}{ρ:Rho}:prep1 (false::mk) (.at i::rs) ρ=p1C (PyD.settle (.at i) ρ) fun ρ1=>prep1 mk rs ρ1:=by
 rw [show (fun ρ1=>prep1 mk rs ρ1)=(fun ρ1=>prep1 (false::mk).tail rs ρ1) from rfl,← p1_aux]; rfl
@[simp] theorem x_p1E {i:Nat}{rs:List Res}{ρ:Rho}:prep1 [] (.at i::rs) ρ=p1C (PyD.settle (.at i) ρ) fun ρ1=>prep1 [] rs ρ1:=by
 rw [show (fun ρ1=>prep1 [] rs ρ1)=(fun ρ1=>prep1 ([]:List Bool).tail rs ρ1) from rfl,← p1_aux]; rfl
@[simp] theorem x_p1T {mk:List Bool}{i:Nat}{rs:List Res}{ρ:Rho}:prep1 (true::mk) (.at i::rs) ρ=(prep1 mk rs ρ).map fun p=>(.inr i::p.1,p.2):=by
 show (match prep1 mk rs ρ with | some (ms,ρ2)=>some (Sum.inr i::ms,ρ2) | none=>none)=_
 cases prep1 mk rs ρ <;> rfl
@[simp] theorem x_p2N {ρ:Rho}:prep2 ρ []=some []:=rfl
@[simp] theorem x_p2V {ρ:Rho}{d:D}{ms:List (D ⊕ Nat)}:prep2 ρ (.inl d::ms)=(prep2 ρ ms).map (.v d::·):=rfl
def p2A (o:Option (Option Slot))(i:Nat)(r:Option (List BArg)):Option (List BArg):=match o with
 | some (some (.own b d))=>r.bind fun as=>if i∈idx as then none else some (.o i b d::as)
 | some (some (.val d))=>r.map (.v d::·)
 | _=>none
@[simp] theorem x_p2Ao {b:Option Nat}{d:D}{i:Nat}{r:Option (List BArg)}:p2A (some (some (.own b d))) i r=r.bind fun as=>if i∈idx as then none else some (.o i b d::as):=rfl
@[simp] theorem x_p2Av {d:D}{i:Nat}{r:Option (List BArg)}:p2A (some (some (.val d))) i r=r.map (.v d::·):=rfl
@[simp] theorem x_p2A {ρ:Rho}{i:Nat}{ms:List (D ⊕ Nat)}:prep2 ρ (.inr i::ms)=p2A ρ[i]? i (prep2 ρ ms):=by
 simp only [prep2,p2A]
 cases ρ[i]? with
 | none=>rfl
 | some s =>
  cases s with
  | none=>rfl
  | some s =>
   cases s with
   | val d=>rfl
   | exn=>rfl
   | own b d=>simp only; cases prep2 ρ ms <;> rfl
@[simp] theorem x_idxN:idx []=[]:=rfl
@[simp] theorem x_idxV {d:D}{as:List BArg}:idx (.v d::as)=idx as:=rfl
@[simp] theorem x_idxO {i:Nat}{b:Option Nat}{d:D}{as:List BArg}:idx (.o i b d::as)=i::idx as:=rfl
@[simp] theorem x_strV {d:D}:(BArg.v d).strip=.v d:=rfl
@[simp] theorem x_strO {i:Nat}{b:Option Nat}{d:D}:(BArg.o i b d).strip=.o d:=rfl
@[simp] theorem x_wbN {ρ:Rho}:wb [] [] ρ=some ρ:=rfl
@[simp] theorem x_wbV {d:D}{as:List BArg}{os:List D}{ρ:Rho}:wb (.v d::as) os ρ=wb as os ρ:=by cases os <;> rfl
@[simp] theorem x_wbO {i:Nat}{b:Option Nat}{d d':D}{as:List BArg}{os:List D}{ρ:Rho}:wb (.o i b d::as) (d'::os) ρ=(wb as os ρ).map fun ρ=>ρ.set i (some (.own b d')):=rfl
def finS (as:List Arg)(o:SOut):FOut:=match o with
 | .nx ρ=>optF (outsOf ρ 0 as) fun os=>.ret (.val .non) os
 | .ret (.val d) ρ=>optF (outsOf ρ 0 as) fun os=>.ret (.val d) os
 | .ret (.new d) ρ=>optF (outsOf ρ 0 as) fun os=>.ret (.new d) os
 | .exc x ρ=>optF (outsOf ρ 0 as) fun os=>.exc x os
 | _=>.stuck
@[simp] theorem x_finSn {as:List Arg}{ρ:Rho}:finS as (.nx ρ)=optF (outsOf ρ 0 as) fun os=>.ret (.val .non) os:=rfl
@[simp] theorem x_finSv {as:List Arg}{d:D}{ρ:Rho}:finS as (.ret (.val d) ρ)=optF (outsOf ρ 0 as) fun os=>.ret (.val d) os:=rfl
@[simp] theorem x_finSw {as:List Arg}{d:D}{ρ:Rho}:finS as (.ret (.new d) ρ)=optF (outsOf ρ 0 as) fun os=>.ret (.new d) os:=rfl
@[simp] theorem x_finSx {as:List Arg}{x:Exc}{ρ:Rho}:finS as (.exc x ρ)=optF (outsOf ρ 0 as) fun os=>.exc x os:=rfl
theorem x_mkFn {nl:Nat}{m:MS}{as:List Arg}:mkFn nl m as=finS as (m (slotsOf 0 as++List.replicate nl none)):=by
 simp only [mkFn,finS,fin,optF]
 cases m (slotsOf 0 as++List.replicate nl none) with
 | ret r ρ=>cases r <;> first | rfl | (simp only; cases outsOf ρ 0 as <;> rfl)
 | nx ρ=>simp only; cases outsOf ρ 0 as <;> rfl
 | exc x ρ=>simp only; cases outsOf ρ 0 as <;> rfl
 | _=>rfl
@[simp] theorem x_slN {k:Nat}:slotsOf k []=[]:=rfl
@[simp] theorem x_slV {k:Nat}{d:D}{as:List Arg}:slotsOf k (.v d::as)=some (.val d)::slotsOf (k+1) as:=rfl
@[simp] theorem x_slO {k:Nat}{d:D}{as:List Arg}:slotsOf k (.o d::as)=some (.own (some k) d)::slotsOf (k+1) as:=rfl
@[simp] theorem x_outN {ρ:Rho}{k:Nat}:outsOf ρ k []=some []:=rfl
@[simp] theorem x_outV {ρ:Rho}{k:Nat}{d:D}{as:List Arg}:outsOf ρ k (.v d::as)=outsOf ρ (k+1) as:=rfl
def outA (o:Option (Option Slot))(k:Nat)(r:Option (List D)):Option (List D):=match o with
 | some (some (.own (some j) d))=>if j=k then r.map (d::·) else none
 | _=>none
@[simp] theorem x_outA {j:Nat}{d:D}{k:Nat}{r:Option (List D)}:outA (some (some (.own (some j) d))) k r=if j=k then r.map (d::·) else none:=rfl
@[simp] theorem x_outO {ρ:Rho}{k:Nat}{d:D}{as:List Arg}:outsOf ρ k (.o d::as)=outA ρ[k]? k (outsOf ρ (k+1) as):=by
 cases h:ρ[k]? with
 | none=>simp only [outsOf,outA,h]
 | some s =>
  cases s with
  | none=>simp only [outsOf,outA,h]
  | some s =>
   cases s with
   | val d=>simp only [outsOf,outA,h]
   | exn=>simp only [outsOf,outA,h]
   | own b d=>cases b <;> simp only [outsOf,outA,h]
@[simp] theorem x_wipeN {ρ:Rho}:wipeR ρ []=ρ:=rfl
@[simp] theorem x_wipeC {ρ:Rho}{v:Nat}{vs:List Nat}:wipeR ρ (v::vs)=(wipeR ρ vs).set v none:=rfl
@[simp] theorem x_addI {i j:Int}:addD (.int i) (.int j)=some (.val (.int (i+j))):=rfl
@[simp] theorem x_addS {i j:Str}:addD (.str i) (.str j)=if i.length+j.length≤sizeLine then some (.val (.str (i++j))) else none:=by
 by_cases h:i.length+j.length≤sizeLine <;> simp [addD,orF,fII,fAddS,h,fAddT,fAddL]
@[simp] theorem x_addL {i j:List D}:addD (.lst i) (.lst j)=if i.length+j.length≤sizeLine then some (.new (.lst (i++j))) else none:=rfl
@[simp] theorem x_addT {i j:List D}:addD (.tup i) (.tup j)=if i.length+j.length≤sizeLine then some (.val (.tup (i++j))) else none:=by
 by_cases h:i.length+j.length≤sizeLine <;> simp [addD,orF,fII,fAddS,h,fAddT,fAddL]
@[simp] theorem x_subI {i j:Int}:subD (.int i) (.int j)=some (.val (.int (i-j))):=rfl
@[simp] theorem x_mulI {i j:Int}:mulD (.int i) (.int j)=if mulC i j then some (.val (.int (i * j))) else none:=by
 simp only [mulD,orF,fII]; split
 ·split at * <;> simp_all
 ·rename_i h; split at h <;> simp_all [fRepL,fRepT]
@[simp] theorem x_fdivI {i j:Int}:fdivD (.int i) (.int j)=if divC i j then some (.val (.int (i / j))) else none:=rfl
@[simp] theorem x_modI {i j:Int}:modD (.int i) (.int j)=if 0<j then some (.val (.int (i % j))) else none:=by
 simp only [modD,fII,decide_eq_true_eq]
@[simp] theorem x_ltI {i j:Int}:ltD (.int i) (.int j)=some (.val (.bl (decide (i<j)))):=rfl
@[simp] theorem x_leI {i j:Int}:leD (.int i) (.int j)=some (.val (.bl (decide (i≤j)))):=rfl
@[simp] theorem x_gtI {i j:Int}:gtD (.int i) (.int j)=some (.val (.bl (decide (j<i)))):=rfl
@[simp] theorem x_geI {i j:Int}:geD (.int i) (.int j)=some (.val (.bl (decide (j≤i)))):=rfl
@[simp] theorem x_ltS {i j:Str}:ltD (.str i) (.str j)=some (.val (.bl (decide (i.cps.toList<j.cps.toList)))):=rfl
@[simp] theorem x_ixL {xs:List D}{i:Int}:ixD (.lst xs) (.int i)=(atI xs i).map .val:=rfl
@[simp] theorem x_ixT {xs:List D}{i:Int}:ixD (.tup xs) (.int i)=(atI xs i).map .val:=rfl
@[simp] theorem x_ixR {xs:List Int}{i:Int}:ixD (.scr xs) (.int i)=(atI xs i).map fun n=>.val (.int n):=rfl
@[simp] theorem x_ixS {z:Str}{i:Int}:ixD (.str z) (.int i)=if z.length≤sizeLine then (atI z.cps.toList i).map fun c=>.val (.str ⟨#[c]⟩) else none:=rfl
@[simp] theorem x_isB {a b:Bool}:isD (.bl a) (.bl b)=some (.val (.bl (decide (a=b)))):=by simp [isD,orF,fIsB]
@[simp] theorem x_isNB {a b:Bool}:isNotD (.bl a) (.bl b)=some (.val (.bl (!decide (a=b)))):=by simp [isNotD,orF,fIsB]
@[simp] theorem x_isNn {x:D}(h:x≠.any):isD x .non=some (.val (.bl (isN x))):=by cases x <;> first | rfl | exact absurd rfl h
@[simp] theorem x_isNotN {x:D}(h:x≠.any):isNotD x .non=some (.val (.bl (!isN x))):=by cases x <;> first | rfl | exact absurd rfl h
@[simp] theorem x_intDi {i:Int}:intD [.int i]=some (.val (.int i)):=rfl
@[simp] theorem x_intDb {b:Bool}:intD [.bl b]=some (.val (.int (if b then 1 else 0))):=rfl
@[simp] theorem x_maxD {i j:Int}:maxD [.int i,.int j]=some (.val (.int (if j>i then j else i))):=rfl
@[simp] theorem x_minD {i j:Int}:minD [.int i,.int j]=some (.val (.int (if j<i then j else i))):=rfl
@[simp] theorem x_absD {i:Int}:absD [.int i]=some (.val (.int (if i<0 then -i else i))):=rfl
@[simp] theorem x_lenDl {xs:List D}:lenD [.lst xs]=some (.val (.int (xs.length:Nat))):=rfl
@[simp] theorem x_lenDt {xs:List D}:lenD [.tup xs]=some (.val (.int (xs.length:Nat))):=rfl
@[simp] theorem x_lenDr {xs:List Int}:lenD [.scr xs]=some (.val (.int (xs.length:Nat))):=rfl
@[simp] theorem x_lenDd {xs:List (Key×D)}:lenD [.dct xs]=some (.val (.int (xs.length:Nat))):=rfl
@[simp] theorem x_lenDs {z:Str}:lenD [.str z]=if z.length≤sizeLine then some (.val (.int (z.length:Nat))) else none:=by
 simp only [lenD,lenN]; split <;> rfl
@[simp] theorem x_tupD {ds:List D}:tupD ds=if ds.length≤sizeLine then some (.val (.tup ds)) else none:=rfl
@[simp] theorem x_lstD {ds:List D}:lstD ds=if ds.length≤sizeLine then some (.new (.lst ds)) else none:=rfl
@[simp] theorem x_listT {xs:List D}:listD [.tup xs]=some (.new (.lst xs)):=rfl
@[simp] theorem x_listL {xs:List D}:listD [.lst xs]=some (.new (.lst xs)):=rfl
@[simp] theorem x_tupleT {xs:List D}:tupleD [.tup xs]=some (.val (.tup xs)):=rfl
@[simp] theorem x_tupleL {xs:List D}:tupleD [.lst xs]=some (.val (.tup xs)):=rfl
@[simp] theorem x_sz:sizeLine=16777216:=sizeLine_eq
theorem ofS_inj {a b:String}:(Str.ofString a=Str.ofString b)↔a=b:=by
 constructor
 ·intro h
  rw [Str.ofString_eq_toList,Str.ofString_eq_toList] at h
  have h1:a.toList.map Char.toNat=b.toList.map Char.toNat:=by
   have:=congrArg Str.cps h
   simpa using congrArg Array.toList this
  have inj:∀ x y:List Char,x.map Char.toNat=y.map Char.toNat→x=y:=fun x=>by
   induction x with
   | nil=>intro y h; cases y with | nil=>rfl | cons c y=>simp at h
   | cons c x ih =>
    intro y h
    cases y with
    | nil=>simp at h
    | cons d y =>
     simp only [List.map_cons,List.cons.injEq] at h
     rw [ih y h.2]
     have:c=d:=by
      have e:=h.1
      exact Char.ext (UInt32.toNat_inj.mp e)
     rw [this]
  exact String.toList_inj.mp (inj _ _ h1)
 ·intro h; rw [h]
@[simp] theorem x_ofS {a b:String}:decide (Str.ofString a=Str.ofString b)=decide (a=b):=by simp only [ofS_inj]
@[simp] theorem x_eqS {a b:Str}:eqD (.str a) (.str b)=some (.val (.bl (decide (a=b)))):=rfl
@[simp] theorem x_eqI {a b:Int}:eqD (.int a) (.int b)=some (.val (.bl (decide (a=b)))):=rfl
@[simp] theorem x_eqBl {a b:Bool}:eqD (.bl a) (.bl b)=some (.val (.bl (decide (a=b)))):=rfl
@[simp] theorem x_eqNI {b:Int}:eqD .non (.int b)=some (.val (.bl false)):=rfl
@[simp] theorem x_eqIN {b:Int}:eqD (.int b) .non=some (.val (.bl false)):=rfl
@[simp] theorem x_neS {a b:Str}:neD (.str a) (.str b)=some (.val (.bl (!decide (a=b)))):=rfl
@[simp] theorem x_neI {a b:Int}:neD (.int a) (.int b)=some (.val (.bl (!decide (a=b)))):=rfl
@[simp] theorem x_neBl {a b:Bool}:neD (.bl a) (.bl b)=some (.val (.bl (!decide (a=b)))):=rfl
structure Pl where
 a:Int
 b:Int
 h:0≤a∧0≤b∧b<2147483647
def poolD (p:Pl):D:=.lst [.int p.a,.int p.b]
def pd (p:Pl)(n:Int):Int:=if 0<p.a then p.a % n else (p.b * 48271+11) % 2147483647 * ((p.b * 48271+11) % 2147483647) % 2147483629 / 16 % n
def pn (p:Pl)(n:Int):Pl:=if h:0<p.a∧0<n then ⟨p.a / n,p.b,Int.ediv_nonneg p.h.1 (Int.le_of_lt h.2),p.h.2⟩ else if 0<p.a then p else ⟨p.a,(p.b * 48271+11) % 2147483647,p.h.1,Int.emod_nonneg _ (by decide),Int.emod_lt_of_pos _ (by decide)⟩
theorem pd_nonneg (p:Pl){n:Int}(h:0<n):0≤pd p n:=by
 unfold pd; split <;> exact Int.emod_nonneg _ (by omega)
theorem pd_lt (p:Pl){n:Int}(h:0<n):pd p n<n:=by
 unfold pd; split <;> exact Int.emod_lt_of_pos _ h
theorem mulC_l {i j:Int}(h:-(2 ^ 64)<i)(h2:i<2 ^ 64):mulC i j=true:=by unfold mulC; simp; omega
theorem mulC_r {i j:Int}(h:-(2 ^ 64)<j)(h2:j<2 ^ 64):mulC i j=true:=by unfold mulC; simp; omega
theorem atI_of {α:Type}{xs:List α}{i:Int}(h:0≤i)(h2:i<xs.length):L2.atI xs i=xs[i.toNat]?:=by
 unfold L2.atI ixN
 simp [h,h2]
def fldD (T:Tab)(f:Str):D→Option Res
 | .obj c fs=>if c<T.n∧f∈T.flds c then (fs.lookup f).map .val else none
 | .objO c fs=>if c<T.n∧f∈T.flds c then (gV f fs).bind fun d=>if isKid d=true then none else some (.val d) else none
 | _=>none
def clsD:D→Option Nat
 | .obj c _=>some c
 | .objO c _=>some c
 | _=>none
theorem lookup_g {β:Type}{f:Str}:∀ fs:List (Str×β),fs.lookup f=gV f fs
 | []=>rfl
 | (k,v)::r=>by
  rw [List.lookup_cons]
  simp only [gV]
  by_cases z:k=f
  ·subst z; simp
  ·rw [if_neg z,beq_eq_false_iff_ne.mpr (Ne.symm z)]
   exact lookup_g r
theorem putF_g {f:Str}{v:V}:∀ fs:List (Str×V),putF f v fs=gP f v fs
 | []=>rfl
 | (k,w)::r=>by
  simp only [gP]
  unfold putF
  by_cases z:k=f
  ·simp only [z,if_true]
  ·simp only [if_neg z,putF_g r]
theorem gV_none {α β β':Type}[DecidableEq α]{k:α}:∀ {xs:List (α×β)} {ys:List (α×β')},xs.map (·.1)=ys.map (·.1)→gV k ys=none→gV k xs=none
 | [],[],_,_=>rfl
 | [],_::_,h,_=>by simp at h
 | _::_,[],h,_=>by simp at h
 | (k1,v)::r,(k2,w)::s,h,e=>by
  simp only [List.map_cons,List.cons.injEq] at h
  obtain ⟨rfl,h⟩:=h
  simp only [gV] at e ⊢
  by_cases z:k1=k
  ·rw [if_pos z] at e; cases e
  ·rw [if_neg z] at e ⊢; exact gV_none h e
theorem fld_view {T:Tab}{G:Gx}{F H:Hp}{x:V}{o:D}{f:Str}{res:Res}(s:Same F H)(vx:View G F H x o)(e:fldD T f o=some res) :
  ∃ a c dx fvs u d,x=.ref a∧clsD o=some c∧H a=some (.ins (G.cl c) dx fvs)∧c<T.n∧f∈T.flds c∧fvs.lookup f=some u∧res=.val d∧Dp G F u d:=by
 unfold fldD at e
 split at e
 ·rename_i c fs
  split at e
  ·rename_i w
   obtain ⟨z,e3,rfl⟩:=Option.map_eq_some_iff.mp e
   obtain ⟨a,dx,vs,rfl,h1,t⟩:=vx.obj s
   obtain ⟨u,h2,h3⟩:=t.look e3
   exact ⟨a,c,dx,vs,u,z,rfl,rfl,h1,w.1,w.2,h2,rfl,h3⟩
  ·cases e
 ·rename_i c fs
  split at e
  ·rename_i w
   obtain ⟨z,e3,e4⟩:=Option.bind_eq_some_iff.mp e
   split at e4
   ·cases e4
   ·rename_i nk
    cases e4
    obtain ⟨a,dx,vs,L,rfl,h1,t⟩:=vx.objO
    obtain ⟨u,L',h2,h3,_⟩:=kdp_get t e3
    exact ⟨a,c,dx,vs,u,z,rfl,rfl,h1,w.1,w.2,by rw [lookup_g]; exact h2,rfl,(h3.fz' (by simpa using nk)).1⟩
  ·cases e
 ·cases e
section
variable {X:Cx}{Γ:Gm}{W:WX}{e o:Expr}{m mo me:M}{pos pos':Pos}{f:Str}{T:Tab}
theorem je_fld (O:TabOk Γ.G T)(hK:X.K=Γ.G.K)(he:PE X e (tM Γ W m))(hb:attributeBase e f X.env (eval e X.env)=eval e X.env:=by rfl):PE X (.Attribute e f pos) (tM Γ W (mUn (fldD T f) m)) :=
 (pe_fld (je_f he) hb).imp fun σ H Q ⟨ρ,F,R,p⟩=>⟨ρ,F,R,p.bindF fun r ρ1 v F1 H1 s1 hr p1=>by
  unfold op1 at p1
  split at p1
  ·rename_i d e1
   split at p1
   ·rename_i res e2
    obtain ⟨a,c,dx,vs,u,z,rfl,_,h1,w1,w2,h2,rfl,h3⟩:=fld_view s1.rel.sub (hr.view s1.rel e1) e2
    rw [hK]
    exact ⟨a,_,dx,vs,u,rfl,h1,O.cls c w1,O.fld c w1 f w2,h2,p1 u F1 H1 (.refl s1.rel) h3⟩
   ·exact p1.elim
  ·exact p1.elim⟩
def putFD (T:Tab)(f:Str)(d:D):D→Option D
 | .obj c fs=>if (c<T.n∧f∈T.flds c)∧fs.length<1000 then some (.obj c (putD f d fs)) else none
 | .objO c fs=>if (c<T.n∧f∈T.flds c)∧fs.length<1000 then some (.objO c (gP f d fs)) else none
 | _=>none
theorem Ct.putF {G:Gx}{F H:Hp}{a dx:Addr}{c:Nat}{fds:List (Str×D)}{fvs:List (Str×V)}{L1 Ld:List Addr}{f:Str}{v:V}{d:D}(h:H a=some (.ins (G.cl c) dx fvs))(t:KdP G F H fvs fds L1)(n:a∉L1)(hd:Kd G F H v d Ld)(nd:∀ b∈Ld,b∉L1∧b≠a) :
  ∃ L',Ct G F (L2.upd H a (.ins (G.cl c) dx (L2.putF f v fvs))) a (.objO c (gP f d fds)) L'∧∀ b∈L',b=a∨b∈L1∨b∈Ld:=by
 obtain ⟨L',⟨q1,q2⟩,q3⟩:=kdp_put (k:=f) hd t fun b hb=>(nd b hb).1
 have na:a∉L':=fun z=>by
  rcases q3 a z with z | z
  ·exact n z
  ·exact (nd a z).2 rfl
 refine ⟨a::L',.obj (L:=L') upd_same ?_ ?_ na,fun b hb=>?_⟩
 ·rw [putF_g]; exact q1
 ·rw [putF_g]
  exact q2.mono (Same.refl _) fun b hb o w=>by rw [upd_ne (show b≠a by rintro rfl; exact na hb)]; exact w
 ·rcases List.mem_cons.mp hb with rfl | hb
  ·exact .inl rfl
  ·exact .inr (q3 b hb)
theorem Rel.putFD {T:Tab}{Γ:Gm}{ρ:Rho}{σ:St}{F H:Hp}{s:Nat}{b:Option Nat}{o o':D}{f:Str}{v:V}{d:D}(R:Rel Γ ρ σ F H)(q:ρ[s]?=some (some (.own b o)))(e:PyD.putFD T f d o=some o')(hd:Dp Γ.G F v d) :
  ∃ a c dx fvs,σ[s]?=some (some (.ref a))∧clsD o=some c∧H a=some (.ins (Γ.G.cl c) dx fvs)∧c<T.n∧f∈T.flds c∧fvs.length<1000∧Stp Γ ρ σ F H (ρ.set s (some (.own b o'))) σ F (L2.upd H a (.ins (Γ.G.cl c) dx (L2.putF f v fvs))):=by
 obtain ⟨x,L,h1,a,rfl,ce,hb⟩:=R.slot s _ q
 unfold PyD.putFD at e
 split at e
 ·rename_i c fs
  split at e
  ·rename_i w
   cases e
   obtain ⟨dx,vs,h2,t⟩:=(ce.cell rfl).1
   exact ⟨a,c,dx,vs,h1,rfl,h2,w.1.1,w.1.2,by rw [t.length]; exact w.2,R.upd q h1 ce rfl ⟨dx,_,upd_same,t.put hd⟩⟩
  ·cases e
 ·rename_i c fs
  split at e
  ·rename_i w
   cases e
   have ce0:=ce
   cases ce with
   | flat z=>exact z.elim
   | obj h e t n =>
    rename_i dx vs L1
    obtain ⟨L',ct,sb⟩:=Ct.putF (f:=f) (v:=v) (d:=d) h ⟨e,t⟩ n (.fz hd) (Ld:=[]) (fun b hb=>by cases hb)
    refine ⟨a,c,dx,vs,h1,rfl,h,w.1.1,w.1.2,by have:=congrArg List.length e; simp at this; rw [this]; exact w.2,R.chg q h1 ce0 (fun z hz o w=>?_) (fun z o w=>?_) ct fun z hz=>?_⟩
    ·rw [upd_ne (show z≠a by rintro rfl; exact hz (List.mem_cons_self ..))]; exact w
    ·by_cases y:z=a
     ·subst y; exact ⟨_,upd_same⟩
     ·exact ⟨o,by rw [upd_ne y]; exact w⟩
    ·rcases sb z hz with rfl | y | y
     ·exact .inl (List.mem_cons_self ..)
     ·exact .inl (List.mem_cons_of_mem _ y)
     ·cases y
  ·cases e
 ·cases e
def fldR (T:Tab)(f:Str)(rv ro:Res)(ρ:Rho):SOut:=match ro with
 | .at s=>(match settle rv ρ with
  | some (d,ρ1)=>(match ρ1[s]? with
   | some (some (.own b o))=>(match putFD T f d o with
    | some o'=>.nx (ρ1.set s (some (.own b o')))
    | none=>.stuck)
   | _=>.stuck)
  | none=>.stuck)
 | _=>.stuck
def mFldS (T:Tab)(f:Str)(mo me:M):MS:=fun ρ=>bindSF (me ρ) fun rv ρ1=>bindSF (mo ρ1) fun ro ρ2=>fldR T f rv ro ρ2
theorem js_fld (O:TabOk Γ.G T)(hK:X.K=Γ.G.K)(ho:PE X o (tM Γ W mo))(he:PE X e (tM Γ W me))(hs:swapsWith e (some (.Attribute o f pos')) pos.line X.env=pure false:=by rfl):PS X (.Assign [.Attribute o f pos'] e pos) (tMS Γ W (mFldS T f mo me)) :=
 (ps_fld (je_f ho) (je_f he) hs).imp fun D σ H ⟨ρ,F,R,p⟩=>⟨ρ,F,R,p.bindF fun rv ρ1 v F1 H1 s1 hv p1=>⟨ρ1,F1,s1.rel,p1.bindF fun ro ρ2 x F2 H2 s2 ho' p2=>by
  unfold fldR at p2
  split at p2
  ·rename_i s
   split at p2
   ·rename_i d ρ3 e1
    obtain ⟨F3,s3,q3⟩:=settle_ok s2.rel (hv.mono s2.subF) e1
    split at p2
    ·rename_i b oo e2
     split at p2
     ·rename_i oo' e3
      have ho':σ[s]?=some (some x):=ho'
      obtain ⟨a,c,dx,vs,g1,g2,g3,g4,g5,g6,st⟩:=s3.rel.putFD e2 e3 q3
      rw [ho'] at g1
      cases g1
      rw [hK]
      exact ⟨a,_,dx,vs,rfl,g3,O.cls c g4,O.fld c g4 f g5,g6,p2 σ F3 _ (s3.trans st)⟩
     ·exact p2.elim
    ·exact p2.elim
   ·exact p2.elim
  ·exact p2.elim⟩⟩
end
structure MtFact (P:Program)(w:World)(K:PySem.W.Frag)(mg:Str→Option Value)(base:Heap)(G:Gx)(Θ:List NdefX.NTab)(c:Nat)(m:Str)(n k:Nat)(ps:List Str)(g:Fn):Prop where
 ex:∃ f fd,Meth K (G.cl c) m f∧Binds K fd ps []∧FnOkG P w K mg base k f fd ps (spF G Θ n g)
def methR (c:Nat)(m:Str)(r:Res)(ρ:Rho):Bool:=match resolve ρ r with
 | some (.obj c' fs)=>c'==c&&(fs.lookup m).isNone
 | some (.objO c' fs)=>c'==c&&(gV m fs).isNone
 | _=>false
def mMeth (c:Nat)(m:Str)(n:Nat)(mk:List Bool)(f:Fn)(mo:M)(ma:MA):M:=fun ρ=>bindF (mo ρ) fun r ρ1=>if methR c m r ρ1=true then bindO (ma ρ1) fun rs ρ2=>if (r::rs).length=n then callR mk f (r::rs) ρ2 else .stuck else .stuck
section
variable {X:Cx}{Γ:Gm}{W:WX}{o e:Expr}{es:List Expr}{mo:M}{ma:MA}{pos apos:Pos}{m:Str}{c n k:Nat}{ps:List Str}{mk:List Bool}{g:Fn}
theorem methR_ok {ρ:Rho}{σ:St}{F H:Hp}{r:Res}{v:V}(R:Rel Γ ρ σ F H)(hr:RepF Γ.G σ F v r)(h:methR c m r ρ=true):∃ a dx fs,v=.ref a∧H a=some (.ins (Γ.G.cl c) dx fs)∧fs.lookup m=none:=by
 unfold methR at h
 split at h
 ·rename_i c' fs e
  obtain ⟨h1,h2⟩:=Bool.and_eq_true_iff.mp h
  obtain rfl:c'=c:=by simpa using h1
  obtain ⟨a,dx,vs,rfl,ha,t⟩:=(hr.view R e).obj R.sub
  exact ⟨a,dx,vs,rfl,ha,t.lookN (by simpa using h2)⟩
 ·rename_i c' fs e
  obtain ⟨h1,h2⟩:=Bool.and_eq_true_iff.mp h
  obtain rfl:c'=c:=by simpa using h1
  obtain ⟨a,dx,vs,L,rfl,ha,t⟩:=(hr.view R e).objO
  exact ⟨a,dx,vs,rfl,ha,by rw [lookup_g]; exact gV_none t.1 (by simpa using h2)⟩
 ·cases h
theorem je_meth {pl:Sem Bool}(tk:Takes X W)(Fo:MtFact X.prog X.w X.K X.mg X.base Γ.G Γ.T c m n k ps g)(hc:Cls X.K (Γ.G.cl c))(hr:RG k X.A)(he:PE X o (tM Γ W mo))(ha:PA X (e::es) (tMA Γ W ma))
  (hst:starEach (e::es) X.env=(false,eval e X.env)::starEach es X.env:=by rfl) (hpl:(backTo pos (starEach es X.env)).any (·.1)=false:=by rfl)
  (ht:eval (.Call (.Attribute o m apos) (e::es) [] pos) X.env=(do let ov ← eval o X.env; standAt apos.atName; let (f,first) ← holding [ov] (getMethod ov m pl); callWith pos f first (backTo pos (starEach (e::es) X.env)) (backToKw pos (keywordEach [] X.env))):=by rfl) :
  PE X (.Call (.Attribute o m apos) (e::es) [] pos) (tM Γ W (mMeth c m n mk g mo ma)):=by
 obtain ⟨f,fd,hm,hb,F1⟩:=Fo.ex
 refine ⟨fun pins s σ H Q I ⟨ρ,F,R,h⟩=>?_⟩
 refine PySem.W.methodCall_KW (pl:=pl) (thn ((je_f he).run pins s σ H (fun x H1=>∃ a dx fs,x=.ref a∧H1 a=some (.ins (Γ.G.cl c) dx fs)∧fs.lookup m=none∧tMA Γ W ma σ H1 fun vs H2=>spF Γ.G Γ.T n g (x::vs) H2 Q fun cls d H'=>W cls d σ H') I ⟨ρ,F,R,h.bindF fun r ρ1 v F1 H1 s1 hr1 p1=>?_⟩) fun u s1 ⟨x,H1,I1,rx,a,dx,fs,ex,ea,l,q⟩=>?_) ht
 ·split at p1
  ·rename_i w
   obtain ⟨a,dx,fs,rfl,ha',l⟩:=methR_ok s1.rel hr1 w
   refine ⟨a,dx,fs,rfl,ha',l,ρ1,F1,s1.rel,p1.bindA fun rs ρ2 vs F2 H2 s2 hr2 p2=>?_⟩
   exact call_go s2.rel (.cons (hr1.mono s2.subF) hr2) p2
  ·exact p1.elim
 ·subst ex
  obtain rfl:u=Value.ref a:=rx
  refine getmeth_ok I1 ea hc hm l ?_
  refine PySem.W.callWith_K (first:=[.ref a]) (h₀:=X.base) I.ok.mod.kin hm.kp (thn (ha.run pos pins s1 σ H1 _ I1 q) fun us s2 ⟨vs,H2,I2,rv,q2⟩=>⟨I2.kIn,?_⟩) hst hpl
  refine run_fnG (us:=.ref a::us) (vs:=.ref a::vs) (dvs:=[]) (ds:=[]) (E:=fun σ cls d H'=>W cls d σ H') F1 hr hb .nil (passAt tk σ) I2 (.cons rfl rv) ?_
  rw [List.append_nil]
  exact q2
end
def makeR (c:Nat)(mk:List Bool)(f:Fn)(rs:List Res)(ρ:Rho):Out Res:=match prep1 mk rs ρ with
 | some (ms,ρ1)=>(match prep2 ρ1 ms with
  | some as=>(match f (.o (.obj c [])::as.map BArg.strip) with
   | .ret (.val .non) (d::os)=>(match wb as os ρ1 with
    | some ρ2=>.ok (.new d) ρ2
    | none=>.stuck)
   | .exc x (_::os)=>(match wb as os ρ1 with
    | some ρ2=>.exc x ρ2
    | none=>.stuck)
   | _=>.stuck)
  | none=>.stuck)
 | none=>.stuck
theorem ARel.ext {G:Gx}{F H H':Hp}(e:Same H H'):∀ {vs:List V} {as:List Arg} {L:List Addr},ARel G F H vs as L→ARel G F H' vs as L
 | _,_,_,.nil=>.nil
 | _,_,_,.v h t=>.v h (t.ext e)
 | _,_,_,.o c nl t=>.o (c.mono (Same.refl _) fun b _ o q=>e b o q) nl (t.ext e)
theorem ARel.there {G:Gx}{F H:Hp}:∀ {vs:List V} {as:List Arg} {L:List Addr},ARel G F H vs as L→∀ a∈L,∃ o,H a=some o
 | _,_,_,.nil,a,h=>by cases h
 | _,_,_,.v _ t,a,h=>t.there a h
 | _,_,_,.o c nl t,a,h=>by
  rcases List.mem_append.mp h with e | h
  ·exact c.there a e
  ·exact t.there a h
theorem makeR_ok {Γ:Gm}{W:WX}{c:Nat}{mk:List Bool}{f:Fn}{rs:List Res}{ρ:Rho}{σ:St}{F H:Hp}{Q:VK}{vs:List V}{n:Nat}{x dx:Addr}(R:Rel Γ ρ σ F H)(ha:RepFs Γ.G σ F vs rs)(hn:vs.length+1=n)(hx:H x=none)(hd:H dx=none)(ne:dx≠x)(h:Post Γ W (makeR c mk f rs ρ) ρ σ F H Q) :
  spF Γ.G Γ.T n f (.ref x::vs) (upd (upd H dx (.own x)) x (.ins (Γ.G.cl c) dx [])) (fun v H2=>v=.non∧Q (.ref x) H2) (fun cls d H'=>W cls d σ H'):=by
 have eH:Same H (upd (upd H dx (.own x)) x (.ins (Γ.G.cl c) dx [])):=fun b o q=>by rw [upd_ne (ne_of_none q hx),upd_ne (ne_of_none q hd)]; exact q
 unfold makeR at h
 split at h
 ·rename_i ms ρ1 e1
  obtain ⟨F1,s1,m1⟩:=prep1_ok R ha e1
  split at h
  ·rename_i as e2
   obtain ⟨L,B⟩:=prep2_ok s1.rel m1 e2
   have AR:=B.arel s1.rel
   have al:=callU_ali s1.rel as
   have xF:F1 x=none:=Same.free s1.rel.sub hx
   have xU:¬ callU Γ ρ1 σ F1 H as x:=fun z=>by
    obtain ⟨_,o,q⟩:=al.ali x z; rw [hx] at q; cases q
   have xL:x∉L:=fun z=>by
    obtain ⟨o,q⟩:=AR.there x z
    rw [hx] at q; cases q
   have al2:Ali Γ.T (callU Γ ρ1 σ F1 H as) F1 (upd (upd H dx (.own x)) x (.ins (Γ.G.cl c) dx [])):=⟨fun a z=>by
    obtain ⟨h1,o,h2⟩:=al.ali a z; exact ⟨h1,o,eH a o h2⟩,al.tab.on.ext eH,al.tab.off,al.tab.fr⟩
   refine ⟨by simpa using hn,F1,.o (.obj c [])::as.map BArg.strip,[x]++L,callU Γ ρ1 σ F1 H as,s1.rel.sub.trans eH,.o (.flat ⟨dx,[],upd_same,.nil⟩) (fun b hb=>by rw [List.mem_singleton.mp hb]; exact xL) (AR.ext eH),fun a z=>?_,al2,?_⟩
   ·rcases List.mem_append.mp z with w | w
    ·obtain rfl:a=x:=by simpa using w
     exact ⟨xF,xU⟩
    ·exact B.off s1.rel a w
   have down:∀ {F' H':Hp},CStp Γ.T (callU Γ ρ1 σ F1 H as) F1 (upd (upd H dx (.own x)) x (.ins (Γ.G.cl c) dx [])) F' H'→CStp Γ.T (callU Γ ρ1 σ F1 H as) F1 H F' H':=fun {F' H'} C =>
    ⟨C.fh,C.subF,fun a z=>by
     obtain ⟨_,o,q⟩:=al.ali a z
     rw [C.keep a z,q,eH a o q],C.frn,fun a o q=>C.there a o (eH a o q),C.tab,C.tfr⟩
   split at h
   ·rename_i d os e3
    split at h
    ·rename_i ρ2 e4
     rw [e3]
     intro v F' H' L' C O fo q
     cases O with
     | o c' dj O' =>
      obtain ⟨s2,bk⟩:=call_stp s1.rel B (down C) O' (fun a z=>fo a (List.mem_append_right _ z)) e4
      cases q
      refine ⟨rfl,h _ F' H' (s1.trans s2) ⟨x,_,rfl,c',fun b hb=>⟨(fo b (List.mem_append_left _ hb)).1,fun z=>(fo b (List.mem_append_left _ hb)).2 (.inl z),fun z=>?_⟩⟩⟩
      rcases bk b z with w | w
      ·exact dj b hb w
      ·exact (fo b (List.mem_append_left _ hb)).2 w
    ·exact h.elim
   ·rename_i y o os e3
    split at h
    ·rename_i ρ2 e4
     rw [e3]
     intro d F' H' L' C O fo q
     cases O with
     | o c' dj O'=>exact h d F' H' (s1.trans (call_stp s1.rel B (down C) O' (fun a z=>fo a (List.mem_append_right _ z)) e4).1) q
    ·exact h.elim
   ·exact h.elim
  ·exact h.elim
 ·exact h.elim
def pick {α:Type}(p:List Nat)(l:List α):List α:=p.filterMap fun i=>l[i]?
theorem RepFs.get {G:Gx}{σ:St}{F:Hp}:∀ {vs:List V} {rs:List Res} (i:Nat),RepFs G σ F vs rs→(vs[i]?=none∧rs[i]?=none)∨∃ v r,vs[i]?=some v∧rs[i]?=some r∧RepF G σ F v r
 | _,_,_,.nil=>.inl ⟨rfl,rfl⟩
 | _,_,0,.cons h _=>.inr ⟨_,_,rfl,rfl,h⟩
 | _,_,i+1,.cons _ t=>by simpa using RepFs.get i t
theorem RepFs.pick {G:Gx}{σ:St}{F:Hp}{vs:List V}{rs:List Res}(h:RepFs G σ F vs rs):∀ p:List Nat,RepFs G σ F (pick p vs) (pick p rs)
 | []=>.nil
 | i::p=>by
  have t:=h.pick p
  unfold PyD.pick at t ⊢
  rcases h.get i with ⟨e1,e2⟩ | ⟨v,r,e1,e2,q⟩
  ·simp only [List.filterMap_cons,e1,e2]; exact t
  ·simp only [List.filterMap_cons,e1,e2]; exact .cons q t
theorem RepFs.app {G:Gx}{σ:St}{F:Hp}:∀ {vs ws:List V} {rs ts:List Res},RepFs G σ F vs rs→RepFs G σ F ws ts→RepFs G σ F (vs++ws) (rs++ts)
 | _,_,_,_,.nil,s=>s
 | _,_,_,_,.cons h t,s=>.cons h (t.app s)
theorem vals_get {vs:List V}{us:List Value}:∀ (i:Nat),Vals vs us→(vs[i]?=none∧us[i]?=none)∨∃ v u,vs[i]?=some v∧us[i]?=some u∧RelV v u:=by
 induction vs generalizing us with
 | nil=>intro i h; cases h; exact .inl ⟨rfl,rfl⟩
 | cons a vs ih =>
  intro i h
  cases h with
  | cons ha t =>
   cases i with
   | zero=>exact .inr ⟨_,_,rfl,rfl,ha⟩
   | succ i=>simpa using ih i t
theorem vals_pick {vs:List V}{us:List Value}(h:Vals vs us):∀ p:List Nat,Vals (pick p vs) (pick p us)
 | []=>.nil
 | i::p=>by
  have t:=vals_pick h p
  unfold pick at t ⊢
  rcases vals_get i h with ⟨e1,e2⟩ | ⟨v,u,e1,e2,q⟩
  ·simp only [List.filterMap_cons,e1,e2]; exact t
  ·simp only [List.filterMap_cons,e1,e2]; exact .cons q t
structure Ways (K:PySem.W.Frag)(fd:FuncData)(ps:List Str)(n:Nat)(ks:List Str)(dvs:List V)(p:List Nat):Prop where
 ex:∃ mv:List Value,Vals dvs mv∧∀ (s:Shared) (us ws:List Value),K.In s.heap→us.length=n→ws.length=ks.length→BindsTo s fd ⟨us,ks.zip ws⟩ (ps.zip (pick p (us++mv++ws)))
def Dfl (G:Gx)(dvs:List V)(dds:List D):Prop:=∀ F,DpL G F dvs dds
theorem dfl_rep {G:Gx}{σ:St}{F:Hp}:∀ {vs:List V} {ds:List D},DpL G F vs ds→RepFs G σ F vs (ds.map .val)
 | _,_,.nil=>.nil
 | _,_,.cons h t=>.cons h (dfl_rep t)
section
variable {K:PySem.W.Frag}{x qual:Str}{params:Arguments}{body:List Stmt}{scope:Scope}{dvs:List V}{kws:List (Str×V)}{f:Addr}{fd:FuncData}{ps ks:List Str}{p:List Nat}
theorem ways_all (F:FunD K x qual params body scope dvs kws f fd)(n:Nat)(hd:dvs=[])
  (h:∀ (kV doc pm:Value) (an:Option Addr) (cdv ct:Value) (us ws:List Value),us.length=n→ws.length=ks.length→bindArgs (PySem.W.fnOf x qual params body scope .none kV doc pm an cdv ct) ⟨us,ks.zip ws⟩=pure (ps.zip (pick p (us++[]++ws)))):Ways K fd ps n ks [] p:=by
 obtain ⟨oc,od,dV,kV,doc,pm,an,cdv,ct,osl,rfl,lk,hcd,hD,hK⟩:=F.ex
 subst hd
 rcases hD with ⟨_,rfl⟩ | ⟨e,_⟩
 ·exact ⟨[],.nil,fun s us ws X l1 l2=>.of_eq (h kV doc pm an cdv ct us ws l1 l2)⟩
 ·exact absurd rfl e
end
theorem run_mkw {X:Cx}{k n:Nat}{f C:Addr}{fd:FuncData}{ps ks:List Str}{sp:Sp}{E:St→XK}{dvs:List V}{p:List Nat}{pins:List (Addr×Obj)}{σ:St}{H:Hp}{s:Shared}{Q:VK}{us ws:List Value}{vs zs:List V}(M:Mk X.K C f)(F:FnOkG X.prog X.w X.K X.mg X.base k f fd ps sp)(hr:RG (k+1) X.A)(hb:Ways X.K fd ps (n+1) ks dvs p)(hx:PassesAt (L2.CX X.prog X.w) X σ (E σ))
  (I:Inv X pins σ H s) (r:Vals vs us) (rz:Vals zs ws) (l1:vs.length=n) (l2:zs.length=ks.length)
  (h:∀ x dx,H x=none→H dx=none→dx≠x→sp (pick p (.ref x::vs++dvs++zs)) (upd (upd H dx (.own x)) x (.ins C dx [])) (fun v H2=>v=.non∧Q (.ref x) H2) (E σ)) :
  wpAny (model X.prog X.w) X.A (call (.ref C) us (ks.zip ws)) (EP X pins σ Q) X.xe s:=by
 obtain ⟨mv,rm,to⟩:=hb.ex
 have I2:=Inv.made (C:=C) I
 have fr1:H (s.heap.objs.size+1)=none:=I.hok.fresh (Nat.le_succ _)
 have fr2:H s.heap.objs.size=none:=I.hok.fresh (Nat.le_refl _)
 have hq:=h _ _ fr1 fr2 (Nat.ne_of_lt (Nat.lt_succ_self _))
 have rs:Vals (V.ref (s.heap.objs.size+1)::vs) (Value.ref (s.heap.objs.size+1)::us):=.cons rfl r
 have rv:=vals_pick ((rs.append rm).append rz) p
 have ls:(Value.ref (s.heap.objs.size+1)::us).length=n+1:=by rw [← rs.length,List.length_cons,l1]
 have run:=F.run _ X.stack _ _ ⟨Value.ref (s.heap.objs.size+1)::us,ks.zip ws⟩ _ _ _ (E σ) (hr.make C us (ks.zip ws)) (I2.env0.make C us (ks.zip ws)) (to _ _ ws I2.kIn ls (rz.length.symm.trans l2)) rv hq
 refine wpAny_call (make_map (f:=f) I.kIn M.makes M.init (beq_iff_eq.mp M.fn) (codeAny_mono run fun r s' hq'=>?_))
 cases r with
 | error e=>exact hx pins _ _ e s' I2 hq'
 | ok fl=>cases fl with
  | ret u =>
   obtain ⟨v,H',I3,rv',ev,q3⟩:=I2.after hq'
   subst ev
   exact ⟨rv',⟨.ref _,H',I3,rfl,q3⟩⟩
  | _=>exact (show False from hq').elim
def outW (ok:Bool)(o:Out Res):Out Res:=if ok=true then o else .stuck
def mMakeW (c n nk np:Nat)(q:List Nat)(dds:List D)(mk:List Bool)(f:Fn)(ma mz:MA):M:=fun ρ=>bindO (ma ρ) fun rs ρ1=>bindO (mz ρ1) fun zs ρ2 =>
 outW (rs.length==n&&zs.length==nk&&(pick q (rs++dds.map .val++zs)).length+1==np) (makeR c mk f (pick q (rs++dds.map .val++zs)) ρ2)
theorem pick_self {α:Type}(x:α)(q:List Nat)(l:List α):pick (0::q.map (·+1)) (x::l)=x::pick q l:=by
 unfold pick
 simp only [List.filterMap_cons,List.getElem?_cons_zero]
 congr 1
 rw [List.filterMap_map]
 congr 1
section
variable {X:Cx}{Γ:Gm}{W:WX}
theorem makeW_go {ρ:Rho}{σ:St}{F H:Hp}{Q:VK}{rs ts:List Res}{vs zs dvs:List V}{dds:List D}{c n nk np:Nat}{q:List Nat}{mk:List Bool}{g:Fn}(R:Rel Γ ρ σ F H)(ha:RepFs Γ.G σ F vs rs)(hz:RepFs Γ.G σ F zs ts)(hd:Dfl Γ.G dvs dds)
  (h:Post Γ W (outW (rs.length==n&&ts.length==nk&&(pick q (rs++dds.map .val++ts)).length+1==np) (makeR c mk g (pick q (rs++dds.map .val++ts)) ρ)) ρ σ F H Q) :
  vs.length=n∧zs.length=nk∧∀ x dx,H x=none→H dx=none→dx≠x→spF Γ.G Γ.T np g (pick (0::q.map (·+1)) (.ref x::vs++dvs++zs)) (upd (upd H dx (.own x)) x (.ins (Γ.G.cl c) dx [])) (fun v H2=>v=.non∧Q (.ref x) H2) (fun cls d H'=>W cls d σ H'):=by
 unfold outW at h
 split at h
 ·rename_i w
  obtain ⟨w,w3⟩:=Bool.and_eq_true_iff.mp w
  obtain ⟨w1,w2⟩:=Bool.and_eq_true_iff.mp w
  have rp:=((ha.app (dfl_rep (hd F))).app hz).pick q
  refine ⟨by rw [ha.len]; simpa using w1,by rw [hz.len]; simpa using w2,fun x dx hx hdx ne=>?_⟩
  rw [show (V.ref x::vs++dvs++zs)=V.ref x::(vs++dvs++zs) from rfl,pick_self]
  exact makeR_ok R rp (by rw [rp.len]; simpa using w3) hx hdx ne h
 ·exact h.elim
end
section
variable {X:Cx}{Γ:Gm}{W:WX}{e:Expr}{ma:M}{mr:MA}{kws:List Keyword}{nm:Option Str}{kpos:Pos}
end
structure FwFact (P:Program)(w:World)(K:PySem.W.Frag)(mg:Str→Option Value)(base:Heap)(G:Gx)(Θ:List NdefX.NTab)(x:Str)(np k:Nat)(n:Nat)(ks:List Str)(p:List Nat)(dds:List D)(g:Fn):Prop where
 ex:∃ f fd ps dvs,mg x=some (.ref f)∧PySem.W.keepIn K (.ref f)=true∧Ways K fd ps n ks dvs p∧Dfl G dvs dds∧FnOkG P w K mg base k f fd ps (spF G Θ np g)
structure MwFact (P:Program)(w:World)(K:PySem.W.Frag)(mg:Str→Option Value)(base:Heap)(G:Gx)(Θ:List NdefX.NTab)(x:Str)(c np k:Nat)(n:Nat)(ks:List Str)(q:List Nat)(dds:List D)(g:Fn):Prop where
 ex:∃ f fd ps dvs,mg x=some (.ref (G.cl c))∧Mk K (G.cl c) f∧Ways K fd ps (n+1) ks dvs (0::q.map (·+1))∧Dfl G dvs dds∧FnOkG P w K mg base k f fd ps (spF G Θ np g)
section
variable {X:Cx}{Γ:Gm}{W:WX}{e:Expr}{ma mz:MA}{pos p:Pos}{es:List Expr}{kws:List Keyword}{x:Str}{c k n np nk:Nat}{ks:List Str}{pl:List Nat}{dds:List D}{mk:List Bool}{g:Fn}
theorem je_makeD (tk:Takes X W)(Fo:MwFact X.prog X.w X.K X.mg X.base Γ.G Γ.T x c np k n [] pl dds g)(hr:RG (k+1) X.A)(ha:PA X (e::es) (tMA Γ W ma))
  (hg:Gl X x:=by rfl) (hdb:(x==("__debug__" : Str))=false:=by decide) (he:starEach (e::es) X.env=(false,eval e X.env)::starEach es X.env:=by rfl) (hpl:(backTo pos (starEach es X.env)).any (·.1)=false:=by rfl) :
  PE X (.Call (.Name x p) (e::es) [] pos) (tM Γ W (mMakeW c n 0 np pl dds mk g ma mNil)):=by
 obtain ⟨f,fd,ps,dvs,hm,M,hb,hd,F1⟩:=Fo.ex
 refine ⟨fun pins s σ H Q I ⟨ρ,F,R,h⟩=>wpAny_Call_Name_kw (ld_glob I hg hm ?_ hdb)⟩
 refine PySem.W.callWith_K (h₀:=X.base) I.ok.mod.kin M.kp (thn (ha.run pos pins s σ H (fun vs H1=>vs.length=n∧([]:List V).length=0∧∀ y dy,H1 y=none→H1 dy=none→dy≠y→spF Γ.G Γ.T np g (pick (0::pl.map (·+1)) (.ref y::vs++dvs++[])) (upd (upd H1 dy (.own y)) y (.ins (Γ.G.cl c) dy [])) (fun v H3=>v=.non∧Q (.ref y) H3) fun cls d H'=>W cls d σ H') I
  ⟨ρ,F,R,h.bindA fun rs ρ1 vs F1 H1 s1 hr1 p1=>makeW_go (ts:=[]) s1.rel hr1 .nil hd p1⟩) fun us s1 ⟨vs,H1,I1,r,l1,l2,q⟩=>⟨I1.kIn,?_⟩) he hpl
 exact run_mkw (ks:=[]) (ws:=[]) (zs:=[]) (E:=fun σ cls d H'=>W cls d σ H') M F1 hr hb (passAt tk σ) I1 r .nil l1 l2 q
end
end PyD
namespace PySem
namespace KeyX
open Builtin Builtin.ObjectAttr HandSPX
section
variable {M:Model}{A:Around}{E:Value→Shared→Prop}{hp:Heap}{g:Array GenState}{dr:Drawn}{tk:Nat}{os:OsState}
variable {nm qn:Str}{C N:Addr}{bs bm:List Value}{hd:Bool}{sn:List Str}{sb:List Value}{ab:Bool}{co:Option Bool}{da:Option Addr}{k0 k1 k2 k3 k5:Option Value}
end
section
variable {prog:Program}{w:World}{A:Around}{E:Value→Shared→Prop}{R:Result→Shared→Prop}{hp:Heap}{g:Array GenState}{dr:Drawn}{tk:Nat}{os:OsState}
variable {nm qn:Str}{C N:Addr}{bs bm:List Value}{hd:Bool}{sn:List Str}{sb:List Value}{ab:Bool}{co:Option Bool}{da:Option Addr}{k0 k1 k2 k3 k5:Option Value}
end
end KeyX
end PySem
namespace PyD
open PySem PySem.Spec PyProof.Rows L2
open Builtin Builtin.ObjectAttr
structure EBase (B newId initId:String)(tl:List Value):Prop where
 made:∀ {prog:Program} {w:World} {A:Around} {R:Result→Shared→Prop} {hp:Heap} {g:Array GenState} {dr:Drawn} {tk:Nat} {os:OsState}
  {nm qn:Str} {C N:Addr} {bs bm:List Value} {hd:Bool} {sn:List Str} {sb:List Value} {ab:Bool} {co:Option Bool} {da:Option Addr} {k0 k1 k2 k3 k5:Option Value} {us:List Value} {fI:Addr},
  (∀ X:String,bm.contains (.type X)=tl.contains (.type X))→hp.get? C=some (excClassObj nm qn C N bs bm hd sn sb ab co da k0 k1 k2 k3 k5 newId) →
  PySem.W.Looks (model prog w) hp (typeLookup (.ref C) "__init__") (some (.ref fI))→(∀ self,PySem.W.Looks (model prog w) hp (bindSpecial (.ref fI) self) (.ref fI,[self]))→us.length≤sizeLine →
  codeAny (model prog w) (A.under (.builtin "type.__call__" ⟨.ref C::us,[]⟩)) (.call (.ref fI) ⟨.ref (hp.objs.size+1)::us,[]⟩) (PySem.W.InitBack (hp.objs.size+1) R)
   ⟨(hp.push (PySem.W.kdv_tup us)).push (PySem.HandSPX.excO C hp.objs.size),g,dr,tk,os⟩→codeAny (model prog w) A (.call (.ref C) ⟨us,[]⟩) R ⟨hp,g,dr,tk,os⟩
 ini:∀ {prog:Program} {w:World} {A:Around} {R:Result→Shared→Prop} {hp:Heap} {g:Array GenState} {dr:Drawn} {tk:Nat} {os:OsState}
  {nm qn:Str} {C N:Addr} {bs bm:List Value} {hd:Bool} {sn:List Str} {sb:List Value} {ab:Bool} {co:Option Bool} {da:Option Addr} {k0 k1 k2 k3 k5:Option Value} {e t0:Addr} {us:List Value},
  (∀ X:String,bm.contains (.type X)=tl.contains (.type X))→hp.get? C=some (excClassObj nm qn C N bs bm hd sn sb ab co da k0 k1 k2 k3 k5 newId)→hp.get? e=some (PySem.HandSPX.excO C t0)→us.length≤sizeLine →
  (∀ h2 t1,(∀ b o,b≠e→hp.get? b=some o→h2.get? b=some o)→h2.get? e=some (PySem.HandSPX.excO C t1)→R (.ok (.ret .none)) ⟨h2,g,dr,tk,os⟩) →
  codeAny (model prog w) A (.call (.builtin initId) ⟨.ref e::us,[]⟩) R ⟨hp,g,dr,tk,os⟩
 S:StoreFacts B tl "object.__setattr__" "object"
theorem eb_of {B newId initId:String}{tl:List Value}(F:ExcBaseFacts B newId initId tl)(S:StoreFacts B tl "object.__setattr__" "object"):EBase B newId initId tl :=
 ⟨fun hT hC li lb hz q=>PySem.HandSPX.call_own F hT hC li lb hz q,fun hT hC he hz q=>PySem.HandSPX.init_base F hT hC he hz q,S⟩
theorem eb_ve:EBase "ValueError" "ValueError.__new__" "ValueError.__init__" [.type "ValueError",.type "Exception",.type "BaseException",.type "object"]:=eb_of F.excBase_ValueError F.store_ValueError
theorem eb_oe:EBase "OverflowError" "OverflowError.__new__" "OverflowError.__init__" [.type "OverflowError",.type "ArithmeticError",.type "Exception",.type "BaseException",.type "object"]:=eb_of F.excBase_OverflowError F.store_OverflowError
structure XC (K:PySem.W.Frag)(C:Addr)(tl:List Value)(newId:String):Prop where
 cls:∃ nm q N bs bm sn sub ab col dd k0 k1 k2 k3 k5,K.lookup C=some (excClassObj nm q C N bs bm true sn sub ab col dd k0 k1 k2 k3 k5 newId)∧PySem.W.excTail tl bm=true
 sa:PySem.W.findIn K (.ref C) "__setattr__"=some (some (.builtin "object.__setattr__"))
 exC:PySem.W.subIn K (.ref C) (.type "BaseException")=some true
 tyC:PySem.W.typeIn K (.ref C)=some (.type "type")
 kC:PySem.W.keepIn K (.ref C)=true
theorem XC.cd {K:PySem.W.Frag}{C:Addr}{tl:List Value}{newId:String}(T:XC K C tl newId):PySem.W.hasDictIn K C=true∧PySem.W.excOver K C tl=true:=by
 obtain ⟨nm,q,N,bs,bm,sn,sub,ab,col,dd,k0,k1,k2,k3,k5,e,t⟩:=T.cls
 have hcl:PySem.W.clsIn K C=some { name:=nm,bases:=bs,mro:=.ref C::bm,ns:=N,qualname:=q,hasDict:=true,slotNames:=sn,subclasses:=sub,abstract:=ab,collection:=col,hasDel:=false }:=by unfold PySem.W.clsIn; rw [e]
 constructor
 ·unfold PySem.W.hasDictIn; rw [hcl]; rfl
 ·unfold PySem.W.excOver; rw [hcl]; simp [t]
section
variable {X:Cx}{pins:List (Addr×Obj)}{σ:St}{H:Hp}{s:Shared}{a C:Addr}{f:Str}{y:V}{u:Value}{tl:List Value}{B newId initId:String}{A:Around}{E:Value→Shared→Prop}
theorem xst_ok {Q:Unit→Shared→Prop}(Z:EBase B newId initId tl)(T:XC X.K C tl newId)(I:Inv X pins σ H s)(e:H a=some (exo a C none))(hno:PySem.W.findIn X.K (.ref C) f=some none)(ry:RelV y u)
  (h:∀ dx s',H dx=none→dx≠a→Inv X pins σ (upd (upd H dx (exd dx [(f,y)])) a (exo a C (some dx))) s'→Q () s'):wpAny (model X.prog X.w) A (setAttr (.ref a) f u) Q E s:=by
 obtain ⟨t1,ho⟩:=exo_at I.hok e
 obtain ⟨hd,ov⟩:=T.cd
 obtain ⟨cd,hcd,hhd⟩:=PySem.W.any_some hd
 refine PySem.W.set_plain I.kIn (ox:={ cls:=.ref C,dict:=none,data:=.fields #[.ref t1,.none,.none,.none,.bool false,.none] }) (od:=none) ⟨ho,rfl,rfl,trivial⟩ T.sa ?_
 refine PySem.W.osa_openX (r:=none) (od:=none) (ox:={ cls:=.ref C,dict:=none,data:=.fields #[.ref t1,.none,.none,.none,.bool false,.none] }) Z.S I.kIn ⟨ho,rfl,rfl,trivial⟩ ov (by unfold PySem.W.takerIn; rw [hno]; rfl) fun b=>?_
 have hcls:PySem.W.Looks (model X.prog X.w) s.heap (classData C) cd:=PySem.W.looks_clsIn I.kIn hcd
 refine wpAny_bind (wpAny_pure (wpAny_bind (PySem.W.instanceDict_exc ho hcls hhd ?_)))
 have hlt:a<s.heap.objs.size:=Heap.lt_size ho
 have hpu:=Heap.get?_push_of_some (h:=s.heap) (PySem.W.dictOf [] 0) ho
 have e1:((s.heap.push (PySem.W.dictOf [] 0)).update a fun o=>{ o with dict:=some s.heap.objs.size }).Ns s.heap.objs.size (fun _=>none) :=
  ⟨_,#[],_,(Heap.get?_update_ne _ _ _ _ (Nat.ne_of_gt hlt)).trans (Heap.get?_push_at rfl rfl),rfl,fun e he=>absurd he (by simp),fun _=>rfl⟩
 show wpAny _ _ (storeInDict s.heap.objs.size _ f u) _ _ _
 obtain ⟨hp,g,d,t,os⟩:=s
 refine PySem.HandSPX.store_in_new e1 fun h' tk' hn hs=>?_
 have hnd:H hp.objs.size=none:=I.hok.fresh (Nat.le_refl _)
 have dne:hp.objs.size≠a:=Nat.ne_of_gt hlt
 have k:∀ b o,b≠a→hp.get? b=some o→h'.get? b=some o:=fun b o hb q =>
  (hs.2 b (Nat.ne_of_lt (Heap.lt_size q))).trans ((Heap.get?_update_ne _ _ _ _ hb).trans (Heap.get?_push_of_some _ q))
 have hx:h'.get? a=some ({ cls:=.ref C,dict:=some hp.objs.size,data:=.fields #[.ref t1,.none,.none,.none,.bool false,.none] }:Obj) :=
  (hs.2 a (Ne.symm dne)).trans (Heap.get?_update_self _ hpu rfl)
 have na:∀ {b:Addr},H b=none→b≠a:=fun {b} n z=>by rw [z,e] at n; cases n
 have nd:∀ {b:Addr} {o:Obj},hp.get? b=some o→b≠hp.objs.size:=fun {b o} q=>Nat.ne_of_lt (Heap.lt_size q)
 have U:Un X.fs [] H (upd (upd H hp.objs.size (exd hp.objs.size [(f,y)])) a (exo a C (some hp.objs.size))) hp h':={
  keep:=fun b o q n w1 w2=>k b o (na n) q
  slot:=fun b o q n w1 w2=>⟨o.slots,k b o (na n) q⟩
  free:=fun b o q n w=>by rw [upd_ne (na n),upd_ne (nd q)]; exact n
  there:=fun b o q w=>by
   by_cases hb:b=a
   ·exact ⟨_,by rw [hb]; exact hx⟩
   ·exact ⟨o,k b o hb q⟩
  tups:=fun b xs q=>by rw [upd_ne (at_ne e q exo_tup),upd_ne (ne_of_none q hnd)]; exact q
  frzs:=fun b o v q=>by rw [upd_ne (at_ne e q exo_frz),upd_ne (ne_of_none q hnd)]; exact q
  tbls:=fun b ps q=>⟨#[],by rw [upd_ne (at_ne e q exo_tbl),upd_ne (ne_of_none q hnd),q]; simp⟩ }
 refine h _ _ hnd dne (I.un (t':=tk') U fun b o q=>?_)
 by_cases hb:b=a
 ·subst hb; rw [upd_same] at q; cases q; exact exo_ok hx
 ·rw [upd_ne hb] at q
  by_cases hd':b=hp.objs.size
  ·subst hd'; rw [upd_same] at q; cases q; exact exd_ok hn (relO_put (fs:=[]) ry fun g=>True.intro)
  ·rw [upd_ne hd'] at q
   refine (I.hok b o q).stay (fun c v hc z=>k c v ?_ z) (fun c hc=>by rw [upd_ne (at_ne e hc exo_own),upd_ne (ne_of_none hc hnd)]; exact hc) (fun c xs hc=>by rw [upd_ne (at_ne e hc exo_tup),upd_ne (ne_of_none hc hnd)]; exact hc)
   rcases hc with hc | hc
   ·rw [hc]; exact hb
   ·exact at_ne e hc exo_own
theorem xinit_ok {us:List Value}{Q:Value→Shared→Prop}(Z:EBase B newId initId tl)(T:XC X.K C tl newId)(I:Inv X pins σ H s)(e:H a=some (exo a C none))(hl:us.length≤sizeLine)(h:∀ s',Inv X pins σ H s'→Q .none s') :
  wpAny (model X.prog X.w) A (call (.builtin initId) (.ref a::us)) Q E s:=by
 obtain ⟨nm,q,N,bs,bm,sn,sub,ab,col,dd,k0,k1,k2,k3,k5,hC,hbm⟩:=T.cls
 obtain ⟨t1,ho⟩:=exo_at I.hok e
 obtain ⟨hp,g,d,t,os⟩:=s
 refine wpAny_call (Z.ini (fun Y=>PySem.W.excTail_contains Y bm hbm) (I.kIn _ _ hC) ho hl fun h' t2 k hx=>?_)
 have J:=I.write (t':=t) (x:=a) (e:=a) (o:=exo a C none) (by rw [e]; exact True.intro) (.inl rfl) k ⟨_,hx⟩ (exo_ok hx)
 have eu:upd H a (exo a C none)=H:=by
  funext b
  by_cases hb:b=a
  ·subst hb; rw [upd_same,e]
  ·exact upd_ne hb
 rw [eu] at J
 exact h _ J
end
structure BaseAt (X:Cx)(b:Str)(initId:String):Prop where
 gm:∀ (pins:List (Addr×Obj)) (s:Shared) (σ:St) (H:Hp) (p:Pos) (pl:Sem Bool) (Q:Value×List Value→Shared→Prop),Inv X pins σ H s→(∀ s',Inv X pins σ H s'→Q (.builtin initId,[]) s') →
  wpAny (model X.prog X.w) X.A (eval (.Name b p) X.env) (fun ov s1=>wpAny (model X.prog X.w) X.A (getMethod ov "__init__" pl) Q X.xe s1) X.xe s
theorem base_blt {X:Cx}{B initId:String}{b:Str}(hm:X.mg b=none)(hv:bootBuiltins b=some (.type B))(ht:typeOf (.type B)=pure (.type "type"))(hs:Manifest.isStub B=false)(hf:PySem.W.findCls X.K (.type B) (.type "type") "__init__"=some (.val (.builtin initId)))
  (hh:PySem.W.handedIn (.builtin initId)=true:=by rfl) (hg:Gl X b:=by rfl) (hn:b ≠ "__name__":=by decide) (hd:(b==("__debug__" : Str))=false:=by decide):BaseAt X b initId:=⟨fun pins s σ H p pl Q I h=>by
 refine ld_blt I hg hm hv ?_ hn hd
 obtain ⟨m,fr⟩:=I.fr
 exact PySem.W.method_type fr I.ok.mod.kin ht hs hf hh (h _ (I.tok _))⟩
theorem base_own {X:Cx}{initId:String}{b:Str}{T:Addr}(hm:X.mg b=some (.ref T))(hg1:PySem.W.specialIn X.K (.ref T) "__getattribute__"=some (some (.builtin "type.__getattribute__")))(hr:PySem.W.readsIn X.K T (.type "type")=true)
  (hf:PySem.W.findCls X.K (.ref T) (.type "type") "__init__"=some (.val (.builtin initId))) (hh:PySem.W.handedIn (.builtin initId)=true:=by rfl) (hg:Gl X b:=by rfl) (hd:(b==("__debug__" : Str))=false:=by decide):BaseAt X b initId:=⟨fun pins s σ H p pl Q I h=>by
 refine ld_glob I hg hm ?_ hd
 exact PySem.W.method_cls I.kIn hg1 (PySem.W.cls_value I.kIn hr hf hh (h _ (I.tok _)))⟩
def spX (K:PySem.W.Frag)(tl:List Value)(newId:String)(f:Str):Sp:=fun vs H Q _=>∃ (a C:Addr) (v:V),vs=[.ref a,v]∧XC K C tl newId∧PySem.W.findIn K (.ref C) f=some none∧H a=some (exo a C none) ∧
 ∀ dx,H dx=none→dx≠a→Q .non (upd (upd H dx (exd dx [(f,v)])) a (exo a C (some dx)))
section
variable {X:Cx}{tl:List Value}{B newId initId:String}{b f:Str}{e o:Expr}{es:List Expr}{ta:TA}{te to:TE}{p1 p2 pos pos':Pos}
theorem pe_binit {pl:Sem Bool}(Z:EBase B newId initId tl)(hB:BaseAt X b initId)(ha:PA X (e::es) ta)
  (hc:eval (.Call (.Attribute (.Name b p1) "__init__" p2) (e::es) [] pos) X.env=(do let ov ← eval (.Name b p1) X.env; standAt p2.atName; let (f,first) ← holding [ov] (getMethod ov "__init__" pl); callWith pos f first (backTo pos (starEach (e::es) X.env)) (backToKw pos (keywordEach [] X.env))):=by rfl)
  (he:starEach (e::es) X.env=(false,eval e X.env)::starEach es X.env:=by rfl) (hpl:(backTo pos (starEach es X.env)).any (·.1)=false:=by rfl) :
  PE X (.Call (.Attribute (.Name b p1) "__init__" p2) (e::es) [] pos) (fun σ H Q=>ta σ H fun vs H1=>∃ (a C:Addr) (ws:List V),vs=.ref a::ws∧ws.length≤1000∧XC X.K C tl newId∧H1 a=some (exo a C none)∧Q .non H1):=by
 refine ⟨fun pins s σ H Q I h=>PySem.W.methodCall_KW (pl:=pl) (hB.gm pins s σ H p1 pl _ I fun s0 I0=>?_) hc⟩
 refine PyProof.Rows.callWith_method1 (thn (ha.run pos pins _ σ H _ I0 h) fun us s1 ⟨vs,H1,I1,r1,a,C,ws,ev,hl,T,ea,q⟩=>?_) he hpl
 subst ev
 cases r1 with
 | @cons _ u0 _ ur ra rr =>
  obtain rfl:u0=Value.ref a:=ra
  have hlen:ur.length≤sizeLine:=by have:=rr.length; rw [sizeLine_eq]; omega
  exact xinit_ok Z T I1 ea hlen fun s' J=>⟨.non,H1,J,rfl,q⟩
theorem ps_xst (Z:EBase B newId initId tl)(ho:PE X o to)(he:PE X e te)(hs:swapsWith e (some (.Attribute o f pos')) pos.line X.env=pure false:=by rfl):PS X (.Assign [.Attribute o f pos'] e pos)
  (fun D σ H=>te σ H fun y H1=>to σ H1 fun x H2=>∃ a C:Addr,x=.ref a∧XC X.K C tl newId∧PySem.W.findIn X.K (.ref C) f=some none∧H2 a=some (exo a C none)∧∀ dx,H2 dx=none→dx≠a→D.nx σ (upd (upd H2 dx (exd dx [(f,y)])) a (exo a C (some dx)))):=by
 refine ⟨fun pins s σ H D I h=>plainObj_wpAny_Assign_Attribute (thn (he.run pins s σ H _ I h) fun v s1 ⟨y,H1,I1,r1,q1⟩=>thn (ho.run pins s1 σ H1 _ I1 q1) fun w s2 ⟨x,H2,I2,r2,a,C,ex,T,hno,ea,q⟩=>?_) hs⟩
 subst ex
 obtain rfl:w=Value.ref a:=r2
 exact xst_ok Z T I2 ea hno r1 fun dx s' n ne J=>⟨σ,_,J,q dx n ne⟩
end
structure XcFact (P:Program)(w:World)(K:PySem.W.Frag)(mg:Str→Option Value)(base:Heap)(G:Gx)(x:Str)(c k:Nat)(f:Str):Prop where
 ex:∃ tl B newId initId fI fd ps,EBase B newId initId tl∧XC K (G.cl c) tl newId∧PySem.W.findIn K (.ref (G.cl c)) f=some none∧mg x=some (.ref (G.cl c))∧PySem.W.findIn K (.ref (G.cl c)) "__init__"=some (some (.ref fI)) ∧
  PySem.W.typeIn K (.ref fI)=some (.type "function")∧Binds K fd ps []∧FnOkG P w K mg base k fI fd ps (spX K tl newId f)
def raiseR (c:Nat)(f:Str)(r:Res)(ρ:Rho):SOut:=match settle r ρ with
 | some (d,ρ1)=>.exc ⟨.own c,[(f,d)]⟩ ρ1
 | none=>.stuck
def mRaise (c:Nat)(f:Str)(me:M):MS:=fun ρ=>bindSF (me ρ) fun r ρ1=>raiseR c f r ρ1
section
variable {X:Cx}{Γ:Gm}{W:WX}{e:Expr}{m:M}{x f:Str}{c k:Nat}{p pos pos2:Pos}
theorem pmk_x {C fI:Addr}{fd:FuncData}{ps:List Str}{tl:List Value}{B newId initId:String}{te:TE}(Z:EBase B newId initId tl)(T:XC X.K C tl newId)(hno:PySem.W.findIn X.K (.ref C) f=some none)(iC:PySem.W.findIn X.K (.ref C) "__init__"=some (some (.ref fI)))(tI:PySem.W.typeIn X.K (.ref fI)=some (.type "function"))
  (F1:FnOkG X.prog X.w X.K X.mg X.base k fI fd ps (spX X.K tl newId f)) (hr:RG (k+1) X.A) (hb:Binds X.K fd ps []) (hm:X.mg x=some (.ref C)) (ha:PE X e te)
  (hg:Gl X x:=by rfl) (hdb:(x==("__debug__" : Str))=false:=by decide) (he:starEach [e] X.env=(false,eval e X.env)::starEach [] X.env:=by rfl) (hpl:(backTo pos (starEach [] X.env)).any (·.1)=false:=by rfl) :
  PMk X (.Call (.Name x p) [e] [] pos) (fun σ H Q=>te σ H fun v H1=>∀ d,H1 d=none→Q (.ref C) (some d) (upd H1 d (.xd [(f,v)]))):=by
 intro pins s σ H Q I h
 obtain ⟨nm,q,N,bs,bm,sn,sub,ab,col,dd,k0,k1,k2,k3,k5,hC,hbm⟩:=T.cls
 refine wpAny_Call_Name_kw (ld_glob I hg hm ?_ hdb)
 refine PySem.W.callWith_K (h₀:=X.base) I.ok.mod.kin T.kC (thn ((pa_cons ha pa_nil he).run pos pins s σ H (fun vs H1=>match vs with | [v]=>∀ d,H1 d=none→Q (.ref C) (some d) (upd H1 d (.xd [(f,v)])) | _=>False) I h) fun us s1 ⟨vs,H1,I1,r1,q1⟩=>⟨I1.kIn,?_⟩) he hpl
 cases r1 with
 | nil=>exact q1.elim
 | @cons v u vs2 us2 rv rr =>
  cases rr with
  | cons _ _=>exact q1.elim
  | nil =>
   have q1:∀ d,H1 d=none→Q (.ref C) (some d) (upd H1 d (.xd [(f,v)])):=q1
   show wpAny _ _ (call (.ref C) [u]) _ _ _
   obtain ⟨hp,g,dr,tk,os⟩:=s1
   have hsz:hp.objs.size≤hp.objs.size+1:=Nat.le_succ _
   have hn:H1 (hp.objs.size+1)=none:=I1.hok.fresh hsz
   have kk:∀ b o,hp.get? b=some o→((hp.push (PySem.W.kdv_tup [u])).push (PySem.HandSPX.excO C hp.objs.size)).get? b=some o:=fun b o e=>Heap.get?_push_of_some _ (Heap.get?_push_of_some _ e)
   have hget:((hp.push (PySem.W.kdv_tup [u])).push (PySem.HandSPX.excO C hp.objs.size)).get? (hp.objs.size+1)=some (PySem.HandSPX.excO C hp.objs.size):=by heap_get
   have I2:=I1.laid (t':=tk) (a:=hp.objs.size+1) (o:=exo (hp.objs.size+1) C none) (h':=(hp.push (PySem.W.kdv_tup [u])).push (PySem.HandSPX.excO C hp.objs.size)) kk hsz (exo_ok hget)
   have r2:Vals [V.ref (hp.objs.size+1),v] [Value.ref (hp.objs.size+1),u]:=.cons rfl (.cons rv .nil)
   have hq:spX X.K tl newId f [.ref (hp.objs.size+1),v] (upd H1 (hp.objs.size+1) (exo (hp.objs.size+1) C none))
     (fun z H2=>z=.non∧∃ (d:Addr) (fs:List (Str×V)),H2 (hp.objs.size+1)=some (exo (hp.objs.size+1) C (some d))∧H2 d=some (exd d fs)∧H1 d=none∧Q (.ref C) (some d) (upd (del H2 (hp.objs.size+1)) d (.xd fs))) (fun _ _ _=>False):=by
    refine ⟨_,C,v,rfl,T,hno,upd_same,fun dx h1 h2=>⟨rfl,dx,_,upd_same,by rw [upd_ne h2,upd_same],by rw [upd_ne h2] at h1; exact h1,?_⟩⟩
    have h1':H1 dx=none:=by rw [upd_ne h2] at h1; exact h1
    have eq:upd (del (upd (upd (upd H1 (hp.objs.size+1) (exo (hp.objs.size+1) C none)) dx (exd dx [(f,v)])) (hp.objs.size+1) (exo (hp.objs.size+1) C (some dx))) (hp.objs.size+1)) dx (.xd [(f,v)])=upd H1 dx (.xd [(f,v)]):=by
     funext b
     by_cases hb:b=dx
     ·subst hb; rw [upd_same,upd_same]
     ·rw [upd_ne hb,upd_ne hb]
      by_cases hc:b=hp.objs.size+1
      ·subst hc; rw [del_same,hn]
      ·rw [del_ne hc,upd_ne hc,upd_ne hb,upd_ne hc]
    rw [eq]
    exact q1 dx h1'
   have hl:([Value.ref (hp.objs.size+1),u]++[]).length=ps.length:=by
    have e:=F1.len _ _ _ _ hq
    rw [← e]; rfl
   have run:=F1.run _ X.stack _ _ ⟨[Value.ref (hp.objs.size+1),u],[]⟩ [Value.ref (hp.objs.size+1),u] _ _ (fun _ _ _=>False) (hr.make C [u] []) (I2.env0.make C [u] []) (hb _ [Value.ref (hp.objs.size+1),u] I2.kIn hl) r2 hq
   refine wpAny_call (Z.made (fun Y=>PySem.W.excTail_contains Y bm hbm) (I1.kIn _ _ hC) (PySem.W.looks_findIn I1.kIn iC) (fun self=>PySem.W.bind_fn I1.kIn self tI) (by rw [sizeLine_eq]; exact (by decide:1≤16777216)) (codeAny_mono run fun r s' hq'=>?_))
   cases r with
   | error er =>
    obtain ⟨_,_,_,_,_,_,_,_,_,_,_,_,z⟩:=hq'
    exact z.elim
   | ok fl=>cases fl with
    | ret u' =>
     obtain ⟨z,H2,os2,bare2,un2,hok2,rz,ez,d,fs,ea,ed,hd1,q2⟩:=hq'
     subst ez
     obtain ⟨h2,g2,d2,t2,os'⟩:=s'
     exact ⟨rz,mk_end (raises_own T.exC T.tyC) I1 hsz kk un2 hok2 os2 bare2 ea ed hd1 q2⟩
    | _=>exact (show False from hq').elim
theorem js_raise (hc:X.calm=true)(tk:Takes X W)(Fo:XcFact X.prog X.w X.K X.mg X.base Γ.G x c k f)(hr:RG (k+1) X.A)(ha:PE X e (tM Γ W m))
  (hg:Gl X x:=by rfl) (hdb:(x==("__debug__" : Str))=false:=by decide) (he:starEach [e] X.env=(false,eval e X.env)::starEach [] X.env:=by rfl) (hpl:(backTo pos (starEach [] X.env)).any (·.1)=false:=by rfl) :
  PS X (.Raise (some (.Call (.Name x p) [e] [] pos)) none pos2) (tMS Γ W (mRaise c f m)):=by
 obtain ⟨tl,B,newId,initId,fI,fd,ps,Z,T,hno,hm,iC,tI,hb,F1⟩:=Fo.ex
 refine (ps_raise hc tk (pmk_x Z T hno iC tI F1 hr hb hm (je_f ha) hg hdb he hpl)).imp fun D σ H ⟨ρ,F,R,p⟩=>⟨ρ,F,R,p.bindF fun r ρ1 v F1 H1 s1 hr1 p1 d hd=>?_⟩
 unfold raiseR at p1
 split at p1
 ·rename_i z ρ2 e1
  obtain ⟨F2,s2,q2⟩:=settle_ok s1.rel hr1 e1
  have al:Alc F2 H1 (upd F2 d (.xd [(f,v)])) (upd H1 d (.xd [(f,v)])):=Alc.tup s2.rel.sub hd
  exact p1 (some d) σ _ _ (s2.trans (al.stp s2.rel)) ⟨_,upd_same,.cons (q2.mono al.subF) .nil⟩
 ·exact p1.elim
end
abbrev TSx:=Addr→Value→Option Addr→TS
abbrev SuOk (X:Cx)(sts:List Stmt)(ts:TSx):Prop:=∀ (a:Addr) (oe:Obj) (cls:Value) (d:Option Addr) (pn:List (Addr×Obj)),Zc cls d oe→(∃ vs,oe.data=.fields vs)→PSs (X.suite a ((a,oe)::pn)) sts (ts a cls d)
inductive Cls' (X:Cx):List ExceptHandler→List (Value×Option Nat×TSx)→Prop
 | nil:Cls' X [] []
 | as {x n:Str} {c:Value} {i:Nat} {ts:TSx} {b₀:Stmt} {suite:List Stmt} {np pos':Pos} {hds:List ExceptHandler} {l:List (Value×Option Nat×TSx)} (hc:Names X x c) (hi:X.N[i]?=some n) (hln:X.env.kindOf n=some .local) (hsu:SuOk X (b₀::suite) ts) (r:Cls' X hds l) :
   Cls' X (.ExceptHandler (some (.Name x np)) (some n) (b₀::suite) pos'::hds) ((c,some i,ts)::l)
 | only {x:Str} {c:Value} {ts:TSx} {b₀:Stmt} {suite:List Stmt} {np pos':Pos} {hds:List ExceptHandler} {l:List (Value×Option Nat×TSx)} (hc:Names X x c) (hsu:SuOk X (b₀::suite) ts) (r:Cls' X hds l) :
   Cls' X (.ExceptHandler (some (.Name x np)) none (b₀::suite) pos'::hds) ((c,none,ts)::l)
section
variable {X:Cx}{body:List Stmt}{hds:List ExceptHandler}{l:List (Value×Option Nat×TSx)}{h₀:ExceptHandler}{pos:Pos}{tb:WX→TS}{Wout:WX}
end
def noExn (ρ:Rho):Bool:=ρ.all fun s=>match s with
 | some (.exn none)=>false
 | _=>true
theorem noExn_at {ρ:Rho}{i:Nat}(h:noExn ρ=true):ρ[i]?≠some (some (.exn none)):=fun e=>by
 have:=List.all_eq_true.mp h _ (List.mem_of_getElem? e)
 cases this
theorem excRep_mono {G:Gx}{F F' H H':Hp}{x:Exc}{d:Option Addr}(e:Same F F')(h:ExcRep G F H x d):ExcRep G F' H' x d:=by
 cases d with
 | none=>exact h
 | some b=>obtain ⟨fvs,h1,h2⟩:=h; exact ⟨fvs,e _ _ h1,h2.mono e⟩
abbrev Gs (Γ:Gm)(a:Addr)(x:Exc)(d:Option Addr):Gm:={ Γ with x:=a,J:=fun F=>ExcRep Γ.G F F x d,Jm:=fun F F' e h=>excRep_mono e h }
theorem own_gs {Γ:Gm}{ρ:Rho}{σ:St}{F H:Hp}{a:Addr}{x:Exc}{d:Option Addr}{i:Nat}{c:Addr}:OwnAt (Gs Γ a x d) ρ σ F H i c↔OwnAt Γ ρ σ F H i c:=by
 constructor
 ·rintro ⟨s,v,L,h1,h2,h3,h4⟩
  cases s with
  | val d=>rw [h3.2] at h4; cases h4
  | exn b=>cases b <;> (rw [h3.2] at h4; cases h4)
  | own b d=>exact ⟨_,v,L,h1,h2,h3,h4⟩
 ·rintro ⟨s,v,L,h1,h2,h3,h4⟩
  cases s with
  | val d=>rw [h3.2] at h4; cases h4
  | exn b=>cases b <;> (rw [h3.2] at h4; cases h4)
  | own b d=>exact ⟨_,v,L,h1,h2,h3,h4⟩
theorem Rel.suite {Γ:Gm}{ρ:Rho}{σ:St}{F H:Hp}{a:Addr}{x:Exc}{d:Option Addr}(R:Rel Γ ρ σ F H)(n:noExn ρ=true)(q:ExcRep Γ.G F H x d):Rel (Gs Γ a x d) ρ σ F H :=
 ⟨R.sub,fun i s h=>by
  obtain ⟨v,L,h1,h2⟩:=R.slot i s h
  refine ⟨v,L,h1,?_⟩
  cases s with
  | val d=>exact h2
  | own b d=>exact h2
  | exn b=>cases b with
   | none=>exact absurd h (noExn_at n)
   | some k=>exact h2,fun i j c h1 h2=>R.inj i j c (own_gs.mp h1) (own_gs.mp h2),fun i c h=>R.own i c (own_gs.mp h),R.len,excRep_mono (H':=F) (Same.refl _) q,R.ali,R.tab⟩
theorem Stp.off {Γ:Gm}{ρ₀ ρ:Rho}{σ₀ σ:St}{F₀ H₀ F H:Hp}(s:Stp Γ ρ₀ σ₀ F₀ H₀ ρ σ F H)(i:Nat):Stp Γ ρ₀ σ₀ F₀ H₀ (ρ.set i none) (σ.set i none) F H∧∀ c,Own Γ (ρ.set i none) (σ.set i none) F H c→Own Γ ρ σ F H c:=by
 obtain ⟨R,bk⟩:=s.rel.drop (σ':=σ.set i none) i (fun j e=>by rw [List.getElem?_set_ne (Ne.symm e)]) (by simp)
 exact ⟨⟨R,s.subF,s.keep,s.there⟩,fun c ⟨j,o⟩=>⟨j,(bk j c o).2⟩⟩
structure Hd where
 tst:ECl→Option Bool
 slot:Option Nat
 ms:Exc→MS
def tsOf (Γ:Gm)(ms:Exc→MS):TSx:=fun a cls d D σ H=>∃ x,cls=ecV Γ.G x.c∧tMS (Gs Γ a x d) (fun _ _ _ _=>False) (ms x) D σ H
inductive HdR (K:PySem.W.Frag)(Γ:Gm):List Hd→List (Value×Option Nat×TSx)→Prop
 | nil:HdR K Γ [] []
 | cons {h:Hd} {c:Value} {r:List Hd} {l:List (Value×Option Nat×TSx)} (ht:∀ e b,h.tst e=some b→PySem.W.exmOne K (ecV Γ.G e) c=some b) (t:HdR K Γ r l):HdR K Γ (h::r) ((c,h.slot,tsOf Γ h.ms)::l)
section
variable {K:PySem.W.Frag}{Γ:Gm}{W:WX}
theorem RepOut.gs {Γ:Gm}{a:Addr}{x:Exc}{d:Option Addr}{ρ:Rho}{σ:St}{F H:Hp}{v:V}{r:Res}(h:RepOut (Gs Γ a x d) ρ σ F H v r):RepOut Γ ρ σ F H v r:=by
 cases r with
 | val d=>exact h
 | «at» j=>exact h
 | new d=>obtain ⟨a,L,e,c,fr⟩:=h; exact ⟨a,L,e,c,fun b hb=>⟨(fr b hb).1,(fr b hb).2.1,fun ⟨j,z⟩=>(fr b hb).2.2 ⟨j,own_gs.mpr z⟩⟩⟩
theorem RepOut.sub {ρ ρ':Rho}{σ σ':St}{F H:Hp}{v:V}{r:Res}(bk:∀ c,Own Γ ρ' σ' F H c→Own Γ ρ σ F H c)(h:RepOut Γ ρ σ F H v r):RepOut Γ ρ' σ' F H v r:=by
 cases r with
 | val d=>exact h
 | «at» j=>exact h
 | new d=>obtain ⟨a,L,e,c,fr⟩:=h; exact ⟨a,L,e,c,fun b hb=>⟨(fr b hb).1,(fr b hb).2.1,fun z=>(fr b hb).2.2 (bk b z)⟩⟩
end
section
variable {X:Cx}{Γ:Gm}{W:WX}{a:Addr}{oe:Obj}{cls:Value}{d:Option Addr}{pn:List (Addr×Obj)}{x:Exc}{n f:Str}{c i:Nat}{p pos:Pos}
end
end PyD
namespace PyQ
open PySem PySem.SeqAt GQ
open AutoSeq1 (wpAny_loadPart')
open MeetsSeq MeetsSeq2 MeetsSeq3 SeqRoads2
section
variable {prog:Program}{w:World}{A:Around}{R:Result→Shared→Prop}{neg:Bool}
def LI (l b:Addr)(N:Nat)(s:Shared):Prop:=∃ (items items2:Array Value) (n n2:Nat),s.heap.get? l=some { cls:=.type "list",data:=.seq items n }∧s.heap.get? b=some { cls:=.type "list",data:=.seq items2 n2 }∧items.size=N∧items2.size=N
def Trn (prog:Program)(w:World)(A:Around)(E:Value→Shared→Prop)(l b:Addr)(N:Nat)(I:Nat→Shared→Prop)(J:Shared→Prop):Prop :=
 ∀ i s,I i s→∃ (items items2:Array Value) (n n2:Nat),s.heap.get? l=some { cls:=.type "list",data:=.seq items n }∧s.heap.get? b=some { cls:=.type "list",data:=.seq items2 n2 }∧items.size=N∧items2.size=N ∧
  ∀ (h1:i<items.size) (h2:i<items2.size),wpAny (model prog w) A.in1 (eqBool items[i] items2[i]) (fun r s'=>(r=true∧I (i+1) s')∨(r=false∧J s')) E s
def cod (neg:Bool):Nat:=if neg then 3 else 2
theorem loop2 (l b:Addr)(N:Nat)(I:Nat→Shared→Prop)(J:Shared→Prop)(hl:Trn prog w A (fun e s'=>R (.error e) s') l b N I J)(hJ:∀ s,J s→LI l b N s∧R (.ok (.ret (.bool neg))) s)
  (fin:∀ s,I N s→R (.ok (.ret (.bool (!neg)))) s) (k:Nat):∀ i:Nat,N-i=k→i≤N→∀ s,I i s →
   wpAny (model prog w) A.in1 (Builtin.«list.__eq__.loop» ⟨[.ref l,.ref b,rawInt i,rawInt (cod neg)],[]⟩) (FinOf prog w A R) (fun e s'=>R (.error e) s') s:=by
 induction k with
 | zero =>
  intro i hk hi s h
  obtain ⟨xs,ys,n,n2,hl1,hb1,hs1,hs2,_⟩:=hl _ _ h
  have hi':i=N:=by omega
  have hR:=fin s (hi'▸h)
  obtain ⟨hp,g,d,tk,os⟩:=s
  have hi1:xs[((i:Nat):Int).toNat]?=none:=by simp; omega
  have hi2:ys[((i:Nat):Int).toNat]?=none:=by simp; omega
  cases neg with
  | false =>
   wp_walk using wpAny_loadPart' hl1,wpAny_loadPart' hb1
   rw [hi1,hi2]
   wp_walk using wpAny_loadPart' hl1,wpAny_loadPart' hb1
   show R (.ok (.ret (.bool (xs.size==ys.size)))) _
   rw [hs1,hs2]; simpa using hR
  | true =>
   wp_walk using wpAny_loadPart' hl1,wpAny_loadPart' hb1
   rw [hi1,hi2]
   wp_walk using wpAny_loadPart' hl1,wpAny_loadPart' hb1
   show R (.ok (.ret (.bool (xs.size != ys.size)))) _
   rw [hs1,hs2]; simpa using hR
 | succ k ih =>
  intro i hk hi s h
  obtain ⟨xs,ys,n,n2,hl1,hb1,hs1,hs2,turn⟩:=hl _ _ h
  have lt1:i<xs.size:=by omega
  have lt2:i<ys.size:=by omega
  have ht:=turn lt1 lt2
  have hc:((i:Int)+1)=((i+1:Nat):Int):=by omega
  have hi1:xs[((i:Nat):Int).toNat]?=some xs[i]:=by simp [lt1]
  have hi2:ys[((i:Nat):Int).toNat]?=some ys[i]:=by simp [lt2]
  obtain ⟨hp,g,d,tk,os⟩:=s
  cases neg with
  | false =>
   wp_walk using wpAny_loadPart' hl1,wpAny_loadPart' hb1
   rw [hi1,hi2]
   refine wpAny_bind (wpAny_mono ht (fun r s2 h2=>?_) fun _ _ x=>x)
   rcases h2 with ⟨rfl,h2⟩ | ⟨rfl,h2⟩
   ·have hrec:=ih (i+1) (by omega) (by omega) s2 h2
    obtain ⟨hp2,g2,d2,tk2,os2⟩:=s2
    wp_walk
    rw [hc]
    exact ⟨plainId_quiet plain_eq_loop _,codeAny_builtin entry_eq_loop (by rw [Around.under_plainId plain_eq_loop _]; exact hrec)⟩
   ·obtain ⟨⟨xs',ys',m,m2,g1,g2,z1,z2⟩,hR⟩:=hJ s2 h2
    have j1:xs'[((i:Nat):Int).toNat]?=some (xs'[i]'(by omega)):=by simp
    have j2:ys'[((i:Nat):Int).toNat]?=some (ys'[i]'(by omega)):=by simp
    obtain ⟨hp2,g2',d2,tk2,os2⟩:=s2
    wp_walk using wpAny_loadPart' g1,wpAny_loadPart' g2
    rw [j1,j2]
    wp_walk
    exact hR
  | true =>
   wp_walk using wpAny_loadPart' hl1,wpAny_loadPart' hb1
   rw [hi1,hi2]
   refine wpAny_bind (wpAny_mono ht (fun r s2 h2=>?_) fun _ _ x=>x)
   rcases h2 with ⟨rfl,h2⟩ | ⟨rfl,h2⟩
   ·have hrec:=ih (i+1) (by omega) (by omega) s2 h2
    obtain ⟨hp2,g2,d2,tk2,os2⟩:=s2
    wp_walk
    rw [hc]
    exact ⟨plainId_quiet plain_eq_loop _,codeAny_builtin entry_eq_loop (by rw [Around.under_plainId plain_eq_loop _]; exact hrec)⟩
   ·obtain ⟨⟨xs',ys',m,m2,g1,g2,z1,z2⟩,hR⟩:=hJ s2 h2
    have j1:xs'[((i:Nat):Int).toNat]?=some (xs'[i]'(by omega)):=by simp
    have j2:ys'[((i:Nat):Int).toNat]?=some (ys'[i]'(by omega)):=by simp
    obtain ⟨hp2,g2',d2,tk2,os2⟩:=s2
    wp_walk using wpAny_loadPart' g1,wpAny_loadPart' g2
    rw [j1,j2]
    wp_walk
    exact hR
theorem list2 (l b:Addr)(N:Nat)(I:Nat→Shared→Prop)(J:Shared→Prop)(hl:Trn prog w A (fun e s'=>R (.error e) s') l b N I J)(hJ:∀ s,J s→LI l b N s∧R (.ok (.ret (.bool neg))) s)
  (fin:∀ s,I N s→R (.ok (.ret (.bool (!neg)))) s) {s:Shared} (h:I 0 s) :
  wpAny (model prog w) A.in1 ((if neg then Builtin.«list.__ne__» else Builtin.«list.__eq__») ⟨[.ref l,.ref b],[]⟩) (FinOf prog w A R) (fun e s'=>R (.error e) s') s:=by
 obtain ⟨xs,ys,n,n2,hl1,hb1,hs1,hs2,_⟩:=hl _ _ h
 have hrec:=loop2 (A:=A) (R:=R) l b N I J hl hJ fin _ 0 rfl (Nat.zero_le _) s h
 obtain ⟨hp,g,d,tk,os⟩:=s
 have f3:=AutoSeq1.sub_list_list
 have hne:¬ (xs.size != ys.size)=true:=by simp [hs1,hs2]
 cases neg with
 | false =>
  simp only [Bool.false_eq_true,if_false]
  wp_walk using wpAny_loadPart' hl1,wpAny_loadPart' hb1
  exact ⟨plainId_quiet plain_eq_loop _,codeAny_builtin entry_eq_loop (by rw [Around.under_plainId plain_eq_loop _]; exact hrec)⟩
 | true =>
  simp only [if_true]
  wp_walk using wpAny_loadPart' hl1,wpAny_loadPart' hb1
  exact ⟨plainId_quiet plain_eq_loop _,codeAny_builtin entry_eq_loop (by rw [Around.under_plainId plain_eq_loop _]; exact hrec)⟩
theorem listLen {l b:Addr}{xs ys:Array Value}{n n2:Nat}{s:Shared}(hl1:s.heap.get? l=some { cls:=.type "list",data:=.seq xs n })(hb1:s.heap.get? b=some { cls:=.type "list",data:=.seq ys n2 })(hne:xs.size≠ys.size)(hR:R (.ok (.ret (.bool neg))) s) :
  wpAny (model prog w) A.in1 ((if neg then Builtin.«list.__ne__» else Builtin.«list.__eq__») ⟨[.ref l,.ref b],[]⟩) (FinOf prog w A R) (fun e s'=>R (.error e) s') s:=by
 obtain ⟨hp,g,d,tk,os⟩:=s
 have f3:=AutoSeq1.sub_list_list
 have hne:(xs.size != ys.size)=true:=by simpa using hne
 cases neg with
 | false =>
  simp only [Bool.false_eq_true,if_false]
  wp_walk using wpAny_loadPart' hl1,wpAny_loadPart' hb1
  exact hR
 | true =>
  simp only [if_true]
  wp_walk using wpAny_loadPart' hl1,wpAny_loadPart' hb1
  exact hR
theorem tup2 (l b:Addr)(xs ys:Array Value)(n n2:Nat)(dd dd2:Option Addr)(sl sl2:Array (Option Value))(I:Nat→Shared→Prop)
  (turn:∀ i (h1:i<xs.size) (h2:i<ys.size) s,I i s→wpAny (model prog w) A.in1 (eqBool xs[i] ys[i]) (fun r s'=>(r=true∧I (i+1) s')∨(r=false∧R (.ok (.ret (.bool neg))) s')) (fun e s'=>R (.error e) s') s)
  (fin:∀ s,I (min xs.size ys.size) s→R (.ok (.ret (.bool (neg != decide (xs.size=ys.size))))) s) {s:Shared} (hl1:s.heap.get? l=some { cls:=.type "tuple",dict:=dd,data:=.seq xs n,slots:=sl }) (hb1:s.heap.get? b=some { cls:=.type "tuple",dict:=dd2,data:=.seq ys n2,slots:=sl2 }) (h:I 0 s) :
  wpAny (model prog w) A.in1 ((if neg then Builtin.«tuple.__ne__» else Builtin.«tuple.__eq__») ⟨[.ref l,.ref b],[]⟩) (FinOf prog w A R) (fun e s'=>R (.error e) s') s:=by
 have f2:=AutoSeq1.sub_tuple_tuple
 have hZ:(xs.toList.zip ys.toList).length=min xs.size ys.size:=by simp
 have h0:=h
 obtain ⟨hp,g,d,tk,os⟩:=s
 have step:∀ {y x:Value} {rest:List (Value×Value)} {i:Nat},(y,x)::rest=(xs.toList.zip ys.toList).drop i→∃ (h1:i<xs.size) (h2:i<ys.size),y=xs[i]∧x=ys[i]∧rest=(xs.toList.zip ys.toList).drop (i+1):=fun {y x rest i} hz=>by
  have hlt:i<(xs.toList.zip ys.toList).length:=by
   rcases Nat.lt_or_ge i (xs.toList.zip ys.toList).length with h' | h'
   ·exact h'
   ·rw [List.drop_of_length_le h'] at hz; cases hz
  have hlt':=hlt
  rw [hZ] at hlt'
  rw [List.drop_eq_getElem_cons hlt] at hz
  injection hz with e1 e2
  refine ⟨by omega,by omega,?_,?_,e2⟩
  ·have:=congrArg Prod.fst e1; simpa using this
  ·have:=congrArg Prod.snd e1; simpa using this
 have ends:∀ {i:Nat},[]=(xs.toList.zip ys.toList).drop i→i≤min xs.size ys.size→i=min xs.size ys.size:=fun {i} hz hi=>by
  rcases Nat.lt_or_ge i (xs.toList.zip ys.toList).length with h' | h'
  ·rw [List.drop_eq_getElem_cons h'] at hz; cases hz
  ·rw [hZ] at h'; omega
 cases neg with
 | false =>
  simp only [Bool.false_eq_true,if_false]
  wp_walk using wpAny_loadPart' hl1,wpAny_loadPart' hb1,wpAny_forIn_list _ (fun rest b s'=>(b.1=none∧∃ i,rest=(xs.toList.zip ys.toList).drop i∧i≤min xs.size ys.size∧I i s')) _
  case turn =>
   rintro ⟨y,x⟩ rest b s' ⟨hb',i,hz,hi,hI⟩
   obtain ⟨h1,h2,rfl,rfl,hr⟩:=step hz
   refine wpAny_bind (wpAny_mono (turn i h1 h2 s' hI) (fun r s2 q2=>?_) fun _ _ x=>x)
   rcases q2 with ⟨rfl,q2⟩ | ⟨rfl,q2⟩
   ·wp_walk
    exact ⟨rfl,i+1,hr,by omega,q2⟩
   ·wp_walk
    exact q2
  case fin =>
   rintro ⟨b1,b2⟩ s' ⟨hb',i,hz,hi,hI⟩
   simp only at hb'
   subst hb'
   have hR:=fin s' (ends hz hi▸hI)
   wp_walk
   have e:(xs.size==ys.size)=decide (xs.size=ys.size):=by by_cases q:xs.size=ys.size <;> simp [q]
   show R (.ok (.ret (.bool (xs.size==ys.size)))) s'
   rw [e]; simpa using hR
  case h=>exact ⟨rfl,0,rfl,Nat.zero_le _,h0⟩
 | true =>
  simp only [if_true]
  wp_walk using wpAny_loadPart' hl1,wpAny_loadPart' hb1,wpAny_forIn_list _ (fun rest b s'=>(b.1=none∧∃ i,rest=(xs.toList.zip ys.toList).drop i∧i≤min xs.size ys.size∧I i s')) _
  case turn =>
   rintro ⟨y,x⟩ rest b s' ⟨hb',i,hz,hi,hI⟩
   obtain ⟨h1,h2,rfl,rfl,hr⟩:=step hz
   refine wpAny_bind (wpAny_mono (turn i h1 h2 s' hI) (fun r s2 q2=>?_) fun _ _ x=>x)
   rcases q2 with ⟨rfl,q2⟩ | ⟨rfl,q2⟩
   ·wp_walk
    exact ⟨rfl,i+1,hr,by omega,q2⟩
   ·wp_walk
    exact q2
  case fin =>
   rintro ⟨b1,b2⟩ s' ⟨hb',i,hz,hi,hI⟩
   simp only at hb'
   subst hb'
   have hR:=fin s' (ends hz hi▸hI)
   wp_walk
   have e:(xs.size != ys.size)=!decide (xs.size=ys.size):=by by_cases q:xs.size=ys.size <;> simp [q]
   show R (.ok (.ret (.bool (xs.size != ys.size)))) s'
   rw [e]; simpa using hR
  case h=>exact ⟨rfl,0,rfl,Nat.zero_le _,h0⟩
end
end PyQ
namespace PyD
open PySem PySem.Spec PyProof.Rows L2
def callB (f:Fn)(x y:D):Option Bool:=match f [.v x,.v y] with
 | .ret (.val (.bl b)) []=>some b
 | _=>none
def flatE:D→D→Option Bool
 | .non,.non=>some true
 | .bl a,.bl b=>some (a==b)
 | .bl a,.int b=>some ((if a then 1 else 0)==b)
 | .int a,.bl b=>some (a==(if b then 1 else 0))
 | .int a,.int b=>some (a==b)
 | .str a,.str b=>some (a==b)
 | .non,.bl _=>some false
 | .non,.int _=>some false
 | .non,.str _=>some false
 | .bl _,.non=>some false
 | .int _,.non=>some false
 | .str _,.non=>some false
 | .bl _,.str _=>some false
 | .int _,.str _=>some false
 | .str _,.bl _=>some false
 | .str _,.int _=>some false
 | _,_=>none
def eqLs (e:D→D→Option Bool):List D→List D→Option Bool
 | x::xs,y::ys=>match e x y with
  | some true=>eqLs e xs ys
  | some false=>some false
  | none=>none
 | _,_=>some true
def tyK (T:Tab):D→Bool
 | .obj c _=>decide (c<T.n)
 | d=>(tyN d).isSome
def ownT (T:Tab)(E:Nat→Option Fn)(x y:D):Option Bool:=match x with
 | .obj c _=>(match E c with
  | some f=>if tyK T y=true then callB f x y else none
  | none=>none)
 | _=>none
def apartF:List (Str×D)→List (Str×D)→Bool
 | (k,d)::r,(k',d')::r'=>(decide (k=k')&&(flatE d d'==some false))||apartF r r'
 | _,_=>false
def apart:D→D→Bool
 | .obj _ fs,.obj _ gs=>apartF fs gs
 | .obj _ _,.non=>true
 | .obj _ _,.int _=>true
 | .obj _ _,.str _=>true
 | .obj _ _,.bl _=>true
 | _,_=>false
def sureE (x y:D):Option Bool→Option Bool
 | some true=>some true
 | some false=>if apart x y=true then some false else none
 | none=>none
def seqE (e:D→D→Option Bool):D→D→Option Bool
 | .lst xs,.lst ys=>if xs.length=ys.length then eqLs e xs ys else some false
 | .tup xs,.tup ys=>(eqLs e xs ys).map fun b=>b&&decide (xs.length=ys.length)
 | _,_=>none
def orE (e e':D→D→Option Bool):D→D→Option Bool:=fun x y=>match e x y with
 | some b=>some b
 | none=>e' x y
def itemE (T:Tab)(E:Nat→Option Fn):D→D→Option Bool:=orE flatE (fun x y=>sureE x y (ownT T E x y))
def eqO (T:Tab)(E:Nat→Option Fn):D→D→Option Bool:=orE (seqE (itemE T E)) (ownT T E)
theorem flatE_ok {G:Gx}{F:Hp}{x y:V}{dx dy:D}{b:Bool}(hx:Dp G F x dx)(hy:Dp G F y dy)(h:flatE dx dy=some b):flatV x=true∧flatV y=true∧eqV x y=b:=by
 unfold flatE at h
 split at h <;> first
  | (cases h; cases hx; cases hy; exact ⟨rfl,rfl,rfl⟩)
  | cases h
structure EqFact (P:Program)(w:World)(K:PySem.W.Frag)(mg:Str→Option Value)(base:Heap)(G:Gx)(c k:Nat)(f:Fn):Prop where
 ex:∃ g fd ps,PySem.W.findIn K (.ref (G.cl c)) "__eq__"=some (some (.ref g))∧PySem.W.isFn K (.ref g)=true∧Binds K fd ps []∧FnOkG P w K mg base k g fd ps (spF G [] 2 f)
 ne:PySem.W.findIn K (.ref (G.cl c)) "__ne__"=some (some (.builtin "object.__ne__"))
 mo:PySem.W.mroIn K (G.cl c) (.type "object")=some true
 nfB:∀ t∈baseT,PySem.W.notFirst K (G.cl c) (.type t)=true
def EqTab (P:Program)(w:World)(K:PySem.W.Frag)(mg:Str→Option Value)(base:Heap)(G:Gx)(T:Tab)(k:Nat)(E:Nat→Option Fn):Prop :=
 ∀ c f,E c=some f→c<T.n∧EqFact P w K mg base G c k f∧∀ c',c'<T.n→PySem.W.notFirst K (G.cl c) (.ref (G.cl c'))=true
theorem Alc.trans {F H F1 H1 F2 H2:Hp}(a:Alc F H F1 H1)(b:Alc F1 H1 F2 H2):Alc F H F2 H2 :=
 ⟨a.subF.trans b.subF,a.subH.trans b.subH,b.fh,fun c o h f=>b.frn c o (a.subH c o h) (a.frn c o h f)⟩
section
variable {X:Cx}{G:Gx}{T:Tab}{E:Nat→Option Fn}{k:Nat}
def EqS (X:Cx)(G:Gx)(n:Nat)(e:D→D→Option Bool):Prop:=∀ (A:Around) (pins:List (Addr×Obj)) (s:Shared) (σ:St) (F H:Hp) (x y:V) (u v:Value) (dx dy:D) (b:Bool),SubG X n A→Inv X pins σ H s→RelV x u→RelV y v→Same F H→Dp G F x dx→Dp G F y dy→e dx dy=some b →
 wpAny (model X.prog X.w) A (eqBool u v) (fun r s'=>r=b∧∃ F' H',Inv X pins σ H' s'∧Alc F H F' H') X.xe s
def RcS (X:Cx)(G:Gx)(n:Nat)(neg:Bool)(e:D→D→Option Bool):Prop:=∀ (A:Around) (pins:List (Addr×Obj)) (s:Shared) (σ:St) (F H:Hp) (x y:V) (u v:Value) (dx dy:D) (b:Bool),SubG X n A→Inv X pins σ H s→RelV x u→RelV y v→Same F H→Dp G F x dx→Dp G F y dy→e dx dy=some b →
 wpAny (model X.prog X.w) A (richCompare (if neg then .NotEq else .Eq) u v) (fun r s'=>r=.bool (neg != b)∧∃ F' H',Inv X pins σ H' s'∧Alc F H F' H') X.xe s
theorem own_call {c:Nat}{f:Fn}{g:Addr}{fd:FuncData}{ps:List Str}{A:Around}{pins:List (Addr×Obj)}{s:Shared}{σ:St}{F H:Hp}{x y:V}{u v:Value}{dx dy:D}{b:Bool}(Fo:FnOkG X.prog X.w X.K X.mg X.base k g fd ps (spF G [] 2 f))(hb:Binds X.K fd ps [])
  (sb:SubG X k A) (I:Inv X pins σ H s) (rx:RelV x u) (ry:RelV y v) (eS:Same F H) (hx:Dp G F x dx) (hy:Dp G F y dy) (hc:callB f dx dy=some b) :
  wpAny (model X.prog X.w) A (call (.ref g) [u,v]) (fun r s'=>r=.bool b∧∃ F' H',Inv X pins σ H' s'∧Alc F H F' H') X.xe s:=by
 have hsp:spF G [] 2 f [x,y] H (fun z H'=>z=.bl b∧∃ F',Alc F H F' H') (fun _ _ _=>False):=by
  refine ⟨rfl,F,[.v dx,.v dy],[],fun a=>(∃ o,H a=some o)∧F a=none,eS,.v hx (.v hy .nil),(fun a h=>by cases h),⟨(fun a h=>⟨h.2,h.1⟩),nofun,nofun,nofun⟩,?_⟩
  unfold callB at hc
  split at hc
  ·rename_i b' e
   cases hc
   rw [e]
   intro z F' H' L' C O fo q
   cases q
   refine ⟨rfl,F',C.subF,fun a o q=>?_,C.fh,fun a o q n=>C.frn a ⟨⟨o,q⟩,n⟩⟩
   cases n:F a with
   | none=>rw [C.keep a ⟨⟨o,q⟩,n⟩]; exact q
   | some o' =>
    have:=eS a o' n
    rw [q] at this; cases this
    exact C.fh a o (C.subF a o n)
  ·cases hc
 have e0:Env0 X.prog X.w X.K X.mg X.base A X.stack s H:=by
  have e:=I.env0
  exact ⟨by rw [sb.fr]; exact e.frames,e.mod,e.bs,e.bsz,e.funs,e.frf,e.hok,e.bare⟩
 have hl:=Fo.len _ _ _ _ hsp
 have bt:=hb s [u,v] I.kIn (by rw [List.append_nil]; exact hl)
 rw [List.append_nil] at bt
 refine wpAny_call (codeAny_mono (Fo.run A X.stack s H ⟨[u,v],[]⟩ [u,v] [x,y] _ _ sb.room e0 bt (.cons rx (.cons ry .nil)) hsp) fun r s' hq=>?_)
 cases r with
 | error e =>
  obtain ⟨_,_,_,_,_,_,_,_,_,_,_,_,z⟩:=hq
  exact z.elim
 | ok fl=>cases fl with
  | ret w =>
   obtain ⟨z,H',I',rz,ez,F',al⟩:=I.after hq
   subst ez
   cases rz
   exact ⟨rfl,F',H',I',al⟩
  | _=>exact (show False from hq).elim
theorem ty_of {pins:List (Addr×Obj)}{s:Shared}{σ:St}{F H:Hp}{y:V}{v:Value}{dy:D}(O:TabOk G T)(hK:X.K=G.K)(I:Inv X pins σ H s)(ry:RelV y v)(eS:Same F H)(hy:Dp G F y dy)(ht:tyK T dy=true) :
  ∃ t,(t∈baseT.map Value.type∨∃ c',c'<T.n∧t=.ref (G.cl c'))∧PySem.W.Looks (model X.prog X.w) s.heap (typeOf v) t:=by
 have key:∀ {t:Value},TyX X.K H y t→PySem.W.Looks (model X.prog X.w) s.heap (typeOf v) t:=fun {t} ty=>by
  obtain ⟨P,Z,p,_⟩:=kit_of I ry ty
  exact Z.ty _ _ I.kIn p
 cases dy with
 | obj c fs =>
  have hc:c<T.n:=by simpa [tyK] using ht
  refine ⟨_,.inr ⟨c,hc,rfl⟩,key ?_⟩
  obtain ⟨a,dx,vs,rfl,h1,_⟩:=(View.of hy:View G F H y _).obj eS
  rw [hK]
  exact .base (.ins h1 (O.cls c hc) (O.ha c hc) (O.hn (by omega)) (O.htk (by omega)) (O.hm c hc))
 | _ =>
  simp only [tyK] at ht
  obtain ⟨t,et⟩:=Option.isSome_iff_exists.mp ht
  exact ⟨.type t,.inl (List.mem_map.mpr ⟨t,tyN_base et,rfl⟩),key (by rw [hK]; exact tyN_ok eS (.of hy) et)⟩
end
end PyD
namespace PyQ
open PySem PySem.W PySem.Calls PyProof.Rows
section
variable {prog:Program}{w:World}{A:Around}{E:Value→Shared→Prop}{s:Shared}{K:Frag}{x C f:Addr}{ox:Obj}{od:Option Obj}{b tb:Value}
theorem ne_own {Q:Value→Shared→Prop}(hu:A.units+1<cLine)(X:K.In s.heap)(I:InstAt s.heap x ox C od)(hb:Looks (model prog w) s.heap (typeOf b) tb)(hn:notFirst K C tb=true)(hne:findIn K (.ref C) "__ne__"=some (some (.builtin "object.__ne__")))(mo:mroIn K C (.type "object")=some true)
  (hs:findIn K (.ref C) "__eq__"=some (some (.ref f))) (hf:isFn K (.ref f)=true)
  (h:wpAny (model prog w) A.in1 (call (.ref f) [.ref x,b]) (fun v s'=>∃ r,v=.bool r∧Q (.bool (!r)) s') E s):wpAny (model prog w) A (richCompare .NotEq (.ref x) b) Q E s:=by
 have sub:Looks (model prog w) s.heap (isInstance (.ref x) (.type "object")) true:=I.type.andThen (looks_mroIn X mo)
 have body:wpAny (model prog w) A.in1 (Builtin.«object.__ne__» ⟨[.ref x,b],[]⟩) (GQ.FinOf prog w A (fun r s'=>match r with | .ok (.ret v)=>(v≠.notImplemented∧Q v s') | .ok _=>False | .error e=>E e s')) (fun e s'=>E e s') s:=by
  unfold Builtin.«object.__ne__»
  refine wpAny_bind (wpAny_of_eq (a:=((Value.ref x:Value),[b])) (by first | rfl | (simp only [slotArgs]; rfl)) ?_)
  refine wpAny_bind (wpAny_cRoomFor (by show A.units+1<cLine; exact hu) ?_)
  refine wpAny_bind (ifBound_K X I hs hf (wpAny_mono h (fun v s' hv=>?_) fun _ _ e=>e))
  obtain ⟨r,rfl,q⟩:=hv
  refine wpAny_bind (wpAny_truthy_bool (wpAny_pure ?_))
  exact ⟨(fun z=>nomatch z),q⟩
 have cal:wpAny (model prog w) A (call (.builtin "object.__ne__") [.ref x,b]) (fun v s'=>v≠.notImplemented∧Q v s') E s:=by
  refine wpAny_call (codeAny_mono (codeAny_call_builtin (R:=fun r s'=>match r with | .ok (.ret v)=>(v≠.notImplemented∧Q v s') | .ok _=>False | .error e=>E e s') F.cmp_object.ne.plain F.cmpEntry_ne (@check_slot (model prog w) _ _ s "object.__ne__" "object" "__ne__" (.ref x) [b] [] _ F.cmpKind_ne F.cmpSplit_ne sub (F.cmpArgs_ne _ _) body)) fun r s' z=>?_)
  rcases r with e | (v | _ | _ | _) <;> exact z
 have bnd:wpAny (model prog w) A (callSpecialIfBound? (.ref x) "__ne__" [b]) (fun r s'=>∃ v,r=some v∧v≠.notImplemented∧Q v s') E s:=by
  simp only [callSpecialIfBound?,bindSpecialIfBound?]
  refine wpAny_holding (wpAny_bind (wpAny_bind (wpAny_bind (I.type.here ((looks_findIn X hne).here ?_)))))
  have fin:wpAny (model prog w) A (call (.builtin "object.__ne__") ([.ref x]++[b]) >>= fun v=>pure (some v)) (fun r s'=>∃ v,r=some v∧v≠.notImplemented∧Q v s') E s :=
   wpAny_bind (wpAny_mono cal (fun v s' z=>wpAny_pure ⟨v,rfl,z⟩) fun _ _ z=>z)
  simp only [F.cmp_object.ne.bind]
  refine wpAny_bind (wpAny_askSetting (wpAny_ite ?_))
  split
  ·exact wpAny_bind (wpAny_pure (wpAny_pure fin))
  ·exact wpAny_tryCatch (wpAny_bind (wpAny_pure (wpAny_pure fin)))
 have one:wpAny (model prog w) A (tryCompare (.ref x) (cmpInfo .NotEq).2.1 b) (fun r s'=>∃ v,r=some v∧Q v s') E s:=by
  unfold tryCompare
  refine wpAny_bind (wpAny_mono bnd (fun r s' z=>?_) fun _ _ z=>z)
  obtain ⟨v,rfl,z1,z2⟩:=z
  cases v <;> first | exact absurd rfl z1 | exact wpAny_pure ⟨_,rfl,z2⟩
 unfold richCompare
 simp only [oneThing_ref]
 refine wpAny_holding (wpAny_bind (wpAny_cRoomFor (by omega) ?_))
 refine wpAny_bind (I.type.here (wpAny_bind (hb.here ?_)))
 split
 ·rename_i q
  have e:subIn K tb (.ref C)=some false:=by
   rcases Bool.or_eq_true_iff.mp hn with e | e
   ·rw [beq_iff_eq.mp e] at q; simp at q
   ·exact beq_iff_eq.mp e
  refine wpAny_bind ((looks_subIn X e).here ?_)
  simp only [Bool.false_eq_true,if_false]
  refine wpAny_bind (wpAny_mono one (fun r s' z=>?_) fun _ _ e=>e)
  obtain ⟨v,rfl,hq⟩:=z
  exact wpAny_pure hq
 ·refine wpAny_bind (wpAny_pure ?_)
  simp only [Bool.false_eq_true,if_false]
  refine wpAny_bind (wpAny_mono one (fun r s' z=>?_) fun _ _ e=>e)
  obtain ⟨v,rfl,hq⟩:=z
  exact wpAny_pure hq
end
end PyQ
namespace PyD
open PySem PySem.Spec PyProof.Rows L2
theorem apartF_ok {G:Gx}{F:Hp}:∀ {fs:List (Str×V)} {ds es:List (Str×D)},DpF G F fs ds→DpF G F fs es→apartF ds es=true→False
 | _,_,_,.nil,.nil,h=>by simp [apartF] at h
 | _,_,_,.cons (d:=d) h t,.cons (d:=d') h' t',q=>by
  simp only [apartF,Bool.or_eq_true,Bool.and_eq_true,decide_eq_true_eq,beq_iff_eq] at q
  rcases q with ⟨_,q⟩ | q
  ·obtain ⟨f1,f2,e⟩:=flatE_ok h h' q
   have:∀ v:V,flatV v=true→eqV v v=true:=fun v hv=>by cases v <;> first | (cases hv; done) | simp [eqV]
   rw [this _ f1] at e; cases e
  ·exact apartF_ok t t' q
theorem apart_ok {G:Gx}{F:Hp}{v:V}{x y:D}(hx:Dp G F v x)(hy:Dp G F v y)(h:apart x y=true):False:=by
 unfold apart at h
 split at h
 ·cases hx with
  | obj h1 t1=>cases hy with
   | obj h2 t2 =>
    rw [h1] at h2
    injection h2 with h2; injection h2 with _ _ h2
    subst h2
    exact apartF_ok t1 t2 h
 ·cases hx; cases hy
 ·cases hx; cases hy
 ·cases hx; cases hy
 ·cases hx; cases hy
 ·cases h
section
variable {X:Cx}{G:Gx}{T:Tab}{E:Nat→Option Fn}{k:Nat}
theorem EqTab.mono {P:Program}{w:World}{K:PySem.W.Frag}{mg:Str→Option Value}{base:Heap}(h:EqTab P w K mg base G T k E):True:=trivial
theorem rc_ownS {neg:Bool}(O:TabOk G T)(hK:X.K=G.K)(hE:EqTab X.prog X.w X.K X.mg X.base G T k E):RcS X G (k+1) neg (ownT T E):=by
 intro A pins s σ F H x y u v dx dy b sb I rx ry eS hx hy he
 unfold ownT at he
 split at he
 ·rename_i c fs
  split at he
  ·rename_i f ef
   split at he
   ·rename_i ht
    obtain ⟨hc,Fo,nf⟩:=hE c f ef
    obtain ⟨g,fd,ps,e1,e2,hb,F1⟩:=Fo.ex
    obtain ⟨t,tk,lk⟩:=ty_of (X:=X) O hK I ry eS hy ht
    have hn:PySem.W.notFirst X.K (G.cl c) t=true:=by
     rcases tk with tk | ⟨c',hc',rfl⟩
     ·obtain ⟨t',ht',rfl⟩:=List.mem_map.mp tk
      exact Fo.nfB t' ht'
     ·exact nf c' hc'
    obtain ⟨a,dx',vs,rfl,h1,_⟩:=(View.of hx:View G F H x _).obj eS
    cases rx
    obtain ⟨mA,J,_⟩:=ins_get I.hok h1
    obtain ⟨od,J,_⟩:=J.look
    obtain ⟨m,fr⟩:=I.fr
    cases neg with
    | false =>
     refine PySem.W.cmp_K (op:=.Eq) sb.room.units0 fr I.ok.mod.kin J lk hn e1 e2 ?_
     refine wpAny_mono (own_call (c:=c) (X:=X) (G:=G) F1 hb (sb.mono (Nat.le_succ k)) I (x:=.ref a) (u:=.ref a) rfl ry eS hx hy he) (fun r s' q=>?_) fun _ _ z=>z
     obtain ⟨rfl,q⟩:=q
     exact ⟨by simp,q⟩
    | true =>
     refine PyQ.ne_own (by have:=sb.room.un; omega) I.kIn J lk hn Fo.ne Fo.mo e1 e2 ?_
     refine wpAny_mono (own_call (c:=c) (X:=X) (G:=G) F1 hb sb.in1 I (x:=.ref a) (u:=.ref a) rfl ry eS hx hy he) (fun r s' q=>?_) fun _ _ z=>z
     obtain ⟨rfl,q⟩:=q
     exact ⟨b,rfl,by simp,q⟩
   ·cases he
  ·cases he
 ·cases he
theorem eq_itemS (O:TabOk G T)(hK:X.K=G.K)(hE:EqTab X.prog X.w X.K X.mg X.base G T k E):EqS X G (k+1) (itemE T E):=by
 intro A pins s σ F H x y u v dx dy b sb I rx ry eS hx hy he
 unfold itemE orE at he
 split at he
 ·rename_i b' e
  cases he
  obtain ⟨f1,f2,e3⟩:=flatE_ok hx hy e
  have q:=eqAt_V (A:=A) (s:=s) rx ry f1 f2
  rw [e3] at q
  exact q X.prog X.w X.xe _ ⟨rfl,F,H,I,.refl eS⟩
 ·have he:sureE dx dy (ownT T E dx dy)=some b:=he
  cases eo:ownT T E dx dy with
  | none=>rw [eo] at he; cases he
  | some b' =>
   rw [eo] at he
   have hb':b'=b∧(b'=false→apart dx dy=true):=by
    cases b' with
    | true=>simp only [sureE,Option.some.injEq] at he; exact ⟨he,fun z=>by cases z⟩
    | false =>
     simp only [sureE] at he
     split at he
     ·rename_i w; cases he; exact ⟨rfl,fun _=>w⟩
     ·cases he
   obtain ⟨rfl,hap⟩:=hb'
   have rc:=rc_ownS (neg:=false) O hK hE A pins s σ F H x y u v dx dy b' sb I rx ry eS hx hy eo
   have hxr:∃ a,x=.ref a:=by
    unfold ownT at eo
    split at eo
    ·obtain ⟨a,dx',vs,rfl,h1,_⟩:=(View.of hx:View G F H x _).obj eS; exact ⟨a,rfl⟩
    ·cases eo
   obtain ⟨a,rfl⟩:=hxr
   cases rx
   by_cases hv:Value.ref a=v
   ·subst hv
    have:y=.ref a:=by
     cases y with
     | ref b=>cases ry; rfl
     | non=>cases ry
     | bl b=>cases ry
     | int i=>obtain ⟨t,e⟩:=ry; cases e
     | str i=>obtain ⟨t,e⟩:=ry; cases e
     | _=>first | (cases ry; done) | (obtain ⟨t,e⟩:=ry; cases e)
    subst this
    cases b' with
    | false=>exact (apart_ok hx hy (hap rfl)).elim
    | true=>exact SeqAt.EqAt.same (A:=A) (s:=s) (.ref a) X.prog X.w X.xe _ ⟨rfl,F,H,I,.refl eS⟩
   ·unfold eqBool
    refine wpAny_holding ?_
    refine wpAny_ite_split (fun hab=>absurd (eq_of_beq hab) hv) (fun _=>?_)
    refine wpAny_bind (wpAny_mono rc (fun r s' q=>?_) fun _ _ z=>z)
    obtain ⟨rfl,q⟩:=q
    refine wpAny_truthy_bool ⟨by simp,q⟩
end
section
variable {X:Cx}{G:Gx}{k:Nat}
def LpI (X:Cx)(G:Gx)(pins:List (Addr×Obj))(σ:St)(F H:Hp)(s':Shared):Prop:=∃ F' H',Inv X pins σ H' s'∧Alc F H F' H'
theorem eqLs_step {e:D→D→Option Bool}{xs ys:List D}{i:Nat}{b:Bool}{x y:D}(hx:xs[i]?=some x)(hy:ys[i]?=some y)(h:eqLs e (xs.drop i) (ys.drop i)=some b) :
  ∃ r,e x y=some r∧(r=true→eqLs e (xs.drop (i+1)) (ys.drop (i+1))=some b)∧(r=false→b=false):=by
 have hl:=lt_of_get hx
 have hl2:=lt_of_get hy
 rw [List.drop_eq_getElem_cons hl,List.drop_eq_getElem_cons hl2] at h
 rw [List.getElem?_eq_getElem hl] at hx
 rw [List.getElem?_eq_getElem hl2] at hy
 cases hx; cases hy
 simp only [eqLs] at h
 split at h
 ·rename_i q; exact ⟨true,q,fun _=>h,(fun z=>by cases z)⟩
 ·rename_i q; cases h; exact ⟨false,q,(fun z=>by cases z),fun _=>rfl⟩
 ·cases h
theorem eqLs_end {e:D→D→Option Bool}{xs ys:List D}{b:Bool}(h:eqLs e xs ys=some b)(z:xs=[]∨ys=[]):b=true:=by
 rcases z with rfl | rfl
 ·simp only [eqLs,Option.some.injEq] at h; exact h.symm
 ·cases xs <;> simp only [eqLs,Option.some.injEq] at h <;> exact h.symm
theorem item_turn {e:D→D→Option Bool}(he:EqS X G k e){A:Around}(sb:SubG X (k+1) A){pins:List (Addr×Obj)}{σ:St}{F H:Hp}{vs ws:List V}{ds es:List D}{its its2:List Value}(t:DpL G F vs ds)(t2:DpL G F ws es)(r:Vals vs its)(r2:Vals ws its2){b:Bool}
  (i:Nat) (h1:i<its.toArray.size) (h2:i<its2.toArray.size) (s':Shared) (l:LpI X G pins σ F H s') (q:eqLs e (ds.drop i) (es.drop i)=some b) :
  wpAny (model X.prog X.w) A.in1 (eqBool its.toArray[i] its2.toArray[i]) (fun r s2=>LpI X G pins σ F H s2∧((r=true∧eqLs e (ds.drop (i+1)) (es.drop (i+1))=some b)∨(r=false∧b=false))) X.xe s':=by
 obtain ⟨F1,H1,I1,al⟩:=l
 have g1:its[i]?=some its.toArray[i]:=by
  have h1':i<its.length:=by simpa using h1
  rw [List.getElem?_eq_getElem h1'] <;> simp
 have g2:its2[i]?=some its2.toArray[i]:=by
  have h2':i<its2.length:=by simpa using h2
  rw [List.getElem?_eq_getElem h2'] <;> simp
 have k1:i<vs.length:=by rw [r.length]; simpa using h1
 have k2:i<ws.length:=by rw [r2.length]; simpa using h2
 obtain ⟨u,hu,ru⟩:=r.get (List.getElem?_eq_getElem k1)
 obtain ⟨v,hv,rv⟩:=r2.get (List.getElem?_eq_getElem k2)
 rw [g1] at hu
 rw [g2] at hv
 rw [Option.some.inj hu,Option.some.inj hv]
 obtain ⟨d,hd,dp⟩:=t.getV (List.getElem?_eq_getElem k1)
 obtain ⟨d2,hd2,dp2⟩:=t2.getV (List.getElem?_eq_getElem k2)
 obtain ⟨b1,e1,e2,e3⟩:=eqLs_step hd hd2 q
 refine wpAny_mono (he A.in1 pins s' σ F1 H1 _ _ u v d d2 b1 sb.in1 I1 ru rv al.fh (dp.mono al.subF) (dp2.mono al.subF) e1) (fun r s2 z=>?_) fun _ _ x=>x
 obtain ⟨rfl,F2,H2,I2,al2⟩:=z
 refine ⟨⟨F2,H2,I2,al.trans al2⟩,?_⟩
 cases r with
 | true=>exact .inl ⟨rfl,e2 rfl⟩
 | false=>exact .inr ⟨rfl,e3 rfl⟩
theorem rc_seqS {neg:Bool}{e:D→D→Option Bool}(hK:X.K=G.K)(he:EqS X G k e):RcS X G (k+1) neg (seqE e):=by
 intro A pins s σ F H x y u v dx dy b sb I rx ry eS hx hy q
 unfold seqE at q
 split at q
 ·rename_i xs ys
  cases hx with
  | @lst a vs _ ha t=>cases hy with
   | @lst a2 ws _ hb t2 =>
    cases rx; cases ry
    have lists:∀ {s':Shared} {F' H':Hp},Inv X pins σ H' s'→Alc F H F' H'→∃ its its2 n n2,Vals vs its∧Vals ws its2∧s'.heap.get? a=some { cls:=.type "list",data:=.seq its.toArray n }∧s'.heap.get? a2=some { cls:=.type "list",data:=.seq its2.toArray n2 }:=fun {s' F' H'} I1 al=>by
     obtain ⟨z,its,n,r,e1⟩:=I1.hok a _ (al.subH _ _ (eS _ _ ha))
     obtain ⟨z2,its2,n2,r2,e2⟩:=I1.hok a2 _ (al.subH _ _ (eS _ _ hb))
     exact ⟨its,its2,n,n2,r,r2,e1,e2⟩
    obtain ⟨its,its2,n,n2,r,r2,e1,e2⟩:=lists I (Alc.refl eS)
    have fin:wpAny (model X.prog X.w) A.in1 ((if neg then Builtin.«list.__ne__» else Builtin.«list.__eq__») ⟨[.ref a,.ref a2],[]⟩) (GQ.FinOf X.prog X.w A (wants (fun v s'=>v≠.notImplemented∧(v=.bool (neg != b)∧∃ F' H',Inv X pins σ H' s'∧Alc F H F' H')) X.xe)) (fun e s'=>wants (fun v s'=>v≠.notImplemented∧(v=.bool (neg != b)∧∃ F' H',Inv X pins σ H' s'∧Alc F H F' H')) X.xe (.error e) s') s:=by
     split at q
     ·rename_i hl
      refine PyQ.list2 (R:=wants (fun v s'=>v≠.notImplemented∧(v=.bool (neg != b)∧∃ F' H',Inv X pins σ H' s'∧Alc F H F' H')) X.xe) a a2 vs.length (fun i s'=>LpI X G pins σ F H s'∧eqLs e (xs.drop i) (ys.drop i)=some b) (fun s'=>LpI X G pins σ F H s'∧b=false) (fun i s' ⟨l,qi⟩=>?_) (fun s' ⟨l,qb⟩=>?_) (fun s' ⟨l,qi⟩=>?_) ⟨⟨F,H,I,.refl eS⟩,by simpa using q⟩
      ·obtain ⟨F1,H1,I1,al⟩:=id l
       obtain ⟨its,its2,n,n2,r,r2,e1,e2⟩:=lists I1 al
       refine ⟨its.toArray,its2.toArray,n,n2,e1,e2,by rw [List.size_toArray,← r.length],by rw [List.size_toArray,← r2.length,t.length,t2.length,hl],fun h1 h2=>?_⟩
       refine wpAny_mono (item_turn he sb t t2 r r2 i h1 h2 s' l qi) (fun r s2 z=>?_) fun _ _ x=>x
       rcases z with ⟨l2,⟨z1,z2⟩ | ⟨z1,z2⟩⟩
       ·exact .inl ⟨z1,l2,z2⟩
       ·exact .inr ⟨z1,l2,z2⟩
      ·obtain ⟨F1,H1,I1,al⟩:=l
       obtain ⟨its,its2,n,n2,r,r2,e1,e2⟩:=lists I1 al
       exact ⟨⟨its.toArray,its2.toArray,n,n2,e1,e2,by rw [List.size_toArray,← r.length],by rw [List.size_toArray,← r2.length,t.length,t2.length,hl]⟩,(fun z=>nomatch z),by rw [qb]; simp,F1,H1,I1,al⟩
      ·have hb1:=eqLs_end qi (.inl (by rw [t.length]; simp))
       refine ⟨(fun z=>nomatch z),by rw [hb1]; simp,l⟩
     ·rename_i hl
      cases q
      refine PyQ.listLen (R:=wants (fun v s'=>v≠.notImplemented∧(v=.bool (neg != false)∧∃ F' H',Inv X pins σ H' s'∧Alc F H F' H')) X.xe) e1 e2 (by rw [List.size_toArray,List.size_toArray,← r.length,← r2.length,t.length,t2.length]; exact hl) ⟨(fun z=>nomatch z),by simp,F,H,I,.refl eS⟩
    cases neg with
    | false=>exact wpAny_richCompare_same_room (op:=.Eq) ⟨_,e1,rfl⟩ ⟨_,e2,rfl⟩ PySem.F.slot_list_eq (GQ.call_here PySem.F.slot_list_eq ⟨_,e1,rfl⟩ PySem.F.entry_list_eq (PySem.F.args_list_eq_2 _ _) fin) sb.room.units0
    | true=>exact wpAny_richCompare_same_room (op:=.NotEq) ⟨_,e1,rfl⟩ ⟨_,e2,rfl⟩ PySem.F.slot_list_ne (GQ.call_here PySem.F.slot_list_ne ⟨_,e1,rfl⟩ PySem.F.entry_list_ne (PySem.F.args_list_ne_2 _ _) fin) sb.room.units0
 ·rename_i xs ys
  obtain ⟨b1,q1,rfl⟩:=Option.map_eq_some_iff.mp q
  cases hx with
  | @tup a vs _ ha t=>cases hy with
   | @tup a2 ws _ hb t2 =>
    cases rx; cases ry
    obtain ⟨its,r,p,hz⟩:=I.tuple (hK▸sqT_ext ha eS)
    obtain ⟨its2,r2,p2,hz2⟩:=I.tuple (hK▸sqT_ext hb eS)
    obtain ⟨⟨cls,dd,data,sl⟩,ho,hc,n,hd⟩:=id (show s.heap.IsTuple a its.toArray from p)
    obtain ⟨⟨cls2,dd2,data2,sl2⟩,ho2,hc2,n2,hd2⟩:=id (show s.heap.IsTuple a2 its2.toArray from p2)
    simp only at hc hd hc2 hd2
    subst hc hd hc2 hd2
    have s1:its.toArray.size=xs.length:=by rw [List.size_toArray,← r.length,t.length]
    have s2:its2.toArray.size=ys.length:=by rw [List.size_toArray,← r2.length,t2.length]
    have fin:wpAny (model X.prog X.w) A.in1 ((if neg then Builtin.«tuple.__ne__» else Builtin.«tuple.__eq__») ⟨[.ref a,.ref a2],[]⟩) (GQ.FinOf X.prog X.w A (wants (fun v s'=>v≠.notImplemented∧(v=.bool (neg != (b1&&decide (xs.length=ys.length)))∧∃ F' H',Inv X pins σ H' s'∧Alc F H F' H')) X.xe)) (fun e s'=>wants (fun v s'=>v≠.notImplemented∧(v=.bool (neg != (b1&&decide (xs.length=ys.length)))∧∃ F' H',Inv X pins σ H' s'∧Alc F H F' H')) X.xe (.error e) s') s:=by
     refine PyQ.tup2 (R:=wants (fun v s'=>v≠.notImplemented∧(v=.bool (neg != (b1&&decide (xs.length=ys.length)))∧∃ F' H',Inv X pins σ H' s'∧Alc F H F' H')) X.xe) a a2 its.toArray its2.toArray n n2 dd dd2 sl sl2 (fun i s'=>LpI X G pins σ F H s'∧eqLs e (xs.drop i) (ys.drop i)=some b1) (fun i h1 h2 s' ⟨l,qi⟩=>?_) (fun s' ⟨l,qi⟩=>?_) ho ho2 ⟨⟨F,H,I,.refl eS⟩,by simpa using q1⟩
     ·refine wpAny_mono (item_turn he sb t t2 r r2 i h1 h2 s' l qi) (fun r s2 z=>?_) fun _ _ x=>x
      rcases z with ⟨l2,⟨z1,z2⟩ | ⟨z1,z2⟩⟩
      ·exact .inl ⟨z1,l2,z2⟩
      ·exact .inr ⟨z1,(fun z=>nomatch z),by rw [z2]; simp,l2⟩
     ·have hb1:=eqLs_end qi (by
       rw [s1,s2]
       rcases Nat.le_total xs.length ys.length with z | z
       ·exact .inl (by rw [Nat.min_eq_left z]; simp)
       ·exact .inr (by rw [Nat.min_eq_right z]; simp))
      refine ⟨(fun z=>nomatch z),?_,l⟩
      rw [hb1,s1,s2]; simp
    cases neg with
    | false=>exact wpAny_richCompare_same_room (op:=.Eq) ⟨_,ho,rfl⟩ ⟨_,ho2,rfl⟩ PySem.F.slot_tuple_eq (GQ.call_here PySem.F.slot_tuple_eq ⟨_,ho,rfl⟩ PySem.F.entry_tuple_eq (PySem.F.args_tuple_eq_2 _ _) fin) sb.room.units0
    | true=>exact wpAny_richCompare_same_room (op:=.NotEq) ⟨_,ho,rfl⟩ ⟨_,ho2,rfl⟩ PySem.F.slot_tuple_ne (GQ.call_here PySem.F.slot_tuple_ne ⟨_,ho,rfl⟩ PySem.F.entry_tuple_ne (PySem.F.args_tuple_ne_2 _ _) fin) sb.room.units0
 ·cases q
theorem RcS.or {n:Nat}{neg:Bool}{e e':D→D→Option Bool}(h:RcS X G n neg e)(h':RcS X G n neg e'):RcS X G n neg (orE e e'):=fun A pins s σ F H x y u v dx dy b sb I rx ry eS hx hy q=>by
 unfold orE at q
 split at q
 ·rename_i b' w; cases q; exact h A pins s σ F H x y u v dx dy _ sb I rx ry eS hx hy w
 ·exact h' A pins s σ F H x y u v dx dy b sb I rx ry eS hx hy q
theorem RcS.mono {n m:Nat}{neg:Bool}{e:D→D→Option Bool}(h:RcS X G n neg e)(hn:n≤m):RcS X G m neg e:=fun A pins s σ F H x y u v dx dy b sb=>h A pins s σ F H x y u v dx dy b (sb.mono hn)
theorem rc_eqO {T:Tab}{E:Nat→Option Fn}{neg:Bool}(O:TabOk G T)(hK:X.K=G.K)(hE:EqTab X.prog X.w X.K X.mg X.base G T k E):RcS X G (k+2) neg (eqO T E) :=
 (rc_seqS hK (eq_itemS O hK hE)).or ((rc_ownS O hK hE).mono (Nat.le_succ _))
def rEqO (G:Gx)(neg:Bool)(e:D→D→Option Bool):R2:=fun x y H Q=>∃ F dx dy b,Same F H∧Dp G F x dx∧Dp G F y dy∧e dx dy=some b∧∀ H',Same H H'→Q (.bl (neg != b)) H'
theorem op_eqO {n:Nat}{e:D→D→Option Bool}(h:RcS X G n false e)(hr:RG n X.A):OpR X (compareOp .Eq) (rEqO G false e):=by
 intro pins s σ H x y v u Q I rx ry ⟨F,dx,dy,b,eS,hx,hy,he,q⟩
 show wpAny (model X.prog X.w) X.A (richCompare .Eq v u) (EP X pins σ Q) X.xe s
 refine wpAny_mono (h X.A pins s σ F H x y v u dx dy b ⟨hr,rfl⟩ I rx ry eS hx hy he) (fun r s' z=>?_) fun _ _ x=>x
 obtain ⟨rfl,F',H',I',al⟩:=z
 exact ⟨.bl (false != b),H',I',rfl,q H' al.subH⟩
theorem op_neO {n:Nat}{e:D→D→Option Bool}(h:RcS X G n true e)(hr:RG n X.A):OpR X (compareOp .NotEq) (rEqO G true e):=by
 intro pins s σ H x y v u Q I rx ry ⟨F,dx,dy,b,eS,hx,hy,he,q⟩
 show wpAny (model X.prog X.w) X.A (richCompare .NotEq v u) (EP X pins σ Q) X.xe s
 refine wpAny_mono (h X.A pins s σ F H x y v u dx dy b ⟨hr,rfl⟩ I rx ry eS hx hy he) (fun r s' z=>?_) fun _ _ x=>x
 obtain ⟨rfl,F',H',I',al⟩:=z
 exact ⟨.bl (true != b),H',I',rfl,q H' al.subH⟩
end
theorem frzH_sub' {F H:Hp}{L:List Addr}(e:Same F H):Same F (frzH F H L):=fun b o q=>by
 by_cases h:b∈L
 ·rw [frzH_in h]; exact e b o q
 ·rw [frzH_out h]; exact q
def notO:D→Bool
 | .lstO _=>false
 | .dctO _=>false
 | .objO _ _=>false
 | .kid _=>false
 | _=>true
theorem View.frz {G:Gx}{F H:Hp}{v:V}{d:D}(e:Same F H)(h:View G F H v d)(hn:notO d=true):∃ L:List Addr,∀ L':List Addr,(∀ b∈L,b∈L')→Dp G (frzH F H L') v d:=by
 rcases h with h | ⟨a,L,rfl,c⟩
 ·exact ⟨[],fun L' _=>h.mono (frzH_sub' e)⟩
 ·cases c with
  | flat c =>
   refine ⟨[a],fun L' sb=>?_⟩
   have ha:frzH F H L' a=H a:=frzH_in (sb a (List.mem_cons_self ..))
   have es:=frzH_sub' (L:=L') e
   cases d with
   | lst ds=>obtain ⟨vs,h,t⟩:=c; exact .lst (by rw [ha]; exact h) (t.mono es)
   | dct ds=>obtain ⟨vs,h,t⟩:=c; exact .dct (by rw [ha]; exact h) (t.mono es)
   | obj c fs=>obtain ⟨dx,vs,h,t⟩:=c; exact .obj (by rw [ha]; exact h) (t.mono es)
   | dctN ds=>obtain ⟨vs,h,t⟩:=c; exact .dctN (.inl (by rw [ha]; exact h)) (t.mono es)
   | _=>exact c.elim
  | _=>cases hn
def eqOD (neg:Bool)(e:D→D→Option Bool)(x y:D):Option Res:=if notO x&&notO y then (e x y).map fun b=>.val (.bl (neg != b)) else none
theorem eqOD_ok {G:Gx}{neg:Bool}{e:D→D→Option Bool}:BinOk G (rEqO G neg e) (eqOD neg e):=by
 intro F H x y dx dy res Q eS vx vy q k
 unfold eqOD at q
 split at q
 ·rename_i w
  obtain ⟨w1,w2⟩:=Bool.and_eq_true_iff.mp w
  obtain ⟨b,hb,rfl⟩:=Option.map_eq_some_iff.mp q
  obtain ⟨L1,h1⟩:=vx.frz eS w1
  obtain ⟨L2,h2⟩:=vy.frz eS w2
  exact ⟨frzH F H (L1++L2),dx,dy,b,frzH_same eS,h1 (L1++L2) (fun b hb=>List.mem_append_left _ hb),h2 (L1++L2) (fun b hb=>List.mem_append_right _ hb),hb,fun H' s=>k _ F H' ⟨Same.refl _,s,eS.trans s,fun _ _ _ z=>z⟩ (.bl _)⟩
 ·cases q
structure SpFact (P:Program)(w:World)(K:PySem.W.Frag)(mg:Str→Option Value)(base:Heap)(G:Gx)(Θ:List NdefX.NTab)(c:Nat)(m:Str)(n k:Nat)(f:Fn):Prop where
 ex:∃ g fd ps,PySem.W.findIn K (.ref (G.cl c)) m=some (some (.ref g))∧PySem.W.isFn K (.ref g)=true∧PySem.W.fnIn K g=true∧Binds K fd ps []∧FnOkG P w K mg base k g fd ps (spF G Θ n f)
def SpTab (P:Program)(w:World)(K:PySem.W.Frag)(mg:Str→Option Value)(base:Heap)(G:Gx)(Θ:List NdefX.NTab)(m:Str)(n k:Nat)(E:Nat→Option Fn):Prop :=
 ∀ c f,E c=some f→SpFact P w K mg base G Θ c m n k f
def callV (f:Fn)(xs:List D):Option D:=match f (xs.map .v) with
 | .ret (.val d) []=>some d
 | _=>none
section
variable {X:Cx}{G:Gx}{T:Tab}{E:Nat→Option Fn}{k:Nat}
theorem arel_v {F H:Hp}:∀ {vs:List V} {ds:List D},DpL G F vs ds→ARel G F H vs (ds.map .v) []
 | _,_,.nil=>.nil
 | _,_,.cons h t=>.v h (arel_v t)
theorem pure_call {f:Fn}{g:Addr}{fd:FuncData}{ps:List Str}{A:Around}{n:Nat}{pins:List (Addr×Obj)}{s:Shared}{σ:St}{F H:Hp}{vs:List V}{us:List Value}{ds:List D}{d:D}(Fo:FnOkG X.prog X.w X.K X.mg X.base k g fd ps (spF G [] n f))(hb:Binds X.K fd ps [])
  (sb:SubG X k A) (I:Inv X pins σ H s) (rv:Vals vs us) (eS:Same F H) (hv:DpL G F vs ds) (hn:ds.length=n) (hc:callV f ds=some d) :
  wpAny (model X.prog X.w) A (call (.ref g) us) (fun r s'=>∃ z F' H',RelV z r∧Inv X pins σ H' s'∧Alc F H F' H'∧Dp G F' z d) X.xe s:=by
 have hsp:spF G [] n f vs H (fun z H'=>∃ F',Alc F H F' H'∧Dp G F' z d) (fun _ _ _=>False):=by
  refine ⟨by rw [hv.length]; exact hn,F,ds.map .v,[],fun a=>(∃ o,H a=some o)∧F a=none,eS,arel_v hv,(fun a h=>by cases h),⟨(fun a h=>⟨h.2,h.1⟩),nofun,nofun,nofun⟩,?_⟩
  unfold callV at hc
  split at hc
  ·rename_i d' e
   cases hc
   rw [e]
   intro z F' H' L' C O fo q
   refine ⟨F',⟨C.subF,fun a o q=>?_,C.fh,fun a o q n=>C.frn a ⟨⟨o,q⟩,n⟩⟩,q⟩
   cases n:F a with
   | none=>rw [C.keep a ⟨⟨o,q⟩,n⟩]; exact q
   | some o' =>
    have:=eS a o' n
    rw [q] at this; cases this
    exact C.fh a o (C.subF a o n)
  ·cases hc
 have e0:Env0 X.prog X.w X.K X.mg X.base A X.stack s H:=by
  have e:=I.env0
  exact ⟨by rw [sb.fr]; exact e.frames,e.mod,e.bs,e.bsz,e.funs,e.frf,e.hok,e.bare⟩
 have hl:=Fo.len _ _ _ _ hsp
 have bt:=hb s us I.kIn (by rw [List.append_nil,← rv.length]; exact hl)
 rw [List.append_nil] at bt
 refine wpAny_call (codeAny_mono (Fo.run A X.stack s H ⟨us,[]⟩ us vs _ _ sb.room e0 bt rv hsp) fun r s' hq=>?_)
 cases r with
 | error e =>
  obtain ⟨_,_,_,_,_,_,_,_,_,_,_,_,z⟩:=hq
  exact z.elim
 | ok fl=>cases fl with
  | ret w =>
   obtain ⟨z,H',I',rz,F',al,dp⟩:=I.after hq
   exact ⟨z,F',H',rz,I',al,dp⟩
  | _=>exact (show False from hq).elim
def cmpO (T:Tab)(E:Nat→Option Fn)(x y:D):Option Bool:=match x with
 | .obj c _=>(match E c with
  | some f=>if tyK T y=true then (match callV f [x,y] with
   | some (.bl b)=>some b
   | _=>none) else none
  | none=>none)
 | _=>none
structure NfTab (K:PySem.W.Frag)(G:Gx)(T:Tab)(E:Nat→Option Fn):Prop where
 lt:∀ c f,E c=some f→c<T.n
 nfB:∀ c f,E c=some f→∀ t∈baseT,PySem.W.notFirst K (G.cl c) (.type t)=true
 nf:∀ c f,E c=some f→∀ c',c'<T.n→PySem.W.notFirst K (G.cl c) (.ref (G.cl c'))=true
theorem op_cmpO {op:CmpOp}{m:Str}(hm:(cmpInfo op).2.1=m)(ho:∀ u v,compareOp op u v=richCompare op u v)(O:TabOk G T)(hK:X.K=G.K)(hE:SpTab X.prog X.w X.K X.mg X.base G [] m 2 k E)(hN:NfTab X.K G T E)(hr:RG k X.A):OpR X (compareOp op) (rEqO G false (cmpO T E)):=by
 intro pins s σ H x y v u Q I rx ry ⟨F,dx,dy,b,eS,hx,hy,he,q⟩
 rw [ho]
 unfold cmpO at he
 split at he
 ·rename_i c fs
  split at he
  ·rename_i f ef
   split at he
   ·rename_i ht
    split at he
    ·rename_i b' ec
     cases he
     obtain ⟨g,fd,ps,e1,e2,e3,hb,Fo⟩:=(hE c f ef).ex
     obtain ⟨t,tk,lk⟩:=ty_of (X:=X) O hK I ry eS hy ht
     have hn:PySem.W.notFirst X.K (G.cl c) t=true:=by
      rcases tk with tk | ⟨c',hc',rfl⟩
      ·obtain ⟨t',ht',rfl⟩:=List.mem_map.mp tk
       exact hN.nfB c f ef t' ht'
      ·exact hN.nf c f ef c' hc'
     obtain ⟨a,dx',vs,rfl,h1,_⟩:=(View.of hx:View G F H x _).obj eS
     cases rx
     obtain ⟨mA,J,_⟩:=ins_get I.hok h1
     obtain ⟨od,J,_⟩:=J.look
     obtain ⟨m',fr⟩:=I.fr
     refine PySem.W.cmp_K (op:=op) hr.units0 fr I.ok.mod.kin J lk hn (by rw [hm]; exact e1) e2 ?_
     refine wpAny_mono (pure_call (X:=X) (G:=G) (k:=k) Fo hb ⟨hr,rfl⟩ I (vs:=[.ref a,y]) (us:=[.ref a,u]) (.cons rfl (.cons ry .nil)) eS (.cons hx (.cons hy .nil)) rfl ec) (fun r s' z=>?_) fun _ _ z=>z
     obtain ⟨z,F',H',rz,I',al,dp⟩:=z
     cases dp
     cases rz
     exact ⟨.bl _,H',I',rfl,by simpa using q H' al.subH⟩
    ·cases he
   ·cases he
  ·cases he
 ·cases he
def lenO (E:Nat→Option Fn)(x:D):Option Int:=match x with
 | .obj c _=>(match E c with
  | some f=>(match callV f [x] with
   | some (.int n)=>if 0≤n∧n<2 ^ 63 then some n else none
   | _=>none)
  | none=>none)
 | _=>none
def rLenO (G:Gx)(E:Nat→Option Fn):List V→Hp→VK→Prop:=fun xs H Q=>∃ x F dx n,xs=[x]∧Same F H∧Dp G F x dx∧lenO E dx=some n∧∀ H',Same H H'→Q (.int n) H'
theorem call_lenO (hE:SpTab X.prog X.w X.K X.mg X.base G [] "__len__" 1 k E)(hr:RG (k+1) X.A):CallR X (.builtin "len") (rLenO G E):=by
 intro pins s σ H xs us Q I r ⟨x,F,dx,n,ex,eS,hx,he,q⟩
 subst ex
 obtain ⟨u,rfl,rx⟩:∃ u,us=[u]∧RelV x u:=by
  cases r with | cons h t=>cases t; exact ⟨_,rfl,h⟩
 unfold lenO at he
 split at he
 ·rename_i c fs
  split at he
  ·rename_i f ef
   split at he
   ·rename_i n' ec
    split at he
    ·rename_i hb'
     cases he
     obtain ⟨g,fd,ps,e1,e2,e3,hb,Fo⟩:=(hE c f ef).ex
     obtain ⟨a,dx',vs,rfl,h1,_⟩:=(View.of hx:View G F H x _).obj eS
     cases rx
     obtain ⟨mA,J,_⟩:=ins_get I.hok h1
     obtain ⟨od,J,_⟩:=J.look
     obtain ⟨m,fr⟩:=I.fr
     refine PySem.W.len_K fr I.ok.mod.kin J e1 e2 ?_
     refine wpAny_mono (pure_call (X:=X) (G:=G) (k:=k) Fo hb (SubG.in1 ⟨hr,rfl⟩) I (vs:=[.ref a]) (us:=[.ref a]) (.cons rfl .nil) eS (.cons hx .nil) rfl ec) (fun r s' z=>?_) fun _ _ z=>z
     obtain ⟨z,F',H',rz,I',al,dp⟩:=z
     cases dp
     obtain ⟨t,rfl⟩:=rz
     exact ⟨hb',.int _,H',I'.tok _,⟨_,rfl⟩,q H' al.subH⟩
    ·cases he
   ·cases he
  ·cases he
 ·cases he
end
def lenOD (E:Nat→Option Fn):List D→Option Res
 | [x]=>if notO x then (lenO E x).map fun n=>.val (.int n) else none
 | _=>none
theorem lenOD_ok {G:Gx}{E:Nat→Option Fn}:CallOk G (rLenO G E) (lenOD E):=by
 intro F H xs ds res Q eS v q k
 unfold lenOD at q
 split at q
 ·rename_i d
  split at q
  ·rename_i w
   obtain ⟨n,hn,rfl⟩:=Option.map_eq_some_iff.mp q
   cases v with
   | cons vx t =>
    cases t
    obtain ⟨L1,h1⟩:=vx.frz eS w
    exact ⟨_,frzH F H L1,d,n,rfl,frzH_same eS,h1 L1 (fun b hb=>hb),hn,fun H' s=>k _ F H' ⟨Same.refl _,s,eS.trans s,fun _ _ _ z=>z⟩ (.int _)⟩
  ·cases q
 ·cases q
section
variable {X:Cx}{Γ:Gm}{W:WX}
def mStuck:M:=fun _=>.stuck
theorem je_stuck {e:Expr}:PE X e (tM Γ W mStuck):=⟨fun _ _ _ _ _ _ ⟨_,_,_,p⟩=>p.elim⟩
end
section
variable {X:Cx}{Γ:Gm}{W:WX}
def ixCall (E:Nat→Option Fn)(c:Nat)(a b:Res)(ρ:Rho):Out Res:=match E c with
 | some f=>callR [false,false] f [a,b] ρ
 | none=>.stuck
end
theorem hu190 {A:Around}{k:Nat}(hr:RG k A):A.units+190<cLine:=by have:=hr.un; omega
theorem and2 {a b:Bool}(h:(a&&b)=true):a=true∧b=true:=Bool.and_eq_true_iff.mp h
theorem clsB_ok {K:PySem.W.Frag}{a:Addr}(h:clsB K a=true):Cls K a:=by
 obtain ⟨h1,h⟩:=and2 h
 obtain ⟨h2,h⟩:=and2 h
 obtain ⟨h3,h4⟩:=and2 h
 exact ⟨h1,h2,h3,of_decide_eq_true h4⟩
theorem tabB_ok {G:Gx}{T:Tab}(h:tabB G.K G.cl T=true):TabOk G T:=by
 have key:∀ c,c<T.n→tab1 G.K G.cl T c=true:=fun c hc=>List.all_eq_true.mp h c (List.mem_range.mpr hc)
 refine ⟨fun c hc t ht=>?_,fun c hc c' hc'=>?_,fun c hc t ht=>?_,fun c hc=>?_,fun c hc=>?_,fun hn=>?_,fun hn=>?_,fun c hc=>?_,fun c hc f hf=>?_⟩
 all_goals first
  | (have k:=key c hc
     obtain ⟨a1,k⟩:=and2 k
     obtain ⟨a2,k⟩:=and2 k
     obtain ⟨a3,k⟩:=and2 k
     obtain ⟨a4,k⟩:=and2 k
     obtain ⟨a5,k⟩:=and2 k
     obtain ⟨a6,k⟩:=and2 k
     obtain ⟨a7,k⟩:=and2 k
     first
      | exact of_decide_eq_true (List.all_eq_true.mp a1 t ht)
      | exact of_decide_eq_true (List.all_eq_true.mp a2 c' (List.mem_range.mpr hc'))
      | exact of_decide_eq_true (List.all_eq_true.mp a3 t ht)
      | exact clsB_ok a4
      | exact of_decide_eq_true a5
      | exact of_decide_eq_true a6
      | exact (show PySem.W.findIn G.K (.ref (G.cl c)) f=some none from of_decide_eq_true (List.all_eq_true.mp a7 f hf)))
  | (have k:=key 0 hn
     obtain ⟨a1,k⟩:=and2 k
     obtain ⟨a2,k⟩:=and2 k
     obtain ⟨a3,k⟩:=and2 k
     obtain ⟨a4,k⟩:=and2 k
     obtain ⟨a5,k⟩:=and2 k
     obtain ⟨a6,k⟩:=and2 k
     obtain ⟨a7,k⟩:=and2 k
     obtain ⟨a8,a9⟩:=and2 k
     first | exact of_decide_eq_true a8 | exact of_decide_eq_true a9)
theorem nfB_ok {K:PySem.W.Frag}{cl:Nat→Addr}{n:Nat}{a:Addr}(h:nfB K cl n a=true):(∀ t∈baseT,PySem.W.notFirst K a (.type t)=true)∧∀ c,c<n→PySem.W.notFirst K a (.ref (cl c))=true:=by
 obtain ⟨h1,h2⟩:=and2 h
 exact ⟨fun t ht=>List.all_eq_true.mp h1 t ht,fun c hc=>List.all_eq_true.mp h2 c (List.mem_range.mpr hc)⟩
section
variable {P:Program}{w:World}{K:PySem.W.Frag}{mg:Str→Option Value}{base:Heap}{G:Gx}{c n k:Nat}{m:Str}{f:Fn}{g:Addr}{fd:FuncData}{ps:List Str}
theorem sp_of {Θ:List NdefX.NTab}(h:spB K (G.cl c) m g=true)(hb:Binds K fd ps [])(O:FnOkG P w K mg base k g fd ps (spF G Θ n f)):SpFact P w K mg base G Θ c m n k f:=by
 obtain ⟨h1,h⟩:=and2 h
 obtain ⟨h2,h3⟩:=and2 h
 exact ⟨g,fd,ps,of_decide_eq_true h1,h2,h3,hb,O⟩
theorem eq_of (h:spB K (G.cl c) "__eq__" g=true)(hn:neB K (G.cl c)=true){N:Nat}(hf:nfB K G.cl N (G.cl c)=true)(hb:Binds K fd ps [])(O:FnOkG P w K mg base k g fd ps (spF G [] 2 f)):EqFact P w K mg base G c k f:=by
 obtain ⟨h1,h⟩:=and2 h
 obtain ⟨h2,h3⟩:=and2 h
 obtain ⟨h4,h5⟩:=and2 hn
 exact ⟨⟨g,fd,ps,of_decide_eq_true h1,h2,hb,O⟩,of_decide_eq_true h4,of_decide_eq_true h5,(nfB_ok hf).1⟩
theorem FnOkG.mono {j k:Nat}{f:Addr}{sp:Sp}(F:FnOkG P w K mg base j f fd ps sp)(h:j≤k):FnOkG P w K mg base k f fd ps sp:=⟨F.len,fun A outer s H args us vs Q E hr=>F.run A outer s H args us vs Q E (hr.mono h)⟩
end
theorem xcB_ok {K:PySem.W.Frag}{C:Addr}{tl:List Value}{newId:String}(h:xcB K C tl newId=true):XC K C tl newId:=by
 obtain ⟨q,h⟩:=and2 h
 obtain ⟨h1,h⟩:=and2 h
 obtain ⟨h2,h⟩:=and2 h
 obtain ⟨h3,h4⟩:=and2 h
 refine ⟨?_,of_decide_eq_true h1,of_decide_eq_true h2,of_decide_eq_true h3,h4⟩
 split at q
 ·rename_i dd cd sl ho
  split at q
  ·rename_i C' bm k0 k1 k2 k3 n k5 hm hs
   obtain ⟨q1,q⟩:=and2 q
   obtain ⟨q2,q⟩:=and2 q
   obtain ⟨q3,q⟩:=and2 q
   obtain ⟨q4,q5⟩:=and2 q
   obtain rfl:=beq_iff_eq.mp q1
   obtain rfl:=beq_iff_eq.mp q2
   obtain ⟨nm,bs,mro,ns,qn,hd,sn,sub,ab,col,del⟩:=cd
   dsimp only at hm q3 q4
   subst hm
   have e1:del=false:=by simpa using q3
   subst e1 q4
   obtain ⟨l⟩:=sl
   simp only at hs
   subst hs
   exact ⟨nm,qn,ns,bs,bm,sn,sub,ab,col,dd,k0,k1,k2,k3,k5,ho,q5⟩
  ·cases q
 ·cases q
theorem okx_of {P:Program}{w:World}{K:PySem.W.Frag}{mg:Str→Option Value}{base:Heap}{qual b f sl txt:Str}{params:Arguments}{scope:Scope}{fI:Addr}{fd:FuncData}{B newId initId:String}{tl:List Value}{p1 p2 p3 p4 p5 p6 p7 p8 p9 p10:Pos}{j:Nat}(Z:EBase B newId initId tl)
  (F:FunD K "__init__" qual params [.Expr (.Call (.Attribute (.Name b p1) "__init__" p2) [.Name sl p3,.Constant (.str txt) j p4] [] p5) p6,.Assign [.Attribute (.Name sl p7) f p8] (.Name f p9) p10] scope [] [] fI fd) (S:FnScope [sl,f] [sl,f] scope)
  (hB:∀ (cdv:Value) (A:Around) (outer:List Env) (s:Shared) (H:Hp) (E:XK),BaseAt (cxOf (L2.CX P w) P w K mg base [sl,f] qual scope fI cdv A outer s H E) b initId)
  (v0:Vis scope sl) (v1:Vis scope f) (d0:(sl==("__debug__" : Str))=false) (d1:(f==("__debug__" : Str))=false) (c0:(sl==("__classdict__" : Str))=false) (c1:(f==("__classdict__" : Str))=false)
  (hpl:∀ (env:Env),∃ pl,eval (.Call (.Attribute (.Name b p1) "__init__" p2) [.Name sl p3,.Constant (.str txt) j p4] [] p5) env=(do let ov ← eval (.Name b p1) env; standAt p2.atName; let (f,first) ← holding [ov] (getMethod ov "__init__" pl); callWith p5 f first (backTo p5 (starEach [.Name sl p3,.Constant (.str txt) j p4] env)) (backToKw p5 (keywordEach [] env))):=by intro _; exact ⟨_,rfl⟩)
  (hs1:∀ (env:Env),swapsWith (.Call (.Attribute (.Name b p1) "__init__" p2) [.Name sl p3,.Constant (.str txt) j p4] [] p5) none p6.line env=pure false:=by intro _; rfl)
  (hs2:∀ (env:Env),swapsWith (.Name f p9) (some (.Attribute (.Name sl p7) f p8)) p10.line env=pure false:=by intro _; rfl) :
  FnOkG P w K mg base 1 fI fd [sl,f] (spX K tl newId f) :=
 okg_of F S (fun vs H Q E ⟨a,C,v,e,_⟩=>by rw [e]; rfl) fun cdv A outer s H vs Q E hr ⟨a,C,v,e,T,hn,ha,q⟩=>by
  obtain ⟨pl,hpl⟩:=hpl (cxOf (L2.CX P w) P w K mg base [sl,f] qual scope fI cdv A outer s H E).env
  refine ⟨_,pss_cons (ps_expr (pe_binit (pl:=pl) Z (hB cdv A outer s H E) (pa_cons (pe_var (i:=0) rfl v0 d0 c0) (pa_cons pe_str pa_nil)) hpl) (hs1 _)) (pss_one (ps_xst Z (pe_var (i:=0) rfl v0 d0 c0) (pe_var (i:=1) rfl v1 d1 c1) (hs2 _))),?_⟩
  subst e
  exact ⟨.ref a,rfl,a,C,[.str txt],rfl,(by simp),T,ha,v,rfl,.ref a,rfl,a,C,rfl,T,hn,ha,fun dx h1 h2=>q dx h1 h2⟩
def lookF:List (Nat×Fn)→Nat→Option Fn
 | [],_=>none
 | (c,f)::l,c'=>if c=c' then some f else lookF l c'
section
variable {P:Program}{w:World}{K:PySem.W.Frag}{mg:Str→Option Value}{base:Heap}{G:Gx}{T:Tab}{c k n:Nat}{m:Str}{f:Fn}{l:List (Nat×Fn)}
theorem eqtab_nil:EqTab P w K mg base G T k (lookF []):=fun c f h=>by cases h
theorem eqtab_cons (h1:c<T.n)(h2:EqFact P w K mg base G c k f)(h3:∀ c',c'<T.n→PySem.W.notFirst K (G.cl c) (.ref (G.cl c'))=true)(t:EqTab P w K mg base G T k (lookF l)):EqTab P w K mg base G T k (lookF ((c,f)::l)):=fun c' f' h=>by
 simp only [lookF] at h
 split at h
 ·rename_i e; subst e; cases h; exact ⟨h1,h2,h3⟩
 ·exact t c' f' h
theorem sptab_nil {Θ:List NdefX.NTab}:SpTab P w K mg base G Θ m n k (lookF []):=fun c f h=>by cases h
theorem sptab_cons {Θ:List NdefX.NTab}(h2:SpFact P w K mg base G Θ c m n k f)(t:SpTab P w K mg base G Θ m n k (lookF l)):SpTab P w K mg base G Θ m n k (lookF ((c,f)::l)):=fun c' f' h=>by
 simp only [lookF] at h
 split at h
 ·rename_i e; subst e; cases h; exact h2
 ·exact t c' f' h
theorem nftab_nil:NfTab K G T (lookF []):=⟨fun c f h=>by (cases h),fun c f h=>by (cases h),fun c f h=>by (cases h)⟩
theorem nftab_cons (h1:c<T.n)(h2:∀ t∈baseT,PySem.W.notFirst K (G.cl c) (.type t)=true)(h3:∀ c',c'<T.n→PySem.W.notFirst K (G.cl c) (.ref (G.cl c'))=true)(t:NfTab K G T (lookF l)):NfTab K G T (lookF ((c,f)::l)):=by
 refine ⟨fun c' f' h=>?_,fun c' f' h=>?_,fun c' f' h=>?_⟩
 all_goals
  simp only [lookF] at h
  split at h
  ·rename_i e; subst e; first | exact h1 | exact h2 | exact h3
  ·first | exact t.lt c' f' h | exact t.nfB c' f' h | exact t.nf c' f' h
end
theorem xfc_ok {K:PySem.W.Frag}{a:Addr}{id:String}(h:xfc K a id=true):PySem.W.findCls K (.ref a) (.type "type") "__init__"=some (.val (.builtin id)):=by
 unfold xfc at h
 split at h
 ·rename_i i e; rw [e,beq_iff_eq.mp h]
 ·cases h
theorem xfcT_ok {K:PySem.W.Frag}{a id:String}(h:xfcT K a id=true):PySem.W.findCls K (.type a) (.type "type") "__init__"=some (.val (.builtin id)):=by
 unfold xfcT at h
 split at h
 ·rename_i i e; rw [e,beq_iff_eq.mp h]
 ·cases h
def Gm.alsoL (Γ:Gm)(L:List Addr):Gm:={ Γ with U:=fun b=>Γ.U b∨b∈L }
section
variable {Γ:Gm}{ρ ρ':Rho}{σ σ':St}{F H F' H':Hp}{L:List Addr}
theorem slotOk_alsoL {v:V}{M:List Addr}{s:Slot}:SlotOk (Γ.alsoL L) F H v M s↔SlotOk Γ F H v M s:=by cases s <;> exact Iff.rfl
theorem ownAt_alsoL {i:Nat}{c:Addr}:OwnAt (Γ.alsoL L) ρ σ F H i c↔OwnAt Γ ρ σ F H i c :=
 ⟨fun ⟨s,v,M,h1,h2,h3,h4⟩=>⟨s,v,M,h1,h2,slotOk_alsoL.mp h3,h4⟩,fun ⟨s,v,M,h1,h2,h3,h4⟩=>⟨s,v,M,h1,h2,slotOk_alsoL.mpr h3,h4⟩⟩
theorem Rel.alsoL (R:Rel Γ ρ σ F H)(h:∀ b∈L,F b=none∧¬ Own Γ ρ σ F H b∧∃ o,H b=some o∧okU o):Rel (Γ.alsoL L) ρ σ F H :=
 ⟨R.sub,fun i s q=>by obtain ⟨v,M,h1,h2⟩:=R.slot i s q; exact ⟨v,M,h1,slotOk_alsoL.mpr h2⟩,fun i j c h1 h2=>R.inj i j c (ownAt_alsoL.mp h1) (ownAt_alsoL.mp h2),fun i c q=>⟨(R.own i c (ownAt_alsoL.mp q)).1,fun z=>by
  rcases z with z | z
  ·exact (R.own i c (ownAt_alsoL.mp q)).2 z
  ·exact (h c z).2.1 ⟨i,ownAt_alsoL.mp q⟩⟩,R.len,R.inv,fun c q=>by
  rcases q with q | q
  ·exact R.ali c q
  ·obtain ⟨h1,_,o,h2,_⟩:=h c q; exact ⟨h1,o,h2⟩,R.tab.on,fun p hp q=>by
  rcases q with q | q
  ·exact R.tab.off p hp q
  ·obtain ⟨_,_,o,h2,h3⟩:=h _ q
   obtain ⟨ps,e,_⟩:=R.tab.on p hp
   rw [h2] at e; cases e; exact h3.1 ps rfl,R.tab.fr⟩
theorem Rel.unalsoL (R:Rel (Γ.alsoL L) ρ σ F H):Rel Γ ρ σ F H∧∀ b∈L,¬ Own Γ ρ σ F H b :=
 ⟨⟨R.sub,fun i s q=>by obtain ⟨v,M,h1,h2⟩:=R.slot i s q; exact ⟨v,M,h1,slotOk_alsoL.mp h2⟩,fun i j c h1 h2=>R.inj i j c (ownAt_alsoL.mpr h1) (ownAt_alsoL.mpr h2),fun i c h=>⟨(R.own i c (ownAt_alsoL.mpr h)).1,fun z=>(R.own i c (ownAt_alsoL.mpr h)).2 (.inl z)⟩,R.len,R.inv,fun c h=>R.ali c (.inl h),R.tab.on,fun p hp h=>R.tab.off p hp (.inl h),R.tab.fr⟩,fun b hb ⟨i,h⟩=>(R.own i b (ownAt_alsoL.mpr h)).2 (.inr hb)⟩
theorem Stp.unalsoL (s:Stp (Γ.alsoL L) ρ σ F H ρ' σ' F' H'):Stp Γ ρ σ F H ρ' σ' F' H'∧∀ b∈L,H' b=H b∧F' b=none∧¬ Own Γ ρ' σ' F' H' b :=
 ⟨⟨s.rel.unalsoL.1,s.subF,fun c h=>s.keep c (.inl h),s.there⟩,fun b hb=>⟨s.keep b (.inr hb),(s.rel.ali b (.inr hb)).1,s.rel.unalsoL.2 b hb⟩⟩
end
inductive RepN (Γ:Gm)(σ:St)(ρ:Rho)(F H:Hp):List V→List Res→List Addr→Prop
 | nil:RepN Γ σ ρ F H [] [] []
 | val {v:V} {d:D} {vs:List V} {rs:List Res} {Ls:List Addr}:Dp Γ.G F v d→RepN Γ σ ρ F H vs rs Ls→RepN Γ σ ρ F H (v::vs) (.val d::rs) Ls
 | at {v:V} {i:Nat} {vs:List V} {rs:List Res} {Ls:List Addr}:σ[i]?=some (some v)→RepN Γ σ ρ F H vs rs Ls→RepN Γ σ ρ F H (v::vs) (.at i::rs) Ls
 | new {a:Addr} {d:D} {L:List Addr} {vs:List V} {rs:List Res} {Ls:List Addr}:Ct Γ.G F H a d L→Fresh Γ ρ σ F H L→(∀ b∈L,b∉Ls)→RepN Γ σ ρ F H vs rs Ls→RepN Γ σ ρ F H (.ref a::vs) (.new d::rs) (L++Ls)
theorem RepN.fresh {Γ:Gm}{σ:St}{ρ:Rho}{F H:Hp}:∀ {vs:List V} {rs:List Res} {Ls:List Addr},RepN Γ σ ρ F H vs rs Ls→Fresh Γ ρ σ F H Ls
 | _,_,_,.nil=>fresh_nil
 | _,_,_,.val _ t=>t.fresh
 | _,_,_,.at _ t=>t.fresh
 | _,_,_,.new c f _ t=>fun b hb=>by
  rcases List.mem_append.mp hb with z | z
  ·exact f b z
  ·exact t.fresh b z
theorem RepN.there {Γ:Gm}{σ:St}{ρ:Rho}{F H:Hp}:∀ {vs:List V} {rs:List Res} {Ls:List Addr},RepN Γ σ ρ F H vs rs Ls→∀ b∈Ls,∃ o,H b=some o
 | _,_,_,.nil,b,h=>by cases h
 | _,_,_,.val _ t,b,h=>t.there b h
 | _,_,_,.at _ t,b,h=>t.there b h
 | _,_,_,.new c f _ t,b,hb=>by
  rcases List.mem_append.mp hb with z | z
  ·exact c.there b z
  ·exact t.there b z
theorem RepN.okU {Γ:Gm}{σ:St}{ρ:Rho}{F H:Hp}:∀ {vs:List V} {rs:List Res} {Ls:List Addr},RepN Γ σ ρ F H vs rs Ls→∀ b∈Ls,∃ o,H b=some o∧PyD.okU o
 | _,_,_,.nil,b,h=>by cases h
 | _,_,_,.val _ t,b,h=>t.okU b h
 | _,_,_,.at _ t,b,h=>t.okU b h
 | _,_,_,.new c f _ t,b,hb=>by
  rcases List.mem_append.mp hb with z | z
  ·exact c.okU b z
  ·exact t.okU b z
theorem RepN.move {Γ Γ':Gm}{σ:St}{ρ ρ':Rho}{F H F' H':Hp}(eG:Γ'.G=Γ.G)(e:Same F F'):∀ {vs:List V} {rs:List Res} {Ls:List Addr},RepN Γ σ ρ F H vs rs Ls→(∀ b∈Ls,H' b=H b)→Fresh Γ' ρ' σ F' H' Ls→RepN Γ' σ ρ' F' H' vs rs Ls
 | _,_,_,.nil,_,_=>.nil
 | _,_,_,.val h t,k,f=>.val (by rw [eG]; exact h.mono e) (t.move eG e k f)
 | _,_,_,.at h t,k,f=>.at h (t.move eG e k f)
 | _,_,_,.new c _ dj t,k,f=>.new (by rw [eG]; exact c.mono e fun b hb o q=>by rw [k b (List.mem_append_left _ hb)]; exact q) (fun b hb=>f b (List.mem_append_left _ hb)) dj (t.move eG e (fun b hb=>k b (List.mem_append_right _ hb)) fun b hb=>f b (List.mem_append_right _ hb))
def PostN (Γ:Gm)(W:WX)(o:Out (List Res))(ρ:Rho)(σ:St)(F H:Hp)(Q:List V→Hp→Prop):Prop :=
 match o with
 | .ok rs ρ'=>∀ vs F' H' Ls,Stp Γ ρ σ F H ρ' σ F' H'→RepN Γ σ ρ' F' H' vs rs Ls→Q vs H'
 | .exc x ρ'=>∀ d F' H',Stp Γ ρ σ F H ρ' σ F' H'→ExcRep Γ.G F' H' x d→W (ecV Γ.G x.c) d σ H'
 | .stuck=>False
def tMN (Γ:Gm)(W:WX)(m:MA):TA:=fun σ H Q=>∃ ρ F,Rel Γ ρ σ F H∧PostN Γ W (m ρ) ρ σ F H Q
def tAN (Γ:Gm)(W:WX)(m:MA):TA:=fun σ H Q=>∃ L,tMN (Γ.alsoL L) W m σ H Q
def mConsN (ma:M)(mr:MA):MA:=fun ρ=>bindO (ma ρ) fun a ρ1=>bindO (mr ρ1) fun as ρ2=>.ok (a::as) ρ2
section
variable {X:Cx}{Γ:Gm}{W:WX}{e:Expr}{es:List Expr}{ma:M}{mr:MA}
theorem jn_nil:PA X [] (tMN Γ W mNil):=pa_nil.imp fun σ H Q ⟨ρ,F,R,p⟩=>p [] F H [] (.refl R) .nil
theorem consN_ok:∀ σ H Q,tMN Γ W (mConsN ma mr) σ H Q→tCons (tM Γ W ma) (tAN Γ W mr) σ H Q:=fun σ H Q ⟨ρ,F,R,p⟩=>by
 refine ⟨ρ,F,R,?_⟩
 unfold mConsN at p
 cases e1:ma ρ with
 | stuck=>rw [e1] at p; exact p.elim
 | exc x ρ1=>rw [e1] at p; exact p
 | ok r ρ1 =>
  rw [e1] at p
  simp only [bindO] at p
  intro v F1 H1 s1 hr
  have key:∃ L,(∀ b∈L,F1 b=none∧¬ Γ.U b∧¬ Own Γ ρ1 σ F1 H1 b∧∃ o,H1 b=some o∧okU o)∧∀ {F2 H2:Hp} {ρ2:Rho} {vs:List V} {rs:List Res} {Ls:List Addr},Stp (Γ.alsoL L) ρ1 σ F1 H1 ρ2 σ F2 H2→RepN (Γ.alsoL L) σ ρ2 F2 H2 vs rs Ls→∃ Ls',RepN Γ σ ρ2 F2 H2 (v::vs) (r::rs) Ls':=by
   have down:∀ {L:List Addr} {F2 H2:Hp} {ρ2:Rho} {vs:List V} {rs:List Res} {Ls:List Addr},RepN (Γ.alsoL L) σ ρ2 F2 H2 vs rs Ls→RepN Γ σ ρ2 F2 H2 vs rs Ls∧∀ b∈Ls,b∉L:=fun {L F2 H2 ρ2 vs rs Ls} t=>by
    have f:=t.fresh
    exact ⟨RepN.move (Γ:=Γ.alsoL L) (Γ':=Γ) rfl (Same.refl _) t (fun _ _=>rfl) fun b hb=>⟨(f b hb).1,fun z=>(f b hb).2.1 (.inl z),fun ⟨j,z⟩=>(f b hb).2.2 ⟨j,ownAt_alsoL.mpr z⟩⟩,fun b hb z=>(f b hb).2.1 (.inr z)⟩
   cases r with
   | val d=>exact ⟨[],(fun b h=>by cases h),fun {F2 H2 ρ2 vs rs Ls} s2 t=>⟨Ls,.val (Dp.mono s2.subF hr) (down t).1⟩⟩
   | «at» i=>exact ⟨[],(fun b h=>by cases h),fun {F2 H2 ρ2 vs rs Ls} s2 t=>⟨Ls,.at hr (down t).1⟩⟩
   | new d =>
    obtain ⟨a,L,rfl,c,fr⟩:=hr
    refine ⟨L,fun b hb=>⟨(fr b hb).1,(fr b hb).2.1,(fr b hb).2.2,c.okU b hb⟩,fun {F2 H2 ρ2 vs rs Ls} s2 t=>?_⟩
    obtain ⟨u1,u2⟩:=s2.unalsoL
    obtain ⟨t1,t2⟩:=down t
    exact ⟨L++Ls,.new (c.mono s2.subF fun b hb o q=>by rw [(u2 b hb).1]; exact q) (fun b hb=>⟨(u2 b hb).2.1,(fr b hb).2.1,(u2 b hb).2.2⟩) (fun b hb z=>t2 b z hb) t1⟩
  obtain ⟨L,hL,fin⟩:=key
  refine ⟨L,ρ1,F1,s1.rel.alsoL (fun b hb=>⟨(hL b hb).1,(hL b hb).2.2.1,(hL b hb).2.2.2⟩),?_⟩
  cases e2:mr ρ1 with
  | stuck=>rw [e2] at p; exact p.elim
  | exc x ρ2=>rw [e2] at p; exact fun d F2 H2 s2 q=>p d F2 H2 (s1.trans s2.unalsoL.1) q
  | ok as ρ2 =>
   rw [e2] at p
   intro vs F2 H2 Ls s2 t
   obtain ⟨Ls',t'⟩:=fin s2 t
   exact p (v::vs) F2 H2 Ls' (s1.trans s2.unalsoL.1) t'
theorem pa_any (h:∀ L,PA X es (tMN (Γ.alsoL L) W mr)):PA X es (tAN Γ W mr):=⟨fun pos pins s σ H Q I ⟨L,q⟩=>(h L).run pos pins s σ H Q I q⟩
theorem jn_cons (ha:PE X e (tM Γ W ma))(hr:∀ L,PA X es (tMN (Γ.alsoL L) W mr))(hs:starEach (e::es) X.env=(false,eval e X.env)::starEach es X.env:=by rfl):PA X (e::es) (tMN Γ W (mConsN ma mr)) :=
 (pa_cons ha (pa_any hr) hs).imp consN_ok
end
inductive RepM (G:Gx)(F H:Hp):List V→List Res→List Addr→Prop
 | nil:RepM G F H [] [] []
 | val {v:V} {d:D} {vs:List V} {rs:List Res} {Ls:List Addr}:Dp G F v d→RepM G F H vs rs Ls→RepM G F H (v::vs) (.val d::rs) Ls
 | new {a:Addr} {d:D} {L:List Addr} {vs:List V} {rs:List Res} {Ls:List Addr}:Ct G F H a d L→(∀ b∈L,b∉Ls)→RepM G F H vs rs Ls→RepM G F H (.ref a::vs) (.new d::rs) (L++Ls)
def settleN:List Res→Rho→Option (List Res×Rho)
 | [],ρ=>some ([],ρ)
 | .at i::rs,ρ=>match settle (.at i) ρ with
  | some (d,ρ1)=>(settleN rs ρ1).map fun p=>(.val d::p.1,p.2)
  | none=>none
 | r::rs,ρ=>(settleN rs ρ).map fun p=>(r::p.1,p.2)
def setsR:List Nat→List Res→Rho→SOut
 | [],[],ρ=>.nx ρ
 | i::is,r::rs,ρ=>if i<ρ.length then (match r with
  | .val d=>setsR is rs (ρ.set i (some (.val d)))
  | .new d=>setsR is rs (ρ.set i (some (.own none d)))
  | .at _=>.stuck) else .stuck
 | _,_,_=>.stuck
def parR (is:List Nat)(rs:List Res)(ρ:Rho):SOut:=match settleN rs ρ with
 | some (rs2,ρ2)=>setsR is rs2 ρ2
 | none=>.stuck
def mPar (is:List Nat)(ma:MA):MS:=fun ρ=>bindSO (ma ρ) fun rs ρ1=>parR is rs ρ1
def sets (σ:St):List Nat→List V→St
 | i::is,v::vs=>sets (σ.set i (some v)) is vs
 | _,_=>σ
section
variable {Γ:Gm}{W:WX}
theorem settleN_ok:∀ {Γ:Gm} {rs rs2:List Res} {ρ ρ2:Rho} {σ:St} {F H:Hp} {vs:List V} {Ls:List Addr},Rel Γ ρ σ F H→RepN Γ σ ρ F H vs rs Ls→settleN rs ρ=some (rs2,ρ2)→∃ F',Stp Γ ρ σ F H ρ2 σ F' H∧RepM Γ.G F' H vs rs2 Ls∧Fresh Γ ρ2 σ F' H Ls
 | Γ,_,rs2,ρ,ρ2,σ,F,H,_,_,R,.nil,e=>by
  simp only [settleN,Option.some.injEq,Prod.mk.injEq] at e
  obtain ⟨rfl,rfl⟩:=e
  exact ⟨F,.refl R,.nil,fresh_nil⟩
 | Γ,_,rs2,ρ,ρ2,σ,F,H,_,Ls,R,.val h t,e=>by
  simp only [settleN,Option.map_eq_some_iff] at e
  obtain ⟨⟨q1,q2⟩,e1,e2⟩:=e
  cases e2
  obtain ⟨F',s,t',f'⟩:=settleN_ok R t e1
  exact ⟨F',s,.val (h.mono s.subF) t',f'⟩
 | Γ,_,rs2,ρ,ρ2,σ,F,H,_,_,R,.new (L:=L) c f dj t,e=>by
  simp only [settleN,Option.map_eq_some_iff] at e
  obtain ⟨⟨q1,q2⟩,e1,e2⟩:=e
  cases e2
  have R':Rel (Γ.alsoL L) ρ σ F H:=R.alsoL fun b hb=>⟨(f b hb).1,(f b hb).2.2,c.okU b hb⟩
  have t0:=t.fresh
  have t2:=RepN.move (Γ:=Γ) (Γ':=Γ.alsoL L) (ρ':=ρ) rfl (Same.refl _) t (fun _ _=>rfl) fun b hb=>⟨(t0 b hb).1,fun z=>by
   rcases z with z | z
   ·exact (t0 b hb).2.1 z
   ·exact dj b z hb,fun ⟨j,z⟩=>(t0 b hb).2.2 ⟨j,ownAt_alsoL.mp z⟩⟩
  obtain ⟨F',s,t',f'⟩:=settleN_ok R' t2 e1
  obtain ⟨u1,u2⟩:=s.unalsoL
  refine ⟨F',u1,.new (c.mono s.subF fun b hb o q=>q) dj t',fun b hb=>?_⟩
  rcases List.mem_append.mp hb with z | z
  ·exact ⟨(u2 b z).2.1,(f b z).2.1,(u2 b z).2.2⟩
  ·exact ⟨(f' b z).1,fun w=>(f' b z).2.1 (.inl w),fun ⟨j,w⟩=>(f' b z).2.2 ⟨j,ownAt_alsoL.mpr w⟩⟩
 | Γ,_,rs2,ρ,ρ2,σ,F,H,_,Ls,R,.at (i:=i) h t,e=>by
  simp only [settleN] at e
  split at e
  ·rename_i d ρ1 e1
   obtain ⟨⟨q1,q2⟩,e2,e3⟩:=Option.map_eq_some_iff.mp e
   cases e3
   have t0:=t.fresh
   have R':Rel (Γ.alsoL Ls) ρ σ F H:=R.alsoL fun b hb=>⟨(t0 b hb).1,(t0 b hb).2.2,t.okU b hb⟩
   obtain ⟨F1,s1,dp⟩:=settle_ok R' (show RepF (Γ.alsoL Ls).G σ F _ (.at i) from h) e1
   obtain ⟨u1,u2⟩:=s1.unalsoL
   have t1:=RepN.move (Γ:=Γ) (Γ':=Γ) (ρ':=ρ1) (H':=H) rfl s1.subF t (fun _ _=>rfl) fun b hb=>⟨(u2 b hb).2.1,(t0 b hb).2.1,(u2 b hb).2.2⟩
   obtain ⟨F',s,t',f'⟩:=settleN_ok u1.rel t1 e2
   exact ⟨F',u1.trans s,.val (Dp.mono s.subF dp) t',f'⟩
  ·cases e
theorem sets_ok {D:Ends}:∀ {is:List Nat} {rs:List Res} {ρ:Rho} {σ:St} {F H:Hp} {vs:List V} {Ls:List Addr},Rel Γ ρ σ F H→RepM Γ.G F H vs rs Ls→Fresh Γ ρ σ F H Ls→PostS Γ W (setsR is rs ρ) ρ σ F H D→vs.length=is.length∧D.nx (sets σ is vs) H
 | [],_,ρ,σ,F,H,_,_,R,.nil,f,p=>⟨rfl,p σ F H (.refl R)⟩
 | [],_,ρ,σ,F,H,_,_,R,.val _ _,f,p=>p.elim
 | [],_,ρ,σ,F,H,_,_,R,.new _ _ _,f,p=>p.elim
 | i::is,_,ρ,σ,F,H,_,_,R,.nil,f,p=>p.elim
 | i::is,_,ρ,σ,F,H,_,Ls,R,.val (v:=v) (d:=d) h t,f,p=>by
  simp only [setsR] at p
  split at p
  ·rename_i hi
   obtain ⟨R1,bk⟩:=R.put (σ':=σ.set i (some v)) (i:=i) (L:=[]) (sl:=.val d) hi (by rw [List.getElem?_set_self (by rw [← R.len]; exact hi)]) (fun j e=>by rw [List.getElem?_set_ne (Ne.symm e)]) (by simp) ⟨h,rfl⟩ (fun b hb=>by cases hb)
   have s1:Stp Γ ρ σ F H (ρ.set i (some (.val d))) (σ.set i (some v)) F H:=(Stp.refl R).setV hi h
   have r:=sets_ok R1 t (fun b hb=>⟨(f b hb).1,(f b hb).2.1,fun w=>by
    obtain ⟨j,o⟩:=w
    rcases bk j b o with ⟨_,z⟩ | ⟨_,z⟩
    ·cases z
    ·exact (f b hb).2.2 ⟨j,z⟩⟩) (p.shift s1)
   exact ⟨by simp [r.1],r.2⟩
  ·exact p.elim
 | i::is,_,ρ,σ,F,H,_,_,R,.new (a:=a) (d:=d) (L:=L) c dj t,f,p=>by
  simp only [setsR] at p
  split at p
  ·rename_i hi
   have fL:∀ b∈L,F b=none∧¬ Γ.U b∧¬ Own Γ ρ σ F H b:=fun b hb=>f b (List.mem_append_left _ hb)
   obtain ⟨R1,bk⟩:=R.put (σ':=σ.set i (some (.ref a))) (i:=i) (L:=L) (sl:=.own none d) hi (by rw [List.getElem?_set_self (by rw [← R.len]; exact hi)]) (fun j e=>by rw [List.getElem?_set_ne (Ne.symm e)]) (by simp) ⟨a,rfl,c,fun k z=>nomatch z⟩ (fun b hb=>⟨(fL b hb).1,(fL b hb).2.1,fun j _ o=>(fL b hb).2.2 ⟨j,o⟩⟩)
   have s1:Stp Γ ρ σ F H (ρ.set i (some (.own none d))) (σ.set i (some (.ref a))) F H:=(Stp.refl R).set hi ⟨a,rfl,c,fun k z=>nomatch z⟩ fL
   have r:=sets_ok R1 t (fun b hb=>⟨(f b (List.mem_append_right _ hb)).1,(f b (List.mem_append_right _ hb)).2.1,fun w=>by
    obtain ⟨j,o⟩:=w
    rcases bk j b o with ⟨_,z⟩ | ⟨_,z⟩
    ·exact dj b z hb
    ·exact (f b (List.mem_append_right _ hb)).2.2 ⟨j,z⟩⟩) (p.shift s1)
   exact ⟨by simp [r.1],r.2⟩
  ·exact p.elim
theorem par_ok {D:Ends}{is:List Nat}{rs:List Res}{ρ ρ1:Rho}{σ:St}{F H F1 H1:Hp}{vs:List V}{Ls:List Addr}(s:Stp Γ ρ σ F H ρ1 σ F1 H1)(t:RepN Γ σ ρ1 F1 H1 vs rs Ls)(p:PostS Γ W (parR is rs ρ1) ρ σ F H D):vs.length=is.length∧D.nx (sets σ is vs) H1:=by
 unfold parR at p
 split at p
 ·rename_i rs2 ρ2 e
  obtain ⟨F2,s2,m,f⟩:=settleN_ok s.rel t e
  exact sets_ok s2.rel m f (p.shift (s.trans s2))
 ·exact p.elim
end
section
variable {X:Cx}{Γ:Gm}{W:WX}{ma:MA}{pos:Pos}
theorem mPar_ok {is:List Nat}{D:Ends}{σ:St}{H:Hp}(h:tMS Γ W (mPar is ma) D σ H):tMN Γ W ma σ H fun vs H1=>vs.length=is.length∧D.nx (sets σ is vs) H1:=by
 obtain ⟨ρ,F,R,p⟩:=h
 refine ⟨ρ,F,R,?_⟩
 unfold mPar at p
 cases e:ma ρ with
 | ok rs ρ1=>rw [e] at p; exact fun vs F1 H1 Ls s t=>par_ok s t p
 | exc x ρ1=>rw [e] at p; exact fun d F1 H1 s q=>p d σ F1 H1 s q
 | stuck=>rw [e] at p; exact p.elim
theorem js_par2 {i j:Nat}{x y:Str}{a b:Expr}{px py pt:Pos}{kt k2 pt2}(hc:X.calm=true)(hN:X.N.Nodup)(ha:PA X [a,b] (tMN Γ W ma))(hi:X.N[i]?=some x:=by rfl)(hj:X.N[j]?=some y:=by rfl)(hij:i≠j:=by decide)
  (hx:X.env.scope.names.lookup x=some .local:=by rfl) (hy:X.env.scope.names.lookup y=some .local:=by rfl) (hw:swappedStores [.Tuple [.Name x px,.Name y py] kt pt] (.Tuple [a,b] k2 pt2) X.env=pure (some [x,y]):=by rfl)
  (hs:swapsWithSole [.Tuple [.Name x px,.Name y py] kt pt] (.Tuple [a,b] k2 pt2) pos.line X.env=pure false:=by rfl):PS X (.Assign [.Tuple [.Name x px,.Name y py] kt pt] (.Tuple [a,b] k2 pt2) pos) (tMS Γ W (mPar [i,j] ma)) :=
 (ps_par hc hN hi hj hij hx hy ha hw hs).imp fun D σ H h=>by
  obtain ⟨ρ,F,R,p⟩:=mPar_ok h
  refine ⟨ρ,F,R,?_⟩
  cases e:ma ρ with
  | ok rs ρ1 =>
   rw [e] at p
   intro vs F1 H1 Ls s t
   obtain ⟨l,q⟩:=p vs F1 H1 Ls s t
   exact (match vs,l,q with
    | [v,w],_,q=>⟨v,w,rfl,q⟩)
  | exc x ρ1=>rw [e] at p; exact p
  | stuck=>rw [e] at p; exact p
end
def gNames:List Nat→TGs
 | []=>gNil
 | i::is=>gCons (gName i) (gNames is)
theorem gNames_ok {Q:St→Hp→Prop}{H:Hp}:∀ {is:List Nat} {vs:List V} {σ:St},vs.length=is.length→Q (sets σ is vs) H→gNames is vs σ H Q
 | [],[],σ,_,q=>⟨rfl,q⟩
 | i::is,v::vs,σ,l,q=>⟨v,vs,rfl,gNames_ok (by simpa using l) q⟩
 | [],_::_,σ,l,q=>by simp at l
 | _::_,[],σ,l,q=>by simp at l
theorem js_parN {X:Cx}{Γ:Gm}{W:WX}{ma:MA}{pos pt pt2:Pos}{ts es:List Expr}{is:List Nat}{kt k2}{n:Nat}(hK:X.K=Γ.G.K)(hg:PG X (.Tuple ts kt pt) (gTup X.K n (gNames is)))(hn:is.length=n)(hz:n≤1000)(ha:PA X es (tMN Γ W ma))(hs:swapsWithSole [.Tuple ts kt pt] (.Tuple es k2 pt2) pos.line X.env=pure false:=by rfl)(hw:swappedStores [.Tuple ts kt pt] (.Tuple es k2 pt2) X.env=pure none:=by rfl)
  (h1:(assignEach [.Tuple ts kt pt] X.env).map (·.2)=[assign (.Tuple ts kt pt) X.env]:=by rfl):PS X (.Assign [.Tuple ts kt pt] (.Tuple es k2 pt2) pos) (tMS Γ W (mPar is ma)) :=
 (ps_asg (pe_tup ha) hg hs hw h1).imp fun D σ H ⟨ρ,F,R,p⟩=>by
  refine ⟨ρ,F,R,?_⟩
  unfold mPar at p
  cases e:ma ρ with
  | ok rs ρ1 =>
   rw [e] at p
   intro vs F1 H1 Ls s t
   have ln:vs.length=is.length:=(par_ok s t p).1
   refine ⟨by rw [ln,hn,sizeLine_eq]; omega,fun q hq=>?_⟩
   refine ⟨q,vs,rfl,SqT.of upd_same,by rw [ln,hn],gNames_ok ln ?_⟩
   have al:Alc F1 H1 F1 (upd H1 q (.tup vs)):=Alc.cell s.rel.sub hq
   have s2:=s.trans (al.stp s.rel)
   have f0:=t.fresh
   have t2:=RepN.move (Γ:=Γ) (Γ':=Γ) (ρ':=ρ1) (F':=F1) (H':=upd H1 q (.tup vs)) rfl (Same.refl _) t (fun b hb=>by
    obtain ⟨o,ho⟩:=t.there b hb
    exact upd_ne (ne_of_none ho hq)) fun b hb=>⟨(f0 b hb).1,(f0 b hb).2.1,fun ⟨j,z⟩=>(f0 b hb).2.2 ⟨j,al.own s.rel z⟩⟩
   exact (par_ok s2 t2 p).2
  | exc x ρ1=>rw [e] at p; exact fun d F1 H1 s q=>p d σ F1 H1 s q
  | stuck=>rw [e] at p; exact p.elim
def orR (o:Option Res)(p:Option Res):Option Res:=match o with | some r=>some r | none=>p
@[simp] theorem x_orRs {r:Res}{p:Option Res}:orR (some r) p=some r:=rfl
@[simp] theorem x_orRn {p:Option Res}:orR none p=p:=rfl
@[simp] theorem x_orF {f g:D→D→Option Res}{a b:D}:orF f g a b=orR (f a b) (g a b):=by unfold orF orR; cases f a b <;> rfl
@[simp] theorem x_outW {o:Out Res}:outW true o=o:=rfl
@[simp] theorem x_mMakeW {c n nk np:Nat}{q:List Nat}{dds:List D}{mk:List Bool}{f:Fn}{ma mz:MA}{ρ:Rho}:mMakeW c n nk np q dds mk f ma mz ρ=bindO (ma ρ) fun rs ρ1=>bindO (mz ρ1) fun zs ρ2 =>
 outW (rs.length==n&&zs.length==nk&&(pick q (rs++dds.map .val++zs)).length+1==np) (makeR c mk f (pick q (rs++dds.map .val++zs)) ρ2):=rfl
@[simp] theorem x_pickN {α:Type}{l:List α}:pick [] l=[]:=rfl
def picC {α:Type}(o:Option α)(r:List α):List α:=match o with | some a=>a::r | none=>r
@[simp] theorem x_picC {α:Type}{a:α}{r:List α}:picC (some a) r=a::r:=rfl
@[simp] theorem x_pickC {α:Type}{i:Nat}{p:List Nat}{l:List α}:pick (i::p) l=picC l[i]? (pick p l):=by
 unfold pick picC; simp only [List.filterMap_cons]; cases l[i]? <;> rfl
def mkRet (o:FOut)(as:List BArg)(ρ:Rho):Out Res:=match o with
 | .ret (.val .non) (d::os)=>optO (wb as os ρ) fun ρ2=>.ok (.new d) ρ2
 | .exc x (_::os)=>excO x (wb as os ρ)
 | _=>.stuck
@[simp] theorem x_mkRet {d:D}{os:List D}{as:List BArg}{ρ:Rho}:mkRet (.ret (.val .non) (d::os)) as ρ=optO (wb as os ρ) fun ρ2=>.ok (.new d) ρ2:=rfl
@[simp] theorem x_mkRetx {x:Exc}{d:D}{os:List D}{as:List BArg}{ρ:Rho}:mkRet (.exc x (d::os)) as ρ=excO x (wb as os ρ):=rfl
@[simp] theorem x_makeR {c:Nat}{mk:List Bool}{f:Fn}{rs:List Res}{ρ:Rho}:makeR c mk f rs ρ=optO (prep1 mk rs ρ) fun p=>optO (prep2 p.2 p.1) fun as=>mkRet (f (.o (.obj c [])::as.map BArg.strip)) as p.2:=by
 simp only [makeR,optO,mkRet]
 cases prep1 mk rs ρ with
 | none=>rfl
 | some p =>
  obtain ⟨ms,ρ1⟩:=p
  simp only
  cases prep2 ρ1 ms with
  | none=>rfl
  | some as =>
   simp only [excO]
   cases f (.o (.obj c [])::as.map BArg.strip) with
   | ret r os =>
    cases r with
    | val d=>cases d <;> cases os <;> first | rfl | (simp only; cases wb as _ ρ1 <;> rfl)
    | _=>rfl
   | exc x os=>cases os <;> first | rfl | (simp only; cases wb as _ ρ1 <;> rfl)
   | stuck=>rfl
def isO (c:Nat)(m:Str)(o:Option D):Bool:=match o with
 | some (.obj c' fs)=>c'==c&&(fs.lookup m).isNone
 | some (.objO c' fs)=>c'==c&&(gV m fs).isNone
 | _=>false
@[simp] theorem x_isO {c c':Nat}{m:Str}{fs:List (Str×D)}:isO c m (some (.obj c' fs))=(c'==c&&(fs.lookup m).isNone):=rfl
@[simp] theorem x_isOO {c c':Nat}{m:Str}{fs:List (Str×D)}:isO c m (some (.objO c' fs))=(c'==c&&(gV m fs).isNone):=rfl
@[simp] theorem x_methR {c:Nat}{m:Str}{r:Res}{ρ:Rho}:methR c m r ρ=isO c m (resolve ρ r):=by unfold methR isO; rfl
@[simp] theorem x_mMeth {c:Nat}{m:Str}{n:Nat}{mk:List Bool}{f:Fn}{mo:M}{ma:MA}{ρ:Rho}:mMeth c m n mk f mo ma ρ=bindF (mo ρ) fun r ρ1=>if methR c m r ρ1=true then bindO (ma ρ1) fun rs ρ2=>if (r::rs).length=n then callR mk f (r::rs) ρ2 else .stuck else .stuck:=rfl
@[simp] theorem x_fldD {T:Tab}{f:Str}{c:Nat}{fs:List (Str×D)}:fldD T f (.obj c fs)=if c<T.n∧f∈T.flds c then (fs.lookup f).map .val else none:=rfl
def ownOb (o:Option (Option Slot))(k:Option Nat→D→SOut):SOut:=match o with
 | some (some (.own b d))=>k b d
 | _=>.stuck
@[simp] theorem x_ownOb {b:Option Nat}{d:D}{k:Option Nat→D→SOut}:ownOb (some (some (.own b d))) k=k b d:=rfl
@[simp] theorem x_putFD {T:Tab}{f:Str}{d:D}{c:Nat}{fs:List (Str×D)}:putFD T f d (.obj c fs)=if (c<T.n∧f∈T.flds c)∧fs.length<1000 then some (.obj c (putD f d fs)) else none:=rfl
def dS (o:Option D)(k:D→SOut):SOut:=match o with | some v=>k v | none=>.stuck
@[simp] theorem x_dS {v:D}{k:D→SOut}:dS (some v) k=k v:=rfl
@[simp] theorem x_fldR {T:Tab}{f:Str}{rv:Res}{s:Nat}{ρ:Rho}:fldR T f rv (.at s) ρ=optS (PyD.settle rv ρ) fun p=>ownOb p.2[s]? fun b o=>dS (putFD T f p.1 o) fun o'=>.nx (p.2.set s (some (.own b o'))):=by
 simp only [fldR,optS,ownOb]
 cases PyD.settle rv ρ with
 | none=>rfl
 | some p=>rfl
@[simp] theorem x_mFldS {T:Tab}{f:Str}{mo me:M}{ρ:Rho}:mFldS T f mo me ρ=bindSF (me ρ) fun rv ρ1=>bindSF (mo ρ1) fun ro ρ2=>fldR T f rv ro ρ2:=rfl
@[simp] theorem x_putN {f:Str}{v:D}:putD f v []=[(f,v)]:=rfl
@[simp] theorem x_putC {f k:Str}{v w:D}{r:List (Str×D)}:putD f v ((k,w)::r)=if k=f then (f,v)::r else (k,w)::putD f v r:=rfl
@[simp] theorem x_lookN {f:Str}:([]:List (Str×D)).lookup f=none:=rfl
@[simp] theorem x_lookC {f k:Str}{v:D}{r:List (Str×D)}:((k,v)::r).lookup f=if f=k then some v else r.lookup f:=by
 rw [List.lookup_cons]
 by_cases h:f=k
 ·subst h; simp
 ·simp only [beq_eq_false_iff_ne.mpr h,if_neg h]
@[simp] theorem x_ofSE {a b:String}:(Str.ofString a=Str.ofString b)=(a=b):=by rw [ofS_inj]
@[simp] theorem x_raiseR {c:Nat}{f:Str}{r:Res}{ρ:Rho}:raiseR c f r ρ=optS (PyD.settle r ρ) fun p=>.exc ⟨.own c,[(f,p.1)]⟩ p.2:=by
 unfold raiseR optS; cases PyD.settle r ρ <;> rfl
@[simp] theorem x_mRaise {c:Nat}{f:Str}{me:M}{ρ:Rho}:mRaise c f me ρ=bindSF (me ρ) fun r ρ1=>raiseR c f r ρ1:=rfl
@[simp] theorem x_noExnN:noExn []=true:=rfl
def exS (s:Option Slot):Bool:=match s with
 | some (.exn none)=>false
 | _=>true
@[simp] theorem x_exSn:exS none=true:=rfl
@[simp] theorem x_exSv {d:D}:exS (some (.val d))=true:=rfl
@[simp] theorem x_exSo {b:Option Nat}{d:D}:exS (some (.own b d))=true:=rfl
@[simp] theorem x_exSx:exS (some (.exn none))=false:=rfl
@[simp] theorem x_noExnC {s:Option Slot}{ρ:Rho}:noExn (s::ρ)=(exS s&&noExn ρ):=by
 show ((match s with | some (.exn none)=>false | _=>true)&&noExn ρ)=_
 unfold exS; rfl
def blF (o:FOut):Option Bool:=match o with
 | .ret (.val (.bl b)) []=>some b
 | _=>none
@[simp] theorem x_blF {b:Bool}:blF (.ret (.val (.bl b)) [])=some b:=rfl
@[simp] theorem x_callB {f:Fn}{x y:D}:callB f x y=blF (f [.v x,.v y]):=by unfold callB blF; rfl
def valF (o:FOut):Option D:=match o with
 | .ret (.val d) []=>some d
 | _=>none
@[simp] theorem x_valF {d:D}:valF (.ret (.val d) [])=some d:=rfl
@[simp] theorem x_callV {f:Fn}{xs:List D}:callV f xs=valF (f (xs.map .v)):=by unfold callV valF; rfl
@[simp] theorem x_notOo {c:Nat}{fs:List (Str×D)}:notO (.obj c fs)=true:=rfl
@[simp] theorem x_notOi {i:Int}:notO (.int i)=true:=rfl
@[simp] theorem x_notOs {i:Str}:notO (.str i)=true:=rfl
@[simp] theorem x_notOb {i:Bool}:notO (.bl i)=true:=rfl
@[simp] theorem x_notOn:notO .non=true:=rfl
@[simp] theorem x_notOl {xs:List D}:notO (.lst xs)=true:=rfl
@[simp] theorem x_notOt {xs:List D}:notO (.tup xs)=true:=rfl
@[simp] theorem x_notOd {xs:List (Key×D)}:notO (.dct xs)=true:=rfl
@[simp] theorem x_eqOD {neg:Bool}{e:D→D→Option Bool}{x y:D}:eqOD neg e x y=if notO x&&notO y then (e x y).map fun b=>.val (.bl (neg != b)) else none:=rfl
def orB (o p:Option Bool):Option Bool:=match o with | some b=>some b | none=>p
@[simp] theorem x_orBs {b:Bool}{p:Option Bool}:orB (some b) p=some b:=rfl
@[simp] theorem x_orBn {p:Option Bool}:orB none p=p:=rfl
@[simp] theorem x_orE {e e':D→D→Option Bool}{x y:D}:orE e e' x y=orB (e x y) (e' x y):=by unfold orE orB; cases e x y <;> rfl
@[simp] theorem x_eqOo {T:Tab}{E:Nat→Option Fn}{c:Nat}{fs:List (Str×D)}{y:D}:eqO T E (.obj c fs) y=ownT T E (.obj c fs) y:=rfl
def fnB (o:Option Fn)(k:Fn→Option Bool):Option Bool:=match o with | some f=>k f | none=>none
@[simp] theorem x_fnB {f:Fn}{k:Fn→Option Bool}:fnB (some f) k=k f:=rfl
@[simp] theorem x_ownT {T:Tab}{E:Nat→Option Fn}{c:Nat}{fs:List (Str×D)}{y:D}:ownT T E (.obj c fs) y=fnB (E c) fun f=>if tyK T y=true then callB f (.obj c fs) y else none:=by
 unfold ownT fnB; rfl
@[simp] theorem x_tyKo {T:Tab}{c:Nat}{fs:List (Str×D)}:tyK T (.obj c fs)=decide (c<T.n):=rfl
@[simp] theorem x_tyKs {T:Tab}{s:Str}:tyK T (.str s)=true:=rfl
@[simp] theorem x_tyKi {T:Tab}{s:Int}:tyK T (.int s)=true:=rfl
@[simp] theorem x_tyKb {T:Tab}{s:Bool}:tyK T (.bl s)=true:=rfl
@[simp] theorem x_tyKn {T:Tab}:tyK T .non=true:=rfl
@[simp] theorem x_tyKl {T:Tab}{s:List D}:tyK T (.lst s)=true:=rfl
@[simp] theorem x_tyKt {T:Tab}{s:List D}:tyK T (.tup s)=true:=rfl
def blV (o:Option D):Option Bool:=match o with | some (.bl b)=>some b | _=>none
@[simp] theorem x_blVs {b:Bool}:blV (some (.bl b))=some b:=rfl
@[simp] theorem x_cmpO {T:Tab}{E:Nat→Option Fn}{c:Nat}{fs:List (Str×D)}{y:D}:cmpO T E (.obj c fs) y=fnB (E c) fun f=>if tyK T y=true then blV (callV f [.obj c fs,y]) else none:=by
 unfold cmpO fnB blV; rfl
@[simp] theorem x_mConsN {ma:M}{mr:MA}{ρ:Rho}:mConsN ma mr ρ=bindO (ma ρ) fun a ρ1=>bindO (mr ρ1) fun as ρ2=>.ok (a::as) ρ2:=rfl
@[simp] theorem x_stNN {ρ:Rho}:settleN [] ρ=some ([],ρ):=rfl
@[simp] theorem x_stNv {d:D}{rs:List Res}{ρ:Rho}:settleN (.val d::rs) ρ=(settleN rs ρ).map fun p=>(.val d::p.1,p.2):=rfl
@[simp] theorem x_stNn {d:D}{rs:List Res}{ρ:Rho}:settleN (.new d::rs) ρ=(settleN rs ρ).map fun p=>(.new d::p.1,p.2):=rfl
def stNC (o:Option (D×Rho))(k:Rho→Option (List Res×Rho)):Option (List Res×Rho):=match o with
 | some (d,ρ)=>(k ρ).map fun p=>(.val d::p.1,p.2)
 | none=>none
@[simp] theorem x_stNC {d:D}{ρ:Rho}{k:Rho→Option (List Res×Rho)}:stNC (some (d,ρ)) k=(k ρ).map fun p=>(.val d::p.1,p.2):=rfl
@[simp] theorem x_stNa {i:Nat}{rs:List Res}{ρ:Rho}:settleN (.at i::rs) ρ=stNC (PyD.settle (.at i) ρ) fun ρ1=>settleN rs ρ1:=by
 unfold stNC
 cases h:PyD.settle (.at i) ρ <;> simp only [settleN,h] <;> rfl
@[simp] theorem x_setsN {ρ:Rho}:setsR [] [] ρ=.nx ρ:=rfl
@[simp] theorem x_setsV {i:Nat}{is:List Nat}{d:D}{rs:List Res}{ρ:Rho}:setsR (i::is) (.val d::rs) ρ=if i<ρ.length then setsR is rs (ρ.set i (some (.val d))) else .stuck:=rfl
@[simp] theorem x_setsW {i:Nat}{is:List Nat}{d:D}{rs:List Res}{ρ:Rho}:setsR (i::is) (.new d::rs) ρ=if i<ρ.length then setsR is rs (ρ.set i (some (.own none d))) else .stuck:=rfl
@[simp] theorem x_parR {is:List Nat}{rs:List Res}{ρ:Rho}:parR is rs ρ=optS (settleN rs ρ) fun p=>setsR is p.1 p.2:=by
 unfold parR optS; cases settleN rs ρ <;> rfl
@[simp] theorem x_mPar {is:List Nat}{ma:MA}{ρ:Rho}:mPar is ma ρ=bindSO (ma ρ) fun rs ρ1=>parR is rs ρ1:=rfl
@[simp] theorem x_eqOb {c:Nat}{fs:List (Str×D)}{y:D}:eqD (.obj c fs) y=none:=by cases y <;> rfl
@[simp] theorem x_neOb {c:Nat}{fs:List (Str×D)}{y:D}:neD (.obj c fs) y=none:=by cases y <;> rfl
@[simp] theorem x_leOb {c:Nat}{fs:List (Str×D)}{y:D}:leD (.obj c fs) y=none:=by cases y <;> rfl
@[simp] theorem x_eqLL {xs ys:List D}:eqD (.lst xs) (.lst ys)=(eqB (.lst xs) (.lst ys)).map fun b=>.val (.bl b):=rfl
@[simp] theorem x_eqTT {xs ys:List D}:eqD (.tup xs) (.tup ys)=(eqB (.tup xs) (.tup ys)).map fun b=>.val (.bl b):=rfl
@[simp] theorem x_neLL {xs ys:List D}:neD (.lst xs) (.lst ys)=(eqB (.lst xs) (.lst ys)).map fun b=>.val (.bl (!b)):=rfl
@[simp] theorem x_neTT {xs ys:List D}:neD (.tup xs) (.tup ys)=(eqB (.tup xs) (.tup ys)).map fun b=>.val (.bl (!b)):=rfl
@[simp] theorem x_stuckM {ρ:Rho}:mStuck ρ=.stuck:=rfl
@[simp] theorem x_tpN:toPy .non=some .none:=by simp [toPy]
@[simp] theorem x_tpB {b:Bool}:toPy (.bl b)=some (.bool b):=by simp [toPy]
@[simp] theorem x_tpI {b:Int}:toPy (.int b)=some (.int b):=by simp [toPy]
@[simp] theorem x_tpS {b:Str}:toPy (.str b)=some (.str b):=by simp [toPy]
@[simp] theorem x_tpL {b:List D}:toPy (.lst b)=(toPys b).map .list:=by simp [toPy]
@[simp] theorem x_tpT {b:List D}:toPy (.tup b)=(toPys b).map .tuple:=by simp [toPy]
@[simp] theorem x_tpsN:toPys []=some []:=by simp [toPys]
@[simp] theorem x_tpsC {d:D}{ds:List D}:toPys (d::ds)=consO (toPy d) (toPys ds):=by
 rw [toPys]; cases toPy d <;> cases toPys ds <;> rfl
@[simp] theorem x_clN:PyData.canLay0 .none=true:=by simp [PyData.canLay0]
@[simp] theorem x_clB {b:Bool}:PyData.canLay0 (.bool b)=true:=by simp [PyData.canLay0]
@[simp] theorem x_clI {b:Int}:PyData.canLay0 (.int b)=true:=by simp [PyData.canLay0]
@[simp] theorem x_clS {b:Str}:PyData.canLay0 (.str b)=PyData.strOk b:=by simp [PyData.canLay0]
@[simp] theorem x_clL {b:List PyData}:PyData.canLay0 (.list b)=PyData.canLayAll0 b:=by simp [PyData.canLay0]
@[simp] theorem x_clT {b:List PyData}:PyData.canLay0 (.tuple b)=PyData.canLayAll0 b:=by simp [PyData.canLay0]
@[simp] theorem x_claN:PyData.canLayAll0 []=true:=by simp [PyData.canLayAll0]
@[simp] theorem x_claC {d:PyData}{ds:List PyData}:PyData.canLayAll0 (d::ds)=(PyData.canLay0 d&&PyData.canLayAll0 ds):=by simp [PyData.canLayAll0]
@[simp] theorem x_dpN:PyData.depth .none=0:=by simp [PyData.depth]
@[simp] theorem x_dpB {b:Bool}:PyData.depth (.bool b)=0:=by simp [PyData.depth]
@[simp] theorem x_dpI {b:Int}:PyData.depth (.int b)=0:=by simp [PyData.depth]
@[simp] theorem x_dpS {b:Str}:PyData.depth (.str b)=0:=by simp [PyData.depth]
@[simp] theorem x_dpL {b:List PyData}:PyData.depth (.list b)=PyData.depthAll b+1:=by simp [PyData.depth]
@[simp] theorem x_dpT {b:List PyData}:PyData.depth (.tuple b)=PyData.depthAll b+1:=by simp [PyData.depth]
@[simp] theorem x_dpaN:PyData.depthAll []=0:=by simp [PyData.depthAll]
@[simp] theorem x_dpaC {d:PyData}{ds:List PyData}:PyData.depthAll (d::ds)=max (PyData.depth d) (PyData.depthAll ds):=by simp [PyData.depthAll]
@[simp] theorem x_shp {d:PyData}:SeqAt.shaped d=(d.canLay0&&decide (d.depth≤64)):=rfl
@[simp] theorem x_evNN:PyData.eqv .none .none=true:=by simp [PyData.eqv]
@[simp] theorem x_evII {a b:Int}:PyData.eqv (.int a) (.int b)=decide (a=b):=by simp only [PyData.eqv]; rfl
@[simp] theorem x_evSS {a b:Str}:PyData.eqv (.str a) (.str b)=decide (a=b):=by simp only [PyData.eqv]; rfl
@[simp] theorem x_evBB {a b:Bool}:PyData.eqv (.bool a) (.bool b)=decide (a=b):=by cases a <;> cases b <;> rfl
@[simp] theorem x_evSI {a:Str}{b:Int}:PyData.eqv (.str a) (.int b)=false:=by simp [PyData.eqv]
@[simp] theorem x_evIS {a:Str}{b:Int}:PyData.eqv (.int b) (.str a)=false:=by simp [PyData.eqv]
@[simp] theorem x_evSN {a:Str}:PyData.eqv (.str a) .none=false:=by simp [PyData.eqv]
@[simp] theorem x_evNS {a:Str}:PyData.eqv .none (.str a)=false:=by simp [PyData.eqv]
@[simp] theorem x_evSB {a:Str}{b:Bool}:PyData.eqv (.str a) (.bool b)=false:=by simp [PyData.eqv]
@[simp] theorem x_evBS {a:Str}{b:Bool}:PyData.eqv (.bool b) (.str a)=false:=by simp [PyData.eqv]
@[simp] theorem x_evIN {a:Int}:PyData.eqv (.int a) .none=false:=by simp [PyData.eqv]
@[simp] theorem x_evNI {a:Int}:PyData.eqv .none (.int a)=false:=by simp [PyData.eqv]
@[simp] theorem x_evBN {a:Bool}:PyData.eqv (.bool a) .none=false:=by simp [PyData.eqv]
@[simp] theorem x_evNB {a:Bool}:PyData.eqv .none (.bool a)=false:=by simp [PyData.eqv]
@[simp] theorem x_evLL {a b:List PyData}:PyData.eqv (.list a) (.list b)=PyData.eqvAll a b:=by simp [PyData.eqv]
@[simp] theorem x_evTT {a b:List PyData}:PyData.eqv (.tuple a) (.tuple b)=PyData.eqvAll a b:=by simp [PyData.eqv]
@[simp] theorem x_evLS {a:List PyData}{b:Str}:PyData.eqv (.list a) (.str b)=false:=by simp [PyData.eqv]
@[simp] theorem x_evSL {a:List PyData}{b:Str}:PyData.eqv (.str b) (.list a)=false:=by simp [PyData.eqv]
@[simp] theorem x_evTS {a:List PyData}{b:Str}:PyData.eqv (.tuple a) (.str b)=false:=by simp [PyData.eqv]
@[simp] theorem x_evST {a:List PyData}{b:Str}:PyData.eqv (.str b) (.tuple a)=false:=by simp [PyData.eqv]
@[simp] theorem x_evaN:PyData.eqvAll [] []=true:=by simp [PyData.eqvAll]
@[simp] theorem x_evaL {a:PyData}{b:List PyData}:PyData.eqvAll (a::b) []=false:=by simp [PyData.eqvAll]
@[simp] theorem x_evaR {a:PyData}{b:List PyData}:PyData.eqvAll [] (a::b)=false:=by simp [PyData.eqvAll]
@[simp] theorem x_evaC {a c:PyData}{b d:List PyData}:PyData.eqvAll (a::b) (c::d)=(PyData.eqv a c&&PyData.eqvAll b d):=by simp [PyData.eqvAll]
def pyB (o p:Option PyData):Option Bool:=match o,p with
 | some a,some b=>if SeqAt.shaped a&&SeqAt.shaped b then some (PyData.eqv a b) else none
 | _,_=>none
@[simp] theorem x_pyB {a b:PyData}:pyB (some a) (some b)=if SeqAt.shaped a&&SeqAt.shaped b then some (PyData.eqv a b) else none:=rfl
@[simp] theorem x_eqB {x y:D}:eqB x y=pyB (toPy x) (toPy y):=by unfold eqB pyB; rfl
def anyB (o:Option PyData)(p:Option (List PyData)):Option Bool:=match o,p with
 | some p,some ps=>if SeqAt.shaped p&&SeqAt.shaped (.list ps) then some (ps.any fun z=>PyData.eqv z p) else none
 | _,_=>none
@[simp] theorem x_anyB {p:PyData}{ps:List PyData}:anyB (some p) (some ps)=if SeqAt.shaped p&&SeqAt.shaped (.list ps) then some (ps.any fun z=>PyData.eqv z p) else none:=rfl
@[simp] theorem x_inD {neg:Bool}{x y:D}:inD neg x y=(inB x y).map fun b=>.val (.bl (neg != b)):=rfl
@[simp] theorem x_inBl {x:D}{ys:List D}:inB x (.lst ys)=anyB (toPy x) (toPys ys):=by cases x <;> rfl
@[simp] theorem x_inBt {x:D}{ys:List D}:inB x (.tup ys)=anyB (toPy x) (toPys ys):=by
 have h:∀ ps,SeqAt.shaped (.tuple ps)=SeqAt.shaped (.list ps):=fun ps=>by simp
 have e:inB x (.tup ys)=(match toPy x,toPys ys with
  | some p,some ps=>if SeqAt.shaped p&&SeqAt.shaped (.tuple ps) then some (ps.any fun z=>PyData.eqv z p) else none
  | _,_=>none):=by cases x <;> rfl
 rw [e]
 unfold anyB
 cases toPy x with
 | none=>rfl
 | some p =>
  cases toPys ys with
  | none=>rfl
  | some ps=>simp only [h]
@[simp] theorem x_inBc {c:Nat}{z:Str}:inB (.str ⟨#[c]⟩) (.str z)=some (decide (c∈z.cps.toList)):=rfl
@[simp] theorem strOk_lit {s:String}:PyData.strOk (Str.ofString s)=true:=by
 rw [Str.ofString_eq_toList]
 unfold PyData.strOk
 simp only [Array.all_eq_true',List.mem_toArray,List.mem_map,decide_eq_true_eq]
 rintro x ⟨c,_,rfl⟩
 have:=c.valid
 have h:c.toNat.isValidChar:=c.valid
 rcases h with h | h
 ·exact Nat.lt_trans h (by decide)
 ·exact h.2
def enumFromD:Nat→List D→List D
 | _,[]=>[]
 | n,x::xs=>D.tup [.int (n:Nat),x]::enumFromD (n+1) xs
def enumD (xs:List D):List D:=enumFromD 0 xs
theorem enumFrom_len:∀ (n:Nat) (xs:List D),(enumFromD n xs).length=xs.length∧∀ (i:Nat) x,xs[i]?=some x→(enumFromD n xs)[i]?=some (.tup [.int ((n+i:Nat):Int),x])
 | n,[]=>⟨rfl,fun i x h=>by simp at h⟩
 | n,y::ys=>by
  obtain ⟨l,g⟩:=enumFrom_len (n+1) ys
  refine ⟨by simp [enumFromD,l],fun i x h=>?_⟩
  cases i with
  | zero=>simp at h; subst h; simp [enumFromD]
  | succ i =>
   have:=g i x (by simpa using h)
   simp only [enumFromD,List.getElem?_cons_succ,this]
   rw [show n+1+i=n+(i+1) by omega]
theorem enumD_len (xs:List D):(enumD xs).length=xs.length∧∀ (i:Nat) x,xs[i]?=some x→(enumD xs)[i]?=some (.tup [.int (i:Nat),x]):=by
 obtain ⟨h1,h2⟩:=enumFrom_len 0 xs
 exact ⟨h1,fun i x h=>by have:=h2 i x h; rwa [Nat.zero_add] at this⟩
theorem wlk_enum {G:Gx}{F:Hp}{a:Addr}{vs:List V}{ds:List D}(h:F a=some (.lst vs))(t:DpL G F vs ds):Wlk G (Ite G.K a) F (enumD ds):=by
 obtain ⟨l,g⟩:=enumD_len ds
 refine ⟨fun i H s hi=>⟨vs,vs[i]'(by rw [t.length,← l]; exact hi),SqL.of (s _ _ h),by simp⟩,fun i H x H' s hi ⟨T,y,ex,hT,hH,q⟩=>?_,fun i H s hi=>⟨vs,SqL.of (s _ _ h),by rw [t.length,← l]; exact hi⟩⟩
 obtain ⟨d,h1,h2⟩:=t.getV (q vs (SqL.of (s _ _ h)))
 subst ex hH
 exact ⟨_,g i d h1,fun F1 s1 s2=>⟨upd F1 T (.tup [.int (i:Nat),y]),.tup s2 hT,.tup (SqT.of upd_same) (.cons (.int _) (.cons ((h2.mono s1).mono (Alc.tup (o:=.tup [.int (i:Nat),y]) s2 hT).subF) .nil))⟩⟩
section
variable {X:Cx}{Γ:Gm}{W:WX}{e tg:Expr}{m:M}{ma:MA}{pos p:Pos}
end
structure JP (X:Cx)(Γ:Gm)(W:WX)(pos:Pos)(keys:List (Option Expr))(values:List Expr)(ks:List Key)(ma:MA):Prop where
 ex:∃ trs,PPs X pos keys values trs∧∀ D σ H Q,tMA (Γ.also D) W ma σ H (fun vs H'=>Q ((ks.zip vs).map fun kv=>(kV kv.1,kv.2)) H')→tPairs trs σ H Q
 kl:keys.length=ks.length
section
variable {X:Cx}{Γ:Gm}{W:WX}{pos:Pos}{keys:List (Option Expr)}{values:List Expr}{ks:List Key}{ma:MA}{k v:Expr}{m:M}{key:Key}
end
def keyR:Res→Option Key
 | .val d=>keyD d
 | _=>none
def dcD (vs:List Nat)(f:Tg)(t:MB)(mk mv:M):List D→List (Key×D)→Rho→Out (List (Key×D))
 | [],acc,ρ=>.ok acc ρ
 | d::ds,acc,ρ=>match f d ρ with
  | some ρ1=>(match t ρ1 with
   | .ok true ρ2=>(match mk ρ2 with
    | .ok rk ρ3=>(match keyR rk.frz with
     | some k=>(match mv ρ3 with
      | .ok r ρ4=>(match settle r.frz ρ4 with
       | some (y,ρ5)=>if acc.length<sizeLine then dcD vs f t mk mv ds (putKD acc k y) (wipeR ρ5 vs) else .stuck
       | none=>.stuck)
      | _=>.stuck)
     | none=>.stuck)
    | _=>.stuck)
   | .ok false ρ2=>dcD vs f t mk mv ds acc (wipeR ρ2 vs)
   | _=>.stuck)
  | none=>.stuck
def mDc (vs:List Nat)(mi:MI)(f:Tg)(t:MB)(mk mv:M):M:=fun ρ=>bindO (mi ρ) fun ds ρ1=>match dcD vs f t mk mv ds [] (wipeR ρ1 vs) with
 | .ok acc ρ2=>.ok (.new (.dct acc)) ρ2
 | _=>.stuck
theorem dc_ok {Γ:Gm}{g:TG}{f:Tg}{t:MB}{mk mv:M}{vs:List Nat}{J:It}{ds:List D}{acc:List (Key×D)}{ρ ρ2:Rho}{σ:St}{F H:Hp}{Qd:Addr→Hp→Prop}(hf:∀ D,TgV (Γ.also D) g f vs)(R:Rel Γ ρ σ F H)(w:Wlk Γ.G J F ds)(e:dcD vs f t mk mv ds [] (wipeR ρ vs)=.ok acc ρ2)
  (k:∀ D F' H',Stp Γ ρ σ F H ρ2 σ F' H'→Cell Γ.G F' H' D (.dct acc)→Fresh Γ ρ2 σ F' H' [D]→Qd D H') :
  ∀ D,H D=none→∃ V:Nat→Nat→Hp→Prop,(∃ m,V 0 m (upd H D (.dK [])))∧∀ i m H,V i m H →
   (J.stop i H∧Qd D H)∨(J.go i H∧∃ Nx:Hp→Prop,(∀ H',Nx H'→∃ m',m'<m∧V (i+1) m' H')∧∀ x H',J.yld i H x H'→g x (wipe σ vs) H' fun σ2 H2=>wipe σ2 vs=wipe σ vs∧tAB Γ t σ2 H2 fun b H3 =>
    if b=true then (tAF Γ mk σ2 H3 fun y H4=>tAF Γ mv σ2 H4 fun z H5=>∃ kvs k,y=kV k∧H5 D=some (.dK kvs)∧kvs.length<sizeLine∧Nx (upd H5 D (.dK (putK kvs k z)))) else Nx H3):=by
 intro D hD
 have wl:(wipe σ vs).length=σ.length:=wipe_length σ vs
 have s0:Stp Γ ρ σ F H (wipeR ρ vs) (wipe σ vs) F H:=(Stp.refl R).wipe (fun i hi=>wipe_out hi) wl
 have uD:¬ Γ.U D:=fun z=>by
  obtain ⟨_,u,hu⟩:=R.ali D z; rw [hD] at hu; cases hu
 have nD0:¬ Own Γ (wipeR ρ vs) (wipe σ vs) F H D:=fun ⟨j,z⟩=>by
  obtain ⟨u,hu⟩:=Rel.ownH z; rw [hD] at hu; cases hu
 let St':Nat→Hp→Prop:=fun i H'=>∃ ρ' F' ac av,Stp Γ ρ σ F H ρ' (wipe σ vs) F' H'∧wipeR ρ' vs=ρ'∧H' D=some (.dK av)∧F' D=none∧¬ Own Γ ρ' (wipe σ vs) F' H' D∧DpK Γ.G F' av ac∧dcD vs f t mk mv (ds.drop i) ac ρ'=.ok acc ρ2
 obtain ⟨s0',nD0'⟩:=s0.out (o:=.dK []) hD uD (Same.free R.sub hD) nD0 (okN hD)
 refine ⟨fun i m H'=>m=ds.length-i∧i≤ds.length∧St' i H',⟨ds.length,by simp,Nat.zero_le _,wipeR ρ vs,F,[],[],s0',wipeR_idem ρ vs,upd_same,Same.free R.sub hD,nD0',.nil,by simpa using e⟩,?_⟩
 rintro i m H1 ⟨rfl,hi,ρ1,F1,ac,av,s1,wρ,hD1,fD1,nD1,dp,e1⟩
 have wF:=w.mono s1.subF
 by_cases hlt:i<ds.length
 ·refine .inr ⟨wF.go i H1 s1.rel.sub hlt,St' (i+1),fun H2 q=>⟨ds.length-(i+1),by omega,rfl,hlt,q⟩,fun x H2 y=>?_⟩
  obtain ⟨d,hd,hy⟩:=wF.yld i H1 x H2 s1.rel.sub hlt y
  obtain ⟨F2,al,dpx⟩:=hy F1 (Same.refl _) s1.rel.sub
  have ed:ds.drop i=d::ds.drop (i+1):=by
   rw [List.getElem?_eq_getElem hlt] at hd
   rw [← Option.some.inj hd]
   exact List.drop_eq_getElem_cons hlt
  rw [ed] at e1
  simp only [dcD] at e1
  cases ef:f d ρ1 with
  | none=>rw [ef] at e1; cases e1
  | some ρ3 =>
   rw [ef] at e1
   simp only at e1
   have R1:Rel (Γ.also D) ρ1 (wipe σ vs) F1 H1:=s1.rel.also fD1 hD1 nD1 okU_dK
   have s2:=al.stp R1
   refine hf D x d ρ1 ρ3 (wipe σ vs) F2 H2 _ s2.rel dpx ef fun σ3 s3 w3 l3=>⟨wipe_idem w3 l3,D,ρ3,F2,s3.rel,?_⟩
   have s13:=s2.trans s3
   cases et:t ρ3 with
   | ok b ρ4 =>
    rw [et] at e1
    intro F4 H4 s4
    have s14:=s13.trans s4
    cases b with
    | true =>
     simp only at e1
     simp only [if_true]
     refine ⟨D,ρ4,F4,s4.rel,?_⟩
     cases em:mk ρ4 with
     | ok rk ρ5 =>
      rw [em] at e1
      simp only at e1
      cases ek:keyR rk.frz with
      | none=>rw [ek] at e1; cases e1
      | some key =>
       rw [ek] at e1
       simp only at e1
       intro yk F5 H5 s5 hk5
       refine ⟨D,ρ5,F5,s5.rel,?_⟩
       have s15:=s14.trans s5
       have eyk:yk=kV key:=by
        unfold keyR at ek
        split at ek
        ·rename_i dk er
         rw [er] at hk5
         exact keyD_ok (F:=F5) (H:=H5) (View.of hk5) ek
        ·cases ek
       cases ev:mv ρ5 with
       | ok r ρ6 =>
        rw [ev] at e1
        simp only at e1
        cases es:settle r.frz ρ6 with
        | none=>rw [es] at e1; cases e1
        | some p =>
         obtain ⟨yd,ρ7⟩:=p
         rw [es] at e1
         simp only at e1
         split at e1
         ·rename_i hz
          intro v F6 H6 s6 hv
          obtain ⟨F7,s7,hd7⟩:=settle_ok s6.rel hv es
          have s17:=(s15.trans s6).trans s7
          obtain ⟨u1,u2,u3,u4⟩:=s17.unalso
          refine ⟨av,key,eyk,by rw [u2]; exact hD1,by rw [dp.length]; exact hz,?_⟩
          have sw:=(s1.trans u1).wipe (vs:=vs) (σ':=wipe σ vs) (fun j hj=>(w3 j hj).symm) l3.symm
          have nO:¬ Own Γ (wipeR ρ7 vs) (wipe σ vs) F7 H6 D:=fun z=>u4 ((u1.rel.wipe (vs:=vs) (σ':=wipe σ vs) (fun j hj=>(w3 j hj).symm) l3.symm).2 D z)
          obtain ⟨so,no⟩:=sw.out (o:=.dK (putK av key v)) hD uD u3 nO (okS (by rw [u2]; exact hD1) okU_dK)
          exact ⟨wipeR ρ7 vs,F7,putKD ac key yd,putK av key v,so,wipeR_idem ρ7 vs,upd_same,u3,no,(dp.mono s17.subF).put hd7,e1⟩
         ·cases e1
       | exc x ρ6=>rw [ev] at e1; cases e1
       | stuck=>rw [ev] at e1; cases e1
     | exc x ρ5=>rw [em] at e1; cases e1
     | stuck=>rw [em] at e1; cases e1
    | false =>
     simp only at e1
     simp only [Bool.false_eq_true,if_false]
     obtain ⟨u1,u2,u3,u4⟩:=s14.unalso
     have sw:=(s1.trans u1).wipe (vs:=vs) (σ':=wipe σ vs) (fun j hj=>(w3 j hj).symm) l3.symm
     exact ⟨wipeR ρ4 vs,F4,ac,av,sw,wipeR_idem ρ4 vs,by rw [u2]; exact hD1,u3,fun z=>u4 ((u1.rel.wipe (vs:=vs) (σ':=wipe σ vs) (fun j hj=>(w3 j hj).symm) l3.symm).2 D z),dp.mono s14.subF,e1⟩
   | exc x ρ4=>rw [et] at e1; cases e1
   | stuck=>rw [et] at e1; cases e1
 ·have ei:i=ds.length:=by omega
  subst ei
  rw [List.drop_length] at e1
  simp only [dcD,Out.ok.injEq] at e1
  obtain ⟨rfl,rfl⟩:=e1
  have sw:Stp Γ ρ σ F H ρ1 σ F1 H1:=by
   have q:=s1.wipe (vs:=vs) (σ':=σ) (fun j hj=>(wipe_out hj).symm) wl.symm
   rwa [wρ] at q
  refine .inl ⟨wF.stop _ H1 s1.rel.sub (Nat.le_refl _),k D F1 H1 sw ⟨av,hD1,dp⟩ fun b hb=>?_⟩
  obtain rfl:b=D:=by simpa using hb
  refine ⟨fD1,uD,fun z=>?_⟩
  have q:=(s1.rel.wipe (vs:=vs) (σ':=σ) (fun j hj=>(wipe_out hj).symm) wl.symm).2 b
  rw [wρ] at q
  exact nD1 (q z)
section
variable {X:Cx}{Γ:Gm}{W:WX}{kx vx tg iter:Expr}{ifs:List Expr}{scope:Scope}{own:List (Str×Nat)}{pos spos:Pos}{mi:MI}{g:TG}{f:Tg}{t:MB}{mk mv:M}
theorem je_dc (hc:X.calm=true)(hN:X.N.Nodup)(hi:PI X tg iter (iM Γ W mi))(ok:BlkOk X.N X.env.scope scope own)(hf:∀ D,TgV (Γ.also D) g f (own.map (·.2)))
  (hg:∀ (s:Shared) (H:Hp) (C:Addr) (cl:List (Str×Addr)) (fp:List Addr),PG (X.blk s H scope (compEnvC scope cl C X.env) fp) tg g) (ht:∀ (D:Addr) (s:Shared) (H:Hp) (C:Addr) (cl:List (Str×Addr)) (fp:List Addr),PTs (X.blk s H scope (compEnvC scope cl C X.env) fp) ifs (tMB (Γ.also D) W0 t))
  (hk:∀ (D:Addr) (s:Shared) (H:Hp) (C:Addr) (cl:List (Str×Addr)) (fp:List Addr),PE (X.blk s H scope (compEnvC scope cl C X.env) fp) kx (tM (Γ.also D) W0 mk))
  (hv:∀ (D:Addr) (s:Shared) (H:Hp) (C:Addr) (cl:List (Str×Addr)) (fp:List Addr),PE (X.blk s H scope (compEnvC scope cl C X.env) fp) vx (tM (Γ.also D) W0 mv)) (hs:∀ x,foldedSetIterable iter X.env x=pure x:=by intro _; rfl) :
  PE X (.DictComp kx vx [⟨tg,iter,ifs,0⟩] scope pos) (tM Γ W (mDc (own.map (·.2)) mi f t mk mv)) :=
 (pe_dc hc hN hi ok hg (fun s H C cl fp=>pts_any fun D=>ht D s H C cl fp) (fun s H C cl fp=>pe_any fun D=>hk D s H C cl fp) (fun s H C cl fp=>pe_any fun D=>hv D s H C cl fp) hs).imp fun σ H Q ⟨ρ,F,R,p⟩=>by
  refine ⟨ρ,F,R,?_⟩
  unfold mDc at p
  cases e:mi ρ with
  | ok ds ρ1 =>
   rw [e] at p
   simp only [bindO] at p
   intro J F1 H1 s1 w
   split at p
   ·rename_i acc ρ2 el
    exact dc_ok (Qd:=fun D H'=>Q (.ref D) H') hf s1.rel w el fun D F' H' s2 c fr=>p _ F' H' (s1.trans s2) ⟨D,[D],rfl,.flat c,fr⟩
   ·exact p.elim
  | exc x ρ1=>rw [e] at p; exact p
  | stuck=>rw [e] at p; exact p.elim
end
section
variable {G:Gx}{F H:Hp}{d:Addr}{od:Obj}{kv:List (Key×V)}
end
section
variable {X:Cx}{Γ:Gm}{W:WX}{elt tg:Expr}{ifs:List Expr}{scope:Scope}{own:List (Str×Nat)}{pos spos:Pos}{mi:MI}{g:TG}{f:Tg}{t:MB}{me:M}
end
def TgX (Γ:Gm)(g:TG)(f:Tg):Prop:=∀ v d ρ ρ' σ F H Q,Rel Γ ρ σ F H→Dp Γ.G F v d→f d ρ=some ρ'→(∀ σ' F' H',Stp Γ ρ σ F H ρ' σ' F' H'→Q σ' H')→g v σ H Q
def TgsX (Γ:Gm)(g:TGs)(f:Tgs):Prop:=∀ vs ds ρ ρ' σ F H Q,Rel Γ ρ σ F H→DpL Γ.G F vs ds→f ds ρ=some ρ'→(∀ σ' F' H',Stp Γ ρ σ F H ρ' σ' F' H'→Q σ' H')→g vs σ H Q
theorem TgOk.x {Γ:Gm}{g:TG}{f:Tg}(h:TgOk Γ g f):TgX Γ g f:=fun v d ρ ρ' σ F H Q R dp e k=>h v d ρ ρ' σ F H Q R dp e fun σ' s=>k σ' F H s
section
variable {X:Cx}{Γ:Gm}{W:WX}{e tg:Expr}{m:M}{pos pos':Pos}
end
@[simp] theorem x_enumN {n:Nat}:enumFromD n []=[]:=rfl
@[simp] theorem x_enumC {n:Nat}{x:D}{xs:List D}:enumFromD n (x::xs)=D.tup [.int (n:Nat),x]::enumFromD (n+1) xs:=rfl
@[simp] theorem x_enumD {xs:List D}:enumD xs=enumFromD 0 xs:=rfl
def dcF (o:Out (List (Key×D))):Out Res:=match o with | .ok acc ρ=>.ok (.new (.dct acc)) ρ | _=>.stuck
@[simp] theorem x_dcF {acc:List (Key×D)}{ρ:Rho}:dcF (.ok acc ρ)=.ok (.new (.dct acc)) ρ:=rfl
@[simp] theorem x_mDc {vs:List Nat}{mi:MI}{f:Tg}{t:MB}{mk mv:M}{ρ:Rho}:mDc vs mi f t mk mv ρ=bindO (mi ρ) fun ds ρ1=>dcF (dcD vs f t mk mv ds [] (wipeR ρ1 vs)):=rfl
@[simp] theorem x_dcN {vs:List Nat}{f:Tg}{t:MB}{mk mv:M}{acc:List (Key×D)}{ρ:Rho}:dcD vs f t mk mv [] acc ρ=.ok acc ρ:=rfl
@[simp] theorem x_keyS {s:Str}:keyR (.val (.str s))=some (.inr s):=rfl
@[simp] theorem x_keyI {s:Int}:keyR (.val (.int s))=some (.inl s):=rfl
@[simp] theorem x_keyDS {s:Str}:keyD (.str s)=some (.inr s):=rfl
@[simp] theorem x_keyDI {s:Int}:keyD (.int s)=some (.inl s):=rfl
theorem meets_enm {v:Value}{o:Obj}{P:Heap→Prop}(B:Begins v o P) :
  Meets (Builtin.«enumerate.__new__» ⟨[.type "enumerate",v],[]⟩) (fun _ R s=>P s.heap ∧
   R (.ok (.ret (.ref (s.heap.push o).objs.size))) { s with heap:=(s.heap.push o).push { cls:=.type "enumerate",data:=.fields #[.none,.bool false,.ref s.heap.objs.size,rawInt 0,.none,.none] } }) :=
 .of_wp fun prog w A R s h=>by
  obtain ⟨hp,gs,dr,tk,os⟩:=s
  obtain ⟨h1,h⟩:=h
  have sb:=sub_enumerate
  have q1:∀ {A':Around} {E:Value→Shared→Prop} {Q:Value→Shared→Prop},Q (.ref hp.objs.size) ⟨hp.push o,gs,dr,tk,os⟩→wpAny (model prog w) A' (pyIter v) Q E ⟨hp,gs,dr,tk,os⟩ :=
   fun q=>B.iter prog w _ _ ⟨hp,gs,dr,tk,os⟩ _ h1 q
  wp_walk using q1
  refine wpAny_stack_any fun st=>wpAny_pure ?_
  split
  ·rename_i cc _ _ _ _ _
   cases (cc==Value.type "enumerate") <;> (wp_walk using q1; exact ⟨_,rfl,h⟩)
  ·wp_walk using q1
   exact ⟨_,rfl,h⟩
theorem call_enm {prog:Program}{w:World}{A:Around}{E:Value→Shared→Prop}{s:Shared}{v:Value}{o:Obj}{P:Heap→Prop}{Q:Value→Shared→Prop}(B:Begins v o P)(h1:P s.heap)
  (h:∀ h',IsEnum h' (s.heap.objs.size+1) s.heap.objs.size 0 .none→h'.get? s.heap.objs.size=some o→(∀ b o,s.heap.get? b=some o→h'.get? b=some o)→Q (.ref (s.heap.objs.size+1)) { s with heap:=h' }) :
  wpAny (model prog w) A (call (.type "enumerate") [v]) Q E s:=by
 refine callType_new F.called_enumerate (by decide) (F.typeCall_enumerate_1 _) (F.newCall_enumerate_1 _) (fun obj=>F.args_object_init_2 obj _) F.entry_enumerate_new (meets_enm B) ⟨h1,?_⟩
 have z:(s.heap.push o).objs.size=s.heap.objs.size+1:=Heap.size_push ..
 show _∧_
 rw [z]
 have he:IsEnum ((s.heap.push o).push { cls:=.type "enumerate",data:=.fields #[.none,.bool false,.ref s.heap.objs.size,rawInt 0,.none,.none] }) (s.heap.objs.size+1) s.heap.objs.size 0 .none:=by
  have q:=Heap.get?_push_size (s.heap.push o) (o:={ cls:=.type "enumerate",data:=.fields #[.none,.bool false,.ref s.heap.objs.size,rawInt 0,.none,.none] }) rfl
  rw [z] at q; exact q
 exact ⟨⟨_,he,rfl⟩,h _ he (Heap.get?_push_of_some _ (Heap.get?_push_size _ B.free)) fun b o x=>Heap.get?_push_of_some _ (Heap.get?_push_of_some _ x)⟩
def IteT (K:PySem.W.Frag)(a:Addr):It :=
 ⟨fun i H=>∃ (xs:List V) (x:V),SqT K H a xs∧xs[i]?=some x,fun i H v H'=>∃ T x,v=.ref T∧H T=none∧H'=upd H T (.tup [.int (i:Nat),x])∧∀ xs,SqT K H a xs→xs[i]?=some x,fun i H=>∃ xs:List V,SqT K H a xs∧xs.length≤i⟩
theorem turn_enumT {P:Program}{w:World}{K:PySem.W.Frag}{elts:List Expr}{kk:Nat}{tpos:Pos}(a e it:Addr) :
  Turn P w K (.Tuple elts kk tpos) (IteT K a) [e,it] e (fun i h=>(∃ old,IsEnum h e it ((i:Nat):Int) old)∧h.IsTupleIter it a i∧e≠it) where
 mem:=by simp
 obj:=fun i h st b hb=>by
  obtain ⟨⟨old,he⟩,⟨o,ho,hc,hd⟩,_⟩:=st
  rcases (show b=e∨b=it by simpa using hb) with z | z
  ·subst z; exact ⟨_,he,fun v q=>nomatch q⟩
  ·subst z; exact ⟨o,ho,fun v q=>by rw [hd] at q; cases q⟩
 keep:=fun i h h' st k=>by
  obtain ⟨⟨old,he⟩,⟨o,ho,hc,hd⟩,hne⟩:=st
  exact ⟨⟨old,k e (by simp) _ he⟩,⟨o,k it (by simp) _ ho,hc,hd⟩,hne⟩
 item:=by
  intro X hP hw hK hc i pins s σ H E I hf st hg
  subst hP hw hK
  obtain ⟨⟨old,he⟩,hit,hne⟩:=st
  obtain ⟨xs,x,hq,hx⟩:=hg
  obtain ⟨its,rv,p,hz⟩:=I.tuple hq
  obtain ⟨u,hu,ru⟩:=rv.get hx
  have hel:e<s.heap.objs.size:=Heap.lt_size he
  have hil:it<s.heap.objs.size:=by obtain ⟨_,q,_⟩:=hit; exact Heap.lt_size q
  have hT:s.heap.IsTuple a its.toArray:=p
  have nae:a≠e:=fun z=>by
   obtain ⟨o,ho,hoc,_⟩:=hT
   rw [z] at ho
   rw [show s.heap.get? e=some _ from he] at ho
   cases ho
   exact absurd (Value.type.inj hoc) (by decide)
  have nai:a≠it:=fun z=>by
   obtain ⟨o,ho,hoc,_⟩:=hT
   obtain ⟨o2,ho2,hoc2,_⟩:=hit
   rw [z,ho2] at ho
   cases ho; rw [hoc] at hoc2
   exact absurd (Value.type.inj hoc2) (by decide)
  have hlt:i<its.toArray.size:=by
   have:=List.getElem?_eq_some_iff.mp hu
   simpa using this.1
  have hh:X.A.in1.handled=none:=I.ok.hd hc
  refine wpAny_pyNext_enum_itemD (Draws.tuple hh it a nai its.toArray) he ⟨hit,hT⟩ hlt hne (by simp [hne,Ne.symm nae]) fun x' h' tk hP ho hst' hT' hsz hk=>?_
  have eu:x'=u:=by
   have q:its.toArray[i]?=some x':=hP
   rw [List.getElem?_toArray,hu] at q
   exact (Option.some.inj q).symm
  subst eu
  refine ⟨_,rfl,wpAny_letOwnedTupleGo_enum (s:={ s with heap:=h',toks:=tk+1 }) ho fun h'' he' sb=>?_⟩
  have hT2:h''.get? s.heap.objs.size=some { cls:=.type "tuple",data:=.seq #[.int i tk,x'] }:=(sb.2 _ (Nat.ne_of_gt hel)).trans hT'
  have new:ObjOk X.prog X.w (upd H s.heap.objs.size (.tup [.int (i:Nat),x])) h'' s.heap.objs.size (.tup [.int (i:Nat),x]) :=
   ⟨by show 2≤sizeLine; decide,[.int i tk,x'],.cons ⟨_,rfl⟩ (.cons ru .nil),⟨_,hT2,rfl,_,rfl⟩⟩
  have J1:Inv X pins σ (upd H s.heap.objs.size (.tup [.int (i:Nat),x])) { s with heap:=h'',toks:=tk+1 } :=
   I.turnedNew (ch:=[e,it]) (fun b ob hb q=>by
    have n1:b≠e:=fun z=>hb (by simp [z])
    have n2:b≠it:=fun z=>hb (by simp [z])
    exact (sb.2 b n1).trans (hk b ob n1 n2 q)) hf (Nat.le_refl _) new
  refine ⟨.ref s.heap.objs.size,_,J1,rfl,⟨_,x,rfl,I.hok.fresh (Nat.le_refl _),rfl,fun ys hy=>by rw [I.tuple_inj hy hq]; exact hx⟩,⟨⟨x',?_⟩,?_,hne⟩,fun b hb=>?_⟩
  ·have e1:((i+1:Nat):Int)=(i:Int)+1:=by omega
   rw [e1]; exact he'
  ·obtain ⟨o3,ho3,hc3,hd3⟩:=hst'.1
   exact ⟨o3,(sb.2 it (Ne.symm hne)).trans ho3,hc3,hd3⟩
  ·have hb':b<s.heap.objs.size:=by
    rcases (show b=e∨b=it by simpa using hb) with z | z
    ·subst z; exact hel
    ·subst z; exact hil
   rw [upd_ne (Nat.ne_of_lt hb')]
   exact (hf b hb).1
 done:=by
  intro X hP hw hK hc i pins s σ H E I hf st hg
  subst hP hw hK
  obtain ⟨⟨old,he⟩,hit,hne⟩:=st
  obtain ⟨xs,hq,hx⟩:=hg
  obtain ⟨its,rv,p,hz⟩:=I.tuple hq
  obtain ⟨f0,f1,f2,f3,f4,f5⟩:=hf it (by simp)
  have hT:s.heap.IsTuple a its.toArray:=p
  have nai:a≠it:=fun z=>by
   obtain ⟨o,ho,hoc,_⟩:=hT
   obtain ⟨o2,ho2,hoc2,_⟩:=hit
   rw [z,ho2] at ho
   cases ho; rw [hoc] at hoc2
   exact absurd (Value.type.inj hoc2) (by decide)
  have hh:X.A.in1.handled=none:=I.ok.hd hc
  have hh2:X.A.in1.in1.handled=none:=I.ok.hd hc
  have hl:=rv.length
  unfold pyNext
  have hTy:s.TypeIs (.ref e) "enumerate":=⟨_,he,rfl⟩
  refine wpAny_bind (wpAny_attempt (wpAny_callSpecial?_slot (name:=s!"__next__") hTy F.slot_enumerate_next (wpAny_call_entry F.slot_enumerate_next hTy F.entry_enumerate_next ?_ (F.args_enumerate_next_1 _))))
  show wpAny _ _ (field (.ref e) 2 >>= _) _ _ _
  refine wpAny_bind (wpAny_field he rfl (x:=.ref it) rfl ?_)
  refine wpAny_bind (wpAny_nextOf_tuple_end hh hit hT (by simp; omega) fun h' ex he' hx'=>?_)
  obtain ⟨o,ho,hoc⟩:=hx'
  refine wpAny_bind (wpAny_isInstance (T := "StopIteration") (b:=true) ⟨o,ho,hoc⟩ isSubtype_stop ?_)
  exact wpAny_pure ⟨rfl,I.turned (t':=s.toks) (fun b o hb q=>he' b o hb q) f0 f1 f3 f4 f5⟩
 self:=fun A i s Q E st h=>let ⟨⟨_,he⟩,_⟩:=st; wpAny_pyIter_enum he h
theorem pi_enm {X:Cx}{e:Expr}{ta:TA}{p pos tpos:Pos}{elts:List Expr}{kk:Nat}(hg:Gl X "enumerate")(hm:X.mg "enumerate"=none)(ha:PA X [e] ta)(hs:starEach [e] X.env=[(false,eval e X.env)]:=by rfl) :
  PI X (.Tuple elts kk tpos) (.Call (.Name "enumerate" p) [e] [] pos) (fun σ H R=>ta σ H fun vs H1=>∃ a xs,vs=[.ref a]∧((SqL X.K H1 a xs∧R (Ite X.K a) H1)∨(SqT X.K H1 a xs∧R (IteT X.K a) H1))):=by
 refine ⟨fun pins s σ H R I h=>?_⟩
 refine Call_ (ld_blt I hg hm boot_enumerate (PyProof.Rows.callWith_type1 (thn (ha.run pos pins s σ H _ I h) fun us s1 ⟨vs,H1,I1,r1,q1⟩=>?_) hs rfl))
 obtain ⟨a,xs,ex,q⟩:=q1
 subst ex
 cases r1 with
 | cons r rr =>
  cases rr
  cases r
  have fp:∀ b∈[s1.heap.objs.size+1,s1.heap.objs.size],FpOk X pins H1 b:=fun b hb=>by
   have hle:s1.heap.objs.size≤b:=by
    rcases (show b=s1.heap.objs.size+1∨b=s1.heap.objs.size by simpa using hb) with z | z
    ·subst z; exact Nat.le_succ _
    ·subst z; exact Nat.le_refl _
   exact I1.fpOk hle (I1.hok.fresh hle)
  rcases q with ⟨hq,q⟩ | ⟨hq,q⟩
  ·obtain ⟨its,rv,p',hz⟩:=I1.list hq
   refine call_enumerate_list p'.isList fun h' he hit hsz hk=>wpAny_pyIter_enum he ?_
   exact ⟨s1.heap.objs.size+1,[s1.heap.objs.size+1,s1.heap.objs.size],_,_,H1,rfl,I1.kept (t':=s1.toks) hk,turn_enum a (s1.heap.objs.size+1) s1.heap.objs.size,⟨⟨.none,he⟩,hit,Nat.succ_ne_self _⟩,fp,q⟩
  ·obtain ⟨its,rv,p',hz⟩:=I1.tuple hq
   refine call_enm (begins_tuple a its.toArray) p' fun h' he hit hk=>wpAny_pyIter_enum he ?_
   exact ⟨s1.heap.objs.size+1,[s1.heap.objs.size+1,s1.heap.objs.size],_,_,H1,rfl,I1.kept (t':=s1.toks) hk,turn_enumT a (s1.heap.objs.size+1) s1.heap.objs.size,⟨⟨.none,he⟩,⟨_,hit,rfl,rfl⟩,Nat.succ_ne_self _⟩,fp,q⟩
theorem wlk_enumT {G:Gx}{F:Hp}{a:Addr}{vs:List V}{ds:List D}(h:SqT G.K F a vs)(t:DpL G F vs ds):Wlk G (IteT G.K a) F (enumD ds):=by
 obtain ⟨l,g⟩:=enumD_len ds
 refine ⟨fun i H s hi=>⟨vs,vs[i]'(by rw [t.length,← l]; exact hi),sqT_ext h s,by simp⟩,fun i H x H' s hi ⟨T,y,ex,hT,hH,q⟩=>?_,fun i H s hi=>⟨vs,sqT_ext h s,by rw [t.length,← l]; exact hi⟩⟩
 obtain ⟨d,h1,h2⟩:=t.getV (q vs (sqT_ext h s))
 subst ex hH
 exact ⟨_,g i d h1,fun F1 s1 s2=>⟨upd F1 T (.tup [.int (i:Nat),y]),.tup s2 hT,.tup (SqT.of upd_same) (.cons (.int _) (.cons ((h2.mono s1).mono (Alc.tup (o:=.tup [.int (i:Nat),y]) s2 hT).subF) .nil))⟩⟩
def iEnT (ma:MA):MI:=fun ρ=>bindO (ma ρ) fun rs ρ1=>match settles rs ρ1 with
 | some ([.lst xs],ρ2)=>.ok (enumD xs) ρ2
 | some ([.tup xs],ρ2)=>.ok (enumD xs) ρ2
 | _=>.stuck
section
variable {X:Cx}{Γ:Gm}{W:WX}{e tg:Expr}{m:M}{ma:MA}{pos p:Pos}
theorem ji_enm {a:Expr}{elts:List Expr}{kk:Nat}{tpos:Pos}(hK:X.K=Γ.G.K)(hm:X.mg "enumerate"=none)(ha:PA X [a] (tMA Γ W ma))(hg:Gl X "enumerate":=by rfl)(hs:starEach [a] X.env=[(false,eval a X.env)]:=by rfl):PI X (.Tuple elts kk tpos) (.Call (.Name "enumerate" p) [a] [] pos) (iM Γ W (iEnT ma)) :=
 (pi_enm hg hm ha hs).imp fun σ H R ⟨ρ,F,Rl,h⟩=>⟨ρ,F,Rl,iM_bindA h (fun rs ρ1 vs F1 H1 s1 hr hk ⟨ds,ρ2,ek⟩=>by
  have hk:=hk ds ρ2 ek
  split at ek
  ·rename_i xs ρ3 er
   cases ek
   obtain ⟨F2,s2,hd⟩:=settles_ok s1.rel hr er
   cases hd with
   | cons h1 t =>
    cases t
    cases h1 with
    | lst hq t=>exact ⟨_,_,rfl,.inl ⟨SqL.of (s2.rel.sub _ _ hq),hk _ F2 H1 s2 (hK▸wlk_enum hq t)⟩⟩
  ·rename_i xs ρ3 er
   cases ek
   obtain ⟨F2,s2,hd⟩:=settles_ok s1.rel hr er
   cases hd with
   | cons h1 t =>
    cases t
    cases h1 with
    | tup hq t=>exact ⟨_,_,rfl,.inr ⟨hK▸sqT_ext hq s2.rel.sub,hk _ F2 H1 s2 (hK▸wlk_enumT hq t)⟩⟩
  ·cases ek) (fun r ρ1=>by
  split
  ·exact .inl ⟨_,_,rfl⟩
  ·exact .inl ⟨_,_,rfl⟩
  ·exact .inr rfl)⟩
end
def sqO1 (o:Option (List D×Rho)):Out (List D):=match o with
 | some ([.lst xs],ρ)=>.ok (enumD xs) ρ
 | some ([.tup xs],ρ)=>.ok (enumD xs) ρ
 | _=>.stuck
@[simp] theorem x_sqO1l {xs:List D}{ρ:Rho}:sqO1 (some ([.lst xs],ρ))=.ok (enumD xs) ρ:=rfl
@[simp] theorem x_sqO1t {xs:List D}{ρ:Rho}:sqO1 (some ([.tup xs],ρ))=.ok (enumD xs) ρ:=rfl
@[simp] theorem x_iEnT {ma:MA}{ρ:Rho}:iEnT ma ρ=bindO (ma ρ) fun rs ρ1=>sqO1 (settles rs ρ1):=rfl
theorem TgsOk.x {Γ:Gm}{g:TGs}{f:Tgs}(h:TgsOk Γ g f):TgsX Γ g f:=fun v d ρ ρ' σ F H Q R dp e k=>h v d ρ ρ' σ F H Q R dp e fun σ' s=>k σ' F H s
@[simp] theorem x_orC {f g:List D→Option Res}{ds:List D}:orC f g ds=orR (f ds) (g ds):=by unfold orC orR; cases f ds <;> rfl
@[simp] theorem x_lenOD {E:Nat→Option Fn}{x:D}:lenOD E [x]=if notO x then (lenO E x).map fun n=>.val (.int n) else none:=rfl
@[simp] theorem x_appD {xs:List D}{y:D}:appendD (.lst xs) [y]=if xs.length<sizeLine then some (.lst (xs++[y]),.non) else none:=rfl
@[simp] theorem x_tyOl {xs:List D}:tyOk "list" (.lst xs)=true:=rfl
@[simp] theorem x_tyOs {xs:Str}:tyOk "str" (.str xs)=true:=rfl
@[simp] theorem x_blsN:blsD []=some []:=rfl
@[simp] theorem x_blsC {b:Bool}{ds:List D}:blsD (.bl b::ds)=(blsD ds).map (b::·):=rfl
@[simp] theorem x_allD {ds:List D}:allD [.lst ds]=(blsD ds).map fun bs=>.val (.bl (bs.all id)):=rfl
@[simp] theorem x_anyD {ds:List D}:anyD [.lst ds]=(blsD ds).map fun bs=>.val (.bl (bs.any id)):=rfl
@[simp] theorem x_repL {xs:List D}{k:Int}:mulD (.lst xs) (.int k)=if decide (-(2 ^ 63)≤k)&&decide (k<2 ^ 63)&&decide (xs.length * k.toNat≤sizeLine) then some (.new (.lst (List.replicate k.toNat xs).flatten)) else none:=by
 simp only [mulD,orF,fII,fRepL]
 split
 ·rename_i r h; split at h <;> simp_all
 ·rename_i h; split at h <;> simp_all [fRepT]
@[simp] theorem x_slL {xs:List D}{lo hi:Option Int}:slD (.lst xs) lo hi=some (.new (.lst (cutD xs lo hi))):=rfl
@[simp] theorem x_dctI {kvs:List (Key×D)}{k:D}:ixD (.dct kvs) k=((keyD k).bind fun k=>valK kvs k).map .val:=by
 cases k <;> rfl
@[simp] theorem x_valKN {k:Key}:valK [] k=none:=rfl
@[simp] theorem x_putKN {k:Key}{v:D}:putKD [] k v=[(k,v)]:=rfl
def seqD:D→Option (List D)
 | .lst xs=>some xs
 | .tup xs=>some xs
 | _=>none
def starR (r:Res)(ρ:Rho):Option (List D×Rho):=match settle r ρ with
 | some (d,ρ1)=>(match seqD d with | some ds=>some (ds,ρ1) | none=>none)
 | none=>none
def mStar (ma:M)(mr:MA):MA:=fun ρ=>bindF (ma ρ) fun a ρ1=>match starR a ρ1 with
 | some (ds,ρ2)=>bindO (mr ρ2) fun as ρ3=>.ok (ds.map .val++as) ρ3
 | none=>.stuck
section
variable {X:Cx}{Γ:Gm}{W:WX}{e:Expr}{ma:M}{mr:MA}{pos p:Pos}{es:List Expr}
theorem ja_star (hK:X.K=Γ.G.K)(ha:PE X e (tM Γ W ma))(hr:PA X es (tMA Γ W mr))(hs:starEach (.Starred e p::es) X.env=(true,eval e X.env)::starEach es X.env:=by rfl):PA X (.Starred e p::es) (tMA Γ W (mStar ma mr)) :=
 (StX.pa_star (je_f ha) hr hs).imp fun σ H Q ⟨ρ,F,R,p⟩=>⟨ρ,F,R,p.bindF fun r ρ1 v F1 H1 s1 hr p1=>by
  split at p1
  ·rename_i ds ρ2 e1
   unfold starR at e1
   split at e1
   ·rename_i d ρ3 es
    split at e1
    ·rename_i ds' eq
     cases e1
     obtain ⟨F2,s2,hd⟩:=settle_ok s1.rel hr es
     have fin:∀ (a:Addr) (vs:List V),v=.ref a→(SqT X.K H1 a vs∨SqL X.K H1 a vs)→DpL Γ.G F2 vs ds→∃ p xs,v=V.ref p∧(SqT X.K H1 p xs∨SqL X.K H1 p xs)∧tMA Γ W mr σ H1 fun ys H2=>Q (xs++ys) H2:=fun a vs ea hq t =>
      ⟨a,vs,ea,hq,ρ2,F2,s2.rel,(p1.shift s2).bindA fun rs ρ4 us F4 H4 s4 hrs p4=>p4 (vs++us) F4 H4 (.refl s4.rel) ((dfl_rep (t.mono s4.subF)).app hrs)⟩
     cases d with
     | lst xs =>
      simp only [seqD,Option.some.injEq] at eq; subst eq
      cases hd with | lst ha t=>exact fin _ _ rfl (.inr (SqL.of (s2.rel.sub _ _ ha))) t
     | tup xs =>
      simp only [seqD,Option.some.injEq] at eq; subst eq
      cases hd with | tup ha t=>exact fin _ _ rfl (.inl (hK▸sqT_ext ha s2.rel.sub)) t
     | _=>simp [seqD] at eq
    ·cases e1
   ·cases e1
  ·exact p1.elim⟩
end
def stO (o:Option (List D×Rho))(k:List D→Rho→Out (List Res)):Out (List Res):=match o with
 | some (ds,ρ)=>k ds ρ
 | none=>.stuck
def starS (o:Option (D×Rho)):Option (List D×Rho):=match o with
 | some (d,ρ1)=>(match seqD d with | some ds=>some (ds,ρ1) | none=>none)
 | none=>none
@[simp] theorem x_starSl {xs:List D}{ρ:Rho}:starS (some (.lst xs,ρ))=some (xs,ρ):=rfl
@[simp] theorem x_starSt {xs:List D}{ρ:Rho}:starS (some (.tup xs,ρ))=some (xs,ρ):=rfl
@[simp] theorem x_starR {r:Res}{ρ:Rho}:starR r ρ=starS (PyD.settle r ρ):=rfl
@[simp] theorem x_stO {ds:List D}{ρ:Rho}{k:List D→Rho→Out (List Res)}:stO (some (ds,ρ)) k=k ds ρ:=rfl
@[simp] theorem x_mStar {ma:M}{mr:MA}{ρ:Rho}:mStar ma mr ρ=bindF (ma ρ) fun a ρ1=>stO (starR a ρ1) fun ds ρ2=>bindO (mr ρ2) fun as ρ3=>.ok (ds.map .val++as) ρ3:=rfl
@[simp] theorem resolves_app {ρ:Rho}:∀ {ds:List D} {rs:List Res},resolves ρ (ds.map .val++rs)=(resolves ρ rs).map (ds++·)
 | [],rs=>by simp
 | d::ds,rs=>by
  simp only [List.map_cons,List.cons_append,x_resC,x_resV,resolves_app (ds:=ds)]
  cases resolves ρ rs <;> rfl
@[simp] theorem settles_app {ρ:Rho}:∀ {ds:List D} {rs:List Res},settles (ds.map .val++rs) ρ=(settles rs ρ).map fun p=>(ds++p.1,p.2)
 | [],rs=>by simp
 | d::ds,rs=>by
  simp only [List.map_cons,List.cons_append,x_stCons,x_setV,x_stC,settles_app (ds:=ds)]
  cases settles rs ρ <;> rfl
theorem lcIn_ok {Γ:Gm}{g:TG}{f:Tg}{t:MB}{me:M}{vs:List Nat}{J:It}{ds ac acc:List D}{av:List V}{ρ0 ρ ρ2:Rho}{σ0 σ:St}{F0 H0 F H:Hp}{D:Addr}{Nx:Hp→Prop}
  (hf:∀ D,TgV (Γ.also D) g f vs) (s:Stp Γ ρ0 σ0 F0 H0 ρ σ F H) (h0:H0 D=none) (uD:¬ Γ.U D) (hD:H D=some (.lst av)) (fD:F D=none) (nD:¬ Own Γ ρ σ F H D) (dp0:DpL Γ.G F av ac)
  (w:Wlk Γ.G J F ds) (e:lcD vs f t me ds ac (wipeR ρ vs)=.ok acc ρ2)
  (k:∀ F' H' av',Stp Γ ρ0 σ0 F0 H0 ρ2 σ F' H'→H' D=some (.lst av')→F' D=none→¬ Own Γ ρ2 σ F' H' D→DpL Γ.G F' av' acc→Nx H') :
  ∃ V:Nat→Nat→Hp→Prop,(∃ m,V 0 m H)∧∀ i m H,V i m H →
   (J.stop i H∧Nx H)∨(J.go i H∧∃ N1:Hp→Prop,(∀ H',N1 H'→∃ m',m'<m∧V (i+1) m' H')∧∀ x H',J.yld i H x H'→g x (wipe σ vs) H' fun σ2 H2=>wipe σ2 vs=wipe σ vs∧(∃ D',tMB (Γ.also D') W0 t σ2 H2 fun b H3 =>
    if b=true then (∃ D',tF (Γ.also D') W0 me σ2 H3 fun y H4=>∃ acc,H4 D=some (.lst acc)∧acc.length<sizeLine∧N1 (upd H4 D (.lst (acc++[y])))) else N1 H3)):=by
 have wl:(wipe σ vs).length=σ.length:=wipe_length σ vs
 have s0:Stp Γ ρ0 σ0 F0 H0 (wipeR ρ vs) (wipe σ vs) F H:=s.wipe (fun i hi=>wipe_out hi) wl
 have nD0:¬ Own Γ (wipeR ρ vs) (wipe σ vs) F H D:=fun z=>nD ((s.rel.wipe (fun i hi=>wipe_out hi) wl).2 D z)
 let St':Nat→Hp→Prop:=fun i H'=>∃ ρ' F' ac av,Stp Γ ρ0 σ0 F0 H0 ρ' (wipe σ vs) F' H'∧Same F F'∧wipeR ρ' vs=ρ'∧H' D=some (.lst av)∧F' D=none∧¬ Own Γ ρ' (wipe σ vs) F' H' D∧DpL Γ.G F' av ac∧lcD vs f t me (ds.drop i) ac ρ'=.ok acc ρ2
 refine ⟨fun i m H'=>m=ds.length-i∧i≤ds.length∧St' i H',⟨ds.length,by simp,Nat.zero_le _,wipeR ρ vs,F,ac,av,s0,Same.refl _,wipeR_idem ρ vs,hD,fD,nD0,dp0,by simpa using e⟩,?_⟩
 rintro i m H1 ⟨rfl,hi,ρ1,F1,ac,av,s1,sF,wρ,hD1,fD1,nD1,dp,e1⟩
 have wF:=w.mono sF
 by_cases hlt:i<ds.length
 ·refine .inr ⟨wF.go i H1 s1.rel.sub hlt,St' (i+1),fun H2 q=>⟨ds.length-(i+1),by omega,rfl,hlt,q⟩,fun x H2 y=>?_⟩
  obtain ⟨d,hd,hy⟩:=wF.yld i H1 x H2 s1.rel.sub hlt y
  obtain ⟨F2,al,dpx⟩:=hy F1 (Same.refl _) s1.rel.sub
  have ed:ds.drop i=d::ds.drop (i+1):=by
   rw [List.getElem?_eq_getElem hlt] at hd
   rw [← Option.some.inj hd]
   exact List.drop_eq_getElem_cons hlt
  rw [ed] at e1
  simp only [lcD] at e1
  cases ef:f d ρ1 with
  | none=>rw [ef] at e1; cases e1
  | some ρ3 =>
   rw [ef] at e1
   simp only at e1
   have R1:Rel (Γ.also D) ρ1 (wipe σ vs) F1 H1:=s1.rel.also fD1 hD1 nD1 okU_lst
   have s2:=al.stp R1
   refine hf D x d ρ1 ρ3 (wipe σ vs) F2 H2 _ s2.rel dpx ef fun σ3 s3 w3 l3=>⟨wipe_idem w3 l3,D,ρ3,F2,s3.rel,?_⟩
   have s13:=s2.trans s3
   cases et:t ρ3 with
   | ok b ρ4 =>
    rw [et] at e1
    intro F4 H4 s4
    have s14:=s13.trans s4
    cases b with
    | true =>
     simp only at e1
     simp only [if_true]
     refine ⟨D,ρ4,F4,s4.rel,?_⟩
     cases em:me ρ4 with
     | ok r ρ5 =>
      rw [em] at e1
      simp only at e1
      cases es:settle r.frz ρ5 with
      | none=>rw [es] at e1; cases e1
      | some p =>
       obtain ⟨yd,ρ6⟩:=p
       rw [es] at e1
       simp only at e1
       split at e1
       ·rename_i hz
        intro v F5 H5 s5 hv
        obtain ⟨F6,s6,hd6⟩:=settle_ok s5.rel hv es
        have s16:=(s14.trans s5).trans s6
        obtain ⟨u1,u2,u3,u4⟩:=s16.unalso
        refine ⟨av,by rw [u2]; exact hD1,by rw [dp.length]; exact hz,?_⟩
        have sw:=(s1.trans u1).wipe (vs:=vs) (σ':=wipe σ vs) (fun j hj=>(w3 j hj).symm) l3.symm
        have nO:¬ Own Γ (wipeR ρ6 vs) (wipe σ vs) F6 H5 D:=fun z=>u4 ((u1.rel.wipe (vs:=vs) (σ':=wipe σ vs) (fun j hj=>(w3 j hj).symm) l3.symm).2 D z)
        obtain ⟨so,no⟩:=sw.out (o:=.lst (av++[v])) h0 uD u3 nO (okS (by rw [u2]; exact hD1) okU_lst)
        exact ⟨wipeR ρ6 vs,F6,ac++[yd],av++[v],so,sF.trans s16.subF,wipeR_idem ρ6 vs,upd_same,u3,no,(dp.mono s16.subF).append (.cons hd6 .nil),e1⟩
       ·cases e1
     | exc x ρ5=>rw [em] at e1; cases e1
     | stuck=>rw [em] at e1; cases e1
    | false =>
     simp only at e1
     simp only [Bool.false_eq_true,if_false]
     obtain ⟨u1,u2,u3,u4⟩:=s14.unalso
     have sw:=(s1.trans u1).wipe (vs:=vs) (σ':=wipe σ vs) (fun j hj=>(w3 j hj).symm) l3.symm
     exact ⟨wipeR ρ4 vs,F4,ac,av,sw,sF.trans s14.subF,wipeR_idem ρ4 vs,by rw [u2]; exact hD1,u3,fun z=>u4 ((u1.rel.wipe (vs:=vs) (σ':=wipe σ vs) (fun j hj=>(w3 j hj).symm) l3.symm).2 D z),dp.mono s14.subF,e1⟩
   | exc x ρ4=>rw [et] at e1; cases e1
   | stuck=>rw [et] at e1; cases e1
 ·have ei:i=ds.length:=by omega
  subst ei
  rw [List.drop_length] at e1
  simp only [lcD,Out.ok.injEq] at e1
  obtain ⟨rfl,rfl⟩:=e1
  have sw:Stp Γ ρ0 σ0 F0 H0 ρ1 σ F1 H1:=by
   have q:=s1.wipe (vs:=vs) (σ':=σ) (fun j hj=>(wipe_out hj).symm) wl.symm
   rwa [wρ] at q
  refine .inl ⟨wF.stop _ H1 s1.rel.sub (Nat.le_refl _),k F1 H1 av sw hD1 fD1 (fun z=>?_) dp⟩
  have q:=(s1.rel.wipe (vs:=vs) (σ':=σ) (fun j hj=>(wipe_out hj).symm) wl.symm).2 D
  rw [wρ] at q
  exact nD1 (q z)
def lc2D (vs:List Nat)(f:Tg)(t:MB)(mi1:MI)(vs1:List Nat)(f1:Tg)(t1:MB)(me:M):List D→List D→Rho→Out (List D)
 | [],acc,ρ=>.ok acc ρ
 | d::ds,acc,ρ=>match f d ρ with
  | some ρ1=>(match t ρ1 with
   | .ok true ρ2=>(match mi1 ρ2 with
    | .ok es ρ3=>(match lcD vs1 f1 t1 me es acc (wipeR ρ3 vs1) with
     | .ok acc' ρ4=>lc2D vs f t mi1 vs1 f1 t1 me ds acc' (wipeR ρ4 vs)
     | _=>.stuck)
    | _=>.stuck)
   | .ok false ρ2=>lc2D vs f t mi1 vs1 f1 t1 me ds acc (wipeR ρ2 vs)
   | _=>.stuck)
  | none=>.stuck
def mLc2 (vs:List Nat)(mi:MI)(f:Tg)(t:MB)(mi1:MI)(vs1:List Nat)(f1:Tg)(t1:MB)(me:M):M:=fun ρ=>bindO (mi ρ) fun ds ρ1=>match lc2D vs f t mi1 vs1 f1 t1 me ds [] (wipeR ρ1 vs) with
 | .ok acc ρ2=>.ok (.new (.lst acc)) ρ2
 | _=>.stuck
def tAI (Γ:Gm)(mi:MI):TI:=fun σ H R=>∃ D,iM (Γ.also D) W0 mi σ H R
theorem lc2_ok {Γ:Gm}{g g1:TG}{f f1:Tg}{t t1:MB}{mi1:MI}{me:M}{vs vs1:List Nat}{J:It}{ds acc:List D}{ρ ρ2:Rho}{σ:St}{F H:Hp}{Qd:Addr→Hp→Prop}(hf:∀ D,TgV (Γ.also D) g f vs)(hf1:∀ D,TgV (Γ.also D) g1 f1 vs1)(R:Rel Γ ρ σ F H)(w:Wlk Γ.G J F ds)(e:lc2D vs f t mi1 vs1 f1 t1 me ds [] (wipeR ρ vs)=.ok acc ρ2)
  (k:∀ D F' H',Stp Γ ρ σ F H ρ2 σ F' H'→Cell Γ.G F' H' D (.lst acc)→Fresh Γ ρ2 σ F' H' [D]→Qd D H') :
  ∀ D,H D=none→∃ V:Nat→Nat→Hp→Prop,(∃ m,V 0 m (upd H D (.lst [])))∧∀ i m H,V i m H →
   (J.stop i H∧Qd D H)∨(J.go i H∧∃ Nx:Hp→Prop,(∀ H',Nx H'→∃ m',m'<m∧V (i+1) m' H')∧∀ x H',J.yld i H x H'→g x (wipe σ vs) H' fun σ2 H2=>wipe σ2 vs=wipe σ vs∧tAB Γ t σ2 H2 fun b H3 =>
    if b=true then tAI Γ mi1 σ2 H3 fun J1 H4=>∃ W1:Nat→Nat→Hp→Prop,(∃ m,W1 0 m H4)∧∀ j k H,W1 j k H →
     (J1.stop j H∧Nx H)∨(J1.go j H∧∃ Nx1:Hp→Prop,(∀ H',Nx1 H'→∃ k',k'<k∧W1 (j+1) k' H')∧∀ x H',J1.yld j H x H'→g1 x (wipe σ2 vs1) H' fun σ3 H5=>wipe σ3 vs1=wipe σ2 vs1∧tAB Γ t1 σ3 H5 fun b H6 =>
      if b=true then tAF Γ me σ3 H6 fun y H7=>∃ acc,H7 D=some (.lst acc)∧acc.length<sizeLine∧Nx1 (upd H7 D (.lst (acc++[y]))) else Nx1 H6)
    else Nx H3):=by
 intro D hD
 have wl:(wipe σ vs).length=σ.length:=wipe_length σ vs
 have s0:Stp Γ ρ σ F H (wipeR ρ vs) (wipe σ vs) F H:=(Stp.refl R).wipe (fun i hi=>wipe_out hi) wl
 have uD:¬ Γ.U D:=fun z=>by
  obtain ⟨_,u,hu⟩:=R.ali D z; rw [hD] at hu; cases hu
 have nD0:¬ Own Γ (wipeR ρ vs) (wipe σ vs) F H D:=fun ⟨j,z⟩=>by
  obtain ⟨u,hu⟩:=Rel.ownH z; rw [hD] at hu; cases hu
 let St':Nat→Hp→Prop:=fun i H'=>∃ ρ' F' ac av,Stp Γ ρ σ F H ρ' (wipe σ vs) F' H'∧wipeR ρ' vs=ρ'∧H' D=some (.lst av)∧F' D=none∧¬ Own Γ ρ' (wipe σ vs) F' H' D∧DpL Γ.G F' av ac∧lc2D vs f t mi1 vs1 f1 t1 me (ds.drop i) ac ρ'=.ok acc ρ2
 obtain ⟨s0',nD0'⟩:=s0.out (o:=.lst []) hD uD (Same.free R.sub hD) nD0 (okN hD)
 refine ⟨fun i m H'=>m=ds.length-i∧i≤ds.length∧St' i H',⟨ds.length,by simp,Nat.zero_le _,wipeR ρ vs,F,[],[],s0',wipeR_idem ρ vs,upd_same,Same.free R.sub hD,nD0',.nil,by simpa using e⟩,?_⟩
 rintro i m H1 ⟨rfl,hi,ρ1,F1,ac,av,s1,wρ,hD1,fD1,nD1,dp,e1⟩
 have wF:=w.mono s1.subF
 by_cases hlt:i<ds.length
 ·refine .inr ⟨wF.go i H1 s1.rel.sub hlt,St' (i+1),fun H2 q=>⟨ds.length-(i+1),by omega,rfl,hlt,q⟩,fun x H2 y=>?_⟩
  obtain ⟨d,hd,hy⟩:=wF.yld i H1 x H2 s1.rel.sub hlt y
  obtain ⟨F2,al,dpx⟩:=hy F1 (Same.refl _) s1.rel.sub
  have ed:ds.drop i=d::ds.drop (i+1):=by
   rw [List.getElem?_eq_getElem hlt] at hd
   rw [← Option.some.inj hd]
   exact List.drop_eq_getElem_cons hlt
  rw [ed] at e1
  simp only [lc2D] at e1
  cases ef:f d ρ1 with
  | none=>rw [ef] at e1; cases e1
  | some ρ3 =>
   rw [ef] at e1
   simp only at e1
   have R1:Rel (Γ.also D) ρ1 (wipe σ vs) F1 H1:=s1.rel.also fD1 hD1 nD1 okU_lst
   have s2:=al.stp R1
   refine hf D x d ρ1 ρ3 (wipe σ vs) F2 H2 _ s2.rel dpx ef fun σ3 s3 w3 l3=>⟨wipe_idem w3 l3,D,ρ3,F2,s3.rel,?_⟩
   have s13:=s2.trans s3
   cases et:t ρ3 with
   | ok b ρ4 =>
    rw [et] at e1
    intro F4 H4 s4
    have s14:=s13.trans s4
    cases b with
    | true =>
     simp only at e1
     simp only [if_true]
     refine ⟨D,ρ4,F4,s4.rel,?_⟩
     cases em:mi1 ρ4 with
     | ok es ρ5 =>
      rw [em] at e1
      simp only at e1
      intro J1 F5 H5 s5 w1
      obtain ⟨u1,u2,u3,u4⟩:=(s14.trans s5).unalso
      split at e1
      ·rename_i acc' ρ6 el
       have hk:∀ F' H' av',Stp Γ ρ σ F H ρ6 σ3 F' H'→H' D=some (.lst av')→F' D=none→¬ Own Γ ρ6 σ3 F' H' D→DpL Γ.G F' av' acc'→St' (i+1) H':=fun F' H' av' s6 q1 q2 q3 q4=>by
        have sw:=s6.wipe (vs:=vs) (σ':=wipe σ vs) (fun j hj=>(w3 j hj).symm) l3.symm
        exact ⟨wipeR ρ6 vs,F',acc',av',sw,wipeR_idem ρ6 vs,q1,q2,fun z=>q3 ((s6.rel.wipe (vs:=vs) (σ':=wipe σ vs) (fun j hj=>(w3 j hj).symm) l3.symm).2 D z),q4,e1⟩
       exact lcIn_ok hf1 (s1.trans u1) hD uD (by rw [u2]; exact hD1) u3 u4 (dp.mono (s14.trans s5).subF) w1 el hk
      ·cases e1
     | exc x ρ5=>rw [em] at e1; cases e1
     | stuck=>rw [em] at e1; cases e1
    | false =>
     simp only at e1
     simp only [Bool.false_eq_true,if_false]
     obtain ⟨u1,u2,u3,u4⟩:=s14.unalso
     have sw:=(s1.trans u1).wipe (vs:=vs) (σ':=wipe σ vs) (fun j hj=>(w3 j hj).symm) l3.symm
     exact ⟨wipeR ρ4 vs,F4,ac,av,sw,wipeR_idem ρ4 vs,by rw [u2]; exact hD1,u3,fun z=>u4 ((u1.rel.wipe (vs:=vs) (σ':=wipe σ vs) (fun j hj=>(w3 j hj).symm) l3.symm).2 D z),dp.mono s14.subF,e1⟩
   | exc x ρ4=>rw [et] at e1; cases e1
   | stuck=>rw [et] at e1; cases e1
 ·have ei:i=ds.length:=by omega
  subst ei
  rw [List.drop_length] at e1
  simp only [lc2D,Out.ok.injEq] at e1
  obtain ⟨rfl,rfl⟩:=e1
  have sw:Stp Γ ρ σ F H ρ1 σ F1 H1:=by
   have q:=s1.wipe (vs:=vs) (σ':=σ) (fun j hj=>(wipe_out hj).symm) wl.symm
   rwa [wρ] at q
  refine .inl ⟨wF.stop _ H1 s1.rel.sub (Nat.le_refl _),k D F1 H1 sw ⟨av,hD1,dp⟩ fun b hb=>?_⟩
  obtain rfl:b=D:=by simpa using hb
  refine ⟨fD1,uD,fun z=>?_⟩
  have q:=(s1.rel.wipe (vs:=vs) (σ':=σ) (fun j hj=>(wipe_out hj).symm) wl.symm).2 b
  rw [wρ] at q
  exact nD1 (q z)
section
variable {X:Cx}{Γ:Gm}{W:WX}{elt tg iter tg1 iter1:Expr}{ifs ifs1:List Expr}{scope:Scope}{own:List (Str×Nat)}{vs1:List Nat}{pos spos:Pos}{mi mi1:MI}{g g1:TG}{f f1:Tg}{t t1:MB}{me:M}
theorem mLc2_ok (hf:∀ D,TgV (Γ.also D) g f (own.map (·.2)))(hf1:∀ D,TgV (Γ.also D) g1 f1 vs1):∀ σ H Q,tM Γ W (mLc2 (own.map (·.2)) mi f t mi1 vs1 f1 t1 me) σ H Q→tLc2 (iM Γ W mi) g (tAB Γ t) (tAI Γ mi1) g1 (tAB Γ t1) (tAF Γ me) (own.map (·.2)) vs1 σ H Q:=fun σ H Q ⟨ρ,F,R,p⟩=>by
 refine ⟨ρ,F,R,?_⟩
 unfold mLc2 at p
 cases e:mi ρ with
 | ok ds ρ1 =>
  rw [e] at p
  simp only [bindO] at p
  intro J F1 H1 s1 w
  split at p
  ·rename_i acc ρ2 el
   exact lc2_ok (Qd:=fun D H'=>Q (.ref D) H') hf hf1 s1.rel w el fun D F' H' s2 c fr=>p _ F' H' (s1.trans s2) ⟨D,[D],rfl,.flat c,fr⟩
  ·exact p.elim
 | exc x ρ1=>rw [e] at p; exact p
 | stuck=>rw [e] at p; exact p.elim
theorem pi_any {X:Cx}{Γ:Gm}{tg e:Expr}{mi:MI}(h:∀ D,PI X tg e (iM (Γ.also D) W0 mi)):PI X tg e (tAI Γ mi):=⟨fun pins s σ H R I ⟨D,q⟩=>(h D).run pins s σ H R I q⟩
theorem je_lc2 (hc:X.calm=true)(hN:X.N.Nodup)(hv:∀ i∈vs1,i∈own.map (·.2))(hi:PI X tg iter (iM Γ W mi))(ok:BlkOk X.N X.env.scope scope own)(hf:∀ D,TgV (Γ.also D) g f (own.map (·.2)))(hf1:∀ D,TgV (Γ.also D) g1 f1 vs1)
  (hg:∀ (s:Shared) (H:Hp) (C:Addr) (cl:List (Str×Addr)) (fp:List Addr),PG (X.blk s H scope (compEnvC scope cl C X.env) fp) tg g) (ht:∀ (D:Addr) (s:Shared) (H:Hp) (C:Addr) (cl:List (Str×Addr)) (fp:List Addr),PTs (X.blk s H scope (compEnvC scope cl C X.env) fp) ifs (tMB (Γ.also D) W0 t))
  (hi1:∀ (D:Addr) (s:Shared) (H:Hp) (C:Addr) (cl:List (Str×Addr)) (fp:List Addr),PI (X.blk s H scope (compEnvC scope cl C X.env) fp) tg1 iter1 (iM (Γ.also D) W0 mi1))
  (hg1:∀ (s:Shared) (H:Hp) (C:Addr) (cl:List (Str×Addr)) (fp:List Addr),PG (X.blk s H scope (compEnvC scope cl C X.env) fp) tg1 g1) (ht1:∀ (D:Addr) (s:Shared) (H:Hp) (C:Addr) (cl:List (Str×Addr)) (fp:List Addr),PTs (X.blk s H scope (compEnvC scope cl C X.env) fp) ifs1 (tMB (Γ.also D) W0 t1))
  (he:∀ (D:Addr) (s:Shared) (H:Hp) (C:Addr) (cl:List (Str×Addr)) (fp:List Addr),PE (X.blk s H scope (compEnvC scope cl C X.env) fp) elt (tM (Γ.also D) W0 me)) (hs:∀ x,foldedSetIterable iter X.env x=pure x:=by intro _; rfl) (hs1:∀ env x,foldedSetIterable iter1 env x=pure x:=by intro _ _; rfl) :
  PE X (.ListComp elt [⟨tg,iter,ifs,0⟩,⟨tg1,iter1,ifs1,0⟩] scope pos) (tM Γ W (mLc2 (own.map (·.2)) mi f t mi1 vs1 f1 t1 me)) :=
 (pe_lc2 hc hN hi ok hv hg (fun s H C cl fp=>pts_any fun D=>ht D s H C cl fp) (fun s H C cl fp=>pi_any fun D=>hi1 D s H C cl fp) hg1 (fun s H C cl fp=>pts_any fun D=>ht1 D s H C cl fp) (fun s H C cl fp=>pe_any fun D=>he D s H C cl fp) hs hs1).imp (mLc2_ok hf hf1)
theorem js_setLc2 {i:Nat}{y:Str}{py:Pos}(hc:X.calm=true)(hN:X.N.Nodup)(hv:∀ i∈vs1,i∈own.map (·.2))(hyl:X.env.scope.names.lookup y=some .local)
  (hsw:swapsWith (.ListComp elt [⟨tg,iter,ifs,0⟩,⟨tg1,iter1,ifs1,0⟩] scope pos) (some (.Name y py)) spos.line X.env=pure true) (hi:PI X tg iter (iM Γ W mi)) (ok:BlkOk X.N X.env.scope scope own) (hf:∀ D,TgV (Γ.also D) g f (own.map (·.2))) (hf1:∀ D,TgV (Γ.also D) g1 f1 vs1)
  (hg:∀ (s:Shared) (H:Hp) (C:Addr) (cl:List (Str×Addr)) (fp:List Addr),PG (X.blk s H scope (compEnvC scope cl C X.env) fp) tg g) (ht:∀ (D:Addr) (s:Shared) (H:Hp) (C:Addr) (cl:List (Str×Addr)) (fp:List Addr),PTs (X.blk s H scope (compEnvC scope cl C X.env) fp) ifs (tMB (Γ.also D) W0 t))
  (hi1:∀ (D:Addr) (s:Shared) (H:Hp) (C:Addr) (cl:List (Str×Addr)) (fp:List Addr),PI (X.blk s H scope (compEnvC scope cl C X.env) fp) tg1 iter1 (iM (Γ.also D) W0 mi1))
  (hg1:∀ (s:Shared) (H:Hp) (C:Addr) (cl:List (Str×Addr)) (fp:List Addr),PG (X.blk s H scope (compEnvC scope cl C X.env) fp) tg1 g1) (ht1:∀ (D:Addr) (s:Shared) (H:Hp) (C:Addr) (cl:List (Str×Addr)) (fp:List Addr),PTs (X.blk s H scope (compEnvC scope cl C X.env) fp) ifs1 (tMB (Γ.also D) W0 t1))
  (he:∀ (D:Addr) (s:Shared) (H:Hp) (C:Addr) (cl:List (Str×Addr)) (fp:List Addr),PE (X.blk s H scope (compEnvC scope cl C X.env) fp) elt (tM (Γ.also D) W0 me)) (hy:X.N[i]?=some y:=by rfl) (hs:∀ x,foldedSetIterable iter X.env x=pure x:=by intro _; rfl) (hs1:∀ env x,foldedSetIterable iter1 env x=pure x:=by intro _ _; rfl) :
  PS X (.Assign [.Name y py] (.ListComp elt [⟨tg,iter,ifs,0⟩,⟨tg1,iter1,ifs1,0⟩] scope pos) spos) (tMS Γ W (mSet i (mLc2 (own.map (·.2)) mi f t mi1 vs1 f1 t1 me))) :=
 (ps_setLc2 hc hN hy hyl hsw hi ok hv hg (fun s H C cl fp=>pts_any fun D=>ht D s H C cl fp) (fun s H C cl fp=>pi_any fun D=>hi1 D s H C cl fp) hg1 (fun s H C cl fp=>pts_any fun D=>ht1 D s H C cl fp) (fun s H C cl fp=>pe_any fun D=>he D s H C cl fp) hs hs1).imp fun D σ H ⟨ρ,F,R,p⟩=>mLc2_ok hf hf1 σ H _ ⟨ρ,F,R,p.bindM fun r ρ1 v F1 H1 s1 hr p1=>set_go s1 hr p1⟩
end
section
variable {X:Cx}{Γ:Gm}{W:WX}{a b:Expr}{ma mb:M}{p q pos pos2:Pos}
end
section
variable {X:Cx}{Γ:Gm}{W:WX}{e o:Expr}{mo me:M}{pos tpos:Pos}{f:Str}{T:Tab}{op:Operator}{rd:R2}{fo:D→D→Option Res}
end
@[simp] theorem x_clsD {c:Nat}{fs:List (Str×D)}:clsD (.obj c fs)=some c:=rfl
@[simp] theorem x_clsO {c:Nat}{fs:List (Str×D)}:clsD (.objO c fs)=some c:=rfl
section
variable {K:PySem.W.Frag}{x qual:Str}{params:Arguments}{body:List Stmt}{scope:Scope}{dvs:List V}{kws:List (Str×V)}{f:Addr}{fd:FuncData}{ps ks:List Str}{p:List Nat}
end
inductive Al {α β:Type}(R:α→β→Prop):List α→List β→Prop
 | nil:Al R [] []
 | cons {a:α} {b:β} {as:List α} {bs:List β}:R a b→Al R as bs→Al R (a::as) (b::bs)
theorem Al.len {α β:Type}{R:α→β→Prop}{as:List α}{bs:List β}(h:Al R as bs):as.length=bs.length:=by
 induction h with
 | nil=>rfl
 | cons _ _ ih=>simp [ih]
theorem lc_rel {vs:List Nat}{f:Tg}{t:MB}{me:M}{α:Type}(St:α→Rho)(R:D→D→Prop):∀ (ds acc:List D) (a:α),(∀ d∈ds,∀ a,∃ ρ1 ρ2 r ρ3 y ρ4 a',f d (St a)=some ρ1∧t ρ1=.ok true ρ2∧me ρ2=.ok r ρ3∧PyD.settle r.frz ρ3=some (y,ρ4)∧wipeR ρ4 vs=St a'∧R d y)→acc.length+ds.length≤sizeLine →
  ∃ ys a',lcD vs f t me ds acc (St a)=.ok (acc++ys) (St a')∧Al R ds ys
 | [],acc,a,_,_=>⟨[],a,by simp,.nil⟩
 | d::ds,acc,a,h,hl=>by
  obtain ⟨ρ1,ρ2,r,ρ3,y,ρ4,a1,h1,h2,h3,h4,h5,h6⟩:=h d (List.mem_cons_self ..) a
  have hl':acc.length<sizeLine:=by simp only [List.length_cons] at hl; omega
  obtain ⟨ys,a',e,al⟩:=lc_rel St R ds (acc++[y]) a1 (fun d' hd=>h d' (List.mem_cons_of_mem _ hd)) (by simp only [List.length_append,List.length_cons,List.length_nil] at hl ⊢; omega)
  refine ⟨y::ys,a',?_,.cons h6 al⟩
  rw [x_lcC,h1]
  simp only [x_optO,h2,x_bindN,if_true,h3,h4,hl',h5]
  rw [e]
  simp
mutual
def okd:Nat→D→Bool
 | _,.non=>true
 | _,.bl _=>true
 | _,.int _=>true
 | _,.str x=>PyData.strOk x
 | n,.lst xs=>okdS n xs
 | n,.tup xs=>okdS n xs
 | _,_=>false
def okdS:Nat→List D→Bool
 | 0,_=>false
 | n+1,xs=>okds n xs
def okds:Nat→List D→Bool
 | _,[]=>true
 | n,d::ds=>okd n d&&okds n ds
end
mutual
def smk:D→D→Bool
 | .bl _,.int _=>false
 | .int _,.bl _=>false
 | .lst xs,.lst ys=>smks xs ys
 | .tup xs,.tup ys=>smks xs ys
 | _,_=>true
def smks:List D→List D→Bool
 | x::xs,y::ys=>smk x y&&smks xs ys
 | _,_=>true
end
@[simp] theorem x_okN {n:Nat}:okd n .non=true:=by simp [okd]
@[simp] theorem x_okB {n:Nat}{b:Bool}:okd n (.bl b)=true:=by simp [okd]
@[simp] theorem x_okI {n:Nat}{b:Int}:okd n (.int b)=true:=by simp [okd]
@[simp] theorem x_okS {n:Nat}{b:Str}:okd n (.str b)=PyData.strOk b:=by simp [okd]
@[simp] theorem x_okL {n:Nat}{xs:List D}:okd (n+1) (.lst xs)=okds n xs:=by simp [okd,okdS]
@[simp] theorem x_okT {n:Nat}{xs:List D}:okd (n+1) (.tup xs)=okds n xs:=by simp [okd,okdS]
@[simp] theorem x_oksN {n:Nat}:okds n []=true:=by simp [okds]
@[simp] theorem x_oksC {n:Nat}{x:D}{xs:List D}:okds n (x::xs)=(okd n x&&okds n xs):=by simp [okds]
theorem okds_iff {n:Nat}:∀ {xs:List D},okds n xs=true↔∀ x∈xs,okd n x=true
 | []=>by simp
 | x::xs=>by simp [okds_iff (xs:=xs)]
theorem smk_self (x:D):smk x x=true:=by
 refine D.rec (motive_1:=fun x=>smk x x=true) (motive_2:=fun xs=>smks xs xs=true) (motive_3:=fun _=>True) (motive_4:=fun _=>True) (motive_5:=fun _=>True) (motive_6:=fun _=>True) (motive_7:=fun _=>True) (motive_8:=fun _=>True) ?_ ?_ ?_ ?_ ?_ ?_ ?_ ?_ ?_ ?_ ?_ ?_ ?_ ?_ ?_ ?_ ?_ ?_ ?_ ?_ ?_ ?_ ?_ ?_ ?_ ?_ ?_ ?_ ?_ ?_ x <;> intros <;> first | trivial | (simp only [smk,smks,Bool.and_eq_true]; first | assumption | exact ⟨by assumption,by assumption⟩ | trivial) | simp_all [smk,smks]
theorem okd_py (x:D):∀ n,okd n x=true→∃ p,toPy x=some p∧PyData.canLay0 p=true∧PyData.depth p≤n:=by
 refine D.rec (motive_1:=fun x=>∀ n,okd n x=true→∃ p,toPy x=some p∧PyData.canLay0 p=true∧PyData.depth p≤n) (motive_2:=fun xs=>∀ n,okds n xs=true→∃ ps,toPys xs=some ps∧PyData.canLayAll0 ps=true∧PyData.depthAll ps≤n) (motive_3:=fun _=>True) (motive_4:=fun _=>True) (motive_5:=fun _=>True) (motive_6:=fun _=>True) (motive_7:=fun _=>True) (motive_8:=fun _=>True)
  ?_ ?_ ?_ ?_ ?_ ?_ ?_ ?_ ?_ ?_ ?_ ?_ ?_ ?_ ?_ ?_ ?_ ?_ ?_ ?_ ?_ ?_ ?_ ?_ ?_ ?_ ?_ ?_ ?_ ?_ x
 ·intro n _; exact ⟨.none,by simp,by simp,by simp⟩
 ·intro b n _; exact ⟨.bool b,by simp,by simp,by simp⟩
 ·intro b n _; exact ⟨.int b,by simp,by simp,by simp⟩
 ·intro b n h; exact ⟨.str b,by simp,by simpa using h,by simp⟩
 ·intro b n h; simp [okd] at h
 ·intro xs ih n h
  cases n with
  | zero=>simp [okd,okdS] at h
  | succ n =>
   obtain ⟨ps,h1,h2,h3⟩:=ih n (by simpa using h)
   exact ⟨.list ps,by simp [h1],by simpa using h2,by simp; omega⟩
 ·intro xs ih n h
  cases n with
  | zero=>simp [okd,okdS] at h
  | succ n =>
   obtain ⟨ps,h1,h2,h3⟩:=ih n (by simpa using h)
   exact ⟨.tuple ps,by simp [h1],by simpa using h2,by simp; omega⟩
 ·intro b n h; simp [okd] at h
 ·intro b ih n h; simp [okd] at h
 ·intro c b ih n h; simp [okd] at h
 ·intro b n h; simp [okd] at h
 ·intro b n h; simp [okd] at h
 ·intro b ih n h; simp [okd] at h
 ·intro b ih n h; simp [okd] at h
 ·intro c b ih n h; simp [okd] at h
 ·intro b ih n h; simp [okd] at h
 ·intro c b ih n h; simp [okd] at h
 ·intro b ih n h; simp [okd] at h
 ·intro n h; simp [okd] at h
 ·intro n _; exact ⟨[],by simp,by simp,by simp⟩
 ·intro d ds i1 i2 n h
  simp only [x_oksC,Bool.and_eq_true] at h
  obtain ⟨p,h1,h2,h3⟩:=i1 n h.1
  obtain ⟨ps,h4,h5,h6⟩:=i2 n h.2
  exact ⟨p::ps,by simp [h1,h4],by simp [h2,h5],by simp; omega⟩
 all_goals (intros; trivial)
theorem eqv_iff (x:D):∀ y,smk x y=true→∀ p q,toPy x=some p→toPy y=some q→(PyData.eqv p q=true↔x=y):=by
 refine D.rec (motive_1:=fun x=>∀ y,smk x y=true→∀ p q,toPy x=some p→toPy y=some q→(PyData.eqv p q=true↔x=y)) (motive_2:=fun xs=>∀ ys,smks xs ys=true→∀ ps qs,toPys xs=some ps→toPys ys=some qs→(PyData.eqvAll ps qs=true↔xs=ys)) (motive_3:=fun _=>True) (motive_4:=fun _=>True) (motive_5:=fun _=>True) (motive_6:=fun _=>True) (motive_7:=fun _=>True) (motive_8:=fun _=>True)
  ?_ ?_ ?_ ?_ ?_ ?_ ?_ ?_ ?_ ?_ ?_ ?_ ?_ ?_ ?_ ?_ ?_ ?_ ?_ ?_ ?_ ?_ ?_ ?_ ?_ ?_ ?_ ?_ ?_ ?_ x
 ·intro y h p q e1 e2
  cases y <;> simp [toPy] at e1 e2 <;> (try subst e1) <;> (try subst e2) <;> first | (obtain ⟨ps,_,rfl⟩:=e2; simp [PyData.eqv]; done) | simp [PyData.eqv]
 ·intro b y h p q e1 e2
  cases y <;> simp [toPy] at e1 e2 <;> (try subst e1) <;> (try subst e2) <;> first | (simp [smk] at h; done) | (obtain ⟨ps,_,rfl⟩:=e2; simp [PyData.eqv]; done) | simp [PyData.eqv]
 ·intro b y h p q e1 e2
  cases y <;> simp [toPy] at e1 e2 <;> (try subst e1) <;> (try subst e2) <;> first | (simp [smk] at h; done) | (obtain ⟨ps,_,rfl⟩:=e2; simp [PyData.eqv]; done) | simp [PyData.eqv]
 ·intro b y h p q e1 e2
  cases y <;> simp [toPy] at e1 e2 <;> (try subst e1) <;> (try subst e2) <;> first | (obtain ⟨ps,_,rfl⟩:=e2; simp [PyData.eqv]; done) | simp [PyData.eqv]
 ·intro b y h p q e1 e2; simp [toPy] at e1
 ·intro xs ih y h p q e1 e2
  simp only [toPy,Option.map_eq_some_iff] at e1
  obtain ⟨ps,e3,rfl⟩:=e1
  cases y <;> simp [toPy] at e2 <;> (try subst e2) <;> first | (simp [PyData.eqv]; done) | (obtain ⟨qs,e4,rfl⟩:=e2; first | (simp [PyData.eqv]; done) | (simp only [smk] at h; simpa [PyData.eqv] using ih _ h ps qs e3 e4))
 ·intro xs ih y h p q e1 e2
  simp only [toPy,Option.map_eq_some_iff] at e1
  obtain ⟨ps,e3,rfl⟩:=e1
  cases y <;> simp [toPy] at e2 <;> (try subst e2) <;> first | (simp [PyData.eqv]; done) | (obtain ⟨qs,e4,rfl⟩:=e2; first | (simp [PyData.eqv]; done) | (simp only [smk] at h; simpa [PyData.eqv] using ih _ h ps qs e3 e4))
 ·intro b y h p q e1 e2; simp [toPy] at e1
 ·intro b ih y h p q e1 e2; simp [toPy] at e1
 ·intro c b ih y h p q e1 e2; simp [toPy] at e1
 ·intro b y h p q e1 e2; simp [toPy] at e1
 ·intro b y h p q e1 e2; simp [toPy] at e1
 ·intro b ih y h p q e1 e2; simp [toPy] at e1
 ·intro b ih y h p q e1 e2; simp [toPy] at e1
 ·intro c b ih y h p q e1 e2; simp [toPy] at e1
 ·intro b ih y h p q e1 e2; simp [toPy] at e1
 ·intro c b ih y h p q e1 e2; simp [toPy] at e1
 ·intro b ih y h p q e1 e2; simp [toPy] at e1
 ·intro y h p q e1 e2; simp [toPy] at e1
 ·intro ys h ps qs e1 e2
  simp at e1; subst e1
  cases ys with
  | nil=>simp at e2; subst e2; simp
  | cons y ys =>
   simp only [x_tpsC] at e2
   cases h1:toPy y with
   | none=>rw [h1] at e2; simp [consO] at e2
   | some b=>cases h2:toPys ys with
    | none=>rw [h1,h2] at e2; simp [consO] at e2
    | some bs=>rw [h1,h2] at e2; simp at e2; subst e2; simp
 ·intro d ds i1 i2 ys h ps qs e1 e2
  simp only [x_tpsC] at e1
  cases h1:toPy d with
  | none=>rw [h1] at e1; simp [consO] at e1
  | some a=>cases h2:toPys ds with
   | none=>rw [h1,h2] at e1; simp [consO] at e1
   | some as =>
    rw [h1,h2] at e1; simp at e1; subst e1
    cases ys with
    | nil=>simp at e2; subst e2; simp
    | cons y ys =>
     simp only [x_tpsC] at e2
     cases h3:toPy y with
     | none=>rw [h3] at e2; simp [consO] at e2
     | some b=>cases h4:toPys ys with
      | none=>rw [h3,h4] at e2; simp [consO] at e2
      | some bs =>
       rw [h3,h4] at e2; simp at e2; subst e2
       simp only [smks,Bool.and_eq_true] at h
       simp [i1 y h.1 a b h1 h3,i2 ys h.2 as bs h2 h4]
 all_goals (intros; trivial)
theorem okd_shaped {x:D}(h:okd 60 x=true):∃ p,toPy x=some p∧SeqAt.shaped p=true:=by
 obtain ⟨p,h1,h2,h3⟩:=okd_py x 60 h
 exact ⟨p,h1,by simp [h2]; omega⟩
theorem eqB_of {x y:D}{b:Bool}(hx:okd 60 x=true)(hy:okd 60 y=true)(h:smk x y=true)(hb:b=true↔x=y):eqB x y=some b:=by
 obtain ⟨p,h1,h2⟩:=okd_shaped hx
 obtain ⟨q,h3,h4⟩:=okd_shaped hy
 rw [x_eqB,h1,h3,x_pyB,h2,h4]
 have:=eqv_iff x y h p q h1 h3
 simp only [Bool.and_self,if_true,Option.some.injEq]
 cases b <;> cases e:PyData.eqv p q <;> simp_all
theorem eqF_of {x y:D}{b:Bool}(h:smk x y=true)(e:eqF x y=some b):b=true↔x=y:=by
 unfold eqF at e
 split at e <;> simp at e <;> subst e <;> simp
theorem eqD_of {x y:D}{b:Bool}(hx:okd 60 x=true)(hy:okd 60 y=true)(h:smk x y=true)(hb:b=true↔x=y):eqD x y=some (.val (.bl b)):=by
 unfold eqD orF
 cases e:eqF x y with
 | some c =>
  have:=eqF_of h e
  have:c=b:=by cases b <;> cases c <;> simp_all
  subst this
  simp [e]
 | none=>simp [eqD0,-x_eqB,eqB_of hx hy h hb,e]
theorem neD_of {x y:D}{b:Bool}(hx:okd 60 x=true)(hy:okd 60 y=true)(h:smk x y=true)(hb:b=true↔x=y):neD x y=some (.val (.bl (!b))):=by
 unfold neD orF
 cases e:eqF x y with
 | some c =>
  have:=eqF_of h e
  have:c=b:=by cases b <;> cases c <;> simp_all
  subst this
  simp [e]
 | none=>simp [neD0,-x_eqB,eqB_of hx hy h hb,e]
theorem neD_t {x:D}(hx:okd 60 x=true):neD x x=some (.val (.bl false)):=neD_of (b:=true) hx hx (smk_self x) (by simp)
theorem neD_f {x y:D}(hx:okd 60 x=true)(hy:okd 60 y=true)(h:smk x y=true)(n:x≠y):neD x y=some (.val (.bl true)):=neD_of (b:=false) hx hy h (by simp [n])
theorem anyB_of {x:D}{ys:List D}{b:Bool}(hx:okd 60 x=true)(hy:okds 59 ys=true)(h:∀ y∈ys,smk y x=true)(hb:b=true↔x∈ys):anyB (toPy x) (toPys ys)=some b:=by
 obtain ⟨p,h1,h2⟩:=okd_shaped hx
 have hl:okd 60 (.lst ys)=true:=by simpa using hy
 obtain ⟨q,h3,h4⟩:=okd_shaped hl
 simp only [x_tpL,Option.map_eq_some_iff] at h3
 obtain ⟨qs,h5,rfl⟩:=h3
 rw [h1,h5,x_anyB,h2,h4]
 have key:∀ (ys:List D) (qs:List PyData),toPys ys=some qs→(∀ y∈ys,smk y x=true)→((qs.any fun z=>PyData.eqv z p)=true↔x∈ys):=fun ys=>by
  induction ys with
  | nil=>intro qs e _; simp at e; subst e; simp
  | cons y ys ih =>
   intro qs e hs
   simp only [x_tpsC] at e
   cases g1:toPy y with
   | none=>rw [g1] at e; simp [consO] at e
   | some b=>cases g2:toPys ys with
    | none=>rw [g1,g2] at e; simp [consO] at e
    | some bs =>
     rw [g1,g2] at e; simp at e; subst e
     simp only [List.any_cons,Bool.or_eq_true,List.mem_cons]
     rw [eqv_iff y x (hs y (List.mem_cons_self ..)) b p g1 h1,ih bs g2 fun z hz=>hs z (List.mem_cons_of_mem _ hz)]
     exact or_congr eq_comm Iff.rfl
 have:=key ys qs h5 h
 simp only [Bool.and_self,if_true,Option.some.injEq]
 cases b <;> cases e:(qs.any fun z=>PyData.eqv z p) <;> simp_all
def lc2F (o:Out (List D)):Out Res:=match o with | .ok acc ρ=>.ok (.new (.lst acc)) ρ | _=>.stuck
@[simp] theorem x_lc2F {acc:List D}{ρ:Rho}:lc2F (.ok acc ρ)=.ok (.new (.lst acc)) ρ:=rfl
@[simp] theorem x_mLc2 {vs:List Nat}{mi:MI}{f:Tg}{t:MB}{mi1:MI}{vs1:List Nat}{f1:Tg}{t1:MB}{me:M}{ρ:Rho}:mLc2 vs mi f t mi1 vs1 f1 t1 me ρ=bindO (mi ρ) fun ds ρ1=>lc2F (lc2D vs f t mi1 vs1 f1 t1 me ds [] (wipeR ρ1 vs)):=rfl
theorem Stp.outA {Γ:Gm}{ρ₀ ρ:Rho}{σ₀ σ:St}{F₀ H₀ F H:Hp}{a:Addr}{o:HO}(s:Stp Γ ρ₀ σ₀ F₀ H₀ ρ σ F H)(hu:¬ Γ.U a)(hF:F a=none)(no:¬ Own Γ ρ σ F H a)(hk:∀ u,H a=some u→okU u):Stp Γ ρ₀ σ₀ F₀ H₀ ρ σ F (upd H a o):=by
 have kp:∀ j b,OwnAt Γ ρ σ F H j b→∀ u,H b=some u→upd H a o b=some u:=fun j b ob u q=>by rw [upd_ne (fun z:b=a=>no (z▸⟨j,ob⟩))]; exact q
 have bk:∀ j c,OwnAt Γ ρ σ F (upd H a o) j c→OwnAt Γ ρ σ F H j c:=fun j c q=>own_back s.rel (Same.refl _) j (fun _ q=>q) rfl (kp j) q
 refine ⟨⟨fun b u q=>by rw [upd_ne (ne_of_none q hF)]; exact s.rel.sub b u q,fun i sl q=>slot_keep s.rel (Same.refl _) i q rfl (kp i),fun i j c h1 h2=>s.rel.inj i j c (bk i c h1) (bk j c h2),fun i c h=>s.rel.own i c (bk i c h),s.rel.len,s.rel.inv,fun c h=>?_,tab_upd s.rel.tab.on hk,s.rel.tab.off,s.rel.tab.fr⟩,s.subF,fun c h=>?_,fun b u q=>?_⟩
 ·obtain ⟨h1,u,h2⟩:=s.rel.ali c h
  exact ⟨h1,u,by rw [upd_ne (fun z:c=a=>hu (z▸h))]; exact h2⟩
 ·rw [upd_ne (fun z:c=a=>hu (z▸h))]; exact s.keep c h
 ·by_cases e:b=a
  ·subst e; exact ⟨o,upd_same⟩
  ·rw [upd_ne e]; exact s.there b u q
section
variable {X:Cx}{Γ:Gm}{W:WX}{o e:Expr}{es:List Expr}{mo:M}{ma:MA}{name:Str}{apos cpos:Pos}{T id:String}{r:V→List V→Hp→VK→Prop}
end
@[simp] theorem x_flatL {xs:List D}:flatD (.lst xs)=true:=rfl
abbrev MP:=Rho→Option D
section
variable {X:Cx}{Γ:Gm}{W:WX}{a b e:Expr}{ma mb:MP}{pos p2:Pos}
end
inductive VD where
 | f (d:D)
 | s (d:D)
def VD.d:VD→D
 | .f d=>d
 | .s d=>d
def VD.Rep (G:Gx)(F H:Hp)(v:V):VD→Prop
 | .f d=>Dp G F v d
 | .s d=>View G F H v d
theorem VD.Rep.view {G:Gx}{F H:Hp}{v:V}{x:VD}(h:x.Rep G F H v):View G F H v x.d:=by
 cases x with
 | f d=>exact .of h
 | s d=>exact h
theorem VD.Rep.mono {G:Gx}{F F' H:Hp}{v:V}{x:VD}(e:Same F F')(h:x.Rep G F H v):x.Rep G F' H v:=by
 cases x with
 | f d=>exact Dp.mono e h
 | s d=>exact View.mono e (Same.refl _) h
abbrev MV:=Rho→Option VD
section
variable {X:Cx}{Γ:Gm}{W:WX}{a b e:Expr}{ma mb:MP}{mv:MV}{pos p2 p3:Pos}
end
theorem Rel.kid {Γ:Gm}{ρ:Rho}{σ:St}{F H:Hp}{s:Nat}{b:Option Nat}{kvs:List (Key×D)}{k:Key}{c:D}(R:Rel Γ ρ σ F H)(q:ρ[s]?=some (some (.own b (.dctO kvs))))(g:gV k kvs=some (.kid c))(fl:flatD c=true) :
  ∃ a vs a',σ[s]?=some (some (.ref a))∧H a=some (.dK vs)∧gV k vs=some (.ref a')∧Cell Γ.G F H a' c ∧
   ∀ o c',Cell Γ.G F (L2.upd H a' o) a' c'→Stp Γ ρ σ F H (ρ.set s (some (.own b (.dctO (gP k (.kid c') kvs))))) σ F (L2.upd H a' o):=by
 obtain ⟨v,L,h1,a,rfl,ct,hb⟩:=R.slot s _ q
 have ct0:=ct
 cases ct with
 | flat z=>exact z.elim
 | dct h e t n =>
  rename_i vs L1
  obtain ⟨a',L',g1,ck,sb,bk⟩:=kdp_in (k:=k) ⟨e,t⟩ g
  obtain ⟨ce,rfl⟩:=ck.cell fl
  refine ⟨a,vs,a',h1,h,g1,ce,fun o c' cc=>?_⟩
  have hne:a'≠a:=by rintro rfl; exact n (sb _ (List.mem_cons_self ..))
  obtain ⟨e2,t2⟩:=bk (L2.upd H a' o) c' (fun x hx nx w hw=>by rw [upd_ne (by simpa using nx)]; exact hw) (.flat cc)
  refine R.chg q h1 ct0 (fun x hx w hw=>?_) (fun x w hw=>?_) (.dct (by rw [upd_ne hne.symm]; exact h) e2 t2 n) fun x hx=>.inl hx
  ·rw [upd_ne (show x≠a' by rintro rfl; exact hx (List.mem_cons_of_mem _ (sb _ (List.mem_cons_self ..))))]; exact hw
  ·by_cases z:x=a'
   ·subst z; exact ⟨o,upd_same⟩
   ·exact ⟨w,by rw [upd_ne z]; exact hw⟩
section
variable {X:Cx}{Γ:Gm}{W:WX}{k i e:Expr}{mk mi:MP}{me:M}{pos p1 p2 p3:Pos}
end
@[simp] theorem x_vdf {d:D}:(VD.f d).d=d:=rfl
@[simp] theorem x_vds {d:D}:(VD.s d).d=d:=rfl
@[simp] theorem x_dctIO {kvs:List (Key×D)}{k:D}:ixD (.dctO kvs) k=(keyD k).bind fun k=>(gV k kvs).bind fun d=>if isKid d then none else some (.val d):=by
 cases k <;> rfl
@[simp] theorem x_gVN {α:Type}[DecidableEq α]{k:α}:gV k ([]:List (α×D))=none:=rfl
@[simp] theorem x_gPN {α:Type}[DecidableEq α]{k:α}{v:D}:gP k v ([]:List (α×D))=[(k,v)]:=rfl
def SqB (K:PySem.W.Frag):Bool→Hp→Addr→List V→Prop
 | true,H,a,xs=>SqL K H a xs
 | false,H,a,xs=>SqT K H a xs
def itB:Bool→Heap→Addr→Addr→Nat→Prop
 | true,h,it,a,i=>h.IsListIter it a i
 | false,h,it,a,i=>h.IsTupleIter it a i
def seB:Bool→Heap→Addr→Array Value→Prop
 | true,h,a,xs=>h.IsList a xs
 | false,h,a,xs=>h.IsTuple a xs
theorem itB.there {k:Bool}{h:Heap}{it a:Addr}{i:Nat}(q:itB k h it a i):∃ o,h.get? it=some o∧∀ v,o.data≠.cell v:=by
 cases k <;> (obtain ⟨o,e,_,d⟩:=q; exact ⟨o,e,fun v z=>by rw [d] at z; cases z⟩)
theorem itB.at {k:Bool}{h h':Heap}{it a:Addr}{i:Nat}(q:itB k h it a i)(e:∀ o,h.get? it=some o→h'.get? it=some o):itB k h' it a i:=by
 cases k <;> (obtain ⟨o,e1,c,d⟩:=q; exact ⟨o,e _ e1,c,d⟩)
theorem seB.lt {k:Bool}{h:Heap}{a:Addr}{xs:Array Value}(q:seB k h a xs):a<h.objs.size:=by
 cases k <;> (obtain ⟨o,e,_⟩:=q; exact Heap.lt_size e)
theorem draws_b {prog:Program}{w:World}{A:Around}(hh:A.handled=none)(k:Bool)(it t:Addr)(hne:t≠it)(items:Array Value):Draws prog w A it [it,t] items.size (fun i v=>items[i]?=some v) (fun i h=>itB k h it t i∧seB k h t items):=by
 cases k
 ·exact Draws.tuple hh it t hne items
 ·exact Draws.list hh it t hne items
theorem inv_b {X:Cx}{pins:List (Addr×Obj)}{σ:L2.St}{H:Hp}{s:Shared}{k:Bool}{a:Addr}{xs:List V}(I:Inv X pins σ H s)(h:SqB X.K k H a xs):∃ its:List Value,Vals xs its∧seB k s.heap a its.toArray:=by
 cases k
 ·obtain ⟨its,r,p,_⟩:=I.tuple h; exact ⟨its,r,p⟩
 ·obtain ⟨its,r,p,_⟩:=I.list h; exact ⟨its,r,p.isList⟩
theorem inj_b {X:Cx}{pins:List (Addr×Obj)}{σ:L2.St}{H:Hp}{s:Shared}{k:Bool}{a:Addr}{xs ys:List V}(I:Inv X pins σ H s)(h:SqB X.K k H a xs)(h':SqB X.K k H a ys):xs=ys:=by
 cases k
 ·exact I.tuple_inj h h'
 ·exact I.list_inj h h'
theorem begins_b (k:Bool)(a:Addr)(its:Array Value):∃ o,Begins (.ref a) o (fun h=>seB k h a its)∧∀ (h':Heap) (it:Addr),h'.get? it=some o→itB k h' it a 0:=by
 cases k
 ·exact ⟨_,begins_tuple a its,fun h' it e=>⟨_,e,rfl,rfl⟩⟩
 ·exact ⟨_,begins_list a its,fun h' it e=>⟨_,e,rfl,rfl⟩⟩
def ItzM (K:PySem.W.Frag)(k1 k2:Bool)(a b:Addr)(N:Nat):It :=
 ⟨fun i H=>i<N∧∃ (xs ys:List V) (x y:V),SqB K k1 H a xs∧SqB K k2 H b ys∧xs[i]?=some x∧ys[i]?=some y,
  fun i H v H'=>∃ T x y,v=.ref T∧H T=none∧H'=upd H T (.tup [x,y])∧(∀ xs,SqB K k1 H a xs→xs[i]?=some x)∧∀ ys,SqB K k2 H b ys→ys[i]?=some y,
  fun i H=>N≤i∧∃ xs ys:List V,SqB K k1 H a xs∧SqB K k2 H b ys∧min xs.length ys.length=N⟩
section
variable {prog:Program}{w:World}{A:Around}{E:Value→Shared→Prop}{s:Shared}{z TI TO i1 i2:Addr}{fp1 fp2:List Addr}{n1 n2 i:Nat}{P1 P2:Nat→Value→Prop}{St1 St2:Nat→Heap→Prop}{a1 a2:Value}
theorem pyNext_zipM_item {Q:Option Value→Shared→Prop}(hh:A.handled=none)(S:ZipSep2 z TI TO i1 i2 fp1 fp2)(D1:∀ A':Around,A'.handled=none→Draws prog w A' i1 fp1 n1 P1 St1)(D2:∀ A':Around,A'.handled=none→Draws prog w A' i2 fp2 n2 P2 St2)
  (hz:IsZip s.heap z TI TO .none) (hTI:IsTupOf2 s.heap TI (.ref i1) (.ref i2)) (hTO:IsTupOf2 s.heap TO a1 a2) (st1:St1 i s.heap) (st2:St2 i s.heap) (hlt1:i<n1) (hlt2:i<n2)
  (hQ:∀ x1 x2 h' tk,P1 i x1→P2 i x2→IsZip h' z TI TO (rawInt s.heap.objs.size)→IsTupOf2 h' TO x1 x2→St1 (i+1) h'→St2 (i+1) h'→IsTupOf2 h' s.heap.objs.size x1 x2→h'.objs.size=s.heap.objs.size+1 →
   (∀ c o,c≠z→c≠TO→c≠i1→c≠i2→s.heap.get? c=some o→h'.get? c=some o)→Q (some (.ref s.heap.objs.size)) { s with heap:=h',toks:=tk }) :
  wpAny (model prog w) A (pyNext (.ref z)) Q E s:=by
 have hT:s.TypeIs (.ref z) "zip":=⟨_,hz,rfl⟩
 unfold pyNext
 refine wpAny_bind (wpAny_attempt (wpAny_callSpecial?_slot (name:=s!"__next__") hT F.slot_zip_next
  (wpAny_call_entry F.slot_zip_next hT F.entry_zip_next ?_ (F.args_zip_next_1 _))))
 exact zipD2_next_item S (D1 _ (by exact hh)) (D2 _ (by exact hh)) hz hTI hTO st1 st2 hlt1 hlt2 fun x1 x2 h' tk b1 b2 b3 b4 b5 b6 b7 b8 b9=>wpAny_pure (hQ x1 x2 h' tk b1 b2 b3 b4 b5 b6 b7 b8 b9)
theorem pyNext_zipM_end {Q:Option Value→Shared→Prop}(hh:A.handled=none)(S:ZipSep2 z TI TO i1 i2 fp1 fp2)(D1:∀ A':Around,A'.handled=none→Draws prog w A' i1 fp1 n1 P1 St1)(D2:∀ A':Around,A'.handled=none→Draws prog w A' i2 fp2 n2 P2 St2)
  (hz:IsZip s.heap z TI TO .none) (hTI:IsTupOf2 s.heap TI (.ref i1) (.ref i2)) (hTO:IsTupOf2 s.heap TO a1 a2) (st1:St1 i s.heap) (st2:St2 i s.heap) (hle1:i≤n1) (hle2:i≤n2) (hend:i=n1∨i=n2)
  (hQ:∀ h' tk,(∀ c o,c≠z→c≠TO→c≠i1→c≠i2→s.heap.get? c=some o→h'.get? c=some o)→Q none { s with heap:=h',toks:=tk }) :
  wpAny (model prog w) A (pyNext (.ref z)) Q E s:=by
 have hT:s.TypeIs (.ref z) "zip":=⟨_,hz,rfl⟩
 unfold pyNext
 refine wpAny_bind (wpAny_attempt (wpAny_callSpecial?_slot (name:=s!"__next__") hT F.slot_zip_next
  (wpAny_call_entry F.slot_zip_next hT F.entry_zip_next ?_ (F.args_zip_next_1 _))))
 refine zipD2_next_end S (D1 _ (by exact hh)) (D2 _ (by exact hh)) hz hTI hTO st1 st2 hle1 hle2 hend fun h' tk e hk he=>?_
 obtain ⟨o,ho,hc⟩:=he
 refine wpAny_bind (wpAny_isInstance (T := "StopIteration") (b:=true) ⟨o,ho,hc⟩ isSubtype_stop ?_)
 exact wpAny_pure (hQ _ _ hk)
end
theorem turn_zipM {P:Program}{w:World}{K:PySem.W.Frag}{elts:List Expr}{kk:Nat}{tpos:Pos}{k1 k2:Bool}{a b z TI TO i1 i2:Addr}{N:Nat}(S:ZipSep2 z TI TO i1 i2 [i1,a] [i2,b])(n1:a≠i1)(n2:b≠i2) :
  Turn P w K (.Tuple elts kk tpos) (ItzM K k1 k2 a b N) [z,TI,TO,i1,i2] z (fun i h=>i≤N∧IsZip h z TI TO .none∧IsTupOf2 h TI (.ref i1) (.ref i2)∧(∃ x y,IsTupOf2 h TO x y)∧itB k1 h i1 a i∧itB k2 h i2 b i) where
 mem:=by simp
 obj:=fun i h st c hc=>by
  obtain ⟨_,hz,hTI,⟨x,y,hTO⟩,h1,h2⟩:=st
  have e':c=z∨c=TI∨c=TO∨c=i1∨c=i2:=by simpa using hc
  rcases e' with q | q | q | q | q
  ·rw [q]; exact ⟨_,hz,fun v q=>nomatch q⟩
  ·rw [q]; exact ⟨_,hTI,fun v q=>nomatch q⟩
  ·rw [q]; exact ⟨_,hTO,fun v q=>nomatch q⟩
  ·rw [q]; exact h1.there
  ·rw [q]; exact h2.there
 keep:=fun i h h' st k=>by
  obtain ⟨hN,hz,hTI,⟨x,y,hTO⟩,h1,h2⟩:=st
  exact ⟨hN,k z (by simp) _ hz,k TI (by simp) _ hTI,⟨x,y,k TO (by simp) _ hTO⟩,h1.at fun o q=>k i1 (by simp) o q,h2.at fun o q=>k i2 (by simp) o q⟩
 item:=by
  intro X hP hw hK hc i pins s σ H E I hf st hg
  subst hP hw hK
  obtain ⟨_,hz,hTI,⟨x0,y0,hTO⟩,h1,h2⟩:=st
  obtain ⟨hN,xs,ys,x,y,hqx,hqy,hx,hy⟩:=hg
  obtain ⟨its,rv,p⟩:=inv_b I hqx
  obtain ⟨its2,rv2,p2⟩:=inv_b I hqy
  obtain ⟨u,hu,ru⟩:=rv.get hx
  obtain ⟨u2,hu2,ru2⟩:=rv2.get hy
  have hzl:z<s.heap.objs.size:=Heap.lt_size hz
  have hh:X.A.handled=none:=I.ok.hd hc
  have l1:i<its.toArray.size:=by have:=(List.getElem?_eq_some_iff.mp hu).1; simpa using this
  have l2:i<its2.toArray.size:=by have:=(List.getElem?_eq_some_iff.mp hu2).1; simpa using this
  refine pyNext_zipM_item hh S (fun A' q=>draws_b q k1 i1 a n1 its.toArray) (fun A' q=>draws_b q k2 i2 b n2 its2.toArray) hz hTI hTO ⟨h1,p⟩ ⟨h2,p2⟩ l1 l2 fun x1 x2 h' tk e1 e2 z' TO' s1' s2' hT hsz hk=>?_
  have eu:x1=u:=by
   have q:its.toArray[i]?=some x1:=e1
   rw [List.getElem?_toArray,hu] at q
   exact (Option.some.inj q).symm
  have eu2:x2=u2:=by
   have q:its2.toArray[i]?=some x2:=e2
   rw [List.getElem?_toArray,hu2] at q
   exact (Option.some.inj q).symm
  subst eu eu2
  refine ⟨_,rfl,wpAny_letOwnedTupleGo_zip (s:={ s with heap:=h',toks:=tk }) z' fun h'' z'' sb=>?_⟩
  have hT2:h''.get? s.heap.objs.size=some { cls:=.type "tuple",data:=.seq #[x1,x2] }:=(sb.2 _ (Nat.ne_of_gt hzl)).trans hT
  have new:ObjOk X.prog X.w (upd H s.heap.objs.size (.tup [x,y])) h'' s.heap.objs.size (.tup [x,y]) :=
   ⟨by show 2≤sizeLine; decide,[x1,x2],.cons ru (.cons ru2 .nil),⟨_,hT2,rfl,_,rfl⟩⟩
  have I1:Inv X pins σ (upd H s.heap.objs.size (.tup [x,y])) { s with heap:=h'',toks:=tk } :=
   I.turnedNew (ch:=[z,TI,TO,i1,i2]) (fun c o hb q=>(sb.2 c (fun q'=>hb (by simp [q']))).trans (hk c o (fun q'=>hb (by simp [q'])) (fun q'=>hb (by simp [q'])) (fun q'=>hb (by simp [q'])) (fun q'=>hb (by simp [q'])) q)) hf (Nat.le_refl _) new
  refine ⟨.ref s.heap.objs.size,_,I1,rfl,⟨_,x,y,rfl,I.hok.fresh (Nat.le_refl _),rfl,fun l hl=>by rw [inj_b I hl hqx]; exact hx,fun l hl=>by rw [inj_b I hl hqy]; exact hy⟩,⟨hN,z'',?_,⟨x1,x2,?_⟩,?_,?_⟩,fun c hcm=>?_⟩
  ·exact (sb.2 _ S.TIz).trans (hk _ _ S.TIz S.TITO S.TIi1 S.TIi2 hTI)
  ·exact (sb.2 _ S.TOz).trans TO'
  ·exact s1'.1.at fun o q=>(sb.2 _ (Ne.symm S.zi1)).trans q
  ·exact s2'.1.at fun o q=>(sb.2 _ (Ne.symm S.zi2)).trans q
  ·have hlt:c<s.heap.objs.size:=by
    have e':c=z∨c=TI∨c=TO∨c=i1∨c=i2:=by simpa using hcm
    rcases e' with q | q | q | q | q
    ·rw [q]; exact hzl
    ·rw [q]; exact Heap.lt_size hTI
    ·rw [q]; exact Heap.lt_size hTO
    ·rw [q]; obtain ⟨_,e1,_⟩:=h1.there; exact Heap.lt_size e1
    ·rw [q]; obtain ⟨_,e2,_⟩:=h2.there; exact Heap.lt_size e2
   rw [upd_ne (Nat.ne_of_lt hlt)]
   exact (hf c hcm).1
 done:=by
  intro X hP hw hK hc i pins s σ H E I hf st hg
  subst hP hw hK
  obtain ⟨hN,hz,hTI,⟨x0,y0,hTO⟩,h1,h2⟩:=st
  obtain ⟨hN2,xs,ys,hqx,hqy,hend⟩:=hg
  obtain ⟨its,rv,p⟩:=inv_b I hqx
  obtain ⟨its2,rv2,p2⟩:=inv_b I hqy
  have l1:=rv.length
  have l2:=rv2.length
  have hh:X.A.handled=none:=I.ok.hd hc
  refine pyNext_zipM_end hh S (fun A' q=>draws_b q k1 i1 a n1 its.toArray) (fun A' q=>draws_b q k2 i2 b n2 its2.toArray) hz hTI hTO ⟨h1,p⟩ ⟨h2,p2⟩ (by simp; omega) (by simp; omega) (by simp; omega) fun h' tk hk=>⟨rfl,I.turnedL (t':=tk) (ch:=[z,TI,TO,i1,i2]) (fun c o hb q =>
   hk c o (fun q'=>hb (by simp [q'])) (fun q'=>hb (by simp [q'])) (fun q'=>hb (by simp [q'])) (fun q'=>hb (by simp [q'])) q) hf⟩
 self:=fun A i s Q E st h=>wpAny_pyIter_zip st.2.1 h
theorem pi_zipM {X:Cx}{e e2:Expr}{ta:TA}{p pos tpos:Pos}{elts:List Expr}{kk:Nat}(hg:Gl X "zip")(hm:X.mg "zip"=none)(ha:PA X [e,e2] ta)
  (hs:starEach [e,e2] X.env=(false,eval e X.env)::starEach [e2] X.env:=by rfl) (hpl:(backTo pos (starEach [e2] X.env)).any (·.1)=false:=by rfl) :
  PI X (.Tuple elts kk tpos) (.Call (.Name "zip" p) [e,e2] [] pos) (fun σ H R=>ta σ H fun vs H1=>∃ k1 k2 a b xs ys,vs=[.ref a,.ref b]∧SqB X.K k1 H1 a xs∧SqB X.K k2 H1 b ys∧R (ItzM X.K k1 k2 a b (min xs.length ys.length)) H1):=by
 refine ⟨fun pins s σ H R I h=>?_⟩
 refine Call_ (ld_blt I hg hm PyProof.Rows.boot_zip (PyProof.Rows.callWith_type1 (thn (ha.run pos pins s σ H _ I h) fun us s1 ⟨vs,H1,I1,r1,q1⟩=>?_) hs hpl))
 obtain ⟨k1,k2,a,b,xs,ys,ex,hqx,hqy,q⟩:=q1
 subst ex
 cases r1 with
 | cons r rr =>
  cases rr with
  | cons r' rr =>
   cases rr
   cases r
   cases r'
   have fresh5:∀ c,c∈[s1.heap.objs.size+4,s1.heap.objs.size+2,s1.heap.objs.size+3,s1.heap.objs.size,s1.heap.objs.size+1]→FpOk X pins H1 c:=fun c hcm=>by
    have e':c=s1.heap.objs.size+4∨c=s1.heap.objs.size+2∨c=s1.heap.objs.size+3∨c=s1.heap.objs.size∨c=s1.heap.objs.size+1:=by simpa using hcm
    have hle:s1.heap.objs.size≤c:=by
     rcases e' with z | z | z | z | z
     ·rw [z]; exact Nat.le_add_right _ _
     ·rw [z]; exact Nat.le_add_right _ _
     ·rw [z]; exact Nat.le_add_right _ _
     ·rw [z]; exact Nat.le_refl _
     ·rw [z]; exact Nat.le_add_right _ _
    exact I1.fpOk hle (I1.hok.fresh hle)
   obtain ⟨its,rv,p1⟩:=inv_b I1 hqx
   obtain ⟨its2,rv2,p2⟩:=inv_b I1 hqy
   obtain ⟨o1,B1,b1⟩:=begins_b k1 a its.toArray
   obtain ⟨o2,B2,b2⟩:=begins_b k2 b its2.toArray
   have la:=p1.lt
   have lb:=p2.lt
   refine zip_begins2 B1 B2 p1 p2 fun h' hz hTI hTO h1 h2 hsz hk=>wpAny_pyIter_zip hz ?_
   have I2:Inv X pins σ H1 { s1 with heap:=h' }:=I1.kept (t':=s1.toks) hk
   exact ⟨s1.heap.objs.size+4,[s1.heap.objs.size+4,s1.heap.objs.size+2,s1.heap.objs.size+3,s1.heap.objs.size,s1.heap.objs.size+1],_,_,H1,rfl,I2,turn_zipM (zip_sep2 (fp1:=[a]) (fp2:=[b]) (fun c hc=>by rw [List.mem_singleton.mp hc]; exact la) (fun c hc=>by rw [List.mem_singleton.mp hc]; exact lb)) (Nat.ne_of_lt la) (Nat.ne_of_lt (Nat.lt_succ_of_lt lb)),⟨Nat.zero_le _,hz,hTI,⟨_,_,hTO⟩,b1 _ _ h1,b2 _ _ h2⟩,fresh5,q⟩
def zipD (xs ys:List D):List D:=List.zipWith (fun x y=>D.tup [x,y]) xs ys
theorem wlk_zipM {G:Gx}{F:Hp}{k1 k2:Bool}{a b:Addr}{vs ws:List V}{ds es:List D}(h1:∀ H,Same F H→SqB G.K k1 H a vs)(t1:DpL G F vs ds)(h2:∀ H,Same F H→SqB G.K k2 H b ws)(t2:DpL G F ws es):Wlk G (ItzM G.K k1 k2 a b (min vs.length ws.length)) F (zipD ds es):=by
 have l1:=t1.length
 have l2:=t2.length
 have ln:(zipD ds es).length=min vs.length ws.length:=by unfold zipD; rw [List.length_zipWith,l1,l2]
 refine ⟨fun i H s hi=>⟨by rw [← ln]; exact hi,vs,ws,vs[i]'(by omega),ws[i]'(by omega),h1 H s,h2 H s,by simp,by simp⟩,fun i H x H' s hi ⟨T,x1,y1,ex,hT,hH,q1,q2⟩=>?_,fun i H s hi=>⟨by rw [← ln]; exact hi,vs,ws,h1 H s,h2 H s,rfl⟩⟩
 obtain ⟨d,g1,g2⟩:=t1.getV (q1 vs (h1 H s))
 obtain ⟨e,g3,g4⟩:=t2.getV (q2 ws (h2 H s))
 subst ex hH
 refine ⟨.tup [d,e],by unfold zipD; rw [List.getElem?_zipWith,g1,g3],fun F1 s1 s2=>?_⟩
 have al:=Alc.tup (o:=.tup [x1,y1]) s2 hT
 exact ⟨upd F1 T (.tup [x1,y1]),.tup s2 hT,.tup (SqT.of upd_same) (.cons ((g2.mono s1).mono al.subF) (.cons ((g4.mono s1).mono al.subF) .nil))⟩
theorem dp_seq {G:Gx}{F:Hp}{v:V}{d:D}{xs:List D}(h:Dp G F v d)(e:seqD d=some xs):∃ k a vs,v=.ref a∧(∀ H,Same F H→SqB G.K k H a vs)∧DpL G F vs xs:=by
 cases d with
 | lst ys =>
  simp only [seqD,Option.some.injEq] at e; subst e
  cases h with | lst ha t=>exact ⟨true,_,_,rfl,fun H s=>SqL.of (s _ _ ha),t⟩
 | tup ys =>
  simp only [seqD,Option.some.injEq] at e; subst e
  cases h with | tup ha t=>exact ⟨false,_,_,rfl,fun H s=>sqT_ext ha s,t⟩
 | _=>simp [seqD] at e
def sqZ (o:Option (List D×Rho)):Out (List D):=match o with
 | some ([x,y],ρ)=>(match seqD x,seqD y with
  | some xs,some ys=>.ok (zipD xs ys) ρ
  | _,_=>.stuck)
 | _=>.stuck
def iZip2 (ma:MA):MI:=fun ρ=>bindO (ma ρ) fun rs ρ1=>sqZ (settles rs ρ1)
section
variable {X:Cx}{Γ:Gm}{W:WX}{e tg:Expr}{m:M}{ma:MA}{pos p:Pos}
theorem ji_zip2 {a b:Expr}{elts:List Expr}{kk:Nat}{tpos:Pos}(hK:X.K=Γ.G.K)(hm:X.mg "zip"=none)(ha:PA X [a,b] (tMA Γ W ma))(hg:Gl X "zip":=by rfl)(hs:starEach [a,b] X.env=(false,eval a X.env)::starEach [b] X.env:=by rfl)(hpl:(backTo pos (starEach [b] X.env)).any (·.1)=false:=by rfl):PI X (.Tuple elts kk tpos) (.Call (.Name "zip" p) [a,b] [] pos) (iM Γ W (iZip2 ma)) :=
 (pi_zipM hg hm ha hs hpl).imp fun σ H R ⟨ρ,F,Rl,h⟩=>⟨ρ,F,Rl,iM_bindA h (fun rs ρ1 vs F1 H1 s1 hr hk ⟨ds,ρ2,ek⟩=>by
  have hk:=hk ds ρ2 ek
  unfold sqZ at ek
  split at ek
  ·rename_i x y ρ3 er
   split at ek
   ·rename_i xs ys e1 e2
    cases ek
    obtain ⟨F2,s2,hd⟩:=settles_ok s1.rel hr er
    cases hd with
    | cons h1 t =>
     cases t with
     | cons h2 t =>
      cases t
      obtain ⟨k1,a1,v1,rfl,q1,t1⟩:=dp_seq h1 e1
      obtain ⟨k2,a2,v2,rfl,q2,t2⟩:=dp_seq h2 e2
      exact ⟨k1,k2,a1,a2,v1,v2,rfl,hK▸q1 H1 s2.rel.sub,hK▸q2 H1 s2.rel.sub,hk _ F2 H1 s2 (hK▸wlk_zipM q1 t1 q2 t2)⟩
   ·cases ek
  ·cases ek) (fun r ρ1=>by
  unfold sqZ
  split
  ·split
   ·exact .inl ⟨_,_,rfl⟩
   ·exact .inr rfl
  ·exact .inr rfl)⟩
end
@[simp] theorem x_sqZll {xs ys:List D}{ρ:Rho}:sqZ (some ([.lst xs,.lst ys],ρ))=.ok (zipD xs ys) ρ:=rfl
@[simp] theorem x_sqZlt {xs ys:List D}{ρ:Rho}:sqZ (some ([.lst xs,.tup ys],ρ))=.ok (zipD xs ys) ρ:=rfl
@[simp] theorem x_sqZtl {xs ys:List D}{ρ:Rho}:sqZ (some ([.tup xs,.lst ys],ρ))=.ok (zipD xs ys) ρ:=rfl
@[simp] theorem x_sqZtt {xs ys:List D}{ρ:Rho}:sqZ (some ([.tup xs,.tup ys],ρ))=.ok (zipD xs ys) ρ:=rfl
@[simp] theorem x_iZip2 {ma:MA}{ρ:Rho}:iZip2 ma ρ=bindO (ma ρ) fun rs ρ1=>sqZ (settles rs ρ1):=rfl
section
variable {X:Cx}{Γ:Gm}{W:WX}{i e:Expr}{mi:MP}{me:M}{T:Tab}{f:Str}{pos p1 p2 p3:Pos}
end
theorem tuple_mulOne (l:Addr)(items:Array Value)(n:Nat)(dd:Option Addr)(sl:Array (Option Value))(u:Tok) :
  Meets (Builtin.«tuple.__mul__» ⟨[.ref l,.int 1 u],[]⟩) (fun _ R s=>s.heap.get? l=some { cls:=.type "tuple",dict:=dd,data:=.seq items n,slots:=sl } ∧
   R (.ok (.ret (Value.ref l))) s) :=
 .of_wp fun prog w A R s h=>by
  obtain ⟨hp,g,d,tk,os⟩:=s
  obtain ⟨hl,h⟩:=h
  have f1:=AutoSeq1.idx_int
  have c1:(items.isEmpty||(1:Int)==1)=true:=by simp
  wp_walk using wpAny_loadPart' hl
  exact ⟨_,rfl,h⟩
def rRepT1 (K:PySem.W.Frag):R2:=fun x y H Q=>∃ l xs,x=.ref l∧y=.int 1∧SqT K H l xs∧Q (.ref l) H
theorem op_repT1 {X:Cx}:OpR X (binaryOp .Mult) (rRepT1 X.K):=by
 intro pins s σ H x y v u Q I rx ry h
 obtain ⟨l,xs,rfl,rfl,hT,q⟩:=h
 cases rx
 obtain ⟨t,rfl⟩:=ry
 obtain ⟨its,r,⟨⟨cls,dd,data,sl⟩,ho,hc,n,hd⟩,hs⟩:=I.tuple hT
 simp only at hc hd
 subst hc hd
 refine wpAny_binaryOp_repeat_ref (T := "tuple") (U := "int") (by decide) ⟨_,ho,rfl⟩ (fun s'=>typeIs_int s' 1 t) noFill_tuple_mul F.fills_int_mul F.slot_int_rmul repeat_tuple F.slot_int_index.lookup
  (call_meets F.slot_int_rmul (typeIs_int s 1 t) F.entry_int_rmul (F.args_int_rmul_2 _ _) (int_rmul_tuple 1 t l its.toArray n dd sl)
   ⟨ho,rfl,⟨_,ho,rfl⟩,call_meets F.slot_tuple_mul ⟨_,ho,rfl⟩ F.entry_tuple_mul (F.args_tuple_mul_2 _ _) (tuple_mulOne l its.toArray n dd sl t) ⟨ho,?_⟩⟩)
 exact ⟨.ref l,H,I,rfl,q⟩
def fRepT1:D→D→Option Res
 | .tup xs,.int 1=>some (.val (.tup xs))
 | _,_=>none
theorem repT1_ok {G:Gx}:BinOk G (rRepT1 G.K) fRepT1:=by
 intro F H x y dx dy res Q e vx vy q k
 unfold fRepT1 at q
 split at q
 ·cases q
  obtain ⟨a,vs,rfl,h1,t1⟩:=vx.tup e
  rcases vx with h | ⟨b,L,_,c⟩
  ·exact ⟨a,vs,rfl,vy.int,h1,k _ F H (.refl e) h⟩
  ·cases c with | flat c=>exact c.elim
 ·cases q
def mulE:D→D→Option Res:=orF mulD fRepT1
def rMulE (K:PySem.W.Frag):R2:=OrR (rMulD K) (rRepT1 K)
theorem mulE_ok {G:Gx}:BinOk G (rMulE G.K) mulE:=mulD_ok.or repT1_ok
theorem op_mulE {X:Cx}:OpR X (binaryOp .Mult) (rMulE X.K):=op_mulD.or op_repT1
theorem obsZ_eq {as:List Addr}{fa:List He.Fa}{fn:List He.DefD}{ex:PySem.W.Frag→Bool}{g:Addr→Option Obj}{s:Shared}(h:∀ a,g a=s.heap.get? a):obsZ as fa fn ex g=(hookZ as fa fn ex).obs s:=by
 have e:g=s.heap.get?:=funext h
 rw [e]; rfl
section
variable {prog:Program}{w:World}{A:Around}{E:Value→Shared→Prop}{s:Shared}{z TI TO T i1 i2:Addr}{fp1 fp2:List Addr}{n1 n2 i:Nat}{P1 P2:Nat→Value→Prop}{St1 St2:Nat→Heap→Prop}{f:Bool}{oT:Obj}
end
section
variable {X:Cx}{Γ:Gm}{W:WX}{ma:MA}{a b:Expr}{p p2 pos pos2:Pos}
end
def Gm.bet (Γ:Gm)(K:Nat)(a:Addr):Gm:={ Γ with β:=fun k=>if k=K then a else Γ.β k }
def noTag (K:Nat)(ρ:Rho):Prop:=∀ (i:Nat),(∀ d,ρ[i]?≠some (some (.own (some K) d)))∧ρ[i]?≠some (some (.exn (some K)))
section
variable {Γ:Gm}{K:Nat}{a:Addr}{ρ:Rho}{σ:St}{F H:Hp}
theorem bet_ne {k:Nat}(h:k≠K):(Γ.bet K a).β k=Γ.β k:=by simp [Gm.bet,h]
theorem slotOk_bet {v:V}{L:List Addr}{s:Slot}(h:(∀ d,s≠.own (some K) d)∧s≠.exn (some K)):SlotOk (Γ.bet K a) F H v L s↔SlotOk Γ F H v L s:=by
 cases s with
 | val d=>exact Iff.rfl
 | exn b =>
  cases b with
  | none=>exact Iff.rfl
  | some k =>
   show (v=.ref ((Γ.bet K a).β k)∧L=[])↔(v=.ref (Γ.β k)∧L=[])
   rw [bet_ne (fun z=>h.2 (by rw [z]))]
 | own b d =>
  constructor
  ·rintro ⟨c,e,ct,hb⟩
   exact ⟨c,e,ct,fun k hk=>by rw [hb k hk,bet_ne (fun z=>h.1 d (by rw [hk,z]))]⟩
  ·rintro ⟨c,e,ct,hb⟩
   exact ⟨c,e,ct,fun k hk=>by rw [hb k hk,bet_ne (fun z=>h.1 d (by rw [hk,z]))]⟩
theorem ownAt_bet (h:noTag K ρ){i:Nat}{c:Addr}:OwnAt (Γ.bet K a) ρ σ F H i c↔OwnAt Γ ρ σ F H i c :=
 ⟨fun ⟨s,v,L,h1,h2,h3,h4⟩=>⟨s,v,L,h1,h2,(slotOk_bet ⟨fun d z=>(h i).1 d (z▸h1),fun z=>(h i).2 (z▸h1)⟩).mp h3,h4⟩,fun ⟨s,v,L,h1,h2,h3,h4⟩=>⟨s,v,L,h1,h2,(slotOk_bet ⟨fun d z=>(h i).1 d (z▸h1),fun z=>(h i).2 (z▸h1)⟩).mpr h3,h4⟩⟩
theorem Rel.bet (R:Rel Γ ρ σ F H)(h:noTag K ρ):Rel (Γ.bet K a) ρ σ F H :=
 ⟨R.sub,fun i s q=>by obtain ⟨v,L,h1,h2⟩:=R.slot i s q; exact ⟨v,L,h1,(slotOk_bet ⟨fun d z=>(h i).1 d (z▸q),fun z=>(h i).2 (z▸q)⟩).mpr h2⟩,fun i j c h1 h2=>R.inj i j c ((ownAt_bet h).mp h1) ((ownAt_bet h).mp h2),fun i c q=>R.own i c ((ownAt_bet h).mp q),R.len,R.inv,R.ali,R.tab⟩
end
section
variable {Γ:Gm}{K:Nat}{a:Addr}{b:Option Nat}{ρ:Rho}{σ:St}{F H:Hp}
end
section
variable {X:Cx}{Γ:Gm}{W:WX}{iter tg:Expr}{g:TG}{f:Tg}{b:MS}{body:List Stmt}{pos:Pos}{K i:Nat}{a:Addr}
end
section
variable {X:Cx}{Γ:Gm}{W:WX}{tg:Expr}{g:TG}{f:Tg}{b:MS}{body:List Stmt}{pos p:Pos}{K i:Nat}{a:Addr}
end
def insI (x:Int):List Int→List Int
 | []=>[x]
 | y::ys=>if y<x then y::insI x ys else x::y::ys
def sortI:List Int→List Int
 | []=>[]
 | x::xs=>insI x (sortI xs)
theorem insI_perm (x:Int):∀ ys:List Int,(insI x ys).Perm (x::ys)
 | []=>.refl _
 | y::ys=>by
  unfold insI
  split
  ·exact ((insI_perm x ys).cons y).trans (.swap x y ys)
  ·exact .refl _
theorem sortI_perm:∀ xs:List Int,(sortI xs).Perm xs
 | []=>.refl _
 | x::xs=>(insI_perm x (sortI xs)).trans ((sortI_perm xs).cons x)
theorem insI_pw (x:Int):∀ ys:List Int,ys.Pairwise (·≤·)→(insI x ys).Pairwise (·≤·)
 | [],_=>by simp [insI]
 | y::ys,h=>by
  have h1:=List.pairwise_cons.mp h
  unfold insI
  split
  ·rename_i hl
   refine List.pairwise_cons.mpr ⟨fun z hz=>?_,insI_pw x ys h1.2⟩
   rcases List.mem_cons.mp ((insI_perm x ys).mem_iff.mp hz) with rfl | hz
   ·exact Int.le_of_lt hl
   ·exact h1.1 z hz
  ·rename_i hl
   refine List.pairwise_cons.mpr ⟨fun z hz=>?_,h⟩
   rcases List.mem_cons.mp hz with rfl | hz
   ·omega
   ·have:=h1.1 z hz; omega
theorem sortI_pw:∀ xs:List Int,(sortI xs).Pairwise (·≤·)
 | []=>.nil
 | x::xs=>insI_pw x _ (sortI_pw xs)
theorem sortI_is {xs ys:List Int}(p:ys.Perm xs)(h:ys.Pairwise (·≤·)):ys=sortI xs :=
 List.Perm.eq_of_pairwise (le:=(·≤·)) (fun _ _ _ _ h1 h2=>Int.le_antisymm h1 h2) h (sortI_pw xs) (p.trans (sortI_perm xs).symm)
theorem dpl_ints {G:Gx}{F:Hp}:∀ ss:List Int,DpL G F (ss.map V.int) (ss.map D.int)
 | []=>.nil
 | s::ss=>.cons (.int s) (dpl_ints ss)
def sortedID:List D→Option Res
 | [.lst xs]=>(intsD xs).map fun ss=>.new (.lst ((sortI ss).map .int))
 | _=>none
theorem sortedID_ok {G:Gx}:CallOk G (rSortedI G.K) sortedID:=by
 intro F H xs ds res Q e v q k
 unfold sortedID at q
 split at q
 ·rename_i ys
  obtain ⟨ss,e1,rfl⟩:=Option.map_eq_some_iff.mp q
  obtain ⟨x,rfl,vx⟩:=v.one
  obtain ⟨a,vs,rfl,h1,t⟩:=vx.lst e
  refine ⟨a,ss,rfl,by rw [← ints_ok t e1]; exact SqL.of h1,fun zs p hp hs hn=>?_⟩
  rw [sortI_is hp hs]
  exact k _ F _ (.cell e hn) ⟨p,rfl,Same.free e hn,⟨_,upd_same,dpl_ints _⟩,hn⟩
 ·cases q
def mxI:Int→List Int→Int
 | m,[]=>m
 | m,x::xs=>mxI (if m<x then x else m) xs
theorem mxI_mem:∀ (xs:List Int) (m:Int),mxI m xs∈m::xs
 | [],m=>by simp [mxI]
 | x::xs,m=>by
  have:=mxI_mem xs (if m<x then x else m)
  unfold mxI
  rcases List.mem_cons.mp this with h | h
  ·rw [h]; split <;> simp
  ·exact List.mem_cons_of_mem _ (List.mem_cons_of_mem _ h)
theorem mxI_le:∀ (xs:List Int) (m:Int),m≤mxI m xs∧∀ y∈xs,y≤mxI m xs
 | [],m=>by simp [mxI]
 | x::xs,m=>by
  obtain ⟨h1,h2⟩:=mxI_le xs (if m<x then x else m)
  unfold mxI
  refine ⟨?_,fun y hy=>?_⟩
  ·split at h1 <;> rename_i c
   ·rw [if_pos c]; omega
   ·rw [if_neg c]; omega
  ·rcases List.mem_cons.mp hy with rfl | hy
   ·split at h1 <;> rename_i c
    ·rw [if_pos c]; omega
    ·rw [if_neg c]; omega
   ·exact h2 y hy
def maxLD:List D→Option Res
 | [.lst xs]=>match intsD xs with
  | some (x::xs)=>some (.val (.int (mxI x xs)))
  | _=>none
 | _=>none
theorem maxLD_ok {G:Gx}:CallOk G (rMax G.K) maxLD:=by
 intro F H xs ds res Q e v q k
 unfold maxLD at q
 split at q
 ·rename_i ys
  split at q
  ·rename_i m ms e1
   cases q
   obtain ⟨x,rfl,vx⟩:=v.one
   obtain ⟨a,vs,rfl,h1,t⟩:=vx.lst e
   refine ⟨a,m::ms,rfl,by rw [← ints_ok t e1]; exact SqL.of h1,by simp,fun z hz hle=>?_⟩
   obtain ⟨g1,g2⟩:=mxI_le ms m
   have gm:=mxI_mem ms m
   have:z=mxI m ms:=Int.le_antisymm (by rcases List.mem_cons.mp hz with rfl | hz; exact g1; exact g2 z hz) (hle _ gm)
   subst this
   exact k _ F H (.refl e) (.int _)
  ·cases q
 ·cases q
theorem for_step {f:Tg}{b:MS}{d:D}{ds:List D}{ρ ρ1 ρ2:Rho}{R:SOut}(g:f d ρ=some ρ1)(st:b ρ1=.nx ρ2)(r:forD f b ds ρ2=R):forD f b (d::ds) ρ=R:=by rw [x_forC,g,x_optS,st,x_loopSn,r]
theorem lc_fm {α:Type}{vs:List Nat}{f:Tg}{t:MB}{me:M}{ρ:Rho}(dm g:α→D)(p:α→Bool):∀ (as:List α) (acc:List D),(∀ a∈as,∃ ρ1,f (dm a) ρ=some ρ1∧t ρ1=.ok (p a) ρ1∧wipeR ρ1 vs=ρ∧(p a=true→∃ r,me ρ1=.ok r ρ1∧r.frz=.val (g a)))→acc.length+as.length≤sizeLine →
  lcD vs f t me (as.map dm) acc ρ=.ok (acc++(as.filter p).map g) ρ
 | [],acc,_,_=>by simp
 | a::as,acc,h,hl=>by
  obtain ⟨ρ1,h1,h2,h5,h6⟩:=h a (List.mem_cons_self ..)
  have hl':acc.length<sizeLine:=by simp only [List.length_cons] at hl; omega
  rw [List.map_cons,x_lcC,h1]
  simp only [x_optO,h2,x_bindN]
  cases hp:p a with
  | true =>
   obtain ⟨r,h3,h4⟩:=h6 hp
   simp only [if_true,h3,h4,x_setV,hl',h5,x_bindN,x_optO]
   rw [lc_fm dm g p as (acc++[g a]) (fun d hd=>h d (List.mem_cons_of_mem _ hd)) (by simp only [List.length_append,List.length_cons,List.length_nil] at hl ⊢; omega)]
   simp [hp]
  | false =>
   simp only [Bool.false_eq_true,if_false,h5]
   rw [lc_fm dm g p as acc (fun d hd=>h d (List.mem_cons_of_mem _ hd)) (by simp only [List.length_cons] at hl; omega)]
   simp [hp]
def argR:Res→Arg
 | .val d=>.v d
 | .new d=>.o d
 | .at _=>.v .non
theorem RepM.arel {G:Gx}{F H:Hp}:∀ {vs:List V} {rs:List Res} {Ls:List Addr},RepM G F H vs rs Ls→ARel G F H vs (rs.map argR) Ls
 | _,_,_,.nil=>.nil
 | _,_,_,.val h t=>.v h t.arel
 | _,_,_,.new c dj t=>.o c dj t.arel
theorem RepN.len {Γ:Gm}{σ:St}{ρ:Rho}{F H:Hp}:∀ {vs:List V} {rs:List Res} {Ls:List Addr},RepN Γ σ ρ F H vs rs Ls→vs.length=rs.length
 | _,_,_,.nil=>rfl
 | _,_,_,.val _ t=>by simp [t.len]
 | _,_,_,.at _ t=>by simp [t.len]
 | _,_,_,.new _ _ _ t=>by simp [t.len]
theorem Post.bindN {Γ:Gm}{W:WX}{o:Out (List Res)}{k:List Res→Rho→Out Res}{ρ:Rho}{σ:St}{F H:Hp}{Q:VK}{Q1:List V→Hp→Prop}(h:Post Γ W (bindO o k) ρ σ F H Q)
  (hk:∀ r ρ1 v F1 H1 Ls,Stp Γ ρ σ F H ρ1 σ F1 H1→RepN Γ σ ρ1 F1 H1 v r Ls→Post Γ W (k r ρ1) ρ1 σ F1 H1 Q→Q1 v H1):PostN Γ W o ρ σ F H Q1:=by
 cases o with
 | ok r ρ'=>exact fun v F' H' Ls s q=>hk r ρ' v F' H' Ls s q (h.shift s)
 | exc x ρ'=>exact h
 | stuck=>exact h
section
variable {X:Cx}{Γ:Gm}{W:WX}{e:Expr}{ma:MA}{pos p:Pos}{es:List Expr}{x:Str}{k:Nat}{ps:List Str}{n:Nat}{g:Fn}
end
@[simp] theorem x_argRv {d:D}:argR (.val d)=.v d:=rfl
@[simp] theorem x_argRn {d:D}:argR (.new d)=.o d:=rfl
section
variable {X:Cx}{a b c d:Expr}{ta tb tc td:TE}{pos:Pos}
end
section
variable {X:Cx}{Γ:Gm}{W:WX}{a b c d:Expr}{ma mb mc md:M}{pos:Pos}
end
theorem DpK.mem {G:Gx}{F:Hp}{p:Key×V}:∀ {vs:List (Key×V)} {ds:List (Key×D)},DpK G F vs ds→p∈vs→∃ d,(p.1,d)∈ds∧Dp G F p.2 d
 | _,_,.nil,h=>by cases h
 | _,_,.cons (d:=d) hd t,h=>by
  rcases List.mem_cons.mp h with rfl | h
  ·exact ⟨d,List.mem_cons_self ..,hd⟩
  ·obtain ⟨d',h1,h2⟩:=DpK.mem t h
   exact ⟨d',List.mem_cons_of_mem _ h1,h2⟩
abbrev Gk (Γ:Gm)(d:Addr)(kvs:List (Key×D)):Gm:={ Γ with x:=d,J:=fun F=>∃ od kv,F d=some (.frz od (.dK kv))∧DpK Γ.G F kv kvs,Jm:=fun F F' e ⟨od,kv,h1,h2⟩=>⟨od,kv,e _ _ h1,h2.mono e⟩ }
section
variable {Γ:Gm}{ρ ρ':Rho}{σ σ':St}{F H F' H':Hp}{d:Addr}{kvs:List (Key×D)}
theorem own_gk {i:Nat}{c:Addr}:OwnAt (Gk Γ d kvs) ρ σ F H i c↔OwnAt Γ ρ σ F H i c:=by
 constructor
 ·rintro ⟨s,v,L,h1,h2,h3,h4⟩
  cases s with
  | val d=>rw [h3.2] at h4; cases h4
  | exn b=>cases b <;> (rw [h3.2] at h4; cases h4)
  | own b d=>exact ⟨_,v,L,h1,h2,h3,h4⟩
 ·rintro ⟨s,v,L,h1,h2,h3,h4⟩
  cases s with
  | val d=>rw [h3.2] at h4; cases h4
  | exn b=>cases b <;> (rw [h3.2] at h4; cases h4)
  | own b d=>exact ⟨_,v,L,h1,h2,h3,h4⟩
theorem Rel.lk (R:Rel Γ ρ σ F H)(n:noExn ρ=true)(q:∃ od kv,F d=some (.frz od (.dK kv))∧DpK Γ.G F kv kvs):Rel (Gk Γ d kvs) ρ σ F H :=
 ⟨R.sub,fun i s h=>by
  obtain ⟨v,L,h1,h2⟩:=R.slot i s h
  refine ⟨v,L,h1,?_⟩
  cases s with
  | val d=>exact h2
  | own b d=>exact h2
  | exn b=>cases b with
   | none=>exact absurd h (noExn_at n)
   | some k=>exact h2,fun i j c h1 h2=>R.inj i j c (own_gk.mp h1) (own_gk.mp h2),fun i c h=>R.own i c (own_gk.mp h),R.len,q,R.ali,R.tab⟩
end
section
variable {X:Cx}{Γ:Gm}{W:WX}{elt tg e:Expr}{ifs:List Expr}{scope:Scope}{own:List (Str×Nat)}{pos spos:Pos}{mk:M}{g:TG}{f:Tg}{t:List (Key×D)→MB}{me:List (Key×D)→M}{kvs:List (Key×D)}
end
end PyD
namespace HT
open PySem PyProof.Rows
section
variable {prog:Program}{w:World}{A:Around}{E:Value→Shared→Prop}{s:Shared}
end
end HT
namespace PyD
open PySem PySem.Spec PyProof.Rows L2
structure CSta (K:PySem.W.Frag)(C:Addr)(mc:Value)(m:Str)(p g:Addr):Prop where
 at_:PySem.W.findCls K (.ref C) mc m=some (.get (.builtin "staticmethod.__get__") (.ref p) .none (.ref C))
 rc:∃ rest,PySem.W.recIn K p "staticmethod"=some (.ref g::rest)
 kp:PySem.W.keepIn K (.ref g)=true
structure SmFact (P:Program)(w:World)(K:PySem.W.Frag)(mg:Str→Option Value)(base:Heap)(G:Gx)(Θ:List NdefX.NTab)(x m:Str)(n k:Nat)(ps:List Str)(f:Fn):Prop where
 ex:∃ C p g fd mc,mg x=some (.ref C)∧ClX.CRead K C mc∧CSta K C mc m p g∧Binds K fd ps []∧FnOkG P w K mg base k g fd ps (spF G Θ n f)
section
variable {X:Cx}{Γ:Gm}{W:WX}{e:Expr}{es:List Expr}{ma:MA}{pos apos p:Pos}{x m:Str}{k n:Nat}{ps:List Str}{mk:List Bool}{f:Fn}
end
def StaOk (fn2:List He5.DefA)(K:PySem.W.Frag):Prop:=(fn2.all fun d=>d.ok K)=true∧(fn2.map fun d=>He5.fnA K (d.at_ K))=fn2.map He5.DefA.val
theorem StaOk.def_ {fn:List He5.DefA}{K:PySem.W.Frag}(c:StaOk fn K)(i:Nat){d:He5.DefA}(h:fn[i]?=some d:=by rfl):∃ fd,L2.FunD K d.name d.qual d.params d.body d.scope (d.dvs K) (d.kws K) (d.at_ K) fd:=by
 have e2:(fn.map fun d=>He5.fnA K (d.at_ K))[i]?=(fn.map He5.DefA.val)[i]?:=by rw [c.2]
 rw [List.getElem?_map,List.getElem?_map,h] at e2
 exact He5.DefA.funD (Option.some.inj e2) (List.all_eq_true.mp c.1 d (List.mem_of_getElem? h))
end PyD
namespace PyD
open PySem PySem.Spec PyProof.Rows L2 L2H
theorem roomH_in1 {k:Nat}{A:Around}(r:RoomH (k+1) A):RoomH k A.in1:=⟨by have:=r.dp; show A.depth+3 * k+5<_; omega,by have:=r.un; show A.units+1+16 * k+200<_; omega⟩
theorem _root_.L2H.RoomH.units0 {k:Nat}{A:Around}(r:RoomH k A):A.units<cLine:=by have:=r.un; omega
structure FnZ (P:Program)(w:World)(K:PySem.W.Frag)(mg:Str→Option Value)(base:Heap)(CX:CXT)(k:Nat)(f:Addr)(fd:FuncData)(ps:List Str)(sp:Sp):Prop where
 len:∀ vs H Q E,sp vs H Q E→vs.length=ps.length
 run:∀ (A:Around) (outer:List Env) (s:Shared) (H:Hp) (args:Args) (us:List Value) (vs:List V) (Q:VK) (E:XK),RoomH k A→Env0 P w K mg base A outer s H→BindsTo s fd args (ps.zip us)→Vals vs us→sp vs H Q E →
  codeAny (model P w) A (.call (.ref f) args) (CR CX outer P w H s Q E) s
structure SubH (X:Cx)(n:Nat)(A:Around):Prop where
 room:RoomH n A
 fr:A.frames=X.A.frames
theorem SubH.in1 {X:Cx}{n:Nat}{A:Around}(s:SubH X (n+1) A):SubH X n A.in1:=⟨roomH_in1 s.room,s.fr⟩
theorem SubH.mono {X:Cx}{n m:Nat}{A:Around}(s:SubH X n A)(h:m≤n):SubH X m A:=⟨s.room.mono h,s.fr⟩
structure EqFactH (P:Program)(w:World)(K:PySem.W.Frag)(mg:Str→Option Value)(base:Heap)(G:Gx)(c k:Nat)(f:Fn):Prop where
 ex:∃ g fd ps,PySem.W.findIn K (.ref (G.cl c)) "__eq__"=some (some (.ref g))∧PySem.W.isFn K (.ref g)=true∧Binds K fd ps []∧FnZ P w K mg base (L2.CX P w) k g fd ps (spF G [] 2 f)
 ne:PySem.W.findIn K (.ref (G.cl c)) "__ne__"=some (some (.builtin "object.__ne__"))
 mo:PySem.W.mroIn K (G.cl c) (.type "object")=some true
 nfB:∀ t∈baseT,PySem.W.notFirst K (G.cl c) (.type t)=true
section
variable {X:Cx}{G:Gx}{T:Tab}{E:Nat→Option Fn}{k:Nat}
def RcSH (X:Cx)(G:Gx)(n:Nat)(neg:Bool)(e:D→D→Option Bool):Prop:=∀ (A:Around) (pins:List (Addr×Obj)) (s:Shared) (σ:St) (F H:Hp) (x y:V) (u v:Value) (dx dy:D) (b:Bool),SubH X n A→Inv X pins σ H s→RelV x u→RelV y v→Same F H→Dp G F x dx→Dp G F y dy→e dx dy=some b →
 wpAny (model X.prog X.w) A (richCompare (if neg then .NotEq else .Eq) u v) (fun r s'=>r=.bool (neg != b)∧∃ F' H',Inv X pins σ H' s'∧Alc F H F' H') X.xe s
end
section
variable {X:Cx}{G:Gx}{k:Nat}
theorem RcSH.or {n:Nat}{neg:Bool}{e e':D→D→Option Bool}(h:RcSH X G n neg e)(h':RcSH X G n neg e'):RcSH X G n neg (orE e e'):=fun A pins s σ F H x y u v dx dy b sb I rx ry eS hx hy q=>by
 unfold orE at q
 split at q
 ·rename_i b' w; cases q; exact h A pins s σ F H x y u v dx dy _ sb I rx ry eS hx hy w
 ·exact h' A pins s σ F H x y u v dx dy b sb I rx ry eS hx hy q
theorem RcSH.mono {n m:Nat}{neg:Bool}{e:D→D→Option Bool}(h:RcSH X G n neg e)(hn:n≤m):RcSH X G m neg e:=fun A pins s σ F H x y u v dx dy b sb=>h A pins s σ F H x y u v dx dy b (sb.mono hn)
end
section
variable {P:Program}{w:World}{K:PySem.W.Frag}{mg:Str→Option Value}{base:Heap}{G:Gx}{T:Tab}{c k j:Nat}{f:Fn}{g:Addr}{fd:FuncData}{ps:List Str}{l:List (Nat×Fn)}{sp:Sp}
end
structure MtwFact (P:Program)(w:World)(K:PySem.W.Frag)(mg:Str→Option Value)(base:Heap)(G:Gx)(Θ:List NdefX.NTab)(c:Nat)(m:Str)(np k:Nat)(n:Nat)(ks:List Str)(q:List Nat)(dds:List D)(g:Fn):Prop where
 ex:∃ f fd ps dvs,Meth K (G.cl c) m f∧Ways K fd ps (n+1) ks dvs (0::q.map (·+1))∧Dfl G dvs dds∧FnOkG P w K mg base k f fd ps (spF G Θ np g)
section
variable {X:Cx}{Γ:Gm}{W:WX}{o e:Expr}{es:List Expr}{kws:List Keyword}{mo:M}{ma mz:MA}{pos apos:Pos}{m:Str}{c n k np nk:Nat}{ks:List Str}{pl':List Nat}{dds:List D}{mk:List Bool}{g:Fn}
end
structure SmwFact (P:Program)(w:World)(K:PySem.W.Frag)(mg:Str→Option Value)(base:Heap)(G:Gx)(Θ:List NdefX.NTab)(x m:Str)(np k n:Nat)(ks:List Str)(p:List Nat)(dds:List D)(f:Fn):Prop where
 ex:∃ C r g fd mc ps dvs,mg x=some (.ref C)∧ClX.CRead K C mc∧CSta K C mc m r g∧Ways K fd ps n ks dvs p∧Dfl G dvs dds∧FnOkG P w K mg base k g fd ps (spF G Θ np f)
section
variable {X:Cx}{Γ:Gm}{W:WX}{kws:List Keyword}{mz:MA}{pos apos p:Pos}{x m:Str}{k np nk:Nat}{ks:List Str}{pl':List Nat}{dds:List D}{mk:List Bool}{f:Fn}
end
section
variable {prog:Program}{w:World}{A:Around}{E:Value→Shared→Prop}{s:Shared}{z TI TO i1 i2 i3:Addr}{fp1 fp2 fp3:List Addr}{n1 n2 n3 i:Nat}{P1 P2 P3:Nat→Value→Prop}{St1 St2 St3:Nat→Heap→Prop}{a1 a2 a3:Value}
end
section
variable {X:Cx}{Γ:Gm}{W:WX}{e tg:Expr}{m:M}{ma:MA}{pos p:Pos}
end
section
variable {X:Cx}{Γ:Gm}{W:WX}{e:Expr}{ma:MA}{pos p p1 p2:Pos}{jj}
end
def rangeDn (lo:Int)(n:Nat):List D:=(List.range n).map fun i=>.int (lo+(i:Nat) * (-1))
theorem wlk_rangeDn {G:Gx}{F:Hp}(lo:Int)(n:Nat):Wlk G (Itc lo (-1) n) F (rangeDn lo n) :=
 ⟨fun i H s hi=>by simpa [rangeDn,Itc] using hi,fun i H x H' s hi ⟨e,y⟩=>by
  subst e y
  have hi:i<n:=by simpa [rangeDn] using hi
  exact ⟨.int (lo+(i:Nat) * (-1)),by simp [rangeDn,hi],fun F1 s1 s2=>⟨F1,.refl s2,.int _⟩⟩,fun i H s hi=>by simpa [rangeDn,Itc] using hi⟩
def rgRn (o:Option (List D))(ρ1:Rho):Out (List D):=match o with
 | some [.int i,.int j,.int c]=>if c=-1∧((-(2 ^ 62)≤i∧i<2 ^ 62)∧(-(2 ^ 62)≤j∧j<2 ^ 62)) then .ok (rangeDn i (i-j).toNat) ρ1 else .stuck
 | _=>.stuck
def iRangeN (ma:MA):MI:=fun ρ=>bindO (ma ρ) fun rs ρ1=>rgRn (resolves ρ1 rs) ρ1
section
variable {X:Cx}{Γ:Gm}{W:WX}{tg:Expr}{ma:MA}{pos p:Pos}
theorem ji_rangeN {a b c:Expr}(hm:X.mg "range"=none)(ha:PA X [a,b,c] (tMA Γ W ma))(hg:Gl X "range":=by rfl)(hs:starEach [a,b,c] X.env=(false,eval a X.env)::starEach [b,c] X.env:=by rfl)(hpl:(backTo pos (starEach [b,c] X.env)).any (·.1)=false:=by rfl):PI X tg (.Call (.Name "range" p) [a,b,c] [] pos) (iM Γ W (iRangeN ma)) :=
 (pi_range3 hg hm ha hs hpl).imp fun σ H R ⟨ρ,F,Rl,h⟩=>⟨ρ,F,Rl,iM_bindA h (fun rs ρ1 vs F1 H1 s1 hr hk ⟨ds,ρ2,ek⟩=>by
  have hk:=hk ds ρ2 ek
  unfold rgRn at ek
  split at ek
  ·rename_i i j c er
   split at ek
   ·rename_i w
    obtain ⟨rfl,w1,w2⟩:=w
    cases ek
    have V:=hr.views s1.rel er
    cases V with
    | cons h1 t =>
     cases t with
     | cons h2 t =>
     cases t with
     | cons h3 t =>
      cases t
      exact ⟨i,j,-1,_,by rw [h1.int,h2.int,h3.int],RgC.neg w1.1 w1.2 w2.1 w2.2,hk _ F1 H1 (.refl s1.rel) (wlk_rangeDn i _)⟩
   ·cases ek
  ·cases ek) (fun r ρ1=>by
  unfold rgRn
  split
  ·split
   ·exact .inl ⟨_,_,rfl⟩
   ·exact .inr rfl
  ·exact .inr rfl)⟩
end
@[simp] theorem x_iRangeN {ma:MA}{ρ:Rho}:iRangeN ma ρ=bindO (ma ρ) fun rs ρ1=>rgRn (resolves ρ1 rs) ρ1:=rfl
@[simp] theorem x_rgRn {i j c:Int}{ρ:Rho}:rgRn (some [.int i,.int j,.int c]) ρ=if c=-1∧((-(2 ^ 62)≤i∧i<2 ^ 62)∧(-(2 ^ 62)≤j∧j<2 ^ 62)) then .ok (rangeDn i (i-j).toNat) ρ else .stuck:=rfl
def lookN (dk:D):List (D×D)→Option D
 | []=>none
 | p::r=>if nkey p.1=nkey dk then some p.2 else lookN dk r
structure Pw (X:Cx)(G:Gx):Prop where
 K:X.K=G.K
 P:X.prog=G.P
 w:X.w=G.w
section
variable {X:Cx}{Γ:Gm}{W:WX}{a b e o i:Expr}{ma mb me mo mi:M}{pos pos' p1 p2 p3 apos cpos:Pos}
end
section
variable {X:Cx}{Γ:Gm}{W:WX}{pos:Pos}{k v:Expr}{mk mv:M}
end
section
variable {X:Cx}{Γ:Gm}{W:WX}{T:Tab}{name:Str}{p1 p2 p3 apos cpos:Pos}{t id:String}{r:V→List V→Hp→VK→Prop}
end
def pairV:List V→List (V×V)
 | k::v::r=>(k,v)::pairV r
 | _=>[]
structure JQ (X:Cx)(Γ:Gm)(W:WX)(pos:Pos)(keys:List (Option Expr))(values:List Expr)(ma:MA):Prop where
 ex:∃ trs,PPs X pos keys values trs∧∀ D σ H Q,tMA (Γ.also D) W ma σ H (fun vs H'=>Q (pairV vs) H')→tPairs trs σ H Q
section
variable {X:Cx}{Γ:Gm}{W:WX}{pos:Pos}{keys:List (Option Expr)}{values:List Expr}{ma:MA}{k v:Expr}{mk mv:M}
end
end PyD
namespace PySem
namespace KeyX
open Builtin Builtin.ObjectAttr HandSPX
section
variable {M:Model}{A:Around}{E:Value→Shared→Prop}{hp:Heap}{g:Array GenState}{dr:Drawn}{tk:Nat}{os:OsState}
variable {B newId initId:String}{bmB tl:List Value}{nm qn:Str}{C N:Addr}{bs bm:List Value}{hd:Bool}{sn:List Str}{sb:List Value}{ab:Bool}{co:Option Bool}{da:Option Addr}{k0 k1 k2 k3 k5:Option Value}
end
section
variable {prog:Program}{w:World}{A:Around}{E:Value→Shared→Prop}{R:Result→Shared→Prop}{hp:Heap}{g:Array GenState}{dr:Drawn}{tk:Nat}{os:OsState}
variable {B newId initId:String}{bmB tl:List Value}{nm qn:Str}{C N:Addr}{bs bm:List Value}{hd:Bool}{sn:List Str}{sb:List Value}{ab:Bool}{co:Option Bool}{da:Option Addr}{k0 k1 k2 k3 k5:Option Value}
end
end KeyX
end PySem
namespace PyD
open PySem PySem.Spec PyProof.Rows L2
structure EBw (newId:String)(tl:List Value):Prop where
 made:∀ {prog:Program} {w:World} {A:Around} {R:Result→Shared→Prop} {hp:Heap} {g:Array GenState} {dr:Drawn} {tk:Nat} {os:OsState}
  {nm qn:Str} {C N:Addr} {bs bm:List Value} {hd:Bool} {sn:List Str} {sb:List Value} {ab:Bool} {co:Option Bool} {da:Option Addr} {k0 k1 k2 k3 k5:Option Value} {us:List Value} {kw:List (Str×Value)} {fI:Addr},
  (∀ X:String,bm.contains (.type X)=tl.contains (.type X))→hp.get? C=some (excClassObj nm qn C N bs bm hd sn sb ab co da k0 k1 k2 k3 k5 newId) →
  PySem.W.Looks (model prog w) hp (typeLookup (.ref C) "__init__") (some (.ref fI))→(∀ self,PySem.W.Looks (model prog w) hp (bindSpecial (.ref fI) self) (.ref fI,[self]))→us.length≤sizeLine →
  codeAny (model prog w) (A.under (.builtin "type.__call__" ⟨.ref C::us,kw⟩)) (.call (.ref fI) ⟨.ref (hp.objs.size+1)::us,kw⟩) (PySem.W.InitBack (hp.objs.size+1) R)
   ⟨(hp.push (PySem.W.kdv_tup us)).push (PySem.HandSPX.excO C hp.objs.size),g,dr,tk,os⟩→codeAny (model prog w) A (.call (.ref C) ⟨us,kw⟩) R ⟨hp,g,dr,tk,os⟩
structure XcwFact (P:Program)(w:World)(K:PySem.W.Frag)(mg:Str→Option Value)(base:Heap)(G:Gx)(x:Str)(c k:Nat)(f:Str)(n:Nat)(ks:List Str):Prop where
 ex:∃ tl newId fI fd ps,EBw newId tl∧XC K (G.cl c) tl newId∧PySem.W.findIn K (.ref (G.cl c)) f=some none∧mg x=some (.ref (G.cl c))∧PySem.W.findIn K (.ref (G.cl c)) "__init__"=some (some (.ref fI)) ∧
  PySem.W.typeIn K (.ref fI)=some (.type "function")∧Ways K fd ps (n+1) ks [] [0,1]∧FnOkG P w K mg base k fI fd ps (spX K tl newId f)
section
variable {X:Cx}{Γ:Gm}{W:WX}{e:Expr}{ma:MA}{x f:Str}{c k:Nat}{ks:List Str}{kws:List Keyword}{p pos:Pos}
end
end PyD
namespace PyD
open PySem PySem.Spec PyProof.Rows L2 LamX NdefX
theorem among_keep {pos:Pos}{cv:Value}(l more:List Value)(h:TriplesOk l)(hc:codeAmong pos l=some cv):codeAmong pos (l++more)=some cv:=by
 fun_induction TriplesOk l with
 | case1=>simp [codeAmong] at hc
 | case2 a t b u x rest ih =>
  simp only [List.cons_append,codeAmong] at hc ⊢
  split at hc
  ·rename_i q; rw [if_pos q]; exact hc
  ·rename_i q; rw [if_neg q]; exact ih h hc
 | case3 l h1 h2=>exact h.elim
abbrev lamF (qual:Str)(params:Arguments)(scope:Scope)(cl:List (Str×Addr))(c:Addr):NF:=⟨"<lambda>",qual,params,[],scope,cl,c⟩
def LamAt (h:Heap)(f:Addr)(F:NF)(body:Expr):Prop:=∃ (pm ctv:Value) (sl:Array (Option Value)),h.get? f=some { PySem.W.kla_obj "<lambda>" F.qual F.params body F.scope F.cl pm F.c ctv with slots:=sl }
section
variable {X:Cx}{pins:List (Addr×Obj)}{σ:L2.St}{H:Hp}{s:Shared}
structure Made (X:Cx)(s s':Shared)(H H1:Hp)(P:Addr)(pos:Pos)(f:Addr)(F:NF)(body:Expr):Prop where
 heap:∀ b o,b≠P→s.heap.get? b=some o→s'.heap.get? b=some o
 grow:∀ b ps,H b=some (.tbl ps)→∃ more,H1 b=some (.tbl (ps++more))
 ext:∀ b o,b≠P→H b=some o→H1 b=some o
 obj:LamAt s'.heap f F body
 none_:H1 f=none
 tab:∃ ps,H1 P=some (.tbl ps)∧TriplesOk ps.toList∧codeAmong pos ps.toList=some (.ref F.c)
 back:∀ b,H1 b=none→H b=none
 fresh:∀ b o,H b=none→H1 b=some o→s.heap.objs.size≤b
end
inductive CapR (G:Gx)(F:Hp):List (Option V)→List (Option D)→Prop
 | nil:CapR G F [] []
 | un {o:Option V} {ws:List (Option V)} {cs:List (Option D)}:CapR G F ws cs→CapR G F (o::ws) (none::cs)
 | cap {v:V} {d:D} {ws:List (Option V)} {cs:List (Option D)}:Dp G F v d→CapR G F ws cs→CapR G F (some v::ws) (some d::cs)
theorem CapR.mono {G:Gx}{F F':Hp}(e:Same F F'):∀ {ws:List (Option V)} {cs:List (Option D)},CapR G F ws cs→CapR G F' ws cs
 | _,_,.nil=>.nil
 | _,_,.un t=>.un (t.mono e)
 | _,_,.cap h t=>.cap (h.mono e) (t.mono e)
theorem CapR.len {G:Gx}{F:Hp}:∀ {ws:List (Option V)} {cs:List (Option D)},CapR G F ws cs→ws.length=cs.length
 | _,_,.nil=>rfl
 | _,_,.un t=>by simp [t.len]
 | _,_,.cap _ t=>by simp [t.len]
theorem CapR.get {G:Gx}{F:Hp}:∀ {ws:List (Option V)} {cs:List (Option D)} {i:Nat} {d:D},CapR G F ws cs→cs[i]?=some (some d)→∃ v,ws[i]?=some (some v)∧Dp G F v d
 | _,_,_,_,.nil,e=>by simp at e
 | _,_,0,_,.un t,e=>by simp at e
 | _,_,0,_,.cap h t,e=>by simp at e; subst e; exact ⟨_,rfl,h⟩
 | _,_,i+1,d,.un t,e=>by obtain ⟨v,h1,h2⟩:=t.get (i:=i) (d:=d) (by simpa using e); exact ⟨v,by simpa using h1,h2⟩
 | _,_,i+1,d,.cap h t,e=>by obtain ⟨v,h1,h2⟩:=t.get (i:=i) (d:=d) (by simpa using e); exact ⟨v,by simpa using h1,h2⟩
abbrev LFn:=List (Option D)→List D→FOut
def spL (G:Gx)(T:List NTab)(n:Nat)(f:LFn):List (Option V)→Sp:=fun ws vs H Q E=>vs.length=n∧∃ F U cs ds,Same F H∧CapR G F ws cs∧DpL G F vs ds∧Ali T U F H∧match f cs ds with
 | .ret r _=>∀ v F' H',CStp T U F H F' H'→RepRet G U [] F' H' v r→Q v H'
 | .exc x _=>∀ d F' H',CStp T U F H F' H'→ExcRep G F' H' x d→E (ecV G x.c) d H'
 | .stuck=>False
structure LOk (P:Program)(w:World)(K:PySem.W.Frag)(mg:Str→Option Value)(base:Heap)(k:Nat)(qual:Str)(params:Arguments)(body:Expr)(scope:Scope)(ps fr:List Str)(sp:List (Option V)→Sp):Prop where
 run:∀ (A:Around) (outer:List Env) (s:Shared) (H:Hp) (us:List Value) (vs:List V) (ws:List (Option V)) (Q:VK) (E:XK) (f c:Addr) (cl:List (Str×Addr)),RG k A→Env0 P w K mg base A outer s H→LamAt s.heap f (lamF qual params scope cl c) body→s.heap.CodeRec (.ref c) qual →
  CellsAt cl fr ws s.heap H→Vals vs us→sp ws vs H Q E→codeAny (model P w) A (.call (.ref f) ⟨us,[]⟩) (CR (L2.CX P w) outer P w H s Q E) s
section
variable {P:Program}{w:World}{K:PySem.W.Frag}{mg:Str→Option Value}{base:Heap}{N ps fr:List Str}{k j:Nat}{sp:List (Option V)→Sp}{qual:Str}{params:Arguments}{body:Expr}{scope:Scope}
theorem LOk.mono (o:LOk P w K mg base j qual params body scope ps fr sp)(h:j≤k):LOk P w K mg base k qual params body scope ps fr sp :=
 ⟨fun A outer s H us vs ws Q E f c cl hr=>o.run A outer s H us vs ws Q E f c cl (hr.mono h)⟩
end
def cbOut (o:FOut)(ρ:Rho):Out Res:=match o with
 | .ret r _=>.ok r ρ
 | .exc x _=>.exc x ρ
 | .stuck=>.stuck
structure CbAt (T:List NTab)(s:Shared)(H:Hp)(fa:Addr)(F:NF)(body:Expr)(fr:List Str)(ws:List (Option V)):Prop where
 obj:LamAt s.heap fa F body
 none_:H fa=none
 cells:CellsAt F.cl fr ws s.heap H
 tab:∃ P nm pos ps,(P,nm)∈T∧nm pos.line pos.col=F.qual∧H P=some (.tbl ps)∧TriplesOk ps.toList∧codeAmong pos ps.toList=some (.ref F.c)
structure SameZ (X:Cx)(P:Program)(w:World)(K:PySem.W.Frag)(mg:Str→Option Value)(base:Heap)(s:Shared)(H:Hp)(outer:List Env):Prop where
 P:X.prog=P
 w:X.w=w
 K:X.K=K
 mg:X.mg=mg
 base:X.base=base
 s0:X.s_0=s
 H0:X.H_0=H
 out:X.outer=outer
 ex:X.ex=[]
section
variable {X:Cx}{P:Program}{w:World}{K:PySem.W.Frag}{mg:Str→Option Value}{base:Heap}{s0:Shared}{H0:Hp}{outer:List Env}
end
def Cb (P:Program)(w:World)(K:PySem.W.Frag)(mg:Str→Option Value)(base:Heap)(s0:Shared)(H0:Hp)(outer:List Env)(G:Gx)(T:List NTab)(J:Hp→Prop)(fa:Addr)(k n:Nat)(g:List D→FOut):Prop :=
 ∀ X:Cx,SameZ X P w K mg base s0 H0 outer→(∀ pins s σ H,Inv X pins σ H s→PySem.W.FnAt fa s.heap)∧(RG k X.A→∀ {Γ:Gm} {W:WX},Takes X W→Γ.G=G→Γ.T=T→(∀ F,Γ.J F→J F)→∀ (pins:List (Addr×Obj)) (s:Shared) (σ:St) (H:Hp) (ρ:Rho) (F:Hp) (Q:VK) (us:List Value) (vs:List V) (ds:List D),Inv X pins σ H s→Rel Γ ρ σ F H→Vals vs us→DpL G F vs ds→ds.length=n →
  Post Γ W (cbOut (g ds) ρ) ρ σ F H Q→wpAny (model X.prog X.w) X.A (call (.ref fa) us) (EP X pins σ Q) X.xe s)
section
variable {X:Cx}{Γ:Gm}{W:WX}{P:Program}{w:World}{K:PySem.W.Frag}{mg:Str→Option Value}{base:Heap}{s0:Shared}{H0:Hp}{outer:List Env}{T:List NTab}{J:Hp→Prop}{k n i lv:Nat}{g:List D→FOut}{x:Str}{p pos:Pos}{e:Expr}{es:List Expr}{ma:MA}{G:Gx}{fa:Addr}
end
def spFJ (G:Gx)(T:List NTab)(n:Nat)(J:Hp→Prop)(f:Fn):Sp:=fun vs H Q E=>vs.length=n∧∃ F as L U,J F∧Same F H∧ARel G F H vs as L∧Off U F L∧Ali T U F H∧match f as with
 | .ret r os=>∀ v F' H' L',CStp T U F H F' H'→ORel G F' H' vs as os L'→Off U F' L'→RepRet G U L' F' H' v r→Q v H'
 | .exc x os=>∀ d F' H' L',CStp T U F H F' H'→ORel G F' H' vs as os L'→Off U F' L'→ExcRep G F' H' x d→E (ecV G x.c) d H'
 | .stuck=>False
def cbS:List Nat→Rho→Rho
 | [],ρ=>ρ
 | j::r,ρ=>cbS r (ρ.set j (some (.exn (some j))))
theorem Rel.cbs {Γ:Gm}{σ:St}{F H:Hp}:∀ {cbs:List Nat} {ρ:Rho},Rel Γ ρ σ F H→(∀ j∈cbs,j<ρ.length∧σ[j]?=some (some (.ref (Γ.β j))))→Rel Γ (cbS cbs ρ) σ F H
 | [],_,R,_=>R
 | j::r,ρ,R,h=>by
  obtain ⟨h1,h2⟩:=h j (List.mem_cons_self ..)
  refine Rel.cbs (cbs:=r) (ρ:=ρ.set j (some (.exn (some j)))) (R.put (L:=[]) (sl:=.exn (some j)) h1 h2 (fun _ _=>rfl) rfl ⟨rfl,rfl⟩ fun b hb=>by cases hb).1 fun i hi=>?_
  obtain ⟨g1,g2⟩:=h i (List.mem_cons_of_mem _ hi)
  exact ⟨by simpa using g1,g2⟩
abbrev CbL:=List (Nat×Nat×Nat)
abbrev CbFs:=Nat→List D→FOut
structure FnC (P:Program)(w:World)(K:PySem.W.Frag)(mg:Str→Option Value)(base:Heap)(G:Gx)(T:List NTab)(k:Nat)(f:Addr)(fd:FuncData)(ps:List Str)(n:Nat)(cbs:CbL)(mm:CbFs→Fn):Prop where
 len:ps.length=n
 run:∀ (cb:CbFs) (J:Hp→Prop),(∀ F F',Same F F'→J F→J F')→∀ (A:Around) (outer:List Env) (s:Shared) (H:Hp) (args:Args) (us:List Value) (vs:List V) (Q:VK) (E:XK),RG k A→Env0 P w K mg base A outer s H→BindsTo s fd args (ps.zip us)→Vals vs us →
  (∀ c∈cbs,∃ a,vs[c.1]?=some (.ref a)∧Cb P w K mg base s H outer G T J a c.2.2 c.2.1 (cb c.1))→spFJ G T n J (mm cb) vs H Q E→codeAny (model P w) A (.call (.ref f) args) (CR (L2.CX P w) outer P w H s Q E) s
section
variable {X:Cx}{Γ:Gm}{W:WX}{a b:Expr}{ma:M}{pos:Pos}
end
section
variable {X:Cx}{Γ:Gm}{W:WX}{o e:Expr}{es:List Expr}{mo:M}{ma:MA}{pos apos:Pos}{m:Str}{c n k:Nat}{ps:List Str}{g:Fn}
end
structure MtcFact (P:Program)(w:World)(K:PySem.W.Frag)(mg:Str→Option Value)(base:Heap)(G:Gx)(Θ:List NTab)(c:Nat)(m:Str)(n k:Nat)(ps:List Str)(cbs:CbL)(mm:CbFs→Fn):Prop where
 ex:∃ f fd,Meth K (G.cl c) m f∧Binds K fd ps []∧FnC P w K mg base G Θ k f fd ps n cbs mm
theorem any_dp {G:Gx}{F:Hp}{v:V}:Dp G F v .any:=.any v
section
variable {X:Cx}{Γ:Gm}{W:WX}{o:Expr}{mo:M}{pos apos lpos:Pos}{m:Str}{c n k lv nl:Nat}{ps lps fr:List Str}{mm:CbFs→Fn}{f:LFn}{js:List Nat}{params:Arguments}{body:Expr}{scope:Scope}{cd Pt:Addr}{nm:Nat→Nat→Str}
end
def codeAt (K:PySem.W.Frag)(f:Addr):Option Value:=match K.lookup f with
 | some o=>(match o.data with
  | .func fd=>some fd.code
  | _=>none)
 | none=>none
def cA (K:PySem.W.Frag)(f:Addr):Addr:=match codeAt K f with
 | some (.ref c)=>c
 | _=>0
@[simp] theorem x_cbOutR {r:Res}{os:List D}{ρ:Rho}:cbOut (.ret r os) ρ=.ok r ρ:=rfl
@[simp] theorem x_cbOutX {x:Exc}{os:List D}{ρ:Rho}:cbOut (.exc x os) ρ=.exc x ρ:=rfl
@[simp] theorem x_cbS0 {ρ:Rho}:cbS [] ρ=ρ:=rfl
@[simp] theorem x_cbS1 {j:Nat}{r:List Nat}{ρ:Rho}:cbS (j::r) ρ=cbS r (ρ.set j (some (.exn (some j)))):=rfl
structure LamSp where
 js:List Nat
 f:LFn
 n:Nat
 lv:Nat
structure LamHere (T:List NTab)(s:Shared)(H:Hp)(fa:Addr)(F:NF)(body:Expr):Prop where
 obj:LamAt s.heap fa F body
 none_:H fa=none
 tab:∃ P nm pos ps,(P,nm)∈T∧nm pos.line pos.col=F.qual∧H P=some (.tbl ps)∧TriplesOk ps.toList∧codeAmong pos ps.toList=some (.ref F.c)
theorem LamHere.made {X:Cx}{T:List NTab}{s s':Shared}{H H1:Hp}{P f fa:Addr}{pos:Pos}{F F0:NF}{body body0:Expr}{ps0:Array Value}(h:LamHere T s H fa F body)(M:Made X s s' H H1 P pos f F0 body0)(hP:H P=some (.tbl ps0)):LamHere T s' H1 fa F body:=by
 have ne:fa≠P:=fun e=>by have:=h.none_; rw [e,hP] at this; cases this
 obtain ⟨pm,ctv,sl,ho⟩:=h.obj
 refine ⟨⟨pm,ctv,sl,M.heap fa _ ne ho⟩,?_,?_⟩
 ·cases e:H1 fa with
  | none=>rfl
  | some o =>
   have h1:=M.fresh fa o h.none_ e
   exact absurd h1 (Nat.not_le.mpr (Heap.lt_size ho))
 ·obtain ⟨Q,nm,pos,ps,hm,hn,hQ,ht,hc⟩:=h.tab
  by_cases e:Q=P
  ·subst e
   obtain ⟨more,e2⟩:=M.grow _ _ hQ
   obtain ⟨qs,q1,q2,q3⟩:=M.tab
   rw [e2] at q1
   cases q1
   exact ⟨Q,nm,pos,_,hm,hn,e2,q2,by rw [Array.toList_append]; exact among_keep _ _ ht hc⟩
  ·exact ⟨Q,nm,pos,ps,hm,hn,M.ext _ _ e hQ,ht,hc⟩
inductive LamsOk (X:Cx)(Γ:Gm):List Expr→List LamSp→Prop
 | nil:LamsOk X Γ [] []
 | cons {params:Arguments} {body:Expr} {scope:Scope} {lpos:Pos} {lps fr:List Str} {z:LamSp} {es:List Expr} {zs:List LamSp}
  (Lo:LOk X.prog X.w X.K X.mg X.base z.lv (X.env.qual ++ "<lambda>") params body scope lps fr (spL Γ.G Γ.T z.n z.f))
  (hfree:∀ y∈scope.names,y.2=.free→X.env.scope.names.lookup y.1=some .cell∨X.env.scope.names.lookup y.1=some .free) (hfr:∀ y∈fr,(y,NameKind.free)∈scope.names) (hjs:z.js.map (fun j=>X.N[j]?)=fr.map some)
  (t:LamsOk X Γ es zs) (hdef:defaultsOf params X.env=([],[]):=by rfl) (hst:starEach (.Lambda params body scope lpos::es) X.env=(false,eval (.Lambda params body scope lpos) X.env)::starEach es X.env:=by rfl) :
  LamsOk X Γ (.Lambda params body scope lpos::es) (z::zs)
inductive LamsAt (X:Cx)(Γ:Gm)(s:Shared)(H:Hp):List Addr→List LamSp→Prop
 | nil:LamsAt X Γ s H [] []
 | cons {params:Arguments} {body:Expr} {scope:Scope} {c fa:Addr} {lps fr:List Str} {z:LamSp} {fas:List Addr} {zs:List LamSp}
  (h:LamHere Γ.T s H fa (lamF (X.env.qual ++ "<lambda>") params scope (cloFrom X.env.cells scope.names []) c) body) (Lo:LOk X.prog X.w X.K X.mg X.base z.lv (X.env.qual ++ "<lambda>") params body scope lps fr (spL Γ.G Γ.T z.n z.f))
  (cap:X.Ok→Caps X (cloFrom X.env.cells scope.names []) fr z.js) (t:LamsAt X Γ s H fas zs):LamsAt X Γ s H (fa::fas) (z::zs)
theorem LamsAt.len {X:Cx}{Γ:Gm}{s:Shared}{H:Hp}:∀ {fas:List Addr} {zs:List LamSp},LamsAt X Γ s H fas zs→fas.length=zs.length
 | _,_,.nil=>rfl
 | _,_,.cons _ _ _ t=>by simp [t.len]
section
variable {X:Cx}{Γ:Gm}{W:WX}{cd Pt:Addr}{nm:Nat→Nat→Str}
end
section
variable {X:Cx}{Γ:Gm}{W:WX}
structure FncFact (P:Program)(w:World)(K:PySem.W.Frag)(mg:Str→Option Value)(base:Heap)(G:Gx)(Θ:List NdefX.NTab)(x:Str)(n k:Nat)(ps:List Str)(cbs:CbL)(mm:CbFs→Fn):Prop where
 ex:∃ f fd,mg x=some (.ref f)∧PySem.W.keepIn K (.ref f)=true∧Binds K fd ps []∧FnC P w K mg base G Θ k f fd ps n cbs mm
end
section
variable {X:Cx}{Γ:Gm}{W:WX}{cd Pt:Addr}{nm:Nat→Nat→Str}{zs:List LamSp}{mm:CbFs→Fn}{n k:Nat}{mk:List Bool}{ps:List Str}{e e1:Expr}{es:List Expr}{m1 mo:M}{x m:Str}{pos p apos:Pos}{o:Expr}{c:Nat}
end
section
variable {G:Gx}{F H H':Hp}
theorem KdL.length {vs:List V}{ds:List D}{L:List Addr}(h:KdL G F H vs ds L):vs.length=ds.length:=by
 have key:∀ {vs:List V} {ds:List D} {L:List Addr},KdL G F H vs ds L→vs.length=ds.length:=by
  intro vs
  induction vs with
  | nil=>intro ds L h; cases h; rfl
  | cons v vs ih=>intro ds L h; cases h with | cons a t dj=>simp [ih t]
 exact key h
end
section
variable {X:Cx}{Γ:Gm}{W:WX}{name:Str}{p1 p2 p3 apos cpos:Pos}{t id:String}{r:V→List V→Hp→VK→Prop}{k:Expr}{mk:MP}
end
section
variable {X:Cx}{Γ:Gm}{W:WX}{elt tg iter:Expr}{ifs:List Expr}{scope:Scope}{own:List (Str×Nat)}{pos spos:Pos}{mi:MI}{g:TG}{f:Tg}{t:MB}{me:M}
end
section
variable {G:Gx}{F H:Hp}
theorem KdL.freeze:∀ {vs:List V} {ds:List D} {L:List Addr},KdL G F H vs ds L→(∀ b∈L,F b=none)→DpL G (frzH F H L) vs (strips ds)
 | _,_,_,.nil,_=>by simp only [strips]; exact .nil
 | _,_,_,.cons (L1:=L1) (L2:=L2) a t dj,n=>by
  simp only [strips]
  refine .cons ?_ ((KdL.freeze t fun b hb=>n b (List.mem_append_right _ hb)).mono (frzH_le n fun b hb=>List.mem_append_right _ hb))
  have n1:∀ b∈L1,F b=none:=fun b hb=>n b (List.mem_append_left _ hb)
  have le:=frzH_le (H:=H) n (L:=L1) fun b hb=>List.mem_append_left _ hb
  cases a with
  | fz h=>rw [h.strip]; exact h.mono (frzH_sub n)
  | ow h=>simp only [strip]; exact (h.freeze n1).mono le
end
section
variable {X:Cx}
end
section
variable {X:Cx}{Γ:Gm}{W:WX}{kx vx tg iter:Expr}{ifs:List Expr}{scope:Scope}{own:List (Str×Nat)}{pos spos:Pos}{mi:MI}{g:TG}{f:Tg}{t:MB}{mk mv:M}
theorem mDc_ok (hf:∀ D,TgV (Γ.also D) g f (own.map (·.2))):∀ σ H Q,tM Γ W (mDc (own.map (·.2)) mi f t mk mv) σ H Q→tDc (iM Γ W mi) g (tAB Γ t) (tAF Γ mk) (tAF Γ mv) (own.map (·.2)) σ H Q:=fun σ H Q ⟨ρ,F,R,p⟩=>by
 refine ⟨ρ,F,R,?_⟩
 unfold mDc at p
 cases e:mi ρ with
 | ok ds ρ1 =>
  rw [e] at p
  simp only [bindO] at p
  intro J F1 H1 s1 w
  split at p
  ·rename_i acc ρ2 el
   exact dc_ok (Qd:=fun D H'=>Q (.ref D) H') hf s1.rel w el fun D F' H' s2 c fr=>p _ F' H' (s1.trans s2) ⟨D,[D],rfl,.flat c,fr⟩
  ·exact p.elim
 | exc x ρ1=>rw [e] at p; exact p
 | stuck=>rw [e] at p; exact p.elim
theorem ps_setDc {i:Nat}{y:Str}{py:Pos}{wi:TI}{tt:TT}{tk tv:TE}(hc:X.calm=true)(hN:X.N.Nodup)(hy:X.N[i]?=some y)(hyl:X.env.scope.names.lookup y=some .local)
  (hsw:swapsWith (.DictComp kx vx [⟨tg,iter,ifs,0⟩] scope pos) (some (.Name y py)) spos.line X.env=pure true) (hi:PI X tg iter wi) (ok:BlkOk X.N X.env.scope scope own)
  (hg:∀ (s:Shared) (H:Hp) (C:Addr) (cl:List (Str×Addr)) (fp:List Addr),PG (X.blk s H scope (compEnvC scope cl C X.env) fp) tg g) (ht:∀ (s:Shared) (H:Hp) (C:Addr) (cl:List (Str×Addr)) (fp:List Addr),PTs (X.blk s H scope (compEnvC scope cl C X.env) fp) ifs tt)
  (hk:∀ (s:Shared) (H:Hp) (C:Addr) (cl:List (Str×Addr)) (fp:List Addr),PE (X.blk s H scope (compEnvC scope cl C X.env) fp) kx tk)
  (he:∀ (s:Shared) (H:Hp) (C:Addr) (cl:List (Str×Addr)) (fp:List Addr),PE (X.blk s H scope (compEnvC scope cl C X.env) fp) vx tv) (hs:∀ x,foldedSetIterable iter X.env x=pure x) :
  PS X (.Assign [.Name y py] (.DictComp kx vx [⟨tg,iter,ifs,0⟩] scope pos) spos) (tAsg (tDc wi g tt tk tv (own.map (·.2))) (gName i)):=by
 refine ⟨fun pins s σ H D I h=>?_⟩
 rw [exec_Assign_Name_used _ _ _ _ hsw]
 refine wpAny_bind (wpAny_standAt (wpAny_bind ?_))
 show wpAny _ X.A (do let _ ← comprehension (.DictComp kx vx [⟨tg,iter,ifs,0⟩] scope pos) scope X.env (firstIterPos [⟨tg,iter,ifs,0⟩] pos) newDict false (eval iter X.env) (some (assign (.Name y py) X.env))) _ _ s
 have h:tDc wi g tt tk tv (own.map (·.2)) σ H (fun x H1=>gName i x σ H1 D.nx):=h
 refine wpAny_bind (thn (dc_core (Qf:=fun _ s'=>SP X pins D .next s') hc hN I hi ok hg ht hk he hs h fun L C s' m H' I' q hn f=>?_) fun _ s' hq=>wpAny_pure (wpAny_pure hq))
 show wpAny _ _ (assign (.Name y py) X.env (.ref L)) _ _ _
 refine wpAny_assign_Name (store_ok2 (v:=V.ref L) I' hN hy (.inl hyl) rfl (fun s2 I2 ⟨a,sb,ha⟩=>?_) (.inr hyl))
 obtain ⟨f0,f1,f2,f3,f4,f5⟩:=f
 have haC:C≠a:=by
  rcases ha with z | z
  ·rw [z]; exact f1
  ·exact fun e=>f4 y a z e.symm
 refine ⟨m,hn.sameBut sb haC,fun h3 sb3=>?_⟩
 exact ⟨_,H',I2.turned (t':=s2.toks) (fun b o hb e=>(sb3.2 b hb).trans e) f0 f1 f3 f4 f5,q⟩
theorem swd_true {gs:List Comprehension}{py:Pos}{y:Str}{l:Nat}{env:Env}(hk:env.scope.kind=.function)(hy:env.scope.names.lookup y=some .local)(hl:(py.line==pos.line)=true)
  (ha:(scope.names.any fun (n,k)=>n==y&&(k==.local||k==.cell))=false):swapsWith (.DictComp kx vx gs scope pos) (some (.Name y py)) l env=pure true:=by
 have ky:env.kindOf y=some .local:=hy
 have hb:env.blockKind=.function:=by unfold Env.blockKind; rw [hk]; rfl
 unfold swapsWith
 simp only [hb,ky,ha,Expr.pos,hl]
 rfl
theorem js_setDc {i:Nat}{y:Str}{py:Pos}(hc:X.calm=true)(hN:X.N.Nodup)(hyl:X.env.scope.names.lookup y=some .local)
  (hsw:swapsWith (.DictComp kx vx [⟨tg,iter,ifs,0⟩] scope pos) (some (.Name y py)) spos.line X.env=pure true) (hi:PI X tg iter (iM Γ W mi)) (ok:BlkOk X.N X.env.scope scope own) (hf:∀ D,TgV (Γ.also D) g f (own.map (·.2)))
  (hg:∀ (s:Shared) (H:Hp) (C:Addr) (cl:List (Str×Addr)) (fp:List Addr),PG (X.blk s H scope (compEnvC scope cl C X.env) fp) tg g) (ht:∀ (D:Addr) (s:Shared) (H:Hp) (C:Addr) (cl:List (Str×Addr)) (fp:List Addr),PTs (X.blk s H scope (compEnvC scope cl C X.env) fp) ifs (tMB (Γ.also D) W0 t))
  (hk:∀ (D:Addr) (s:Shared) (H:Hp) (C:Addr) (cl:List (Str×Addr)) (fp:List Addr),PE (X.blk s H scope (compEnvC scope cl C X.env) fp) kx (tM (Γ.also D) W0 mk))
  (hv:∀ (D:Addr) (s:Shared) (H:Hp) (C:Addr) (cl:List (Str×Addr)) (fp:List Addr),PE (X.blk s H scope (compEnvC scope cl C X.env) fp) vx (tM (Γ.also D) W0 mv)) (hy:X.N[i]?=some y:=by rfl) (hs:∀ x,foldedSetIterable iter X.env x=pure x:=by intro _; rfl) :
  PS X (.Assign [.Name y py] (.DictComp kx vx [⟨tg,iter,ifs,0⟩] scope pos) spos) (tMS Γ W (mSet i (mDc (own.map (·.2)) mi f t mk mv))) :=
 (ps_setDc hc hN hy hyl hsw hi ok hg (fun s H C cl fp=>pts_any fun D=>ht D s H C cl fp) (fun s H C cl fp=>pe_any fun D=>hk D s H C cl fp) (fun s H C cl fp=>pe_any fun D=>hv D s H C cl fp) hs).imp fun D σ H ⟨ρ,F,R,p⟩=>mDc_ok hf σ H _ ⟨ρ,F,R,p.bindM fun r ρ1 v F1 H1 s1 hr p1=>set_go s1 hr p1⟩
end
section
variable {X:Cx}
end
def DnO (P:Program)(w:World)(D:Addr)(H:Hp)(kvs:List (NestedKey×Addr×V)):Prop:=(kvs=[]∧H D=some (.dK []))∨(kvs≠[]∧H D=some (dnO P w D kvs))
theorem DnO.okU {P:Program}{w:World}{D:Addr}{H:Hp}{kvs:List (NestedKey×Addr×V)}(h:DnO P w D H kvs):∃ o,H D=some o∧okU o:=by
 rcases h with ⟨_,h⟩ | ⟨_,h⟩
 ·exact ⟨_,h,okU_dK⟩
 ·exact ⟨_,h,okU_dn⟩
theorem DnO.at {P:Program}{w:World}{D:Addr}{H H':Hp}{kvs:List (NestedKey×Addr×V)}(h:DnO P w D H kvs)(e:H' D=H D):DnO P w D H' kvs:=by
 rcases h with ⟨a,b⟩ | ⟨a,b⟩
 ·exact .inl ⟨a,e.trans b⟩
 ·exact .inr ⟨a,e.trans b⟩
section
variable {X:Cx}{Γ:Gm}{W:WX}{kx vx tg iter:Expr}{ifs:List Expr}{scope:Scope}{own:List (Str×Nat)}{pos spos:Pos}{mi:MI}{g:TG}{f:Tg}{t:MB}{mk mv:M}
end
def degive:List Bool→List Arg→List Arg
 | [],as=>as
 | _,[]=>[]
 | true::gm,.o _::as=>.v .any::degive gm as
 | _::gm,a::as=>a::degive gm as
def spFG (gm:List Bool)(G:Gx)(T:List NdefX.NTab)(n:Nat)(f:Fn):Sp:=fun vs H Q E=>vs.length=n∧∃ F as L U,Same F H∧ARel G F H vs as L∧Off U F L∧Ali T U F H∧match f as with
 | .ret r os=>∀ v F' H' L',CStp T U F H F' H'→ORel G F' H' vs (degive gm as) os L'→Off U F' L'→RepRet G U L' F' H' v r→Q v H'
 | .exc x os=>∀ d F' H' L',CStp T U F H F' H'→ORel G F' H' vs (degive gm as) os L'→Off U F' L'→ExcRep G F' H' x d→E (ecV G x.c) d H'
 | .stuck=>False
theorem Rel.less {Γ:Gm}{ρ ρ':Rho}{σ:St}{F H:Hp}(R:Rel Γ ρ σ F H)(hl:ρ'.length=ρ.length)(hs:∀ (i:Nat) (s:Slot),ρ'[i]?=some (some s)→∃ s0:Slot,ρ[i]?=some (some s0)∧(s=s0∨∃ b d,s0=Slot.own b d∧s=Slot.own none d)):Rel Γ ρ' σ F H:=by
 have bk:∀ j c,OwnAt Γ ρ' σ F H j c→OwnAt Γ ρ σ F H j c:=by
  rintro j c ⟨s,v,L,h1,h2,h3,h4⟩
  obtain ⟨s0,q1,q2⟩:=hs j s h1
  obtain ⟨v0,L0,g1,g2⟩:=R.slot j s0 q1
  rw [g1] at h2; cases h2
  refine ⟨s0,_,L0,q1,g1,g2,?_⟩
  rcases q2 with rfl | ⟨b,d,rfl,rfl⟩
  ·rw [g2.uniq h3]; exact h4
  ·obtain ⟨a,e,ct,_⟩:=h3
   obtain ⟨a0,e0,ct0,_⟩:=g2
   rw [e] at e0; cases e0
   rw [ct0.uniq ct]; exact h4
 refine ⟨R.sub,fun j s q=>?_,fun j k c h1 h2=>R.inj j k c (bk j c h1) (bk k c h2),fun j c q=>R.own j c (bk j c q),by rw [hl]; exact R.len,R.inv,R.ali,R.tab⟩
 obtain ⟨s0,q1,q2⟩:=hs j s q
 obtain ⟨v0,L0,g1,g2⟩:=R.slot j s0 q1
 rcases q2 with rfl | ⟨b,d,rfl,rfl⟩
 ·exact ⟨v0,L0,g1,g2⟩
 ·obtain ⟨a0,e0,ct0,_⟩:=g2
  exact ⟨v0,L0,g1,a0,e0,ct0,fun k hk=>by cases hk⟩
theorem ARel.degive {G:Gx}{F H:Hp}:∀ {gm:List Bool} {vs:List V} {as:List Arg} {L:List Addr},ARel G F H vs as L→∃ L2,ARel G F H vs (PyD.degive gm as) L2∧∀ a∈L2,a∈L
 | [],_,_,L,h=>⟨L,by simpa [PyD.degive] using h,fun _ h=>h⟩
 | g::gm,_,_,_,.nil=>⟨[],by simpa [PyD.degive] using .nil,fun _ h=>h⟩
 | g::gm,_,_,_,.v d t=>by
  obtain ⟨L2,t2,s⟩:=t.degive (gm:=gm)
  refine ⟨L2,?_,s⟩
  cases g <;> exact .v d t2
 | true::gm,_,_,_,.o c dj t=>by
  obtain ⟨L2,t2,s⟩:=t.degive (gm:=gm)
  exact ⟨L2,.v any_dp t2,fun a h=>List.mem_append_right _ (s a h)⟩
 | false::gm,_,_,_,.o (L1:=L1) c dj t=>by
  obtain ⟨L2,t2,s⟩:=t.degive (gm:=gm)
  refine ⟨L1++L2,.o c (fun b hb h=>dj b hb (s b h)) t2,fun a h=>?_⟩
  rcases List.mem_append.mp h with z | z
  ·exact List.mem_append_left _ z
  ·exact List.mem_append_right _ (s a z)
structure FnFactG (gm:List Bool)(P:Program)(w:World)(K:PySem.W.Frag)(mg:Str→Option Value)(base:Heap)(G:Gx)(Θ:List NdefX.NTab)(x:Str)(n k:Nat)(ps:List Str)(g:Fn):Prop where
 ex:∃ f fd,mg x=some (.ref f)∧PySem.W.keepIn K (.ref f)=true∧Binds K fd ps []∧FnOkG P w K mg base k f fd ps (spFG gm G Θ n g)
section
variable {X:Cx}{Γ:Gm}{W:WX}{e:Expr}{ma:MA}{pos p:Pos}{es:List Expr}{x:Str}{k:Nat}{ps:List Str}{n:Nat}{g:Fn}{gm mk:List Bool}
end
section
variable {X:Cx}{pins:List (Addr×Obj)}{σ:St}{H:Hp}{s:Shared}{d:Addr}{o:Obj}
end
section
variable {X:Cx}{Γ:Gm}{W:WX}{a b e o i:Expr}{ma mb me mo mi:M}{pos pos' p1 p2 p3 apos cpos:Pos}
end
section
variable {X:Cx}{Γ:Gm}{W:WX}{m:MS}{s:Stmt}(i:Nat)
end
def isNoneP:PyData→Bool
 | .none=>true
 | _=>false
def ltB (x y:D):Option Bool:=match toPy x,toPy y with
 | some a,some b=>if PySem.W.alike a b&&!(isNoneP a)&&decide (min a.depth b.depth≤60) then some (PySem.W.dataLt a b) else none
 | _,_=>none
def ltA0 (x y:D):Option Res:=(ltB x y).map fun b=>.val (.bl b)
def rLtA (K:PySem.W.Frag):R2:=fun x y H Q=>∃ d e,L2.Dp K H x d∧L2.Dp K H y e∧PySem.W.alike d e=true∧d≠.none∧min d.depth e.depth≤60∧Q (.bl (PySem.W.dataLt d e)) H
theorem op_ltA {X:Cx}(hu:X.A.units+64<cLine):OpR X (compareOp .Lt) (rLtA X.K):=by
 intro pins s σ H x y v u Q I rx ry h
 obtain ⟨d,e,hd,he,al,nn,dp,q⟩:=h
 obtain ⟨as,r1⟩:=L2.Dp.reads I d x v hd rx
 obtain ⟨bs,r2⟩:=L2.Dp.reads I e y u he ry
 have R:=PySem.W.rcLt_alike d e X.A s v u as bs r1 r2 al nn (by omega)
 exact R X.prog X.w X.xe _ ⟨.bl _,H,I,rfl,q⟩
theorem ltB_some {x y:D}{b:Bool}(h:ltB x y=some b):∃ p p',toPy x=some p∧toPy y=some p'∧PySem.W.alike p p'=true∧p≠.none∧min p.depth p'.depth≤60∧b=PySem.W.dataLt p p':=by
 unfold ltB at h
 split at h
 ·rename_i p p' e1 e2
  split at h
  ·rename_i c
   cases h
   simp only [Bool.and_eq_true,Bool.not_eq_true',decide_eq_true_eq] at c
   obtain ⟨⟨c1,c2⟩,c3⟩:=c
   exact ⟨p,p',e1,e2,c1,(fun z=>by subst z; cases c2),c3,rfl⟩
  ·cases h
 ·cases h
theorem ltA0_ok {G:Gx}:BinOk G (rLtA G.K) ltA0:=by
 intro F H x y dx dy res Q e vx vy q k
 simp only [ltA0,Option.map_eq_some_iff] at q
 obtain ⟨b,h,rfl⟩:=q
 obtain ⟨p,p',e1,e2,s1,s2,s3,rfl⟩:=ltB_some h
 exact ⟨p,p',vx.py e e1,vy.py e e2,s1,s2,s3,k _ F H (.refl e) (.bl _)⟩
def divW (_ j:Int):Bool:=decide (0<j)&&decide (j.natAbs.log2<9000)
def fdivW:D→D→Option Res:=fII divW fun i j=>.int (i / j)
theorem fdivW_ok {G:Gx}:BinOk G (rI CDivW fun i j=>.int (i / j)) fdivW:=bin_II (fun i j h=>⟨of_decide_eq_true (Bool.and_eq_true_iff.mp h).1,of_decide_eq_true (Bool.and_eq_true_iff.mp h).2⟩) fun _ _ _=>.int _
@[simp] theorem x_fdivW {i j:Int}:fdivW (.int i) (.int j)=if divW i j then some (.val (.int (i / j))) else none:=rfl
def ZSt (k1 k2:Bool)(z TI TO i1 i2 a b S:Addr)(xs ys:Array Value)(i:Nat)(h:Heap):Prop :=
 i≤min xs.size ys.size∧IsTupOf2 h TI (.ref i1) (.ref i2)∧(itB k1 h i1 a i∧seB k1 h a xs)∧(itB k2 h i2 b i∧seB k2 h b ys) ∧
  ((IsZip h z TI TO .none∧∃ u v,IsTupOf2 h TO u v)∨∃ T f oT,IsZipHeld h z TI TO T f∧h.get? T=some oT∧T≠z∧T≠i1∧T≠i2∧T≠S)
def Hld (z TO i1 i2 S:Addr)(xs ys:Array Value)(h:Heap)(acc:Array Value)(N i:Nat):Prop :=
 acc.size=i∧∃ p:Nat→Nat,(∀ j,j<i→N≤p j∧p j<h.objs.size)∧(∀ j k,j<k→k<i→p j<p k) ∧
  ∀ j v,acc[j]?=some v→∃ x y,v=.ref (p j)∧xs[j]?=some x∧ys[j]?=some y∧IsTupOf2 h (p j) x y
section
variable {prog:Program}{w:World}{A:Around}{z TI TO i1 i2 a b S:Addr}{k1 k2:Bool}{xs ys:Array Value}
theorem ZSt.frame (Z:ZipSep2 z TI TO i1 i2 [i1,a] [i2,b])(n1:a≠i1)(n2:b≠i2)(hS:S∉[z,TI,TO,i1,i2,a,b]){i:Nat}{h₁ h₂:Heap}(st:ZSt k1 k2 z TI TO i1 i2 a b S xs ys i h₁)(hk:∀ c o,c≠S→h₁.get? c=some o→h₂.get? c=some o):ZSt k1 k2 z TI TO i1 i2 a b S xs ys i h₂:=by
 simp only [List.mem_cons,List.not_mem_nil,or_false,not_or] at hS
 obtain ⟨dz,dTI,dTO,di1,di2,dl1,dl2⟩:=hS
 obtain ⟨hN,hTI,s1,s2,hz⟩:=st
 have sb:∀ (k:Bool) (a:Addr) (xs:Array Value),seB k h₁ a xs→a≠S→seB k h₂ a xs:=fun k a xs q e=>by
  cases k
  ·exact Heap.IsTuple.at q fun o e'=>hk _ o e e'
  ·exact Heap.IsList.at q fun o e'=>hk _ o e e'
 refine ⟨hN,hk _ _ (Ne.symm dTI) hTI,⟨s1.1.at fun o e=>hk _ o (Ne.symm di1) e,sb _ _ _ s1.2 (Ne.symm dl1)⟩,⟨s2.1.at fun o e=>hk _ o (Ne.symm di2) e,sb _ _ _ s2.2 (Ne.symm dl2)⟩,?_⟩
 ·rcases hz with ⟨hz,u,v,hTO⟩ | ⟨T,f,oT,hz,hT,r1,r2,r3,r4⟩
  ·exact .inl ⟨hk _ _ (Ne.symm dz) hz,u,v,hk _ _ (Ne.symm dTO) hTO⟩
  ·exact .inr ⟨T,f,oT,hk _ _ (Ne.symm dz) hz,hk _ _ r4 hT,r1,r2,r3,r4⟩
theorem Hld.at {h h':Heap}{acc:Array Value}{N i:Nat}(H:Hld z TO i1 i2 S xs ys h acc N i)(hs:h.objs.size≤h'.objs.size)(hk:∀ c o,N≤c→h.get? c=some o→h'.get? c=some o):Hld z TO i1 i2 S xs ys h' acc N i:=by
 obtain ⟨e,p,p1,p2,p3⟩:=H
 refine ⟨e,p,fun j hj=>⟨(p1 j hj).1,by have:=(p1 j hj).2; omega⟩,p2,fun j v hv=>?_⟩
 obtain ⟨x,y,e1,e2,e3,e4⟩:=p3 j v hv
 have hj:j<i:=by rw [← e]; exact (Array.getElem?_eq_some_iff.mp hv).1
 exact ⟨x,y,e1,e2,e3,hk _ _ (p1 j hj).1 e4⟩
end
section
variable {X:Cx}{Γ:Gm}{W:WX}{ma:MA}{a b:Expr}{p p2 pos pos2:Pos}
end
section
variable {X:Cx}{Γ:Gm}{W:WX}{o e:Expr}{es:List Expr}{mo:M}{ma:MA}{apos cpos:Pos}
end
theorem kitS {P:Program}{w:World}{K:PySem.W.Frag}{mg:Str→Option Value}{base:Heap}{N ps:List Str}{qual:Str}{scope:Scope}{f:Addr}{cdv:Value}{A:Around}{outer:List Env}{s:Shared}{H:Hp}{E:XK}{k:Nat}{body:List Stmt}{t:TS}
  (hr:RG k (A.deeper (envOfC qual scope s.heap.objs.size f cdv))) (S:FnScope N ps scope)
  (h:N.Nodup→(A.deeper (envOfC qual scope s.heap.objs.size f cdv)).units+1<cLine→(A.deeper (envOfC qual scope s.heap.objs.size f cdv)).units+64<cLine→(A.deeper (envOfC qual scope s.heap.objs.size f cdv)).units+65<cLine→(A.deeper (envOfC qual scope s.heap.objs.size f cdv)).units+190<cLine→(A.deeper (envOfC qual scope s.heap.objs.size f cdv)).guards=some [] →
   Takes (cxOf (L2.CX P w) P w K mg base N qual scope f cdv A outer s H E) (fun cls d _ H'=>E cls d H')→PassesOwn (model P w) (A.deeper (envOfC qual scope s.heap.objs.size f cdv)) (envOfC qual scope s.heap.objs.size f cdv) (cxOf (L2.CX P w) P w K mg base N qual scope f cdv A outer s H E).xe →
   PSs (cxOf (L2.CX P w) P w K mg base N qual scope f cdv A outer s H E) body t):PSs (cxOf (L2.CX P w) P w K mg base N qual scope f cdv A outer s H E) body t :=
 h S.nd (hu1 hr) (hu64 hr) (hu65 hr) (hu190 hr) hr.gd (takes_of rfl rfl rfl rfl) (passes_of (X:=cxOf (L2.CX P w) P w K mg base N qual scope f cdv A outer s H E) rfl)
section
variable {X:Cx}{Γ:Gm}{W:WX}{pos pos':Pos}{m:M}{e:Expr}{x:Str}
theorem pgN (i:Nat)(hN:X.N.Nodup)(hi:X.N[i]?=some x:=by rfl)(hx:Loc X.env.scope x:=by first | exact Or.inl rfl | exact Or.inr rfl)(hf:X.fn x=true∨X.env.scope.names.lookup x=some .local:=by first | exact .inl rfl | exact .inr rfl | assumption):PG X (.Name x pos) (gName i):=pg_name hN hi hx hf
theorem jsN (i:Nat)(hN:X.N.Nodup)(he:PE X e (tM Γ W m))(hx:Loc X.env.scope x:=by first | exact Or.inl rfl | exact Or.inr rfl)(hi:X.N[i]?=some x:=by rfl)(hs:swapsWith e (some (.Name x pos')) pos.line X.env=pure false:=by rfl)
  (hf:X.fn x=true∨X.env.scope.names.lookup x=some .local:=by first | exact .inl rfl | exact .inr rfl | assumption) :
  PS X (.Assign [.Name x pos'] e pos) (tMS Γ W (mSet i m)):=js_set hN hx he hi hs hf
end
section
variable {X:Cx}{Γ:Gm}{W:WX}{name:Str}{p1 p2 apos cpos:Pos}{t id:String}{r:V→List V→Hp→VK→Prop}{k e:Expr}{me:M}{mv:MP}
end
section
variable {X:Cx}{Γ:Gm}{W:WX}{p p2 pos:Pos}
end
section
variable {prog:Program}{w:World}{A:Around}{R:Result→Shared→Prop}{s:Shared}{elt t0 i0 t1 i1 t2 i2:Expr}{ifs0 ifs1 ifs2:List Expr}{scope:Scope}{pos:Pos}{it acc:Value}{env:Env}
end
section
variable {X:Cx}{elt tg iter tg1 iter1 tg2 iter2:Expr}{ifs ifs1 ifs2:List Expr}{scope:Scope}{own:List (Str×Nat)}{vs1 vs2:List Nat}{pos pos':Pos}{wi wi1 wi2:TI}{g g1 g2:TG}{tt tt1 tt2:TT}{te:TE}
end
section
variable {X:Cx}{Γ:Gm}{W:WX}{elt tg iter tg1 iter1 tg2 iter2:Expr}{ifs ifs1 ifs2:List Expr}{scope:Scope}{own:List (Str×Nat)}{vs1 vs2:List Nat}{pos:Pos}{mi mi1 mi2:MI}{g g1 g2:TG}{f f1 f2:Tg}{t t1 t2:MB}{me:M}
end
end PyD
namespace PyD
open PySem PySem.Spec PyProof.Rows L2 PpSet
section
variable {prog:Program}{w:World}{A:Around}{R:Result→Shared→Prop}{I:Addr}{fp wr:List Addr}{G:Array GenState→Array GenState→Prop}{n:Nat}{P:Nat→Value→Prop}{St:Nat→Shared→Prop}
end
section
variable {prog:Program}{w:World}{A:Around}{E:Value→Shared→Prop}{s:Shared}
end
section
variable {X:Cx}
end
section
variable {X:Cx}{Γ:Gm}{W:WX}{a:Expr}{ma:M}{p p2 q pos:Pos}
end
section
variable {X:Cx}{Γ:Gm}{W:WX}
def opDisp (E:Nat→Option Fn)(o o2:Option D)(a b:Res)(ρ:Rho):Out Res:=match o with
 | some (.obj c _)=>(match o2 with
  | some (.obj c2 _)=>if c2=c then ixCall E c a b ρ else .stuck
  | _=>.stuck)
 | _=>.stuck
def mOpO (E:Nat→Option Fn)(ma mb:M):M:=fun ρ=>bindF (ma ρ) fun a ρ1=>bindF (mb ρ1) fun b ρ2=>opDisp E (resolve ρ2 a) (resolve ρ2 b) a b ρ2
def SfTab (K:PySem.W.Frag)(G:Gx)(E:Nat→Option Fn):Prop:=∀ c f,E c=some f→PySem.W.selfFirst K (G.cl c)=true
theorem je_opO {op:Operator}{m:Str}{E:Nat→Option Fn}{k:Nat}{a b:Expr}{ma mb:M}{pos:Pos}(tk:Takes X W)(hm:PySem.dunder op.info.2=m)(hE:SpTab X.prog X.w X.K X.mg X.base Γ.G Γ.T m 2 k E)(hS:SfTab X.K Γ.G E)(hr:RG k X.A)(ha:PE X a (tM Γ W ma))(hb:PE X b (tM Γ W mb)):PE X (.BinOp a op b pos) (tM Γ W (mOpO E ma mb)):=by
 refine ⟨fun pins s σ H Q I ⟨ρ,F,R,h⟩=>?_⟩
 refine wpAny_BinOp (binT (R:=fun x y H2=>∃ ρ2 F2 ra rb,Rel Γ ρ2 σ F2 H2∧RepF Γ.G σ F2 x ra∧RepF Γ.G σ F2 y rb∧Post Γ W (opDisp E (resolve ρ2 ra) (resolve ρ2 rb) ra rb ρ2) ρ2 σ F2 H2 Q) (je_f ha) (je_f hb) I ⟨ρ,F,R,h.bindF fun ra ρ1 x F1 H1 s1 ha1 p1=>⟨ρ1,F1,s1.rel,p1.bindF fun rb ρ2 y F2 H2 s2 hb1 p2=>⟨ρ2,F2,ra,rb,s2.rel,ha1.mono s2.subF,hb1,p2⟩⟩⟩ fun v u s2 x y H2 I2 rx ry q=>?_)
 obtain ⟨ρ2,F2,ra,rb,R2,hra,hrb,p⟩:=q
 unfold opDisp at p
 split at p
 ·rename_i c fs er
  split at p
  ·rename_i c2 fs2 er2
   split at p
   ·rename_i ec
    subst ec
    unfold ixCall at p
    split at p
    ·rename_i f ef
     obtain ⟨g,fd,ps,e1,e2,e3,hbd,Fo⟩:=(hE _ f ef).ex
     obtain ⟨o,dx,vs,rfl,h1,_⟩:=(hra.view R2 er).obj R2.sub
     obtain ⟨o2,dx2,vs2,rfl,h2,_⟩:=(hrb.view R2 er2).obj R2.sub
     cases rx
     cases ry
     obtain ⟨mA,J,_⟩:=ins_get I2.hok h1
     obtain ⟨od,J,_⟩:=J.look
     obtain ⟨mA2,J2,_⟩:=ins_get I2.hok h2
     obtain ⟨od2,J2,_⟩:=J2.look
     obtain ⟨m',fr⟩:=I2.fr
     refine PySem.W.binop_K fr I2.ok.mod.kin J J2.type (hS _ f ef) (by rw [hm]; exact e1) e2 ?_
     refine wpAny_mono (run_sub (dvs:=[]) (E:=fun cls d H'=>W cls d σ H') Fo ⟨hr,rfl⟩ hbd .nil (passAt tk σ) I2 (vs:=[.ref o,.ref o2]) (us:=[.ref o,.ref o2]) (.cons rfl (.cons rfl .nil)) (callR_ok R2 (.cons hra (.cons hrb .nil)) rfl p)) (fun v s' z=>?_) fun _ _ z=>z
     obtain ⟨z,H',I',rz,qz⟩:=z
     have hv:EP X pins σ Q v s':=⟨z,H',I',rz,qz⟩
     cases v <;> first | exact hv | (exfalso; cases z <;> first | (cases rz; done) | (obtain ⟨t,q⟩:=rz; cases q; done))
    ·exact p.elim
   ·exact p.elim
  ·exact p.elim
 ·exact p.elim
theorem callWith_oE {M:Model}{A:Around}{E:Value→Shared→Prop}{s:Shared}{K:PySem.W.Frag}{pos:Pos}{x:Addr}{first:List Value}{Q:Value→Shared→Prop}{args:List (Bool×Sem Value)}{keywords:List (Option Str×Sem Value)}(hplain:(args.any (·.1)||keywords.any (·.1.isNone))=false)
  (h:wpAny M A (evalArgs (.ref x) true args keywords) (fun a s₁=>(∃ C ox od,ox.data=.plain∧PySem.W.kco_P K x C ox od s₁.heap)∧wpAny M A (call (.ref x) (first++a.pos) a.kw) Q E s₁) E s):wpAny M A (callWith pos (.ref x) first args keywords) Q E s:=by
 unfold callWith
 refine wpAny_bind (wpAny_holding (wpAny_mono h (fun a s₁ h₁=>wpAny_bind (wpAny_standAt ?_)) fun _ _ y=>y))
 obtain ⟨⟨C,ox,od,hd,hP⟩,h2⟩:=h₁
 have L:=PySem.W.kco_keeper (M:=M) hP.2 hd
 simp only [hplain]
 refine wpAny_bind (L.here ?_)
 have tail:∀ {t:Sem Value},wpAny M A t Q E s₁→wpAny M A (t >>= fun r=>holding [r] point >>= fun _=>pure r) Q E s₁ :=
  fun ht=>wpAny_bind (wpAny_mono ht (fun r s₂ hr=>wpAny_bind (wpAny_holding (wpAny_point (wpAny_pure hr)))) fun _ _ y=>y)
 exact tail (wpAny_operateT h2)
def coCall (E:Nat→Option Fn)(n:Nat)(o:Option D)(a:Res)(rs:List Res)(ρ:Rho):Out Res:=match o with
 | some (.obj c _)=>(match E c with
  | some f=>if (a::rs).length=n then callR [] f (a::rs) ρ else .stuck
  | none=>.stuck)
 | _=>.stuck
def isObj:Option D→Bool
 | some (.obj _ _)=>true
 | _=>false
def mCallO (E:Nat→Option Fn)(n:Nat)(mo:M)(ma:MA):M:=fun ρ=>bindF (mo ρ) fun a ρ1=>if isObj (resolve ρ1 a)=true then bindO (ma ρ1) fun rs ρ2=>coCall E n (resolve ρ2 a) a rs ρ2 else .stuck
theorem je_callO {E:Nat→Option Fn}{n k:Nat}{x:Str}{p pos:Pos}{e:Expr}{es:List Expr}{mo:M}{ma:MA}(tk:Takes X W)(hE:SpTab X.prog X.w X.K X.mg X.base Γ.G Γ.T "__call__" n k E)(hr:RG k X.A)(he:PE X (.Name x p) (tM Γ W mo))(ha:PA X (e::es) (tMA Γ W ma))
  (hst:starEach (e::es) X.env=(false,eval e X.env)::starEach es X.env:=by rfl) (hpl:(backTo pos (starEach es X.env)).any (·.1)=false:=by rfl):PE X (.Call (.Name x p) (e::es) [] pos) (tM Γ W (mCallO E n mo ma)):=by
 refine ⟨fun pins s σ H Q I ⟨ρ,F,R,h⟩=>?_⟩
 refine wpAny_Call_Name_kw (thn ((je_f he).run pins s σ H (fun v H1=>∃ o ra,v=.ref o∧tMA Γ W ma σ H1 fun vs H2=>∃ ρ2 F2 rs,Rel Γ ρ2 σ F2 H2∧RepF Γ.G σ F2 (.ref o) ra∧RepFs Γ.G σ F2 vs rs∧Post Γ W (coCall E n (resolve ρ2 ra) ra rs ρ2) ρ2 σ F2 H2 Q) I ⟨ρ,F,R,h.bindF fun r ρ1 v F1 H1 s1 hr1 p1=>?_⟩) fun u s1 ⟨v,H1,I1,rv,o,ra,ev,q⟩=>?_)
 ·split at p1
  ·rename_i w
   unfold isObj at w
   split at w
   ·rename_i c fs er
    obtain ⟨o,dx,vs,rfl,h1,_⟩:=(hr1.view s1.rel er).obj s1.rel.sub
    exact ⟨o,r,rfl,ρ1,F1,s1.rel,p1.bindA fun rs ρ2 vs F2 H2 s2 hr2 p2=>⟨ρ2,F2,rs,s2.rel,hr1.mono s2.subF,hr2,p2⟩⟩
   ·cases w
  ·exact p1.elim
 ·subst ev
  obtain rfl:u=Value.ref o:=rv
  have key:∀ (us:List Value) (s2:Shared) (vs:List V) (H2:Hp),Inv X pins σ H2 s2→Vals vs us→(∃ ρ2 F2 rs,Rel Γ ρ2 σ F2 H2∧RepF Γ.G σ F2 (.ref o) ra∧RepFs Γ.G σ F2 vs rs∧Post Γ W (coCall E n (resolve ρ2 ra) ra rs ρ2) ρ2 σ F2 H2 Q)→∃ C ox od,ox.data=.plain∧PySem.W.kco_P X.K o C ox od s2.heap∧wpAny (model X.prog X.w) X.A (call (.ref o) ([]++us)) (EP X pins σ Q) X.xe s2:=by
   intro us s2 vs H2 I2 rv2 ⟨ρ2,F2,rs,R2,hra,hrs,p2⟩
   unfold coCall at p2
   split at p2
   ·rename_i c fs er
    split at p2
    ·rename_i f ef
     split at p2
     ·rename_i hn
      obtain ⟨g,fd,ps,e1,e2,e3,hbd,Fo⟩:=(hE _ f ef).ex
      obtain ⟨o',dx,vs',eo,h1,_⟩:=(hra.view R2 er).obj R2.sub
      cases eo
      obtain ⟨mA,J,hd⟩:=ins_get I2.hok h1
      obtain ⟨od,J,_⟩:=J.look
      refine ⟨Γ.G.cl c,_,od,?_,⟨I2.kIn,J⟩,?_⟩
      ·first | exact hd | exact J.plain | rfl
      ·rw [List.nil_append]
       refine wpAny_call (PySem.W.kco_code I2.kIn J (by first | exact hd | exact J.plain | rfl) e1 e2 e3 ?_)
       have hl:(V.ref o::vs).length=n:=by rw [← hn]; simp [hrs.len]
       have hsp:=callR_ok (mk:=[]) R2 (.cons hra hrs) hl p2
       have rv3:Vals (V.ref o::vs) (Value.ref o::us):=.cons rfl rv2
       have hps:=Fo.len _ _ _ _ hsp
       have bt:=hbd s2 (Value.ref o::us) I2.kIn (by rw [List.append_nil,← rv3.length]; exact hps)
       rw [List.append_nil] at bt
       refine codeAny_mono (Fo.run X.A X.stack s2 H2 ⟨Value.ref o::us,[]⟩ _ _ _ _ hr I2.env0 bt rv3 hsp) fun r s' hq=>?_
       cases r with
       | error e=>exact passAt tk σ pins H2 s2 e s' I2 hq
       | ok fl=>cases fl with
        | ret w=>exact I2.after hq
        | _=>exact (show False from hq).elim
     ·exact p2.elim
    ·exact p2.elim
   ·exact p2.elim
  refine callWith_oE (K:=X.K) (by rw [hst]; show ((false||(backTo pos (starEach es X.env)).any (·.1))||false)=false; rw [hpl]; rfl) ?_
  rw [hst]
  refine Calls.evalArgs_plain ?_
  have sp:=ha.run pos pins s1 σ H1 _ I1 q
  rw [hst] at sp
  refine wpAny_mono sp (fun us s2 ⟨vs,H2,I2,rv2,q2⟩=>?_) fun _ _ z=>z
  obtain ⟨C,ox,od,k1,k2,k3⟩:=key us s2 vs H2 I2 rv2 q2
  exact ⟨⟨C,ox,od,k1,k2⟩,k3⟩
end
theorem sftab_nil {K:PySem.W.Frag}{G:Gx}:SfTab K G (lookF []):=fun c f h=>by cases h
theorem sftab_cons {K:PySem.W.Frag}{G:Gx}{c:Nat}{f:Fn}{l:List (Nat×Fn)}(h2:PySem.W.selfFirst K (G.cl c)=true)(t:SfTab K G (lookF l)):SfTab K G (lookF ((c,f)::l)):=fun c' f' h=>by
 simp only [lookF] at h
 split at h
 ·rename_i e; subst e; exact h2
 ·exact t c' f' h
@[simp] theorem x_mOpO {E:Nat→Option Fn}{ma mb:M}{ρ:Rho}:mOpO E ma mb ρ=bindF (ma ρ) fun a ρ1=>bindF (mb ρ1) fun b ρ2=>opDisp E (resolve ρ2 a) (resolve ρ2 b) a b ρ2:=rfl
@[simp] theorem x_mCallO {E:Nat→Option Fn}{n:Nat}{mo:M}{ma:MA}{ρ:Rho}:mCallO E n mo ma ρ=bindF (mo ρ) fun a ρ1=>if isObj (resolve ρ1 a)=true then bindO (ma ρ1) fun rs ρ2=>coCall E n (resolve ρ2 a) a rs ρ2 else .stuck:=rfl
end PyD
namespace Lw
open PySem PySem.Spec PyProof.Rows L2 PyD
abbrev C_Form:Nat:=0
abbrev C_BadPart:Nat:=2
abbrev C_BadForm:Nat:=3
abbrev C_BadLimits:Nat:=4
abbrev C_TooMany:Nat:=5
def b_Form___len__:MS:=(mRet (mCB lenD (mCons (mUn (fldD T s!"terms") (mVar 0)) mNil)))
def f_Form___len__:Fn:=mkFn 0 b_Form___len__
def LN_Form:Nat→Option Fn:=lookF [(C_Form,f_Form___len__)]
@[simp] theorem LN_Form_of_Form:LN_Form C_Form=some f_Form___len__:=rfl
def b__law_pool:MS:=(mSeq (mSet 2 (mIf (mBinB ltD (mVar 1) (mCB (orC lenD (lenOD LN_Form)) (mCons (mVar 0) mNil))) (mBin ixD (mVar 0) (mVar 1)) (mBin addD (mBin mulD (mC (.int 7)) (mCB sumD (mCons (mSl (mVar 0) none (some (mC (.int 63)))) mNil))) (mVar 1)))) (mSeq (mSet 3 (mCB absD (mCons (mVar 2) mNil))) (mSeq (mSet 4 (mBin addD (mBin addD (mBin addD (mBin modD (mCB intD (mCons (mVar 3) mNil)) (mC (.int 2147483629))) (mBin mulD (mBin mulD (mC (.int 7919)) (mVar 1)) (mVar 1))) (mBin mulD (mC (.int 31)) (mVar 1))) (mC (.int 17)))) (mSeq (mSet 4 (mBin modD (mCB intD (mCons (mBin mulD (mVar 4) (mC (.int 48271))) mNil)) (mC (.int 2147483647)))) (mRet (mCS lstD (mCons (mBin mulD (mVar 3) (mCB intD (mCons (mBin geD (mVar 3) (mBin powD (mC (.int 10)) (mC (.int 18)))) mNil))) (mCons (mBin modD (mCB intD (mCons (mBin mulD (mVar 4) (mVar 4)) mNil)) (mC (.int 2147483629))) mNil))))))))
def f__law_pool:Fn:=mkFn 3 b__law_pool
def b__law_draw:MS:=(mSeq (mIfS (mBinB gtD (mBin ixD (mVar 0) (mC (.int 0))) (mC (.int 0))) (mSeq (mSet 2 (mBin modD (mCB intD (mCons (mBin ixD (mVar 0) (mC (.int 0))) mNil)) (mVar 1))) (mSeq (mStore (mVar 0) (mC (.int 0)) (mBin fdivW (mBin ixD (mVar 0) (mC (.int 0))) (mVar 1))) (mRet (mVar 2)))) mNext) (mSeq (mStore (mVar 0) (mC (.int 1)) (mBin modD (mCB intD (mCons (mBin addD (mBin mulD (mBin ixD (mVar 0) (mC (.int 1))) (mC (.int 48271))) (mC (.int 11))) mNil)) (mC (.int 2147483647)))) (mRet (mBin modD (mCB intD (mCons (mBin fdivW (mBin modD (mCB intD (mCons (mBin mulD (mBin ixD (mVar 0) (mC (.int 1))) (mBin ixD (mVar 0) (mC (.int 1)))) mNil)) (mC (.int 2147483629))) (mC (.int 16))) mNil)) (mVar 1)))))
def f__law_draw:Fn:=mkFn 1 b__law_draw
def b__law_term:MS:=(mRet (mCS tupD (mCons (mCB tupleD (mCons (mLc [2] (iRange (mCons (mVar 1) mNil)) (gN 2) mYes (mCall 2 [true,false] f__law_draw (mCons (mVar 0) (mCons (mC (.int 4)) mNil)))) mNil)) (mCons (mCall 2 [true,false] f__law_draw (mCons (mVar 0) (mCons (mC (.int 6)) mNil))) mNil))))
def f__law_term:Fn:=mkFn 1 b__law_term
def b__law_terms:MS:=(mRet (mLc [2] (iRange (mCons (mCall 2 [true,false] f__law_draw (mCons (mVar 0) (mCons (mC (.int 5)) mNil))) mNil)) (gN 2) mYes (mCall 2 [true,false] f__law_term (mCons (mVar 0) (mCons (mVar 1) mNil)))))
def f__law_terms:Fn:=mkFn 1 b__law_terms
def b_is_integer:MS:=(mRet (mAndV (mCB (isiD' T) (mCons (mVar 0) (mCons (mC (.ty "int")) mNil))) (mNotV (mCB (isiD' T) (mCons (mVar 0) (mCons (mC (.ty "bool")) mNil))))))
def f_is_integer:Fn:=mkFn 0 b_is_integer
def b_unit:MS:=(mRet (mCB tupleD (mCons (mLc [2] (iRange (mCons (mVar 0) mNil)) (gN 2) mYes (mCB intD (mCons (mBin eqD (mVar 2) (mVar 1)) mNil))) mNil)))
def f_unit:Fn:=mkFn 1 b_unit
def b_common_divisor_W1:MS:=(mPar [3,4] (mConsN (mVar 4) (mConsN (mBin modD (mCB intD (mCons (mVar 3) mNil)) (mCB intD (mCons (mVar 4) mNil))) mNil)))
def b_common_divisor_L2:MS:=(mSeq (mPar [3,4] (mConsN (mVar 1) (mConsN (mCB absD (mCons (mVar 2) mNil)) mNil))) (mSeq (whileD (mBinB neD (mVar 4) (mC (.int 0))) b_common_divisor_W1 1000000) (mSet 1 (mVar 3))))
def b_common_divisor:MS:=(mSeq (mSet 1 (mC (.int 0))) (mSeq (mFor (iSeq (mVar 0)) (gN 2) b_common_divisor_L2) (mRet (mIf (mBinB gtD (mVar 1) (mC (.int 0))) (mVar 1) (mC (.int 1))))))
def f_common_divisor:Fn:=mkFn 4 b_common_divisor
def b_shortened:MS:=(mSeq (mSet 1 (mCall 1 [false] f_common_divisor (mCons (mVar 0) mNil))) (mRet (mCB tupleD (mCons (mLc [2] (iSeq (mVar 0)) (gN 2) mYes (mBin fdivD (mVar 2) (mVar 1))) mNil))))
def f_shortened:Fn:=mkFn 2 b_shortened
def b_less:MS:=(mRet (mLc [2,3] (iZip2 (mCons (mVar 0) (mCons (mVar 1) mNil))) (gT 2 (gsCons (gN 2) (gsCons (gN 3) gsNil))) mYes (mBin subD (mVar 2) (mVar 3))))
def f_less:Fn:=mkFn 2 b_less
def b_joined_row:MS:=(mSeq (mPar [5,6] (mConsN (mUn negD (mBin ixD (mBin ixD (mVar 1) (mC (.int 0))) (mVar 2))) (mConsN (mBin ixD (mBin ixD (mVar 0) (mC (.int 0))) (mVar 2)) mNil))) (mSeq (mSet 3 (mLc [7,8] (iZip2 (mCons (mBin ixD (mVar 0) (mC (.int 0))) (mCons (mBin ixD (mVar 1) (mC (.int 0))) mNil))) (gT 2 (gsCons (gN 7) (gsCons (gN 8) gsNil))) mYes (mBin addD (mBin mulD (mVar 7) (mVar 5)) (mBin mulD (mVar 8) (mVar 6))))) (mSeq (mSet 4 (mCS lstD (mStar (mBin ixD (mVar 0) (mC (.int 2))) (mStar (mLc [9] (iSeq (mBin ixD (mVar 1) (mC (.int 2)))) (gN 9) (mBinB (inD true) (mVar 9) (mBin ixD (mVar 0) (mC (.int 2)))) (mVar 9)) mNil)))) (mRet (mCS tupD (mCons (mCall 1 [false] f_shortened (mCons (mVar 3) mNil)) (mCons (mOrV (mBin ixD (mVar 0) (mC (.int 1))) (mBin ixD (mVar 1) (mC (.int 1)))) (mCons (mCB tupleD (mCons (mCB sortedID (mCons (mLc [9] (iSeq (mVar 4)) (gN 9) mYes (mCB intD (mCons (mVar 9) mNil))) mNil)) mNil)) mNil))))))))
def f_joined_row:Fn:=mkFn 7 b_joined_row
def b_Form_check:MS:=(mIfS (mOrB (mNotB (mTru (mCB (isiD' T) (mCons (mVar 1) (mCons (mC (.cls C_Form)) mNil))))) (mBinB neD (mUn (fldD T s!"size") (mVar 1)) (mUn (fldD T s!"size") (mVar 0)))) (mRaise C_BadPart s!"part" (mC (.str s!"other"))) mNext)
def f_Form_check:Fn:=mkFn 0 b_Form_check
def b_Form___le__:MS:=(mSeq (mExpr (mMeth C_Form s!"check" 2 [false,false] f_Form_check (mVar 0) (mCons (mVar 1) mNil))) (mRet (mBin isD mStuck (mC .non))))
def f_Form___le__:Fn:=mkFn 0 b_Form___le__
def LE_Form:Nat→Option Fn:=lookF [(C_Form,f_Form___le__)]
@[simp] theorem LE_Form_of_Form:LE_Form C_Form=some f_Form___le__:=rfl
def b_without:MS:=(mSeq (mSet 3 (mLc [7] (iSeq (mVar 0)) (gN 7) (mBinB gtD (mBin ixD (mBin ixD (mVar 7) (mC (.int 0))) (mVar 1)) (mC (.int 0))) (mVar 7))) (mSeq (mSet 4 (mLc [7] (iSeq (mVar 0)) (gN 7) (mBinB ltD (mBin ixD (mBin ixD (mVar 7) (mC (.int 0))) (mVar 1)) (mC (.int 0))) (mVar 7))) (mSeq (mSet 5 (mLc2 [8,9] (iSeq (mVar 3)) (gN 8) mYes (iSeq (mVar 4)) [9] (gN 9) mYes (mCall 3 [false,false,false] f_joined_row (mCons (mVar 8) (mCons (mVar 9) (mCons (mVar 1) mNil)))))) (mSeq (mSet 6 (mDc [7] (iSeq (mCS lstD (mStar (mLc [7] (iSeq (mVar 0)) (gN 7) (mBinB eqD (mBin ixD (mBin ixD (mVar 7) (mC (.int 0))) (mVar 1)) (mC (.int 0))) (mVar 7)) (mStar (mVar 5) mNil)))) (gN 7) (mBinB (orF leD (eqOD false (cmpO T LE_Form))) (mCB (orC lenD (lenOD LN_Form)) (mCons (mBin ixD (mVar 7) (mC (.int 2))) mNil)) (mVar 2)) (mVar 7) (mC (.bl true)))) (mSeq (mIfS (mBinB gtD (mCB (orC lenD (lenOD LN_Form)) (mCons (mVar 6) mNil)) (mC (.int 5000))) (mRaise C_TooMany s!"limit" (mC (.int 5000))) mNext) (mRet (mCB listD (mCons (mVar 6) mNil))))))))
def f_without:Fn:=mkFn 7 b_without
def b_value_at:MS:=(mRet (mCB sumD (mCons (mLc [2,3] (iZip2 (mCons (mBin ixD (mVar 0) (mC (.int 0))) (mCons (mVar 1) mNil))) (gT 2 (gsCons (gN 2) (gsCons (gN 3) gsNil))) mYes (mBin mulD (mVar 2) (mVar 3))) mNil)))
def f_value_at:Fn:=mkFn 2 b_value_at
def b_next_number_L1:MS:=(mSet 5 (mIf (mBinB gtD (mBin mulD (mBin ixD (mVar 6) (mC (.int 0))) (mBin ixD (mVar 5) (mC (.int 1)))) (mBin mulD (mBin ixD (mVar 5) (mC (.int 0))) (mBin ixD (mVar 6) (mC (.int 1))))) (mVar 6) (mVar 5)))
def b_next_number_L2:MS:=(mSet 7 (mIf (mBinB ltD (mBin mulD (mBin ixD (mVar 6) (mC (.int 0))) (mBin ixD (mVar 7) (mC (.int 1)))) (mBin mulD (mBin ixD (mVar 7) (mC (.int 0))) (mBin ixD (mVar 6) (mC (.int 1))))) (mVar 6) (mVar 7)))
def b_next_number:MS:=(mSeq (mSet 2 (mCB (orC lenD (lenOD LN_Form)) (mCons (mVar 1) mNil))) (mSeq (mSet 3 (mLc [9] (iSeq (mVar 0)) (gN 9) (mBinB gtD (mBin ixD (mBin ixD (mVar 9) (mC (.int 0))) (mVar 2)) (mC (.int 0))) (mCS tupD (mCons (mUn negD (mCall 2 [false,false] f_value_at (mCons (mVar 9) (mCons (mVar 1) mNil)))) (mCons (mBin ixD (mBin ixD (mVar 9) (mC (.int 0))) (mVar 2)) mNil))))) (mSeq (mSet 4 (mLc [9] (iSeq (mVar 0)) (gN 9) (mBinB ltD (mBin ixD (mBin ixD (mVar 9) (mC (.int 0))) (mVar 2)) (mC (.int 0))) (mCS tupD (mCons (mCall 2 [false,false] f_value_at (mCons (mVar 9) (mCons (mVar 1) mNil))) (mCons (mUn negD (mBin ixD (mBin ixD (mVar 9) (mC (.int 0))) (mVar 2))) mNil))))) (mSeq (mSet 5 (mBin ixD (mVar 3) (mC (.int 0)))) (mSeq (mFor (iSeq (mVar 3)) (gN 6) b_next_number_L1) (mSeq (mIfS (mBinB eqD (mVar 4) (mCS lstD mNil)) (mRet (mCS lstD (mStar (mVar 1) (mCons (mBin addD (mCB maxD (mCons (mC (.int 0)) (mCons (mBin fdivD (mBin ixD (mVar 5) (mC (.int 0))) (mBin ixD (mVar 5) (mC (.int 1)))) mNil))) (mC (.int 1))) mNil)))) mNext) (mSeq (mSet 7 (mBin ixD (mVar 4) (mC (.int 0)))) (mSeq (mFor (iSeq (mVar 4)) (gN 6) b_next_number_L2) (mSeq (mSet 8 (mBin mulD (mBin mulD (mC (.int 2)) (mBin ixD (mVar 5) (mC (.int 1)))) (mBin ixD (mVar 7) (mC (.int 1))))) (mRet (mCS lstD (mStar (mLc [10] (iSeq (mVar 1)) (gN 10) mYes (mBin mulD (mVar 10) (mVar 8))) (mCons (mBin addD (mBin mulD (mBin ixD (mVar 5) (mC (.int 0))) (mBin ixD (mVar 7) (mC (.int 1)))) (mBin mulD (mBin ixD (mVar 7) (mC (.int 0))) (mBin ixD (mVar 5) (mC (.int 1))))) mNil)))))))))))))
def f_next_number:Fn:=mkFn 9 b_next_number
def b_solution_L1:MS:=(mSet 2 (mCS lstD (mStar (mVar 2) (mCons (mCall 3 [false,false,false] f_without (mCons (mBin ixD (mVar 2) (mUn negD (mC (.int 1)))) (mCons (mVar 3) (mCons (mBin addD (mCB (orC lenD (lenOD LN_Form)) (mCons (mVar 2) mNil)) (mC (.int 1))) mNil)))) mNil))))
def b_solution_L2:MS:=(mSet 4 (mCall 2 [false,false] f_next_number (mCons (mVar 5) (mCons (mVar 4) mNil))))
def b_solution:MS:=(mSeq (mSet 2 (mCS lstD (mCons (mVar 0) mNil))) (mSeq (mFor (iRangeN (mCons (mBin subD (mVar 1) (mC (.int 1))) (mCons (mUn negD (mC (.int 1))) (mCons (mUn negD (mC (.int 1))) mNil)))) (gN 3) b_solution_L1) (mSeq (mIfS (mTru (mCB anyD (mCons (mLc [6] (iSeq (mBin ixD (mVar 2) (mUn negD (mC (.int 1))))) (gN 6) mYes (mBin ixD (mVar 6) (mC (.int 1)))) mNil))) (mRet (mC .non)) mNext) (mSeq (mSet 4 (mCS lstD mNil)) (mSeq (mFor (iSeq mStuck) (gN 5) b_solution_L2) (mRet (mVar 4)))))))
def f_solution:Fn:=mkFn 5 b_solution
def b_parting_term:MS:=(mSeq (mSet 2 (mUn (fldD T s!"size") (mVar 1))) (mSeq (mSet 3 (mLc [6] (iRange (mCons (mBin addD (mVar 2) (mC (.int 1))) mNil)) (gN 6) mYes (mCS tupD (mCons (mCall 2 [false,false] f_unit (mCons (mBin addD (mVar 2) (mC (.int 1))) (mCons (mVar 6) mNil))) (mCons (mBin eqD (mVar 6) (mC (.int 0))) mNil))))) (mSeq (mSet 3 (mBin addD (mVar 3) (mLc [7,8] (iSeq (mUn (fldD T s!"terms") (mVar 1))) (gT 2 (gsCons (gN 7) (gsCons (gN 8) gsNil))) mYes (mCS tupD (mCons (mCall 1 [false] f_shortened (mCons (mCS lstD (mCons (mBin subD (mVar 8) (mBin ixD (mVar 0) (mC (.int 1)))) (mStar (mCall 2 [false,false] f_less (mCons (mBin ixD (mVar 0) (mC (.int 0))) (mCons (mVar 7) mNil))) mNil))) mNil)) (mCons (mC (.bl true)) mNil)))))) (mSeq (mSet 4 (mCall 2 [false,false] f_solution (mCons (mLc [9,10] (iEnT (mCons (mVar 3) mNil)) (gT 2 (gsCons (gN 9) (gsCons (gN 10) gsNil))) mYes (mCS tupD (mCons (mBin ixD (mVar 10) (mC (.int 0))) (mCons (mBin ixD (mVar 10) (mC (.int 1))) (mCons (mCS tupD (mCons (mVar 9) mNil)) mNil))))) (mCons (mBin addD (mVar 2) (mC (.int 1))) mNil)))) (mSeq (mIfS (mBinB isD (mVar 4) (mC .non)) (mRet (mC .non)) mNext) (mSeq (mSet 5 (mCall 1 [false] f_shortened (mCons (mVar 4) mNil))) (mRet (mCS tupD (mCons (mSl (mVar 5) (some (mC (.int 1))) none) (mCons (mBin ixD (mVar 5) (mC (.int 0))) mNil))))))))))
def f_parting_term:Fn:=mkFn 9 b_parting_term
def b_parting_limits_L1:MS:=(mSeq (mSet 3 (mCall 2 [false,false] f_parting_term (mCons (mVar 2) (mCons (mVar 1) mNil)))) (mIfS (mBinB isNotD (mVar 3) (mC .non)) (mRet (mVar 3)) mNext))
def b_parting_limits:MS:=(mSeq (mIfS (mNotB (mTru (mCB (isiD' T) (mCons (mVar 0) (mCons (mC (.cls C_Form)) mNil))))) (mRaise C_BadPart s!"part" (mC (.str s!"one"))) mNext) (mSeq (mIfS (mOrB (mNotB (mTru (mCB (isiD' T) (mCons (mVar 1) (mCons (mC (.cls C_Form)) mNil))))) (mBinB neD (mUn (fldD T s!"size") (mVar 1)) (mUn (fldD T s!"size") (mVar 0)))) (mRaise C_BadPart s!"part" (mC (.str s!"other"))) mNext) (mSeq (mFor (iSeq (mUn (fldD T s!"terms") (mVar 0))) (gN 2) b_parting_limits_L1) (mRet (mC .non)))))
def f_parting_limits:Fn:=mkFn 2 b_parting_limits
def b_Form___eq__:MS:=(mSeq (mIfS (mOrB (mNotB (mTru (mCB (isiD' T) (mCons (mVar 1) (mCons (mC (.cls C_Form)) mNil))))) (mBinB neD (mUn (fldD T s!"size") (mVar 1)) (mUn (fldD T s!"size") (mVar 0)))) (mRet (mC (.bl false))) mNext) (mRet (mAndV (mBin isD (mCall 2 [false,false] f_parting_limits (mCons (mVar 0) (mCons (mVar 1) mNil))) (mC .non)) (mBin isD (mCall 2 [false,false] f_parting_limits (mCons (mVar 1) (mCons (mVar 0) mNil))) (mC .non)))))
def f_Form___eq__:Fn:=mkFn 0 b_Form___eq__
def EQ_Form:Nat→Option Fn:=lookF [(C_Form,f_Form___eq__)]
@[simp] theorem EQ_Form_of_Form:EQ_Form C_Form=some f_Form___eq__:=rfl
def b_are_numbers:MS:=(mSeq (mIfS (mOrB (mNotB (mTru (mCB (isiD' T) (mCons (mVar 0) (mCons (mCS tupD (mCons (mC (.ty "list")) (mCons (mC (.ty "tuple")) mNil))) mNil))))) (mBinB (orF neD (eqOD true (eqO T EQ_Form))) (mCB (orC lenD (lenOD LN_Form)) (mCons (mVar 0) mNil)) (mVar 1))) (mRet (mC (.bl false))) mNext) (mRet (mCB allD (mCons (mLc [2] (iSeq (mVar 0)) (gN 2) mYes (mAndV (mCall 1 [false] f_is_integer (mCons (mVar 2) mNil)) (mBin geD (mVar 2) (mC (.int 0))))) mNil))))
def f_are_numbers:Fn:=mkFn 1 b_are_numbers
def b_is_term:MS:=(mSeq (mIfS (mOrB (mNotB (mTru (mCB (isiD' T) (mCons (mVar 0) (mCons (mC (.ty "tuple")) mNil))))) (mOrB (mBinB (orF neD (eqOD true (eqO T EQ_Form))) (mCB (orC lenD (lenOD LN_Form)) (mCons (mVar 0) mNil)) (mC (.int 2))) (mNotB (mTru (mCB (isiD' T) (mCons (mBin ixD (mVar 0) (mC (.int 0))) (mCons (mC (.ty "tuple")) mNil))))))) (mRet (mC (.bl false))) mNext) (mRet (mAndV (mCall 2 [false,false] f_are_numbers (mCons (mBin ixD (mVar 0) (mC (.int 0))) (mCons (mVar 1) mNil))) (mAndV (mCall 1 [false] f_is_integer (mCons (mBin ixD (mVar 0) (mC (.int 1))) mNil)) (mBin geD (mBin ixD (mVar 0) (mC (.int 1))) (mC (.int 0)))))))
def f_is_term:Fn:=mkFn 0 b_is_term
def b_is_needless:MS:=(mRet (mAndV (mBin geD (mBin ixD (mVar 0) (mC (.int 1))) (mBin ixD (mVar 1) (mC (.int 1)))) (mCB allD (mCons (mLc [2,3] (iZip2 (mCons (mBin ixD (mVar 0) (mC (.int 0))) (mCons (mBin ixD (mVar 1) (mC (.int 0))) mNil))) (gT 2 (gsCons (gN 2) (gsCons (gN 3) gsNil))) mYes (mBin (orF leD (eqOD false (cmpO T LE_Form))) (mVar 2) (mVar 3))) mNil))))
def f_is_needless:Fn:=mkFn 2 b_is_needless
def b_rank_of:MS:=(mRet (mCS lstD (mStar (mBin ixD (mVar 0) (mC (.int 0))) (mCons (mBin ixD (mVar 0) (mC (.int 1))) mNil))))
def f_rank_of:Fn:=mkFn 0 b_rank_of
def b_in_order_L1:MS:=(mSeq (mSet 5 (mCB (orC lenD (lenOD LN_Form)) (mCons (mLc [6] (iSeq (mVar 3)) (gN 6) (mBinB (orF ltD ltA0) (mCall 1 [false] f_rank_of (mCons (mVar 6) mNil)) (mCall 1 [false] f_rank_of (mCons (mVar 4) mNil))) (mVar 6)) mNil))) (mSet 3 (mCS lstD (mStar (mSl (mVar 3) none (some (mVar 5))) (mCons (mVar 4) (mStar (mSl (mVar 3) (some (mVar 5)) none) mNil))))))
def b_in_order:MS:=(mSeq (mSet 1 (mLc [5,4] (iEnT (mCons (mVar 0) mNil)) (gT 2 (gsCons (gN 5) (gsCons (gN 4) gsNil))) (mBinB (inD true) (mVar 4) (mSl (mVar 0) none (some (mVar 5)))) (mVar 4))) (mSeq (mSet 2 (mLc [4] (iSeq (mVar 1)) (gN 4) (mNotB (mTru (mCB anyD (mCons (mLc [6] (iSeq (mVar 1)) (gN 6) (mBinB (orF neD (eqOD true (eqO T EQ_Form))) (mVar 6) (mVar 4)) (mCall 2 [false,false] f_is_needless (mCons (mVar 4) (mCons (mVar 6) mNil)))) mNil)))) (mVar 4))) (mSeq (mSet 3 (mCS lstD mNil)) (mSeq (mFor (iSeq (mVar 2)) (gN 4) b_in_order_L1) (mRet (mVar 3))))))
def f_in_order:Fn:=mkFn 6 b_in_order
def b_Form___init___L1:MS:=(mIfS (mNotB (mTru (mCall 2 [false,false] f_is_term (mCons (mVar 4) (mCons (mVar 1) mNil))))) (mRaise C_BadForm s!"index" (mVar 3)) mNext)
def b_Form___init__:MS:=(mSeq (mIfS (mOrB (mNotB (mTru (mCall 1 [false] f_is_integer (mCons (mVar 1) mNil)))) (mNotB (mBl (mChain leD leD (mC (.int 1)) (mVar 1) (mC (.int 4)))))) (mRaise C_BadPart s!"part" (mC (.str s!"many"))) mNext) (mSeq (mIfS (mNotB (mTru (mCB (isiD' T) (mCons (mVar 2) (mCons (mCS tupD (mCons (mC (.ty "list")) (mCons (mC (.ty "tuple")) mNil))) mNil))))) (mRaise C_BadForm s!"index" (mC .non)) mNext) (mSeq (mFor (iEnT (mCons (mVar 2) mNil)) (gT 2 (gsCons (gN 3) (gsCons (gN 4) gsNil))) b_Form___init___L1) (mSeq (mFldS T s!"size" (mVar 0) (mVar 1)) (mSeq (mFldS T s!"terms" (mVar 0) (mCB tupleD (mCons (mCall 1 [false] f_in_order (mCons (mCS lstD (mCons (mCS tupD (mCons (mBin mulE (mCS tupD (mCons (mC (.int 0)) mNil)) (mVar 1)) (mCons (mC (.int 0)) mNil))) (mStar (mVar 2) mNil))) mNil)) mNil))) (mIfS (mBinB gtD (mCB (orC lenD (lenOD LN_Form)) (mCons (mUn (fldD T s!"terms") (mVar 0)) mNil)) (mC (.int 32))) (mRaise C_TooMany s!"limit" (mC (.int 32))) mNext))))))
def f_Form___init__:Fn:=mkFn 2 b_Form___init__
def b__law_due_L1:MS:=(mSet 2 (mBin addD (mVar 2) (mBin mulD (mCS lstD (mCons (mVar 3) mNil)) (mCB intD (mCons (mBin (inD true) (mVar 3) (mVar 2)) mNil)))))
def b__law_due_L2:MS:=(mSeq (mSet 5 (mLc [6] (iSeq (mVar 2)) (gN 6) (mAndB (mBinB (orF neD (eqOD true (eqO T EQ_Form))) (mVar 6) (mVar 3)) (mBinB (orF leD (eqOD false (cmpO T LE_Form))) (mBin ixD (mVar 6) (mC (.int 1))) (mBin ixD (mVar 3) (mC (.int 1))))) (mVar 6))) (mSeq (mSet 5 (mLc [6] (iSeq (mVar 5)) (gN 6) (mBinB (orF eqD (eqOD false (eqO T EQ_Form))) (mLc [7] (iRange (mCons (mVar 0) mNil)) (gN 7) (mBinB ltD (mBin ixD (mBin ixD (mVar 6) (mC (.int 0))) (mVar 7)) (mBin ixD (mBin ixD (mVar 3) (mC (.int 0))) (mVar 7))) (mVar 7)) (mCS lstD mNil)) (mVar 6))) (mSet 4 (mBin addD (mVar 4) (mBin mulD (mCS lstD (mCons (mVar 3) mNil)) (mCB intD (mCons (mBin (orF eqD (eqOD false (eqO T EQ_Form))) (mVar 5) (mCS lstD mNil)) mNil)))))))
def b__law_due:MS:=(mSeq (mSet 2 (mCS lstD mNil)) (mSeq (mFor (iSeq (mBin addD (mCS lstD (mCons (mCS tupD (mCons (mBin mulE (mCS tupD (mCons (mC (.int 0)) mNil)) (mVar 0)) (mCons (mC (.int 0)) mNil))) mNil)) (mVar 1))) (gN 3) b__law_due_L1) (mSeq (mSet 4 (mCS lstD mNil)) (mSeq (mFor (iSeq (mVar 2)) (gN 3) b__law_due_L2) (mRet (mVar 4))))))
def f__law_due:Fn:=mkFn 6 b__law_due
def b__law_is_less_L1:MS:=(mIfS (mBinB (orF neD (eqOD true (eqO T EQ_Form))) (mBin ixD (mVar 0) (mVar 2)) (mBin ixD (mVar 1) (mVar 2))) (mRet (mBin ltD (mBin ixD (mVar 0) (mVar 2)) (mBin ixD (mVar 1) (mVar 2)))) mNext)
def b__law_is_less:MS:=(mSeq (mFor (iRange (mCons (mCB (orC lenD (lenOD LN_Form)) (mCons (mVar 0) mNil)) mNil)) (gN 2) b__law_is_less_L1) (mRet (mC (.bl false))))
def f__law_is_less:Fn:=mkFn 1 b__law_is_less
def b__law_terms_right:MS:=(mSeq (mPar [3,4] (mConsN (mCall 2 [false,false] f__law_due (mCons (mVar 0) (mCons (mVar 1) mNil))) (mConsN (mLc [5] (iSeq (mVar 2)) (gN 5) mYes (mBin addD (mCB listD (mCons (mBin ixD (mVar 5) (mC (.int 0))) mNil)) (mCS lstD (mCons (mBin ixD (mVar 5) (mC (.int 1))) mNil)))) mNil))) (mSeq (mIfS (mOrB (mBinB (orF neD (eqOD true (eqO T EQ_Form))) (mCB (orC lenD (lenOD LN_Form)) (mCons (mVar 2) mNil)) (mCB (orC lenD (lenOD LN_Form)) (mCons (mVar 3) mNil))) (mBinB (orF neD (eqOD true (eqO T EQ_Form))) (mLc [5] (iSeq (mVar 2)) (gN 5) (mBinB (inD true) (mVar 5) (mVar 3)) (mVar 5)) (mCS lstD mNil))) (mRet (mC (.bl false))) mNext) (mRet (mBin (orF eqD (eqOD false (eqO T EQ_Form))) (mLc [6] (iRange (mCons (mBin subD (mCB (orC lenD (lenOD LN_Form)) (mCons (mVar 4) mNil)) (mC (.int 1))) mNil)) (gN 6) (mNotB (mTru (mCall 2 [false,false] f__law_is_less (mCons (mBin ixD (mVar 4) (mVar 6)) (mCons (mBin ixD (mVar 4) (mBin addD (mVar 6) (mC (.int 1)))) mNil))))) (mVar 6)) (mCS lstD mNil)))))
def f__law_terms_right:Fn:=mkFn 4 b__law_terms_right
def b_Form___or__:MS:=(mSeq (mExpr (mMeth C_Form s!"check" 2 [false,false] f_Form_check (mVar 0) (mCons (mVar 1) mNil))) (mRet (mMakeW C_Form 2 0 3 [0,1] [] [false,false] f_Form___init__ (mCons (mUn (fldD T s!"size") (mVar 0)) (mCons (mCS lstD (mStar (mUn (fldD T s!"terms") (mVar 0)) (mStar (mUn (fldD T s!"terms") (mVar 1)) mNil))) mNil)) mNil)))
def f_Form___or__:Fn:=mkFn 0 b_Form___or__
def OR_Form:Nat→Option Fn:=lookF [(C_Form,f_Form___or__)]
@[simp] theorem OR_Form_of_Form:OR_Form C_Form=some f_Form___or__:=rfl
def b_Form___add___L1:MS:=(mExpr (mMutT "list" appendD (mVar 2) (mCons (mCS tupD (mCons (mCB tupleD (mCons (mLc [7,8] (iZip2 (mCons (mVar 3) (mCons (mVar 5) mNil))) (gT 2 (gsCons (gN 7) (gsCons (gN 8) gsNil))) mYes (mBin addD (mVar 7) (mVar 8))) mNil)) (mCons (mBin addD (mVar 4) (mVar 6)) mNil))) mNil)))
def b_Form___add___L2:MS:=(mFor (iSeq (mUn (fldD T s!"terms") (mVar 1))) (gT 2 (gsCons (gN 5) (gsCons (gN 6) gsNil))) b_Form___add___L1)
def b_Form___add__:MS:=(mSeq (mExpr (mMeth C_Form s!"check" 2 [false,false] f_Form_check (mVar 0) (mCons (mVar 1) mNil))) (mSeq (mSet 2 (mCS lstD mNil)) (mSeq (mFor (iSeq (mUn (fldD T s!"terms") (mVar 0))) (gT 2 (gsCons (gN 3) (gsCons (gN 4) gsNil))) b_Form___add___L2) (mRet (mMakeW C_Form 2 0 3 [0,1] [] [false,false] f_Form___init__ (mCons (mUn (fldD T s!"size") (mVar 0)) (mCons (mVar 2) mNil)) mNil)))))
def f_Form___add__:Fn:=mkFn 7 b_Form___add__
def AD_Form:Nat→Option Fn:=lookF [(C_Form,f_Form___add__)]
@[simp] theorem AD_Form_of_Form:AD_Form C_Form=some f_Form___add__:=rfl
def b__law_limits:MS:=(mSeq (mSet 2 (mBin ixD (mCS lstD (mCons (mC (.int 3)) (mCons (mC (.int 12)) (mCons (mBin powD (mC (.int 10)) (mC (.int 20))) mNil)))) (mCall 2 [true,false] f__law_draw (mCons (mVar 0) (mCons (mC (.int 3)) mNil))))) (mRet (mLc [3] (iRange (mCons (mVar 1) mNil)) (gN 3) mYes (mCall 2 [true,false] f__law_draw (mCons (mVar 0) (mCons (mVar 2) mNil))))))
def f__law_limits:Fn:=mkFn 2 b__law_limits
def b__law_worth_L1:MS:=(mSet 2 (mCB maxD (mCons (mCB intD (mCons (mVar 2) mNil)) (mCons (mCB intD (mCons (mBin subD (mCB sumD (mCons (mLc [5] (iRange (mCons (mCB (orC lenD (lenOD LN_Form)) (mCons (mVar 1) mNil)) mNil)) (gN 5) mYes (mBin mulD (mBin ixD (mVar 3) (mVar 5)) (mBin ixD (mVar 1) (mVar 5)))) mNil)) (mVar 4)) mNil)) mNil))))
def b__law_worth:MS:=(mSeq (mSet 2 (mC (.int 0))) (mSeq (mFor (iSeq (mVar 0)) (gT 2 (gsCons (gN 3) (gsCons (gN 4) gsNil))) b__law_worth_L1) (mRet (mVar 2))))
def f__law_worth:Fn:=mkFn 4 b__law_worth
def b_worth_of:MS:=(mRet (mBin subD (mCB sumD (mCons (mLc [2,3] (iZip2 (mCons (mBin ixD (mVar 0) (mC (.int 0))) (mCons (mVar 1) mNil))) (gT 2 (gsCons (gN 2) (gsCons (gN 3) gsNil))) mYes (mBin mulD (mVar 2) (mVar 3))) mNil)) (mBin ixD (mVar 0) (mC (.int 1)))))
def f_worth_of:Fn:=mkFn 2 b_worth_of
def b_Form___call__:MS:=(mSeq (mIfS (mNotB (mTru (mCall 2 [false,false] f_are_numbers (mCons (mVar 1) (mCons (mUn (fldD T s!"size") (mVar 0)) mNil))))) (mRaise C_BadLimits s!"limits" (mVar 1)) mNext) (mRet (mCB maxLD (mCons (mLc [2] (iSeq (mUn (fldD T s!"terms") (mVar 0))) (gN 2) mYes (mCB intD (mCons (mCall 2 [false,false] f_worth_of (mCons (mVar 2) (mCons (mVar 1) mNil))) mNil))) mNil))))
def f_Form___call__:Fn:=mkFn 1 b_Form___call__
def CA_Form:Nat→Option Fn:=lookF [(C_Form,f_Form___call__)]
@[simp] theorem CA_Form_of_Form:CA_Form C_Form=some f_Form___call__:=rfl
def b_law_L1:MS:=(mSeq (mSet 11 (mCall 2 [true,false] f__law_limits (mCons (mVar 2) (mCons (mVar 3) mNil)))) (mSeq (mPar [12,13] (mConsN (mCall 2 [false,false] f__law_worth (mCons (mVar 5) (mCons (mVar 11) mNil))) (mConsN (mCall 2 [false,false] f__law_worth (mCons (mVar 6) (mCons (mVar 11) mNil))) mNil))) (mSeq (mIfS (mOrB (mBinB (orF neD (eqOD true (eqO T EQ_Form))) (mCS lstD (mCons (mCallO CA_Form 2 (mVar 7) (mCons (mVar 11) mNil)) (mCons (mCallO CA_Form 2 (mVar 8) (mCons (mCB tupleD (mCons (mVar 11) mNil)) mNil)) mNil))) (mCS lstD (mCons (mVar 12) (mCons (mVar 13) mNil)))) (mBinB (orF neD (eqOD true (eqO T EQ_Form))) (mCallO CA_Form 2 (mVar 9) (mCons (mVar 11) mNil)) (mBin addD (mVar 12) (mVar 13)))) (mRet (mC (.bl false))) mNext) (mIfS (mBinB (orF neD (eqOD true (eqO T EQ_Form))) (mCallO CA_Form 2 (mVar 10) (mCons (mVar 11) mNil)) (mCB maxD (mCons (mCB intD (mCons (mVar 12) mNil)) (mCons (mCB intD (mCons (mVar 13) mNil)) mNil)))) (mRet (mC (.bl false))) mNext))))
def b_law_t6:MS:=(mFor (iRange (mCons (mC (.int 12)) mNil)) (gN 4) b_law_L1)
def b_law_t5:MS:=(mSeq (mPar [9,10] (mConsN (mOpO AD_Form (mVar 7) (mVar 8)) (mConsN (mOpO OR_Form (mVar 7) (mVar 8)) mNil))) b_law_t6)
def b_law_t4:MS:=(mSeq (mIfS (mOrB (mNotB (mTru (mCall 3 [false,false,false] f__law_terms_right (mCons (mVar 3) (mCons (mVar 5) (mCons (mUn (fldD T s!"terms") (mVar 7)) mNil)))))) (mOrB (mBinB (orF neD (eqOD true (eqO T EQ_Form))) (mCB (orC lenD (lenOD LN_Form)) (mCons (mVar 7) mNil)) (mCB (orC lenD (lenOD LN_Form)) (mCons (mUn (fldD T s!"terms") (mVar 7)) mNil))) (mBinB (orF neD (eqOD true (eqO T EQ_Form))) (mUn (fldD T s!"size") (mVar 7)) (mVar 3)))) (mRet (mC (.bl false))) mNext) b_law_t5)
def b_law_t3:MS:=(mSeq (mPar [7,8] (mConsN (mMakeW C_Form 2 0 3 [0,1] [] [false,false] f_Form___init__ (mCons (mVar 3) (mCons (mVar 5) mNil)) mNil) (mConsN (mMakeW C_Form 2 0 3 [0,1] [] [false,false] f_Form___init__ (mCons (mVar 3) (mCons (mCB tupleD (mCons (mVar 6) mNil)) mNil)) mNil) mNil))) b_law_t4)
def b_law_t2:MS:=(mSeq (mPar [5,6] (mConsN (mCall 2 [true,false] f__law_terms (mCons (mVar 2) (mCons (mVar 3) mNil))) (mConsN (mCall 2 [true,false] f__law_terms (mCons (mVar 2) (mCons (mVar 3) mNil))) mNil))) b_law_t3)
def b_law_t1:MS:=(mSeq (mSet 3 (mBin addD (mC (.int 1)) (mCall 2 [true,false] f__law_draw (mCons (mVar 2) (mCons (mC (.int 4)) mNil))))) b_law_t2)
def b_law_L2:MS:=(mSeq (mSet 2 (mCall 2 [false,false] f__law_pool (mCons (mVar 0) (mCons (mVar 1) mNil)))) b_law_t1)
def b_law:MS:=(mSeq (mFor (iRange (mCons (mCB maxD (mCons (mC (.int 1)) (mCons (mCB minD (mCons (mCB (orC lenD (lenOD LN_Form)) (mCons (mVar 0) mNil)) (mCons (mC (.int 4)) mNil))) mNil))) mNil)) (gN 1) b_law_L2) (mRet (mC (.bl true))))
def f_law:Fn:=mkFn 13 b_law
abbrev N_Form___len__:List PySem.Str:=[s!"self"]
abbrev P_Form___len__:List PySem.Str:=[s!"self"]
abbrev N__law_pool:List PySem.Str:=[s!"_law_script",s!"_law_k",s!"_law_cell",s!"_law_size",s!"_law_mixed"]
abbrev P__law_pool:List PySem.Str:=[s!"_law_script",s!"_law_k"]
abbrev N__law_draw:List PySem.Str:=[s!"_law_pool_here",s!"_law_many",s!"_law_found"]
abbrev P__law_draw:List PySem.Str:=[s!"_law_pool_here",s!"_law_many"]
abbrev N__law_term:List PySem.Str:=[s!"_law_pool_here",s!"_law_many",s!"_law_place"]
abbrev P__law_term:List PySem.Str:=[s!"_law_pool_here",s!"_law_many"]
abbrev N__law_terms:List PySem.Str:=[s!"_law_pool_here",s!"_law_many",s!"_law_turn"]
abbrev P__law_terms:List PySem.Str:=[s!"_law_pool_here",s!"_law_many"]
abbrev N_is_integer:List PySem.Str:=[s!"value"]
abbrev P_is_integer:List PySem.Str:=[s!"value"]
abbrev N_unit:List PySem.Str:=[s!"many",s!"at",s!"place"]
abbrev P_unit:List PySem.Str:=[s!"many",s!"at"]
abbrev N_common_divisor:List PySem.Str:=[s!"numbers",s!"found",s!"number",s!"one",s!"other"]
abbrev P_common_divisor:List PySem.Str:=[s!"numbers"]
abbrev N_shortened:List PySem.Str:=[s!"numbers",s!"divisor",s!"number"]
abbrev P_shortened:List PySem.Str:=[s!"numbers"]
abbrev N_less:List PySem.Str:=[s!"one",s!"other",s!"number",s!"more"]
abbrev P_less:List PySem.Str:=[s!"one",s!"other"]
abbrev N_joined_row:List PySem.Str:=[s!"positive",s!"negative",s!"at",s!"numbers",s!"origins",s!"factor",s!"other",s!"one",s!"two",s!"origin"]
abbrev P_joined_row:List PySem.Str:=[s!"positive",s!"negative",s!"at"]
abbrev N_Form_check:List PySem.Str:=[s!"self",s!"other"]
abbrev P_Form_check:List PySem.Str:=[s!"self",s!"other"]
abbrev N_Form___le__:List PySem.Str:=[s!"self",s!"other"]
abbrev P_Form___le__:List PySem.Str:=[s!"self",s!"other"]
abbrev N_without:List PySem.Str:=[s!"rows",s!"at",s!"most",s!"ups",s!"downs",s!"mixed_rows",s!"kept",s!"row",s!"up",s!"down"]
abbrev P_without:List PySem.Str:=[s!"rows",s!"at",s!"most"]
abbrev N_value_at:List PySem.Str:=[s!"row",s!"numbers",s!"one",s!"number"]
abbrev P_value_at:List PySem.Str:=[s!"row",s!"numbers"]
abbrev N_next_number:List PySem.Str:=[s!"rows",s!"numbers",s!"at",s!"lows",s!"highs",s!"low",s!"one",s!"high",s!"factor",s!"row",s!"number"]
abbrev P_next_number:List PySem.Str:=[s!"rows",s!"numbers"]
abbrev N_solution:List PySem.Str:=[s!"rows",s!"many",s!"stages",s!"at",s!"found",s!"stage",s!"row"]
abbrev P_solution:List PySem.Str:=[s!"rows",s!"many"]
abbrev N_parting_term:List PySem.Str:=[s!"term",s!"other",s!"many",s!"rows",s!"found",s!"short",s!"at",s!"times",s!"off",s!"origin",s!"row"]
abbrev P_parting_term:List PySem.Str:=[s!"term",s!"other"]
abbrev N_parting_limits:List PySem.Str:=[s!"one",s!"other",s!"term",s!"found"]
abbrev P_parting_limits:List PySem.Str:=[s!"one",s!"other"]
abbrev N_Form___eq__:List PySem.Str:=[s!"self",s!"other"]
abbrev P_Form___eq__:List PySem.Str:=[s!"self",s!"other"]
abbrev N_are_numbers:List PySem.Str:=[s!"value",s!"many",s!"number"]
abbrev P_are_numbers:List PySem.Str:=[s!"value",s!"many"]
abbrev N_is_term:List PySem.Str:=[s!"value",s!"many"]
abbrev P_is_term:List PySem.Str:=[s!"value",s!"many"]
abbrev N_is_needless:List PySem.Str:=[s!"term",s!"other",s!"one",s!"more"]
abbrev P_is_needless:List PySem.Str:=[s!"term",s!"other"]
abbrev N_rank_of:List PySem.Str:=[s!"term"]
abbrev P_rank_of:List PySem.Str:=[s!"term"]
abbrev N_in_order:List PySem.Str:=[s!"terms",s!"once",s!"kept",s!"found",s!"term",s!"at",s!"other"]
abbrev P_in_order:List PySem.Str:=[s!"terms"]
abbrev N_Form___init__:List PySem.Str:=[s!"self",s!"many",s!"terms",s!"index",s!"term"]
abbrev P_Form___init__:List PySem.Str:=[s!"self",s!"many",s!"terms"]
abbrev N__law_due:List PySem.Str:=[s!"_law_many",s!"_law_terms_here",s!"_law_once",s!"_law_term_here",s!"_law_kept",s!"_law_over",s!"_law_other",s!"_law_at"]
abbrev P__law_due:List PySem.Str:=[s!"_law_many",s!"_law_terms_here"]
abbrev N__law_is_less:List PySem.Str:=[s!"_law_one",s!"_law_other",s!"_law_at"]
abbrev P__law_is_less:List PySem.Str:=[s!"_law_one",s!"_law_other"]
abbrev N__law_terms_right:List PySem.Str:=[s!"_law_many",s!"_law_terms_here",s!"_law_told",s!"_law_due_here",s!"_law_rows",s!"_law_term_here",s!"_law_at"]
abbrev P__law_terms_right:List PySem.Str:=[s!"_law_many",s!"_law_terms_here",s!"_law_told"]
abbrev N_Form___or__:List PySem.Str:=[s!"self",s!"other"]
abbrev P_Form___or__:List PySem.Str:=[s!"self",s!"other"]
abbrev N_Form___add__:List PySem.Str:=[s!"self",s!"other",s!"found",s!"times",s!"off",s!"others",s!"more",s!"one",s!"two"]
abbrev P_Form___add__:List PySem.Str:=[s!"self",s!"other"]
abbrev N__law_limits:List PySem.Str:=[s!"_law_pool_here",s!"_law_many",s!"_law_top",s!"_law_place"]
abbrev P__law_limits:List PySem.Str:=[s!"_law_pool_here",s!"_law_many"]
abbrev N__law_worth:List PySem.Str:=[s!"_law_terms_here",s!"_law_limits_here",s!"_law_found",s!"_law_times",s!"_law_off",s!"_law_at"]
abbrev P__law_worth:List PySem.Str:=[s!"_law_terms_here",s!"_law_limits_here"]
abbrev N_worth_of:List PySem.Str:=[s!"term",s!"limits",s!"times",s!"limit"]
abbrev P_worth_of:List PySem.Str:=[s!"term",s!"limits"]
abbrev N_Form___call__:List PySem.Str:=[s!"self",s!"limits",s!"term"]
abbrev P_Form___call__:List PySem.Str:=[s!"self",s!"limits"]
abbrev N_law:List PySem.Str:=[s!"_law_script",s!"_law_k",s!"_law_pool_here",s!"_law_many",s!"_law_turn",s!"_law_one",s!"_law_other",s!"_law_near",s!"_law_far",s!"_law_both",s!"_law_greater",s!"_law_limits_here",s!"_law_left",s!"_law_right"]
abbrev P_law:List PySem.Str:=[s!"_law_script"]
abbrev N_BadForm___init__:List PySem.Str:=[s!"self",s!"index"]
abbrev P_BadForm___init__:List PySem.Str:=[s!"self",s!"index"]
abbrev N_BadLimits___init__:List PySem.Str:=[s!"self",s!"limits"]
abbrev P_BadLimits___init__:List PySem.Str:=[s!"self",s!"limits"]
abbrev N_BadPart___init__:List PySem.Str:=[s!"self",s!"part"]
abbrev P_BadPart___init__:List PySem.Str:=[s!"self",s!"part"]
abbrev N_TooMany___init__:List PySem.Str:=[s!"self",s!"limit"]
abbrev P_TooMany___init__:List PySem.Str:=[s!"self",s!"limit"]
def G (P:Program)(w:World)(K:PySem.W.Frag):Gx:=⟨K,cl K,fun _=>0,P,w⟩
structure Fx (P:Program)(w:World)(K:PySem.W.Frag)(mg:PySem.Str→Option Value):Prop where
 tab:TabOk (G P w K) T
 b_abs:mg s!"abs"=none
 b_all:mg s!"all"=none
 b_any:mg s!"any"=none
 b_bool:mg s!"bool"=none
 b_enumerate:mg s!"enumerate"=none
 b_int:mg s!"int"=none
 b_isinstance:mg s!"isinstance"=none
 b_len:mg s!"len"=none
 b_list:mg s!"list"=none
 b_max:mg s!"max"=none
 b_min:mg s!"min"=none
 b_range:mg s!"range"=none
 b_sorted:mg s!"sorted"=none
 b_sum:mg s!"sum"=none
 b_tuple:mg s!"tuple"=none
 b_zip:mg s!"zip"=none
 c_MOST_PLACES:∃ t,mg s!"MOST_PLACES"=some (.int (4) t)
 c_MOST_ROWS:∃ t,mg s!"MOST_ROWS"=some (.int (5000) t)
 c_MOST_TERMS:∃ t,mg s!"MOST_TERMS"=some (.int (32) t)
 gc_BadForm:mg s!"BadForm"=some (.ref (He.ga K s!"BadForm"))
 gc_BadLimits:mg s!"BadLimits"=some (.ref (He.ga K s!"BadLimits"))
 gc_BadPart:mg s!"BadPart"=some (.ref (He.ga K s!"BadPart"))
 gc_Form:mg s!"Form"=some (.ref (He.ga K s!"Form"))
 gc_TooMany:mg s!"TooMany"=some (.ref (He.ga K s!"TooMany"))
 d_Form___len__:∃ fd,FunD K s!"__len__" s!"Form.__len__" (defArgs s_Form___len__) (defBody s_Form___len__) (defScope s_Form___len__) [] [] (He.fAd K (s!"Form",some s!"__len__")) fd
 d__law_pool:∃ fd,FunD K s!"_law_pool" s!"_law_pool" (defArgs s__law_pool) (defBody s__law_pool) (defScope s__law_pool) [] [] (He.fAd K (s!"_law_pool",none)) fd
 g__law_pool:mg s!"_law_pool"=some (.ref (He.fAd K (s!"_law_pool",none)))
 d__law_draw:∃ fd,FunD K s!"_law_draw" s!"_law_draw" (defArgs s__law_draw) (defBody s__law_draw) (defScope s__law_draw) [] [] (He.fAd K (s!"_law_draw",none)) fd
 g__law_draw:mg s!"_law_draw"=some (.ref (He.fAd K (s!"_law_draw",none)))
 d__law_term:∃ fd,FunD K s!"_law_term" s!"_law_term" (defArgs s__law_term) (defBody s__law_term) (defScope s__law_term) [] [] (He.fAd K (s!"_law_term",none)) fd
 g__law_term:mg s!"_law_term"=some (.ref (He.fAd K (s!"_law_term",none)))
 d__law_terms:∃ fd,FunD K s!"_law_terms" s!"_law_terms" (defArgs s__law_terms) (defBody s__law_terms) (defScope s__law_terms) [] [] (He.fAd K (s!"_law_terms",none)) fd
 g__law_terms:mg s!"_law_terms"=some (.ref (He.fAd K (s!"_law_terms",none)))
 d_is_integer:∃ fd,FunD K s!"is_integer" s!"is_integer" (defArgs s_is_integer) (defBody s_is_integer) (defScope s_is_integer) [] [] (He.fAd K (s!"is_integer",none)) fd
 g_is_integer:mg s!"is_integer"=some (.ref (He.fAd K (s!"is_integer",none)))
 d_unit:∃ fd,FunD K s!"unit" s!"unit" (defArgs s_unit) (defBody s_unit) (defScope s_unit) [] [] (He.fAd K (s!"unit",none)) fd
 g_unit:mg s!"unit"=some (.ref (He.fAd K (s!"unit",none)))
 d_common_divisor:∃ fd,FunD K s!"common_divisor" s!"common_divisor" (defArgs s_common_divisor) (defBody s_common_divisor) (defScope s_common_divisor) [] [] (He.fAd K (s!"common_divisor",none)) fd
 g_common_divisor:mg s!"common_divisor"=some (.ref (He.fAd K (s!"common_divisor",none)))
 d_shortened:∃ fd,FunD K s!"shortened" s!"shortened" (defArgs s_shortened) (defBody s_shortened) (defScope s_shortened) [] [] (He.fAd K (s!"shortened",none)) fd
 g_shortened:mg s!"shortened"=some (.ref (He.fAd K (s!"shortened",none)))
 d_less:∃ fd,FunD K s!"less" s!"less" (defArgs s_less) (defBody s_less) (defScope s_less) [] [] (He.fAd K (s!"less",none)) fd
 g_less:mg s!"less"=some (.ref (He.fAd K (s!"less",none)))
 d_joined_row:∃ fd,FunD K s!"joined_row" s!"joined_row" (defArgs s_joined_row) (defBody s_joined_row) (defScope s_joined_row) [] [] (He.fAd K (s!"joined_row",none)) fd
 g_joined_row:mg s!"joined_row"=some (.ref (He.fAd K (s!"joined_row",none)))
 d_Form_check:∃ fd,FunD K s!"check" s!"Form.check" (defArgs s_Form_check) (defBody s_Form_check) (defScope s_Form_check) [] [] (He.fAd K (s!"Form",some s!"check")) fd
 d_Form___le__:∃ fd,FunD K s!"__le__" s!"Form.__le__" (defArgs s_Form___le__) (defBody s_Form___le__) (defScope s_Form___le__) [] [] (He.fAd K (s!"Form",some s!"__le__")) fd
 d_without:∃ fd,FunD K s!"without" s!"without" (defArgs s_without) (defBody s_without) (defScope s_without) [] [] (He.fAd K (s!"without",none)) fd
 g_without:mg s!"without"=some (.ref (He.fAd K (s!"without",none)))
 d_value_at:∃ fd,FunD K s!"value_at" s!"value_at" (defArgs s_value_at) (defBody s_value_at) (defScope s_value_at) [] [] (He.fAd K (s!"value_at",none)) fd
 g_value_at:mg s!"value_at"=some (.ref (He.fAd K (s!"value_at",none)))
 d_next_number:∃ fd,FunD K s!"next_number" s!"next_number" (defArgs s_next_number) (defBody s_next_number) (defScope s_next_number) [] [] (He.fAd K (s!"next_number",none)) fd
 g_next_number:mg s!"next_number"=some (.ref (He.fAd K (s!"next_number",none)))
 d_solution:∃ fd,FunD K s!"solution" s!"solution" (defArgs s_solution) (defBody s_solution) (defScope s_solution) [] [] (He.fAd K (s!"solution",none)) fd
 g_solution:mg s!"solution"=some (.ref (He.fAd K (s!"solution",none)))
 d_parting_term:∃ fd,FunD K s!"parting_term" s!"parting_term" (defArgs s_parting_term) (defBody s_parting_term) (defScope s_parting_term) [] [] (He.fAd K (s!"parting_term",none)) fd
 g_parting_term:mg s!"parting_term"=some (.ref (He.fAd K (s!"parting_term",none)))
 d_parting_limits:∃ fd,FunD K s!"parting_limits" s!"parting_limits" (defArgs s_parting_limits) (defBody s_parting_limits) (defScope s_parting_limits) [] [] (He.fAd K (s!"parting_limits",none)) fd
 g_parting_limits:mg s!"parting_limits"=some (.ref (He.fAd K (s!"parting_limits",none)))
 d_Form___eq__:∃ fd,FunD K s!"__eq__" s!"Form.__eq__" (defArgs s_Form___eq__) (defBody s_Form___eq__) (defScope s_Form___eq__) [] [] (He.fAd K (s!"Form",some s!"__eq__")) fd
 d_are_numbers:∃ fd,FunD K s!"are_numbers" s!"are_numbers" (defArgs s_are_numbers) (defBody s_are_numbers) (defScope s_are_numbers) [] [] (He.fAd K (s!"are_numbers",none)) fd
 g_are_numbers:mg s!"are_numbers"=some (.ref (He.fAd K (s!"are_numbers",none)))
 d_is_term:∃ fd,FunD K s!"is_term" s!"is_term" (defArgs s_is_term) (defBody s_is_term) (defScope s_is_term) [] [] (He.fAd K (s!"is_term",none)) fd
 g_is_term:mg s!"is_term"=some (.ref (He.fAd K (s!"is_term",none)))
 d_is_needless:∃ fd,FunD K s!"is_needless" s!"is_needless" (defArgs s_is_needless) (defBody s_is_needless) (defScope s_is_needless) [] [] (He.fAd K (s!"is_needless",none)) fd
 g_is_needless:mg s!"is_needless"=some (.ref (He.fAd K (s!"is_needless",none)))
 d_rank_of:∃ fd,FunD K s!"rank_of" s!"rank_of" (defArgs s_rank_of) (defBody s_rank_of) (defScope s_rank_of) [] [] (He.fAd K (s!"rank_of",none)) fd
 g_rank_of:mg s!"rank_of"=some (.ref (He.fAd K (s!"rank_of",none)))
 d_in_order:∃ fd,FunD K s!"in_order" s!"in_order" (defArgs s_in_order) (defBody s_in_order) (defScope s_in_order) [] [] (He.fAd K (s!"in_order",none)) fd
 g_in_order:mg s!"in_order"=some (.ref (He.fAd K (s!"in_order",none)))
 d_Form___init__:∃ fd,FunD K s!"__init__" s!"Form.__init__" (defArgs s_Form___init__) (defBody s_Form___init__) (defScope s_Form___init__) [] [] (He.fAd K (s!"Form",some s!"__init__")) fd
 d__law_due:∃ fd,FunD K s!"_law_due" s!"_law_due" (defArgs s__law_due) (defBody s__law_due) (defScope s__law_due) [] [] (He.fAd K (s!"_law_due",none)) fd
 g__law_due:mg s!"_law_due"=some (.ref (He.fAd K (s!"_law_due",none)))
 d__law_is_less:∃ fd,FunD K s!"_law_is_less" s!"_law_is_less" (defArgs s__law_is_less) (defBody s__law_is_less) (defScope s__law_is_less) [] [] (He.fAd K (s!"_law_is_less",none)) fd
 g__law_is_less:mg s!"_law_is_less"=some (.ref (He.fAd K (s!"_law_is_less",none)))
 d__law_terms_right:∃ fd,FunD K s!"_law_terms_right" s!"_law_terms_right" (defArgs s__law_terms_right) (defBody s__law_terms_right) (defScope s__law_terms_right) [] [] (He.fAd K (s!"_law_terms_right",none)) fd
 g__law_terms_right:mg s!"_law_terms_right"=some (.ref (He.fAd K (s!"_law_terms_right",none)))
 d_Form___or__:∃ fd,FunD K s!"__or__" s!"Form.__or__" (defArgs s_Form___or__) (defBody s_Form___or__) (defScope s_Form___or__) [] [] (He.fAd K (s!"Form",some s!"__or__")) fd
 d_Form___add__:∃ fd,FunD K s!"__add__" s!"Form.__add__" (defArgs s_Form___add__) (defBody s_Form___add__) (defScope s_Form___add__) [] [] (He.fAd K (s!"Form",some s!"__add__")) fd
 d__law_limits:∃ fd,FunD K s!"_law_limits" s!"_law_limits" (defArgs s__law_limits) (defBody s__law_limits) (defScope s__law_limits) [] [] (He.fAd K (s!"_law_limits",none)) fd
 g__law_limits:mg s!"_law_limits"=some (.ref (He.fAd K (s!"_law_limits",none)))
 d__law_worth:∃ fd,FunD K s!"_law_worth" s!"_law_worth" (defArgs s__law_worth) (defBody s__law_worth) (defScope s__law_worth) [] [] (He.fAd K (s!"_law_worth",none)) fd
 g__law_worth:mg s!"_law_worth"=some (.ref (He.fAd K (s!"_law_worth",none)))
 d_worth_of:∃ fd,FunD K s!"worth_of" s!"worth_of" (defArgs s_worth_of) (defBody s_worth_of) (defScope s_worth_of) [] [] (He.fAd K (s!"worth_of",none)) fd
 g_worth_of:mg s!"worth_of"=some (.ref (He.fAd K (s!"worth_of",none)))
 d_Form___call__:∃ fd,FunD K s!"__call__" s!"Form.__call__" (defArgs s_Form___call__) (defBody s_Form___call__) (defScope s_Form___call__) [] [] (He.fAd K (s!"Form",some s!"__call__")) fd
 d_law:∃ fd,FunD K s!"law" s!"law" (defArgs s_law) (defBody s_law) (defScope s_law) [] [] (He.fAd K (s!"law",none)) fd
 g_law:mg s!"law"=some (.ref (He.fAd K (s!"law",none)))
 d_BadForm___init__:∃ fd,FunD K s!"__init__" s!"BadForm.__init__" (defArgs s_BadForm___init__) (defBody s_BadForm___init__) (defScope s_BadForm___init__) [] [] (He.fAd K (s!"BadForm",some s!"__init__")) fd
 d_BadLimits___init__:∃ fd,FunD K s!"__init__" s!"BadLimits.__init__" (defArgs s_BadLimits___init__) (defBody s_BadLimits___init__) (defScope s_BadLimits___init__) [] [] (He.fAd K (s!"BadLimits",some s!"__init__")) fd
 d_BadPart___init__:∃ fd,FunD K s!"__init__" s!"BadPart.__init__" (defArgs s_BadPart___init__) (defBody s_BadPart___init__) (defScope s_BadPart___init__) [] [] (He.fAd K (s!"BadPart",some s!"__init__")) fd
 d_TooMany___init__:∃ fd,FunD K s!"__init__" s!"TooMany.__init__" (defArgs s_TooMany___init__) (defBody s_TooMany___init__) (defScope s_TooMany___init__) [] [] (He.fAd K (s!"TooMany",some s!"__init__")) fd
 mt_Form___len__:Meth K (He.ga K s!"Form") s!"__len__" (He.fAd K (s!"Form",some s!"__len__"))
 mt_Form_check:Meth K (He.ga K s!"Form") s!"check" (He.fAd K (s!"Form",some s!"check"))
 mt_Form___le__:Meth K (He.ga K s!"Form") s!"__le__" (He.fAd K (s!"Form",some s!"__le__"))
 mt_Form___eq__:Meth K (He.ga K s!"Form") s!"__eq__" (He.fAd K (s!"Form",some s!"__eq__"))
 mk_Form:Mk K (He.ga K s!"Form") (He.fAd K (s!"Form",some s!"__init__"))
 mt_Form___or__:Meth K (He.ga K s!"Form") s!"__or__" (He.fAd K (s!"Form",some s!"__or__"))
 mt_Form___add__:Meth K (He.ga K s!"Form") s!"__add__" (He.fAd K (s!"Form",some s!"__add__"))
 mt_Form___call__:Meth K (He.ga K s!"Form") s!"__call__" (He.fAd K (s!"Form",some s!"__call__"))
 xc_BadForm:XC K (He.ga K s!"BadForm") [.type "ValueError",.type "Exception",.type "BaseException",.type "object"] "ValueError.__new__"
 xi0_BadForm:PySem.W.findIn K (.ref (He.ga K s!"BadForm")) "__init__"=some (some (.ref (He.fAd K (s!"BadForm",some s!"__init__"))))∧PySem.W.typeIn K (.ref (He.fAd K (s!"BadForm",some s!"__init__")))=some (.type "function")
 xb_BadForm:PySem.W.specialIn K (.ref (He.ga K s!"TownError")) "__getattribute__"=some (some (.builtin "type.__getattribute__"))∧PySem.W.readsIn K (He.ga K s!"TownError") (.type "type")=true∧PySem.W.findCls K (.ref (He.ga K s!"TownError")) (.type "type") "__init__"=some (.val (.builtin "ValueError.__init__"))∧mg s!"TownError"=some (.ref (He.ga K s!"TownError"))
 xc_BadLimits:XC K (He.ga K s!"BadLimits") [.type "ValueError",.type "Exception",.type "BaseException",.type "object"] "ValueError.__new__"
 xi0_BadLimits:PySem.W.findIn K (.ref (He.ga K s!"BadLimits")) "__init__"=some (some (.ref (He.fAd K (s!"BadLimits",some s!"__init__"))))∧PySem.W.typeIn K (.ref (He.fAd K (s!"BadLimits",some s!"__init__")))=some (.type "function")
 xb_BadLimits:PySem.W.specialIn K (.ref (He.ga K s!"TownError")) "__getattribute__"=some (some (.builtin "type.__getattribute__"))∧PySem.W.readsIn K (He.ga K s!"TownError") (.type "type")=true∧PySem.W.findCls K (.ref (He.ga K s!"TownError")) (.type "type") "__init__"=some (.val (.builtin "ValueError.__init__"))∧mg s!"TownError"=some (.ref (He.ga K s!"TownError"))
 xc_BadPart:XC K (He.ga K s!"BadPart") [.type "ValueError",.type "Exception",.type "BaseException",.type "object"] "ValueError.__new__"
 xi0_BadPart:PySem.W.findIn K (.ref (He.ga K s!"BadPart")) "__init__"=some (some (.ref (He.fAd K (s!"BadPart",some s!"__init__"))))∧PySem.W.typeIn K (.ref (He.fAd K (s!"BadPart",some s!"__init__")))=some (.type "function")
 xb_BadPart:PySem.W.specialIn K (.ref (He.ga K s!"TownError")) "__getattribute__"=some (some (.builtin "type.__getattribute__"))∧PySem.W.readsIn K (He.ga K s!"TownError") (.type "type")=true∧PySem.W.findCls K (.ref (He.ga K s!"TownError")) (.type "type") "__init__"=some (.val (.builtin "ValueError.__init__"))∧mg s!"TownError"=some (.ref (He.ga K s!"TownError"))
 xc_TooMany:XC K (He.ga K s!"TooMany") [.type "OverflowError",.type "ArithmeticError",.type "Exception",.type "BaseException",.type "object"] "OverflowError.__new__"
 xi0_TooMany:PySem.W.findIn K (.ref (He.ga K s!"TooMany")) "__init__"=some (some (.ref (He.fAd K (s!"TooMany",some s!"__init__"))))∧PySem.W.typeIn K (.ref (He.fAd K (s!"TooMany",some s!"__init__")))=some (.type "function")
 xb_TooMany:PySem.W.findCls K (.type "OverflowError") (.type "type") "__init__"=some (.val (.builtin "OverflowError.__init__"))∧mg s!"OverflowError"=none
 xn_BadForm:PySem.W.findIn K (.ref (He.ga K s!"BadForm")) s!"index"=some none
 xn_BadLimits:PySem.W.findIn K (.ref (He.ga K s!"BadLimits")) s!"limits"=some none
 xn_BadPart:PySem.W.findIn K (.ref (He.ga K s!"BadPart")) s!"part"=some none
 xn_TooMany:PySem.W.findIn K (.ref (He.ga K s!"TooMany")) s!"limit"=some none
 sp_LN_Form_Form:spB K (He.ga K s!"Form") s!"__len__" (He.fAd K (s!"Form",some s!"__len__"))=true
 sp_LE_Form_Form:spB K (He.ga K s!"Form") s!"__le__" (He.fAd K (s!"Form",some s!"__le__"))=true
 nf_LE_Form_Form:nfB K (cl K) 1 (He.ga K s!"Form")=true
 sp_EQ_Form_Form:spB K (He.ga K s!"Form") s!"__eq__" (He.fAd K (s!"Form",some s!"__eq__"))=true
 nf_EQ_Form_Form:nfB K (cl K) 1 (He.ga K s!"Form")=true
 ne_EQ_Form_Form:neB K (He.ga K s!"Form")=true
 sp_OR_Form_Form:spB K (He.ga K s!"Form") s!"__or__" (He.fAd K (s!"Form",some s!"__or__"))=true
 sf_OR_Form_Form:PySem.W.selfFirst K (He.ga K s!"Form")=true
 sp_AD_Form_Form:spB K (He.ga K s!"Form") s!"__add__" (He.fAd K (s!"Form",some s!"__add__"))=true
 sf_AD_Form_Form:PySem.W.selfFirst K (He.ga K s!"Form")=true
 sp_CA_Form_Form:spB K (He.ga K s!"Form") s!"__call__" (He.fAd K (s!"Form",some s!"__call__"))=true
variable {P:Program}{w:World}{K:PySem.W.Frag}{mg:PySem.Str→Option Value}{base:Heap}{Θ:List NdefX.NTab}
theorem sc_BadForm___init__:FnScope N_BadForm___init__ P_BadForm___init__ (defScope s_BadForm___init__):=⟨rfl,rfl,rfl,by decide +kernel,rfl,by decide +kernel,by decide +kernel⟩
theorem xc_BadForm (Z:Fx P w K mg):XcFact P w K mg base (G P w K) s!"BadForm" C_BadForm 1 s!"index":=by
 obtain ⟨fd,F⟩:=Z.d_BadForm___init__
 exact ⟨_,_,_,_,_,fd,P_BadForm___init__,eb_ve,Z.xc_BadForm,Z.xn_BadForm,Z.gc_BadForm,Z.xi0_BadForm.1,Z.xi0_BadForm.2,F.bindsN fun _ _ _ _ _ _ us hl=>match us,hl with | [_,_],_=>rfl,okx_of eb_ve F sc_BadForm___init__ (fun cdv A outer s H E=>base_own Z.xb_BadForm.2.2.2 Z.xb_BadForm.1 Z.xb_BadForm.2.1 Z.xb_BadForm.2.2.1) (by first | exact Or.inl rfl | exact Or.inr (Or.inl rfl)) (by first | exact Or.inl rfl | exact Or.inr (Or.inl rfl)) (by decide) (by decide) (by decide) (by decide)⟩
theorem sc_BadLimits___init__:FnScope N_BadLimits___init__ P_BadLimits___init__ (defScope s_BadLimits___init__):=⟨rfl,rfl,rfl,by decide +kernel,rfl,by decide +kernel,by decide +kernel⟩
theorem xc_BadLimits (Z:Fx P w K mg):XcFact P w K mg base (G P w K) s!"BadLimits" C_BadLimits 1 s!"limits":=by
 obtain ⟨fd,F⟩:=Z.d_BadLimits___init__
 exact ⟨_,_,_,_,_,fd,P_BadLimits___init__,eb_ve,Z.xc_BadLimits,Z.xn_BadLimits,Z.gc_BadLimits,Z.xi0_BadLimits.1,Z.xi0_BadLimits.2,F.bindsN fun _ _ _ _ _ _ us hl=>match us,hl with | [_,_],_=>rfl,okx_of eb_ve F sc_BadLimits___init__ (fun cdv A outer s H E=>base_own Z.xb_BadLimits.2.2.2 Z.xb_BadLimits.1 Z.xb_BadLimits.2.1 Z.xb_BadLimits.2.2.1) (by first | exact Or.inl rfl | exact Or.inr (Or.inl rfl)) (by first | exact Or.inl rfl | exact Or.inr (Or.inl rfl)) (by decide) (by decide) (by decide) (by decide)⟩
theorem sc_BadPart___init__:FnScope N_BadPart___init__ P_BadPart___init__ (defScope s_BadPart___init__):=⟨rfl,rfl,rfl,by decide +kernel,rfl,by decide +kernel,by decide +kernel⟩
theorem xc_BadPart (Z:Fx P w K mg):XcFact P w K mg base (G P w K) s!"BadPart" C_BadPart 1 s!"part":=by
 obtain ⟨fd,F⟩:=Z.d_BadPart___init__
 exact ⟨_,_,_,_,_,fd,P_BadPart___init__,eb_ve,Z.xc_BadPart,Z.xn_BadPart,Z.gc_BadPart,Z.xi0_BadPart.1,Z.xi0_BadPart.2,F.bindsN fun _ _ _ _ _ _ us hl=>match us,hl with | [_,_],_=>rfl,okx_of eb_ve F sc_BadPart___init__ (fun cdv A outer s H E=>base_own Z.xb_BadPart.2.2.2 Z.xb_BadPart.1 Z.xb_BadPart.2.1 Z.xb_BadPart.2.2.1) (by first | exact Or.inl rfl | exact Or.inr (Or.inl rfl)) (by first | exact Or.inl rfl | exact Or.inr (Or.inl rfl)) (by decide) (by decide) (by decide) (by decide)⟩
theorem sc_TooMany___init__:FnScope N_TooMany___init__ P_TooMany___init__ (defScope s_TooMany___init__):=⟨rfl,rfl,rfl,by decide +kernel,rfl,by decide +kernel,by decide +kernel⟩
theorem xc_TooMany (Z:Fx P w K mg):XcFact P w K mg base (G P w K) s!"TooMany" C_TooMany 1 s!"limit":=by
 obtain ⟨fd,F⟩:=Z.d_TooMany___init__
 exact ⟨_,_,_,_,_,fd,P_TooMany___init__,eb_oe,Z.xc_TooMany,Z.xn_TooMany,Z.gc_TooMany,Z.xi0_TooMany.1,Z.xi0_TooMany.2,F.bindsN fun _ _ _ _ _ _ us hl=>match us,hl with | [_,_],_=>rfl,okx_of eb_oe F sc_TooMany___init__ (fun cdv A outer s H E=>base_blt Z.xb_TooMany.2 (by decide +kernel) (by first | rfl | kernel_rfl) (by decide +kernel) Z.xb_TooMany.1) (by first | exact Or.inl rfl | exact Or.inr (Or.inl rfl)) (by first | exact Or.inl rfl | exact Or.inr (Or.inl rfl)) (by decide) (by decide) (by decide) (by decide)⟩
theorem sc_Form___len__:FnScope N_Form___len__ P_Form___len__ (defScope s_Form___len__):=⟨rfl,rfl,rfl,by decide +kernel,rfl,by decide +kernel,by decide +kernel⟩
theorem okf_Form___len__ (Z:Fx P w K mg){fd:FuncData}(F:FunD K s!"__len__" s!"Form.__len__" (defArgs s_Form___len__) (defBody s_Form___len__) (defScope s_Form___len__) [] [] (He.fAd K (s!"Form",some s!"__len__")) fd):FnOkG P w K mg base 1 (He.fAd K (s!"Form",some s!"__len__")) fd P_Form___len__ (spF (G P w K) Θ 1 f_Form___len__):=by
 refine okf_of F sc_Form___len__ rfl rfl fun cdv A outer s H vs E U hr=>?_
 refine kitS hr sc_Form___len__ fun nd u1 u64 u65 u190 gd tk hp=>?_
 exact (js_one (js_ret (je_callB call_lenAll lenD_ok Z.b_len boot_len (ja_cons (je_fld Z.tab rfl (je_var 0)) ja_nil))))
theorem tab_LN_Form (Z:Fx P w K mg):SpTab P w K mg base (G P w K) Θ s!"__len__" 1 1 LN_Form:=by
 obtain ⟨fd_Form,F_Form⟩:=Z.d_Form___len__
 exact (sptab_cons (sp_of (c:=C_Form) Z.sp_LN_Form_Form (F_Form.bindsN fun _ _ _ _ _ _ us hl=>match us,hl with | [_],_=>rfl) ((okf_Form___len__ Z F_Form).mono (by decide))) sptab_nil)
theorem sc__law_pool:FnScope N__law_pool P__law_pool (defScope s__law_pool):=⟨rfl,rfl,rfl,by decide +kernel,rfl,by decide +kernel,by decide +kernel⟩
theorem okf__law_pool (Z:Fx P w K mg){fd:FuncData}(F:FunD K s!"_law_pool" s!"_law_pool" (defArgs s__law_pool) (defBody s__law_pool) (defScope s__law_pool) [] [] (He.fAd K (s!"_law_pool",none)) fd):FnOkG P w K mg base 3 (He.fAd K (s!"_law_pool",none)) fd P__law_pool (spF (G P w K) Θ 2 f__law_pool):=by
 refine okf_of F sc__law_pool rfl rfl fun cdv A outer s H vs E U hr=>?_
 refine kitS hr sc__law_pool fun nd u1 u64 u65 u190 gd tk hp=>?_
 exact (js_cons (jsN 2 nd (je_if (jt_cmp op_ltD ltD_ok (je_var 1) (je_callB (call_lenAll.or (call_lenO (tab_LN_Form Z) (hr.mono (by decide)))) (lenD_ok.or lenOD_ok) Z.b_len boot_len (ja_cons (je_var 0) ja_nil)) (nomark _)) (je_ix rfl u1 (je_var 0) (je_var 1)) (je_bin op_addD addD_ok (je_bin op_mulD mulD_ok je_int (je_callB (cr_sum rfl) sumD_ok Z.b_sum (by decide +kernel) (ja_cons (je_sl rfl (je_var 0) .none (.some je_int)) ja_nil))) (je_var 1)))) (js_cons (jsN 3 nd (je_callB call_abs absD_ok Z.b_abs boot_abs (ja_cons (je_var 2) ja_nil))) (js_cons (jsN 4 nd (je_bin op_addD addD_ok (je_bin op_addD addD_ok (je_bin op_addD addD_ok (je_bin op_mod modD_ok (je_callTy call_int1 intD_ok Z.b_int (by decide +kernel) (ja_cons (je_var 3) ja_nil)) je_int) (je_bin op_mulD mulD_ok (je_bin op_mulD mulD_ok je_int (je_var 1)) (je_var 1))) (je_bin op_mulD mulD_ok je_int (je_var 1))) je_int)) (js_cons (jsN 4 nd (je_bin op_mod modD_ok (je_callTy call_int1 intD_ok Z.b_int (by decide +kernel) (ja_cons (je_bin op_mulD mulD_ok (je_var 4) je_int) ja_nil)) je_int)) (js_one (js_ret (je_lst (ja_cons (je_bin op_mulD mulD_ok (je_var 3) (je_callTy call_int1 intD_ok Z.b_int (by decide +kernel) (ja_cons (je_cmp op_ge geD_ok (je_var 3) (je_bin op_pow powD_ok je_int je_int) (nomark _)) ja_nil))) (ja_cons (je_bin op_mod modD_ok (je_callTy call_int1 intD_ok Z.b_int (by decide +kernel) (ja_cons (je_bin op_mulD mulD_ok (je_var 4) (je_var 4)) ja_nil)) je_int) ja_nil)))))))))
theorem fact__law_pool (Z:Fx P w K mg):FnFact P w K mg base (G P w K) Θ s!"_law_pool" 2 3 P__law_pool f__law_pool:=by
 obtain ⟨fd,F⟩:=Z.d__law_pool
 exact fact_of F Z.g__law_pool (fun _ _ _ _ _ _ us hl=>match us,hl with | [_,_],_=>rfl) (okf__law_pool Z F)
theorem sc__law_draw:FnScope N__law_draw P__law_draw (defScope s__law_draw):=⟨rfl,rfl,rfl,by decide +kernel,rfl,by decide +kernel,by decide +kernel⟩
theorem okf__law_draw (Z:Fx P w K mg){fd:FuncData}(F:FunD K s!"_law_draw" s!"_law_draw" (defArgs s__law_draw) (defBody s__law_draw) (defScope s__law_draw) [] [] (He.fAd K (s!"_law_draw",none)) fd):FnOkG P w K mg base 1 (He.fAd K (s!"_law_draw",none)) fd P__law_draw (spF (G P w K) Θ 2 f__law_draw):=by
 refine okf_of F sc__law_draw rfl rfl fun cdv A outer s H vs E U hr=>?_
 refine kitS hr sc__law_draw fun nd u1 u64 u65 u190 gd tk hp=>?_
 exact (js_cons (js_if (jt_cmp op_gt gtD_ok (je_ix rfl u1 (je_var 0) je_int) je_int (nomark _)) (js_cons (jsN 2 nd (je_bin op_mod modD_ok (je_callTy call_int1 intD_ok Z.b_int (by decide +kernel) (ja_cons (je_ix rfl u1 (je_var 0) je_int) ja_nil)) (je_var 1))) (js_cons (js_store u1 (je_bin op_fdivW fdivW_ok (je_ix rfl u1 (je_var 0) je_int) (je_var 1)) (je_var 0) je_int (hsub:=pg_sub (je_f (je_var 0)) (je_f je_int) (set_D u1))) (js_one (js_ret (je_var 2))))) js_nil) (js_cons (js_store u1 (je_bin op_mod modD_ok (je_callTy call_int1 intD_ok Z.b_int (by decide +kernel) (ja_cons (je_bin op_addD addD_ok (je_bin op_mulD mulD_ok (je_ix rfl u1 (je_var 0) je_int) je_int) je_int) ja_nil)) je_int) (je_var 0) je_int (hsub:=pg_sub (je_f (je_var 0)) (je_f je_int) (set_D u1))) (js_one (js_ret (je_bin op_mod modD_ok (je_callTy call_int1 intD_ok Z.b_int (by decide +kernel) (ja_cons (je_bin op_fdivW fdivW_ok (je_bin op_mod modD_ok (je_callTy call_int1 intD_ok Z.b_int (by decide +kernel) (ja_cons (je_bin op_mulD mulD_ok (je_ix rfl u1 (je_var 0) je_int) (je_ix rfl u1 (je_var 0) je_int)) ja_nil)) je_int) je_int) ja_nil)) (je_var 1))))))
theorem fact__law_draw (Z:Fx P w K mg):FnFact P w K mg base (G P w K) Θ s!"_law_draw" 2 1 P__law_draw f__law_draw:=by
 obtain ⟨fd,F⟩:=Z.d__law_draw
 exact fact_of F Z.g__law_draw (fun _ _ _ _ _ _ us hl=>match us,hl with | [_,_],_=>rfl) (okf__law_draw Z F)
theorem sc__law_term:FnScope N__law_term P__law_term (defScope s__law_term):=⟨rfl,rfl,rfl,by decide +kernel,rfl,by decide +kernel,by decide +kernel⟩
theorem okf__law_term (Z:Fx P w K mg){fd:FuncData}(F:FunD K s!"_law_term" s!"_law_term" (defArgs s__law_term) (defBody s__law_term) (defScope s__law_term) [] [] (He.fAd K (s!"_law_term",none)) fd):FnOkG P w K mg base 2 (He.fAd K (s!"_law_term",none)) fd P__law_term (spF (G P w K) Θ 2 f__law_term):=by
 refine okf_of F sc__law_term rfl rfl fun cdv A outer s H vs E U hr=>?_
 refine kitS hr sc__law_term fun nd u1 u64 u65 u190 gd tk hp=>?_
 exact (js_one (js_ret (je_tup (ja_cons (je_callTy call_tuple_of tupleD_ok Z.b_tuple (by decide +kernel) (ja_cons (je_lc (own:=[(s!"_law_place",2)]) (g:=(gName 2)) rfl nd (ji_range Z.b_range (ja_cons (je_var 1) ja_nil)) (blkOk_by (own:=[(s!"_law_place",2)]) (N:=N__law_term) (sc:=defScope s__law_term) (by decide +kernel)) (by exact fun _=>(tv_name (by decide))) (fun _ _ _ _ _=>(pgN 2 nd)) (fun _ _ _ _ _ _=>jts_nil) (fun _ _ _ _ _ _=>(je_callF takes0 (fact__law_draw Z) (hr.mono (by decide)) (ja_cons (je_var 0) (ja_cons je_int ja_nil))))) ja_nil)) (ja_cons (je_callF tk (fact__law_draw Z) (hr.mono (by decide)) (ja_cons (je_var 0) (ja_cons je_int ja_nil))) ja_nil)))))
theorem fact__law_term (Z:Fx P w K mg):FnFact P w K mg base (G P w K) Θ s!"_law_term" 2 2 P__law_term f__law_term:=by
 obtain ⟨fd,F⟩:=Z.d__law_term
 exact fact_of F Z.g__law_term (fun _ _ _ _ _ _ us hl=>match us,hl with | [_,_],_=>rfl) (okf__law_term Z F)
theorem sc__law_terms:FnScope N__law_terms P__law_terms (defScope s__law_terms):=⟨rfl,rfl,rfl,by decide +kernel,rfl,by decide +kernel,by decide +kernel⟩
theorem okf__law_terms (Z:Fx P w K mg){fd:FuncData}(F:FunD K s!"_law_terms" s!"_law_terms" (defArgs s__law_terms) (defBody s__law_terms) (defScope s__law_terms) [] [] (He.fAd K (s!"_law_terms",none)) fd):FnOkG P w K mg base 3 (He.fAd K (s!"_law_terms",none)) fd P__law_terms (spF (G P w K) Θ 2 f__law_terms):=by
 refine okf_of F sc__law_terms rfl rfl fun cdv A outer s H vs E U hr=>?_
 refine kitS hr sc__law_terms fun nd u1 u64 u65 u190 gd tk hp=>?_
 exact (js_one (js_ret (je_lc (own:=[(s!"_law_turn",2)]) (g:=(gName 2)) rfl nd (ji_range Z.b_range (ja_cons (je_callF tk (fact__law_draw Z) (hr.mono (by decide)) (ja_cons (je_var 0) (ja_cons je_int ja_nil))) ja_nil)) (blkOk_by (own:=[(s!"_law_turn",2)]) (N:=N__law_terms) (sc:=defScope s__law_terms) (by decide +kernel)) (by exact fun _=>(tv_name (by decide))) (fun _ _ _ _ _=>(pgN 2 nd)) (fun _ _ _ _ _ _=>jts_nil) (fun _ _ _ _ _ _=>(je_callF takes0 (fact__law_term Z) (hr.mono (by decide)) (ja_cons (je_var 0) (ja_cons (je_var 1) ja_nil)))))))
theorem fact__law_terms (Z:Fx P w K mg):FnFact P w K mg base (G P w K) Θ s!"_law_terms" 2 3 P__law_terms f__law_terms:=by
 obtain ⟨fd,F⟩:=Z.d__law_terms
 exact fact_of F Z.g__law_terms (fun _ _ _ _ _ _ us hl=>match us,hl with | [_,_],_=>rfl) (okf__law_terms Z F)
theorem sc_is_integer:FnScope N_is_integer P_is_integer (defScope s_is_integer):=⟨rfl,rfl,rfl,by decide +kernel,rfl,by decide +kernel,by decide +kernel⟩
theorem okf_is_integer (Z:Fx P w K mg){fd:FuncData}(F:FunD K s!"is_integer" s!"is_integer" (defArgs s_is_integer) (defBody s_is_integer) (defScope s_is_integer) [] [] (He.fAd K (s!"is_integer",none)) fd):FnOkG P w K mg base 1 (He.fAd K (s!"is_integer",none)) fd P_is_integer (spF (G P w K) Θ 1 f_is_integer):=by
 refine okf_of F sc_is_integer rfl rfl fun cdv A outer s H vs E U hr=>?_
 refine kitS hr sc_is_integer fun nd u1 u64 u65 u190 gd tk hp=>?_
 exact (js_one (js_ret (je_and (je_callB call_isiAll (by exact isiD_ok Z.tab) Z.b_isinstance (by decide +kernel) (ja_cons (je_var 0) (ja_cons (je_ty Z.b_int (by decide +kernel)) ja_nil))) (pe_one (je_not (je_callB call_isiAll (by exact isiD_ok Z.tab) Z.b_isinstance (by decide +kernel) (ja_cons (je_var 0) (ja_cons (je_ty Z.b_bool (by decide +kernel)) ja_nil))))))))
theorem fact_is_integer (Z:Fx P w K mg):FnFact P w K mg base (G P w K) Θ s!"is_integer" 1 1 P_is_integer f_is_integer:=by
 obtain ⟨fd,F⟩:=Z.d_is_integer
 exact fact_of F Z.g_is_integer (fun _ _ _ _ _ _ us hl=>match us,hl with | [_],_=>rfl) (okf_is_integer Z F)
theorem sc_unit:FnScope N_unit P_unit (defScope s_unit):=⟨rfl,rfl,rfl,by decide +kernel,rfl,by decide +kernel,by decide +kernel⟩
theorem okf_unit (Z:Fx P w K mg){fd:FuncData}(F:FunD K s!"unit" s!"unit" (defArgs s_unit) (defBody s_unit) (defScope s_unit) [] [] (He.fAd K (s!"unit",none)) fd):FnOkG P w K mg base 1 (He.fAd K (s!"unit",none)) fd P_unit (spF (G P w K) Θ 2 f_unit):=by
 refine okf_of F sc_unit rfl rfl fun cdv A outer s H vs E U hr=>?_
 refine kitS hr sc_unit fun nd u1 u64 u65 u190 gd tk hp=>?_
 exact (js_one (js_ret (je_callTy call_tuple_of tupleD_ok Z.b_tuple (by decide +kernel) (ja_cons (je_lc (own:=[(s!"place",2)]) (g:=(gName 2)) rfl nd (ji_range Z.b_range (ja_cons (je_var 0) ja_nil)) (blkOk_by (own:=[(s!"place",2)]) (N:=N_unit) (sc:=defScope s_unit) (by decide +kernel)) (by exact fun _=>(tv_name (by decide))) (fun _ _ _ _ _=>(pgN 2 nd)) (fun _ _ _ _ _ _=>jts_nil) (fun _ _ _ _ _ _=>(je_callTy call_int1 intD_ok Z.b_int (by decide +kernel) (ja_cons (je_cmp (op_eqAll u64) eqD_ok (je_var 2) (je_var 1) (nomark _)) ja_nil)))) ja_nil))))
theorem fact_unit (Z:Fx P w K mg):FnFact P w K mg base (G P w K) Θ s!"unit" 2 1 P_unit f_unit:=by
 obtain ⟨fd,F⟩:=Z.d_unit
 exact fact_of F Z.g_unit (fun _ _ _ _ _ _ us hl=>match us,hl with | [_,_],_=>rfl) (okf_unit Z F)
theorem sc_common_divisor:FnScope N_common_divisor P_common_divisor (defScope s_common_divisor):=⟨rfl,rfl,rfl,by decide +kernel,rfl,by decide +kernel,by decide +kernel⟩
theorem okf_common_divisor (Z:Fx P w K mg){fd:FuncData}(F:FunD K s!"common_divisor" s!"common_divisor" (defArgs s_common_divisor) (defBody s_common_divisor) (defScope s_common_divisor) [] [] (He.fAd K (s!"common_divisor",none)) fd):FnOkG P w K mg base 1 (He.fAd K (s!"common_divisor",none)) fd P_common_divisor (spF (G P w K) Θ 1 f_common_divisor):=by
 refine okf_of F sc_common_divisor rfl rfl fun cdv A outer s H vs E U hr=>?_
 refine kitS hr sc_common_divisor fun nd u1 u64 u65 u190 gd tk hp=>?_
 exact (js_cons (jsN 1 nd je_int) (js_cons (js_for hp rfl (ji_seq rfl (je_var 0)) (pgN 2 nd) tg_name (js_cons (by first | exact (js_par2 rfl nd (jn_cons (je_var 1) (fun _=>(jn_cons (je_callB call_abs absD_ok Z.b_abs boot_abs (ja_cons (je_var 2) ja_nil)) (fun _=>jn_nil))))) | exact (js_parN rfl (pg_tup rfl (pgs_cons (pgN 3 nd) (pgs_cons (pgN 4 nd) pgs_nil))) rfl (by decide) (jn_cons (je_var 1) (fun _=>(jn_cons (je_callB call_abs absD_ok Z.b_abs boot_abs (ja_cons (je_var 2) ja_nil)) (fun _=>jn_nil)))))) (js_cons (js_while 1000000 hp (jt_cmp (op_neAll u64) neD_ok (je_var 4) je_int (nomark _)) (js_one (by first | exact (js_par2 rfl nd (jn_cons (je_var 4) (fun _=>(jn_cons (je_bin op_mod modD_ok (je_callTy call_int1 intD_ok Z.b_int (by decide +kernel) (ja_cons (je_var 3) ja_nil)) (je_callTy call_int1 intD_ok Z.b_int (by decide +kernel) (ja_cons (je_var 4) ja_nil))) (fun _=>jn_nil))))) | exact (js_parN rfl (pg_tup rfl (pgs_cons (pgN 3 nd) (pgs_cons (pgN 4 nd) pgs_nil))) rfl (by decide) (jn_cons (je_var 4) (fun _=>(jn_cons (je_bin op_mod modD_ok (je_callTy call_int1 intD_ok Z.b_int (by decide +kernel) (ja_cons (je_var 3) ja_nil)) (je_callTy call_int1 intD_ok Z.b_int (by decide +kernel) (ja_cons (je_var 4) ja_nil))) (fun _=>jn_nil)))))))) (js_one (jsN 1 nd (je_var 3)))))) (js_one (js_ret (je_if (jt_cmp op_gt gtD_ok (je_var 1) je_int (nomark _)) (je_var 1) je_int)))))
theorem fact_common_divisor (Z:Fx P w K mg):FnFact P w K mg base (G P w K) Θ s!"common_divisor" 1 1 P_common_divisor f_common_divisor:=by
 obtain ⟨fd,F⟩:=Z.d_common_divisor
 exact fact_of F Z.g_common_divisor (fun _ _ _ _ _ _ us hl=>match us,hl with | [_],_=>rfl) (okf_common_divisor Z F)
theorem sc_shortened:FnScope N_shortened P_shortened (defScope s_shortened):=⟨rfl,rfl,rfl,by decide +kernel,rfl,by decide +kernel,by decide +kernel⟩
theorem okf_shortened (Z:Fx P w K mg){fd:FuncData}(F:FunD K s!"shortened" s!"shortened" (defArgs s_shortened) (defBody s_shortened) (defScope s_shortened) [] [] (He.fAd K (s!"shortened",none)) fd):FnOkG P w K mg base 2 (He.fAd K (s!"shortened",none)) fd P_shortened (spF (G P w K) Θ 1 f_shortened):=by
 refine okf_of F sc_shortened rfl rfl fun cdv A outer s H vs E U hr=>?_
 refine kitS hr sc_shortened fun nd u1 u64 u65 u190 gd tk hp=>?_
 exact (js_cons (jsN 1 nd (je_callF tk (fact_common_divisor Z) (hr.mono (by decide)) (ja_cons (je_var 0) ja_nil))) (js_one (js_ret (je_callTy call_tuple_of tupleD_ok Z.b_tuple (by decide +kernel) (ja_cons (je_lc (own:=[(s!"number",2)]) (g:=(gName 2)) rfl nd (ji_seq rfl (je_var 0)) (blkOk_by (own:=[(s!"number",2)]) (N:=N_shortened) (sc:=defScope s_shortened) (by decide +kernel)) (by exact fun _=>(tv_name (by decide))) (fun _ _ _ _ _=>(pgN 2 nd)) (fun _ _ _ _ _ _=>jts_nil) (fun _ _ _ _ _ _=>(je_bin op_fdiv fdivD_ok (je_var 2) (je_var 1)))) ja_nil)))))
theorem fact_shortened (Z:Fx P w K mg):FnFact P w K mg base (G P w K) Θ s!"shortened" 1 2 P_shortened f_shortened:=by
 obtain ⟨fd,F⟩:=Z.d_shortened
 exact fact_of F Z.g_shortened (fun _ _ _ _ _ _ us hl=>match us,hl with | [_],_=>rfl) (okf_shortened Z F)
theorem sc_less:FnScope N_less P_less (defScope s_less):=⟨rfl,rfl,rfl,by decide +kernel,rfl,by decide +kernel,by decide +kernel⟩
theorem okf_less (Z:Fx P w K mg){fd:FuncData}(F:FunD K s!"less" s!"less" (defArgs s_less) (defBody s_less) (defScope s_less) [] [] (He.fAd K (s!"less",none)) fd):FnOkG P w K mg base 1 (He.fAd K (s!"less",none)) fd P_less (spF (G P w K) Θ 2 f_less):=by
 refine okf_of F sc_less rfl rfl fun cdv A outer s H vs E U hr=>?_
 refine kitS hr sc_less fun nd u1 u64 u65 u190 gd tk hp=>?_
 exact (js_one (js_ret (je_lc (own:=[(s!"number",2),(s!"more",3)]) (g:=(gTup K 2 (gCons (gName 2) (gCons (gName 3) gNil)))) rfl nd (ji_zip2 rfl Z.b_zip (ja_cons (je_var 0) (ja_cons (je_var 1) ja_nil))) (blkOk_by (own:=[(s!"number",2),(s!"more",3)]) (N:=N_less) (sc:=defScope s_less) (by decide +kernel)) (by exact fun _=>(tv_tup (tvs_cons (tv_name (by decide)) (tvs_cons (tv_name (by decide)) tvs_nil)))) (fun _ _ _ _ _=>(pg_tup rfl (pgs_cons (pgN 2 nd) (pgs_cons (pgN 3 nd) pgs_nil)))) (fun _ _ _ _ _ _=>jts_nil) (fun _ _ _ _ _ _=>(je_bin op_sub subD_ok (je_var 2) (je_var 3))))))
theorem fact_less (Z:Fx P w K mg):FnFact P w K mg base (G P w K) Θ s!"less" 2 1 P_less f_less:=by
 obtain ⟨fd,F⟩:=Z.d_less
 exact fact_of F Z.g_less (fun _ _ _ _ _ _ us hl=>match us,hl with | [_,_],_=>rfl) (okf_less Z F)
theorem sc_joined_row:FnScope N_joined_row P_joined_row (defScope s_joined_row):=⟨rfl,rfl,rfl,by decide +kernel,rfl,by decide +kernel,by decide +kernel⟩
theorem okf_joined_row (Z:Fx P w K mg){fd:FuncData}(F:FunD K s!"joined_row" s!"joined_row" (defArgs s_joined_row) (defBody s_joined_row) (defScope s_joined_row) [] [] (He.fAd K (s!"joined_row",none)) fd):FnOkG P w K mg base 3 (He.fAd K (s!"joined_row",none)) fd P_joined_row (spF (G P w K) Θ 3 f_joined_row):=by
 refine okf_of F sc_joined_row rfl rfl fun cdv A outer s H vs E U hr=>?_
 refine kitS hr sc_joined_row fun nd u1 u64 u65 u190 gd tk hp=>?_
 exact (js_cons (by first | exact (js_par2 rfl nd (jn_cons (je_un un_neg negD_ok (je_ix rfl u1 (je_ix rfl u1 (je_var 1) je_int) (je_var 2))) (fun _=>(jn_cons (je_ix rfl u1 (je_ix rfl u1 (je_var 0) je_int) (je_var 2)) (fun _=>jn_nil))))) | exact (js_parN rfl (pg_tup rfl (pgs_cons (pgN 5 nd) (pgs_cons (pgN 6 nd) pgs_nil))) rfl (by decide) (jn_cons (je_un un_neg negD_ok (je_ix rfl u1 (je_ix rfl u1 (je_var 1) je_int) (je_var 2))) (fun _=>(jn_cons (je_ix rfl u1 (je_ix rfl u1 (je_var 0) je_int) (je_var 2)) (fun _=>jn_nil)))))) (js_cons (by first | exact (js_setLc (i:=3) (own:=[(s!"one",7),(s!"two",8)]) (g:=(gTup K 2 (gCons (gName 7) (gCons (gName 8) gNil)))) rfl nd rfl (sw_true rfl rfl rfl (by decide +kernel)) (ji_zip2 rfl Z.b_zip (ja_cons (je_ix rfl u1 (je_var 0) je_int) (ja_cons (je_ix rfl u1 (je_var 1) je_int) ja_nil))) (blkOk_by (own:=[(s!"one",7),(s!"two",8)]) (N:=N_joined_row) (sc:=defScope s_joined_row) (by decide +kernel)) (by exact fun _=>(tv_tup (tvs_cons (tv_name (by decide)) (tvs_cons (tv_name (by decide)) tvs_nil)))) (fun _ _ _ _ _=>(pg_tup rfl (pgs_cons (pgN 7 nd) (pgs_cons (pgN 8 nd) pgs_nil)))) (fun _ _ _ _ _ _=>jts_nil) (fun _ _ _ _ _ _=>(je_bin op_addD addD_ok (je_bin op_mulD mulD_ok (je_var 7) (je_var 5)) (je_bin op_mulD mulD_ok (je_var 8) (je_var 6))))) | exact (jsN 3 nd (je_lc (own:=[(s!"one",7),(s!"two",8)]) (g:=(gTup K 2 (gCons (gName 7) (gCons (gName 8) gNil)))) rfl nd (ji_zip2 rfl Z.b_zip (ja_cons (je_ix rfl u1 (je_var 0) je_int) (ja_cons (je_ix rfl u1 (je_var 1) je_int) ja_nil))) (blkOk_by (own:=[(s!"one",7),(s!"two",8)]) (N:=N_joined_row) (sc:=defScope s_joined_row) (by decide +kernel)) (by exact fun _=>(tv_tup (tvs_cons (tv_name (by decide)) (tvs_cons (tv_name (by decide)) tvs_nil)))) (fun _ _ _ _ _=>(pg_tup rfl (pgs_cons (pgN 7 nd) (pgs_cons (pgN 8 nd) pgs_nil)))) (fun _ _ _ _ _ _=>jts_nil) (fun _ _ _ _ _ _=>(je_bin op_addD addD_ok (je_bin op_mulD mulD_ok (je_var 7) (je_var 5)) (je_bin op_mulD mulD_ok (je_var 8) (je_var 6))))))) (js_cons (jsN 4 nd (je_lst (ja_star rfl (je_ix rfl u1 (je_var 0) je_int) (ja_star rfl (je_lc (own:=[(s!"origin",9)]) (g:=(gName 9)) rfl nd (ji_seq rfl (je_ix rfl u1 (je_var 1) je_int)) (blkOk_by (own:=[(s!"origin",9)]) (N:=N_joined_row) (sc:=defScope s_joined_row) (by decide +kernel)) (by exact fun _=>(tv_name (by decide))) (fun _ _ _ _ _=>(pgN 9 nd)) (fun _ _ _ _ _ _=>(jts_one (jt_cmp (op_notInB u65) inD_ok (je_var 9) (je_ix rfl u1 (je_var 0) je_int) rfl))) (fun _ _ _ _ _ _=>(je_var 9))) ja_nil)))) (js_one (js_ret (je_tup (ja_cons (je_callF tk (fact_shortened Z) (hr.mono (by decide)) (ja_cons (je_var 3) ja_nil)) (ja_cons (je_or (je_ix rfl u1 (je_var 0) je_int) (pe_one (je_ix rfl u1 (je_var 1) je_int))) (ja_cons (je_callTy call_tuple_of tupleD_ok Z.b_tuple (by decide +kernel) (ja_cons (je_callB cr_sortedI sortedID_ok Z.b_sorted (by decide +kernel) (ja_cons (je_lc (own:=[(s!"origin",9)]) (g:=(gName 9)) rfl nd (ji_seq rfl (je_var 4)) (blkOk_by (own:=[(s!"origin",9)]) (N:=N_joined_row) (sc:=defScope s_joined_row) (by decide +kernel)) (by exact fun _=>(tv_name (by decide))) (fun _ _ _ _ _=>(pgN 9 nd)) (fun _ _ _ _ _ _=>jts_nil) (fun _ _ _ _ _ _=>(je_callTy call_int1 intD_ok Z.b_int (by decide +kernel) (ja_cons (je_var 9) ja_nil)))) ja_nil)) ja_nil)) ja_nil)))))))))
theorem fact_joined_row (Z:Fx P w K mg):FnFact P w K mg base (G P w K) Θ s!"joined_row" 3 3 P_joined_row f_joined_row:=by
 obtain ⟨fd,F⟩:=Z.d_joined_row
 exact fact_of F Z.g_joined_row (fun _ _ _ _ _ _ us hl=>match us,hl with | [_,_,_],_=>rfl) (okf_joined_row Z F)
theorem sc_Form_check:FnScope N_Form_check P_Form_check (defScope s_Form_check):=⟨rfl,rfl,rfl,by decide +kernel,rfl,by decide +kernel,by decide +kernel⟩
theorem okf_Form_check (Z:Fx P w K mg){fd:FuncData}(F:FunD K s!"check" s!"Form.check" (defArgs s_Form_check) (defBody s_Form_check) (defScope s_Form_check) [] [] (He.fAd K (s!"Form",some s!"check")) fd):FnOkG P w K mg base 3 (He.fAd K (s!"Form",some s!"check")) fd P_Form_check (spF (G P w K) Θ 2 f_Form_check):=by
 refine okf_of F sc_Form_check rfl rfl fun cdv A outer s H vs E U hr=>?_
 refine kitS hr sc_Form_check fun nd u1 u64 u65 u190 gd tk hp=>?_
 exact (js_one (js_if (L2.PW.pt (jw_or (jt_not (jt_tru rfl (je_callB call_isiAll (by exact isiD_ok Z.tab) Z.b_isinstance (by decide +kernel) (ja_cons (je_var 1) (ja_cons (je_gval Z.gc_Form fun _=>.cls C_Form) ja_nil))))) (pw_or1 (jt_cmp (op_neAll u64) neD_ok (je_fld Z.tab rfl (je_var 1)) (je_fld Z.tab rfl (je_var 0)) (nomark _))))) (js_one (js_raise rfl tk (xc_BadPart Z) (hr.mono (by decide)) je_str)) js_nil))
theorem fact_Form_check (Z:Fx P w K mg):MtFact P w K mg base (G P w K) Θ C_Form s!"check" 2 3 P_Form_check f_Form_check:=by
 obtain ⟨fd,F⟩:=Z.d_Form_check
 exact ⟨_,fd,Z.mt_Form_check,F.bindsN fun _ _ _ _ _ _ us hl=>match us,hl with | [_,_],_=>rfl,okf_Form_check Z F⟩
theorem sc_Form___le__:FnScope N_Form___le__ P_Form___le__ (defScope s_Form___le__):=⟨rfl,rfl,rfl,by decide +kernel,rfl,by decide +kernel,by decide +kernel⟩
theorem okf_Form___le__ (Z:Fx P w K mg){fd:FuncData}(F:FunD K s!"__le__" s!"Form.__le__" (defArgs s_Form___le__) (defBody s_Form___le__) (defScope s_Form___le__) [] [] (He.fAd K (s!"Form",some s!"__le__")) fd):FnOkG P w K mg base 4 (He.fAd K (s!"Form",some s!"__le__")) fd P_Form___le__ (spF (G P w K) Θ 2 f_Form___le__):=by
 refine okf_of F sc_Form___le__ rfl rfl fun cdv A outer s H vs E U hr=>?_
 refine kitS hr sc_Form___le__ fun nd u1 u64 u65 u190 gd tk hp=>?_
 exact (js_cons (js_expr (je_meth tk (fact_Form_check Z) (by exact Z.tab.cls C_Form (by decide)) (hr.mono (by decide)) (je_var 0) (ja_cons (je_var 1) ja_nil))) (js_one (js_ret (je_cmp op_isD isD_ok je_stuck je_non (nomark _)))))
theorem tab_LE_Form (Z:Fx P w K mg):SpTab P w K mg base (G P w K) Θ s!"__le__" 2 4 LE_Form:=by
 obtain ⟨fd_Form,F_Form⟩:=Z.d_Form___le__
 exact (sptab_cons (sp_of (c:=C_Form) Z.sp_LE_Form_Form (F_Form.bindsN fun _ _ _ _ _ _ us hl=>match us,hl with | [_,_],_=>rfl) ((okf_Form___le__ Z F_Form).mono (by decide))) sptab_nil)
theorem nf_LE_Form (Z:Fx P w K mg):NfTab K (G P w K) T LE_Form:=(nftab_cons (c:=C_Form) (by decide) (nfB_ok Z.nf_LE_Form_Form).1 (nfB_ok Z.nf_LE_Form_Form).2 nftab_nil)
theorem sc_without:FnScope N_without P_without (defScope s_without):=⟨rfl,rfl,rfl,by decide +kernel,rfl,by decide +kernel,by decide +kernel⟩
theorem okf_without (Z:Fx P w K mg){fd:FuncData}(F:FunD K s!"without" s!"without" (defArgs s_without) (defBody s_without) (defScope s_without) [] [] (He.fAd K (s!"without",none)) fd):FnOkG P w K mg base 5 (He.fAd K (s!"without",none)) fd P_without (spF (G P w K) Θ 3 f_without):=by
 refine okf_of F sc_without rfl rfl fun cdv A outer s H vs E U hr=>?_
 refine kitS hr sc_without fun nd u1 u64 u65 u190 gd tk hp=>?_
 exact (js_cons (by first | exact (js_setLc (i:=3) (own:=[(s!"row",7)]) (g:=(gName 7)) rfl nd rfl (sw_true rfl rfl rfl (by decide +kernel)) (ji_seq rfl (je_var 0)) (blkOk_by (own:=[(s!"row",7)]) (N:=N_without) (sc:=defScope s_without) (by decide +kernel)) (by exact fun _=>(tv_name (by decide))) (fun _ _ _ _ _=>(pgN 7 nd)) (fun _ _ _ _ _ _=>(jts_one (jt_cmp op_gt gtD_ok (je_ix rfl u1 (je_ix rfl u1 (je_var 7) je_int) (je_var 1)) je_int (nomark _)))) (fun _ _ _ _ _ _=>(je_var 7))) | exact (jsN 3 nd (je_lc (own:=[(s!"row",7)]) (g:=(gName 7)) rfl nd (ji_seq rfl (je_var 0)) (blkOk_by (own:=[(s!"row",7)]) (N:=N_without) (sc:=defScope s_without) (by decide +kernel)) (by exact fun _=>(tv_name (by decide))) (fun _ _ _ _ _=>(pgN 7 nd)) (fun _ _ _ _ _ _=>(jts_one (jt_cmp op_gt gtD_ok (je_ix rfl u1 (je_ix rfl u1 (je_var 7) je_int) (je_var 1)) je_int (nomark _)))) (fun _ _ _ _ _ _=>(je_var 7))))) (js_cons (by first | exact (js_setLc (i:=4) (own:=[(s!"row",7)]) (g:=(gName 7)) rfl nd rfl (sw_true rfl rfl rfl (by decide +kernel)) (ji_seq rfl (je_var 0)) (blkOk_by (own:=[(s!"row",7)]) (N:=N_without) (sc:=defScope s_without) (by decide +kernel)) (by exact fun _=>(tv_name (by decide))) (fun _ _ _ _ _=>(pgN 7 nd)) (fun _ _ _ _ _ _=>(jts_one (jt_cmp op_ltD ltD_ok (je_ix rfl u1 (je_ix rfl u1 (je_var 7) je_int) (je_var 1)) je_int (nomark _)))) (fun _ _ _ _ _ _=>(je_var 7))) | exact (jsN 4 nd (je_lc (own:=[(s!"row",7)]) (g:=(gName 7)) rfl nd (ji_seq rfl (je_var 0)) (blkOk_by (own:=[(s!"row",7)]) (N:=N_without) (sc:=defScope s_without) (by decide +kernel)) (by exact fun _=>(tv_name (by decide))) (fun _ _ _ _ _=>(pgN 7 nd)) (fun _ _ _ _ _ _=>(jts_one (jt_cmp op_ltD ltD_ok (je_ix rfl u1 (je_ix rfl u1 (je_var 7) je_int) (je_var 1)) je_int (nomark _)))) (fun _ _ _ _ _ _=>(je_var 7))))) (js_cons (by first | exact (js_setLc2 (i:=5) (own:=[(s!"up",8),(s!"down",9)]) (vs1:=[9]) (g:=(gName 8)) (g1:=(gName 9)) rfl nd (by decide) rfl (sw_true rfl rfl rfl (by decide +kernel)) (ji_seq rfl (je_var 3)) (blkOk_by (own:=[(s!"up",8),(s!"down",9)]) (N:=N_without) (sc:=defScope s_without) (by decide +kernel)) (by exact fun _=>(tv_name (by decide))) (by exact fun _=>(tv_name (by decide))) (fun _ _ _ _ _=>(pgN 8 nd)) (fun _ _ _ _ _ _=>jts_nil) (fun _ _ _ _ _ _=>(ji_seq rfl (je_var 4))) (fun _ _ _ _ _=>(pgN 9 nd)) (fun _ _ _ _ _ _=>jts_nil) (fun _ _ _ _ _ _=>(je_callF takes0 (fact_joined_row Z) (hr.mono (by decide)) (ja_cons (je_var 8) (ja_cons (je_var 9) (ja_cons (je_var 1) ja_nil)))))) | exact (jsN 5 nd (je_lc2 (own:=[(s!"up",8),(s!"down",9)]) (vs1:=[9]) (g:=(gName 8)) (g1:=(gName 9)) rfl nd (by decide) (ji_seq rfl (je_var 3)) (blkOk_by (own:=[(s!"up",8),(s!"down",9)]) (N:=N_without) (sc:=defScope s_without) (by decide +kernel)) (by exact fun _=>(tv_name (by decide))) (by exact fun _=>(tv_name (by decide))) (fun _ _ _ _ _=>(pgN 8 nd)) (fun _ _ _ _ _ _=>jts_nil) (fun _ _ _ _ _ _=>(ji_seq rfl (je_var 4))) (fun _ _ _ _ _=>(pgN 9 nd)) (fun _ _ _ _ _ _=>jts_nil) (fun _ _ _ _ _ _=>(je_callF takes0 (fact_joined_row Z) (hr.mono (by decide)) (ja_cons (je_var 8) (ja_cons (je_var 9) (ja_cons (je_var 1) ja_nil)))))))) (js_cons (by first | exact (js_setDc (i:=6) (own:=[(s!"row",7)]) (g:=(gName 7)) rfl nd rfl (swd_true rfl rfl rfl (by decide +kernel)) (ji_seq rfl (je_lst (ja_star rfl (je_lc (own:=[(s!"row",7)]) (g:=(gName 7)) rfl nd (ji_seq rfl (je_var 0)) (blkOk_by (own:=[(s!"row",7)]) (N:=N_without) (sc:=defScope s_without) (by decide +kernel)) (by exact fun _=>(tv_name (by decide))) (fun _ _ _ _ _=>(pgN 7 nd)) (fun _ _ _ _ _ _=>(jts_one (jt_cmp (op_eqAll u64) eqD_ok (je_ix rfl u1 (je_ix rfl u1 (je_var 7) je_int) (je_var 1)) je_int (nomark _)))) (fun _ _ _ _ _ _=>(je_var 7))) (ja_star rfl (je_var 5) ja_nil)))) (blkOk_by (own:=[(s!"row",7)]) (N:=N_without) (sc:=defScope s_without) (by decide +kernel)) (by exact fun _=>(tv_name (by decide))) (fun _ _ _ _ _=>(pgN 7 nd)) (fun _ _ _ _ _ _=>(jts_one (jt_cmp (OpR.or op_le (op_cmpO rfl (fun _ _=>rfl) Z.tab rfl (tab_LE_Form Z) (nf_LE_Form Z) (hr.mono (by decide)))) (leD_ok.or eqOD_ok) (je_callB (call_lenAll.or (call_lenO (tab_LN_Form Z) (hr.mono (by decide)))) (lenD_ok.or lenOD_ok) Z.b_len boot_len (ja_cons (je_ix rfl u1 (je_var 7) je_int) ja_nil)) (je_var 2) (nomark _)))) (fun _ _ _ _ _ _=>(je_var 7)) (fun _ _ _ _ _ _=>je_bl)) | exact (jsN 6 nd (je_dc (own:=[(s!"row",7)]) (g:=(gName 7)) rfl nd (ji_seq rfl (je_lst (ja_star rfl (je_lc (own:=[(s!"row",7)]) (g:=(gName 7)) rfl nd (ji_seq rfl (je_var 0)) (blkOk_by (own:=[(s!"row",7)]) (N:=N_without) (sc:=defScope s_without) (by decide +kernel)) (by exact fun _=>(tv_name (by decide))) (fun _ _ _ _ _=>(pgN 7 nd)) (fun _ _ _ _ _ _=>(jts_one (jt_cmp (op_eqAll u64) eqD_ok (je_ix rfl u1 (je_ix rfl u1 (je_var 7) je_int) (je_var 1)) je_int (nomark _)))) (fun _ _ _ _ _ _=>(je_var 7))) (ja_star rfl (je_var 5) ja_nil)))) (blkOk_by (own:=[(s!"row",7)]) (N:=N_without) (sc:=defScope s_without) (by decide +kernel)) (by exact fun _=>(tv_name (by decide))) (fun _ _ _ _ _=>(pgN 7 nd)) (fun _ _ _ _ _ _=>(jts_one (jt_cmp (OpR.or op_le (op_cmpO rfl (fun _ _=>rfl) Z.tab rfl (tab_LE_Form Z) (nf_LE_Form Z) (hr.mono (by decide)))) (leD_ok.or eqOD_ok) (je_callB (call_lenAll.or (call_lenO (tab_LN_Form Z) (hr.mono (by decide)))) (lenD_ok.or lenOD_ok) Z.b_len boot_len (ja_cons (je_ix rfl u1 (je_var 7) je_int) ja_nil)) (je_var 2) (nomark _)))) (fun _ _ _ _ _ _=>(je_var 7)) (fun _ _ _ _ _ _=>je_bl)))) (js_cons (js_if (jt_cmp op_gt gtD_ok (je_callB (call_lenAll.or (call_lenO (tab_LN_Form Z) (hr.mono (by decide)))) (lenD_ok.or lenOD_ok) Z.b_len boot_len (ja_cons (je_var 6) ja_nil)) (je_gint Z.c_MOST_ROWS) (nomark _)) (js_one (js_raise rfl tk (xc_TooMany Z) (hr.mono (by decide)) (je_gint Z.c_MOST_ROWS))) js_nil) (js_one (js_ret (je_callTy call_list_of listD_ok Z.b_list (by decide +kernel) (ja_cons (je_var 6) ja_nil)))))))))
theorem fact_without (Z:Fx P w K mg):FnFact P w K mg base (G P w K) Θ s!"without" 3 5 P_without f_without:=by
 obtain ⟨fd,F⟩:=Z.d_without
 exact fact_of F Z.g_without (fun _ _ _ _ _ _ us hl=>match us,hl with | [_,_,_],_=>rfl) (okf_without Z F)
theorem sc_value_at:FnScope N_value_at P_value_at (defScope s_value_at):=⟨rfl,rfl,rfl,by decide +kernel,rfl,by decide +kernel,by decide +kernel⟩
theorem okf_value_at (Z:Fx P w K mg){fd:FuncData}(F:FunD K s!"value_at" s!"value_at" (defArgs s_value_at) (defBody s_value_at) (defScope s_value_at) [] [] (He.fAd K (s!"value_at",none)) fd):FnOkG P w K mg base 1 (He.fAd K (s!"value_at",none)) fd P_value_at (spF (G P w K) Θ 2 f_value_at):=by
 refine okf_of F sc_value_at rfl rfl fun cdv A outer s H vs E U hr=>?_
 refine kitS hr sc_value_at fun nd u1 u64 u65 u190 gd tk hp=>?_
 exact (js_one (js_ret (je_callB (cr_sum rfl) sumD_ok Z.b_sum (by decide +kernel) (ja_cons (je_lc (own:=[(s!"one",2),(s!"number",3)]) (g:=(gTup K 2 (gCons (gName 2) (gCons (gName 3) gNil)))) rfl nd (ji_zip2 rfl Z.b_zip (ja_cons (je_ix rfl u1 (je_var 0) je_int) (ja_cons (je_var 1) ja_nil))) (blkOk_by (own:=[(s!"one",2),(s!"number",3)]) (N:=N_value_at) (sc:=defScope s_value_at) (by decide +kernel)) (by exact fun _=>(tv_tup (tvs_cons (tv_name (by decide)) (tvs_cons (tv_name (by decide)) tvs_nil)))) (fun _ _ _ _ _=>(pg_tup rfl (pgs_cons (pgN 2 nd) (pgs_cons (pgN 3 nd) pgs_nil)))) (fun _ _ _ _ _ _=>jts_nil) (fun _ _ _ _ _ _=>(je_bin op_mulD mulD_ok (je_var 2) (je_var 3)))) ja_nil))))
theorem fact_value_at (Z:Fx P w K mg):FnFact P w K mg base (G P w K) Θ s!"value_at" 2 1 P_value_at f_value_at:=by
 obtain ⟨fd,F⟩:=Z.d_value_at
 exact fact_of F Z.g_value_at (fun _ _ _ _ _ _ us hl=>match us,hl with | [_,_],_=>rfl) (okf_value_at Z F)
theorem sc_next_number:FnScope N_next_number P_next_number (defScope s_next_number):=⟨rfl,rfl,rfl,by decide +kernel,rfl,by decide +kernel,by decide +kernel⟩
theorem okf_next_number (Z:Fx P w K mg){fd:FuncData}(F:FunD K s!"next_number" s!"next_number" (defArgs s_next_number) (defBody s_next_number) (defScope s_next_number) [] [] (He.fAd K (s!"next_number",none)) fd):FnOkG P w K mg base 3 (He.fAd K (s!"next_number",none)) fd P_next_number (spF (G P w K) Θ 2 f_next_number):=by
 refine okf_of F sc_next_number rfl rfl fun cdv A outer s H vs E U hr=>?_
 refine kitS hr sc_next_number fun nd u1 u64 u65 u190 gd tk hp=>?_
 exact (js_cons (jsN 2 nd (je_callB (call_lenAll.or (call_lenO (tab_LN_Form Z) (hr.mono (by decide)))) (lenD_ok.or lenOD_ok) Z.b_len boot_len (ja_cons (je_var 1) ja_nil))) (js_cons (by first | exact (js_setLc (i:=3) (own:=[(s!"row",9)]) (g:=(gName 9)) rfl nd rfl (sw_true rfl rfl rfl (by decide +kernel)) (ji_seq rfl (je_var 0)) (blkOk_by (own:=[(s!"row",9)]) (N:=N_next_number) (sc:=defScope s_next_number) (by decide +kernel)) (by exact fun _=>(tv_name (by decide))) (fun _ _ _ _ _=>(pgN 9 nd)) (fun _ _ _ _ _ _=>(jts_one (jt_cmp op_gt gtD_ok (je_ix rfl u1 (je_ix rfl u1 (je_var 9) je_int) (je_var 2)) je_int (nomark _)))) (fun _ _ _ _ _ _=>(je_tup (ja_cons (je_un un_neg negD_ok (je_callF takes0 (fact_value_at Z) (hr.mono (by decide)) (ja_cons (je_var 9) (ja_cons (je_var 1) ja_nil)))) (ja_cons (je_ix rfl u1 (je_ix rfl u1 (je_var 9) je_int) (je_var 2)) ja_nil))))) | exact (jsN 3 nd (je_lc (own:=[(s!"row",9)]) (g:=(gName 9)) rfl nd (ji_seq rfl (je_var 0)) (blkOk_by (own:=[(s!"row",9)]) (N:=N_next_number) (sc:=defScope s_next_number) (by decide +kernel)) (by exact fun _=>(tv_name (by decide))) (fun _ _ _ _ _=>(pgN 9 nd)) (fun _ _ _ _ _ _=>(jts_one (jt_cmp op_gt gtD_ok (je_ix rfl u1 (je_ix rfl u1 (je_var 9) je_int) (je_var 2)) je_int (nomark _)))) (fun _ _ _ _ _ _=>(je_tup (ja_cons (je_un un_neg negD_ok (je_callF takes0 (fact_value_at Z) (hr.mono (by decide)) (ja_cons (je_var 9) (ja_cons (je_var 1) ja_nil)))) (ja_cons (je_ix rfl u1 (je_ix rfl u1 (je_var 9) je_int) (je_var 2)) ja_nil))))))) (js_cons (by first | exact (js_setLc (i:=4) (own:=[(s!"row",9)]) (g:=(gName 9)) rfl nd rfl (sw_true rfl rfl rfl (by decide +kernel)) (ji_seq rfl (je_var 0)) (blkOk_by (own:=[(s!"row",9)]) (N:=N_next_number) (sc:=defScope s_next_number) (by decide +kernel)) (by exact fun _=>(tv_name (by decide))) (fun _ _ _ _ _=>(pgN 9 nd)) (fun _ _ _ _ _ _=>(jts_one (jt_cmp op_ltD ltD_ok (je_ix rfl u1 (je_ix rfl u1 (je_var 9) je_int) (je_var 2)) je_int (nomark _)))) (fun _ _ _ _ _ _=>(je_tup (ja_cons (je_callF takes0 (fact_value_at Z) (hr.mono (by decide)) (ja_cons (je_var 9) (ja_cons (je_var 1) ja_nil))) (ja_cons (je_un un_neg negD_ok (je_ix rfl u1 (je_ix rfl u1 (je_var 9) je_int) (je_var 2))) ja_nil))))) | exact (jsN 4 nd (je_lc (own:=[(s!"row",9)]) (g:=(gName 9)) rfl nd (ji_seq rfl (je_var 0)) (blkOk_by (own:=[(s!"row",9)]) (N:=N_next_number) (sc:=defScope s_next_number) (by decide +kernel)) (by exact fun _=>(tv_name (by decide))) (fun _ _ _ _ _=>(pgN 9 nd)) (fun _ _ _ _ _ _=>(jts_one (jt_cmp op_ltD ltD_ok (je_ix rfl u1 (je_ix rfl u1 (je_var 9) je_int) (je_var 2)) je_int (nomark _)))) (fun _ _ _ _ _ _=>(je_tup (ja_cons (je_callF takes0 (fact_value_at Z) (hr.mono (by decide)) (ja_cons (je_var 9) (ja_cons (je_var 1) ja_nil))) (ja_cons (je_un un_neg negD_ok (je_ix rfl u1 (je_ix rfl u1 (je_var 9) je_int) (je_var 2))) ja_nil))))))) (js_cons (jsN 5 nd (je_ix rfl u1 (je_var 3) je_int)) (js_cons (js_for hp rfl (ji_seq rfl (je_var 3)) (pgN 6 nd) tg_name (js_one (jsN 5 nd (je_if (jt_cmp op_gt gtD_ok (je_bin op_mulD mulD_ok (je_ix rfl u1 (je_var 6) je_int) (je_ix rfl u1 (je_var 5) je_int)) (je_bin op_mulD mulD_ok (je_ix rfl u1 (je_var 5) je_int) (je_ix rfl u1 (je_var 6) je_int)) (nomark _)) (je_var 6) (je_var 5))))) (js_cons (js_if (jt_cmp (op_eqAll u64) eqD_ok (je_var 4) (je_lst ja_nil) (nomark _)) (js_one (js_ret (je_lst (ja_star rfl (je_var 1) (ja_cons (je_bin op_addD addD_ok (je_callB (call_max2 rfl) fI2_ok Z.b_max (by decide +kernel) (ja_cons je_int (ja_cons (je_bin op_fdiv fdivD_ok (je_ix rfl u1 (je_var 5) je_int) (je_ix rfl u1 (je_var 5) je_int)) ja_nil))) je_int) ja_nil))))) js_nil) (js_cons (jsN 7 nd (je_ix rfl u1 (je_var 4) je_int)) (js_cons (js_for hp rfl (ji_seq rfl (je_var 4)) (pgN 6 nd) tg_name (js_one (jsN 7 nd (je_if (jt_cmp op_ltD ltD_ok (je_bin op_mulD mulD_ok (je_ix rfl u1 (je_var 6) je_int) (je_ix rfl u1 (je_var 7) je_int)) (je_bin op_mulD mulD_ok (je_ix rfl u1 (je_var 7) je_int) (je_ix rfl u1 (je_var 6) je_int)) (nomark _)) (je_var 6) (je_var 7))))) (js_cons (jsN 8 nd (je_bin op_mulD mulD_ok (je_bin op_mulD mulD_ok je_int (je_ix rfl u1 (je_var 5) je_int)) (je_ix rfl u1 (je_var 7) je_int))) (js_one (js_ret (je_lst (ja_star rfl (je_lc (own:=[(s!"number",10)]) (g:=(gName 10)) rfl nd (ji_seq rfl (je_var 1)) (blkOk_by (own:=[(s!"number",10)]) (N:=N_next_number) (sc:=defScope s_next_number) (by decide +kernel)) (by exact fun _=>(tv_name (by decide))) (fun _ _ _ _ _=>(pgN 10 nd)) (fun _ _ _ _ _ _=>jts_nil) (fun _ _ _ _ _ _=>(je_bin op_mulD mulD_ok (je_var 10) (je_var 8)))) (ja_cons (je_bin op_addD addD_ok (je_bin op_mulD mulD_ok (je_ix rfl u1 (je_var 5) je_int) (je_ix rfl u1 (je_var 7) je_int)) (je_bin op_mulD mulD_ok (je_ix rfl u1 (je_var 7) je_int) (je_ix rfl u1 (je_var 5) je_int))) ja_nil))))))))))))))
theorem fact_next_number (Z:Fx P w K mg):FnFact P w K mg base (G P w K) Θ s!"next_number" 2 3 P_next_number f_next_number:=by
 obtain ⟨fd,F⟩:=Z.d_next_number
 exact fact_of F Z.g_next_number (fun _ _ _ _ _ _ us hl=>match us,hl with | [_,_],_=>rfl) (okf_next_number Z F)
theorem sc_solution:FnScope N_solution P_solution (defScope s_solution):=⟨rfl,rfl,rfl,by decide +kernel,rfl,by decide +kernel,by decide +kernel⟩
theorem okf_solution (Z:Fx P w K mg){fd:FuncData}(F:FunD K s!"solution" s!"solution" (defArgs s_solution) (defBody s_solution) (defScope s_solution) [] [] (He.fAd K (s!"solution",none)) fd):FnOkG P w K mg base 6 (He.fAd K (s!"solution",none)) fd P_solution (spF (G P w K) Θ 2 f_solution):=by
 refine okf_of F sc_solution rfl rfl fun cdv A outer s H vs E U hr=>?_
 refine kitS hr sc_solution fun nd u1 u64 u65 u190 gd tk hp=>?_
 exact (js_cons (jsN 2 nd (je_lst (ja_cons (je_var 0) ja_nil))) (js_cons (js_for hp rfl (ji_rangeN Z.b_range (ja_cons (je_bin op_sub subD_ok (je_var 1) je_int) (ja_cons (je_un un_neg negD_ok je_int) (ja_cons (je_un un_neg negD_ok je_int) ja_nil)))) (pgN 3 nd) tg_name (js_one (jsN 2 nd (je_lst (ja_star rfl (je_var 2) (ja_cons (je_callF tk (fact_without Z) (hr.mono (by decide)) (ja_cons (je_ix rfl u1 (je_var 2) (je_un un_neg negD_ok je_int)) (ja_cons (je_var 3) (ja_cons (je_bin op_addD addD_ok (je_callB (call_lenAll.or (call_lenO (tab_LN_Form Z) (hr.mono (by decide)))) (lenD_ok.or lenOD_ok) Z.b_len boot_len (ja_cons (je_var 2) ja_nil)) je_int) ja_nil)))) ja_nil)))))) (js_cons (js_if (jt_tru rfl (je_callB (cr_any rfl) anyD_ok Z.b_any (by decide +kernel) (ja_cons (je_lc (own:=[(s!"row",6)]) (g:=(gName 6)) rfl nd (ji_seq rfl (je_ix rfl u1 (je_var 2) (je_un un_neg negD_ok je_int))) (blkOk_by (own:=[(s!"row",6)]) (N:=N_solution) (sc:=defScope s_solution) (by decide +kernel)) (by exact fun _=>(tv_name (by decide))) (fun _ _ _ _ _=>(pgN 6 nd)) (fun _ _ _ _ _ _=>jts_nil) (fun _ _ _ _ _ _=>(je_ix rfl u1 (je_var 6) je_int))) ja_nil))) (js_one (js_ret je_non)) js_nil) (js_cons (jsN 4 nd (je_lst ja_nil)) (js_cons (js_for hp rfl (ji_seq rfl je_stuck) (pgN 5 nd) tg_name (js_one (jsN 4 nd (je_callF tk (fact_next_number Z) (hr.mono (by decide)) (ja_cons (je_var 5) (ja_cons (je_var 4) ja_nil)))))) (js_one (js_ret (je_var 4))))))))
theorem fact_solution (Z:Fx P w K mg):FnFact P w K mg base (G P w K) Θ s!"solution" 2 6 P_solution f_solution:=by
 obtain ⟨fd,F⟩:=Z.d_solution
 exact fact_of F Z.g_solution (fun _ _ _ _ _ _ us hl=>match us,hl with | [_,_],_=>rfl) (okf_solution Z F)
theorem sc_parting_term:FnScope N_parting_term P_parting_term (defScope s_parting_term):=⟨rfl,rfl,rfl,by decide +kernel,rfl,by decide +kernel,by decide +kernel⟩
theorem okf_parting_term (Z:Fx P w K mg){fd:FuncData}(F:FunD K s!"parting_term" s!"parting_term" (defArgs s_parting_term) (defBody s_parting_term) (defScope s_parting_term) [] [] (He.fAd K (s!"parting_term",none)) fd):FnOkG P w K mg base 7 (He.fAd K (s!"parting_term",none)) fd P_parting_term (spF (G P w K) Θ 2 f_parting_term):=by
 refine okf_of F sc_parting_term rfl rfl fun cdv A outer s H vs E U hr=>?_
 refine kitS hr sc_parting_term fun nd u1 u64 u65 u190 gd tk hp=>?_
 exact (js_cons (jsN 2 nd (je_fld Z.tab rfl (je_var 1))) (js_cons (by first | exact (js_setLc (i:=3) (own:=[(s!"at",6)]) (g:=(gName 6)) rfl nd rfl (sw_true rfl rfl rfl (by decide +kernel)) (ji_range Z.b_range (ja_cons (je_bin op_addD addD_ok (je_var 2) je_int) ja_nil)) (blkOk_by (own:=[(s!"at",6)]) (N:=N_parting_term) (sc:=defScope s_parting_term) (by decide +kernel)) (by exact fun _=>(tv_name (by decide))) (fun _ _ _ _ _=>(pgN 6 nd)) (fun _ _ _ _ _ _=>jts_nil) (fun _ _ _ _ _ _=>(je_tup (ja_cons (je_callF takes0 (fact_unit Z) (hr.mono (by decide)) (ja_cons (je_bin op_addD addD_ok (je_var 2) je_int) (ja_cons (je_var 6) ja_nil))) (ja_cons (je_cmp (op_eqAll u64) eqD_ok (je_var 6) je_int (nomark _)) ja_nil))))) | exact (jsN 3 nd (je_lc (own:=[(s!"at",6)]) (g:=(gName 6)) rfl nd (ji_range Z.b_range (ja_cons (je_bin op_addD addD_ok (je_var 2) je_int) ja_nil)) (blkOk_by (own:=[(s!"at",6)]) (N:=N_parting_term) (sc:=defScope s_parting_term) (by decide +kernel)) (by exact fun _=>(tv_name (by decide))) (fun _ _ _ _ _=>(pgN 6 nd)) (fun _ _ _ _ _ _=>jts_nil) (fun _ _ _ _ _ _=>(je_tup (ja_cons (je_callF takes0 (fact_unit Z) (hr.mono (by decide)) (ja_cons (je_bin op_addD addD_ok (je_var 2) je_int) (ja_cons (je_var 6) ja_nil))) (ja_cons (je_cmp (op_eqAll u64) eqD_ok (je_var 6) je_int (nomark _)) ja_nil))))))) (js_cons (jsN 3 nd (je_bin op_addD addD_ok (je_var 3) (je_lc (own:=[(s!"times",7),(s!"off",8)]) (g:=(gTup K 2 (gCons (gName 7) (gCons (gName 8) gNil)))) rfl nd (ji_seq rfl (je_fld Z.tab rfl (je_var 1))) (blkOk_by (own:=[(s!"times",7),(s!"off",8)]) (N:=N_parting_term) (sc:=defScope s_parting_term) (by decide +kernel)) (by exact fun _=>(tv_tup (tvs_cons (tv_name (by decide)) (tvs_cons (tv_name (by decide)) tvs_nil)))) (fun _ _ _ _ _=>(pg_tup rfl (pgs_cons (pgN 7 nd) (pgs_cons (pgN 8 nd) pgs_nil)))) (fun _ _ _ _ _ _=>jts_nil) (fun _ _ _ _ _ _=>(je_tup (ja_cons (je_callF takes0 (fact_shortened Z) (hr.mono (by decide)) (ja_cons (je_lst (ja_cons (je_bin op_sub subD_ok (je_var 8) (je_ix rfl u1 (je_var 0) je_int)) (ja_star rfl (je_callF takes0 (fact_less Z) (hr.mono (by decide)) (ja_cons (je_ix rfl u1 (je_var 0) je_int) (ja_cons (je_var 7) ja_nil))) ja_nil))) ja_nil)) (ja_cons je_bl ja_nil))))))) (js_cons (jsN 4 nd (je_callF tk (fact_solution Z) (hr.mono (by decide)) (ja_cons (je_lc (own:=[(s!"origin",9),(s!"row",10)]) (g:=(gTup K 2 (gCons (gName 9) (gCons (gName 10) gNil)))) rfl nd (ji_enm rfl Z.b_enumerate (ja_cons (je_var 3) ja_nil)) (blkOk_by (own:=[(s!"origin",9),(s!"row",10)]) (N:=N_parting_term) (sc:=defScope s_parting_term) (by decide +kernel)) (by exact fun _=>(tv_tup (tvs_cons (tv_name (by decide)) (tvs_cons (tv_name (by decide)) tvs_nil)))) (fun _ _ _ _ _=>(pg_tup rfl (pgs_cons (pgN 9 nd) (pgs_cons (pgN 10 nd) pgs_nil)))) (fun _ _ _ _ _ _=>jts_nil) (fun _ _ _ _ _ _=>(je_tup (ja_cons (je_ix rfl u1 (je_var 10) je_int) (ja_cons (je_ix rfl u1 (je_var 10) je_int) (ja_cons (je_tup (ja_cons (je_var 9) ja_nil)) ja_nil)))))) (ja_cons (je_bin op_addD addD_ok (je_var 2) je_int) ja_nil)))) (js_cons (js_if (jt_cmp op_isD isD_ok (je_var 4) je_non (nomark _)) (js_one (js_ret je_non)) js_nil) (js_cons (jsN 5 nd (je_callF tk (fact_shortened Z) (hr.mono (by decide)) (ja_cons (je_var 4) ja_nil))) (js_one (js_ret (je_tup (ja_cons (je_sl rfl (je_var 5) (.some je_int) .none) (ja_cons (je_ix rfl u1 (je_var 5) je_int) ja_nil)))))))))))
theorem fact_parting_term (Z:Fx P w K mg):FnFact P w K mg base (G P w K) Θ s!"parting_term" 2 7 P_parting_term f_parting_term:=by
 obtain ⟨fd,F⟩:=Z.d_parting_term
 exact fact_of F Z.g_parting_term (fun _ _ _ _ _ _ us hl=>match us,hl with | [_,_],_=>rfl) (okf_parting_term Z F)
theorem sc_parting_limits:FnScope N_parting_limits P_parting_limits (defScope s_parting_limits):=⟨rfl,rfl,rfl,by decide +kernel,rfl,by decide +kernel,by decide +kernel⟩
theorem okf_parting_limits (Z:Fx P w K mg){fd:FuncData}(F:FunD K s!"parting_limits" s!"parting_limits" (defArgs s_parting_limits) (defBody s_parting_limits) (defScope s_parting_limits) [] [] (He.fAd K (s!"parting_limits",none)) fd):FnOkG P w K mg base 8 (He.fAd K (s!"parting_limits",none)) fd P_parting_limits (spF (G P w K) Θ 2 f_parting_limits):=by
 refine okf_of F sc_parting_limits rfl rfl fun cdv A outer s H vs E U hr=>?_
 refine kitS hr sc_parting_limits fun nd u1 u64 u65 u190 gd tk hp=>?_
 exact (js_cons (js_if (jt_not (jt_tru rfl (je_callB call_isiAll (by exact isiD_ok Z.tab) Z.b_isinstance (by decide +kernel) (ja_cons (je_var 0) (ja_cons (je_gval Z.gc_Form fun _=>.cls C_Form) ja_nil))))) (js_one (js_raise rfl tk (xc_BadPart Z) (hr.mono (by decide)) je_str)) js_nil) (js_cons (js_if (L2.PW.pt (jw_or (jt_not (jt_tru rfl (je_callB call_isiAll (by exact isiD_ok Z.tab) Z.b_isinstance (by decide +kernel) (ja_cons (je_var 1) (ja_cons (je_gval Z.gc_Form fun _=>.cls C_Form) ja_nil))))) (pw_or1 (jt_cmp (op_neAll u64) neD_ok (je_fld Z.tab rfl (je_var 1)) (je_fld Z.tab rfl (je_var 0)) (nomark _))))) (js_one (js_raise rfl tk (xc_BadPart Z) (hr.mono (by decide)) je_str)) js_nil) (js_cons (js_for hp rfl (ji_seq rfl (je_fld Z.tab rfl (je_var 0))) (pgN 2 nd) tg_name (js_cons (jsN 3 nd (je_callF tk (fact_parting_term Z) (hr.mono (by decide)) (ja_cons (je_var 2) (ja_cons (je_var 1) ja_nil)))) (js_one (js_if (jt_cmp op_isNotD isNotD_ok (je_var 3) je_non (nomark _)) (js_one (js_ret (je_var 3))) js_nil)))) (js_one (js_ret je_non)))))
theorem fact_parting_limits (Z:Fx P w K mg):FnFact P w K mg base (G P w K) Θ s!"parting_limits" 2 8 P_parting_limits f_parting_limits:=by
 obtain ⟨fd,F⟩:=Z.d_parting_limits
 exact fact_of F Z.g_parting_limits (fun _ _ _ _ _ _ us hl=>match us,hl with | [_,_],_=>rfl) (okf_parting_limits Z F)
theorem sc_Form___eq__:FnScope N_Form___eq__ P_Form___eq__ (defScope s_Form___eq__):=⟨rfl,rfl,rfl,by decide +kernel,rfl,by decide +kernel,by decide +kernel⟩
theorem okf_Form___eq__ (Z:Fx P w K mg){fd:FuncData}(F:FunD K s!"__eq__" s!"Form.__eq__" (defArgs s_Form___eq__) (defBody s_Form___eq__) (defScope s_Form___eq__) [] [] (He.fAd K (s!"Form",some s!"__eq__")) fd):FnOkG P w K mg base 9 (He.fAd K (s!"Form",some s!"__eq__")) fd P_Form___eq__ (spF (G P w K) Θ 2 f_Form___eq__):=by
 refine okf_of F sc_Form___eq__ rfl rfl fun cdv A outer s H vs E U hr=>?_
 refine kitS hr sc_Form___eq__ fun nd u1 u64 u65 u190 gd tk hp=>?_
 exact (js_cons (js_if (L2.PW.pt (jw_or (jt_not (jt_tru rfl (je_callB call_isiAll (by exact isiD_ok Z.tab) Z.b_isinstance (by decide +kernel) (ja_cons (je_var 1) (ja_cons (je_gval Z.gc_Form fun _=>.cls C_Form) ja_nil))))) (pw_or1 (jt_cmp (op_neAll u64) neD_ok (je_fld Z.tab rfl (je_var 1)) (je_fld Z.tab rfl (je_var 0)) (nomark _))))) (js_one (js_ret je_bl)) js_nil) (js_one (js_ret (je_and (je_cmp op_isD isD_ok (je_callF tk (fact_parting_limits Z) (hr.mono (by decide)) (ja_cons (je_var 0) (ja_cons (je_var 1) ja_nil))) je_non (nomark _)) (pe_one (je_cmp op_isD isD_ok (je_callF tk (fact_parting_limits Z) (hr.mono (by decide)) (ja_cons (je_var 1) (ja_cons (je_var 0) ja_nil))) je_non (nomark _)))))))
theorem tab_EQ_Form (Z:Fx P w K mg):EqTab P w K mg base (G P w K) T 9 EQ_Form:=by
 obtain ⟨fd_Form,F_Form⟩:=Z.d_Form___eq__
 exact (eqtab_cons (by decide) (eq_of (c:=C_Form) Z.sp_EQ_Form_Form Z.ne_EQ_Form_Form Z.nf_EQ_Form_Form (F_Form.bindsN fun _ _ _ _ _ _ us hl=>match us,hl with | [_,_],_=>rfl) ((okf_Form___eq__ Z F_Form).mono (by decide))) (nfB_ok Z.nf_EQ_Form_Form).2 eqtab_nil)
theorem sc_are_numbers:FnScope N_are_numbers P_are_numbers (defScope s_are_numbers):=⟨rfl,rfl,rfl,by decide +kernel,rfl,by decide +kernel,by decide +kernel⟩
theorem okf_are_numbers (Z:Fx P w K mg){fd:FuncData}(F:FunD K s!"are_numbers" s!"are_numbers" (defArgs s_are_numbers) (defBody s_are_numbers) (defScope s_are_numbers) [] [] (He.fAd K (s!"are_numbers",none)) fd):FnOkG P w K mg base 12 (He.fAd K (s!"are_numbers",none)) fd P_are_numbers (spF (G P w K) Θ 2 f_are_numbers):=by
 refine okf_of F sc_are_numbers rfl rfl fun cdv A outer s H vs E U hr=>?_
 refine kitS hr sc_are_numbers fun nd u1 u64 u65 u190 gd tk hp=>?_
 exact (js_cons (js_if (L2.PW.pt (jw_or (jt_not (jt_tru rfl (je_callB call_isiAll (by exact isiD_ok Z.tab) Z.b_isinstance (by decide +kernel) (ja_cons (je_var 0) (ja_cons (je_tup (ja_cons (je_ty Z.b_list (by decide +kernel)) (ja_cons (je_ty Z.b_tuple (by decide +kernel)) ja_nil))) ja_nil))))) (pw_or1 (jt_cmp ((op_neAll u64).or (op_neO (rc_eqO Z.tab rfl (tab_EQ_Form Z)) (hr.mono (by decide)))) (neD_ok.or eqOD_ok) (je_callB (call_lenAll.or (call_lenO (tab_LN_Form Z) (hr.mono (by decide)))) (lenD_ok.or lenOD_ok) Z.b_len boot_len (ja_cons (je_var 0) ja_nil)) (je_var 1) (nomark _))))) (js_one (js_ret je_bl)) js_nil) (js_one (js_ret (je_callB (cr_all rfl) allD_ok Z.b_all (by decide +kernel) (ja_cons (je_lc (own:=[(s!"number",2)]) (g:=(gName 2)) rfl nd (ji_seq rfl (je_var 0)) (blkOk_by (own:=[(s!"number",2)]) (N:=N_are_numbers) (sc:=defScope s_are_numbers) (by decide +kernel)) (by exact fun _=>(tv_name (by decide))) (fun _ _ _ _ _=>(pgN 2 nd)) (fun _ _ _ _ _ _=>jts_nil) (fun _ _ _ _ _ _=>(je_and (je_callF takes0 (fact_is_integer Z) (hr.mono (by decide)) (ja_cons (je_var 2) ja_nil)) (pe_one (je_cmp op_ge geD_ok (je_var 2) je_int (nomark _)))))) ja_nil)))))
theorem fact_are_numbers (Z:Fx P w K mg):FnFact P w K mg base (G P w K) Θ s!"are_numbers" 2 12 P_are_numbers f_are_numbers:=by
 obtain ⟨fd,F⟩:=Z.d_are_numbers
 exact fact_of F Z.g_are_numbers (fun _ _ _ _ _ _ us hl=>match us,hl with | [_,_],_=>rfl) (okf_are_numbers Z F)
theorem sc_is_term:FnScope N_is_term P_is_term (defScope s_is_term):=⟨rfl,rfl,rfl,by decide +kernel,rfl,by decide +kernel,by decide +kernel⟩
theorem okf_is_term (Z:Fx P w K mg){fd:FuncData}(F:FunD K s!"is_term" s!"is_term" (defArgs s_is_term) (defBody s_is_term) (defScope s_is_term) [] [] (He.fAd K (s!"is_term",none)) fd):FnOkG P w K mg base 13 (He.fAd K (s!"is_term",none)) fd P_is_term (spF (G P w K) Θ 2 f_is_term):=by
 refine okf_of F sc_is_term rfl rfl fun cdv A outer s H vs E U hr=>?_
 refine kitS hr sc_is_term fun nd u1 u64 u65 u190 gd tk hp=>?_
 exact (js_cons (js_if (L2.PW.pt (jw_or (jt_not (jt_tru rfl (je_callB call_isiAll (by exact isiD_ok Z.tab) Z.b_isinstance (by decide +kernel) (ja_cons (je_var 0) (ja_cons (je_ty Z.b_tuple (by decide +kernel)) ja_nil))))) (jw_or (jt_cmp ((op_neAll u64).or (op_neO (rc_eqO Z.tab rfl (tab_EQ_Form Z)) (hr.mono (by decide)))) (neD_ok.or eqOD_ok) (je_callB (call_lenAll.or (call_lenO (tab_LN_Form Z) (hr.mono (by decide)))) (lenD_ok.or lenOD_ok) Z.b_len boot_len (ja_cons (je_var 0) ja_nil)) je_int (nomark _)) (pw_or1 (jt_not (jt_tru rfl (je_callB call_isiAll (by exact isiD_ok Z.tab) Z.b_isinstance (by decide +kernel) (ja_cons (je_ix rfl u1 (je_var 0) je_int) (ja_cons (je_ty Z.b_tuple (by decide +kernel)) ja_nil))))))))) (js_one (js_ret je_bl)) js_nil) (js_one (js_ret (je_and (je_callF tk (fact_are_numbers Z) (hr.mono (by decide)) (ja_cons (je_ix rfl u1 (je_var 0) je_int) (ja_cons (je_var 1) ja_nil))) (je_and (je_callF tk (fact_is_integer Z) (hr.mono (by decide)) (ja_cons (je_ix rfl u1 (je_var 0) je_int) ja_nil)) (pe_one (je_cmp op_ge geD_ok (je_ix rfl u1 (je_var 0) je_int) je_int (nomark _))))))))
theorem fact_is_term (Z:Fx P w K mg):FnFact P w K mg base (G P w K) Θ s!"is_term" 2 13 P_is_term f_is_term:=by
 obtain ⟨fd,F⟩:=Z.d_is_term
 exact fact_of F Z.g_is_term (fun _ _ _ _ _ _ us hl=>match us,hl with | [_,_],_=>rfl) (okf_is_term Z F)
theorem sc_is_needless:FnScope N_is_needless P_is_needless (defScope s_is_needless):=⟨rfl,rfl,rfl,by decide +kernel,rfl,by decide +kernel,by decide +kernel⟩
theorem okf_is_needless (Z:Fx P w K mg){fd:FuncData}(F:FunD K s!"is_needless" s!"is_needless" (defArgs s_is_needless) (defBody s_is_needless) (defScope s_is_needless) [] [] (He.fAd K (s!"is_needless",none)) fd):FnOkG P w K mg base 5 (He.fAd K (s!"is_needless",none)) fd P_is_needless (spF (G P w K) Θ 2 f_is_needless):=by
 refine okf_of F sc_is_needless rfl rfl fun cdv A outer s H vs E U hr=>?_
 refine kitS hr sc_is_needless fun nd u1 u64 u65 u190 gd tk hp=>?_
 exact (js_one (js_ret (je_and (je_cmp op_ge geD_ok (je_ix rfl u1 (je_var 0) je_int) (je_ix rfl u1 (je_var 1) je_int) (nomark _)) (pe_one (je_callB (cr_all rfl) allD_ok Z.b_all (by decide +kernel) (ja_cons (je_lc (own:=[(s!"one",2),(s!"more",3)]) (g:=(gTup K 2 (gCons (gName 2) (gCons (gName 3) gNil)))) rfl nd (ji_zip2 rfl Z.b_zip (ja_cons (je_ix rfl u1 (je_var 0) je_int) (ja_cons (je_ix rfl u1 (je_var 1) je_int) ja_nil))) (blkOk_by (own:=[(s!"one",2),(s!"more",3)]) (N:=N_is_needless) (sc:=defScope s_is_needless) (by decide +kernel)) (by exact fun _=>(tv_tup (tvs_cons (tv_name (by decide)) (tvs_cons (tv_name (by decide)) tvs_nil)))) (fun _ _ _ _ _=>(pg_tup rfl (pgs_cons (pgN 2 nd) (pgs_cons (pgN 3 nd) pgs_nil)))) (fun _ _ _ _ _ _=>jts_nil) (fun _ _ _ _ _ _=>(je_cmp (OpR.or op_le (op_cmpO rfl (fun _ _=>rfl) Z.tab rfl (tab_LE_Form Z) (nf_LE_Form Z) (hr.mono (by decide)))) (leD_ok.or eqOD_ok) (je_var 2) (je_var 3) (nomark _)))) ja_nil))))))
theorem fact_is_needless (Z:Fx P w K mg):FnFact P w K mg base (G P w K) Θ s!"is_needless" 2 5 P_is_needless f_is_needless:=by
 obtain ⟨fd,F⟩:=Z.d_is_needless
 exact fact_of F Z.g_is_needless (fun _ _ _ _ _ _ us hl=>match us,hl with | [_,_],_=>rfl) (okf_is_needless Z F)
theorem sc_rank_of:FnScope N_rank_of P_rank_of (defScope s_rank_of):=⟨rfl,rfl,rfl,by decide +kernel,rfl,by decide +kernel,by decide +kernel⟩
theorem okf_rank_of (Z:Fx P w K mg){fd:FuncData}(F:FunD K s!"rank_of" s!"rank_of" (defArgs s_rank_of) (defBody s_rank_of) (defScope s_rank_of) [] [] (He.fAd K (s!"rank_of",none)) fd):FnOkG P w K mg base 1 (He.fAd K (s!"rank_of",none)) fd P_rank_of (spF (G P w K) Θ 1 f_rank_of):=by
 refine okf_of F sc_rank_of rfl rfl fun cdv A outer s H vs E U hr=>?_
 refine kitS hr sc_rank_of fun nd u1 u64 u65 u190 gd tk hp=>?_
 exact (js_one (js_ret (je_lst (ja_star rfl (je_ix rfl u1 (je_var 0) je_int) (ja_cons (je_ix rfl u1 (je_var 0) je_int) ja_nil)))))
theorem fact_rank_of (Z:Fx P w K mg):FnFact P w K mg base (G P w K) Θ s!"rank_of" 1 1 P_rank_of f_rank_of:=by
 obtain ⟨fd,F⟩:=Z.d_rank_of
 exact fact_of F Z.g_rank_of (fun _ _ _ _ _ _ us hl=>match us,hl with | [_],_=>rfl) (okf_rank_of Z F)
theorem sc_in_order:FnScope N_in_order P_in_order (defScope s_in_order):=⟨rfl,rfl,rfl,by decide +kernel,rfl,by decide +kernel,by decide +kernel⟩
theorem okf_in_order (Z:Fx P w K mg){fd:FuncData}(F:FunD K s!"in_order" s!"in_order" (defArgs s_in_order) (defBody s_in_order) (defScope s_in_order) [] [] (He.fAd K (s!"in_order",none)) fd):FnOkG P w K mg base 12 (He.fAd K (s!"in_order",none)) fd P_in_order (spF (G P w K) Θ 1 f_in_order):=by
 refine okf_of F sc_in_order rfl rfl fun cdv A outer s H vs E U hr=>?_
 refine kitS hr sc_in_order fun nd u1 u64 u65 u190 gd tk hp=>?_
 exact (js_cons (by first | exact (js_setLc (i:=1) (own:=[(s!"at",5),(s!"term",4)]) (g:=(gTup K 2 (gCons (gName 5) (gCons (gName 4) gNil)))) rfl nd rfl (sw_true rfl rfl rfl (by decide +kernel)) (ji_enm rfl Z.b_enumerate (ja_cons (je_var 0) ja_nil)) (blkOk_by (own:=[(s!"at",5),(s!"term",4)]) (N:=N_in_order) (sc:=defScope s_in_order) (by decide +kernel)) (by exact fun _=>(tv_tup (tvs_cons (tv_name (by decide)) (tvs_cons (tv_name (by decide)) tvs_nil)))) (fun _ _ _ _ _=>(pg_tup rfl (pgs_cons (pgN 5 nd) (pgs_cons (pgN 4 nd) pgs_nil)))) (fun _ _ _ _ _ _=>(jts_one (jt_cmp (op_notInB u65) inD_ok (je_var 4) (je_sl rfl (je_var 0) .none (.some (je_var 5))) rfl))) (fun _ _ _ _ _ _=>(je_var 4))) | exact (jsN 1 nd (je_lc (own:=[(s!"at",5),(s!"term",4)]) (g:=(gTup K 2 (gCons (gName 5) (gCons (gName 4) gNil)))) rfl nd (ji_enm rfl Z.b_enumerate (ja_cons (je_var 0) ja_nil)) (blkOk_by (own:=[(s!"at",5),(s!"term",4)]) (N:=N_in_order) (sc:=defScope s_in_order) (by decide +kernel)) (by exact fun _=>(tv_tup (tvs_cons (tv_name (by decide)) (tvs_cons (tv_name (by decide)) tvs_nil)))) (fun _ _ _ _ _=>(pg_tup rfl (pgs_cons (pgN 5 nd) (pgs_cons (pgN 4 nd) pgs_nil)))) (fun _ _ _ _ _ _=>(jts_one (jt_cmp (op_notInB u65) inD_ok (je_var 4) (je_sl rfl (je_var 0) .none (.some (je_var 5))) rfl))) (fun _ _ _ _ _ _=>(je_var 4))))) (js_cons (by first | exact (js_setLc (i:=2) (own:=[(s!"term",4)]) (g:=(gName 4)) rfl nd rfl (sw_true rfl rfl rfl (by decide +kernel)) (ji_seq rfl (je_var 1)) (blkOk_by (own:=[(s!"term",4)]) (N:=N_in_order) (sc:=defScope s_in_order) (by decide +kernel)) (by exact fun _=>(tv_name (by decide))) (fun _ _ _ _ _=>(pgN 4 nd)) (fun _ _ _ _ _ _=>(jts_one (jt_not (jt_tru rfl (je_callB (cr_any rfl) anyD_ok Z.b_any (by decide +kernel) (ja_cons (je_lc (own:=[(s!"other",6)]) (g:=(gName 6)) rfl nd (ji_seq rfl (je_var 1)) (by exact blkOk_by (own:=[(s!"other",6)]) (N:=N_in_order) (by kernel_rfl)) (by exact fun _=>(tv_name (by decide))) (fun _ _ _ _ _=>(pgN 6 nd)) (fun _ _ _ _ _ _=>(jts_one (jt_cmp ((op_neAll u64).or (op_neO (rc_eqO Z.tab rfl (tab_EQ_Form Z)) (hr.mono (by decide)))) (neD_ok.or eqOD_ok) (je_var 6) (je_var 4) (nomark _)))) (fun _ _ _ _ _ _=>(je_callF takes0 (fact_is_needless Z) (hr.mono (by decide)) (ja_cons (je_var 4) (ja_cons (je_var 6) ja_nil))))) ja_nil)))))) (fun _ _ _ _ _ _=>(je_var 4))) | exact (jsN 2 nd (je_lc (own:=[(s!"term",4)]) (g:=(gName 4)) rfl nd (ji_seq rfl (je_var 1)) (blkOk_by (own:=[(s!"term",4)]) (N:=N_in_order) (sc:=defScope s_in_order) (by decide +kernel)) (by exact fun _=>(tv_name (by decide))) (fun _ _ _ _ _=>(pgN 4 nd)) (fun _ _ _ _ _ _=>(jts_one (jt_not (jt_tru rfl (je_callB (cr_any rfl) anyD_ok Z.b_any (by decide +kernel) (ja_cons (je_lc (own:=[(s!"other",6)]) (g:=(gName 6)) rfl nd (ji_seq rfl (je_var 1)) (by exact blkOk_by (own:=[(s!"other",6)]) (N:=N_in_order) (by kernel_rfl)) (by exact fun _=>(tv_name (by decide))) (fun _ _ _ _ _=>(pgN 6 nd)) (fun _ _ _ _ _ _=>(jts_one (jt_cmp ((op_neAll u64).or (op_neO (rc_eqO Z.tab rfl (tab_EQ_Form Z)) (hr.mono (by decide)))) (neD_ok.or eqOD_ok) (je_var 6) (je_var 4) (nomark _)))) (fun _ _ _ _ _ _=>(je_callF takes0 (fact_is_needless Z) (hr.mono (by decide)) (ja_cons (je_var 4) (ja_cons (je_var 6) ja_nil))))) ja_nil)))))) (fun _ _ _ _ _ _=>(je_var 4))))) (js_cons (jsN 3 nd (je_lst ja_nil)) (js_cons (js_for hp rfl (ji_seq rfl (je_var 2)) (pgN 4 nd) tg_name (js_cons (jsN 5 nd (je_callB (call_lenAll.or (call_lenO (tab_LN_Form Z) (hr.mono (by decide)))) (lenD_ok.or lenOD_ok) Z.b_len boot_len (ja_cons (je_lc (own:=[(s!"other",6)]) (g:=(gName 6)) rfl nd (ji_seq rfl (je_var 3)) (blkOk_by (own:=[(s!"other",6)]) (N:=N_in_order) (sc:=defScope s_in_order) (by decide +kernel)) (by exact fun _=>(tv_name (by decide))) (fun _ _ _ _ _=>(pgN 6 nd)) (fun _ _ _ _ _ _=>(jts_one (jt_cmp (op_ltD.or (op_ltA u64)) (ltD_ok.or ltA0_ok) (je_callF takes0 (fact_rank_of Z) (hr.mono (by decide)) (ja_cons (je_var 6) ja_nil)) (je_callF takes0 (fact_rank_of Z) (hr.mono (by decide)) (ja_cons (je_var 4) ja_nil)) (nomark _)))) (fun _ _ _ _ _ _=>(je_var 6))) ja_nil))) (js_one (jsN 3 nd (je_lst (ja_star rfl (je_sl rfl (je_var 3) .none (.some (je_var 5))) (ja_cons (je_var 4) (ja_star rfl (je_sl rfl (je_var 3) (.some (je_var 5)) .none) ja_nil)))))))) (js_one (js_ret (je_var 3)))))))
theorem fact_in_order (Z:Fx P w K mg):FnFact P w K mg base (G P w K) Θ s!"in_order" 1 12 P_in_order f_in_order:=by
 obtain ⟨fd,F⟩:=Z.d_in_order
 exact fact_of F Z.g_in_order (fun _ _ _ _ _ _ us hl=>match us,hl with | [_],_=>rfl) (okf_in_order Z F)
theorem sc_Form___init__:FnScope N_Form___init__ P_Form___init__ (defScope s_Form___init__):=⟨rfl,rfl,rfl,by decide +kernel,rfl,by decide +kernel,by decide +kernel⟩
theorem okf_Form___init__ (Z:Fx P w K mg){fd:FuncData}(F:FunD K s!"__init__" s!"Form.__init__" (defArgs s_Form___init__) (defBody s_Form___init__) (defScope s_Form___init__) [] [] (He.fAd K (s!"Form",some s!"__init__")) fd):FnOkG P w K mg base 14 (He.fAd K (s!"Form",some s!"__init__")) fd P_Form___init__ (spF (G P w K) Θ 3 f_Form___init__):=by
 refine okf_of F sc_Form___init__ rfl rfl fun cdv A outer s H vs E U hr=>?_
 refine kitS hr sc_Form___init__ fun nd u1 u64 u65 u190 gd tk hp=>?_
 exact (js_cons (js_if (L2.PW.pt (jw_or (jt_not (jt_tru rfl (je_callF tk (fact_is_integer Z) (hr.mono (by decide)) (ja_cons (je_var 1) ja_nil)))) (pw_or1 (jt_not (jt_chain op_le op_le leD_ok leD_ok je_int (je_var 1) (je_gint Z.c_MOST_PLACES)))))) (js_one (js_raise rfl tk (xc_BadPart Z) (hr.mono (by decide)) je_str)) js_nil) (js_cons (js_if (jt_not (jt_tru rfl (je_callB call_isiAll (by exact isiD_ok Z.tab) Z.b_isinstance (by decide +kernel) (ja_cons (je_var 2) (ja_cons (je_tup (ja_cons (je_ty Z.b_list (by decide +kernel)) (ja_cons (je_ty Z.b_tuple (by decide +kernel)) ja_nil))) ja_nil))))) (js_one (js_raise rfl tk (xc_BadForm Z) (hr.mono (by decide)) je_non)) js_nil) (js_cons (js_for hp rfl (ji_enm rfl Z.b_enumerate (ja_cons (je_var 2) ja_nil)) (pg_tup rfl (pgs_cons (pgN 3 nd) (pgs_cons (pgN 4 nd) pgs_nil))) (tg_tup (tgs_cons tg_name (tgs_cons tg_name tgs_nil))) (js_one (js_if (jt_not (jt_tru rfl (je_callF tk (fact_is_term Z) (hr.mono (by decide)) (ja_cons (je_var 4) (ja_cons (je_var 1) ja_nil))))) (js_one (js_raise rfl tk (xc_BadForm Z) (hr.mono (by decide)) (je_var 3))) js_nil))) (js_cons (js_fld Z.tab rfl (je_var 0) (je_var 1)) (js_cons (js_fld Z.tab rfl (je_var 0) (je_callTy call_tuple_of tupleD_ok Z.b_tuple (by decide +kernel) (ja_cons (je_callF tk (fact_in_order Z) (hr.mono (by decide)) (ja_cons (je_lst (ja_cons (je_tup (ja_cons (je_bin op_mulE mulE_ok (je_tup (ja_cons je_int ja_nil)) (je_var 1)) (ja_cons je_int ja_nil))) (ja_star rfl (je_var 2) ja_nil))) ja_nil)) ja_nil))) (js_one (js_if (jt_cmp op_gt gtD_ok (je_callB (call_lenAll.or (call_lenO (tab_LN_Form Z) (hr.mono (by decide)))) (lenD_ok.or lenOD_ok) Z.b_len boot_len (ja_cons (je_fld Z.tab rfl (je_var 0)) ja_nil)) (je_gint Z.c_MOST_TERMS) (nomark _)) (js_one (js_raise rfl tk (xc_TooMany Z) (hr.mono (by decide)) (je_gint Z.c_MOST_TERMS))) js_nil)))))))
theorem w0_Form___init__ (Z:Fx P w K mg):MwFact P w K mg base (G P w K) Θ s!"Form" C_Form 3 14 2 [] [0,1] [] f_Form___init__:=by
 obtain ⟨fd,F⟩:=Z.d_Form___init__
 exact ⟨_,fd,P_Form___init__,_,Z.gc_Form,Z.mk_Form,(ways_all F 3 rfl fun _ _ _ _ _ _ us ws h1 h2=>match us,ws,h1,h2 with | [_,_,_],[],_,_=>rfl),(fun _=>.nil),okf_Form___init__ Z F⟩
theorem sc__law_due:FnScope N__law_due P__law_due (defScope s__law_due):=⟨rfl,rfl,rfl,by decide +kernel,rfl,by decide +kernel,by decide +kernel⟩
theorem okf__law_due (Z:Fx P w K mg){fd:FuncData}(F:FunD K s!"_law_due" s!"_law_due" (defArgs s__law_due) (defBody s__law_due) (defScope s__law_due) [] [] (He.fAd K (s!"_law_due",none)) fd):FnOkG P w K mg base 12 (He.fAd K (s!"_law_due",none)) fd P__law_due (spF (G P w K) Θ 2 f__law_due):=by
 refine okf_of F sc__law_due rfl rfl fun cdv A outer s H vs E U hr=>?_
 refine kitS hr sc__law_due fun nd u1 u64 u65 u190 gd tk hp=>?_
 exact (js_cons (jsN 2 nd (je_lst ja_nil)) (js_cons (js_for hp rfl (ji_seq rfl (je_bin op_addD addD_ok (je_lst (ja_cons (je_tup (ja_cons (je_bin op_mulE mulE_ok (je_tup (ja_cons je_int ja_nil)) (je_var 0)) (ja_cons je_int ja_nil))) ja_nil)) (je_var 1))) (pgN 3 nd) tg_name (js_one (jsN 2 nd (je_bin op_addD addD_ok (je_var 2) (je_bin op_mulD mulD_ok (je_lst (ja_cons (je_var 3) ja_nil)) (je_callTy call_int1 intD_ok Z.b_int (by decide +kernel) (ja_cons (je_cmp (op_notInB u65) inD_ok (je_var 3) (je_var 2) rfl) ja_nil))))))) (js_cons (jsN 4 nd (je_lst ja_nil)) (js_cons (js_for hp rfl (ji_seq rfl (je_var 2)) (pgN 3 nd) tg_name (js_cons (by first | exact (js_setLc (i:=5) (own:=[(s!"_law_other",6)]) (g:=(gName 6)) rfl nd rfl (sw_true rfl rfl rfl (by decide +kernel)) (ji_seq rfl (je_var 2)) (blkOk_by (own:=[(s!"_law_other",6)]) (N:=N__law_due) (sc:=defScope s__law_due) (by decide +kernel)) (by exact fun _=>(tv_name (by decide))) (fun _ _ _ _ _=>(pgN 6 nd)) (fun _ _ _ _ _ _=>(jts_one (L2.PW.pt (jw_and (jt_cmp ((op_neAll u64).or (op_neO (rc_eqO Z.tab rfl (tab_EQ_Form Z)) (hr.mono (by decide)))) (neD_ok.or eqOD_ok) (je_var 6) (je_var 3) (nomark _)) (pw_and1 (jt_cmp (OpR.or op_le (op_cmpO rfl (fun _ _=>rfl) Z.tab rfl (tab_LE_Form Z) (nf_LE_Form Z) (hr.mono (by decide)))) (leD_ok.or eqOD_ok) (je_ix rfl u1 (je_var 6) je_int) (je_ix rfl u1 (je_var 3) je_int) (nomark _))))))) (fun _ _ _ _ _ _=>(je_var 6))) | exact (jsN 5 nd (je_lc (own:=[(s!"_law_other",6)]) (g:=(gName 6)) rfl nd (ji_seq rfl (je_var 2)) (blkOk_by (own:=[(s!"_law_other",6)]) (N:=N__law_due) (sc:=defScope s__law_due) (by decide +kernel)) (by exact fun _=>(tv_name (by decide))) (fun _ _ _ _ _=>(pgN 6 nd)) (fun _ _ _ _ _ _=>(jts_one (L2.PW.pt (jw_and (jt_cmp ((op_neAll u64).or (op_neO (rc_eqO Z.tab rfl (tab_EQ_Form Z)) (hr.mono (by decide)))) (neD_ok.or eqOD_ok) (je_var 6) (je_var 3) (nomark _)) (pw_and1 (jt_cmp (OpR.or op_le (op_cmpO rfl (fun _ _=>rfl) Z.tab rfl (tab_LE_Form Z) (nf_LE_Form Z) (hr.mono (by decide)))) (leD_ok.or eqOD_ok) (je_ix rfl u1 (je_var 6) je_int) (je_ix rfl u1 (je_var 3) je_int) (nomark _))))))) (fun _ _ _ _ _ _=>(je_var 6))))) (js_cons (by first | exact (js_setLc (i:=5) (own:=[(s!"_law_other",6)]) (g:=(gName 6)) rfl nd rfl (sw_true rfl rfl rfl (by decide +kernel)) (ji_seq rfl (je_var 5)) (blkOk_by (own:=[(s!"_law_other",6)]) (N:=N__law_due) (sc:=defScope s__law_due) (by decide +kernel)) (by exact fun _=>(tv_name (by decide))) (fun _ _ _ _ _=>(pgN 6 nd)) (fun _ _ _ _ _ _=>(jts_one (jt_cmp ((op_eqAll u64).or (op_eqO (rc_eqO Z.tab rfl (tab_EQ_Form Z)) (hr.mono (by decide)))) (eqD_ok.or eqOD_ok) (je_lc (own:=[(s!"_law_at",7)]) (g:=(gName 7)) rfl nd (ji_range Z.b_range (ja_cons (je_var 0) ja_nil)) (by exact blkOk_by (own:=[(s!"_law_at",7)]) (N:=N__law_due) (by kernel_rfl)) (by exact fun _=>(tv_name (by decide))) (fun _ _ _ _ _=>(pgN 7 nd)) (fun _ _ _ _ _ _=>(jts_one (jt_cmp op_ltD ltD_ok (je_ix rfl u1 (je_ix rfl u1 (je_var 6) je_int) (je_var 7)) (je_ix rfl u1 (je_ix rfl u1 (je_var 3) je_int) (je_var 7)) (nomark _)))) (fun _ _ _ _ _ _=>(je_var 7))) (je_lst ja_nil) (nomark _)))) (fun _ _ _ _ _ _=>(je_var 6))) | exact (jsN 5 nd (je_lc (own:=[(s!"_law_other",6)]) (g:=(gName 6)) rfl nd (ji_seq rfl (je_var 5)) (blkOk_by (own:=[(s!"_law_other",6)]) (N:=N__law_due) (sc:=defScope s__law_due) (by decide +kernel)) (by exact fun _=>(tv_name (by decide))) (fun _ _ _ _ _=>(pgN 6 nd)) (fun _ _ _ _ _ _=>(jts_one (jt_cmp ((op_eqAll u64).or (op_eqO (rc_eqO Z.tab rfl (tab_EQ_Form Z)) (hr.mono (by decide)))) (eqD_ok.or eqOD_ok) (je_lc (own:=[(s!"_law_at",7)]) (g:=(gName 7)) rfl nd (ji_range Z.b_range (ja_cons (je_var 0) ja_nil)) (by exact blkOk_by (own:=[(s!"_law_at",7)]) (N:=N__law_due) (by kernel_rfl)) (by exact fun _=>(tv_name (by decide))) (fun _ _ _ _ _=>(pgN 7 nd)) (fun _ _ _ _ _ _=>(jts_one (jt_cmp op_ltD ltD_ok (je_ix rfl u1 (je_ix rfl u1 (je_var 6) je_int) (je_var 7)) (je_ix rfl u1 (je_ix rfl u1 (je_var 3) je_int) (je_var 7)) (nomark _)))) (fun _ _ _ _ _ _=>(je_var 7))) (je_lst ja_nil) (nomark _)))) (fun _ _ _ _ _ _=>(je_var 6))))) (js_one (jsN 4 nd (je_bin op_addD addD_ok (je_var 4) (je_bin op_mulD mulD_ok (je_lst (ja_cons (je_var 3) ja_nil)) (je_callTy call_int1 intD_ok Z.b_int (by decide +kernel) (ja_cons (je_cmp ((op_eqAll u64).or (op_eqO (rc_eqO Z.tab rfl (tab_EQ_Form Z)) (hr.mono (by decide)))) (eqD_ok.or eqOD_ok) (je_var 5) (je_lst ja_nil) (nomark _)) ja_nil))))))))) (js_one (js_ret (je_var 4)))))))
theorem fact__law_due (Z:Fx P w K mg):FnFact P w K mg base (G P w K) Θ s!"_law_due" 2 12 P__law_due f__law_due:=by
 obtain ⟨fd,F⟩:=Z.d__law_due
 exact fact_of F Z.g__law_due (fun _ _ _ _ _ _ us hl=>match us,hl with | [_,_],_=>rfl) (okf__law_due Z F)
theorem sc__law_is_less:FnScope N__law_is_less P__law_is_less (defScope s__law_is_less):=⟨rfl,rfl,rfl,by decide +kernel,rfl,by decide +kernel,by decide +kernel⟩
theorem okf__law_is_less (Z:Fx P w K mg){fd:FuncData}(F:FunD K s!"_law_is_less" s!"_law_is_less" (defArgs s__law_is_less) (defBody s__law_is_less) (defScope s__law_is_less) [] [] (He.fAd K (s!"_law_is_less",none)) fd):FnOkG P w K mg base 12 (He.fAd K (s!"_law_is_less",none)) fd P__law_is_less (spF (G P w K) Θ 2 f__law_is_less):=by
 refine okf_of F sc__law_is_less rfl rfl fun cdv A outer s H vs E U hr=>?_
 refine kitS hr sc__law_is_less fun nd u1 u64 u65 u190 gd tk hp=>?_
 exact (js_cons (js_for hp rfl (ji_range Z.b_range (ja_cons (je_callB (call_lenAll.or (call_lenO (tab_LN_Form Z) (hr.mono (by decide)))) (lenD_ok.or lenOD_ok) Z.b_len boot_len (ja_cons (je_var 0) ja_nil)) ja_nil)) (pgN 2 nd) tg_name (js_one (js_if (jt_cmp ((op_neAll u64).or (op_neO (rc_eqO Z.tab rfl (tab_EQ_Form Z)) (hr.mono (by decide)))) (neD_ok.or eqOD_ok) (je_ix rfl u1 (je_var 0) (je_var 2)) (je_ix rfl u1 (je_var 1) (je_var 2)) (nomark _)) (js_one (js_ret (je_cmp op_ltD ltD_ok (je_ix rfl u1 (je_var 0) (je_var 2)) (je_ix rfl u1 (je_var 1) (je_var 2)) (nomark _)))) js_nil))) (js_one (js_ret je_bl)))
theorem fact__law_is_less (Z:Fx P w K mg):FnFact P w K mg base (G P w K) Θ s!"_law_is_less" 2 12 P__law_is_less f__law_is_less:=by
 obtain ⟨fd,F⟩:=Z.d__law_is_less
 exact fact_of F Z.g__law_is_less (fun _ _ _ _ _ _ us hl=>match us,hl with | [_,_],_=>rfl) (okf__law_is_less Z F)
theorem sc__law_terms_right:FnScope N__law_terms_right P__law_terms_right (defScope s__law_terms_right):=⟨rfl,rfl,rfl,by decide +kernel,rfl,by decide +kernel,by decide +kernel⟩
theorem okf__law_terms_right (Z:Fx P w K mg){fd:FuncData}(F:FunD K s!"_law_terms_right" s!"_law_terms_right" (defArgs s__law_terms_right) (defBody s__law_terms_right) (defScope s__law_terms_right) [] [] (He.fAd K (s!"_law_terms_right",none)) fd):FnOkG P w K mg base 13 (He.fAd K (s!"_law_terms_right",none)) fd P__law_terms_right (spF (G P w K) Θ 3 f__law_terms_right):=by
 refine okf_of F sc__law_terms_right rfl rfl fun cdv A outer s H vs E U hr=>?_
 refine kitS hr sc__law_terms_right fun nd u1 u64 u65 u190 gd tk hp=>?_
 exact (js_cons (by first | exact (js_par2 rfl nd (jn_cons (je_callF tk (fact__law_due Z) (hr.mono (by decide)) (ja_cons (je_var 0) (ja_cons (je_var 1) ja_nil))) (fun _=>(jn_cons (je_lc (own:=[(s!"_law_term_here",5)]) (g:=(gName 5)) rfl nd (ji_seq rfl (je_var 2)) (blkOk_by (own:=[(s!"_law_term_here",5)]) (N:=N__law_terms_right) (sc:=defScope s__law_terms_right) (by decide +kernel)) (by exact fun _=>(tv_name (by decide))) (fun _ _ _ _ _=>(pgN 5 nd)) (fun _ _ _ _ _ _=>jts_nil) (fun _ _ _ _ _ _=>(je_bin op_addD addD_ok (je_callTy call_list_of listD_ok Z.b_list (by decide +kernel) (ja_cons (je_ix rfl u1 (je_var 5) je_int) ja_nil)) (je_lst (ja_cons (je_ix rfl u1 (je_var 5) je_int) ja_nil))))) (fun _=>jn_nil))))) | exact (js_parN rfl (pg_tup rfl (pgs_cons (pgN 3 nd) (pgs_cons (pgN 4 nd) pgs_nil))) rfl (by decide) (jn_cons (je_callF tk (fact__law_due Z) (hr.mono (by decide)) (ja_cons (je_var 0) (ja_cons (je_var 1) ja_nil))) (fun _=>(jn_cons (je_lc (own:=[(s!"_law_term_here",5)]) (g:=(gName 5)) rfl nd (ji_seq rfl (je_var 2)) (blkOk_by (own:=[(s!"_law_term_here",5)]) (N:=N__law_terms_right) (sc:=defScope s__law_terms_right) (by decide +kernel)) (by exact fun _=>(tv_name (by decide))) (fun _ _ _ _ _=>(pgN 5 nd)) (fun _ _ _ _ _ _=>jts_nil) (fun _ _ _ _ _ _=>(je_bin op_addD addD_ok (je_callTy call_list_of listD_ok Z.b_list (by decide +kernel) (ja_cons (je_ix rfl u1 (je_var 5) je_int) ja_nil)) (je_lst (ja_cons (je_ix rfl u1 (je_var 5) je_int) ja_nil))))) (fun _=>jn_nil)))))) (js_cons (js_if (L2.PW.pt (jw_or (jt_cmp ((op_neAll u64).or (op_neO (rc_eqO Z.tab rfl (tab_EQ_Form Z)) (hr.mono (by decide)))) (neD_ok.or eqOD_ok) (je_callB (call_lenAll.or (call_lenO (tab_LN_Form Z) (hr.mono (by decide)))) (lenD_ok.or lenOD_ok) Z.b_len boot_len (ja_cons (je_var 2) ja_nil)) (je_callB (call_lenAll.or (call_lenO (tab_LN_Form Z) (hr.mono (by decide)))) (lenD_ok.or lenOD_ok) Z.b_len boot_len (ja_cons (je_var 3) ja_nil)) (nomark _)) (pw_or1 (jt_cmp ((op_neAll u64).or (op_neO (rc_eqO Z.tab rfl (tab_EQ_Form Z)) (hr.mono (by decide)))) (neD_ok.or eqOD_ok) (je_lc (own:=[(s!"_law_term_here",5)]) (g:=(gName 5)) rfl nd (ji_seq rfl (je_var 2)) (blkOk_by (own:=[(s!"_law_term_here",5)]) (N:=N__law_terms_right) (sc:=defScope s__law_terms_right) (by decide +kernel)) (by exact fun _=>(tv_name (by decide))) (fun _ _ _ _ _=>(pgN 5 nd)) (fun _ _ _ _ _ _=>(jts_one (jt_cmp (op_notInB u65) inD_ok (je_var 5) (je_var 3) rfl))) (fun _ _ _ _ _ _=>(je_var 5))) (je_lst ja_nil) (nomark _))))) (js_one (js_ret je_bl)) js_nil) (js_one (js_ret (je_cmp ((op_eqAll u64).or (op_eqO (rc_eqO Z.tab rfl (tab_EQ_Form Z)) (hr.mono (by decide)))) (eqD_ok.or eqOD_ok) (je_lc (own:=[(s!"_law_at",6)]) (g:=(gName 6)) rfl nd (ji_range Z.b_range (ja_cons (je_bin op_sub subD_ok (je_callB (call_lenAll.or (call_lenO (tab_LN_Form Z) (hr.mono (by decide)))) (lenD_ok.or lenOD_ok) Z.b_len boot_len (ja_cons (je_var 4) ja_nil)) je_int) ja_nil)) (blkOk_by (own:=[(s!"_law_at",6)]) (N:=N__law_terms_right) (sc:=defScope s__law_terms_right) (by decide +kernel)) (by exact fun _=>(tv_name (by decide))) (fun _ _ _ _ _=>(pgN 6 nd)) (fun _ _ _ _ _ _=>(jts_one (jt_not (jt_tru rfl (je_callF takes0 (fact__law_is_less Z) (hr.mono (by decide)) (ja_cons (je_ix rfl u1 (je_var 4) (je_var 6)) (ja_cons (je_ix rfl u1 (je_var 4) (je_bin op_addD addD_ok (je_var 6) je_int)) ja_nil))))))) (fun _ _ _ _ _ _=>(je_var 6))) (je_lst ja_nil) (nomark _))))))
theorem fact__law_terms_right (Z:Fx P w K mg):FnFact P w K mg base (G P w K) Θ s!"_law_terms_right" 3 13 P__law_terms_right f__law_terms_right:=by
 obtain ⟨fd,F⟩:=Z.d__law_terms_right
 exact fact_of F Z.g__law_terms_right (fun _ _ _ _ _ _ us hl=>match us,hl with | [_,_,_],_=>rfl) (okf__law_terms_right Z F)
theorem sc_Form___or__:FnScope N_Form___or__ P_Form___or__ (defScope s_Form___or__):=⟨rfl,rfl,rfl,by decide +kernel,rfl,by decide +kernel,by decide +kernel⟩
theorem okf_Form___or__ (Z:Fx P w K mg){fd:FuncData}(F:FunD K s!"__or__" s!"Form.__or__" (defArgs s_Form___or__) (defBody s_Form___or__) (defScope s_Form___or__) [] [] (He.fAd K (s!"Form",some s!"__or__")) fd):FnOkG P w K mg base 16 (He.fAd K (s!"Form",some s!"__or__")) fd P_Form___or__ (spF (G P w K) Θ 2 f_Form___or__):=by
 refine okf_of F sc_Form___or__ rfl rfl fun cdv A outer s H vs E U hr=>?_
 refine kitS hr sc_Form___or__ fun nd u1 u64 u65 u190 gd tk hp=>?_
 exact (js_cons (js_expr (je_meth tk (fact_Form_check Z) (by exact Z.tab.cls C_Form (by decide)) (hr.mono (by decide)) (je_var 0) (ja_cons (je_var 1) ja_nil))) (js_one (js_ret (je_makeD tk (w0_Form___init__ Z) (hr.mono (by decide)) (ja_cons (je_fld Z.tab rfl (je_var 0)) (ja_cons (je_lst (ja_star rfl (je_fld Z.tab rfl (je_var 0)) (ja_star rfl (je_fld Z.tab rfl (je_var 1)) ja_nil))) ja_nil))))))
theorem tab_OR_Form (Z:Fx P w K mg):SpTab P w K mg base (G P w K) Θ s!"__or__" 2 16 OR_Form:=by
 obtain ⟨fd_Form,F_Form⟩:=Z.d_Form___or__
 exact (sptab_cons (sp_of (c:=C_Form) Z.sp_OR_Form_Form (F_Form.bindsN fun _ _ _ _ _ _ us hl=>match us,hl with | [_,_],_=>rfl) ((okf_Form___or__ Z F_Form).mono (by decide))) sptab_nil)
theorem sf_OR_Form (Z:Fx P w K mg):SfTab K (G P w K) OR_Form:=(sftab_cons (c:=C_Form) Z.sf_OR_Form_Form sftab_nil)
theorem sc_Form___add__:FnScope N_Form___add__ P_Form___add__ (defScope s_Form___add__):=⟨rfl,rfl,rfl,by decide +kernel,rfl,by decide +kernel,by decide +kernel⟩
theorem okf_Form___add__ (Z:Fx P w K mg){fd:FuncData}(F:FunD K s!"__add__" s!"Form.__add__" (defArgs s_Form___add__) (defBody s_Form___add__) (defScope s_Form___add__) [] [] (He.fAd K (s!"Form",some s!"__add__")) fd):FnOkG P w K mg base 16 (He.fAd K (s!"Form",some s!"__add__")) fd P_Form___add__ (spF (G P w K) Θ 2 f_Form___add__):=by
 refine okf_of F sc_Form___add__ rfl rfl fun cdv A outer s H vs E U hr=>?_
 refine kitS hr sc_Form___add__ fun nd u1 u64 u65 u190 gd tk hp=>?_
 exact (js_cons (js_expr (je_meth tk (fact_Form_check Z) (by exact Z.tab.cls C_Form (by decide)) (hr.mono (by decide)) (je_var 0) (ja_cons (je_var 1) ja_nil))) (js_cons (jsN 2 nd (je_lst ja_nil)) (js_cons (js_for hp rfl (ji_seq rfl (je_fld Z.tab rfl (je_var 0))) (pg_tup rfl (pgs_cons (pgN 3 nd) (pgs_cons (pgN 4 nd) pgs_nil))) (tg_tup (tgs_cons tg_name (tgs_cons tg_name tgs_nil))) (js_one (js_for hp rfl (ji_seq rfl (je_fld Z.tab rfl (je_var 1))) (pg_tup rfl (pgs_cons (pgN 5 nd) (pgs_cons (pgN 6 nd) pgs_nil))) (tg_tup (tgs_cons tg_name (tgs_cons tg_name tgs_nil))) (js_one (js_expr (je_mut PySem.F.plainAttrs_list PySem.F.slot_list_append PySem.F.type_list_append mt_append appendD_ok rfl (je_var 2) (ja_cons (je_tup (ja_cons (je_callTy call_tuple_of tupleD_ok Z.b_tuple (by decide +kernel) (ja_cons (je_lc (own:=[(s!"one",7),(s!"two",8)]) (g:=(gTup K 2 (gCons (gName 7) (gCons (gName 8) gNil)))) rfl nd (ji_zip2 rfl Z.b_zip (ja_cons (je_var 3) (ja_cons (je_var 5) ja_nil))) (blkOk_by (own:=[(s!"one",7),(s!"two",8)]) (N:=N_Form___add__) (sc:=defScope s_Form___add__) (by decide +kernel)) (by exact fun _=>(tv_tup (tvs_cons (tv_name (by decide)) (tvs_cons (tv_name (by decide)) tvs_nil)))) (fun _ _ _ _ _=>(pg_tup rfl (pgs_cons (pgN 7 nd) (pgs_cons (pgN 8 nd) pgs_nil)))) (fun _ _ _ _ _ _=>jts_nil) (fun _ _ _ _ _ _=>(je_bin op_addD addD_ok (je_var 7) (je_var 8)))) ja_nil)) (ja_cons (je_bin op_addD addD_ok (je_var 4) (je_var 6)) ja_nil))) ja_nil))))))) (js_one (js_ret (je_makeD tk (w0_Form___init__ Z) (hr.mono (by decide)) (ja_cons (je_fld Z.tab rfl (je_var 0)) (ja_cons (je_var 2) ja_nil))))))))
theorem tab_AD_Form (Z:Fx P w K mg):SpTab P w K mg base (G P w K) Θ s!"__add__" 2 16 AD_Form:=by
 obtain ⟨fd_Form,F_Form⟩:=Z.d_Form___add__
 exact (sptab_cons (sp_of (c:=C_Form) Z.sp_AD_Form_Form (F_Form.bindsN fun _ _ _ _ _ _ us hl=>match us,hl with | [_,_],_=>rfl) ((okf_Form___add__ Z F_Form).mono (by decide))) sptab_nil)
theorem sf_AD_Form (Z:Fx P w K mg):SfTab K (G P w K) AD_Form:=(sftab_cons (c:=C_Form) Z.sf_AD_Form_Form sftab_nil)
theorem sc__law_limits:FnScope N__law_limits P__law_limits (defScope s__law_limits):=⟨rfl,rfl,rfl,by decide +kernel,rfl,by decide +kernel,by decide +kernel⟩
theorem okf__law_limits (Z:Fx P w K mg){fd:FuncData}(F:FunD K s!"_law_limits" s!"_law_limits" (defArgs s__law_limits) (defBody s__law_limits) (defScope s__law_limits) [] [] (He.fAd K (s!"_law_limits",none)) fd):FnOkG P w K mg base 2 (He.fAd K (s!"_law_limits",none)) fd P__law_limits (spF (G P w K) Θ 2 f__law_limits):=by
 refine okf_of F sc__law_limits rfl rfl fun cdv A outer s H vs E U hr=>?_
 refine kitS hr sc__law_limits fun nd u1 u64 u65 u190 gd tk hp=>?_
 exact (js_cons (jsN 2 nd (je_ix rfl u1 (je_lst (ja_cons je_int (ja_cons je_int (ja_cons (je_bin op_pow powD_ok je_int je_int) ja_nil)))) (je_callF tk (fact__law_draw Z) (hr.mono (by decide)) (ja_cons (je_var 0) (ja_cons je_int ja_nil))))) (js_one (js_ret (je_lc (own:=[(s!"_law_place",3)]) (g:=(gName 3)) rfl nd (ji_range Z.b_range (ja_cons (je_var 1) ja_nil)) (blkOk_by (own:=[(s!"_law_place",3)]) (N:=N__law_limits) (sc:=defScope s__law_limits) (by decide +kernel)) (by exact fun _=>(tv_name (by decide))) (fun _ _ _ _ _=>(pgN 3 nd)) (fun _ _ _ _ _ _=>jts_nil) (fun _ _ _ _ _ _=>(je_callF takes0 (fact__law_draw Z) (hr.mono (by decide)) (ja_cons (je_var 0) (ja_cons (je_var 2) ja_nil))))))))
theorem fact__law_limits (Z:Fx P w K mg):FnFact P w K mg base (G P w K) Θ s!"_law_limits" 2 2 P__law_limits f__law_limits:=by
 obtain ⟨fd,F⟩:=Z.d__law_limits
 exact fact_of F Z.g__law_limits (fun _ _ _ _ _ _ us hl=>match us,hl with | [_,_],_=>rfl) (okf__law_limits Z F)
theorem sc__law_worth:FnScope N__law_worth P__law_worth (defScope s__law_worth):=⟨rfl,rfl,rfl,by decide +kernel,rfl,by decide +kernel,by decide +kernel⟩
theorem okf__law_worth (Z:Fx P w K mg){fd:FuncData}(F:FunD K s!"_law_worth" s!"_law_worth" (defArgs s__law_worth) (defBody s__law_worth) (defScope s__law_worth) [] [] (He.fAd K (s!"_law_worth",none)) fd):FnOkG P w K mg base 3 (He.fAd K (s!"_law_worth",none)) fd P__law_worth (spF (G P w K) Θ 2 f__law_worth):=by
 refine okf_of F sc__law_worth rfl rfl fun cdv A outer s H vs E U hr=>?_
 refine kitS hr sc__law_worth fun nd u1 u64 u65 u190 gd tk hp=>?_
 exact (js_cons (jsN 2 nd je_int) (js_cons (js_for hp rfl (ji_seq rfl (je_var 0)) (pg_tup rfl (pgs_cons (pgN 3 nd) (pgs_cons (pgN 4 nd) pgs_nil))) (tg_tup (tgs_cons tg_name (tgs_cons tg_name tgs_nil))) (js_one (jsN 2 nd (je_callB (call_max2 rfl) fI2_ok Z.b_max (by decide +kernel) (ja_cons (je_callTy call_int1 intD_ok Z.b_int (by decide +kernel) (ja_cons (je_var 2) ja_nil)) (ja_cons (je_callTy call_int1 intD_ok Z.b_int (by decide +kernel) (ja_cons (je_bin op_sub subD_ok (je_callB (cr_sum rfl) sumD_ok Z.b_sum (by decide +kernel) (ja_cons (je_lc (own:=[(s!"_law_at",5)]) (g:=(gName 5)) rfl nd (ji_range Z.b_range (ja_cons (je_callB (call_lenAll.or (call_lenO (tab_LN_Form Z) (hr.mono (by decide)))) (lenD_ok.or lenOD_ok) Z.b_len boot_len (ja_cons (je_var 1) ja_nil)) ja_nil)) (blkOk_by (own:=[(s!"_law_at",5)]) (N:=N__law_worth) (sc:=defScope s__law_worth) (by decide +kernel)) (by exact fun _=>(tv_name (by decide))) (fun _ _ _ _ _=>(pgN 5 nd)) (fun _ _ _ _ _ _=>jts_nil) (fun _ _ _ _ _ _=>(je_bin op_mulD mulD_ok (je_ix rfl u1 (je_var 3) (je_var 5)) (je_ix rfl u1 (je_var 1) (je_var 5))))) ja_nil)) (je_var 4)) ja_nil)) ja_nil)))))) (js_one (js_ret (je_var 2)))))
theorem fact__law_worth (Z:Fx P w K mg):FnFact P w K mg base (G P w K) Θ s!"_law_worth" 2 3 P__law_worth f__law_worth:=by
 obtain ⟨fd,F⟩:=Z.d__law_worth
 exact fact_of F Z.g__law_worth (fun _ _ _ _ _ _ us hl=>match us,hl with | [_,_],_=>rfl) (okf__law_worth Z F)
theorem sc_worth_of:FnScope N_worth_of P_worth_of (defScope s_worth_of):=⟨rfl,rfl,rfl,by decide +kernel,rfl,by decide +kernel,by decide +kernel⟩
theorem okf_worth_of (Z:Fx P w K mg){fd:FuncData}(F:FunD K s!"worth_of" s!"worth_of" (defArgs s_worth_of) (defBody s_worth_of) (defScope s_worth_of) [] [] (He.fAd K (s!"worth_of",none)) fd):FnOkG P w K mg base 1 (He.fAd K (s!"worth_of",none)) fd P_worth_of (spF (G P w K) Θ 2 f_worth_of):=by
 refine okf_of F sc_worth_of rfl rfl fun cdv A outer s H vs E U hr=>?_
 refine kitS hr sc_worth_of fun nd u1 u64 u65 u190 gd tk hp=>?_
 exact (js_one (js_ret (je_bin op_sub subD_ok (je_callB (cr_sum rfl) sumD_ok Z.b_sum (by decide +kernel) (ja_cons (je_lc (own:=[(s!"times",2),(s!"limit",3)]) (g:=(gTup K 2 (gCons (gName 2) (gCons (gName 3) gNil)))) rfl nd (ji_zip2 rfl Z.b_zip (ja_cons (je_ix rfl u1 (je_var 0) je_int) (ja_cons (je_var 1) ja_nil))) (blkOk_by (own:=[(s!"times",2),(s!"limit",3)]) (N:=N_worth_of) (sc:=defScope s_worth_of) (by decide +kernel)) (by exact fun _=>(tv_tup (tvs_cons (tv_name (by decide)) (tvs_cons (tv_name (by decide)) tvs_nil)))) (fun _ _ _ _ _=>(pg_tup rfl (pgs_cons (pgN 2 nd) (pgs_cons (pgN 3 nd) pgs_nil)))) (fun _ _ _ _ _ _=>jts_nil) (fun _ _ _ _ _ _=>(je_bin op_mulD mulD_ok (je_var 2) (je_var 3)))) ja_nil)) (je_ix rfl u1 (je_var 0) je_int))))
theorem fact_worth_of (Z:Fx P w K mg):FnFact P w K mg base (G P w K) Θ s!"worth_of" 2 1 P_worth_of f_worth_of:=by
 obtain ⟨fd,F⟩:=Z.d_worth_of
 exact fact_of F Z.g_worth_of (fun _ _ _ _ _ _ us hl=>match us,hl with | [_,_],_=>rfl) (okf_worth_of Z F)
theorem sc_Form___call__:FnScope N_Form___call__ P_Form___call__ (defScope s_Form___call__):=⟨rfl,rfl,rfl,by decide +kernel,rfl,by decide +kernel,by decide +kernel⟩
theorem okf_Form___call__ (Z:Fx P w K mg){fd:FuncData}(F:FunD K s!"__call__" s!"Form.__call__" (defArgs s_Form___call__) (defBody s_Form___call__) (defScope s_Form___call__) [] [] (He.fAd K (s!"Form",some s!"__call__")) fd):FnOkG P w K mg base 13 (He.fAd K (s!"Form",some s!"__call__")) fd P_Form___call__ (spF (G P w K) Θ 2 f_Form___call__):=by
 refine okf_of F sc_Form___call__ rfl rfl fun cdv A outer s H vs E U hr=>?_
 refine kitS hr sc_Form___call__ fun nd u1 u64 u65 u190 gd tk hp=>?_
 exact (js_cons (js_if (jt_not (jt_tru rfl (je_callF tk (fact_are_numbers Z) (hr.mono (by decide)) (ja_cons (je_var 1) (ja_cons (je_fld Z.tab rfl (je_var 0)) ja_nil))))) (js_one (js_raise rfl tk (xc_BadLimits Z) (hr.mono (by decide)) (je_var 1))) js_nil) (js_one (js_ret (je_callB (cr_max rfl) maxLD_ok Z.b_max (by decide +kernel) (ja_cons (je_lc (own:=[(s!"term",2)]) (g:=(gName 2)) rfl nd (ji_seq rfl (je_fld Z.tab rfl (je_var 0))) (blkOk_by (own:=[(s!"term",2)]) (N:=N_Form___call__) (sc:=defScope s_Form___call__) (by decide +kernel)) (by exact fun _=>(tv_name (by decide))) (fun _ _ _ _ _=>(pgN 2 nd)) (fun _ _ _ _ _ _=>jts_nil) (fun _ _ _ _ _ _=>(je_callTy call_int1 intD_ok Z.b_int (by decide +kernel) (ja_cons (je_callF takes0 (fact_worth_of Z) (hr.mono (by decide)) (ja_cons (je_var 2) (ja_cons (je_var 1) ja_nil))) ja_nil)))) ja_nil)))))
theorem tab_CA_Form (Z:Fx P w K mg):SpTab P w K mg base (G P w K) Θ s!"__call__" 2 13 CA_Form:=by
 obtain ⟨fd_Form,F_Form⟩:=Z.d_Form___call__
 exact (sptab_cons (sp_of (c:=C_Form) Z.sp_CA_Form_Form (F_Form.bindsN fun _ _ _ _ _ _ us hl=>match us,hl with | [_,_],_=>rfl) ((okf_Form___call__ Z F_Form).mono (by decide))) sptab_nil)
theorem sc_law:FnScope N_law P_law (defScope s_law):=⟨rfl,rfl,rfl,by decide +kernel,rfl,by decide +kernel,by decide +kernel⟩
theorem okf_law (Z:Fx P w K mg){fd:FuncData}(F:FunD K s!"law" s!"law" (defArgs s_law) (defBody s_law) (defScope s_law) [] [] (He.fAd K (s!"law",none)) fd):FnOkG P w K mg base 17 (He.fAd K (s!"law",none)) fd P_law (spF (G P w K) Θ 1 f_law):=by
 refine okf_of F sc_law rfl rfl fun cdv A outer s H vs E U hr=>?_
 refine kitS hr sc_law fun nd u1 u64 u65 u190 gd tk hp=>?_
 exact (js_cons (js_for hp rfl (ji_range Z.b_range (ja_cons (je_callB (call_max2 rfl) fI2_ok Z.b_max (by decide +kernel) (ja_cons je_int (ja_cons (je_callB (call_min2 rfl) fI2_ok Z.b_min (by decide +kernel) (ja_cons (je_callB (call_lenAll.or (call_lenO (tab_LN_Form Z) (hr.mono (by decide)))) (lenD_ok.or lenOD_ok) Z.b_len boot_len (ja_cons (je_var 0) ja_nil)) (ja_cons je_int ja_nil))) ja_nil))) ja_nil)) (pgN 1 nd) tg_name (js_cons (jsN 2 nd (je_callF tk (fact__law_pool Z) (hr.mono (by decide)) (ja_cons (je_var 0) (ja_cons (je_var 1) ja_nil)))) (js_cons (jsN 3 nd (je_bin op_addD addD_ok je_int (je_callF tk (fact__law_draw Z) (hr.mono (by decide)) (ja_cons (je_var 2) (ja_cons je_int ja_nil))))) (js_cons (by first | exact (js_par2 rfl nd (jn_cons (je_callF tk (fact__law_terms Z) (hr.mono (by decide)) (ja_cons (je_var 2) (ja_cons (je_var 3) ja_nil))) (fun _=>(jn_cons (je_callF tk (fact__law_terms Z) (hr.mono (by decide)) (ja_cons (je_var 2) (ja_cons (je_var 3) ja_nil))) (fun _=>jn_nil))))) | exact (js_parN rfl (pg_tup rfl (pgs_cons (pgN 5 nd) (pgs_cons (pgN 6 nd) pgs_nil))) rfl (by decide) (jn_cons (je_callF tk (fact__law_terms Z) (hr.mono (by decide)) (ja_cons (je_var 2) (ja_cons (je_var 3) ja_nil))) (fun _=>(jn_cons (je_callF tk (fact__law_terms Z) (hr.mono (by decide)) (ja_cons (je_var 2) (ja_cons (je_var 3) ja_nil))) (fun _=>jn_nil)))))) (js_cons (by first | exact (js_par2 rfl nd (jn_cons (je_makeD tk (w0_Form___init__ Z) (hr.mono (by decide)) (ja_cons (je_var 3) (ja_cons (je_var 5) ja_nil))) (fun _=>(jn_cons (je_makeD tk (w0_Form___init__ Z) (hr.mono (by decide)) (ja_cons (je_var 3) (ja_cons (je_callTy call_tuple_of tupleD_ok Z.b_tuple (by decide +kernel) (ja_cons (je_var 6) ja_nil)) ja_nil))) (fun _=>jn_nil))))) | exact (js_parN rfl (pg_tup rfl (pgs_cons (pgN 7 nd) (pgs_cons (pgN 8 nd) pgs_nil))) rfl (by decide) (jn_cons (je_makeD tk (w0_Form___init__ Z) (hr.mono (by decide)) (ja_cons (je_var 3) (ja_cons (je_var 5) ja_nil))) (fun _=>(jn_cons (je_makeD tk (w0_Form___init__ Z) (hr.mono (by decide)) (ja_cons (je_var 3) (ja_cons (je_callTy call_tuple_of tupleD_ok Z.b_tuple (by decide +kernel) (ja_cons (je_var 6) ja_nil)) ja_nil))) (fun _=>jn_nil)))))) (js_cons (js_if (L2.PW.pt (jw_or (jt_not (jt_tru rfl (je_callF tk (fact__law_terms_right Z) (hr.mono (by decide)) (ja_cons (je_var 3) (ja_cons (je_var 5) (ja_cons (je_fld Z.tab rfl (je_var 7)) ja_nil)))))) (jw_or (jt_cmp ((op_neAll u64).or (op_neO (rc_eqO Z.tab rfl (tab_EQ_Form Z)) (hr.mono (by decide)))) (neD_ok.or eqOD_ok) (je_callB (call_lenAll.or (call_lenO (tab_LN_Form Z) (hr.mono (by decide)))) (lenD_ok.or lenOD_ok) Z.b_len boot_len (ja_cons (je_var 7) ja_nil)) (je_callB (call_lenAll.or (call_lenO (tab_LN_Form Z) (hr.mono (by decide)))) (lenD_ok.or lenOD_ok) Z.b_len boot_len (ja_cons (je_fld Z.tab rfl (je_var 7)) ja_nil)) (nomark _)) (pw_or1 (jt_cmp ((op_neAll u64).or (op_neO (rc_eqO Z.tab rfl (tab_EQ_Form Z)) (hr.mono (by decide)))) (neD_ok.or eqOD_ok) (je_fld Z.tab rfl (je_var 7)) (je_var 3) (nomark _)))))) (js_one (js_ret je_bl)) js_nil) (js_cons (by first | exact (js_par2 rfl nd (jn_cons (je_opO tk rfl (tab_AD_Form Z) (sf_AD_Form Z) (hr.mono (by decide)) (je_var 7) (je_var 8)) (fun _=>(jn_cons (je_opO tk rfl (tab_OR_Form Z) (sf_OR_Form Z) (hr.mono (by decide)) (je_var 7) (je_var 8)) (fun _=>jn_nil))))) | exact (js_parN rfl (pg_tup rfl (pgs_cons (pgN 9 nd) (pgs_cons (pgN 10 nd) pgs_nil))) rfl (by decide) (jn_cons (je_opO tk rfl (tab_AD_Form Z) (sf_AD_Form Z) (hr.mono (by decide)) (je_var 7) (je_var 8)) (fun _=>(jn_cons (je_opO tk rfl (tab_OR_Form Z) (sf_OR_Form Z) (hr.mono (by decide)) (je_var 7) (je_var 8)) (fun _=>jn_nil)))))) (js_one (js_for hp rfl (ji_range Z.b_range (ja_cons je_int ja_nil)) (pgN 4 nd) tg_name (js_cons (jsN 11 nd (je_callF tk (fact__law_limits Z) (hr.mono (by decide)) (ja_cons (je_var 2) (ja_cons (je_var 3) ja_nil)))) (js_cons (by first | exact (js_par2 rfl nd (jn_cons (je_callF tk (fact__law_worth Z) (hr.mono (by decide)) (ja_cons (je_var 5) (ja_cons (je_var 11) ja_nil))) (fun _=>(jn_cons (je_callF tk (fact__law_worth Z) (hr.mono (by decide)) (ja_cons (je_var 6) (ja_cons (je_var 11) ja_nil))) (fun _=>jn_nil))))) | exact (js_parN rfl (pg_tup rfl (pgs_cons (pgN 12 nd) (pgs_cons (pgN 13 nd) pgs_nil))) rfl (by decide) (jn_cons (je_callF tk (fact__law_worth Z) (hr.mono (by decide)) (ja_cons (je_var 5) (ja_cons (je_var 11) ja_nil))) (fun _=>(jn_cons (je_callF tk (fact__law_worth Z) (hr.mono (by decide)) (ja_cons (je_var 6) (ja_cons (je_var 11) ja_nil))) (fun _=>jn_nil)))))) (js_cons (js_if (L2.PW.pt (jw_or (jt_cmp ((op_neAll u64).or (op_neO (rc_eqO Z.tab rfl (tab_EQ_Form Z)) (hr.mono (by decide)))) (neD_ok.or eqOD_ok) (je_lst (ja_cons (je_callO tk (tab_CA_Form Z) (hr.mono (by decide)) (je_var 7) (ja_cons (je_var 11) ja_nil)) (ja_cons (je_callO tk (tab_CA_Form Z) (hr.mono (by decide)) (je_var 8) (ja_cons (je_callTy call_tuple_of tupleD_ok Z.b_tuple (by decide +kernel) (ja_cons (je_var 11) ja_nil)) ja_nil)) ja_nil))) (je_lst (ja_cons (je_var 12) (ja_cons (je_var 13) ja_nil))) (nomark _)) (pw_or1 (jt_cmp ((op_neAll u64).or (op_neO (rc_eqO Z.tab rfl (tab_EQ_Form Z)) (hr.mono (by decide)))) (neD_ok.or eqOD_ok) (je_callO tk (tab_CA_Form Z) (hr.mono (by decide)) (je_var 9) (ja_cons (je_var 11) ja_nil)) (je_bin op_addD addD_ok (je_var 12) (je_var 13)) (nomark _))))) (js_one (js_ret je_bl)) js_nil) (js_one (js_if (jt_cmp ((op_neAll u64).or (op_neO (rc_eqO Z.tab rfl (tab_EQ_Form Z)) (hr.mono (by decide)))) (neD_ok.or eqOD_ok) (je_callO tk (tab_CA_Form Z) (hr.mono (by decide)) (je_var 10) (ja_cons (je_var 11) ja_nil)) (je_callB (call_max2 rfl) fI2_ok Z.b_max (by decide +kernel) (ja_cons (je_callTy call_int1 intD_ok Z.b_int (by decide +kernel) (ja_cons (je_var 12) ja_nil)) (ja_cons (je_callTy call_int1 intD_ok Z.b_int (by decide +kernel) (ja_cons (je_var 13) ja_nil)) ja_nil))) (nomark _)) (js_one (js_ret je_bl)) js_nil)))))))))))))) (js_one (js_ret je_bl)))
theorem ob_eq (s:PySem.W.SharedT):ob s=hk.obs s.abs:=obsZ_eq (HandSHeadRun.getT_eq s)
theorem facts {P:Program}{w:World}{K:PySem.W.Frag}{h:Heap}{mg:PySem.Str→Option Value}(X:K.In h)(Gn:h.Ns mainGlobals mg)(c:He.SaysD fas dfs K)(cm:ex K=true):Fx P w K mg:=by
 have e0:ex K=true:=cm
 obtain ⟨x0,e1⟩:=and2 e0
 obtain ⟨x1,e2⟩:=and2 e1
 obtain ⟨x2,e3⟩:=and2 e2
 obtain ⟨x3,e4⟩:=and2 e3
 obtain ⟨x4,e5⟩:=and2 e4
 obtain ⟨x5,e6⟩:=and2 e5
 obtain ⟨x6,e7⟩:=and2 e6
 obtain ⟨x7,e8⟩:=and2 e7
 obtain ⟨x8,e9⟩:=and2 e8
 obtain ⟨x9,e10⟩:=and2 e9
 obtain ⟨x10,e11⟩:=and2 e10
 obtain ⟨x11,e12⟩:=and2 e11
 obtain ⟨x12,e13⟩:=and2 e12
 obtain ⟨x13,e14⟩:=and2 e13
 obtain ⟨x14,e15⟩:=and2 e14
 obtain ⟨x15,e16⟩:=and2 e15
 obtain ⟨x16,e17⟩:=and2 e16
 obtain ⟨x17,e18⟩:=and2 e17
 obtain ⟨x18,e19⟩:=and2 e18
 obtain ⟨x19,e20⟩:=and2 e19
 obtain ⟨x20,e21⟩:=and2 e20
 obtain ⟨x21,e22⟩:=and2 e21
 obtain ⟨x22,e23⟩:=and2 e22
 obtain ⟨x23,e24⟩:=and2 e23
 obtain ⟨x24,e25⟩:=and2 e24
 obtain ⟨x25,e26⟩:=and2 e25
 obtain ⟨x26,e27⟩:=and2 e26
 have x27:=e27
 have h_g__law_pool:=He.glo_ok X Gn (c.fact 0 (f:=.glo s!"_law_pool") rfl)
 have h_g__law_draw:=He.glo_ok X Gn (c.fact 1 (f:=.glo s!"_law_draw") rfl)
 have h_g__law_term:=He.glo_ok X Gn (c.fact 2 (f:=.glo s!"_law_term") rfl)
 have h_g__law_terms:=He.glo_ok X Gn (c.fact 3 (f:=.glo s!"_law_terms") rfl)
 have h_g_is_integer:=He.glo_ok X Gn (c.fact 4 (f:=.glo s!"is_integer") rfl)
 have h_g_unit:=He.glo_ok X Gn (c.fact 5 (f:=.glo s!"unit") rfl)
 have h_g_common_divisor:=He.glo_ok X Gn (c.fact 6 (f:=.glo s!"common_divisor") rfl)
 have h_g_shortened:=He.glo_ok X Gn (c.fact 7 (f:=.glo s!"shortened") rfl)
 have h_g_less:=He.glo_ok X Gn (c.fact 8 (f:=.glo s!"less") rfl)
 have h_g_joined_row:=He.glo_ok X Gn (c.fact 9 (f:=.glo s!"joined_row") rfl)
 have h_g_without:=He.glo_ok X Gn (c.fact 10 (f:=.glo s!"without") rfl)
 have h_g_value_at:=He.glo_ok X Gn (c.fact 11 (f:=.glo s!"value_at") rfl)
 have h_g_next_number:=He.glo_ok X Gn (c.fact 12 (f:=.glo s!"next_number") rfl)
 have h_g_solution:=He.glo_ok X Gn (c.fact 13 (f:=.glo s!"solution") rfl)
 have h_g_parting_term:=He.glo_ok X Gn (c.fact 14 (f:=.glo s!"parting_term") rfl)
 have h_g_parting_limits:=He.glo_ok X Gn (c.fact 15 (f:=.glo s!"parting_limits") rfl)
 have h_g_are_numbers:=He.glo_ok X Gn (c.fact 16 (f:=.glo s!"are_numbers") rfl)
 have h_g_is_term:=He.glo_ok X Gn (c.fact 17 (f:=.glo s!"is_term") rfl)
 have h_g_is_needless:=He.glo_ok X Gn (c.fact 18 (f:=.glo s!"is_needless") rfl)
 have h_g_rank_of:=He.glo_ok X Gn (c.fact 19 (f:=.glo s!"rank_of") rfl)
 have h_g_in_order:=He.glo_ok X Gn (c.fact 20 (f:=.glo s!"in_order") rfl)
 have h_g__law_due:=He.glo_ok X Gn (c.fact 21 (f:=.glo s!"_law_due") rfl)
 have h_g__law_is_less:=He.glo_ok X Gn (c.fact 22 (f:=.glo s!"_law_is_less") rfl)
 have h_g__law_terms_right:=He.glo_ok X Gn (c.fact 23 (f:=.glo s!"_law_terms_right") rfl)
 have h_g__law_limits:=He.glo_ok X Gn (c.fact 24 (f:=.glo s!"_law_limits") rfl)
 have h_g__law_worth:=He.glo_ok X Gn (c.fact 25 (f:=.glo s!"_law_worth") rfl)
 have h_g_worth_of:=He.glo_ok X Gn (c.fact 26 (f:=.glo s!"worth_of") rfl)
 have h_g_law:=He.glo_ok X Gn (c.fact 27 (f:=.glo s!"law") rfl)
 have h_gc_BadForm:=He.glo_ok X Gn (c.fact 28 (f:=.glo s!"BadForm") rfl)
 have h_gc_BadLimits:=He.glo_ok X Gn (c.fact 29 (f:=.glo s!"BadLimits") rfl)
 have h_gc_BadPart:=He.glo_ok X Gn (c.fact 30 (f:=.glo s!"BadPart") rfl)
 have h_gc_Form:=He.glo_ok X Gn (c.fact 31 (f:=.glo s!"Form") rfl)
 have h_gc_TooMany:=He.glo_ok X Gn (c.fact 32 (f:=.glo s!"TooMany") rfl)
 have h_b_abs:=He.free_ok X Gn (c.fact 33 (f:=.free s!"abs") rfl)
 have h_b_all:=He.free_ok X Gn (c.fact 34 (f:=.free s!"all") rfl)
 have h_b_any:=He.free_ok X Gn (c.fact 35 (f:=.free s!"any") rfl)
 have h_b_bool:=He.free_ok X Gn (c.fact 36 (f:=.free s!"bool") rfl)
 have h_b_enumerate:=He.free_ok X Gn (c.fact 37 (f:=.free s!"enumerate") rfl)
 have h_b_int:=He.free_ok X Gn (c.fact 38 (f:=.free s!"int") rfl)
 have h_b_isinstance:=He.free_ok X Gn (c.fact 39 (f:=.free s!"isinstance") rfl)
 have h_b_len:=He.free_ok X Gn (c.fact 40 (f:=.free s!"len") rfl)
 have h_b_list:=He.free_ok X Gn (c.fact 41 (f:=.free s!"list") rfl)
 have h_b_max:=He.free_ok X Gn (c.fact 42 (f:=.free s!"max") rfl)
 have h_b_min:=He.free_ok X Gn (c.fact 43 (f:=.free s!"min") rfl)
 have h_b_range:=He.free_ok X Gn (c.fact 44 (f:=.free s!"range") rfl)
 have h_b_sorted:=He.free_ok X Gn (c.fact 45 (f:=.free s!"sorted") rfl)
 have h_b_sum:=He.free_ok X Gn (c.fact 46 (f:=.free s!"sum") rfl)
 have h_b_tuple:=He.free_ok X Gn (c.fact 47 (f:=.free s!"tuple") rfl)
 have h_b_zip:=He.free_ok X Gn (c.fact 48 (f:=.free s!"zip") rfl)
 have h_c_MOST_PLACES:=He.int_ok X Gn (c.fact 49 (f:=.int s!"MOST_PLACES" (4)) rfl)
 have h_c_MOST_ROWS:=He.int_ok X Gn (c.fact 50 (f:=.int s!"MOST_ROWS" (5000)) rfl)
 have h_c_MOST_TERMS:=He.int_ok X Gn (c.fact 51 (f:=.int s!"MOST_TERMS" (32)) rfl)
 have h_mt_Form___len__:=He.meth_ok (c.fact 52 (f:=.meth s!"Form" s!"__len__") rfl)
 have h_mt_Form_check:=He.meth_ok (c.fact 53 (f:=.meth s!"Form" s!"check") rfl)
 have h_mt_Form___le__:=He.meth_ok (c.fact 54 (f:=.meth s!"Form" s!"__le__") rfl)
 have h_mt_Form___eq__:=He.meth_ok (c.fact 55 (f:=.meth s!"Form" s!"__eq__") rfl)
 have h_mk_Form:=He.mkr_ok (c.fact 56 (f:=.mkr s!"Form") rfl)
 have h_mt_Form___or__:=He.meth_ok (c.fact 57 (f:=.meth s!"Form" s!"__or__") rfl)
 have h_mt_Form___add__:=He.meth_ok (c.fact 58 (f:=.meth s!"Form" s!"__add__") rfl)
 have h_mt_Form___call__:=He.meth_ok (c.fact 59 (f:=.meth s!"Form" s!"__call__") rfl)
 have h_GLOTownError:=He.glo_ok X Gn (c.fact 60 (f:=.glo s!"TownError") rfl)
 have h_FREEOverflowError:=He.free_ok X Gn (c.fact 61 (f:=.free s!"OverflowError") rfl)
 have h_d_Form___len__:=c.def_ 0 (d:=dd_Form___len__) rfl
 have h_d__law_pool:=c.def_ 1 (d:=dd__law_pool) rfl
 have h_d__law_draw:=c.def_ 2 (d:=dd__law_draw) rfl
 have h_d__law_term:=c.def_ 3 (d:=dd__law_term) rfl
 have h_d__law_terms:=c.def_ 4 (d:=dd__law_terms) rfl
 have h_d_is_integer:=c.def_ 5 (d:=dd_is_integer) rfl
 have h_d_unit:=c.def_ 6 (d:=dd_unit) rfl
 have h_d_common_divisor:=c.def_ 7 (d:=dd_common_divisor) rfl
 have h_d_shortened:=c.def_ 8 (d:=dd_shortened) rfl
 have h_d_less:=c.def_ 9 (d:=dd_less) rfl
 have h_d_joined_row:=c.def_ 10 (d:=dd_joined_row) rfl
 have h_d_Form_check:=c.def_ 11 (d:=dd_Form_check) rfl
 have h_d_Form___le__:=c.def_ 12 (d:=dd_Form___le__) rfl
 have h_d_without:=c.def_ 13 (d:=dd_without) rfl
 have h_d_value_at:=c.def_ 14 (d:=dd_value_at) rfl
 have h_d_next_number:=c.def_ 15 (d:=dd_next_number) rfl
 have h_d_solution:=c.def_ 16 (d:=dd_solution) rfl
 have h_d_parting_term:=c.def_ 17 (d:=dd_parting_term) rfl
 have h_d_parting_limits:=c.def_ 18 (d:=dd_parting_limits) rfl
 have h_d_Form___eq__:=c.def_ 19 (d:=dd_Form___eq__) rfl
 have h_d_are_numbers:=c.def_ 20 (d:=dd_are_numbers) rfl
 have h_d_is_term:=c.def_ 21 (d:=dd_is_term) rfl
 have h_d_is_needless:=c.def_ 22 (d:=dd_is_needless) rfl
 have h_d_rank_of:=c.def_ 23 (d:=dd_rank_of) rfl
 have h_d_in_order:=c.def_ 24 (d:=dd_in_order) rfl
 have h_d_Form___init__:=c.def_ 25 (d:=dd_Form___init__) rfl
 have h_d__law_due:=c.def_ 26 (d:=dd__law_due) rfl
 have h_d__law_is_less:=c.def_ 27 (d:=dd__law_is_less) rfl
 have h_d__law_terms_right:=c.def_ 28 (d:=dd__law_terms_right) rfl
 have h_d_Form___or__:=c.def_ 29 (d:=dd_Form___or__) rfl
 have h_d_Form___add__:=c.def_ 30 (d:=dd_Form___add__) rfl
 have h_d__law_limits:=c.def_ 31 (d:=dd__law_limits) rfl
 have h_d__law_worth:=c.def_ 32 (d:=dd__law_worth) rfl
 have h_d_worth_of:=c.def_ 33 (d:=dd_worth_of) rfl
 have h_d_Form___call__:=c.def_ 34 (d:=dd_Form___call__) rfl
 have h_d_law:=c.def_ 35 (d:=dd_law) rfl
 have h_d_BadForm___init__:=c.def_ 36 (d:=dd_BadForm___init__) rfl
 have h_d_BadLimits___init__:=c.def_ 37 (d:=dd_BadLimits___init__) rfl
 have h_d_BadPart___init__:=c.def_ 38 (d:=dd_BadPart___init__) rfl
 have h_d_TooMany___init__:=c.def_ 39 (d:=dd_TooMany___init__) rfl
 exact {
  g__law_pool:=h_g__law_pool
  g__law_draw:=h_g__law_draw
  g__law_term:=h_g__law_term
  g__law_terms:=h_g__law_terms
  g_is_integer:=h_g_is_integer
  g_unit:=h_g_unit
  g_common_divisor:=h_g_common_divisor
  g_shortened:=h_g_shortened
  g_less:=h_g_less
  g_joined_row:=h_g_joined_row
  g_without:=h_g_without
  g_value_at:=h_g_value_at
  g_next_number:=h_g_next_number
  g_solution:=h_g_solution
  g_parting_term:=h_g_parting_term
  g_parting_limits:=h_g_parting_limits
  g_are_numbers:=h_g_are_numbers
  g_is_term:=h_g_is_term
  g_is_needless:=h_g_is_needless
  g_rank_of:=h_g_rank_of
  g_in_order:=h_g_in_order
  g__law_due:=h_g__law_due
  g__law_is_less:=h_g__law_is_less
  g__law_terms_right:=h_g__law_terms_right
  g__law_limits:=h_g__law_limits
  g__law_worth:=h_g__law_worth
  g_worth_of:=h_g_worth_of
  g_law:=h_g_law
  gc_BadForm:=h_gc_BadForm
  gc_BadLimits:=h_gc_BadLimits
  gc_BadPart:=h_gc_BadPart
  gc_Form:=h_gc_Form
  gc_TooMany:=h_gc_TooMany
  b_abs:=h_b_abs
  b_all:=h_b_all
  b_any:=h_b_any
  b_bool:=h_b_bool
  b_enumerate:=h_b_enumerate
  b_int:=h_b_int
  b_isinstance:=h_b_isinstance
  b_len:=h_b_len
  b_list:=h_b_list
  b_max:=h_b_max
  b_min:=h_b_min
  b_range:=h_b_range
  b_sorted:=h_b_sorted
  b_sum:=h_b_sum
  b_tuple:=h_b_tuple
  b_zip:=h_b_zip
  c_MOST_PLACES:=h_c_MOST_PLACES
  c_MOST_ROWS:=h_c_MOST_ROWS
  c_MOST_TERMS:=h_c_MOST_TERMS
  mt_Form___len__:=h_mt_Form___len__
  mt_Form_check:=h_mt_Form_check
  mt_Form___le__:=h_mt_Form___le__
  mt_Form___eq__:=h_mt_Form___eq__
  mk_Form:=h_mk_Form
  mt_Form___or__:=h_mt_Form___or__
  mt_Form___add__:=h_mt_Form___add__
  mt_Form___call__:=h_mt_Form___call__
  d_Form___len__:=h_d_Form___len__
  d__law_pool:=h_d__law_pool
  d__law_draw:=h_d__law_draw
  d__law_term:=h_d__law_term
  d__law_terms:=h_d__law_terms
  d_is_integer:=h_d_is_integer
  d_unit:=h_d_unit
  d_common_divisor:=h_d_common_divisor
  d_shortened:=h_d_shortened
  d_less:=h_d_less
  d_joined_row:=h_d_joined_row
  d_Form_check:=h_d_Form_check
  d_Form___le__:=h_d_Form___le__
  d_without:=h_d_without
  d_value_at:=h_d_value_at
  d_next_number:=h_d_next_number
  d_solution:=h_d_solution
  d_parting_term:=h_d_parting_term
  d_parting_limits:=h_d_parting_limits
  d_Form___eq__:=h_d_Form___eq__
  d_are_numbers:=h_d_are_numbers
  d_is_term:=h_d_is_term
  d_is_needless:=h_d_is_needless
  d_rank_of:=h_d_rank_of
  d_in_order:=h_d_in_order
  d_Form___init__:=h_d_Form___init__
  d__law_due:=h_d__law_due
  d__law_is_less:=h_d__law_is_less
  d__law_terms_right:=h_d__law_terms_right
  d_Form___or__:=h_d_Form___or__
  d_Form___add__:=h_d_Form___add__
  d__law_limits:=h_d__law_limits
  d__law_worth:=h_d__law_worth
  d_worth_of:=h_d_worth_of
  d_Form___call__:=h_d_Form___call__
  d_law:=h_d_law
  d_BadForm___init__:=h_d_BadForm___init__
  d_BadLimits___init__:=h_d_BadLimits___init__
  d_BadPart___init__:=h_d_BadPart___init__
  d_TooMany___init__:=h_d_TooMany___init__
  tab:=tabB_ok (G:=G P w K) x0
  xc_BadForm:=xcB_ok x1
  xi0_BadForm:=⟨of_decide_eq_true (and2 x2).1,of_decide_eq_true (and2 x2).2⟩
  xb_BadForm:=⟨of_decide_eq_true (and2 x3).1,(and2 (and2 x3).2).1,xfc_ok (and2 (and2 x3).2).2,h_GLOTownError⟩
  xc_BadLimits:=xcB_ok x4
  xi0_BadLimits:=⟨of_decide_eq_true (and2 x5).1,of_decide_eq_true (and2 x5).2⟩
  xb_BadLimits:=⟨of_decide_eq_true (and2 x6).1,(and2 (and2 x6).2).1,xfc_ok (and2 (and2 x6).2).2,h_GLOTownError⟩
  xc_BadPart:=xcB_ok x7
  xi0_BadPart:=⟨of_decide_eq_true (and2 x8).1,of_decide_eq_true (and2 x8).2⟩
  xb_BadPart:=⟨of_decide_eq_true (and2 x9).1,(and2 (and2 x9).2).1,xfc_ok (and2 (and2 x9).2).2,h_GLOTownError⟩
  xc_TooMany:=xcB_ok x10
  xi0_TooMany:=⟨of_decide_eq_true (and2 x11).1,of_decide_eq_true (and2 x11).2⟩
  xb_TooMany:=⟨xfcT_ok x12,h_FREEOverflowError⟩
  xn_BadForm:=of_decide_eq_true x13
  xn_BadLimits:=of_decide_eq_true x14
  xn_BadPart:=of_decide_eq_true x15
  xn_TooMany:=of_decide_eq_true x16
  sp_LN_Form_Form:=x17
  sp_LE_Form_Form:=x18
  nf_LE_Form_Form:=x19
  sp_EQ_Form_Form:=x20
  nf_EQ_Form_Form:=x21
  ne_EQ_Form_Form:=x22
  sp_OR_Form_Form:=x23
  sf_OR_Form_Form:=x24
  sp_AD_Form_Form:=x25
  sf_AD_Form_Form:=x26
  sp_CA_Form_Form:=x27
 }
end Lw
section
open PySem PySem.W PySem.Calls PyProof.Rows
theorem Lw.end_ (hl:∀ ns:List Int,ns.length≤63→Lw.f_law [.v (.scr ns)]=.ret (.val (.bl true)) []):PySem.Challenge.rw_cutofftills_k49_whole_forms_told.Holds:=by
 w_on; o_law
 refine HandSHeadRun.head_any (r:=OpenLaw.row PySem.Challenge.rw_cutofftills_k49_whole_forms_told) (q:=view (OpenLaw.row PySem.Challenge.rw_cutofftills_k49_whole_forms_told).prog [40]) (H:=Lw.hk) (ob:=Lw.ob) (M:=60000) (loose:=Lw.loose) (d:=HandSHeadRun.topDef (OpenLaw.row PySem.Challenge.rw_cutofftills_k49_whole_forms_told).prog 40) (kwd:=[]) Lw.ob_eq
  (by kernel_rfl) (fun s=>by kernel_rfl) Lw.run (by kernel_rfl) (by kernel_rfl) (by kernel_rfl) (by rfl) (by first | assumption | decide +kernel) (by decide +kernel) ⟨rfl,rfl,rfl,rfl,rfl,by decide +kernel⟩ ?hw ?hc
 case hw=>w_witness2
 case hc =>
  refine PyD.walk_ofW (l:=PySem.Challenge.rw_cutofftills_k49_whole_forms_told) (n:=63) (k:=17) (x:=s!"_law_script") rfl (by decide) (by kernel_rfl) ⟨⟨rfl,by decide,by decide⟩,rfl⟩ ?F PyD.hCX_ok
  intro w mg fa h Y Gn hmg0
  obtain ⟨K,KX,c,cm⟩:=Y
  have hmg:mg s!"law"=some (.ref fa):=by
   have e:(HandSHeadRun.topDef (OpenLaw.row PySem.Challenge.rw_cutofftills_k49_whole_forms_told).prog 40).name=s!"law":=by kernel_rfl
   rw [← e]
   exact hmg0
  have Z:=Lw.facts (P:=(OpenLaw.prog PySem.Challenge.rw_cutofftills_k49_whole_forms_told)) (w:=w) KX Gn c cm
  obtain ⟨fd,F⟩:=Z.d_law
  have ef:He.fAd K (s!"law",none)=fa:=by have e:=Z.g_law; rw [hmg] at e; exact (Value.ref.inj (Option.some.inj e)).symm
  have b:=L2.FunD.bindsA (ps:=Lw.P_law) F fun _ _ _ _ _ _ us hl=>match us,hl with | [_],_=>rfl
  refine ⟨K,fd,PyD.spF (Lw.G (OpenLaw.prog PySem.Challenge.rw_cutofftills_k49_whole_forms_told) w K) [] 1 Lw.f_law,KX,fun s v=>b s [v] rfl,fun H a ns hl2 _ hS=>PyD.law_sp hl H a ns hl2 hS,fun base KB GB=>?_⟩
  subst ef
  exact Lw.okf_law Z F
end
namespace Lw
open PySem L2 TL PyD
theorem draw (p:Pl)(n:Int)(hn:0<n)(h3:n.natAbs.log2<9000):f__law_draw [.o (poolD p),.v (.int n)]=.ret (.val (.int (pd p n))) [poolD (pn p n)]:=by
 obtain ⟨a,b,h0,hb,hb2⟩:=p
 have e1:mulC b 48271=true:=mulC_r (by omega) (by omega)
 have e2:mulC ((b * 48271+11) % 2147483647) ((b * 48271+11) % 2147483647)=true:=mulC_r (by omega) (by omega)
 have e3:divW a n=true:=by unfold divW; simp [hn,h3]
 have e4:∀ i,divW i 16=true:=fun i=>by unfold divW; decide +kernel
 by_cases h:0<a
 ·simp [f__law_draw,x_mkFn,b__law_draw,poolD,pd,pn,h,hn,h3,atI,ixN,setD,e3]
 ·simp [f__law_draw,x_mkFn,b__law_draw,poolD,pd,pn,h,hn,h3,atI,ixN,setD,e1,e2,e4]
theorem drawE (p:Pl)(n:Int)(hn:0<n)(h3:n.natAbs.log2<9000):∃ a q,0≤a∧a<n∧f__law_draw [.o (poolD p),.v (.int n)]=.ret (.val (.int a)) [poolD q] :=
 ⟨_,_,pd_nonneg p hn,pd_lt p hn,draw p n hn h3⟩
theorem pow18:powD (.int 10) (.int 18)=some (.val (.int 1000000000000000000)):=by rfl
theorem lst2 {x y:D}:lstD [x,y]=some (.new (.lst [x,y])):=by rfl
theorem cut63 (ns:List Int):PyD.cutD ns none (some 63)=ns.take 63:=by
 unfold PyD.cutD
 rw [HT.sIx_none,show (63:Int)=((63:Nat):Int) from rfl,HT.sIx_nat]
 simp only [List.drop_zero,Nat.sub_zero]
 rcases Nat.le_total 63 ns.length with h | h
 ·rw [Nat.min_eq_left h]
 ·rw [Nat.min_eq_right h,List.take_of_length_le (Nat.le_refl _),List.take_of_length_le h]
theorem intsB:∀ xs:List Int,intsD (xs.map D.int)=some xs
 | []=>rfl
 | x::xs=>by simp [intsD,intsB xs]
theorem pool (ns:List Int)(k:Int)(hk:0≤k)(hk2:k≤100):∃ p,f__law_pool [.v (.scr ns),.v (.int k)]=.ret (.new (poolD p)) []:=by
 have key:∀ z:Int,0≤z→∃ p:Pl,p.a=z * (if 1000000000000000000≤z then 1 else 0)∧p.b=((z % 2147483629+7919 * k * k+31 * k+17) * 48271 % 2147483647) * ((z % 2147483629+7919 * k * k+31 * k+17) * 48271 % 2147483647) % 2147483629:=fun z hz =>
  ⟨⟨_,_,by split <;> simp [hz],Int.emod_nonneg _ (by decide),by have:=Int.emod_lt_of_pos (((z % 2147483629+7919 * k * k+31 * k+17) * 48271 % 2147483647) * ((z % 2147483629+7919 * k * k+31 * k+17) * 48271 % 2147483647)) (show (0:Int)<2147483629 by decide); omega⟩,rfl,rfl⟩
 have m1:mulC 7919 k=true:=mulC_l (by decide) (by decide)
 have m1b:mulC (7919 * k) k=true:=mulC_l (by omega) (by omega)
 have m1c:mulC 31 k=true:=mulC_l (by decide) (by decide)
 have m2:∀ i,mulC i 48271=true:=fun i=>mulC_r (by decide) (by decide)
 have m3:∀ i:Int,mulC (i % 2147483647) (i % 2147483647)=true:=fun i=>mulC_l (by omega) (by omega)
 have m4:∀ (i:Int) (b:Bool),mulC i (if b=true then 1 else 0)=true:=fun i b=>mulC_r (by split <;> decide) (by split <;> decide)
 have m5:∀ (i:Int) (c:Prop) [Decidable c],mulC i (if c then 1 else 0)=true:=fun i c _=>mulC_r (by split <;> decide) (by split <;> decide)
 have m7:∀ i:Int,mulC 7 i=true:=fun i=>mulC_l (by decide) (by decide)
 have su:sumD [.lst ((ns.take 63).map D.int)]=some (.val (.int (ns.take 63).sum)):=by
  show (intsD ((ns.take 63).map D.int)).map _=_
  rw [intsB]; rfl
 have sl:slD (.scr ns) none (some 63)=some (.new (.lst ((ns.take 63).map D.int))):=by
  show some (Res.new (D.lst ((PyD.cutD ns none (some 63)).map D.int)))=_
  rw [cut63]
 by_cases h:k<ns.length
 ·have hi:atI ns k=some (ns[k.toNat]'(by omega)):=by
   rw [atI_of hk h]; simp
  have hz:0≤(if (ns[k.toNat]'(by omega))<0 then -(ns[k.toNat]'(by omega)) else (ns[k.toNat]'(by omega))):=by split <;> omega
  obtain ⟨p,h1,h2⟩:=key _ hz
  refine ⟨p,?_⟩
  simp [f__law_pool,x_mkFn,b__law_pool,h,hi,m1,m1b,m1c,m2,m3,m4,m5,pow18,lst2,poolD,h1,h2,negD]
 ·have hz:0≤(if 7 * (ns.take 63).sum+k<0 then -(7 * (ns.take 63).sum+k) else (7 * (ns.take 63).sum+k)):=by split <;> omega
  obtain ⟨p,h1,h2⟩:=key _ hz
  refine ⟨p,?_⟩
  generalize (ns.take 63).sum=S at *
  generalize (ns.take 63).map D.int=Ns at *
  simp [f__law_pool,x_mkFn,b__law_pool,h,m1,m1b,m1c,m2,m3,m4,m5,m7,pow18,lst2,poolD,h1,h2,sl,su]
theorem loopG (b:MS)(N:Nat)(ns:List Int)(turn:∀ (k:Int) (t:Rho),0≤k→k≤100→(some (.val (.int k))::t).length=N→∃ t',b (some (.val (.scr ns))::some (.val (.int k))::t)=.nx (some (.val (.scr ns))::t')∧t'.length=N):∀ (ds:List D),(∀ d∈ds,∃ k:Int,d=.int k∧0≤k∧k≤100)→∀ t:Rho,t.length=N→0<N→∃ t',t'.length=N∧forD (gN 1) b ds (some (.val (.scr ns))::t)=.nx (some (.val (.scr ns))::t')
 | [],_,t,ht,_=>⟨t,ht,rfl⟩
 | d::ds,h,t,ht,h0=>by
  obtain ⟨k,rfl,h1,h2⟩:=h _ (List.mem_cons_self ..)
  cases t with
  | nil=>simp at ht; omega
  | cons s t =>
   obtain ⟨t1,e1,l1⟩:=turn k t h1 h2 (by simpa using ht)
   obtain ⟨t2,l2,e2⟩:=loopG b N ns turn ds (fun d hd=>h d (List.mem_cons_of_mem _ hd)) t1 l1 h0
   refine ⟨t2,l2,?_⟩
   rw [x_forC]
   simp only [x_gN,List.length_cons,List.set_cons_succ,List.set_cons_zero]
   rw [if_pos (by omega)]
   simp only [x_optS,e1,x_loopSn]
   exact e2
abbrev Tm:=List Int×Int
def le2 (xs ys:List Int):Bool:=(xs.zip ys).all fun p=>decide (p.1≤p.2)
def ndl (t u:Tm):Bool:=decide (u.2≤t.2)&&le2 t.1 u.1
def lexI:List Int→List Int→Bool
 | [],[]=>false
 | [],_::_=>true
 | _::_,[]=>false
 | x::xs,y::ys=>if x=y then lexI xs ys else decide (x<y)
def rkI (t:Tm):List Int:=t.1++[t.2]
def insF (t:Tm)(ds:List Tm):List Tm:=ds.take (ds.filter fun u=>lexI (rkI u) (rkI t)).length++t::ds.drop (ds.filter fun u=>lexI (rkI u) (rkI t)).length
def onceT (ts:List Tm):List Tm:=(ts.zipIdx.filter fun p=>!decide (p.1∈ts.take p.2)).map (·.1)
def keptT (os:List Tm):List Tm:=os.filter fun t=>!((os.filter fun u=>!decide (u=t)).any (ndl t))
def ordr (ts:List Tm):List Tm:=(keptT (onceT ts)).foldl (fun ds t=>insF t ds) []
structure Gd (n:Nat)(b:Int)(t:Tm):Prop where
 len:t.1.length=n
 bd:∀ x∈t.1,0≤x∧x≤b
 o0:0≤t.2
 ob:t.2≤b
theorem lexI_tri:∀ a b:List Int,lexI a b=true∨a=b∨lexI b a=true
 | [],[]=>.inr (.inl rfl)
 | [],_::_=>.inl rfl
 | _::_,[]=>.inr (.inr rfl)
 | x::xs,y::ys=>by
  by_cases h:x=y
  ·subst h
   rcases lexI_tri xs ys with e | e | e
   ·left; simp [lexI,e]
   ·right; left; rw [e]
   ·right; right; simp [lexI,e]
  ·have h':¬ y=x:=fun e=>h e.symm
   rcases Int.lt_or_gt_of_ne h with e | e
   ·left; simp [lexI,h,e]
   ·right; right; simp [lexI,h',e]
theorem lexI_tr:∀ a b c:List Int,lexI a b=true→lexI b c=true→lexI a c=true
 | [],[],_,h,_=>by simp [lexI] at h
 | _::_,[],_,h,_=>by simp [lexI] at h
 | _,_::_,[],_,h=>by simp [lexI] at h
 | [],_::_,_::_,_,_=>rfl
 | x::xs,y::ys,z::zs,h1,h2=>by
  simp only [lexI] at h1 h2 ⊢
  by_cases e1:x=y
  ·subst e1
   rw [if_pos rfl] at h1
   by_cases e2:x=z
   ·rw [if_pos e2] at h2 ⊢; exact lexI_tr _ _ _ h1 h2
   ·rw [if_neg e2] at h2 ⊢; exact h2
  ·rw [if_neg e1,decide_eq_true_eq] at h1
   by_cases e2:y=z
   ·subst e2
    rw [if_neg e1,decide_eq_true_eq]; exact h1
   ·rw [if_neg e2,decide_eq_true_eq] at h2
    rw [if_neg (by omega),decide_eq_true_eq]; omega
theorem lexI_irr:∀ a:List Int,lexI a a=false
 | []=>rfl
 | x::xs=>by simp [lexI,lexI_irr xs]
theorem rkI_inj {t u:Tm}(h:rkI t=rkI u):t=u:=by
 unfold rkI at h
 obtain ⟨h1,h2⟩:=List.append_inj' h rfl
 exact Prod.ext h1 (by simpa using h2)
def ltT (t u:Tm):Bool:=lexI (rkI t) (rkI u)
theorem ins_mem (t:Tm)(ds:List Tm):(insF t ds).Perm (t::ds):=by
 unfold insF
 refine (List.perm_middle).trans ?_
 rw [List.take_append_drop]
theorem ins_pw (t:Tm):∀ ds:List Tm,ds.Pairwise (fun a b=>ltT a b=true)→t∉ds→(insF t ds).Pairwise fun a b=>ltT a b=true
 | [],_,_=>by simp [insF]
 | d::ds,pw,nm=>by
  obtain ⟨h1,h2⟩:=List.pairwise_cons.mp pw
  simp only [List.mem_cons,not_or] at nm
  by_cases c:ltT d t=true
  ·have ih:=ins_pw t ds h2 nm.2
   have e:insF t (d::ds)=d::insF t ds:=by
    have c':lexI (rkI d) (rkI t)=true:=c
    unfold insF
    rw [List.filter_cons,if_pos c']
    simp
   rw [e,List.pairwise_cons]
   refine ⟨fun x hx=>?_,ih⟩
   rcases List.mem_cons.mp ((ins_mem t ds).mem_iff.mp hx) with rfl | hx
   ·exact c
   ·exact h1 x hx
  ·have td:ltT t d=true:=by
    rcases lexI_tri (rkI t) (rkI d) with e | e | e
    ·exact e
    ·exact absurd (rkI_inj e) nm.1
    ·exact absurd e c
   have none:∀ x∈d::ds,ltT t x=true:=fun x hx=>by
    rcases List.mem_cons.mp hx with rfl | hx
    ·exact td
    ·exact lexI_tr _ _ _ td (h1 x hx)
   have e0:((d::ds).filter fun u=>lexI (rkI u) (rkI t))=[]:=List.filter_eq_nil_iff.mpr fun x hx q=>by
    have:=lexI_tr _ _ _ (none x hx) q
    rw [lexI_irr] at this; cases this
   have e:insF t (d::ds)=t::d::ds:=by
    unfold insF; rw [e0]; rfl
   rw [e,List.pairwise_cons]
   exact ⟨none,pw⟩
theorem fold_ins:∀ (ks ds:List Tm),ds.Pairwise (fun a b=>ltT a b=true)→(ks++ds).Nodup→(ks.foldl (fun ds t=>insF t ds) ds).Perm (ks++ds)∧(ks.foldl (fun ds t=>insF t ds) ds).Pairwise fun a b=>ltT a b=true
 | [],ds,pw,_=>⟨.refl _,pw⟩
 | k::ks,ds,pw,nd=>by
  have h1:k∉ks++ds:=(List.nodup_cons.mp nd).1
  have p1:=ins_mem k ds
  have pk:(ks++insF k ds).Perm (k::ks++ds):=(List.Perm.append_left ks p1).trans List.perm_middle
  obtain ⟨a,b⟩:=fold_ins ks (insF k ds) (ins_pw k ds pw fun z=>h1 (List.mem_append_right _ z)) (pk.nodup_iff.mpr nd)
  exact ⟨a.trans pk,b⟩
theorem once_go:∀ (ts pre:List Tm),(((ts.zipIdx pre.length).filter fun p=>!decide (p.1∈(pre++ts).take p.2)).map (·.1)).Nodup∧(∀ t,t∈((ts.zipIdx pre.length).filter fun p=>!decide (p.1∈(pre++ts).take p.2)).map (·.1)↔t∈ts∧t∉pre)
 | [],pre=>by simp
 | t::ts,pre=>by
  have e:pre++t::ts=(pre++[t])++ts:=by simp
  obtain ⟨ih1,ih2⟩:=once_go ts (pre++[t])
  rw [← e] at ih1 ih2
  simp only [List.length_append,List.length_cons,List.length_nil,Nat.zero_add] at ih1 ih2
  rw [List.zipIdx_cons,List.filter_cons]
  have tk:(pre++t::ts).take pre.length=pre:=by simp
  by_cases c:t∈pre
  ·simp only [tk,c,decide_true,Bool.not_true,Bool.false_eq_true,if_false]
   refine ⟨ih1,fun x=>?_⟩
   have ap:x∈pre++[t]↔x∈pre∨x=t:=by simp
   rw [ih2 x,ap,not_or,List.mem_cons]
   constructor
   ·rintro ⟨h1,h2,h3⟩; exact ⟨.inr h1,h2⟩
   ·rintro ⟨h1 | h1,h2⟩
    ·subst h1; exact absurd c h2
    ·exact ⟨h1,h2,fun z=>by subst z; exact h2 c⟩
  ·simp only [tk,c,decide_false,Bool.not_false,if_true,List.map_cons]
   refine ⟨List.nodup_cons.mpr ⟨fun z=>?_,ih1⟩,fun x=>?_⟩
   ·exact ((ih2 t).mp z).2 (by simp)
   ·have ap:x∈pre++[t]↔x∈pre∨x=t:=by simp
    rw [List.mem_cons,ih2 x,ap,not_or,List.mem_cons]
    constructor
    ·rintro (h | ⟨h1,h2,h3⟩)
     ·subst h; exact ⟨.inl rfl,c⟩
     ·exact ⟨.inr h1,h2⟩
    ·rintro ⟨h1 | h1,h2⟩
     ·exact .inl h1
     ·by_cases q:x=t
      ·exact .inl q
      ·exact .inr ⟨h1,h2,q⟩
theorem onceT_nd (ts:List Tm):(onceT ts).Nodup:=by
 have:=(once_go ts []).1
 simpa [onceT] using this
theorem onceT_mem (ts:List Tm)(t:Tm):t∈onceT ts↔t∈ts:=by
 have:=(once_go ts []).2 t
 simpa [onceT] using this
theorem keptT_nd (ts:List Tm):(keptT (onceT ts)).Nodup:=(onceT_nd ts).sublist List.filter_sublist
theorem ordr_perm (ts:List Tm):(ordr ts).Perm (keptT (onceT ts)):=by
 have:=(fold_ins (keptT (onceT ts)) [] .nil (by rw [List.append_nil]; exact keptT_nd ts)).1
 rw [List.append_nil] at this
 exact this
theorem ordr_pw (ts:List Tm):(ordr ts).Pairwise fun a b=>ltT a b=true:=(fold_ins (keptT (onceT ts)) [] .nil (by rw [List.append_nil]; exact keptT_nd ts)).2
theorem ordr_mem {ts:List Tm}{t:Tm}(h:t∈ordr ts):t∈ts:=(onceT_mem ts t).mp (List.mem_filter.mp ((ordr_perm ts).mem_iff.mp h)).1
theorem onceT_len (ts:List Tm):(onceT ts).length≤ts.length:=by
 unfold onceT
 rw [List.length_map]
 refine Nat.le_trans (List.length_filter_le _ _) ?_
 rw [List.length_zipIdx]
 exact Nat.le_refl _
theorem ordr_len (ts:List Tm):(ordr ts).length≤ts.length:=by
 rw [(ordr_perm ts).length_eq]
 exact Nat.le_trans (List.length_filter_le _ _) (onceT_len ts)
def hgT (t:Tm):Int:=t.1.sum-t.2
theorem le2_refl:∀ xs:List Int,le2 xs xs=true
 | []=>rfl
 | x::xs=>by have:=le2_refl xs; unfold le2 at this ⊢; simp [this]
theorem le2_tr:∀ xs ys zs:List Int,xs.length=ys.length→ys.length=zs.length→le2 xs ys=true→le2 ys zs=true→le2 xs zs=true
 | [],_,_,_,_,_,_=>rfl
 | _::_,[],_,h,_,_,_=>by simp at h
 | _::_,_::_,[],_,h,_,_=>by simp at h
 | x::xs,y::ys,z::zs,h1,h2,a,b=>by
  simp only [List.length_cons,Nat.add_right_cancel_iff] at h1 h2
  unfold le2 at a b ⊢
  simp only [List.zip_cons_cons,List.all_cons,Bool.and_eq_true,decide_eq_true_eq] at a b ⊢
  exact ⟨by omega,le2_tr xs ys zs h1 h2 a.2 b.2⟩
theorem le2_sum:∀ xs ys:List Int,xs.length=ys.length→le2 xs ys=true→xs.sum≤ys.sum∧(xs.sum=ys.sum→xs=ys)
 | [],[],_,_=>⟨Int.le_refl _,fun _=>rfl⟩
 | [],_::_,h,_=>by simp at h
 | _::_,[],h,_=>by simp at h
 | x::xs,y::ys,h,a=>by
  simp only [List.length_cons,Nat.add_right_cancel_iff] at h
  unfold le2 at a
  simp only [List.zip_cons_cons,List.all_cons,Bool.and_eq_true,decide_eq_true_eq] at a
  obtain ⟨i1,i2⟩:=le2_sum xs ys h a.2
  simp only [List.sum_cons]
  refine ⟨by omega,fun e=>?_⟩
  have:x=y:=by omega
  subst this
  rw [i2 (by omega)]
theorem ndl_tr {n:Nat}{b:Int}{t u v:Tm}(ht:Gd n b t)(hu:Gd n b u)(hv:Gd n b v)(h1:ndl t u=true)(h2:ndl u v=true):ndl t v=true:=by
 unfold ndl at *
 simp only [Bool.and_eq_true,decide_eq_true_eq] at *
 exact ⟨by omega,le2_tr _ _ _ (by rw [ht.len,hu.len]) (by rw [hu.len,hv.len]) h1.2 h2.2⟩
theorem ndl_hg {n:Nat}{b:Int}{t u:Tm}(ht:Gd n b t)(hu:Gd n b u)(h:ndl t u=true):hgT t≤hgT u∧(hgT t=hgT u→t=u):=by
 unfold ndl at h
 simp only [Bool.and_eq_true,decide_eq_true_eq] at h
 obtain ⟨a,c⟩:=le2_sum t.1 u.1 (by rw [ht.len,hu.len]) h.2
 unfold hgT
 exact ⟨by omega,fun e=>Prod.ext (c (by omega)) (by omega)⟩
theorem ndl_refl (t:Tm):ndl t t=true:=by simp [ndl,le2_refl]
theorem top_hg:∀ (os:List Tm),os≠[]→∃ c∈os,∀ o∈os,hgT o≤hgT c
 | [],h=>absurd rfl h
 | [c],_=>⟨c,List.mem_cons_self ..,fun o ho=>by rw [List.mem_singleton.mp ho]; exact Int.le_refl _⟩
 | c::d::os,_=>by
  obtain ⟨m,hm,le⟩:=top_hg (d::os) (by simp)
  by_cases h:hgT m≤hgT c
  ·exact ⟨c,List.mem_cons_self ..,fun o ho=>by
    rcases List.mem_cons.mp ho with rfl | ho
    ·exact Int.le_refl _
    ·have:=le o ho; omega⟩
  ·exact ⟨m,List.mem_cons_of_mem _ hm,fun o ho=>by
    rcases List.mem_cons.mp ho with rfl | ho
    ·omega
    ·exact le o ho⟩
theorem domin {n:Nat}{b:Int}{ts:List Tm}(g:∀ t∈ts,Gd n b t){t:Tm}(ht:t∈ts):∃ u∈ordr ts,ndl t u=true:=by
 have tm:t∈onceT ts:=(onceT_mem ts t).mpr ht
 obtain ⟨u,hu,le⟩:=top_hg ((onceT ts).filter (ndl t)) (fun e=>by
  have:t∈(onceT ts).filter (ndl t):=List.mem_filter.mpr ⟨tm,ndl_refl t⟩
  rw [e] at this; cases this)
 obtain ⟨u1,u2⟩:=List.mem_filter.mp hu
 have gu:=g u ((onceT_mem ts u).mp u1)
 refine ⟨u,(ordr_perm ts).mem_iff.mpr (List.mem_filter.mpr ⟨u1,?_⟩),u2⟩
 simp only [Bool.not_eq_true',List.any_eq_false]
 intro v hv q
 obtain ⟨v1,v2⟩:=List.mem_filter.mp hv
 have gv:=g v ((onceT_mem ts v).mp v1)
 have:=le v (List.mem_filter.mpr ⟨v1,ndl_tr (g t ht) gu gv u2 q⟩)
 obtain ⟨a,c⟩:=ndl_hg gu gv q
 have:=c (by omega)
 subst this
 simp at v2
def dot (xs ys:List Int):Int:=(List.zipWith (· * ·) xs ys).sum
def wth (L:List Int)(t:Tm):Int:=dot t.1 L-t.2
theorem dot_mono:∀ xs ys L:List Int,(∀ l∈L,0≤l)→xs.length=ys.length→le2 xs ys=true→dot xs L≤dot ys L
 | [],[],L,_,_,_=>Int.le_refl _
 | [],_::_,_,_,h,_=>by simp at h
 | _::_,[],_,_,h,_=>by simp at h
 | x::xs,y::ys,[],_,_,_=>by simp [dot]
 | x::xs,y::ys,l::L,p,h,a=>by
  simp only [List.length_cons,Nat.add_right_cancel_iff] at h
  unfold le2 at a
  simp only [List.zip_cons_cons,List.all_cons,Bool.and_eq_true,decide_eq_true_eq] at a
  have ih:=dot_mono xs ys L (fun z hz=>p z (List.mem_cons_of_mem _ hz)) h a.2
  have l0:=p l (List.mem_cons_self ..)
  have m:x * l≤y * l:=Int.mul_le_mul_of_nonneg_right a.1 l0
  unfold dot at ih ⊢
  simp only [List.zipWith_cons_cons,List.sum_cons]
  omega
theorem wth_mono {n:Nat}{b:Int}{L:List Int}(p:∀ l∈L,0≤l){t u:Tm}(ht:Gd n b t)(hu:Gd n b u)(h:ndl t u=true):wth L t≤wth L u:=by
 unfold ndl at h
 simp only [Bool.and_eq_true,decide_eq_true_eq] at h
 have:=dot_mono t.1 u.1 L p (by rw [ht.len,hu.len]) h.2
 unfold wth
 omega
structure IsMx (S:List Int)(m:Int):Prop where
 inS:m∈S
 le:∀ x∈S,x≤m
theorem IsMx.uniq {S:List Int}{m k:Int}(h:IsMx S m)(h':IsMx S k):m=k:=by
 have:=h.le k h'.inS
 have:=h'.le m h.inS
 omega
theorem ordr_mx {n:Nat}{b:Int}{ts:List Tm}(g:∀ t∈ts,Gd n b t){L:List Int}(p:∀ l∈L,0≤l){m:Int}:IsMx ((ordr ts).map (wth L)) m↔IsMx (ts.map (wth L)) m:=by
 constructor
 ·rintro ⟨h1,h2⟩
  obtain ⟨t,ht,e⟩:=List.mem_map.mp h1
  refine ⟨List.mem_map.mpr ⟨t,ordr_mem ht,e⟩,fun x hx=>?_⟩
  obtain ⟨u,hu,rfl⟩:=List.mem_map.mp hx
  obtain ⟨v,hv,q⟩:=domin g hu
  have:=wth_mono p (g u hu) (g v (ordr_mem hv)) q
  have:=h2 _ (List.mem_map.mpr ⟨v,hv,rfl⟩)
  omega
 ·rintro ⟨h1,h2⟩
  have le:∀ x∈(ordr ts).map (wth L),x≤m:=fun x hx=>by
   obtain ⟨u,hu,rfl⟩:=List.mem_map.mp hx
   exact h2 _ (List.mem_map.mpr ⟨u,ordr_mem hu,rfl⟩)
  obtain ⟨t,ht,e⟩:=List.mem_map.mp h1
  obtain ⟨v,hv,q⟩:=domin g ht
  have a:=wth_mono p (g t ht) (g v (ordr_mem hv)) q
  have c:=le _ (List.mem_map.mpr ⟨v,hv,rfl⟩)
  refine ⟨List.mem_map.mpr ⟨v,hv,by omega⟩,le⟩
def zT (n:Nat):Tm:=(List.replicate n 0,0)
theorem dot_zero:∀ (n:Nat) (L:List Int),dot (List.replicate n 0) L=0
 | 0,_=>rfl
 | n+1,[]=>by simp [dot]
 | n+1,l::L=>by
  have:=dot_zero n L
  unfold dot at this ⊢
  rw [List.replicate_succ,List.zipWith_cons_cons,List.sum_cons,this]; simp
theorem wth_z (n:Nat)(L:List Int):wth L (zT n)=0:=by
 unfold wth zT; rw [dot_zero]; rfl
theorem gd_z (n:Nat){b:Int}(hb:0≤b):Gd n b (zT n):=⟨by simp [zT],fun x hx=>by
 have:x=0:=List.eq_of_mem_replicate hx
 subst this; exact ⟨Int.le_refl _,hb⟩,Int.le_refl _,hb⟩
def lwt (L:List Int)(ts:List Tm):Int:=ts.foldl (fun m t=>if m<wth L t then wth L t else m) 0
theorem lwt_go (L:List Int):∀ (ts:List Tm) (m:Int),(ts.foldl (fun m t=>if m<wth L t then wth L t else m) m=m∨∃ t∈ts,wth L t=ts.foldl (fun m t=>if m<wth L t then wth L t else m) m)∧m≤ts.foldl (fun m t=>if m<wth L t then wth L t else m) m∧∀ t∈ts,wth L t≤ts.foldl (fun m t=>if m<wth L t then wth L t else m) m
 | [],m=>⟨.inl rfl,Int.le_refl _,fun t h=>by cases h⟩
 | t::ts,m=>by
  obtain ⟨a,b,c⟩:=lwt_go L ts (if m<wth L t then wth L t else m)
  rw [List.foldl_cons]
  generalize ts.foldl (fun m t=>if m<wth L t then wth L t else m) (if m<wth L t then wth L t else m)=R at *
  by_cases h:m<wth L t
  ·rw [if_pos h] at a b
   refine ⟨.inr ?_,by omega,fun u hu=>?_⟩
   ·rcases a with a | ⟨u,hu,e⟩
    ·exact ⟨t,List.mem_cons_self ..,a.symm⟩
    ·exact ⟨u,List.mem_cons_of_mem _ hu,e⟩
   ·rcases List.mem_cons.mp hu with rfl | hu
    ·exact b
    ·exact c u hu
  ·rw [if_neg h] at a b
   refine ⟨?_,b,fun u hu=>?_⟩
   ·rcases a with a | ⟨u,hu,e⟩
    ·exact .inl a
    ·exact .inr ⟨u,List.mem_cons_of_mem _ hu,e⟩
   ·rcases List.mem_cons.mp hu with rfl | hu
    ·omega
    ·exact c u hu
theorem lwt_mx (n:Nat)(L:List Int)(ts:List Tm):IsMx ((zT n::ts).map (wth L)) (lwt L ts):=by
 obtain ⟨a,b,c⟩:=lwt_go L ts 0
 refine ⟨?_,fun x hx=>?_⟩
 ·rcases a with a | ⟨t,ht,e⟩
  ·rw [List.map_cons,wth_z]
   show lwt L ts∈_
   rw [show lwt L ts=0 from a]; simp
  ·exact List.mem_map.mpr ⟨t,List.mem_cons_of_mem _ ht,e⟩
 ·obtain ⟨t,ht,rfl⟩:=List.mem_map.mp hx
  rcases List.mem_cons.mp ht with rfl | ht
  ·rw [wth_z]; exact b
  ·exact c t ht
def addT (t u:Tm):Tm:=(List.zipWith (·+·) t.1 u.1,t.2+u.2)
def sums (A B:List Tm):List Tm:=A.flatMap fun t=>B.map (addT t)
theorem dot_add:∀ (n:Nat) (xs ys L:List Int),xs.length=n→ys.length=n→dot (List.zipWith (·+·) xs ys) L=dot xs L+dot ys L
 | 0,[],[],L,_,_=>by simp [dot]
 | _,_::_,[],_,h1,h2=>by simp at h2; subst h2; simp at h1
 | _,[],_::_,_,h1,h2=>by simp at h1; subst h1; simp at h2
 | n+1,x::xs,y::ys,[],_,_=>by simp [dot]
 | n+1,x::xs,y::ys,l::L,h1,h2=>by
  have ih:=dot_add n xs ys L (by simpa using h1) (by simpa using h2)
  unfold dot at ih ⊢
  simp only [List.zipWith_cons_cons,List.sum_cons]
  rw [ih,Int.add_mul]
  omega
theorem wth_add {n:Nat}{b:Int}{L:List Int}{t u:Tm}(ht:Gd n b t)(hu:Gd n b u):wth L (addT t u)=wth L t+wth L u:=by
 unfold wth addT
 rw [dot_add n t.1 u.1 L ht.len hu.len]
 omega
theorem zip_bd {b:Int}:∀ xs ys:List Int,(∀ x∈xs,0≤x∧x≤b)→(∀ x∈ys,0≤x∧x≤b)→∀ z∈List.zipWith (·+·) xs ys,0≤z∧z≤b+b
 | [],_,_,_,z,h=>by simp at h
 | _::_,[],_,_,z,h=>by simp at h
 | x::xs,y::ys,hx,hy,z,h=>by
  rw [List.zipWith_cons_cons] at h
  rcases List.mem_cons.mp h with rfl | h
  ·have:=hx x (List.mem_cons_self ..)
   have:=hy y (List.mem_cons_self ..)
   omega
  ·exact zip_bd xs ys (fun a ha=>hx a (List.mem_cons_of_mem _ ha)) (fun a ha=>hy a (List.mem_cons_of_mem _ ha)) z h
theorem gd_add {n:Nat}{b:Int}{t u:Tm}(ht:Gd n b t)(hu:Gd n b u):Gd n (b+b) (addT t u):=by
 refine ⟨?_,zip_bd _ _ ht.bd hu.bd,?_,?_⟩
 ·unfold addT; simp [ht.len,hu.len]
 ·have:=ht.o0; have:=hu.o0; show 0≤t.2+u.2; omega
 ·have:=ht.ob; have:=hu.ob; show t.2+u.2≤b+b; omega
theorem sums_gd {n:Nat}{b:Int}{A B:List Tm}(ga:∀ t∈A,Gd n b t)(gb:∀ t∈B,Gd n b t):∀ t∈sums A B,Gd n (b+b) t:=fun t ht=>by
 obtain ⟨x,hx,hz⟩:=List.mem_flatMap.mp ht
 obtain ⟨y,hy,rfl⟩:=List.mem_map.mp hz
 exact gd_add (ga x hx) (gb y hy)
theorem sums_len (A B:List Tm):(sums A B).length=A.length * B.length:=by
 unfold sums
 induction A with
 | nil=>simp
 | cons a A ih=>rw [List.flatMap_cons,List.length_append,ih,List.length_map,List.length_cons,Nat.add_mul]; omega
theorem sums_mx {n:Nat}{b:Int}{A B:List Tm}(ga:∀ t∈A,Gd n b t)(gb:∀ t∈B,Gd n b t){L:List Int}{m k:Int}(h1:IsMx (A.map (wth L)) m)(h2:IsMx (B.map (wth L)) k)(m0:0≤m)(k0:0≤k):IsMx ((zT n::sums A B).map (wth L)) (m+k):=by
 obtain ⟨t,ht,e1⟩:=List.mem_map.mp h1.inS
 obtain ⟨u,hu,e2⟩:=List.mem_map.mp h2.inS
 refine ⟨List.mem_map.mpr ⟨addT t u,List.mem_cons_of_mem _ (List.mem_flatMap.mpr ⟨t,ht,List.mem_map.mpr ⟨u,hu,rfl⟩⟩),?_⟩,fun x hx=>?_⟩
 ·rw [wth_add (ga t ht) (gb u hu),e1,e2]
 ·obtain ⟨v,hv,rfl⟩:=List.mem_map.mp hx
  rcases List.mem_cons.mp hv with rfl | hv
  ·rw [wth_z]; omega
  ·obtain ⟨x,hxa,hz⟩:=List.mem_flatMap.mp hv
   obtain ⟨y,hy,rfl⟩:=List.mem_map.mp hz
   rw [wth_add (ga x hxa) (gb y hy)]
   have:=h1.le _ (List.mem_map.mpr ⟨x,hxa,rfl⟩)
   have:=h2.le _ (List.mem_map.mpr ⟨y,hy,rfl⟩)
   omega
theorem app_mx {n:Nat}{A B:List Tm}{L:List Int}{m k:Int}(h1:IsMx (A.map (wth L)) m)(h2:IsMx (B.map (wth L)) k)(m0:0≤m)(k0:0≤k):IsMx ((zT n::(A++B)).map (wth L)) (if m<k then k else m):=by
 refine ⟨?_,fun x hx=>?_⟩
 ·rw [List.map_cons,List.map_append]
  split
  ·exact List.mem_cons_of_mem _ (List.mem_append_right _ h2.inS)
  ·exact List.mem_cons_of_mem _ (List.mem_append_left _ h1.inS)
 ·rw [List.map_cons,List.map_append] at hx
  rcases List.mem_cons.mp hx with rfl | hx
  ·rw [wth_z]; split <;> omega
  ·rcases List.mem_append.mp hx with hx | hx
   ·have:=h1.le x hx; split <;> omega
   ·have:=h2.le x hx; split <;> omega
def onceL (ts:List Tm):List Tm:=ts.foldl (fun os t=>if t∈os then os else os++[t]) []
theorem onceL_go:∀ (ts os:List Tm),os.Nodup→(ts.foldl (fun os t=>if t∈os then os else os++[t]) os).Nodup∧∀ t,t∈ts.foldl (fun os t=>if t∈os then os else os++[t]) os↔t∈os∨t∈ts
 | [],os,nd=>⟨nd,fun t=>by simp⟩
 | t::ts,os,nd=>by
  rw [List.foldl_cons]
  by_cases c:t∈os
  ·rw [if_pos c]
   obtain ⟨a,b⟩:=onceL_go ts os nd
   refine ⟨a,fun x=>?_⟩
   rw [b x,List.mem_cons]
   constructor
   ·rintro (h | h)
    ·exact .inl h
    ·exact .inr (.inr h)
   ·rintro (h | rfl | h)
    ·exact .inl h
    ·exact .inl c
    ·exact .inr h
  ·rw [if_neg c]
   obtain ⟨a,b⟩:=onceL_go ts (os++[t]) (List.nodup_append.mpr ⟨nd,by simp,fun x hx y hy=>by
    rw [List.mem_singleton.mp hy]; rintro rfl; exact c hx⟩)
   refine ⟨a,fun x=>?_⟩
   rw [b x,List.mem_append,List.mem_singleton,List.mem_cons,or_assoc]
theorem once_perm (ts:List Tm):(onceL ts).Perm (onceT ts):=by
 obtain ⟨a,b⟩:=onceL_go ts [] (by simp)
 refine (List.perm_ext_iff_of_nodup a (onceT_nd ts)).mpr fun t=>?_
 rw [onceT_mem]
 have:=b t
 simpa using this
def dueP (os:List Tm)(t:Tm):Bool:=!((os.filter fun u=>!decide (u=t)).any (ndl t))
theorem due_perm (ts:List Tm):((onceL ts).filter (dueP (onceL ts))).Perm (ordr ts):=by
 refine List.Perm.trans ?_ (ordr_perm ts).symm
 have p:=once_perm ts
 have e:∀ t,dueP (onceL ts) t=dueP (onceT ts) t:=fun t=>by
  unfold dueP
  congr 1
  have pf:=p.filter fun u=>!decide (u=t)
  rw [Bool.eq_iff_iff,List.any_eq_true,List.any_eq_true]
  constructor
  ·rintro ⟨x,hx,q⟩; exact ⟨x,pf.mem_iff.mp hx,q⟩
  ·rintro ⟨x,hx,q⟩; exact ⟨x,pf.mem_iff.mpr hx,q⟩
 rw [List.filter_congr fun t _=>e t]
 exact p.filter _
def iT (xs:List Int):D:=.tup (xs.map .int)
def tD (t:Tm):D:=.tup [iT t.1,.int t.2]
def cL (ts:List Tm):D:=.lst (ts.map tD)
theorem it_strip (xs:List Int):PyD.strip (iT xs)=iT xs:=rfl
theorem td_strip (t:Tm):PyD.strip (tD t)=tD t:=rfl
theorem cl_strip (ts:List Tm):PyD.strip (cL ts)=cL ts:=rfl
theorem td_0 (t:Tm):ixD (tD t) (.int 0)=some (.val (iT t.1)):=rfl
theorem td_1 (t:Tm):ixD (tD t) (.int 1)=some (.val (.int t.2)):=rfl
theorem szK:(2000:Nat)<sizeLine:=by decide +kernel
theorem bls_of:∀ l:List Bool,blsD (l.map D.bl)=some l
 | []=>rfl
 | b::l=>by rw [List.map_cons,x_blsC,bls_of l]; rfl
theorem ii1 {x:Int}:isiD' T [.int x,.ty "int"]=some (.val (.bl true)):=by kernel_rfl
theorem ii2 {x:Int}:isiD' T [.int x,.ty "bool"]=some (.val (.bl false)):=by kernel_rfl
theorem ii4 {xs:List D}:isiD' T [.tup xs,.ty "tuple"]=some (.val (.bl true)):=by kernel_rfl
theorem ii3 {xs:List D}:isiD' T [.lst xs,.tup [.ty "list",.ty "tuple"]]=some (.val (.bl true)):=by kernel_rfl
theorem ii5 {xs:List D}:isiD' T [.tup xs,.tup [.ty "list",.ty "tuple"]]=some (.val (.bl true)):=by kernel_rfl
theorem int_ok (x:Int):f_is_integer [.v (.int x)]=.ret (.val (.bl true)) []:=by
 simp [f_is_integer,x_mkFn,b_is_integer,ii1,ii2]
theorem ne_int (a b:Int):(orF neD (eqOD true (eqO T EQ_Form))) (.int a) (.int b)=some (.val (.bl (!decide (a=b)))):=by
 by_cases h:a=b
 ·subst h
  unfold orF; rw [neD_t (by simp)]; simp
 ·unfold orF; rw [neD_f (by simp) (by simp) rfl (by simp [h])]; simp [h]
theorem zip_int:∀ xs ys:List Int,zipD (xs.map D.int) (ys.map D.int)=(xs.zip ys).map fun p=>D.tup [.int p.1,.int p.2]
 | [],_=>rfl
 | _::_,[]=>rfl
 | a::c,b::o=>by
  have ih:=zip_int c o
  unfold zipD at ih ⊢
  simp only [List.map_cons,List.zipWith_cons_cons,List.zip_cons_cons,ih]
theorem need_ok {t u:Tm}(h:t.1.length≤10):f_is_needless [.v (tD t),.v (tD u)]=.ret (.val (.bl (ndl t u))) []:=by
 have lc:=lc_fm (vs:=[2,3]) (f:=gT 2 (gsCons (gN 2) (gsCons (gN 3) gsNil))) (t:=mYes) (me:=mBin (orF leD (eqOD false (cmpO T LE_Form))) (mVar 2) (mVar 3)) (ρ:=[some (.val (tD t)),some (.val (tD u)),none,none]) (fun p:Int×Int=>D.tup [.int p.1,.int p.2]) (fun p=>D.bl (decide (p.1≤p.2))) (fun _=>true) (t.1.zip u.1) [] (fun p _=>by
  refine ⟨[some (.val (tD t)),some (.val (tD u)),some (.val (.int p.1)),some (.val (.int p.2))],by simp,by simp,by simp,fun _=>⟨.val (.bl (decide (p.1≤p.2))),?_,rfl⟩⟩
  generalize tD t=C1 at *
  generalize tD u=C2 at *
  simp -implicitDefEqProofs []) (by have:=szK; rw [List.length_zip,List.length_nil]; omega)
 rw [List.nil_append,List.filter_eq_self.mpr (fun _ _=>rfl),← zip_int] at lc
 have bl:=bls_of ((t.1.zip u.1).map fun p=>decide (p.1≤p.2))
 rw [List.map_map] at bl
 have al:((t.1.zip u.1).map fun p=>decide (p.1≤p.2)).all id=le2 t.1 u.1:=by unfold le2; rw [List.all_map]; rfl
 have e:(t.1.zip u.1).map (D.bl∘fun p=>decide (p.1≤p.2))=(t.1.zip u.1).map (fun p=>D.bl (decide (p.1≤p.2))):=rfl
 rw [e] at bl
 have a0:=td_0 t
 have a1:=td_1 t
 have b0:=td_0 u
 have b1:=td_1 u
 unfold iT at a0 b0
 unfold ndl
 generalize (t.1.zip u.1).map (fun p=>D.bl (decide (p.1≤p.2)))=Bs at *
 generalize (t.1.zip u.1).map (fun p=>decide (p.1≤p.2))=bs at *
 generalize le2 t.1 u.1=r at *
 generalize t.1.map D.int=X1 at *
 generalize u.1.map D.int=X2 at *
 generalize t.2=o1 at *
 generalize u.2=o2 at *
 generalize tD t=C1 at *
 generalize tD u=C2 at *
 by_cases h:o2≤o1
 ·simp -implicitDefEqProofs [f_is_needless,x_mkFn,b_is_needless,List.replicate,lc,bl,al,a0,a1,b0,b1,h]
 ·have h':¬ o1≥o2:=by omega
  simp -implicitDefEqProofs [f_is_needless,x_mkFn,b_is_needless,List.replicate,a0,a1,b0,b1,h,h']
theorem settles_vals:∀ (B:List D) (ρ:Rho),settles (B.map Res.val) ρ=some (B,ρ)
 | [],ρ=>rfl
 | d::B,ρ=>by
  rw [List.map_cons]
  simp [settles_vals B ρ]
theorem rank_ok (t:Tm)(h:t.1.length≤10):f_rank_of [.v (tD t)]=.ret (.new (.lst ((rkI t).map .int))) []:=by
 have a0:=td_0 t
 have a1:=td_1 t
 have it:∀ ρ:Rho,starS (some (iT t.1,ρ))=some (t.1.map D.int,ρ):=fun _=>rfl
 have e:(rkI t).map D.int=t.1.map D.int++[.int t.2]:=by unfold rkI; simp
 have ln:(t.1.map D.int).length+1≤16777216:=by simp; omega
 rw [e]
 have se:=settles_vals (t.1.map D.int)
 generalize t.1.map D.int=X1 at *
 generalize iT t.1=X0 at *
 generalize t.2=o1 at *
 generalize tD t=C1 at *
 simp -implicitDefEqProofs [f_rank_of,x_mkFn,b_rank_of,List.replicate,a0,a1,it,ln,se]
theorem in_py:∀ c:List Int,toPys (c.map D.int)=some (c.map PyData.int)
 | []=>rfl
 | x::c=>by
  have ih:=in_py c
  rw [List.map_cons,List.map_cons]
  simp [toPys,toPy,ih]
theorem in_alike:∀ c o:List Int,PySem.W.alikeAll (c.map PyData.int) (o.map PyData.int)=true
 | [],_=>by simp [PySem.W.alikeAll]
 | _::_,[]=>by simp [PySem.W.alikeAll]
 | x::c,y::o=>by
  have ih:=in_alike c o
  simp [PySem.W.alikeAll,PySem.W.alike,ih]
theorem in_dep:∀ c:List Int,PyData.depthAll (c.map PyData.int)≤5
 | []=>by simp [PyData.depthAll]
 | x::c=>by
  have ih:=in_dep c
  simp [PyData.depthAll,PyData.depth]
  omega
theorem lx_lt (x y:Int):PyProof.Rows.lexLt PyProof.Rows.itemOrd [Sum.inl x] [Sum.inl y]=decide (x<y):=by
 by_cases h:x<y
 ·simp [PyProof.Rows.lexLt,PyProof.Rows.itemOrd,PyProof.Rows.itemLt,h]
 ·simp [PyProof.Rows.lexLt,PyProof.Rows.itemOrd,PyProof.Rows.itemLt,h]
theorem in_lexT:∀ c o:List Int,PyProof.Rows.lexLt PyProof.Rows.itemOrd (PySem.W.keyToksAll (c.map PyData.int)) (PySem.W.keyToksAll (o.map PyData.int))=lexI c o
 | [],[]=>by decide +kernel
 | [],y::o=>by
  rw [List.map_nil,List.map_cons,PySem.W.toks_all_cons]
  unfold PySem.W.keyToksAll
  rw [PySem.W.lex_atom (by decide),lx_lt]
  rfl
 | x::c,[]=>by
  rw [List.map_nil,List.map_cons,PySem.W.toks_all_cons]
  unfold PySem.W.keyToksAll
  rw [PySem.W.lex_atom (by decide),lx_lt]
  rfl
 | x::c,y::o=>by
  have ih:=in_lexT c o
  rw [List.map_cons,List.map_cons,PySem.W.toks_all_cons,PySem.W.toks_all_cons]
  have k:∀ z:Int,PySem.W.keyToks (.int z)=[.inl z]:=fun z=>by simp [PySem.W.keyToks]
  rw [k,k,PyProof.Rows.lex_self]
  show PyProof.Rows.lexLt PyProof.Rows.itemOrd (Sum.inl x::_) (Sum.inl y::_)=_
  simp only [lexI]
  by_cases h:x=y
  ·subst h
   rw [if_pos rfl,PyProof.Rows.lex_self]
   exact ih
  ·rw [if_neg h,PySem.W.lex_atom (by simp [h]),lx_lt]
theorem in_lex (c o:List Int):PySem.W.dataLt (.list (c.map PyData.int)) (.list (o.map PyData.int))=lexI c o:=by
 rw [← in_lexT]
 unfold PySem.W.dataLt
 have k:∀ z:List PyData,PySem.W.keyToks (.list z)=PySem.W.keyToksAll z:=fun z=>by simp [PySem.W.keyToks]
 rw [k,k]
theorem rk_lt (c o:List Int):(orF ltD ltA0) (.lst (c.map .int)) (.lst (o.map .int))=some (.val (.bl (lexI c o))):=by
 have e1:toPy (.lst (c.map .int))=some (.list (c.map PyData.int)):=by simp [toPy,in_py]
 have e2:toPy (.lst (o.map .int))=some (.list (o.map PyData.int)):=by simp [toPy,in_py]
 have al:PySem.W.alike (.list (c.map PyData.int)) (.list (o.map PyData.int))=true:=by simp [PySem.W.alike,in_alike]
 have dp:decide (min (PyData.list (c.map PyData.int)).depth (PyData.list (o.map PyData.int)).depth≤60)=true:=by
  have h:=in_dep c
  have hd:(PyData.list (c.map PyData.int)).depth≤10:=by
   rw [PyData.depth]
   omega
  exact decide_eq_true (Nat.le_trans (Nat.min_le_left _ _) (by omega))
 have e:ltB (.lst (c.map .int)) (.lst (o.map .int))=some (PySem.W.dataLt (.list (c.map PyData.int)) (.list (o.map PyData.int))):=by
  unfold ltB
  rw [e1,e2]
  simp only
  rw [al,dp]
  rfl
 rw [in_lex] at e
 unfold orF
 rw [show ltD (.lst (c.map .int)) (.lst (o.map .int))=none from rfl]
 show ltA0 _ _=_
 unfold ltA0
 rw [e]
 rfl
theorem okd_it (n:Nat)(xs:List Int):okd (n+1) (iT xs)=true:=by
 unfold iT
 rw [x_okT,okds_iff]
 intro d hd
 obtain ⟨x,_,rfl⟩:=List.mem_map.mp hd
 cases n <;> simp
theorem okd_td (n:Nat)(t:Tm):okd (n+2) (tD t)=true:=by
 unfold tD
 rw [x_okT,okds_iff]
 intro d hd
 simp only [List.mem_cons,List.not_mem_nil,or_false] at hd
 rcases hd with rfl | rfl
 ·exact okd_it n _
 ·simp
theorem smks_it:∀ c o:List Int,smks (c.map D.int) (o.map D.int)=true
 | [],_=>by simp [smks]
 | _::_,[]=>by simp [smks]
 | a::c,b::o=>by
  rw [List.map_cons,List.map_cons,smks,smks_it c o]
  rfl
theorem smk_td (c o:Tm):smk (tD c) (tD o)=true:=by
 unfold tD
 rw [smk,smks]
 have e:smk (iT c.1) (iT o.1)=true:=by unfold iT; rw [smk]; exact smks_it c.1 o.1
 rw [e]; rfl
theorem it_inj {x y:List Int}(h:iT x=iT y):x=y:=by
 unfold iT at h
 injection h with h
 exact (List.map_inj_right fun a b e=>by injection e).mp h
theorem td_inj {c o:Tm}(h:tD c=tD o):c=o:=by
 unfold tD at h
 injection h with h
 injection h with h1 h2
 injection h2 with h2 _
 injection h2 with h2
 exact Prod.ext (it_inj h1) h2
theorem td_ne (c o:Tm):(orF neD (eqOD true (eqO T EQ_Form))) (tD c) (tD o)=some (.val (.bl (!decide (c=o)))):=by
 unfold orF
 rw [neD_of (b:=decide (c=o)) (okd_td 58 c) (okd_td 58 o) (smk_td c o) (by simp; exact ⟨fun h=>by rw [h],td_inj⟩)]
theorem td_in (neg:Bool)(c:Tm)(ds:List Tm):(inD neg) (tD c) (cL ds)=some (.val (.bl (neg != decide (c∈ds)))):=by
 have e:anyB (toPy (tD c)) (toPys (ds.map tD))=some (decide (c∈ds)):=anyB_of (okd_td 58 c) (by
  rw [okds_iff]
  intro d hd
  obtain ⟨o,_,rfl⟩:=List.mem_map.mp hd
  exact okd_td 57 o) (fun y hy=>by
  obtain ⟨o,_,rfl⟩:=List.mem_map.mp hy
  exact smk_td o c) (by
  simp only [decide_eq_true_eq]
  refine ⟨fun h=>List.mem_map_of_mem h,fun h=>?_⟩
  obtain ⟨o,ho,q⟩:=List.mem_map.mp h
  rw [← td_inj q]; exact ho)
 unfold cL
 rw [x_inD,x_inBl,e]
 rfl
theorem enum_zip:∀ (n:Nat) (cs:List Tm),enumFromD n (cs.map tD)=(cs.zipIdx n).map fun p=>D.tup [.int (p.2:Nat),tD p.1]
 | _,[]=>rfl
 | n,c::cs=>by
  have ih:=enum_zip (n+1) cs
  rw [List.map_cons,enumFromD,ih,List.zipIdx_cons,List.map_cons]
theorem cut_take (xs:List D)(i:Nat):PyD.cutD xs none (some (i:Int))=xs.take i:=by
 unfold PyD.cutD
 rw [HT.sIx_nat,HT.sIx_none]
 simp
theorem cut_drop (xs:List D)(i:Nat):PyD.cutD xs (some (i:Int)) none=xs.drop i:=by
 unfold PyD.cutD
 rw [HT.sIx_nat,HT.sIx_none]
 rcases Nat.le_total i xs.length with h | h
 ·rw [Nat.min_eq_left h,List.take_of_length_le]
  simp
 ·rw [Nat.min_eq_right h]
  simp [h]
theorem cl_len (cs:List Tm):(orC lenD (lenOD LN_Form)) [cL cs]=some (.val (.int (cs.length:Nat))):=by
 have:lenD [cL cs]=some (.val (.int (cs.length:Nat))):=by
  unfold cL
  simp
 unfold orC; rw [this]
theorem io_step {ds:List Tm}{c:Tm}(hd:∀ d∈ds,d.1.length≤10)(hc:c.1.length≤10)(hl:ds.length≤200)(x0 x1 x2 x5:Option PyD.Slot):∃ k:Nat,b_in_order_L1 [x0,x1,x2,some (.own none (cL ds)),some (.val (tD c)),x5,none]=.nx [x0,x1,x2,some (.own none (cL (insF c ds))),some (.val (tD c)),some (.val (.int (k:Nat))),none]:=by
 have rc:=rank_ok c hc
 have lc:=fun x3=>lc_fm (vs:=[6]) (f:=gN 6) (t:=mBinB (orF ltD ltA0) (mCall 1 [false] f_rank_of (mCons (mVar 6) mNil)) (mCall 1 [false] f_rank_of (mCons (mVar 4) mNil))) (me:=mVar 6) (ρ:=[x0,x1,x2,x3,some (.val (tD c)),x5,none]) tD tD (fun o=>lexI (rkI o) (rkI c)) ds [] (fun o ho=>by
  have ro:=rank_ok o (hd o ho)
  have lt:=rk_lt (rkI o) (rkI c)
  have so:=td_strip o
  have sc:=td_strip c
  have s1:PyD.strip (.lst ((rkI o).map D.int))=.lst ((rkI o).map .int):=rfl
  have s2:PyD.strip (.lst ((rkI c).map D.int))=.lst ((rkI c).map .int):=rfl
  refine ⟨[x0,x1,x2,x3,some (.val (tD c)),x5,some (.val (tD o))],by simp,?_,by simp,fun _=>⟨.val (tD o),by simp,by simp [Res.frz,so]⟩⟩
  generalize lexI (rkI o) (rkI c)=b at *
  generalize D.lst ((rkI o).map D.int)=R1 at *
  generalize D.lst ((rkI c).map D.int)=R2 at *
  generalize tD o=O at *
  generalize tD c=C at *
  simp -implicitDefEqProofs [-x_orF,ro,rc,so,sc,s1,s2,lt]) (by have:=szK; rw [List.length_nil]; omega)
 simp only [List.nil_append] at lc
 unfold insF
 refine ⟨(ds.filter fun o=>lexI (rkI o) (rkI c)).length,?_⟩
 have ln:=cl_len (ds.filter fun o=>lexI (rkI o) (rkI c))
 have el:D.lst ((ds.filter fun o=>lexI (rkI o) (rkI c)).map tD)=cL (ds.filter fun o=>lexI (rkI o) (rkI c)):=rfl
 have it:itemsD (cL ds)=some (ds.map tD):=rfl
 have s0:=cl_strip ds
 have sf:=cl_strip (ds.filter fun o=>lexI (rkI o) (rkI c))
 have sc:=td_strip c
 generalize (ds.filter fun o=>lexI (rkI o) (rkI c)).length=k at *
 have c1:slD (cL ds) none (some ((k:Nat):Int))=some (.new (.lst ((ds.take k).map tD))):=by
  show some (Res.new (D.lst (PyD.cutD (ds.map tD) none (some ((k:Nat):Int)))))=_
  rw [cut_take,List.map_take]
 have c2:slD (cL ds) (some ((k:Nat):Int)) none=some (.new (.lst ((ds.drop k).map tD))):=by
  show some (Res.new (D.lst (PyD.cutD (ds.map tD) (some ((k:Nat):Int)) none)))=_
  rw [cut_drop,List.map_drop]
 have dd:D.lst ((ds.take k).map tD++tD c::(ds.drop k).map tD)=cL (ds.take k++c::ds.drop k):=by
  unfold cL
  rw [List.map_append,List.map_cons]
 have lz:((ds.take k).map tD++tD c::(ds.drop k).map tD).length≤16777216:=by
  rw [List.length_append,List.length_cons,List.length_map,List.length_map,List.length_take,List.length_drop]
  omega
 have sl:∀ l:List Tm,PyD.strip (.lst (l.map tD))=.lst (l.map tD):=fun _=>rfl
 have s1:=sl (ds.take k)
 have s2:=sl (ds.drop k)
 rw [← dd]
 clear dd sl
 generalize (ds.filter fun o=>lexI (rkI o) (rkI c)).map tD=Fs at *
 generalize cL (ds.filter fun o=>lexI (rkI o) (rkI c))=F at *
 generalize (ds.take k).map tD=A at *
 generalize (ds.drop k).map tD=B at *
 generalize ds.map tD=Ds at *
 generalize cL ds=L at *
 generalize tD c=C at *
 generalize ((k:Nat):Int)=ki at *
 rw [List.length_append,List.length_cons] at lz
 simp -implicitDefEqProofs [-x_orC,b_in_order_L1,it,s0,lc,el,ln,c1,c2,sc,s1,s2,lz,sf,settles_vals]
theorem io_for (x0 x1 x2:Option PyD.Slot):∀ (cs ds:List Tm) (x4 x5:Option PyD.Slot),(∀ d∈ds,d.1.length≤10)→(∀ d∈cs,d.1.length≤10)→ds.length+cs.length≤200→∃ (y4 y5:Option PyD.Slot),forD (gN 4) b_in_order_L1 (cs.map tD) [x0,x1,x2,some (.own none (cL ds)),x4,x5,none]=.nx [x0,x1,x2,some (.own none (cL (cs.foldl (fun ds t=>insF t ds) ds))),y4,y5,none]
 | [],ds,x4,x5,_,_,_=>⟨x4,x5,rfl⟩
 | c::cs,ds,x4,x5,hd,hc,hl=>by
  simp only [List.length_cons] at hl
  obtain ⟨k,st⟩:=io_step hd (hc c (List.mem_cons_self ..)) (by omega) x0 x1 x2 x5
  have pm:=ins_mem c ds
  obtain ⟨y4,y5,fo⟩:=io_for x0 x1 x2 cs (insF c ds) (some (.val (tD c))) (some (.val (.int (k:Nat)))) (fun d h=>by
   rcases List.mem_cons.mp (pm.mem_iff.mp h) with rfl | h
   ·exact hc _ (List.mem_cons_self ..)
   ·exact hd d h) (fun d h=>hc d (List.mem_cons_of_mem _ h)) (by rw [pm.length_eq,List.length_cons]; omega)
  exact ⟨y4,y5,for_step (ρ1:=[x0,x1,x2,some (.own none (cL ds)),some (.val (tD c)),x5,none]) rfl st fo⟩
theorem in_order_ok {cs:List Tm}(hc:∀ d∈cs,d.1.length≤10)(hl:cs.length≤200):f_in_order [.v (cL cs)]=.ret (.new (cL (ordr cs))) []:=by
 have go:∀ c∈onceT cs,c.1.length≤10:=fun c h=>hc c ((onceT_mem cs c).mp h)
 have ol:=onceT_len cs
 have gk:∀ c∈keptT (onceT cs),c.1.length≤10:=fun c h=>go c (List.mem_filter.mp h).1
 have kl:(keptT (onceT cs)).length≤200:=by
  have:(keptT (onceT cs)).length≤(onceT cs).length:=List.length_filter_le _ _
  omega
 obtain ⟨y4,y5,io⟩:=io_for (some (.val (cL cs))) (some (.val (cL (onceT cs)))) (some (.val (cL (keptT (onceT cs))))) (keptT (onceT cs)) [] none none (fun d h=>by cases h) gk (by simpa using kl)
 have io:forD (gN 4) b_in_order_L1 ((keptT (onceT cs)).map tD) [some (.val (cL cs)),some (.val (cL (onceT cs))),some (.val (cL (keptT (onceT cs)))),some (.own none (.lst [])),none,none,none]=.nx [some (.val (cL cs)),some (.val (cL (onceT cs))),some (.val (cL (keptT (onceT cs)))),some (.own none (cL (ordr cs))),y4,y5,none]:=io
 have lc1:=lc_fm (vs:=[5,4]) (f:=gT 2 (gsCons (gN 5) (gsCons (gN 4) gsNil))) (t:=mBinB (inD true) (mVar 4) (mSl (mVar 0) none (some (mVar 5)))) (me:=mVar 4) (ρ:=[some (.val (cL cs)),none,none,none,none,none,none]) (fun p:Tm×Nat=>D.tup [.int (p.2:Nat),tD p.1]) (fun p=>tD p.1) (fun p=>!decide (p.1∈cs.take p.2)) cs.zipIdx [] (fun p hp=>by
  have ci:=td_in true p.1 (cs.take p.2)
  have sp:=td_strip p.1
  have c1:slD (cL cs) none (some ((p.2:Nat):Int))=some (.new (cL (cs.take p.2))):=by
   show some (Res.new (D.lst (PyD.cutD (cs.map tD) none (some ((p.2:Nat):Int)))))=_
   rw [cut_take,← List.map_take]
   rfl
  refine ⟨[some (.val (cL cs)),none,none,none,some (.val (tD p.1)),some (.val (.int (p.2:Nat))),none],by simp,?_,by simp,fun _=>⟨.val (tD p.1),by simp,by simp [Res.frz,sp]⟩⟩
  generalize decide (p.1∈cs.take p.2)=b at *
  have st:=cl_strip (cs.take p.2)
  generalize cL (cs.take p.2)=Tk at *
  generalize cL cs=L at *
  generalize tD p.1=C at *
  generalize ((p.2:Nat):Int)=i at *
  have tb:(true != b)=!b:=by cases b <;> rfl
  rw [tb] at ci
  simp -implicitDefEqProofs [-x_inD,c1,ci,st]) (by have:=szK; rw [List.length_nil,List.length_zipIdx]; omega)
 rw [List.nil_append,← enum_zip 0 cs] at lc1
 have e1:(cs.zipIdx.filter fun p=>!decide (p.1∈cs.take p.2)).map (fun p=>tD p.1)=(onceT cs).map tD:=by unfold onceT; rw [List.map_map]; rfl
 rw [e1] at lc1
 have inner:=fun (c:Tm) (hc:c∈onceT cs) (x0 x1 x2 x3 x5:Option PyD.Slot)=>lc_fm (vs:=[6]) (f:=gN 6) (t:=mBinB (orF neD (eqOD true (eqO T EQ_Form))) (mVar 6) (mVar 4)) (me:=mCall 2 [false,false] f_is_needless (mCons (mVar 4) (mCons (mVar 6) mNil))) (ρ:=[x0,x1,x2,x3,some (.val (tD c)),x5,none]) tD (fun o=>D.bl (ndl c o)) (fun o=>!decide (o=c)) (onceT cs) [] (fun o ho=>by
  have ne:=td_ne o c
  have be:=need_ok (u:=o) (go c hc)
  have so:=td_strip o
  have sc:=td_strip c
  refine ⟨[x0,x1,x2,x3,some (.val (tD c)),x5,some (.val (tD o))],by simp,?_,by simp,fun _=>⟨.val (.bl (ndl c o)),?_,rfl⟩⟩
  ·generalize decide (o=c)=b at *
   generalize tD o=O at *
   generalize tD c=C at *
   simp -implicitDefEqProofs [-x_orF,ne]
  ·generalize ndl c o=b at *
   generalize tD o=O at *
   generalize tD c=C at *
   simp -implicitDefEqProofs [be,so,sc]) (by have:=szK; rw [List.length_nil]; omega)
 have lc2:=fun (x0 x2 x3 x5:Option PyD.Slot)=>lc_fm (vs:=[4]) (f:=gN 4) (t:=mNotB (mTru (mCB anyD (mCons (mLc [6] (iSeq (mVar 1)) (gN 6) (mBinB (orF neD (eqOD true (eqO T EQ_Form))) (mVar 6) (mVar 4)) (mCall 2 [false,false] f_is_needless (mCons (mVar 4) (mCons (mVar 6) mNil)))) mNil)))) (me:=mVar 4) (ρ:=[x0,some (.val (cL (onceT cs))),x2,x3,none,x5,none]) tD tD (fun c=>!((onceT cs).filter fun o=>!decide (o=c)).any (ndl c)) (onceT cs) [] (fun c hc=>by
  have inn:=inner c hc x0 (some (.val (cL (onceT cs)))) x2 x3 x5
  rw [List.nil_append] at inn
  have it:itemsD (cL (onceT cs))=some ((onceT cs).map tD):=rfl
  have so:=cl_strip (onceT cs)
  have sc:=td_strip c
  have bl:=bls_of (((onceT cs).filter fun o=>!decide (o=c)).map (ndl c))
  rw [List.map_map] at bl
  have an:(((onceT cs).filter fun o=>!decide (o=c)).map (ndl c)).any id=((onceT cs).filter fun o=>!decide (o=c)).any (ndl c):=by rw [List.any_map]; rfl
  have e:((onceT cs).filter fun o=>!decide (o=c)).map (D.bl∘ndl c)=((onceT cs).filter fun o=>!decide (o=c)).map (fun o=>D.bl (ndl c o)):=rfl
  rw [e] at bl
  refine ⟨[x0,some (.val (cL (onceT cs))),x2,x3,some (.val (tD c)),x5,none],by simp,?_,by simp,fun _=>⟨.val (tD c),by simp,by simp [Res.frz,sc]⟩⟩
  generalize ((onceT cs).filter fun o=>!decide (o=c)).any (ndl c)=r at *
  generalize ((onceT cs).filter fun o=>!decide (o=c)).map (fun o=>D.bl (ndl c o))=Bs at *
  generalize ((onceT cs).filter fun o=>!decide (o=c)).map (ndl c)=bs at *
  generalize (onceT cs).map tD=Os at *
  generalize cL (onceT cs)=OL at *
  generalize tD c=C at *
  simp -implicitDefEqProofs [-x_orF,it,so,inn,bl,an]) (by have:=szK; rw [List.length_nil]; omega)
 simp only [List.nil_append] at lc2
 have it:itemsD (cL cs)=some (cs.map tD):=rfl
 have ito:itemsD (cL (onceT cs))=some ((onceT cs).map tD):=rfl
 have itk:itemsD (cL (keptT (onceT cs)))=some ((keptT (onceT cs)).map tD):=rfl
 have en:∀ ρ:Rho,sqO1 (some ([cL cs],ρ))=.ok (enumFromD 0 (cs.map tD)) ρ:=fun _=>rfl
 have s0:=cl_strip cs
 have so:=cl_strip (onceT cs)
 have sk:=cl_strip (keptT (onceT cs))
 have eo:D.lst ((onceT cs).map tD)=cL (onceT cs):=rfl
 have ek:D.lst (((onceT cs).filter fun c=>!((onceT cs).filter fun o=>!decide (o=c)).any (ndl c)).map tD)=cL (keptT (onceT cs)):=rfl
 generalize ((onceT cs).filter fun c=>!((onceT cs).filter fun o=>!decide (o=c)).any (ndl c)).map tD=Ks at *
 generalize (keptT (onceT cs)).map tD=Kk at *
 generalize (onceT cs).map tD=Os at *
 generalize cL (onceT cs)=OL at *
 generalize cL (keptT (onceT cs))=K at *
 generalize enumFromD 0 (cs.map tD)=En at *
 generalize cs.map tD=Cs at *
 generalize cL cs=L at *
 generalize cL (ordr cs)=P at *
 simp -implicitDefEqProofs [-x_orF,-x_inD,f_in_order,x_mkFn,b_in_order,List.replicate,it,ito,itk,en,s0,so,sk,eo,ek,lc1,lc2,io]
structure NmOk (Y:D)(xs:List Int):Prop where
 is:isiD' T [Y,.tup [.ty "list",.ty "tuple"]]=some (.val (.bl true))
 ln:(orC lenD (lenOD LN_Form)) [Y]=some (.val (.int (xs.length:Nat)))
 it:itemsD Y=some (xs.map .int)
 st:PyD.strip Y=Y
 zp:∀ (ys:List Int) (ρ:Rho),sqZ (some ([iT ys,Y],ρ))=.ok (zipD (ys.map .int) (xs.map .int)) ρ
theorem nm_t (xs:List Int):NmOk (iT xs) xs:=by
 refine ⟨ii5,?_,rfl,rfl,fun ys ρ=>rfl⟩
 have:lenD [iT xs]=some (.val (.int (xs.length:Nat))):=by unfold iT; simp
 unfold orC; rw [this]
theorem nm_l (xs:List Int):NmOk (.lst (xs.map .int)) xs:=by
 refine ⟨ii3,?_,rfl,rfl,fun ys ρ=>rfl⟩
 have:lenD [.lst (xs.map .int)]=some (.val (.int (xs.length:Nat))):=by simp
 unfold orC; rw [this]
theorem nums_ok {Y:D}{xs:List Int}(h:NmOk Y xs)(p:∀ x∈xs,0≤x)(l:xs.length≤10):f_are_numbers [.v Y,.v (.int (xs.length:Nat))]=.ret (.val (.bl true)) []:=by
 have ne:(orF neD (eqOD true (eqO T EQ_Form))) (.int (xs.length:Nat)) (.int (xs.length:Nat))=some (.val (.bl false)):=by rw [ne_int]; simp
 have lc:=lc_fm (vs:=[2]) (f:=gN 2) (t:=mYes) (me:=mAndV (mCall 1 [false] f_is_integer (mCons (mVar 2) mNil)) (mBin geD (mVar 2) (mC (.int 0)))) (ρ:=[some (.val Y),some (.val (.int (xs.length:Nat))),none]) D.int (fun _:Int=>D.bl true) (fun _=>true) xs [] (fun x hx=>by
  have x0:=p x hx
  have io:=int_ok x
  refine ⟨[some (.val Y),some (.val (.int (xs.length:Nat))),some (.val (.int x))],by simp,by simp,by simp,fun _=>⟨.val (.bl true),?_,rfl⟩⟩
  simp -implicitDefEqProofs [io,x0]) (by have:=szK; rw [List.length_nil]; omega)
 rw [List.nil_append,List.filter_eq_self.mpr (fun _ _=>rfl)] at lc
 have bl:blsD (xs.map fun _=>D.bl true)=some (xs.map fun _=>true):=by
  have:=bls_of (xs.map fun _=>true)
  rwa [List.map_map] at this
 have al:(xs.map fun _=>true).all id=true:=by simp
 have i1:=h.is
 have i2:=h.ln
 have i3:=h.it
 have i4:=h.st
 generalize (xs.map fun _=>D.bl true)=Bs at *
 generalize xs.map D.int=Xs at *
 generalize ((xs.length:Nat):Int)=n at *
 simp -implicitDefEqProofs [-x_orF,-x_orC,f_are_numbers,x_mkFn,b_are_numbers,List.replicate,i1,i2,i3,i4,ne,lc,bl,al]
theorem term_ok {n:Nat}{b:Int}{t:Tm}(g:Gd n b t)(n4:n≤4):f_is_term [.v (tD t),.v (.int (n:Nat))]=.ret (.val (.bl true)) []:=by
 have nu:=nums_ok (nm_t t.1) (fun x hx=>(g.bd x hx).1) (by rw [g.len]; omega)
 rw [g.len] at nu
 have io:=int_ok t.2
 have o0:=g.o0
 have is:isiD' T [tD t,.ty "tuple"]=some (.val (.bl true)):=ii4
 have is2:isiD' T [iT t.1,.ty "tuple"]=some (.val (.bl true)):=ii4
 have ln:(orC lenD (lenOD LN_Form)) [tD t]=some (.val (.int 2)):=by
  have:lenD [tD t]=some (.val (.int 2)):=by unfold tD; simp
  unfold orC; rw [this]
 have ne:(orF neD (eqOD true (eqO T EQ_Form))) (.int 2) (.int 2)=some (.val (.bl false)):=by rw [ne_int]; simp
 have a0:=td_0 t
 have a1:=td_1 t
 have s0:=it_strip t.1
 have st:=td_strip t
 generalize iT t.1=X1 at *
 generalize t.2=o1 at *
 generalize tD t=C1 at *
 generalize ((n:Nat):Int)=ni at *
 simp -implicitDefEqProofs [-x_orF,-x_orC,f_is_term,x_mkFn,b_is_term,List.replicate,is,is2,ln,ne,a0,a1,nu,io,o0,s0,st]
def FO (n:Nat)(ts:List Tm):D:=.obj C_Form [(s!"size",.int (n:Nat)),(s!"terms",.tup (ts.map tD))]
theorem TfF:T.flds C_Form=[s!"size",s!"terms"]:=rfl
theorem lFo:C_Form<T.n:=by decide
theorem fo_strip (n:Nat)(ts:List Tm):PyD.strip (FO n ts)=FO n ts:=rfl
theorem fo_size (n:Nat)(ts:List Tm):fldD T s!"size" (FO n ts)=some (.val (.int (n:Nat))):=by kernel_rfl
theorem fo_terms (n:Nat)(ts:List Tm):fldD T s!"terms" (FO n ts)=some (.val (.tup (ts.map tD))):=by kernel_rfl
structure TmOk (X:D)(ts:List Tm):Prop where
 is:isiD' T [X,.tup [.ty "list",.ty "tuple"]]=some (.val (.bl true))
 en:∀ ρ:Rho,sqO1 (some ([X],ρ))=.ok (enumFromD 0 (ts.map tD)) ρ
 ss:∀ ρ:Rho,starS (some (X,ρ))=some (ts.map tD,ρ)
 st:PyD.strip X=X
theorem tm_l (ts:List Tm):TmOk (cL ts) ts:=⟨ii3,fun _=>rfl,fun _=>rfl,rfl⟩
theorem tm_t (ts:List Tm):TmOk (.tup (ts.map tD)) ts:=⟨ii5,fun _=>rfl,fun _=>rfl,rfl⟩
theorem fi_for {n:Nat}{b:Int}(n4:n≤4)(x0 x2:Option PyD.Slot):∀ (cs:List Tm) (k:Nat) (x3 x4:Option PyD.Slot),(∀ c∈cs,Gd n b c)→∃ y3 y4,forD (gT 2 (gsCons (gN 3) (gsCons (gN 4) gsNil))) b_Form___init___L1 (enumFromD k (cs.map tD)) [x0,some (.val (.int (n:Nat))),x2,x3,x4]=.nx [x0,some (.val (.int (n:Nat))),x2,y3,y4]
 | [],k,x3,x4,_=>⟨x3,x4,rfl⟩
 | c::cs,k,x3,x4,g=>by
  have co:=term_ok (g c (List.mem_cons_self ..)) n4
  have sc:=td_strip c
  have st:b_Form___init___L1 [x0,some (.val (.int (n:Nat))),x2,some (.val (.int (k:Nat))),some (.val (tD c))]=.nx [x0,some (.val (.int (n:Nat))),x2,some (.val (.int (k:Nat))),some (.val (tD c))]:=by
   generalize tD c=C at *
   generalize ((n:Nat):Int)=ni at *
   simp -implicitDefEqProofs [b_Form___init___L1,co,sc]
  obtain ⟨y3,y4,ih⟩:=fi_for n4 x0 x2 cs (k+1) (some (.val (.int (k:Nat)))) (some (.val (tD c))) fun d hd=>g d (List.mem_cons_of_mem _ hd)
  exact ⟨y3,y4,for_step rfl st ih⟩
theorem zero_t {n:Nat}(h1:1≤n)(n4:n≤4):mulE (.tup [.int 0]) (.int (n:Nat))=some (.val (iT (zT n).1)):=by
 rcases (show n=1∨n=2∨n=3∨n=4 by omega) with rfl | rfl | rfl | rfl <;> rfl
theorem tup_len (ts:List Tm):(orC lenD (lenOD LN_Form)) [.tup (ts.map tD)]=some (.val (.int (ts.length:Nat))):=by
 have:lenD [.tup (ts.map tD)]=some (.val (.int (ts.length:Nat))):=by simp
 unfold orC; rw [this]
theorem form_init {n:Nat}{b:Int}(h1:1≤n)(n4:n≤4)(b0:0≤b){cs:List Tm}(g:∀ c∈cs,Gd n b c)(hl:cs.length≤31){X:D}(hX:TmOk X cs):f_Form___init__ [.o (.obj C_Form []),.v (.int (n:Nat)),.v X]=.ret (.val .non) [FO n (ordr (zT n::cs))]:=by
 have ga:∀ c∈zT n::cs,Gd n b c:=fun c hc=>by
  rcases List.mem_cons.mp hc with rfl | hc
  ·exact gd_z n b0
  ·exact g c hc
 have gr:=in_order_ok (cs:=zT n::cs) (fun c hc=>by rw [(ga c hc).len]; omega) (by rw [List.length_cons]; omega)
 have ol:=ordr_len (zT n::cs)
 rw [List.length_cons] at ol
 obtain ⟨y3,y4,fo⟩:=fi_for n4 (some (.own (some 0) (.obj C_Form []))) (some (.val X)) cs 0 none none g
 have io:=int_ok (n:Nat)
 have b2:(1:Int)≤(n:Nat):=by omega
 have b3:((n:Nat):Int)≤4:=by omega
 have is3:=hX.is
 have z:=zero_t h1 n4
 have en:=hX.en
 have s0:=hX.st
 have ss:=hX.ss
 have lz:(cs.map tD).length≤1000:=by rw [List.length_map]; omega
 have lz2:(cs.map tD).length+1≤16777216:=by omega
 have ez:D.tup [iT (zT n).1,.int 0]=tD (zT n):=rfl
 have ea:D.lst (tD (zT n)::cs.map tD)=cL (zT n::cs):=rfl
 have sz:=td_strip (zT n)
 have sz1:=it_strip (zT n).1
 have sz2:=cl_strip (zT n::cs)
 have sp:=cl_strip (ordr (zT n::cs))
 have tp:tupleD [cL (ordr (zT n::cs))]=some (.val (.tup ((ordr (zT n::cs)).map tD))):=rfl
 have st:PyD.strip (.tup ((ordr (zT n::cs)).map tD))=.tup ((ordr (zT n::cs)).map tD):=rfl
 have tl:=tup_len (ordr (zT n::cs))
 have t32:¬ (32:Int)<((ordr (zT n::cs)).length:Nat):=by omega
 unfold FO
 generalize (((ordr (zT n::cs)).length:Nat):Int)=ll at *
 generalize D.tup ((ordr (zT n::cs)).map tD)=Pt at *
 generalize cL (ordr (zT n::cs))=P at *
 generalize cL (zT n::cs)=A at *
 generalize tD (zT n)=Z at *
 generalize iT (zT n).1=Z1 at *
 generalize enumFromD 0 (cs.map tD)=En at *
 generalize cs.map tD=Cs at *
 generalize ((n:Nat):Int)=ni at *
 simp -implicitDefEqProofs [-x_orC,f_Form___init__,x_mkFn,b_Form___init__,List.replicate,io,b2,b3,is3,z,en,s0,lz,lz2,ez,ea,sz,sz1,sz2,sp,tp,st,fo,gr,TfF,lFo,settles_vals,ss,tl,t32]
theorem form_len (n:Nat)(ts:List Tm):f_Form___len__ [.v (FO n ts)]=.ret (.val (.int (ts.length:Nat))) []:=by
 have t:=fo_terms n ts
 have l:lenD [.tup (ts.map tD)]=some (.val (.int (ts.length:Nat))):=by simp
 generalize D.tup (ts.map tD)=Tp at *
 generalize FO n ts=F at *
 simp -implicitDefEqProofs [f_Form___len__,x_mkFn,b_Form___len__,List.replicate,t,l]
theorem check_ok (n:Nat)(A B:List Tm):f_Form_check [.v (FO n A),.v (FO n B)]=.ret (.val .non) []:=by
 have i1:isiD' T [FO n B,.cls C_Form]=some (.val (.bl true)):=by kernel_rfl
 have a:=fo_size n A
 have b:=fo_size n B
 have ne:neD (.int (n:Nat)) (.int (n:Nat))=some (.val (.bl false)):=neD_t (by simp)
 generalize ((n:Nat):Int)=ni at *
 generalize FO n A=F at *
 generalize FO n B=F2 at *
 simp -implicitDefEqProofs [f_Form_check,x_mkFn,b_Form_check,List.replicate,i1,a,b,ne]
theorem ints_of:∀ l:List Int,intsD (l.map D.int)=some l
 | []=>rfl
 | a::l=>by simp [intsD,ints_of l]
theorem sum_il (l:List Int):sumD [.lst (l.map D.int)]=some (.val (.int l.sum)):=by
 show (intsD (l.map D.int)).map _=_
 rw [ints_of]
 rfl
theorem dot_zip:∀ xs ys:List Int,((xs.zip ys).map fun p=>p.1 * p.2).sum=dot xs ys
 | [],_=>by simp [dot]
 | _::_,[]=>by simp [dot]
 | x::xs,y::ys=>by
  have:=dot_zip xs ys
  unfold dot at this ⊢
  rw [List.zip_cons_cons,List.map_cons,List.sum_cons,this,List.zipWith_cons_cons,List.sum_cons]
theorem worth_ok {n:Nat}{b:Int}{t:Tm}(g:Gd n b t)(n4:n≤4)(hb:b≤1000){Y:D}{L:List Int}(h:NmOk Y L):f_worth_of [.v (tD t),.v Y]=.ret (.val (.int (wth L t))) []:=by
 have lc:=lc_fm (vs:=[2,3]) (f:=gT 2 (gsCons (gN 2) (gsCons (gN 3) gsNil))) (t:=mYes) (me:=mBin mulD (mVar 2) (mVar 3)) (ρ:=[some (.val (tD t)),some (.val Y),none,none]) (fun p:Int×Int=>D.tup [.int p.1,.int p.2]) (fun p=>D.int (p.1 * p.2)) (fun _=>true) (t.1.zip L) [] (fun p hp=>by
  have:=g.bd p.1 (List.of_mem_zip hp).1
  have mc:mulC p.1 p.2=true:=mulC_l (by omega) (by omega)
  refine ⟨[some (.val (tD t)),some (.val Y),some (.val (.int p.1)),some (.val (.int p.2))],by simp,by simp,by simp,fun _=>⟨.val (.int (p.1 * p.2)),?_,rfl⟩⟩
  generalize tD t=C1 at *
  simp -implicitDefEqProofs [mc]) (by have:=szK; have:=g.len; rw [List.length_zip,List.length_nil]; omega)
 rw [List.nil_append,List.filter_eq_self.mpr (fun _ _=>rfl),← zip_int] at lc
 have sm:=sum_il ((t.1.zip L).map fun p=>p.1 * p.2)
 rw [List.map_map,dot_zip] at sm
 have e:(t.1.zip L).map (D.int∘fun p=>p.1 * p.2)=(t.1.zip L).map (fun p=>D.int (p.1 * p.2)):=rfl
 rw [e] at sm
 have a0:=td_0 t
 have a1:=td_1 t
 have zp:=h.zp t.1
 have st:=h.st
 have s0:=it_strip t.1
 unfold wth
 generalize dot t.1 L=dd at *
 generalize (t.1.zip L).map (fun p=>D.int (p.1 * p.2))=Bs at *
 generalize zipD (t.1.map D.int) (L.map D.int)=Zs at *
 generalize iT t.1=X1 at *
 generalize t.2=o1 at *
 generalize tD t=C1 at *
 simp -implicitDefEqProofs [f_worth_of,x_mkFn,b_worth_of,List.replicate,lc,sm,a0,a1,zp,st,s0]
theorem mxI_is:∀ (xs:List Int) (m:Int),IsMx (m::xs) (mxI m xs)
 | [],m=>⟨by simp [mxI],fun x hx=>by rw [List.mem_singleton.mp hx]; exact Int.le_refl _⟩
 | x::xs,m=>by
  obtain ⟨h1,h2⟩:=mxI_is xs (if m<x then x else m)
  have e:mxI m (x::xs)=mxI (if m<x then x else m) xs:=rfl
  rw [e]
  have h3:=h2 _ (List.mem_cons_self ..)
  have h4:m≤(if m<x then x else m)∧x≤(if m<x then x else m):=by split <;> omega
  refine ⟨?_,fun y hy=>?_⟩
  ·rcases List.mem_cons.mp h1 with h | h
   ·rw [h]; split <;> simp
   ·exact List.mem_cons_of_mem _ (List.mem_cons_of_mem _ h)
  ·rcases List.mem_cons.mp hy with e | hy
   ·rw [e]; exact Int.le_trans h4.1 h3
   ·rcases List.mem_cons.mp hy with e | hy
    ·rw [e]; exact Int.le_trans h4.2 h3
    ·exact h2 _ (List.mem_cons_of_mem _ hy)
theorem call_ok {n:Nat}{b:Int}(n4:n≤4)(hb:b≤1000){ts:List Tm}(g:∀ t∈ts,Gd n b t)(hl:ts.length≤100){Y:D}{L:List Int}(h:NmOk Y L)(hL:L.length=n)(p:∀ l∈L,0≤l){m:Int}(hm:IsMx (ts.map (wth L)) m):f_Form___call__ [.v (FO n ts),.v Y]=.ret (.val (.int m)) []:=by
 have nu:=nums_ok h p (by omega)
 rw [hL] at nu
 have fs:=fo_size n ts
 have ft:=fo_terms n ts
 have it:itemsD (.tup (ts.map tD))=some (ts.map tD):=rfl
 have sy:=h.st
 have lc:=lc_fm (vs:=[2]) (f:=gN 2) (t:=mYes) (me:=mCB intD (mCons (mCall 2 [false,false] f_worth_of (mCons (mVar 2) (mCons (mVar 1) mNil))) mNil)) (ρ:=[some (.val (FO n ts)),some (.val Y),none]) tD (fun t=>D.int (wth L t)) (fun _=>true) ts [] (fun t ht=>by
  have w:=worth_ok (g t ht) n4 hb h
  have sc:=td_strip t
  refine ⟨[some (.val (FO n ts)),some (.val Y),some (.val (tD t))],by simp,by simp,by simp,fun _=>⟨.val (.int (wth L t)),?_,rfl⟩⟩
  generalize wth L t=W at *
  generalize tD t=C1 at *
  generalize FO n ts=F at *
  simp -implicitDefEqProofs [w,sc,sy]) (by have:=szK; rw [List.length_nil]; omega)
 rw [List.nil_append,List.filter_eq_self.mpr (fun _ _=>rfl)] at lc
 have e:ts.map (fun t=>D.int (wth L t))=(ts.map (wth L)).map D.int:=by rw [List.map_map]; rfl
 rw [e] at lc
 have mx:maxLD [.lst ((ts.map (wth L)).map D.int)]=some (.val (.int m)):=by
  cases hw:ts.map (wth L) with
  | nil=>rw [hw] at hm; have:=hm.inS; cases this
  | cons w ws =>
   rw [hw] at hm
   have io:=ints_of (w::ws)
   have:mxI w ws=m:=(mxI_is ws w).uniq hm
   simp only [maxLD,io,this]
 generalize (ts.map (wth L)).map D.int=Ws at *
 generalize ts.map tD=Ts at *
 generalize ((n:Nat):Int)=ni at *
 generalize FO n ts=F at *
 simp -implicitDefEqProofs [f_Form___call__,x_mkFn,b_Form___call__,List.replicate,fs,ft,nu,it,sy,lc,mx]
theorem ad_step {n:Nat}{b:Int}{t u:Tm}(gt:Gd n b t)(gu:Gd n b u)(n4:n≤4){fs:List Tm}(hl:fs.length≤100)(x0 x1:Option PyD.Slot) :
  b_Form___add___L1 [x0,x1,some (.own none (cL fs)),some (.val (iT t.1)),some (.val (.int t.2)),some (.val (iT u.1)),some (.val (.int u.2)),none,none]=.nx [x0,x1,some (.own none (cL (fs++[addT t u]))),some (.val (iT t.1)),some (.val (.int t.2)),some (.val (iT u.1)),some (.val (.int u.2)),none,none]:=by
 have lc:=fun x2=>lc_fm (vs:=[7,8]) (f:=gT 2 (gsCons (gN 7) (gsCons (gN 8) gsNil))) (t:=mYes) (me:=mBin addD (mVar 7) (mVar 8)) (ρ:=[x0,x1,x2,some (.val (iT t.1)),some (.val (.int t.2)),some (.val (iT u.1)),some (.val (.int u.2)),none,none]) (fun p:Int×Int=>D.tup [.int p.1,.int p.2]) (fun p=>D.int (p.1+p.2)) (fun _=>true) (t.1.zip u.1) [] (fun p hp=>by
  refine ⟨[x0,x1,x2,some (.val (iT t.1)),some (.val (.int t.2)),some (.val (iT u.1)),some (.val (.int u.2)),some (.val (.int p.1)),some (.val (.int p.2))],by simp,by simp,by simp,fun _=>⟨.val (.int (p.1+p.2)),?_,rfl⟩⟩
  generalize iT t.1=C1 at *
  generalize iT u.1=C2 at *
  simp -implicitDefEqProofs []) (by have:=szK; have:=gt.len; rw [List.length_zip,List.length_nil]; omega)
 simp only [List.nil_append,List.filter_eq_self.mpr (fun _ _=>rfl:∀ x∈t.1.zip u.1,(fun _=>true) x=true),← zip_int] at lc
 have e:(t.1.zip u.1).map (fun p=>D.int (p.1+p.2))=(addT t u).1.map D.int:=by
  unfold addT
  rw [List.map_zipWith]
  have:∀ xs ys:List Int,(xs.zip ys).map (fun p=>D.int (p.1+p.2))=List.zipWith (fun a b=>D.int (a+b)) xs ys:=fun xs=>by
   induction xs with
   | nil=>intro ys; rfl
   | cons x xs ih=>intro ys; cases ys with
    | nil=>rfl
    | cons y ys=>rw [List.zip_cons_cons,List.map_cons,ih,List.zipWith_cons_cons]
  exact this _ _
 rw [e] at lc
 have zp:∀ ρ:Rho,sqZ (some ([iT t.1,iT u.1],ρ))=.ok (zipD (t.1.map .int) (u.1.map .int)) ρ:=(nm_t u.1).zp t.1
 have tp:tupleD [.lst ((addT t u).1.map D.int)]=some (.val (iT (addT t u).1)):=rfl
 have s0:PyD.strip (.lst ((addT t u).1.map D.int))=.lst ((addT t u).1.map D.int):=rfl
 have s1:=it_strip (addT t u).1
 have s2:=it_strip t.1
 have s3:=it_strip u.1
 have et:D.tup [iT (addT t u).1,.int (t.2+u.2)]=tD (addT t u):=rfl
 have st:=td_strip (addT t u)
 have ap:appendD (cL fs) [tD (addT t u)]=some (cL (fs++[addT t u]),.non):=by
  unfold cL
  simp [appendD]
  have:=szK
  omega
 have ty:tyOk "list" (cL fs)=true:=rfl
 generalize cL (fs++[addT t u])=L2 at *
 generalize cL fs=L1 at *
 generalize tD (addT t u)=A at *
 generalize iT (addT t u).1=A1 at *
 generalize (addT t u).1.map D.int=As at *
 generalize zipD (t.1.map D.int) (u.1.map D.int)=Zs at *
 generalize iT t.1=X1 at *
 generalize iT u.1=X2 at *
 generalize t.2=o1 at *
 generalize u.2=o2 at *
 simp -implicitDefEqProofs [b_Form___add___L1,zp,lc,tp,s0,s1,s2,s3,et,st,ap,ty]
theorem ad_for {n:Nat}{b:Int}{t:Tm}(gt:Gd n b t)(n4:n≤4)(x0 x1:Option PyD.Slot):∀ (us fs:List Tm) (x5 x6:Option PyD.Slot),(∀ u∈us,Gd n b u)→fs.length+us.length≤100→∃ y5 y6,forD (gT 2 (gsCons (gN 5) (gsCons (gN 6) gsNil))) b_Form___add___L1 (us.map tD) [x0,x1,some (.own none (cL fs)),some (.val (iT t.1)),some (.val (.int t.2)),x5,x6,none,none]=.nx [x0,x1,some (.own none (cL (fs++us.map (addT t)))),some (.val (iT t.1)),some (.val (.int t.2)),y5,y6,none,none]
 | [],fs,x5,x6,_,_=>⟨x5,x6,by
  have e:fs++([]:List Tm).map (addT t)=fs:=by simp
  rw [e]; rfl⟩
 | u::us,fs,x5,x6,g,hl=>by
  simp only [List.length_cons] at hl
  have st:=ad_step gt (g u (List.mem_cons_self ..)) n4 (fs:=fs) (by omega) x0 x1
  obtain ⟨y5,y6,ih⟩:=ad_for gt n4 x0 x1 us (fs++[addT t u]) (some (.val (iT u.1))) (some (.val (.int u.2))) (fun v hv=>g v (List.mem_cons_of_mem _ hv)) (by simp; omega)
  refine ⟨y5,y6,for_step rfl st ?_⟩
  rw [ih,List.map_cons,List.append_assoc]
  rfl
theorem ad_out {n:Nat}{b:Int}(n4:n≤4){B:List Tm}(gB:∀ u∈B,Gd n b u)(x0:Option PyD.Slot):∀ (A fs:List Tm) (x3 x4 x5 x6:Option PyD.Slot),(∀ t∈A,Gd n b t)→fs.length+A.length * B.length≤100→∃ y3 y4 y5 y6,forD (gT 2 (gsCons (gN 3) (gsCons (gN 4) gsNil))) b_Form___add___L2 (A.map tD) [x0,some (.val (FO n B)),some (.own none (cL fs)),x3,x4,x5,x6,none,none]=.nx [x0,some (.val (FO n B)),some (.own none (cL (fs++sums A B))),y3,y4,y5,y6,none,none]
 | [],fs,x3,x4,x5,x6,_,_=>⟨x3,x4,x5,x6,by rw [show sums [] B=[] from rfl,List.append_nil]; rfl⟩
 | t::A,fs,x3,x4,x5,x6,g,hl=>by
  rw [List.length_cons,Nat.add_mul,Nat.one_mul] at hl
  obtain ⟨z5,z6,st⟩:=ad_for (g t (List.mem_cons_self ..)) n4 x0 (some (.val (FO n B))) B fs x5 x6 gB (by omega)
  obtain ⟨y3,y4,y5,y6,ih⟩:=ad_out n4 gB x0 A (fs++B.map (addT t)) (some (.val (iT t.1))) (some (.val (.int t.2))) z5 z6 (fun v hv=>g v (List.mem_cons_of_mem _ hv)) (by simp; omega)
  refine ⟨y3,y4,y5,y6,?_⟩
  have e:fs++sums (t::A) B=(fs++B.map (addT t))++sums A B:=by
   unfold sums; rw [List.flatMap_cons,List.append_assoc]
  rw [e]
  refine for_step (ρ1:=[x0,some (.val (FO n B)),some (.own none (cL fs)),some (.val (iT t.1)),some (.val (.int t.2)),x5,x6,none,none]) rfl ?_ ih
  have ft:=fo_terms n B
  have it:itemsD (.tup (B.map tD))=some (B.map tD):=rfl
  generalize cL (fs++B.map (addT t))=R at *
  generalize cL fs=L1 at *
  generalize D.tup (B.map tD)=Bt at *
  generalize B.map tD=Bs at *
  generalize FO n B=F at *
  simp -implicitDefEqProofs [b_Form___add___L2,ft,it,st]
theorem add_ok {n:Nat}{b:Int}(h1:1≤n)(n4:n≤4)(b0:0≤b){A B:List Tm}(gA:∀ t∈A,Gd n b t)(gB:∀ u∈B,Gd n b u)(hl:A.length * B.length≤31):f_Form___add__ [.v (FO n A),.v (FO n B)]=.ret (.new (FO n (ordr (zT n::sums A B)))) []:=by
 have ck:=check_ok n A B
 obtain ⟨y3,y4,y5,y6,fo⟩:=ad_out n4 gB (some (.val (FO n A))) A [] none none none none gA (by simp; omega)
 rw [List.nil_append] at fo
 have fo:forD (gT 2 (gsCons (gN 3) (gsCons (gN 4) gsNil))) b_Form___add___L2 (A.map tD) [some (.val (FO n A)),some (.val (FO n B)),some (.own none (.lst [])),none,none,none,none,none,none]=.nx [some (.val (FO n A)),some (.val (FO n B)),some (.own none (cL (sums A B))),y3,y4,y5,y6,none,none]:=fo
 have fi:=form_init h1 n4 (b:=b+b) (by omega) (sums_gd gA gB) (by rw [sums_len]; omega) (tm_l (sums A B))
 have ft:=fo_terms n A
 have fs:=fo_size n A
 have it:itemsD (.tup (A.map tD))=some (A.map tD):=rfl
 have s1:=fo_strip n A
 have s2:=fo_strip n B
 have s3:=cl_strip (sums A B)
 have i1:methR C_Form s!"check" (.at 0) [some (.val (FO n A)),some (.val (FO n B)),none,none,none,none,none,none,none]=true:=rfl
 have io:isO C_Form s!"check" (some (FO n A))=true:=rfl
 generalize FO n (ordr (zT n::sums A B))=R at *
 generalize cL (sums A B)=S at *
 generalize D.tup (A.map tD)=At at *
 generalize A.map tD=As at *
 generalize FO n A=F1 at *
 generalize FO n B=F2 at *
 generalize ((n:Nat):Int)=ni at *
 simp -implicitDefEqProofs [f_Form___add__,x_mkFn,b_Form___add__,List.replicate,io,ck,s1,s2,fo,ft,fs,it,s3,fi]
theorem or_ok {n:Nat}{b:Int}(h1:1≤n)(n4:n≤4)(b0:0≤b){A B:List Tm}(gA:∀ t∈A,Gd n b t)(gB:∀ u∈B,Gd n b u)(hl:A.length+B.length≤31):f_Form___or__ [.v (FO n A),.v (FO n B)]=.ret (.new (FO n (ordr (zT n::(A++B))))) []:=by
 have ck:=check_ok n A B
 have fi:=form_init h1 n4 (b:=b) b0 (cs:=A++B) (fun c hc=>by
  rcases List.mem_append.mp hc with h | h
  ·exact gA c h
  ·exact gB c h) (by simp; omega) (tm_l (A++B))
 have ft:=fo_terms n A
 have ft2:=fo_terms n B
 have fs:=fo_size n A
 have ss1:∀ ρ:Rho,starS (some (.tup (A.map tD),ρ))=some (A.map tD,ρ):=fun _=>rfl
 have ss2:∀ ρ:Rho,starS (some (.tup (B.map tD),ρ))=some (B.map tD,ρ):=fun _=>rfl
 have e:D.lst (A.map tD++B.map tD)=cL (A++B):=by unfold cL; rw [List.map_append]
 have lz:(A.map tD).length+(B.map tD).length≤16777216:=by simp; omega
 have lz1:(A.map tD).length≤1000:=by simp; omega
 have lz2:(B.map tD).length≤1000:=by simp; omega
 have s1:=fo_strip n A
 have s2:=fo_strip n B
 have s3:=cl_strip (A++B)
 have io:isO C_Form s!"check" (some (FO n A))=true:=rfl
 have se1:=settles_vals (A.map tD)
 have se2:=settles_vals (B.map tD)
 generalize FO n (ordr (zT n::(A++B)))=R at *
 generalize cL (A++B)=S at *
 generalize A.map tD=As at *
 generalize B.map tD=Bs at *
 generalize hF1:FO n A=F1 at *
 generalize hF2:FO n B=F2 at *
 generalize ((n:Nat):Int)=ni at *
 simp -implicitDefEqProofs [f_Form___or__,x_mkFn,b_Form___or__,List.replicate,io,ck,s1,s2,ft,ft2,fs,ss1,ss2,e,lz,lz1,lz2,s3,fi,se1,se2]
theorem ints_al {b:Int}:∀ {ds ys:List D},Al (fun _ y=>∃ x:Int,y=.int x∧0≤x∧x≤b) ds ys→∃ xs:List Int,ys=xs.map .int∧xs.length=ds.length∧∀ x∈xs,0≤x∧x≤b
 | _,_,.nil=>⟨[],rfl,rfl,fun x h=>by cases h⟩
 | _,_,.cons ⟨x,e,h⟩ t=>by
  obtain ⟨xs,e2,l,hb⟩:=ints_al t
  refine ⟨x::xs,by rw [e,e2]; rfl,by simp [l],fun y hy=>?_⟩
  rcases List.mem_cons.mp hy with rfl | hy
  ·exact h
  ·exact hb y hy
theorem rg_len (i:Int)(n:Nat):(rangeD i n).length=n:=by simp [rangeD]
theorem term_dr (n:Nat)(n4:n≤4)(p:Pl):∃ (t:Tm) (q:Pl),Gd n 5 t∧f__law_term [.o (poolD p),.v (.int (n:Nat))]=.ret (.val (tD t)) [poolD q]:=by
 obtain ⟨ys,q,lc,al⟩:=lc_rel (vs:=[2]) (f:=gN 2) (t:=mYes) (me:=mCall 2 [true,false] f__law_draw (mCons (mVar 0) (mCons (mC (.int 4)) mNil))) (fun q:Pl=>[some (.own (some 0) (poolD q)),some (.val (.int (n:Nat))),none]) (fun _ y=>∃ x:Int,y=.int x∧0≤x∧x≤3) (rangeD 0 n) [] p (fun d hd q=>by
  obtain ⟨a,q1,a0,a1,e⟩:=drawE q 4 (by decide) (by decide)
  exact ⟨[some (.own (some 0) (poolD q)),some (.val (.int (n:Nat))),some (.val d)],[some (.own (some 0) (poolD q)),some (.val (.int (n:Nat))),some (.val d)],.val (.int a),[some (.own (some 0) (poolD q1)),some (.val (.int (n:Nat))),some (.val d)],.int a,[some (.own (some 0) (poolD q1)),some (.val (.int (n:Nat))),some (.val d)],q1,by simp,by simp,by simp [e],by simp,by simp,a,rfl,a0,by omega⟩) (by have:=szK; rw [rg_len]; simp; omega)
 obtain ⟨xs,rfl,l,hb⟩:=ints_al al
 rw [rg_len] at l
 rw [List.nil_append] at lc
 obtain ⟨o,q2,o0,o1,e2⟩:=drawE q 6 (by decide) (by decide)
 refine ⟨(xs,o),q2,⟨l,fun x hx=>by have:=hb x hx; omega,o0,by show o≤5; omega⟩,?_⟩
 have r1:-4611686018427387904≤((n:Nat):Int):=by omega
 have r2:((n:Nat):Int)<4611686018427387904:=by omega
 have rn:(((n:Nat):Int)).toNat=n:=by omega
 have tp:tupleD [.lst (xs.map D.int)]=some (.val (iT xs)):=rfl
 have s1:PyD.strip (.lst (xs.map D.int))=.lst (xs.map D.int):=rfl
 have s2:=it_strip xs
 have et:D.tup [iT xs,.int o]=tD (xs,o):=rfl
 have st:=td_strip (xs,o)
 generalize tD (xs,o)=Z at *
 generalize iT xs=X at *
 generalize xs.map D.int=Xs at *
 generalize hG:rangeD 0 n=G at *
 generalize ((n:Nat):Int)=ni at *
 simp -implicitDefEqProofs [f__law_term,x_mkFn,b__law_term,List.replicate,r1,r2,rn,hG,lc,tp,s1,s2,e2,et,st]
theorem tms_al {n:Nat}:∀ {ds ys:List D},Al (fun _ y=>∃ t:Tm,y=tD t∧Gd n 5 t) ds ys→∃ xs:List Tm,ys=xs.map tD∧xs.length=ds.length∧∀ x∈xs,Gd n 5 x
 | _,_,.nil=>⟨[],rfl,rfl,fun x h=>by cases h⟩
 | _,_,.cons ⟨x,e,h⟩ t=>by
  obtain ⟨xs,e2,l,hb⟩:=tms_al t
  refine ⟨x::xs,by rw [e,e2]; rfl,by simp [l],fun y hy=>?_⟩
  rcases List.mem_cons.mp hy with rfl | hy
  ·exact h
  ·exact hb y hy
theorem terms_dr (n:Nat)(n4:n≤4)(p:Pl):∃ (ts:List Tm) (q:Pl),ts.length≤4∧(∀ t∈ts,Gd n 5 t)∧f__law_terms [.o (poolD p),.v (.int (n:Nat))]=.ret (.new (cL ts)) [poolD q]:=by
 obtain ⟨m,q0,m0,m1,e0⟩:=drawE p 5 (by decide) (by decide)
 obtain ⟨m,rfl⟩:=Int.eq_ofNat_of_zero_le m0
 obtain ⟨ys,q,lc,al⟩:=lc_rel (vs:=[2]) (f:=gN 2) (t:=mYes) (me:=mCall 2 [true,false] f__law_term (mCons (mVar 0) (mCons (mVar 1) mNil))) (fun q:Pl=>[some (.own (some 0) (poolD q)),some (.val (.int (n:Nat))),none]) (fun _ y=>∃ t:Tm,y=tD t∧Gd n 5 t) (rangeD 0 m) [] q0 (fun d hd q=>by
  obtain ⟨t,q1,g,e⟩:=term_dr n n4 q
  have st:=td_strip t
  refine ⟨[some (.own (some 0) (poolD q)),some (.val (.int (n:Nat))),some (.val d)],[some (.own (some 0) (poolD q)),some (.val (.int (n:Nat))),some (.val d)],.val (tD t),[some (.own (some 0) (poolD q1)),some (.val (.int (n:Nat))),some (.val d)],tD t,[some (.own (some 0) (poolD q1)),some (.val (.int (n:Nat))),some (.val d)],q1,by simp,by simp,?_,?_,by simp,t,rfl,g⟩
  ·generalize tD t=Z at *
   generalize ((n:Nat):Int)=ni at *
   simp -implicitDefEqProofs [e]
  ·generalize tD t=Z at *
   generalize ((n:Nat):Int)=ni at *
   simp -implicitDefEqProofs [st]) (by have:=szK; rw [rg_len]; simp; omega)
 obtain ⟨ts,rfl,l,hb⟩:=tms_al al
 rw [rg_len] at l
 rw [List.nil_append] at lc
 refine ⟨ts,q,by omega,hb,?_⟩
 have r1:-4611686018427387904≤((m:Nat):Int):=by omega
 have r2:((m:Nat):Int)<4611686018427387904:=by omega
 have rn:(((m:Nat):Int)).toNat=m:=by omega
 have el:D.lst (ts.map tD)=cL ts:=rfl
 generalize cL ts=Z at *
 generalize ts.map tD=Xs at *
 generalize hG:rangeD 0 m=G at *
 generalize ((m:Nat):Int)=mi at *
 generalize ((n:Nat):Int)=ni at *
 simp -implicitDefEqProofs [f__law_terms,x_mkFn,b__law_terms,List.replicate,e0,r1,r2,rn,hG,lc,el]
theorem pow20:powD (.int 10) (.int 20)=some (.val (.int 100000000000000000000)):=by rfl
theorem limits_dr (n:Nat)(n4:n≤4)(p:Pl):∃ (L:List Int) (q:Pl),L.length=n∧(∀ l∈L,0≤l)∧f__law_limits [.o (poolD p),.v (.int (n:Nat))]=.ret (.new (.lst (L.map .int))) [poolD q]:=by
 obtain ⟨d,q0,d0,d1,e0⟩:=drawE p 3 (by decide) (by decide)
 obtain ⟨M,hM,hl,hat⟩:∃ M:Int,0<M∧M.natAbs.log2<9000∧ixD (.lst [.int 3,.int 12,.int 100000000000000000000]) (.int d)=some (.val (.int M)):=by
  rcases (show d=0∨d=1∨d=2 by omega) with rfl | rfl | rfl
  ·exact ⟨3,by decide,by decide,rfl⟩
  ·exact ⟨12,by decide,by decide,rfl⟩
  ·exact ⟨100000000000000000000,by decide,by decide +kernel,rfl⟩
 obtain ⟨ys,q,lc,al⟩:=lc_rel (vs:=[3]) (f:=gN 3) (t:=mYes) (me:=mCall 2 [true,false] f__law_draw (mCons (mVar 0) (mCons (mVar 2) mNil))) (fun q:Pl=>[some (.own (some 0) (poolD q)),some (.val (.int (n:Nat))),some (.val (.int M)),none]) (fun _ y=>∃ x:Int,y=.int x∧0≤x∧x≤M) (rangeD 0 n) [] q0 (fun d hd q=>by
  obtain ⟨a,q1,a0,a1,e⟩:=drawE q M hM hl
  exact ⟨[some (.own (some 0) (poolD q)),some (.val (.int (n:Nat))),some (.val (.int M)),some (.val d)],[some (.own (some 0) (poolD q)),some (.val (.int (n:Nat))),some (.val (.int M)),some (.val d)],.val (.int a),[some (.own (some 0) (poolD q1)),some (.val (.int (n:Nat))),some (.val (.int M)),some (.val d)],.int a,[some (.own (some 0) (poolD q1)),some (.val (.int (n:Nat))),some (.val (.int M)),some (.val d)],q1,by simp,by simp,by simp [e],by simp,by simp,a,rfl,a0,by omega⟩) (by have:=szK; rw [rg_len]; simp; omega)
 obtain ⟨L,rfl,l,hb⟩:=ints_al al
 rw [rg_len] at l
 rw [List.nil_append] at lc
 refine ⟨L,q,l,fun x hx=>(hb x hx).1,?_⟩
 have r1:-4611686018427387904≤((n:Nat):Int):=by omega
 have r2:((n:Nat):Int)<4611686018427387904:=by omega
 have rn:(((n:Nat):Int)).toNat=n:=by omega
 have p20:=pow20
 generalize L.map D.int=Xs at *
 generalize hG:rangeD 0 n=G at *
 generalize ((n:Nat):Int)=ni at *
 simp -implicitDefEqProofs [-x_ixL,f__law_limits,x_mkFn,b__law_limits,List.replicate,e0,r1,r2,rn,hG,lc,p20,hat]
theorem rng_nat (n:Nat):rangeD 0 n=(List.range n).map fun i:Nat=>D.int (i:Nat):=by
 unfold rangeD
 refine List.map_congr_left fun i _=>?_
 simp
theorem ix_int (xs:List Int){i:Nat}(h:i<xs.length):ixD (.tup (xs.map .int)) (.int (i:Nat))=some (.val (.int (xs.getD i 0)))∧ixD (.lst (xs.map .int)) (.int (i:Nat))=some (.val (.int (xs.getD i 0))):=by
 have e:L2.atI (xs.map D.int) (i:Nat)=some (.int (xs.getD i 0)):=by
  rw [atI_of (by omega) (by simp; omega)]
  simp [List.getD_eq_getElem?_getD,h]
 constructor
 ·show (L2.atI (xs.map D.int) (i:Nat)).map Res.val=_
  rw [e]; rfl
 ·show (L2.atI (xs.map D.int) (i:Nat)).map Res.val=_
  rw [e]; rfl
theorem dot_rng:∀ (n:Nat) (xs ys:List Int),xs.length=n→ys.length=n→((List.range n).map fun i=>xs.getD i 0 * ys.getD i 0).sum=dot xs ys
 | 0,[],[],_,_=>by simp [dot]
 | _,_::_,[],h1,h2=>by simp at h2; subst h2; simp at h1
 | _,[],_::_,h1,h2=>by simp at h1; subst h1; simp at h2
 | n+1,x::xs,y::ys,h1,h2=>by
  have ih:=dot_rng n xs ys (by simpa using h1) (by simpa using h2)
  rw [List.range_succ_eq_map,List.map_cons,List.sum_cons,List.map_map]
  unfold dot at ih ⊢
  rw [List.zipWith_cons_cons,List.sum_cons,← ih]
  simp [Function.comp_def]
theorem lw_step {n:Nat}{b:Int}{t:Tm}(g:Gd n b t)(n4:n≤4)(hb:b≤1000){L:List Int}(hL:L.length=n)(x0:Option PyD.Slot)(m:Int) :
  b__law_worth_L1 [x0,some (.val (.lst (L.map .int))),some (.val (.int m)),some (.val (iT t.1)),some (.val (.int t.2)),none]=.nx [x0,some (.val (.lst (L.map .int))),some (.val (.int (if m<wth L t then wth L t else m))),some (.val (iT t.1)),some (.val (.int t.2)),none]:=by
 have lc:=lc_fm (vs:=[5]) (f:=gN 5) (t:=mYes) (me:=mBin mulD (mBin ixD (mVar 3) (mVar 5)) (mBin ixD (mVar 1) (mVar 5))) (ρ:=[x0,some (.val (.lst (L.map .int))),some (.val (.int m)),some (.val (iT t.1)),some (.val (.int t.2)),none]) (fun i:Nat=>D.int (i:Nat)) (fun i=>D.int (t.1.getD i 0 * L.getD i 0)) (fun _=>true) (List.range n) [] (fun i hi=>by
  have hi:=List.mem_range.mp hi
  have e1:ixD (iT t.1) (.int (i:Nat))=some (.val (.int (t.1.getD i 0))):=(ix_int t.1 (by rw [g.len]; exact hi)).1
  have e2:=(ix_int L (i:=i) (by omega)).2
  have bd:=g.bd (t.1.getD i 0) (by
   have hl:i<t.1.length:=by rw [g.len]; exact hi
   rw [List.getD_eq_getElem?_getD,List.getElem?_eq_getElem hl]
   exact List.getElem_mem hl)
  have mc:mulC (t.1.getD i 0) (L.getD i 0)=true:=mulC_l (by omega) (by omega)
  refine ⟨[x0,some (.val (.lst (L.map .int))),some (.val (.int m)),some (.val (iT t.1)),some (.val (.int t.2)),some (.val (.int (i:Nat)))],by simp,by simp,by simp,fun _=>⟨.val (.int (t.1.getD i 0 * L.getD i 0)),?_,rfl⟩⟩
  generalize t.1.getD i 0=a at *
  generalize L.getD i 0=c at *
  generalize iT t.1=X at *
  generalize D.lst (L.map .int)=Y at *
  generalize ((i:Nat):Int)=ii at *
  simp -implicitDefEqProofs [e1,e2,mc]) (by have:=szK; rw [List.length_range,List.length_nil]; omega)
 rw [List.nil_append,List.filter_eq_self.mpr (fun _ _=>rfl),← rng_nat] at lc
 have sm:=sum_il ((List.range n).map fun i=>t.1.getD i 0 * L.getD i 0)
 rw [List.map_map,dot_rng n t.1 L g.len hL] at sm
 have e:(List.range n).map (D.int∘fun i=>t.1.getD i 0 * L.getD i 0)=(List.range n).map (fun i=>D.int (t.1.getD i 0 * L.getD i 0)):=rfl
 rw [e] at sm
 have ln:=(nm_l L).ln
 rw [hL] at ln
 have sl:PyD.strip (.lst (L.map .int))=.lst (L.map .int):=rfl
 have r1:-4611686018427387904≤((n:Nat):Int):=by omega
 have r2:((n:Nat):Int)<4611686018427387904:=by omega
 have rn:(((n:Nat):Int)).toNat=n:=by omega
 unfold wth
 generalize (List.range n).map (fun i=>D.int (t.1.getD i 0 * L.getD i 0))=Bs at *
 generalize dot t.1 L=dd at *
 generalize t.2=o at *
 generalize iT t.1=X at *
 generalize D.lst (L.map .int)=Y at *
 generalize hG:rangeD 0 n=G at *
 generalize ((n:Nat):Int)=ni at *
 simp -implicitDefEqProofs [-x_orC,b__law_worth_L1,ln,r1,r2,rn,hG,lc,sm,sl]
theorem lw_for {n:Nat}{b:Int}(n4:n≤4)(hb:b≤1000){L:List Int}(hL:L.length=n)(x0:Option PyD.Slot):∀ (ts:List Tm) (m:Int) (x3 x4:Option PyD.Slot),(∀ t∈ts,Gd n b t)→∃ y3 y4,forD (gT 2 (gsCons (gN 3) (gsCons (gN 4) gsNil))) b__law_worth_L1 (ts.map tD) [x0,some (.val (.lst (L.map .int))),some (.val (.int m)),x3,x4,none]=.nx [x0,some (.val (.lst (L.map .int))),some (.val (.int (ts.foldl (fun m t=>if m<wth L t then wth L t else m) m))),y3,y4,none]
 | [],m,x3,x4,_=>⟨x3,x4,rfl⟩
 | t::ts,m,x3,x4,g=>by
  have st:=lw_step (g t (List.mem_cons_self ..)) n4 hb hL x0 m
  obtain ⟨y3,y4,ih⟩:=lw_for n4 hb hL x0 ts (if m<wth L t then wth L t else m) (some (.val (iT t.1))) (some (.val (.int t.2))) fun u hu=>g u (List.mem_cons_of_mem _ hu)
  exact ⟨y3,y4,for_step rfl st ih⟩
theorem lworth_ok {n:Nat}{b:Int}(n4:n≤4)(hb:b≤1000){L:List Int}(hL:L.length=n){ts:List Tm}(g:∀ t∈ts,Gd n b t):f__law_worth [.v (cL ts),.v (.lst (L.map .int))]=.ret (.val (.int (lwt L ts))) []:=by
 obtain ⟨y3,y4,fo⟩:=lw_for n4 hb hL (some (.val (cL ts))) ts 0 none none g
 have fo:forD (gT 2 (gsCons (gN 3) (gsCons (gN 4) gsNil))) b__law_worth_L1 (ts.map tD) [some (.val (cL ts)),some (.val (.lst (L.map .int))),some (.val (.int 0)),none,none,none]=.nx [some (.val (cL ts)),some (.val (.lst (L.map .int))),some (.val (.int (lwt L ts))),y3,y4,none]:=fo
 have it:itemsD (cL ts)=some (ts.map tD):=rfl
 generalize lwt L ts=R at *
 generalize ts.map tD=Ts at *
 generalize cL ts=C at *
 generalize D.lst (L.map .int)=Y at *
 simp -implicitDefEqProofs [f__law_worth,x_mkFn,b__law_worth,List.replicate,it,fo]
theorem eq_nil (xs:List D)(h:okds 59 xs=true):(orF eqD (eqOD false (eqO T EQ_Form))) (.lst xs) (.lst [])=some (.val (.bl xs.isEmpty)):=by
 have:eqD (.lst xs) (.lst [])=some (.val (.bl xs.isEmpty)):=eqD_of (by simpa using h) (by simp) (by cases xs <;> simp [smk,smks]) (by cases xs <;> simp)
 unfold orF; rw [this]
theorem ne_nil (xs:List D)(h:okds 59 xs=true):(orF neD (eqOD true (eqO T EQ_Form))) (.lst xs) (.lst [])=some (.val (.bl (!xs.isEmpty))):=by
 have:neD (.lst xs) (.lst [])=some (.val (.bl (!xs.isEmpty))):=neD_of (by simpa using h) (by simp) (by cases xs <;> simp [smk,smks]) (by cases xs <;> simp)
 unfold orF; rw [this]
theorem okds_td (ts:List Tm):okds 59 (ts.map tD)=true:=by
 rw [okds_iff]
 intro d hd
 obtain ⟨t,_,rfl⟩:=List.mem_map.mp hd
 exact okd_td 57 t
theorem rep01 (t:Tm)(c:Bool):mulD (.lst [tD t]) (.int (if c=true then 1 else 0))=some (.new (cL (if c=true then [t] else []))):=by
 cases c
 ·rw [if_neg (by decide),if_neg (by decide),x_repL]; rfl
 ·rw [if_pos rfl,if_pos rfl,x_repL]
  have e:List.replicate (1:Int).toNat [tD t]=[[tD t]]:=rfl
  rw [e]
  have:=szK
  simp [cL]
theorem add_cl (A B:List Tm)(h:A.length+B.length≤200):addD (cL A) (cL B)=some (.new (cL (A++B))):=by
 unfold cL
 have:=szK
 simp
 omega
theorem du_one {os:List Tm}(hl:os.length≤100)(t:Tm)(x0 x1 x4 x5 x6 x7:Option PyD.Slot):b__law_due_L1 [x0,x1,some (.own none (cL os)),some (.val (tD t)),x4,x5,x6,x7]=.nx [x0,x1,some (.own none (cL (if t∈os then os else os++[t]))),some (.val (tD t)),x4,x5,x6,x7]:=by
 have ti:=td_in true t os
 have st:=td_strip t
 have so:=cl_strip os
 have r:=rep01 t (!decide (t∈os))
 have ad:=add_cl os (if (!decide (t∈os))=true then [t] else []) (by split <;> simp <;> omega)
 have e:os++(if (!decide (t∈os))=true then [t] else [])=(if t∈os then os else os++[t]):=by by_cases c:t∈os <;> simp [c]
 rw [e] at ad
 have tb:(true != decide (t∈os))=!decide (t∈os):=by cases decide (t∈os) <;> rfl
 rw [tb] at ti
 generalize cL (if t∈os then os else os++[t])=R at *
 generalize hM:cL (if (!decide (t∈os))=true then [t] else [])=M1 at *
 have sm:PyD.strip M1=M1:=by rw [← hM]; rfl
 generalize (!decide (t∈os))=c at *
 generalize cL os=O at *
 generalize tD t=Td at *
 simp -implicitDefEqProofs [-x_inD,-x_repL,b__law_due_L1,ti,st,so,r,ad,sm]
theorem du_for1 (x0 x1 x4 x5 x6 x7:Option PyD.Slot):∀ (ts os:List Tm) (x3:Option PyD.Slot),os.length+ts.length≤100→∃ y3,forD (gN 3) b__law_due_L1 (ts.map tD) [x0,x1,some (.own none (cL os)),x3,x4,x5,x6,x7]=.nx [x0,x1,some (.own none (cL (ts.foldl (fun os t=>if t∈os then os else os++[t]) os))),y3,x4,x5,x6,x7]
 | [],os,x3,_=>⟨x3,rfl⟩
 | t::ts,os,x3,hl=>by
  simp only [List.length_cons] at hl
  have st:=du_one (os:=os) (by omega) t x0 x1 x4 x5 x6 x7
  obtain ⟨y3,ih⟩:=du_for1 x0 x1 x4 x5 x6 x7 ts (if t∈os then os else os++[t]) (some (.val (tD t))) (by split <;> (try rw [List.length_append,List.length_singleton]) <;> omega)
  exact ⟨y3,for_step rfl st ih⟩
theorem le2_rng:∀ (n:Nat) (xs ys:List Int),xs.length=n→ys.length=n→((List.range n).filter fun i=>decide (ys.getD i 0<xs.getD i 0)).isEmpty=le2 xs ys
 | 0,[],[],_,_=>by simp [le2]
 | _,_::_,[],h1,h2=>by simp at h2; subst h2; simp at h1
 | _,[],_::_,h1,h2=>by simp at h1; subst h1; simp at h2
 | n+1,x::xs,y::ys,h1,h2=>by
  have ih:=le2_rng n xs ys (by simpa using h1) (by simpa using h2)
  rw [List.range_succ_eq_map,List.filter_cons,List.filter_map]
  unfold le2 at ih ⊢
  rw [List.zip_cons_cons,List.all_cons,← ih]
  by_cases c:y<x
  ·have c':¬ x≤y:=by omega
   simp [c,c']
  ·have c':x≤y:=by omega
   simp [c,c',Function.comp_def]
theorem du_two {n:Nat}{b:Int}(n4:n≤4){os ks:List Tm}(go:∀ t∈os,Gd n b t)(hl:os.length≤100)(hk:ks.length≤99){t:Tm}(gt:Gd n b t)(x1 x5:Option PyD.Slot) :
  b__law_due_L2 [some (.val (.int (n:Nat))),x1,some (.val (cL os)),some (.val (tD t)),some (.own none (cL ks)),x5,none,none]=.nx [some (.val (.int (n:Nat))),x1,some (.val (cL os)),some (.val (tD t)),some (.own none (cL (ks++(if dueP os t=true then [t] else [])))),some (.own none (cL (((os.filter fun u=>!decide (u=t)&&decide (u.2≤t.2))).filter fun u=>le2 t.1 u.1))),none,none]:=by
 have lc1:=fun x5=>lc_fm (vs:=[6]) (f:=gN 6) (t:=mAndB (mBinB (orF neD (eqOD true (eqO T EQ_Form))) (mVar 6) (mVar 3)) (mBinB (orF leD (eqOD false (cmpO T LE_Form))) (mBin ixD (mVar 6) (mC (.int 1))) (mBin ixD (mVar 3) (mC (.int 1))))) (me:=mVar 6) (ρ:=[some (.val (.int (n:Nat))),x1,some (.val (cL os)),some (.val (tD t)),some (.own none (cL ks)),x5,none,none]) tD tD (fun u=>!decide (u=t)&&decide (u.2≤t.2)) os [] (fun u hu=>by
  have ne:=td_ne u t
  have a1:=td_1 t
  have b1:=td_1 u
  have su:=td_strip u
  refine ⟨[some (.val (.int (n:Nat))),x1,some (.val (cL os)),some (.val (tD t)),some (.own none (cL ks)),x5,some (.val (tD u)),none],by simp,?_,by simp,fun _=>⟨.val (tD u),by simp,by simp [Res.frz,su]⟩⟩
  have le:(orF leD (eqOD false (cmpO T LE_Form))) (.int u.2) (.int t.2)=some (.val (.bl (decide (u.2≤t.2)))):=by simp
  generalize decide (u=t)=c at *
  generalize decide (u.2≤t.2)=c2 at *
  generalize tD t=Td at *
  generalize tD u=Ud at *
  generalize cL os=O at *
  generalize cL ks=K at *
  generalize D.int u.2=u2 at *
  generalize D.int t.2=t2 at *
  generalize ((n:Nat):Int)=ni at *
  cases c <;> simp -implicitDefEqProofs [-x_orF,ne,a1,b1,le]) (by have:=szK; rw [List.length_nil]; omega)
 simp only [List.nil_append] at lc1
 obtain ⟨vs,hv⟩:∃ vs,(os.filter fun u=>!decide (u=t)&&decide (u.2≤t.2))=vs:=⟨_,rfl⟩
 have gv:∀ u∈vs,Gd n b u:=fun u hu=>by rw [← hv] at hu; exact go u (List.mem_filter.mp hu).1
 have vl:vs.length≤100:=by rw [← hv]; exact Nat.le_trans (List.length_filter_le _ _) hl
 have lc3:=fun (u:Tm) (hu:u∈vs) (x5:Option PyD.Slot)=>lc_fm (vs:=[7]) (f:=gN 7) (t:=mBinB ltD (mBin ixD (mBin ixD (mVar 6) (mC (.int 0))) (mVar 7)) (mBin ixD (mBin ixD (mVar 3) (mC (.int 0))) (mVar 7))) (me:=mVar 7) (ρ:=[some (.val (.int (n:Nat))),x1,some (.val (cL os)),some (.val (tD t)),some (.own none (cL ks)),x5,some (.val (tD u)),none]) (fun i:Nat=>D.int (i:Nat)) (fun i:Nat=>D.int (i:Nat)) (fun i=>decide (u.1.getD i 0<t.1.getD i 0)) (List.range n) [] (fun i hi=>by
  have hi:=List.mem_range.mp hi
  have a0:=td_0 t
  have b0:=td_0 u
  have e1:ixD (iT t.1) (.int (i:Nat))=some (.val (.int (t.1.getD i 0))):=(ix_int t.1 (by rw [gt.len]; exact hi)).1
  have e2:ixD (iT u.1) (.int (i:Nat))=some (.val (.int (u.1.getD i 0))):=(ix_int u.1 (by rw [(gv u hu).len]; exact hi)).1
  refine ⟨[some (.val (.int (n:Nat))),x1,some (.val (cL os)),some (.val (tD t)),some (.own none (cL ks)),x5,some (.val (tD u)),some (.val (.int (i:Nat)))],by simp,?_,by simp,fun _=>⟨.val (.int (i:Nat)),by simp,rfl⟩⟩
  generalize t.1.getD i 0=a at *
  generalize u.1.getD i 0=c at *
  generalize iT t.1=X at *
  generalize iT u.1=X2 at *
  generalize tD t=Td at *
  generalize tD u=Ud at *
  generalize cL os=O at *
  generalize cL ks=K at *
  generalize ((i:Nat):Int)=ii at *
  generalize ((n:Nat):Int)=ni at *
  simp -implicitDefEqProofs [a0,b0,e1,e2]) (by have:=szK; rw [List.length_range,List.length_nil]; omega)
 simp only [List.nil_append,← rng_nat] at lc3
 have r1:-4611686018427387904≤((n:Nat):Int):=by omega
 have r2:((n:Nat):Int)<4611686018427387904:=by omega
 have rn:(((n:Nat):Int)).toNat=n:=by omega
 have lc2:=fun x5=>lc_fm (vs:=[6]) (f:=gN 6) (t:=mBinB (orF eqD (eqOD false (eqO T EQ_Form))) (mLc [7] (iRange (mCons (mVar 0) mNil)) (gN 7) (mBinB ltD (mBin ixD (mBin ixD (mVar 6) (mC (.int 0))) (mVar 7)) (mBin ixD (mBin ixD (mVar 3) (mC (.int 0))) (mVar 7))) (mVar 7)) (mCS lstD mNil)) (me:=mVar 6) (ρ:=[some (.val (.int (n:Nat))),x1,some (.val (cL os)),some (.val (tD t)),some (.own none (cL ks)),x5,none,none]) tD tD (fun u=>le2 t.1 u.1) vs [] (fun u hu=>by
  have l3:=lc3 u hu x5
  have su:=td_strip u
  have en:=eq_nil (((List.range n).filter fun i=>decide (u.1.getD i 0<t.1.getD i 0)).map fun i:Nat=>D.int (i:Nat)) (by
   rw [okds_iff]
   intro d hd
   obtain ⟨i,_,rfl⟩:=List.mem_map.mp hd
   simp)
  rw [List.isEmpty_map,le2_rng n t.1 u.1 gt.len (gv u hu).len] at en
  have sb:∀ xs:List Nat,PyD.strip (.lst (xs.map fun i:Nat=>D.int (i:Nat)))=.lst (xs.map fun i:Nat=>D.int (i:Nat)):=fun xs=>rfl
  have sb:=sb ((List.range n).filter fun i=>decide (u.1.getD i 0<t.1.getD i 0))
  refine ⟨[some (.val (.int (n:Nat))),x1,some (.val (cL os)),some (.val (tD t)),some (.own none (cL ks)),x5,some (.val (tD u)),none],by simp,?_,by simp,fun _=>⟨.val (tD u),by simp,by simp [Res.frz,su]⟩⟩
  generalize (((List.range n).filter fun i=>decide (u.1.getD i 0<t.1.getD i 0)).map fun i:Nat=>D.int (i:Nat))=Fs at *
  generalize le2 t.1 u.1=c at *
  generalize tD t=Td at *
  generalize tD u=Ud at *
  generalize cL os=O at *
  generalize cL ks=K at *
  generalize hG:rangeD 0 n=G at *
  generalize ((n:Nat):Int)=ni at *
  simp -implicitDefEqProofs [-x_orF,r1,r2,rn,hG,l3,en,sb]) (by have:=szK; rw [List.length_nil]; omega)
 simp only [List.nil_append] at lc2
 rw [hv] at lc1 ⊢
 have dp:(vs.filter fun u=>le2 t.1 u.1).isEmpty=dueP os t:=by
  unfold dueP
  rw [← hv,List.filter_filter,Bool.eq_iff_iff,List.isEmpty_iff,List.filter_eq_nil_iff,Bool.not_eq_true',List.any_eq_false]
  constructor
  ·intro h u hu q
   obtain ⟨h1,h2⟩:=List.mem_filter.mp hu
   unfold ndl at q
   exact h u h1 (by simp only [Bool.and_eq_true] at q ⊢; exact ⟨q.2,h2,q.1⟩)
  ·intro h u hu q
   simp only [Bool.and_eq_true] at q
   exact h u (List.mem_filter.mpr ⟨hu,q.2.1⟩) (by unfold ndl; simp only [Bool.and_eq_true]; exact ⟨q.2.2,q.1⟩)
 have en:=eq_nil ((vs.filter fun u=>le2 t.1 u.1).map tD) (okds_td _)
 rw [List.isEmpty_map,dp] at en
 have r:=rep01 t (dueP os t)
 have ad:=add_cl ks (if dueP os t=true then [t] else []) (by split <;> simp <;> omega)
 have ito:itemsD (cL os)=some (os.map tD):=rfl
 have itv:itemsD (cL vs)=some (vs.map tD):=rfl
 have ev:D.lst (vs.map tD)=cL vs:=rfl
 have ef:D.lst ((vs.filter fun u=>le2 t.1 u.1).map tD)=cL (vs.filter fun u=>le2 t.1 u.1):=rfl
 rw [ef] at en
 have sv:=cl_strip vs
 have sf:=cl_strip (vs.filter fun u=>le2 t.1 u.1)
 have so:=cl_strip os
 have st:=td_strip t
 have sk:=cl_strip ks
 generalize cL (ks++(if dueP os t=true then [t] else []))=R at *
 generalize hM:cL (if dueP os t=true then [t] else [])=M1 at *
 have sm:PyD.strip M1=M1:=by rw [← hM]; rfl
 generalize dueP os t=c at *
 generalize (vs.filter fun u=>le2 t.1 u.1).map tD=Fs at *
 generalize cL (vs.filter fun u=>le2 t.1 u.1)=F at *
 generalize vs.map tD=Vs at *
 generalize cL vs=V at *
 generalize os.map tD=Os at *
 generalize cL os=O at *
 generalize cL ks=K at *
 generalize tD t=Td at *
 generalize ((n:Nat):Int)=ni at *
 simp -implicitDefEqProofs [-x_orF,-x_repL,b__law_due_L2,ito,itv,ev,ef,lc1,lc2,en,sv,sf,so,st,sk,r,ad,sm]
theorem du_for2 {n:Nat}{b:Int}(n4:n≤4){os:List Tm}(go:∀ t∈os,Gd n b t)(hl:os.length≤50)(x1:Option PyD.Slot):∀ (ts ks:List Tm) (x3 x5:Option PyD.Slot),(∀ t∈ts,Gd n b t)→ks.length+ts.length≤99→∃ y3 y5,forD (gN 3) b__law_due_L2 (ts.map tD) [some (.val (.int (n:Nat))),x1,some (.val (cL os)),x3,some (.own none (cL ks)),x5,none,none]=.nx [some (.val (.int (n:Nat))),x1,some (.val (cL os)),y3,some (.own none (cL (ks++ts.filter (dueP os)))),y5,none,none]
 | [],ks,x3,x5,_,_=>⟨x3,x5,by
  have e:ks++([]:List Tm).filter (dueP os)=ks:=by simp
  rw [e]; rfl⟩
 | t::ts,ks,x3,x5,g,hk=>by
  simp only [List.length_cons] at hk
  have st:=du_two n4 go (by omega) (ks:=ks) (by omega) (g t (List.mem_cons_self ..)) x1 x5
  obtain ⟨y3,y5,ih⟩:=du_for2 n4 go hl x1 ts (ks++(if dueP os t=true then [t] else [])) (some (.val (tD t))) (some (.own none (cL (((os.filter fun u=>!decide (u=t)&&decide (u.2≤t.2))).filter fun u=>le2 t.1 u.1)))) (fun u hu=>g u (List.mem_cons_of_mem _ hu)) (by split <;> simp <;> omega)
  refine ⟨y3,y5,for_step rfl st ?_⟩
  rw [ih]
  have e:ks++(if dueP os t=true then [t] else [])++ts.filter (dueP os)=ks++(t::ts).filter (dueP os):=by
   rw [List.filter_cons,List.append_assoc]
   by_cases c:dueP os t=true
   ·rw [if_pos c,if_pos c]; rfl
   ·rw [if_neg c,if_neg c]; rfl
  rw [e]
def dueL (n:Nat)(ts:List Tm):List Tm:=(onceL (zT n::ts)).filter (dueP (onceL (zT n::ts)))
theorem due_ok {n:Nat}{b:Int}(h1:1≤n)(n4:n≤4)(b0:0≤b){ts:List Tm}(g:∀ t∈ts,Gd n b t)(hl:ts.length≤40):f__law_due [.v (.int (n:Nat)),.v (cL ts)]=.ret (.new (cL (dueL n ts))) []:=by
 obtain ⟨y3,f1⟩:=du_for1 (some (.val (.int (n:Nat)))) (some (.val (cL ts))) none none none none (zT n::ts) [] none (by simp; omega)
 have f1:forD (gN 3) b__law_due_L1 (tD (zT n)::ts.map tD) [some (.val (.int (n:Nat))),some (.val (cL ts)),some (.own none (.lst [])),none,none,none,none,none]=.nx [some (.val (.int (n:Nat))),some (.val (cL ts)),some (.own none (cL (onceL (zT n::ts)))),y3,none,none,none,none]:=f1
 have go:∀ t∈onceL (zT n::ts),Gd n b t:=fun t ht=>by
  have:=(once_perm (zT n::ts)).mem_iff.mp ht
  rcases List.mem_cons.mp ((onceT_mem _ t).mp this) with rfl | h
  ·exact gd_z n b0
  ·exact g t h
 have ol:(onceL (zT n::ts)).length≤41:=by
  rw [(once_perm _).length_eq]
  refine Nat.le_trans (onceT_len _) ?_
  simp; omega
 obtain ⟨z3,z5,f2⟩:=du_for2 n4 go (by omega) (some (.val (cL ts))) (onceL (zT n::ts)) [] y3 none go (by simp; omega)
 rw [List.nil_append] at f2
 have f2:forD (gN 3) b__law_due_L2 ((onceL (zT n::ts)).map tD) [some (.val (.int (n:Nat))),some (.val (cL ts)),some (.val (cL (onceL (zT n::ts)))),y3,some (.own none (.lst [])),none,none,none]=.nx [some (.val (.int (n:Nat))),some (.val (cL ts)),some (.val (cL (onceL (zT n::ts)))),z3,some (.own none (cL (dueL n ts))),z5,none,none]:=f2
 have z:=zero_t h1 n4
 have ez:D.tup [iT (zT n).1,.int 0]=tD (zT n):=rfl
 have sz:=td_strip (zT n)
 have sz1:=it_strip (zT n).1
 have st:=cl_strip ts
 have ad:addD (.lst [tD (zT n)]) (cL ts)=some (.new (.lst (tD (zT n)::ts.map tD))):=by
  have:=add_cl [zT n] ts (by simp; omega)
  exact this
 have ito:itemsD (cL (onceL (zT n::ts)))=some ((onceL (zT n::ts)).map tD):=rfl
 have so:=cl_strip (onceL (zT n::ts))
 generalize cL (dueL n ts)=R at *
 generalize (onceL (zT n::ts)).map tD=Os at *
 generalize cL (onceL (zT n::ts))=O at *
 generalize tD (zT n)=Z at *
 generalize iT (zT n).1=Z1 at *
 generalize ts.map tD=Ts at *
 generalize cL ts=C at *
 generalize ((n:Nat):Int)=ni at *
 simp -implicitDefEqProofs [f__law_due,x_mkFn,b__law_due,List.replicate,z,ez,sz,sz1,st,ad,f1,ito,so,f2]
def iL (xs:List Int):D:=.lst (xs.map .int)
theorem rangeD_succ (i:Int)(k:Nat):rangeD i (k+1)=.int i::rangeD (i+1) k:=by
 unfold rangeD
 rw [List.range_succ_eq_map]
 simp only [List.map_cons,List.map_map,List.cons.injEq]
 refine ⟨by simp,List.map_congr_left fun j _=>?_⟩
 simp only [Function.comp,D.int.injEq]
 omega
theorem le_go (xs ys:List Int)(hl:xs.length=ys.length):∀ (k i:Nat) (x2:Option PyD.Slot),i+k=xs.length →
  (lexI (xs.drop i) (ys.drop i)=false∧∃ y2,forD (gN 2) b__law_is_less_L1 (rangeD (i:Nat) k) [some (.val (iL xs)),some (.val (iL ys)),x2]=.nx [some (.val (iL xs)),some (.val (iL ys)),y2]∧xs.drop i=ys.drop i) ∨
  ∃ y2,forD (gN 2) b__law_is_less_L1 (rangeD (i:Nat) k) [some (.val (iL xs)),some (.val (iL ys)),x2]=.ret (.val (.bl (lexI (xs.drop i) (ys.drop i)))) [some (.val (iL xs)),some (.val (iL ys)),y2]
 | 0,i,x2,h=>by
  left
  have e1:xs.drop i=[]:=List.drop_eq_nil_of_le (by omega)
  have e2:ys.drop i=[]:=List.drop_eq_nil_of_le (by omega)
  rw [e1,e2]
  exact ⟨rfl,x2,rfl,rfl⟩
 | k+1,i,x2,h=>by
  have h1:i<xs.length:=by omega
  have h2:i<ys.length:=by omega
  have e1:=(ix_int xs h1).2
  have e2:=(ix_int ys h2).2
  have d1:xs.drop i=xs.getD i 0::xs.drop (i+1):=by
   rw [List.drop_eq_getElem_cons h1]; simp [List.getD_eq_getElem?_getD,h1]
  have d2:ys.drop i=ys.getD i 0::ys.drop (i+1):=by
   rw [List.drop_eq_getElem_cons h2]; simp [List.getD_eq_getElem?_getD,h2]
  have ne:=ne_int (xs.getD i 0) (ys.getD i 0)
  have e1:ixD (iL xs) (.int (i:Nat))=some (.val (.int (xs.getD i 0))):=e1
  have e2:ixD (iL ys) (.int (i:Nat))=some (.val (.int (ys.getD i 0))):=e2
  have ci:(((i:Nat):Int)+1)=((i+1:Nat):Int):=by omega
  by_cases c:xs.getD i 0=ys.getD i 0
  ·have st:b__law_is_less_L1 [some (.val (iL xs)),some (.val (iL ys)),some (.val (.int (i:Nat)))]=.nx [some (.val (iL xs)),some (.val (iL ys)),some (.val (.int (i:Nat)))]:=by
    rw [decide_eq_true c] at ne
    generalize xs.getD i 0=a at *
    generalize ys.getD i 0=b at *
    generalize iL xs=X at *
    generalize iL ys=Y at *
    generalize ((i:Nat):Int)=ii at *
    simp -implicitDefEqProofs [-x_orF,b__law_is_less_L1,e1,e2,ne]
   have ex:lexI (xs.drop i) (ys.drop i)=lexI (xs.drop (i+1)) (ys.drop (i+1)):=by
    rw [d1,d2]; simp only [lexI,c,if_true]
   rcases le_go xs ys hl k (i+1) (some (.val (.int (i:Nat)))) (by omega) with ⟨l,y2,f,q⟩ | ⟨y2,f⟩
   ·left
    rw [ex]
    refine ⟨l,y2,?_,by rw [d1,d2,c,q]⟩
    rw [rangeD_succ,ci]
    exact for_step rfl st f
   ·right
    rw [ex]
    refine ⟨y2,?_⟩
    rw [rangeD_succ,ci]
    exact for_step rfl st f
  ·right
   have st:b__law_is_less_L1 [some (.val (iL xs)),some (.val (iL ys)),some (.val (.int (i:Nat)))]=.ret (.val (.bl (decide (xs.getD i 0<ys.getD i 0)))) [some (.val (iL xs)),some (.val (iL ys)),some (.val (.int (i:Nat)))]:=by
    rw [decide_eq_false c] at ne
    generalize xs.getD i 0=a at *
    generalize ys.getD i 0=b at *
    generalize iL xs=X at *
    generalize iL ys=Y at *
    generalize ((i:Nat):Int)=ii at *
    simp -implicitDefEqProofs [-x_orF,b__law_is_less_L1,e1,e2,ne]
   have ex:lexI (xs.drop i) (ys.drop i)=decide (xs.getD i 0<ys.getD i 0):=by
    rw [d1,d2]; simp only [lexI,c,if_false]
   rw [ex]
   refine ⟨some (.val (.int (i:Nat))),?_⟩
   rw [rangeD_succ,x_forC,show gN 2 (.int ((i:Nat):Int)) [some (.val (iL xs)),some (.val (iL ys)),x2]=some [some (.val (iL xs)),some (.val (iL ys)),some (.val (.int (i:Nat)))] from rfl]
   simp only [x_optS,st,x_loopSr]
theorem less_ok (xs ys:List Int)(hl:xs.length=ys.length)(h10:xs.length≤10):f__law_is_less [.v (iL xs),.v (iL ys)]=.ret (.val (.bl (lexI xs ys))) []:=by
 have ln:(orC lenD (lenOD LN_Form)) [iL xs]=some (.val (.int (xs.length:Nat))):=(nm_l xs).ln
 have g:=le_go xs ys hl xs.length 0 none (by omega)
 simp only [List.drop_zero] at g
 have r1:-4611686018427387904≤((xs.length:Nat):Int):=by omega
 have r2:((xs.length:Nat):Int)<4611686018427387904:=by omega
 have rn:(((xs.length:Nat):Int)).toNat=xs.length:=by omega
 have z0:(((0:Nat)):Int)=0:=rfl
 rw [z0] at g
 rcases g with ⟨l,y2,f,_⟩ | ⟨y2,f⟩
 ·rw [l]
  generalize hG:rangeD 0 xs.length=G at *
  generalize ((xs.length:Nat):Int)=n at *
  generalize iL xs=X at *
  generalize iL ys=Y at *
  simp -implicitDefEqProofs [-x_orC,f__law_is_less,x_mkFn,b__law_is_less,List.replicate,ln,r1,r2,rn,hG,f]
 ·generalize lexI xs ys=c at *
  generalize hG:rangeD 0 xs.length=G at *
  generalize ((xs.length:Nat):Int)=n at *
  generalize iL xs=X at *
  generalize iL ys=Y at *
  simp -implicitDefEqProofs [-x_orC,f__law_is_less,x_mkFn,b__law_is_less,List.replicate,ln,r1,r2,rn,hG,f]
theorem right_ok {n:Nat}{b:Int}(h1:1≤n)(n4:n≤4)(b0:0≤b){ts:List Tm}(g:∀ t∈ts,Gd n b t)(hl:ts.length≤40):f__law_terms_right [.v (.int (n:Nat)),.v (cL ts),.v (.tup ((ordr (zT n::ts)).map tD))]=.ret (.val (.bl true)) []:=by
 have du:=due_ok h1 n4 b0 g hl
 have dp:(dueL n ts).Perm (ordr (zT n::ts)):=due_perm (zT n::ts)
 have pw:=ordr_pw (zT n::ts)
 have gs:∀ t∈ordr (zT n::ts),Gd n b t:=fun t ht=>by
  rcases List.mem_cons.mp (ordr_mem ht) with rfl | h
  ·exact gd_z n b0
  ·exact g t h
 obtain ⟨u0,hu0,_⟩:=domin (ts:=zT n::ts) (b:=b) (fun t ht=>by
  rcases List.mem_cons.mp ht with rfl | h
  ·exact gd_z n b0
  ·exact g t h) (List.mem_cons_self ..)
 have ol:=ordr_len (zT n::ts)
 rw [List.length_cons] at ol
 have dl:=dp.length_eq
 have dm:∀ t∈ordr (zT n::ts),t∈dueL n ts:=fun t ht=>dp.mem_iff.mpr ht
 obtain ⟨os,ho⟩:∃ os,ordr (zT n::ts)=os:=⟨_,rfl⟩
 rw [ho] at pw gs hu0 ol dl dm ⊢
 have ne0:0<os.length:=List.length_pos_of_mem hu0
 obtain ⟨k,hk⟩:∃ k,os.length=k+1:=⟨os.length-1,by omega⟩
 have ito:itemsD (.tup (os.map tD))=some (os.map tD):=rfl
 have lc1:=fun x3 x4=>lc_fm (vs:=[5]) (f:=gN 5) (t:=mYes) (me:=mBin addD (mCB listD (mCons (mBin ixD (mVar 5) (mC (.int 0))) mNil)) (mCS lstD (mCons (mBin ixD (mVar 5) (mC (.int 1))) mNil))) (ρ:=[some (.val (.int (n:Nat))),some (.val (cL ts)),some (.val (.tup (os.map tD))),x3,x4,none,none]) tD (fun t=>iL (rkI t)) (fun _=>true) os [] (fun t ht=>by
  have a0:=td_0 t
  have a1:=td_1 t
  have li:listD [iT t.1]=some (.new (iL t.1)):=by
   have:=(gs t ht).len
   unfold iT iL
   simp
   try omega
  have s1:PyD.strip (iL t.1)=iL t.1:=rfl
  have s2:PyD.strip (iL (rkI t))=iL (rkI t):=rfl
  have ad:addD (iL t.1) (.lst [.int t.2])=some (.new (iL (rkI t))):=by
   have:=(gs t ht).len
   unfold iL rkI
   simp
   omega
  refine ⟨[some (.val (.int (n:Nat))),some (.val (cL ts)),some (.val (.tup (os.map tD))),x3,x4,some (.val (tD t)),none],by simp,by simp,by simp,fun _=>⟨.new (iL (rkI t)),?_,by simp [Res.frz,s2]⟩⟩
  generalize iL (rkI t)=R at *
  generalize iL t.1=L1 at *
  generalize iT t.1=I1 at *
  generalize tD t=Td at *
  generalize cL ts=C at *
  generalize D.tup (os.map tD)=Tp at *
  generalize ((n:Nat):Int)=ni at *
  simp -implicitDefEqProofs [a0,a1,li,s1,ad]) (by have:=szK; rw [List.length_nil]; omega)
 simp only [List.nil_append,List.filter_eq_self.mpr (fun _ _=>rfl:∀ x∈os,(fun _=>true) x=true)] at lc1
 have lc2:=fun x4=>lc_fm (vs:=[5]) (f:=gN 5) (t:=mBinB (inD true) (mVar 5) (mVar 3)) (me:=mVar 5) (ρ:=[some (.val (.int (n:Nat))),some (.val (cL ts)),some (.val (.tup (os.map tD))),some (.own none (cL (dueL n ts))),x4,none,none]) tD tD (fun _=>false) os [] (fun t ht=>by
  have ti:=td_in true t (dueL n ts)
  rw [decide_eq_true (dm t ht)] at ti
  have ti:inD true (tD t) (cL (dueL n ts))=some (.val (.bl false)):=ti
  refine ⟨[some (.val (.int (n:Nat))),some (.val (cL ts)),some (.val (.tup (os.map tD))),some (.own none (cL (dueL n ts))),x4,some (.val (tD t)),none],by simp,?_,by simp,fun h=>by cases h⟩
  generalize tD t=Td at *
  generalize cL (dueL n ts)=Du at *
  generalize cL ts=C at *
  generalize D.tup (os.map tD)=Tp at *
  generalize ((n:Nat):Int)=ni at *
  simp -implicitDefEqProofs [-x_inD,ti]) (by have:=szK; rw [List.length_nil]; omega)
 have f0:(os.filter fun _=>false)=[]:=List.filter_eq_nil_iff.mpr fun _ _=>by simp
 simp only [List.nil_append,f0,List.map_nil] at lc2
 have rw_at:∀ i:Nat,(h:i<os.length)→ixD (.lst (os.map fun t=>iL (rkI t))) (.int (i:Nat))=some (.val (iL (rkI os[i]))):=fun i h=>by
  have e:L2.atI (os.map fun t=>iL (rkI t)) (i:Nat)=some (iL (rkI os[i])):=by
   rw [atI_of (by omega) (by simp; omega)]
   simp [h]
  show (L2.atI (os.map fun t=>iL (rkI t)) (i:Nat)).map Res.val=_
  rw [e]; rfl
 have lc3:=lc_fm (vs:=[6]) (f:=gN 6) (t:=mNotB (mTru (mCall 2 [false,false] f__law_is_less (mCons (mBin ixD (mVar 4) (mVar 6)) (mCons (mBin ixD (mVar 4) (mBin addD (mVar 6) (mC (.int 1)))) mNil))))) (me:=mVar 6) (ρ:=[some (.val (.int (n:Nat))),some (.val (cL ts)),some (.val (.tup (os.map tD))),some (.own none (cL (dueL n ts))),some (.own none (.lst (os.map fun t=>iL (rkI t)))),none,none]) (fun i:Nat=>D.int (i:Nat)) (fun i:Nat=>D.int (i:Nat)) (fun _=>false) (List.range k) [] (fun i hi=>by
  have hi:=List.mem_range.mp hi
  have e1:=rw_at i (by omega)
  have e2:=rw_at (i+1) (by omega)
  have gi:=gs os[i] (List.getElem_mem _)
  have gj:=gs os[i+1] (List.getElem_mem _)
  have hlen:(rkI os[i]).length=(rkI os[i+1]).length:=by
   unfold rkI; rw [List.length_append,List.length_append,gi.len,gj.len]; rfl
  have lt:=less_ok (rkI os[i]) (rkI os[i+1]) hlen (by unfold rkI; rw [List.length_append,gi.len]; simp; omega)
  have tr:lexI (rkI os[i]) (rkI os[i+1])=true:=List.pairwise_iff_getElem.mp pw i (i+1) (by omega) (by omega) (by omega)
  rw [tr] at lt
  have ci:(((i:Nat):Int)+1)=((i+1:Nat):Int):=by omega
  rw [← ci] at e2
  have s1:PyD.strip (iL (rkI os[i]))=iL (rkI os[i]):=rfl
  have s2:PyD.strip (iL (rkI os[i+1]))=iL (rkI os[i+1]):=rfl
  refine ⟨[some (.val (.int (n:Nat))),some (.val (cL ts)),some (.val (.tup (os.map tD))),some (.own none (cL (dueL n ts))),some (.own none (.lst (os.map fun t=>iL (rkI t)))),none,some (.val (.int (i:Nat)))],by simp,?_,by simp,fun h=>by cases h⟩
  generalize iL (rkI os[i])=R1 at *
  generalize iL (rkI os[i+1])=R2 at *
  generalize D.lst (os.map fun t=>iL (rkI t))=Rs at *
  generalize cL (dueL n ts)=Du at *
  generalize cL ts=C at *
  generalize D.tup (os.map tD)=Tp at *
  generalize ((n:Nat):Int)=ni at *
  generalize ((i:Nat):Int)=ii at *
  simp -implicitDefEqProofs [e1,e2,s1,s2,lt]) (by have:=szK; rw [List.length_range,List.length_nil]; omega)
 have f00:((List.range k).filter fun _=>false)=[]:=List.filter_eq_nil_iff.mpr fun _ _=>by simp
 rw [List.nil_append,← rng_nat,f00,List.map_nil] at lc3
 have len1:=tup_len os
 have len2:=cl_len (dueL n ts)
 rw [dl,hk] at len2
 rw [hk] at len1
 have len3:(orC lenD (lenOD LN_Form)) [.lst (os.map fun t=>iL (rkI t))]=some (.val (.int ((k+1:Nat):Int))):=by
  have:lenD [.lst (os.map fun t=>iL (rkI t))]=some (.val (.int ((k+1:Nat):Int))):=by
   rw [← hk]; simp
  unfold orC; rw [this]
 have ne1:(orF neD (eqOD true (eqO T EQ_Form))) (.int ((k+1:Nat):Int)) (.int ((k+1:Nat):Int))=some (.val (.bl false)):=by rw [ne_int]; simp
 have ne2:=ne_nil [] (by simp)
 have eq2:=eq_nil [] (by simp)
 have sb:subD (.int ((k+1:Nat):Int)) (.int 1)=some (.val (.int (k:Nat))):=by
  have:((k+1:Nat):Int)-1=(k:Nat):=by omega
  simp
 have sc:=cl_strip ts
 have r1:-4611686018427387904≤((k:Nat):Int):=by omega
 have r2:((k:Nat):Int)<4611686018427387904:=by omega
 have rn:(((k:Nat):Int)).toNat=k:=by omega
 have en:([]:List D).isEmpty=true:=rfl
 rw [en] at ne2 eq2
 generalize hRs:D.lst (os.map fun t=>iL (rkI t))=Rs at *
 generalize os.map (fun t=>iL (rkI t))=Rl at *
 generalize cL (dueL n ts)=Du at *
 generalize cL ts=C at *
 generalize D.tup (os.map tD)=Tp at *
 generalize os.map tD=To at *
 generalize ((n:Nat):Int)=ni at *
 generalize ((k+1:Nat):Int)=k1 at *
 generalize hG:rangeD 0 k=G at *
 generalize ((k:Nat):Int)=ki at *
 simp -implicitDefEqProofs [-x_orF,-x_orC,f__law_terms_right,x_mkFn,b__law_terms_right,List.replicate,du,sc,ito,lc1,lc2,lc3,hRs,len1,len2,len3,ne1,ne2,eq2,sb,r1,r2,rn,hG]
theorem callR_nil (f:Fn)(a b:Res)(ρ:Rho):callR [] f [a,b] ρ=callR [false,false] f [a,b] ρ:=by
 have e:prep1 [] [a,b] ρ=prep1 [false,false] [a,b] ρ:=by
  have e2:∀ ρ,prep1 [] [b] ρ=prep1 [false] [b] ρ:=fun ρ=>by cases b <;> simp [prep1]
  cases a <;> simp [prep1]
 unfold callR
 rw [e]
theorem co_ok (n:Nat)(ts:List Tm)(a b:Res)(ρ:Rho):coCall CA_Form 2 (some (FO n ts)) a [b] ρ=callR [false,false] f_Form___call__ [a,b] ρ:=by
 rw [← callR_nil]
 rfl
theorem isob (n:Nat)(ts:List Tm):isObj (some (FO n ts))=true:=rfl
theorem ad_disp (n:Nat)(A B:List Tm)(a b:Res)(ρ:Rho):opDisp AD_Form (some (FO n A)) (some (FO n B)) a b ρ=callR [false,false] f_Form___add__ [a,b] ρ:=rfl
theorem or_disp (n:Nat)(A B:List Tm)(a b:Res)(ρ:Rho):opDisp OR_Form (some (FO n A)) (some (FO n B)) a b ρ=callR [false,false] f_Form___or__ [a,b] ρ:=rfl
theorem cv_len (F:D)(N:Int)(ln:f_Form___len__ [.v F]=.ret (.val (.int N)) []):callV f_Form___len__ [F]=some (.int N):=by
 unfold callV
 rw [show [F].map Arg.v=[.v F] from rfl,ln]
theorem lo_len (fs:List (Str×D))(N:Int)(n0:0≤N)(n2:N<9223372036854775808)(cv:callV f_Form___len__ [.obj C_Form fs]=some (.int N)):lenO LN_Form (.obj C_Form fs)=some N:=by
 have lk:LN_Form C_Form=some f_Form___len__:=rfl
 unfold lenO
 simp only [lk,cv]
 rw [if_pos]
 refine ⟨n0,?_⟩
 have:(2:Int) ^ 63=9223372036854775808:=by decide +kernel
 rw [this]; exact n2
theorem or_len (F:D)(N:Int)(e0:lenD [F]=none)(e1:notO F=true)(e2:lenO LN_Form F=some N):(orC lenD (lenOD LN_Form)) [F]=some (.val (.int N)):=by
 unfold orC lenOD
 rw [e0]
 simp only [e1,if_true,e2,Option.map_some]
theorem len_fo (n:Nat)(ts:List Tm)(hl:ts.length≤100):(orC lenD (lenOD LN_Form)) [FO n ts]=some (.val (.int (ts.length:Nat))) :=
 or_len _ _ rfl rfl (lo_len _ _ (by omega) (by omega) (cv_len _ _ (form_len n ts)))
theorem ne_two (a b:Int):(orF neD (eqOD true (eqO T EQ_Form))) (.lst [.int a,.int b]) (.lst [.int a,.int b])=some (.val (.bl false)):=by
 have:neD (.lst [.int a,.int b]) (.lst [.int a,.int b])=some (.val (.bl false)):=neD_t (by simp)
 unfold orF; rw [this]
def OV (d:D)(s:PyD.Slot):Prop:=s=.own none d∨s=.val d
section
variable {n:Nat}(h1:1≤n)(n4:n≤4){A B:List Tm}(lA:A.length≤4)(lB:B.length≤4)(gA:∀ t∈A,Gd n 5 t)(gB:∀ t∈B,Gd n 5 t)
include h1 n4 lA lB gA gB
theorem l1_step (x0 x1 x4 x11 x12 x13:Option PyD.Slot)(q:Pl)(s6 s9 s10:PyD.Slot)(h6:OV (cL B) s6)(h9:OV (FO n (ordr (zT n::sums (ordr (zT n::A)) (ordr (zT n::B))))) s9)(h10:OV (FO n (ordr (zT n::(ordr (zT n::A)++ordr (zT n::B))))) s10):∃ q' y11 y12 y13,
  b_law_L1 [x0,x1,some (.own none (poolD q)),some (.val (.int (n:Nat))),x4,some (.val (cL A)),some s6,some (.val (FO n (ordr (zT n::A)))),some (.val (FO n (ordr (zT n::B)))),some s9,some s10,x11,x12,x13] =
   .nx [x0,x1,some (.own none (poolD q')),some (.val (.int (n:Nat))),x4,some (.val (cL A)),some (.val (cL B)),some (.val (FO n (ordr (zT n::A)))),some (.val (FO n (ordr (zT n::B)))),some (.val (FO n (ordr (zT n::sums (ordr (zT n::A)) (ordr (zT n::B)))))),some (.val (FO n (ordr (zT n::(ordr (zT n::A)++ordr (zT n::B)))))),y11,y12,y13]:=by
 obtain ⟨L,q',hL,L0,dr⟩:=limits_dr n n4 q
 have gz:∀ C:List Tm,(∀ t∈C,Gd n 5 t)→∀ t∈zT n::C,Gd n 5 t:=fun C g t ht=>by
  rcases List.mem_cons.mp ht with rfl | h
  ·exact gd_z n (by decide)
  ·exact g t h
 have go:∀ C:List Tm,(∀ t∈C,Gd n 5 t)→∀ t∈ordr (zT n::C),Gd n 5 t:=fun C g t ht=>gz C g t (ordr_mem ht)
 have wA:=lworth_ok n4 (by decide:(5:Int)≤1000) hL gA
 have wB:=lworth_ok n4 (by decide:(5:Int)≤1000) hL gB
 have mA:=(ordr_mx (gz A gA) L0).mpr (lwt_mx n L A)
 have mB:=(ordr_mx (gz B gB) L0).mpr (lwt_mx n L B)
 have a0:0≤lwt L A:=(lwt_go L A 0).2.1
 have b0:0≤lwt L B:=(lwt_go L B 0).2.1
 have olA:=ordr_len (zT n::A)
 have olB:=ordr_len (zT n::B)
 rw [List.length_cons] at olA olB
 have gs:=sums_gd (go A gA) (go B gB)
 have gS:∀ t∈zT n::sums (ordr (zT n::A)) (ordr (zT n::B)),Gd n 10 t:=fun t ht=>by
  rcases List.mem_cons.mp ht with rfl | h
  ·exact gd_z n (by decide)
  ·exact gs t h
 have mS:=(ordr_mx gS L0).mpr (sums_mx (go A gA) (go B gB) mA mB a0 b0)
 have gO:∀ t∈zT n::(ordr (zT n::A)++ordr (zT n::B)),Gd n 5 t:=fun t ht=>by
  rcases List.mem_cons.mp ht with rfl | h
  ·exact gd_z n (by decide)
  ·rcases List.mem_append.mp h with h | h
   ·exact go A gA t h
   ·exact go B gB t h
 have mO:=(ordr_mx gO L0).mpr (app_mx (n:=n) mA mB a0 b0)
 have sl:=ordr_len (zT n::sums (ordr (zT n::A)) (ordr (zT n::B)))
 rw [List.length_cons,sums_len] at sl
 have sle:(ordr (zT n::A)).length * (ordr (zT n::B)).length≤5 * 5:=Nat.mul_le_mul (by omega) (by omega)
 have ol:=ordr_len (zT n::(ordr (zT n::A)++ordr (zT n::B)))
 rw [List.length_cons,List.length_append] at ol
 have cA:=call_ok n4 (by decide) (go A gA) (by omega) (nm_l L) hL L0 mA
 have cB:=call_ok n4 (by decide) (go B gB) (by omega) (nm_t L) hL L0 mB
 have cS:=call_ok n4 (by decide) (fun t ht=>gS t (ordr_mem ht)) (by omega) (nm_l L) hL L0 mS
 have cO:=call_ok n4 (by decide) (fun t ht=>gO t (ordr_mem ht)) (by omega) (nm_l L) hL L0 mO
 have tp:tupleD [.lst (L.map D.int)]=some (.val (iT L)):=rfl
 have sL:PyD.strip (.lst (L.map D.int))=.lst (L.map D.int):=rfl
 have sT:=it_strip L
 have scA:=cl_strip A
 have scB:=cl_strip B
 have f1:=fo_strip n (ordr (zT n::A))
 have f2:=fo_strip n (ordr (zT n::B))
 have f3:=fo_strip n (ordr (zT n::sums (ordr (zT n::A)) (ordr (zT n::B))))
 have f4:=fo_strip n (ordr (zT n::(ordr (zT n::A)++ordr (zT n::B))))
 have i1:=isob n (ordr (zT n::A))
 have i2:=isob n (ordr (zT n::B))
 have i3:=isob n (ordr (zT n::sums (ordr (zT n::A)) (ordr (zT n::B))))
 have i4:=isob n (ordr (zT n::(ordr (zT n::A)++ordr (zT n::B))))
 have c1:=co_ok n (ordr (zT n::A))
 have c2:=co_ok n (ordr (zT n::B))
 have c3:=co_ok n (ordr (zT n::sums (ordr (zT n::A)) (ordr (zT n::B))))
 have c4:=co_ok n (ordr (zT n::(ordr (zT n::A)++ordr (zT n::B))))
 have n2:=ne_two (lwt L A) (lwt L B)
 have n1:∀ z:Int,(orF neD (eqOD true (eqO T EQ_Form))) (.int z) (.int z)=some (.val (.bl false)):=fun z=>by rw [ne_int]; simp
 refine ⟨q',some (.val (.lst (L.map .int))),some (.val (.int (lwt L A))),some (.val (.int (lwt L B))),?_⟩
 generalize FO n (ordr (zT n::sums (ordr (zT n::A)) (ordr (zT n::B))))=FS at *
 generalize FO n (ordr (zT n::(ordr (zT n::A)++ordr (zT n::B))))=FP at *
 generalize FO n (ordr (zT n::A))=FA at *
 generalize FO n (ordr (zT n::B))=FB at *
 generalize lwt L A=wa at *
 generalize lwt L B=wb at *
 generalize cL A=CA at *
 generalize cL B=CB at *
 generalize iT L=TL1 at *
 generalize D.lst (L.map .int)=LL at *
 generalize ((n:Nat):Int)=ni at *
 rcases h6 with rfl | rfl <;> rcases h9 with rfl | rfl <;> rcases h10 with rfl | rfl <;> simp -implicitDefEqProofs [-x_orF,b_law_L1,dr,wA,wB,cA,cB,cS,cO,tp,sL,sT,scA,scB,f1,f2,f3,f4,i1,i2,i3,i4,c1,c2,c3,c4,n2,n1]
theorem l1_for (x0 x1:Option PyD.Slot):∀ (ds:List D) (q:Pl) (x4 x11 x12 x13:Option PyD.Slot) (s6 s9 s10:PyD.Slot),OV (cL B) s6→OV (FO n (ordr (zT n::sums (ordr (zT n::A)) (ordr (zT n::B))))) s9→OV (FO n (ordr (zT n::(ordr (zT n::A)++ordr (zT n::B))))) s10→∃ t',t'.length=13 ∧
  forD (gN 4) b_law_L1 ds [x0,x1,some (.own none (poolD q)),some (.val (.int (n:Nat))),x4,some (.val (cL A)),some s6,some (.val (FO n (ordr (zT n::A)))),some (.val (FO n (ordr (zT n::B)))),some s9,some s10,x11,x12,x13]=.nx (x0::t')
 | [],q,x4,x11,x12,x13,s6,s9,s10,_,_,_=>⟨_,rfl,rfl⟩
 | d::ds,q,x4,x11,x12,x13,s6,s9,s10,h6,h9,h10=>by
  obtain ⟨q',y11,y12,y13,st⟩:=l1_step h1 n4 lA lB gA gB x0 x1 (some (.val d)) x11 x12 x13 q s6 s9 s10 h6 h9 h10
  obtain ⟨t',l,ih⟩:=l1_for x0 x1 ds q' (some (.val d)) y11 y12 y13 _ _ _ (.inr rfl) (.inr rfl) (.inr rfl)
  exact ⟨t',l,for_step rfl st ih⟩
end
theorem turn (ns:List Int)(k:Int)(r:Rho)(hk:0≤k)(hk2:k≤100)(hl:(some (PyD.Slot.val (.int k))::r).length=13):∃ t',b_law_L2 (some (.val (.scr ns))::some (.val (.int k))::r)=.nx (some (.val (.scr ns))::t')∧t'.length=13:=by
 obtain ⟨x2,x3,x4,x5,x6,x7,x8,x9,x10,x11,x12,x13,rfl⟩:∃ x2 x3 x4 x5 x6 x7 x8 x9 x10 x11 x12 x13,r=[x2,x3,x4,x5,x6,x7,x8,x9,x10,x11,x12,x13]:=by
  have:r.length=12:=by simpa using hl
  match r,this with
  | [a,b,c,d,e,f,g,h,i,j,k,l],_=>exact ⟨a,b,c,d,e,f,g,h,i,j,k,l,rfl⟩
 obtain ⟨p,hp⟩:=pool ns k hk hk2
 obtain ⟨m,q0,m0,m1,e0⟩:=drawE p 4 (by decide) (by decide)
 obtain ⟨m,rfl⟩:=Int.eq_ofNat_of_zero_le m0
 have h1:1≤m+1:=by omega
 have n4:m+1≤4:=by omega
 have ad:addD (.int 1) (.int ((m:Nat):Int))=some (.val (.int ((m+1:Nat):Int))):=by
  have:(1:Int)+(m:Nat)=((m+1:Nat):Int):=by omega
  simp [this]
 obtain ⟨A,q1,lA,gA,eA⟩:=terms_dr (m+1) n4 q0
 obtain ⟨B,q2,lB,gB,eB⟩:=terms_dr (m+1) n4 q1
 have go:∀ C:List Tm,(∀ t∈C,Gd (m+1) 5 t)→∀ t∈ordr (zT (m+1)::C),Gd (m+1) 5 t:=fun C g t ht=>by
  rcases List.mem_cons.mp (ordr_mem ht) with rfl | h
  ·exact gd_z _ (by decide)
  ·exact g t h
 have fA:=form_init h1 n4 (by decide:(0:Int)≤5) gA (by omega) (tm_l A)
 have fB:=form_init h1 n4 (by decide:(0:Int)≤5) gB (by omega) (tm_t B)
 have rt:=right_ok h1 n4 (by decide:(0:Int)≤5) gA (by omega)
 have olA:=ordr_len (zT (m+1)::A)
 have olB:=ordr_len (zT (m+1)::B)
 rw [List.length_cons] at olA olB
 have sle:(ordr (zT (m+1)::A)).length * (ordr (zT (m+1)::B)).length≤5 * 5:=Nat.mul_le_mul (by omega) (by omega)
 have ao:=add_ok h1 n4 (by decide:(0:Int)≤5) (go A gA) (go B gB) (by omega)
 have oo:=or_ok h1 n4 (by decide:(0:Int)≤5) (go A gA) (go B gB) (by omega)
 obtain ⟨t',tl,lp⟩:=l1_for h1 n4 lA lB gA gB (some (.val (.scr ns))) (some (.val (.int k))) (rangeD 0 12) q2 x4 x11 x12 x13 _ _ _ (.inl rfl) (.inl rfl) (.inl rfl)
 refine ⟨t',?_,tl⟩
 have scA:=cl_strip A
 have scB:=cl_strip B
 have tB:tupleD [cL B]=some (.val (.tup (B.map tD))):=rfl
 have sB:PyD.strip (.tup (B.map tD))=.tup (B.map tD):=rfl
 have f1:=fo_strip (m+1) (ordr (zT (m+1)::A))
 have f2:=fo_strip (m+1) (ordr (zT (m+1)::B))
 have z1:=fo_size (m+1) (ordr (zT (m+1)::A))
 have t1:=fo_terms (m+1) (ordr (zT (m+1)::A))
 have s1:PyD.strip (.tup ((ordr (zT (m+1)::A)).map tD))=.tup ((ordr (zT (m+1)::A)).map tD):=rfl
 have l1:=len_fo (m+1) (ordr (zT (m+1)::A)) (by omega)
 have l2:=tup_len (ordr (zT (m+1)::A))
 have n1:∀ z:Int,(orF neD (eqOD true (eqO T EQ_Form))) (.int z) (.int z)=some (.val (.bl false)):=fun z=>by rw [ne_int]; simp
 have d1:=ad_disp (m+1) (ordr (zT (m+1)::A)) (ordr (zT (m+1)::B))
 have d2:=or_disp (m+1) (ordr (zT (m+1)::A)) (ordr (zT (m+1)::B))
 generalize FO (m+1) (ordr (zT (m+1)::sums (ordr (zT (m+1)::A)) (ordr (zT (m+1)::B))))=FS at *
 generalize FO (m+1) (ordr (zT (m+1)::(ordr (zT (m+1)::A)++ordr (zT (m+1)::B))))=FP at *
 generalize FO (m+1) (ordr (zT (m+1)::A))=FA at *
 generalize FO (m+1) (ordr (zT (m+1)::B))=FB at *
 generalize D.tup ((ordr (zT (m+1)::A)).map tD)=TA at *
 generalize D.tup (B.map tD)=TB at *
 generalize cL A=CA at *
 generalize cL B=CB at *
 generalize (((ordr (zT (m+1)::A)).length:Nat):Int)=la at *
 generalize ((m+1:Nat):Int)=ni at *
 generalize ((m:Nat):Int)=mi at *
 generalize hG:rangeD 0 12=G at *
 have e12:(12:Int).toNat=12:=rfl
 simp -implicitDefEqProofs [-x_orF,-x_orC,b_law_L2,b_law_t1,b_law_t2,b_law_t3,b_law_t4,b_law_t5,b_law_t6,hp,e0,ad,eA,eB,scA,scB,fA,tB,sB,fB,f1,f2,z1,t1,s1,rt,l1,l2,n1,d1,d2,ao,oo,e12,hG,lp]
theorem law_ok (ns:List Int)(_:ns.length≤63):f_law [.v (.scr ns)]=.ret (.val (.bl true)) []:=by
 obtain ⟨m,hm⟩:∃ m:Int,(if (if 4<(ns.length:Int) then 4 else (ns.length:Int))>1 then (if 4<(ns.length:Int) then 4 else (ns.length:Int)) else 1)=m:=⟨_,rfl⟩
 have hb:1≤m∧m≤4:=by rw [← hm]; split <;> split <;> omega
 have r1:-4611686018427387904≤m:=by omega
 have r2:m<4611686018427387904:=by omega
 obtain ⟨t',l,e⟩:=loopG b_law_L2 13 ns (turn ns) (rangeD 0 m.toNat) (fun d hd=>by
  simp only [rangeD,List.mem_map,List.mem_range] at hd
  obtain ⟨i,hi,rfl⟩:=hd
  exact ⟨_,rfl,by omega,by omega⟩) (List.replicate 13 none) rfl (by decide)
 have hx:(if 1<(if 4<(ns.length:Int) then 4 else (ns.length:Int)) then (if 4<(ns.length:Int) then 4 else (ns.length:Int)) else 1)=m:=hm
 have e:forD (gN 1) b_law_L2 (rangeD 0 m.toNat) [some (.val (.scr ns)),none,none,none,none,none,none,none,none,none,none,none,none,none]=.nx (some (.val (.scr ns))::t'):=e
 simp [f_law,x_mkFn,b_law,List.replicate,hx,r1,r2,e]
end Lw
open PySem PySem.W PyProof.Rows
theorem PySem.Challenge.cw_cutofftills_k49_whole_forms_told_holds : PySem.Challenge.rw_cutofftills_k49_whole_forms_told.Holds :=
 Lw.end_ Lw.law_ok
